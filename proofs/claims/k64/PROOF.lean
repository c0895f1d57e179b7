import PyProof.Rows.All
import Wide.All
import OpenK.AllK
import Wide.FinOn
import HandS.ForMost
import KE.KDictKeyed
import HandS.Wide
import HandS.WideBits
import HandS.TupAny
import HandS.Deep
import HandS.SortRule
import HandS.SortInts
import HandS.IsInst
import HandS.FStr
import HandS.More
import HandS.Conv
import HandS.Strs
import HandS.Property
import HandS.ClsMeth
import HandS.Defaults
import KE.KStateDown
import HandS.Head0
import HandS.Head1
import HandS.Head2
import HandS.HeadEnd
import HandS.HeadHook1
import HandS.HeadHook2
import HandS.HeadHook3
import HandS.Text
import HandS.Zip
import HandS.RaiseMore
import HandS.TupMul
import HandS.SlotsOwn
import KE.KUnpack
import KE.KRevSl
import HandS.Star
import PyProof.DictRoadsH
import Imp.DerivedA
import PySem.Challenge.RW_lastbytes_k64_sure_rows_by_hand
import HandS.MakeKwOnly
import KE.KStar
import PyProof.DictUpdate
import HandS.Style
import HandS.Flow
import PyProof.Rows.TupMore
import KE.KDictDisplayH
import KE.KDictCopyH
import KE.KDictList
import KE.KDictWalk
import HandS.DictComp
import PyProof.Rows.SortKeyStr
import PyProof.Rows.SortStr
set_option Elab.async false
set_option linter.all false
set_option autoImplicit false
set_option maxRecDepth 100000
set_option maxHeartbeats 4000000
namespace L3
open PySem L2
abbrev St := L2.St
/-- what a datum's form leans on: the known part of the heap, the world (a key's hash) -/
structure KW where
  fr : PySem.W.Frag
  w : World
instance : Coe KW PySem.W.Frag := ⟨KW.fr⟩
abbrev _root_.L2.Cx.kw (X : L2.Cx) : KW := ⟨X.K, X.w⟩
/-- immutable data as the mirrors see it -/
inductive D where
  | non | bl (b : Bool) | int (i : Int) | str (x : Str)
  | tup (l : List D) | lst (l : List D) | ktp (l : List D)
  | dk (l : List (Key × D))
  /-- a dict whose keys are nested tuples -/
  | dd (l : List (D × D))
  | ins (C : Addr) (fs : List (Str × D))
  | cls (a : Addr)
  | bty (n : String)
  | scr (ns : List Int)
  /-- within an own thing: a thing that may be changed itself -/
  | box (d : D)
  deriving Inhabited
mutual
/-- data as a key -/
def nkD : D → Option NestedKey
  | .non => some .none
  | .bl b => some (.num (if b then 1 else 0))
  | .int i => some (.num i)
  | .str x => some (.text x)
  | .tup l => (nkDs l).map NestedKey.tup
  | .ktp l => (nkDs l).map NestedKey.tup
  | _ => none
def nkDs : List D → Option (List NestedKey)
  | [] => some []
  | d :: r => (nkD d).bind fun k => (nkDs r).bind fun ks => some (k :: ks)
end
/-- the same, of a key that a dict can have: a tuple, not too deep -/
def nkT (d : D) : Option NestedKey := match nkD d with
  | some (.tup l) => if (NestedKey.tup l).depth ≤ 8 then some (.tup l) else none
  | _ => none
/-- an entry: the key, where its tuple stands, the value -/
abbrev DEn := NestedKey × Addr × V
def entN (w : World) (x : NestedKey × Addr × Value) : DictEntry := ⟨x.1.hash w, .ref x.2.1, x.2.2⟩
/-- the dict object o holds the entries es -/
def DObj (w : World) (o : Obj) (es : List DEn) : Prop := es.length ≤ sizeLine ∧ ∃ xs : List (NestedKey × Addr × Value), Paired (fun (p : DEn) (q : NestedKey × Addr × Value) => p.1 = q.1 ∧ p.2.1 = q.2.1 ∧ RelV p.2.2 q.2.2) es xs ∧
  o.ExactDict ∧ ∃ (en : Array DictEntry) (ep : Nat), o.data = .dict en ep ∧ en.toList = xs.map (entN w) ∧ (xs.map (·.1)).Nodup
/-- at a stands just o -/
def exA (a : Addr) (o : Obj) : HO := .ext fun h => h.get? a = some o
mutual
inductive Rep (K : KW) (F : Hp) : V → D → Prop
  | non : Rep K F .non .non
  | bl {b : Bool} : Rep K F (.bl b) (.bl b)
  | int {i : Int} : Rep K F (.int i) (.int i)
  | str {x : Str} : Rep K F (.str x) (.str x)
  | tup {p : Addr} {vs : List V} {ds : List D} : F p = some (.tup vs) → Reps K F vs ds → Rep K F (.ref p) (.tup ds)
  | ktp {p : Addr} {vs : List V} {ds : List D} : SqT K F p vs → Reps K F vs ds → Rep K F (.ref p) (.ktp ds)
  | lst {p : Addr} {vs : List V} {ds : List D} : F p = some (.lst vs) → Reps K F vs ds → Rep K F (.ref p) (.lst ds)
  | ins {p C dx : Addr} {fs : List (Str × V)} {gs : List (Str × D)} : F p = some (.ins C dx fs) → RepF K F fs gs → Rep K F (.ref p) (.ins C gs)
  | dk {p : Addr} {vs : List (Key × V)} {ds : List (Key × D)} : F p = some (.dK vs) → RepK K F vs ds → Rep K F (.ref p) (.dk ds)
  | dd {p a : Addr} {o : Obj} {es : List DEn} {ds : List (D × D)} : (a == sysModules) = false → F p = some (exA a o) → DObj K.w o es → RepE K F es ds → Rep K F (.ref p) (.dd ds)
  | cls {a : Addr} : Rep K F (.ref a) (.cls a)
  | bty {n : String} : Rep K F (.ty n) (.bty n)
  | scr {a : Addr} {ns : List Int} : SqL K F a (ns.map V.int) → Rep K F (.ref a) (.scr ns)
inductive Reps (K : KW) (F : Hp) : List V → List D → Prop
  | nil : Reps K F [] []
  | cons {v : V} {vs : List V} {d : D} {ds : List D} : Rep K F v d → Reps K F vs ds → Reps K F (v :: vs) (d :: ds)
inductive RepF (K : KW) (F : Hp) : List (Str × V) → List (Str × D) → Prop
  | nil : RepF K F [] []
  | cons {n : Str} {v : V} {vs : List (Str × V)} {d : D} {ds : List (Str × D)} : Rep K F v d → RepF K F vs ds → RepF K F ((n, v) :: vs) ((n, d) :: ds)
inductive RepK (K : KW) (F : Hp) : List (Key × V) → List (Key × D) → Prop
  | nil : RepK K F [] []
  | cons {n : Key} {v : V} {vs : List (Key × V)} {d : D} {ds : List (Key × D)} : Rep K F v d → RepK K F vs ds → RepK K F ((n, v) :: vs) ((n, d) :: ds)
inductive RepE (K : KW) (F : Hp) : List DEn → List (D × D) → Prop
  | nil : RepE K F [] []
  | cons {n : NestedKey} {b : Addr} {v : V} {vs : List DEn} {k d : D} {ds : List (D × D)} : nkT k = some n → Rep K F (.ref b) k → Rep K F v d → RepE K F vs ds → RepE K F ((n, b, v) :: vs) ((k, d) :: ds)
end
theorem Same.sqt {K : KW} {H H' : Hp} {a : Addr} {xs : List V} (e : Same H H') (h : SqT K H a xs) : SqT K H' a xs := by
  rcases h with (h | ⟨o, h⟩) | h
  · exact .inl (.inl (e _ _ h))
  · exact .inl (.inr ⟨o, e _ _ h⟩)
  · exact .inr h
mutual
theorem Rep.mono {K : KW} {F F' : Hp} (s : Same F F') : ∀ {v : V} {d : D}, Rep K F v d → Rep K F' v d
  | _, _, .non => .non
  | _, _, .bl => .bl
  | _, _, .int => .int
  | _, _, .str => .str
  | _, _, .tup h r => .tup (s _ _ h) (Reps.mono s r)
  | _, _, .ktp h r => .ktp (Same.sqt s h) (Reps.mono s r)
  | _, _, .lst h r => .lst (s _ _ h) (Reps.mono s r)
  | _, _, .ins h r => .ins (s _ _ h) (RepF.mono s r)
  | _, _, .dk h r => .dk (s _ _ h) (RepK.mono s r)
  | _, _, .dd m h o r => .dd m (s _ _ h) o (RepE.mono s r)
  | _, _, .cls => .cls
  | _, _, .bty => .bty
  | _, _, .scr h => .scr (s.seq h)
theorem Reps.mono {K : KW} {F F' : Hp} (s : Same F F') : ∀ {vs : List V} {ds : List D}, Reps K F vs ds → Reps K F' vs ds
  | _, _, .nil => .nil
  | _, _, .cons h r => .cons (Rep.mono s h) (Reps.mono s r)
theorem RepF.mono {K : KW} {F F' : Hp} (s : Same F F') : ∀ {vs : List (Str × V)} {ds : List (Str × D)}, RepF K F vs ds → RepF K F' vs ds
  | _, _, .nil => .nil
  | _, _, .cons h r => .cons (Rep.mono s h) (RepF.mono s r)
theorem RepK.mono {K : KW} {F F' : Hp} (s : Same F F') : ∀ {vs : List (Key × V)} {ds : List (Key × D)}, RepK K F vs ds → RepK K F' vs ds
  | _, _, .nil => .nil
  | _, _, .cons h r => .cons (Rep.mono s h) (RepK.mono s r)
theorem RepE.mono {K : KW} {F F' : Hp} (s : Same F F') : ∀ {vs : List DEn} {ds : List (D × D)}, RepE K F vs ds → RepE K F' vs ds
  | _, _, .nil => .nil
  | _, _, .cons e k h r => .cons e (Rep.mono s k) (Rep.mono s h) (RepE.mono s r)
end
/-- an object that may be changed: a list, a dict -/
inductive ORep (K : KW) (F : Hp) : HO → D → Prop
  | lst {vs : List V} {ds : List D} : Reps K F vs ds → ORep K F (.lst vs) (.lst ds)
  | dk {vs : List (Key × V)} {ds : List (Key × D)} : RepK K F vs ds → ORep K F (.dK vs) (.dk ds)
  | dd {a : Addr} {o : Obj} {es : List DEn} {ds : List (D × D)} : (a == sysModules) = false → DObj K.w o es → RepE K F es ds → ORep K F (exA a o) (.dd ds)
  | ins {C dx : Addr} {vs : List (Str × V)} {ds : List (Str × D)} : RepF K F vs ds → ORep K F (.ins C dx vs) (.ins C ds)
theorem ORep.mono {K : KW} {F F' : Hp} (s : Same F F') {o : HO} {d : D} (h : ORep K F o d) : ORep K F' o d := by
  cases h with
  | lst r => exact .lst (r.mono s)
  | dk r => exact .dk (r.mono s)
  | dd m o r => exact .dd m o (r.mono s)
  | ins r => exact .ins (r.mono s)
theorem Reps.length {K : KW} {F : Hp} : ∀ {vs : List V} {ds : List D}, Reps K F vs ds → vs.length = ds.length
  | _, _, .nil => rfl
  | _, _, .cons _ r => by simp [Reps.length r]
theorem Reps.get {K : KW} {F : Hp} : ∀ {vs : List V} {ds : List D} {i : Nat} {d : D}, Reps K F vs ds → ds[i]? = some d → ∃ v, vs[i]? = some v ∧ Rep K F v d
  | _, _, i, _, .nil, e => by simp at e
  | _, _, 0, _, .cons h _, e => by simp at e; subst e; exact ⟨_, rfl, h⟩
  | _, _, i + 1, d, .cons _ r, e => by
    obtain ⟨v, h1, h2⟩ := Reps.get (i := i) (d := d) r (by simpa using e)
    exact ⟨v, by simpa using h1, h2⟩
theorem Reps.set {K : KW} {F : Hp} {v : V} {d : D} (h : Rep K F v d) : ∀ {vs : List V} {ds : List D} (i : Nat), Reps K F vs ds → Reps K F (vs.set i v) (ds.set i d)
  | _, _, _, .nil => .nil
  | _, _, 0, .cons _ r => .cons h r
  | _, _, i + 1, .cons q r => .cons q (Reps.set h i r)
theorem Reps.take {K : KW} {F : Hp} : ∀ {vs : List V} {ds : List D} (n : Nat), Reps K F vs ds → Reps K F (vs.take n) (ds.take n)
  | _, _, 0, _ => by simp; exact .nil
  | _, _, _ + 1, .nil => .nil
  | _, _, n + 1, .cons h r => .cons h (Reps.take n r)
theorem Reps.drop {K : KW} {F : Hp} : ∀ {vs : List V} {ds : List D} (n : Nat), Reps K F vs ds → Reps K F (vs.drop n) (ds.drop n)
  | _, _, 0, r => r
  | _, _, _ + 1, .nil => .nil
  | _, _, n + 1, .cons _ r => Reps.drop n r
def isLst : HO → Bool
  | .lst _ => true
  | .dK _ => true
  | .ins _ _ _ => true
  | .ext _ => true
  | _ => false
/-- an entry of an own thing -/
inductive BRep (K : KW) (F H : Hp) : V → D → Prop
  | d {v : V} {d : D} : Rep K F v d → BRep K F H v d
  | box {l : Addr} {o : HO} {d : D} : F l = none → H l = some o → ORep K F o d → BRep K F H (.ref l) (.box d)
inductive BReps (K : KW) (F H : Hp) : List V → List D → Prop
  | nil : BReps K F H [] []
  | cons {v : V} {vs : List V} {d : D} {ds : List D} : BRep K F H v d → BReps K F H vs ds → BReps K F H (v :: vs) (d :: ds)
/-- an own thing with boxes -/
inductive TRep (K : KW) (F H : Hp) : HO → D → Prop
  | lst {vs : List V} {ds : List D} : BReps K F H vs ds → TRep K F H (.lst vs) (.lst ds)
  | ins {C dx : Addr} {vs : List (Str × V)} {ds : List (Str × D)} : vs.map (·.1) = ds.map (·.1) → BReps K F H (vs.map (·.2)) (ds.map (·.2)) → TRep K F H (.ins C dx vs) (.ins C ds)
/-- where the boxes lie -/
def bx1 : V → D → List Addr
  | .ref l, .box _ => [l]
  | _, _ => []
def bxs : List V → List D → List Addr
  | v :: vs, d :: ds => bx1 v d ++ bxs vs ds
  | _, _ => []
def bx : HO → D → List Addr
  | .lst vs, .lst ds => bxs vs ds
  | .ins _ _ vs, .ins _ ds => bxs (vs.map (·.2)) (ds.map (·.2))
  | _, _ => []
/-- as data -/
def ub1 : D → D
  | .box d => d
  | d => d
def ub : D → D
  | .lst ds => .lst (ds.map ub1)
  | .ins C gs => .ins C (gs.map fun p => (p.1, ub1 p.2))
  | d => d
section
variable {K : KW} {F H F' H' : Hp}
theorem Rep.nobox {v : V} {d : D} (h : Rep K F v d) : bx1 v d = [] := by cases h <;> rfl
theorem Reps.nobox : ∀ {vs : List V} {ds : List D}, Reps K F vs ds → bxs vs ds = []
  | _, _, .nil => rfl
  | _, _, .cons h r => by unfold bxs; rw [h.nobox, r.nobox]; rfl
theorem BRep.at_ {v : V} {d : D} (h : BRep K F H v d) : ∀ a ∈ bx1 v d, F a = none ∧ ∃ o, H a = some o ∧ isLst o = true := by
  cases h with
  | d r => rw [r.nobox]; intro a h; cases h
  | box h1 h2 h3 =>
    intro a ha
    rw [List.mem_singleton.mp ha]
    exact ⟨h1, _, h2, by cases h3 <;> rfl⟩
theorem BReps.at_ : ∀ {vs : List V} {ds : List D}, BReps K F H vs ds → ∀ a ∈ bxs vs ds, F a = none ∧ ∃ o, H a = some o ∧ isLst o = true
  | _, _, .nil, a, h => by cases h
  | _, _, .cons h r, a, m => by
    unfold bxs at m
    rcases List.mem_append.mp m with m | m
    · exact h.at_ a m
    · exact r.at_ a m
theorem TRep.at_ {o : HO} {d : D} (h : TRep K F H o d) : ∀ a ∈ bx o d, F a = none ∧ ∃ o, H a = some o ∧ isLst o = true := by
  cases h with
  | lst r => exact r.at_
  | ins e r => exact r.at_
theorem TRep.isLst {o : HO} {d : D} (h : TRep K F H o d) : L3.isLst o = true := by cases h <;> rfl
theorem BRep.move (s : Same F F') {v : V} {d : D} (h : BRep K F H v d) (k : ∀ a ∈ bx1 v d, F' a = none ∧ H' a = H a) : BRep K F' H' v d := by
  cases h with
  | d r => exact .d (r.mono s)
  | box h1 h2 h3 =>
    obtain ⟨k1, k2⟩ := k _ (List.mem_singleton.mpr rfl)
    exact .box k1 (by rw [k2]; exact h2) (h3.mono s)
theorem BReps.move (s : Same F F') : ∀ {vs : List V} {ds : List D}, BReps K F H vs ds → (∀ a ∈ bxs vs ds, F' a = none ∧ H' a = H a) → BReps K F' H' vs ds
  | _, _, .nil, _ => .nil
  | _, _, .cons h r, k => .cons (h.move s fun a m => k a (List.mem_append_left _ m)) (r.move s fun a m => k a (List.mem_append_right _ m))
theorem TRep.move (s : Same F F') {o : HO} {d : D} (h : TRep K F H o d) (k : ∀ a ∈ bx o d, F' a = none ∧ H' a = H a) : TRep K F' H' o d := by
  cases h with
  | lst r => exact .lst (r.move s k)
  | ins e r => exact .ins e (r.move s k)
theorem ORep.nobox {o : HO} {d : D} (h : ORep K F o d) : bx o d = [] := by
  cases h with
  | lst r => exact r.nobox
  | dk r => rfl
  | dd m o r => rfl
  | ins r =>
    show bxs _ _ = []
    have : ∀ {vs : List (Str × V)} {ds : List (Str × D)}, RepF K F vs ds → bxs (vs.map (·.2)) (ds.map (·.2)) = [] := by
      intro vs
      induction vs with
      | nil => intro ds r; cases r; rfl
      | cons a vs ih =>
        intro ds r
        cases r with
        | cons h r =>
          show bx1 _ _ ++ bxs _ _ = []
          rw [h.nobox, ih r]; rfl
    exact this r
end
/-- a slot: data; a thing that the def owns (t = some k: that of its k-th in-out parameter); one with boxes -/
inductive S where
  | d (x : D)
  | own (t : Option Nat) (x : D)
  | tre (t : Option Nat) (x : D)
abbrev Env := List (Option S)
/-- pl: the in-out things, each with its boxes -/
structure Gx where
  H0 : Hp
  F0 : Hp
  pl : List (Addr × List Addr)
  pin : Hp
def adL (pl : List (Addr × List Addr)) : List Addr := pl.flatMap fun p => p.1 :: p.2
def Gx.pa (g : Gx) : List Addr := adL g.pl
def tagOk (g : Gx) : Option Nat → Addr → Prop
  | none, l => g.H0 l = none
  | some k, l => ∃ bs, g.pl[k]? = some (l, bs)
/-- of a box -/
def tagX (g : Gx) : Option Nat → Addr → Prop
  | none, l => g.H0 l = none
  | some k, a => g.H0 a = none ∨ ∃ l bs, g.pl[k]? = some (l, bs) ∧ a ∈ bs
theorem adL_mem {pl : List (Addr × List Addr)} {k : Nat} {p : Addr × List Addr} {a : Addr} (h : pl[k]? = some p) (m : a ∈ p.1 :: p.2) : a ∈ adL pl := List.mem_flatMap.mpr ⟨p, List.mem_of_getElem? h, m⟩
theorem tagOk.x {g : Gx} {t : Option Nat} {l : Addr} (h : tagOk g t l) : g.H0 l = none ∨ l ∈ g.pa := by
  cases t with
  | none => exact .inl h
  | some k =>
    obtain ⟨bs, h⟩ := h
    exact .inr (adL_mem h List.mem_cons_self)
theorem tagX.x {g : Gx} {t : Option Nat} {l : Addr} (h : tagX g t l) : g.H0 l = none ∨ l ∈ g.pa := by
  cases t with
  | none => exact .inl h
  | some k =>
    rcases h with h | ⟨l, bs, h, m⟩
    · exact .inl h
    · exact .inr (adL_mem h (List.mem_cons_of_mem _ m))
theorem tagX.fresh {g : Gx} (t : Option Nat) {l : Addr} (h : g.H0 l = none) : tagX g t l := by
  cases t with
  | none => exact h
  | some k => exact .inl h
/-- the value v stands for the slot s -/
def SOk (K : KW) (g : Gx) (F H : Hp) (o : Option (Option V)) : S → Prop
  | .d x => ∃ v, o = some (some v) ∧ Rep K F v x
  | .own t xs => ∃ l vs, o = some (some (.ref l)) ∧ tagOk g t l ∧ F l = none ∧ H l = some vs ∧ ORep K F vs xs
  | .tre t xs => ∃ l vs, o = some (some (.ref l)) ∧ tagOk g t l ∧ F l = none ∧ H l = some vs ∧ TRep K F H vs xs ∧ (l :: bx vs xs).Nodup ∧ ∀ a ∈ bx vs xs, tagX g t a
/-- the thing at l belongs to slot i -/
def OwnAt (H : Hp) (σ : St) (ρ : Env) (i : Nat) (a : Addr) : Prop := ∃ l, σ[i]? = some (some (.ref l)) ∧ (((∃ t xs, ρ[i]? = some (some (.own t xs))) ∧ a = l) ∨ ∃ t xs o, ρ[i]? = some (some (.tre t xs)) ∧ H l = some o ∧ a ∈ l :: bx o xs)
/-- slots that are as they were -/
theorem OwnAt.to {H H' : Hp} {σ σ' : St} {ρ ρ' : Env} {i : Nat} {a : Addr} (h : OwnAt H σ ρ i a) (h1 : σ'[i]? = σ[i]?) (h2 : ρ'[i]? = ρ[i]?) (k : ∀ l t xs, σ[i]? = some (some (.ref l)) → ρ[i]? = some (some (.tre t xs)) → H' l = H l) : OwnAt H' σ' ρ' i a := by
  obtain ⟨l, e, ⟨⟨t, xs, r⟩, ea⟩ | ⟨t, xs, o, r, hl, m⟩⟩ := h
  · exact ⟨l, by rw [h1]; exact e, .inl ⟨⟨t, xs, by rw [h2]; exact r⟩, ea⟩⟩
  · exact ⟨l, by rw [h1]; exact e, .inr ⟨t, xs, o, by rw [h2]; exact r, by rw [k l t xs e r]; exact hl, m⟩⟩
theorem OwnAt.slot {H : Hp} {σ : St} {ρ : Env} {i : Nat} {a : Addr} (h : OwnAt H σ ρ i a) : ∃ s, ρ[i]? = some (some s) := by
  obtain ⟨l, e, ⟨⟨t, xs, r⟩, ea⟩ | ⟨t, xs, o, r, hl, m⟩⟩ := h
  · exact ⟨_, r⟩
  · exact ⟨_, r⟩
structure Gd (K : KW) (g : Gx) (F H : Hp) (σ : St) (ρ : Env) : Prop where
  len : σ.length = ρ.length
  slot : ∀ (i : Nat) (s : S), ρ[i]? = some (some s) → SOk K g F H σ[i]? s
  dist : ∀ (i j : Nat) (l : Addr), OwnAt H σ ρ i l → OwnAt H σ ρ j l → i = j
  sub : Same F H
  old : Same g.F0 F
  keep : ∀ b o, g.H0 b = some o → b ∉ g.pa → H b = some o
  grow : ∀ b, H b = none → g.H0 b = none
  new : ∀ b o, F b = some o → g.F0 b = some o ∨ g.H0 b = none
  pinned : ∀ b o, g.pin b = some o → H b = some o ∧ F b = none ∧ ∀ i, ¬ OwnAt H σ ρ i b
/-- only new things have come; they are frozen or free -/
structure Ext (F H F' H' : Hp) : Prop where
  hh : Same H H'
  ff : Same F F'
  sub : Same F' H'
  new : ∀ b o, F' b = some o → F b = some o ∨ H b = none
theorem Ext.refl {F H : Hp} (s : Same F H) : Ext F H F H := ⟨Same.refl _, Same.refl _, s, fun _ _ h => .inl h⟩
theorem Ext.trans {F H F1 H1 F2 H2 : Hp} (a : Ext F H F1 H1) (b : Ext F1 H1 F2 H2) : Ext F H F2 H2 :=
  ⟨a.hh.trans b.hh, a.ff.trans b.ff, b.sub, fun c o h => (b.new c o h).elim (a.new c o) fun q => .inr (a.hh.free q)⟩
/-- a new frozen object -/
theorem Ext.alloc {F H : Hp} (s : Same F H) {p : Addr} (hp : H p = none) (o : HO) : Ext F H (upd F p o) (upd H p o) := by
  have fp : F p = none := s.free hp
  refine ⟨fun b u e => ?_, fun b u e => ?_, fun b u e => ?_, fun b u e => ?_⟩
  · rw [upd_ne (ne_of_none e hp)]; exact e
  · rw [upd_ne (ne_of_none e fp)]; exact e
  · by_cases hb : b = p
    · subst hb; rw [upd_same] at e ⊢; exact e
    · rw [upd_ne hb] at e ⊢; exact s _ _ e
  · by_cases hb : b = p
    · subst hb; exact .inr hp
    · rw [upd_ne hb] at e; exact .inl e
/-- a new object that is owned (not frozen) -/
theorem Ext.lay {F H : Hp} (s : Same F H) {p : Addr} (hp : H p = none) (o : HO) : Ext F H F (upd H p o) :=
  ⟨fun b u e => by rw [upd_ne (ne_of_none e hp)]; exact e, Same.refl _, fun b u e => by rw [upd_ne (ne_of_none (s _ _ e) hp)]; exact s _ _ e, fun _ _ h => .inl h⟩
/-- what is not frozen, but there, is frozen by nothing new -/
theorem Ext.none {F H F' H' : Hp} (x : Ext F H F' H') {l : Addr} {o : HO} (fl : F l = none) (hl : H l = some o) : F' l = none := by
  cases q : F' l with
  | none => rfl
  | some u =>
    rcases x.new l u q with z | z
    · rw [fl] at z; cases z
    · rw [hl] at z; cases z
section
variable {K : KW} {g : Gx} {F H F' H' : Hp} {σ : St} {ρ : Env}
theorem SOk.ext {o : Option (Option V)} {s : S} (h : SOk K g F H o s) (x : Ext F H F' H') : SOk K g F' H' o s := by
  cases s with
  | d d =>
    obtain ⟨v, e, r⟩ := h
    exact ⟨v, e, r.mono x.ff⟩
  | own t xs =>
    obtain ⟨l, vs, e, tg, fl, hl, r⟩ := h
    exact ⟨l, vs, e, tg, x.none fl hl, x.hh _ _ hl, r.mono x.ff⟩
  | tre t xs =>
    obtain ⟨l, vs, e, tg, fl, hl, r, nd, tx⟩ := h
    refine ⟨l, vs, e, tg, x.none fl hl, x.hh _ _ hl, r.move x.ff fun a m => ?_, nd, tx⟩
    obtain ⟨fa, u, ha, _⟩ := r.at_ a m
    exact ⟨x.none fa ha, by rw [ha, x.hh _ _ ha]⟩
/-- what belongs to a slot -/
theorem Gd.own (G : Gd K g F H σ ρ) {i : Nat} {a : Addr} (h : OwnAt H σ ρ i a) : F a = none ∧ ∃ o, H a = some o ∧ isLst o = true ∧ (g.H0 a = none ∨ a ∈ g.pa) := by
  obtain ⟨l, e, ⟨⟨t, xs, r⟩, ea⟩ | ⟨t, xs, o, r, hl, m⟩⟩ := h
  · subst ea
    obtain ⟨k, vs, e1, tg, fl, hl, rr⟩ := G.slot i _ r
    rw [e] at e1
    cases e1
    exact ⟨fl, vs, hl, by cases rr <;> rfl, tg.x⟩
  · obtain ⟨k, vs, e1, tg, fl, hl', rr, nd, tx⟩ := G.slot i _ r
    rw [e] at e1
    cases e1
    rw [hl] at hl'
    cases hl'
    rcases List.mem_cons.mp m with rfl | m
    · exact ⟨fl, _, hl, rr.isLst, tg.x⟩
    · obtain ⟨fa, u, ha, hu⟩ := rr.at_ a m
      exact ⟨fa, u, ha, hu, (tx a m).x⟩
/-- the root of a tree slot is there -/
theorem Gd.root (G : Gd K g F H σ ρ) {i : Nat} {l : Addr} {t : Option Nat} {xs : D} (e : σ[i]? = some (some (.ref l))) (r : ρ[i]? = some (some (.tre t xs))) : ∃ o, H l = some o := by
  obtain ⟨k, vs, e1, tg, fl, hl', rr, nd, tx⟩ := G.slot i _ r
  rw [e] at e1
  cases e1
  exact ⟨_, hl'⟩
theorem Gd.ownExt (G : Gd K g F H σ ρ) (s : Same H H') {i : Nat} {a : Addr} (h : OwnAt H' σ ρ i a) : OwnAt H σ ρ i a := h.to rfl rfl fun l t xs e r => by
  obtain ⟨o, hl⟩ := G.root e r
  rw [hl, s _ _ hl]
theorem Gd.ext (G : Gd K g F H σ ρ) (x : Ext F H F' H') : Gd K g F' H' σ ρ where
  len := G.len
  slot := fun i s e => (G.slot i s e).ext x
  dist := fun i j l h1 h2 => G.dist i j l (G.ownExt x.hh h1) (G.ownExt x.hh h2)
  sub := x.sub
  old := G.old.trans x.ff
  keep := fun b o h n => x.hh _ _ (G.keep b o h n)
  grow := fun b h => G.grow b (x.hh.free h)
  new := fun b o h => (x.new b o h).elim (G.new b o) fun q => .inr (G.grow b q)
  pinned := fun b o h => by
    obtain ⟨h1, h2, h3⟩ := G.pinned b o h
    exact ⟨x.hh _ _ h1, x.none h2 h1, fun i q => h3 i (G.ownExt x.hh q)⟩
end
mutual
def lf : D → Bool
  | .lst _ => false
  | .dk _ => false
  | .dd _ => false
  | .tup l => lfs l
  | .ktp l => lfs l
  | .ins _ _ => false
  | .scr _ => false
  | .box _ => false
  | _ => true
def lfs : List D → Bool
  | [] => true
  | d :: r => lf d && lfs r
def lff : List (Str × D) → Bool
  | [] => true
  | (_, d) :: r => lf d && lff r
end
theorem SqT.keep {K : KW} {F F' : Hp} (k : ∀ p o, F p = some o → isLst o = false → F' p = some o) {p : Addr} {xs : List V} (h : SqT K F p xs) : SqT K F' p xs := by
  rcases h with (h | ⟨o, h⟩) | h
  · exact .inl (.inl (k _ _ h rfl))
  · exact .inl (.inr ⟨o, k _ _ h rfl⟩)
  · exact .inr h
theorem ORep.isLst {K : KW} {F : Hp} {o : HO} {d : D} (h : ORep K F o d) : L3.isLst o = true := by
  cases h <;> rfl
inductive Opd where
  | val (d : D)
  | ref (i : Nat)
  | io (i : Nat)
abbrev EM := Env → Option (D × Env)
abbrev OM := Env → Option (Opd × Env)
abbrev AM := Env → Option (List Opd × Env)
def OpdOk (K : KW) (F : Hp) (σ : St) (v : V) : Opd → Prop
  | .val d => Rep K F v d
  | .ref i => σ[i]? = some (some v)
  | .io i => σ[i]? = some (some v)
inductive OpdsOk (K : KW) (F : Hp) (σ : St) : List V → List Opd → Prop
  | nil : OpdsOk K F σ [] []
  | cons {v : V} {vs : List V} {o : Opd} {os : List Opd} : OpdOk K F σ v o → OpdsOk K F σ vs os → OpdsOk K F σ (v :: vs) (o :: os)
theorem OpdOk.mono {K : KW} {F F' : Hp} {σ : St} {v : V} {o : Opd} (s : Same F F') (h : OpdOk K F σ v o) : OpdOk K F' σ v o := by
  cases o with
  | val d => exact Rep.mono s h
  | ref i => exact h
  | io i => exact h
theorem OpdsOk.mono {K : KW} {F F' : Hp} {σ : St} (s : Same F F') : ∀ {vs : List V} {os : List Opd}, OpdsOk K F σ vs os → OpdsOk K F' σ vs os
  | _, _, .nil => .nil
  | _, _, .cons h r => .cons (h.mono s) (r.mono s)
/-- an operand's data now -/
def res (ρ : Env) : Opd → Option D
  | .val d => some d
  | .ref i => match ρ[i]? with
    | some (some (.own _ x)) => some x
    | some (some (.tre _ x)) => some (ub x)
    | _ => none
  | .io _ => none
def isVal : Opd → Bool
  | .val _ => true
  | _ => false
/-- what an operation on operands gives -/
def fin (v : Bool) (c : D) (ρ : Env) : Option (D × Env) := if v || lf c then some (c, ρ) else none
def e1 (k : D → Option D) (f : OM) : EM := fun ρ => (f ρ).bind fun p => (res p.2 p.1).bind fun a => (k a).bind fun c => fin (isVal p.1) c p.2
def e2 (k : D → D → Option D) (f h : OM) : EM := fun ρ => (f ρ).bind fun p => (h p.2).bind fun q => (res q.2 p.1).bind fun a => (res q.2 q.1).bind fun b => (k a b).bind fun c => fin (isVal p.1 && isVal q.1) c q.2
end L3
namespace L3
open PySem L2
theorem OpdsOk.length {K : KW} {F : Hp} {σ : St} : ∀ {os : List Opd} {vs : List V}, OpdsOk K F σ vs os → vs.length = os.length
  | _, _, .nil => rfl
  | _, _, .cons _ r => by simp [OpdsOk.length r]
section
variable {X : Cx} {g : Gx} {es : List Expr} {fa : AM} {pos : Pos} {n : Nat}
/-- a new list at a -/
theorem Gd.fresh {K : KW} {F H : Hp} {σ : St} {ρ : Env} (G : Gd K g F H σ ρ) {a : Addr} (ha : H a = none) (vs : HO) :
    Gd K g F (upd H a vs) σ ρ ∧ F a = none ∧ g.H0 a = none ∧ g.pin a = none ∧ ∀ i, ¬ OwnAt (upd H a vs) σ ρ i a := by
  refine ⟨G.ext (Ext.lay G.sub ha _), G.sub.free ha, G.grow a ha, ?_, fun i h => ?_⟩
  · cases q : g.pin a with
    | none => rfl
    | some o => have := (G.pinned a o q).1; rw [ha] at this; cases this
  · obtain ⟨_, u, hl, _⟩ := G.own (G.ownExt (Ext.lay G.sub ha vs).hh h)
    rw [ha] at hl; cases hl
end
end L3
namespace L3
open PySem L2
section
variable {K : KW} {g : Gx} {F H F' H' : Hp} {σ : St} {ρ ρ' : Env}
/-- with one more thing to be kept -/
def Gx.also (g : Gx) (a : Addr) (o : HO) : Gx := ⟨g.H0, g.F0, g.pl, upd g.pin a o⟩
theorem Gd.pin (G : Gd K g F H σ ρ) {a : Addr} {o : HO} (h1 : H a = some o) (h2 : F a = none) (h3 : ∀ i, ¬ OwnAt H σ ρ i a) : Gd K (g.also a o) F H σ ρ :=
  ⟨G.len, fun i s e => by
    have z := G.slot i s e
    cases s with
    | d x => exact z
    | own t xs => exact z
    | tre t xs => exact z, G.dist, G.sub, G.old, G.keep, G.grow, G.new, fun b u q => by
    have q' : upd g.pin a o b = some u := q
    by_cases e : b = a
    · subst e
      rw [upd_same] at q'
      cases q'
      exact ⟨h1, h2, h3⟩
    · rw [upd_ne e] at q'
      exact G.pinned b u q'⟩
end
end L3
namespace L3
open PySem L2
inductive A where
  | v (x : D)
  | io (x : D)
  | tr (x : D)
inductive ArgsOk (K : KW) (F H : Hp) : List V → List A → Prop
  | nil : ArgsOk K F H [] []
  | v {v : V} {x : D} {vs : List V} {as : List A} : Rep K F v x → ArgsOk K F H vs as → ArgsOk K F H (v :: vs) (.v x :: as)
  | io {l : Addr} {ws : HO} {xs : D} {vs : List V} {as : List A} : F l = none → H l = some ws → ORep K F ws xs → ArgsOk K F H vs as → ArgsOk K F H (.ref l :: vs) (.io xs :: as)
  | tr {l : Addr} {ws : HO} {xs : D} {vs : List V} {as : List A} : F l = none → H l = some ws → TRep K F H ws xs → ArgsOk K F H vs as → ArgsOk K F H (.ref l :: vs) (.tr xs :: as)
theorem ArgsOk.length {K : KW} {F H : Hp} : ∀ {vs : List V} {as : List A}, ArgsOk K F H vs as → vs.length = as.length
  | _, _, .nil => rfl
  | _, _, .v _ r => by simp [ArgsOk.length r]
  | _, _, .io _ _ _ r => by simp [ArgsOk.length r]
  | _, _, .tr _ _ _ r => by simp [ArgsOk.length r]
end L3
namespace L3
open PySem L2
end L3
namespace L3
open PySem L2
def valD (kvs : List (Key × D)) (k : Key) : Option D := (kvs.find? fun kv => decide (kv.1 = k)).map (·.2)
section
variable {K : KW} {F : Hp}
theorem RepK.length : ∀ {vs : List (Key × V)} {ds : List (Key × D)}, RepK K F vs ds → vs.length = ds.length
  | _, _, .nil => rfl
  | _, _, .cons _ r => by simp [RepK.length r]
theorem RepK.any (k : Key) : ∀ {vs : List (Key × V)} {ds : List (Key × D)}, RepK K F vs ds → (vs.any fun kv => decide (kv.1 = k)) = ds.any fun kv => decide (kv.1 = k)
  | _, _, .nil => rfl
  | _, _, .cons _ r => by rw [List.any_cons, List.any_cons, RepK.any k r]
theorem RepK.val (k : Key) : ∀ {vs : List (Key × V)} {ds : List (Key × D)}, RepK K F vs ds → (∀ d, valD ds k = some d → ∃ v, valV vs k = some v ∧ Rep K F v d) ∧ (valD ds k = none → valV vs k = none)
  | _, _, .nil => ⟨fun _ e => by simp [valD] at e, fun _ => rfl⟩
  | _, _, .cons (n := n) (v := v) (d := d) h r => by
    obtain ⟨h1, h2⟩ := RepK.val k r
    unfold valD valV at *
    by_cases e : n = k
    · simp only [List.find?_cons, e, decide_true]
      exact ⟨fun d' e => by cases e; exact ⟨_, rfl, h⟩, fun e => by cases e⟩
    · simp only [List.find?_cons, e, decide_false]
      exact ⟨h1, h2⟩
end
end L3
namespace L3
open PySem L2
section
variable {K : KW} {F : Hp}
theorem RepF.length : ∀ {vs : List (Str × V)} {ds : List (Str × D)}, RepF K F vs ds → vs.length = ds.length
  | _, _, .nil => rfl
  | _, _, .cons _ r => by simp [RepF.length r]
theorem RepF.get (f : Str) : ∀ {vs : List (Str × V)} {ds : List (Str × D)}, RepF K F vs ds → (∀ d, ds.lookup f = some d → ∃ v, vs.lookup f = some v ∧ Rep K F v d) ∧ (ds.lookup f = none → vs.lookup f = none)
  | _, _, .nil => ⟨fun _ e => by simp at e, fun _ => rfl⟩
  | _, _, .cons (n := n) (v := v) (d := d) a r => by
    obtain ⟨h1, h2⟩ := RepF.get f r
    simp only [List.lookup]
    by_cases e : f == n
    · simp only [e]
      exact ⟨fun d' q => by cases q; exact ⟨v, rfl, a⟩, fun q => by cases q⟩
    · simp only [e]
      exact ⟨h1, h2⟩
end
/-- the same names -/
def SameN (fs : List (Str × V)) (gs : List (Str × D)) : Prop := fs.map (·.1) = gs.map (·.1)
theorem SameN.none : ∀ {fs : List (Str × V)} {gs : List (Str × D)}, SameN fs gs → ∀ {m : Str}, gs.lookup m = none → fs.lookup m = none
  | [], [], _, _, _ => rfl
  | [], _ :: _, e, _, _ => by cases e
  | _ :: _, [], e, _, _ => by cases e
  | (n, v) :: fs, (m', d) :: gs, e, m, h => by
    obtain ⟨e1, e2⟩ := List.cons.inj (show n :: fs.map (·.1) = m' :: gs.map (·.1) from e)
    subst e1
    simp only [List.lookup] at h ⊢
    split at h
    · cases h
    · exact SameN.none e2 h
end L3
namespace L3
open PySem L2
end L3
namespace L3
open PySem PySem.Spec PyProof.Rows L2
/-- a classmethod's record, its def -/
def cmP (K : PySem.W.Frag) (C m : Str) : Addr := He.ma K (He.ga K C) m
def recAd (K : PySem.W.Frag) (p : Addr) (T : String) : Addr := match PySem.W.recIn K p T with
  | some (.ref a :: _) => a
  | _ => 0
inductive Fx where
  | cmt (C m : Str)
  | nilTup (f : Str × Option Str) (i : Nat)
  | prp (C m : Str)
  | kpc (C : Str)
  | bool (p : PySem.W.Frag → Bool)
def cfB (K : PySem.W.Frag) (C m : Str) : Bool := match PySem.W.findCls K (.ref (He.ga K C)) (.type "type") m with
  | some (.get (.builtin z) (.ref p) .none (.ref c)) => z == "classmethod.__get__" && (decide (p = cmP K C m) && decide (c = He.ga K C))
  | _ => false
def tup0B (K : PySem.W.Frag) (a : Addr) : Bool := match K.lookup a with
  | some ⟨.type c, _, .seq its _, _⟩ => decide (c = "tuple") && decide (its = #[])
  | _ => false
def Fx.ok (K : PySem.W.Frag) : Fx → Bool
  | .cmt C m => (PySem.W.readsIn K (He.ga K C) (.type "type") && decide (PySem.W.specialIn K (.ref (He.ga K C)) "__getattribute__" = some (some (.builtin "type.__getattribute__")))) && (cfB K C m &&
      ((match PySem.W.recIn K (cmP K C m) "classmethod" with | some (.ref _ :: _) => true | _ => false) && PySem.W.fnIn K (recAd K (cmP K C m) "classmethod")))
  | .nilTup f i => tup0B K (He.dflAt f i K)
  | .prp C m => decide (PySem.W.findIn K (.ref (He.ga K C)) m = some (some (.ref (cmP K C m)))) && (decide (PySem.W.specialIn K (.ref (cmP K C m)) "__get__" = some (some (.builtin "property.__get__"))) && (decide (PySem.W.takesIn K (.ref (cmP K C m)) = some true) &&
      (match PySem.W.recIn K (cmP K C m) "property" with | some (.ref _ :: _) => true | _ => false)))
  | .kpc C => PySem.W.keepIn K (.ref (He.ga K C))
  | .bool p => p K
/-- where a def stands: a global; a method; a classmethod's or property's def -/
inductive Wh where
  | glo (x : Str) | mth (C m : Str) | rcd (C m : Str) (T : String)
def Wh.ad (K : PySem.W.Frag) : Wh → Addr
  | .glo x => He.ga K x
  | .mth C m => He.ma K (He.ga K C) m
  | .rcd C m T => recAd K (cmP K C m) T
structure Df where
  wh : Wh
  name : Str
  qual : Str
  st : Stmt
  dfl : List He.Dv := []
  kw : List (Str × He.Dv) := []
/-- the dict of a def's keyword-only defaults, and what it says -/
def kwdAt (K : PySem.W.Frag) (f : Addr) : Addr := match K.lookup f with
  | some ⟨_, _, .func fd, _⟩ => (match fd.kwdefaults with
    | .ref D => D
    | _ => 0)
  | _ => 0
def kwdV (K : PySem.W.Frag) (f : Addr) (x : Str) : Addr := match PySem.W.nsIn K (kwdAt K f) x with
  | some (some (.ref a)) => a
  | _ => 0
def kwdB (K : PySem.W.Frag) (kV : Value) (kws : List (Str × V)) : Bool := kws.isEmpty || (match kV with
  | .ref D => kws.all fun q => (match PySem.W.nsIn K D q.1 with
    | some (some u) => He.relB q.2 u
    | _ => false)
  | _ => false)
theorem kwdB_ok {K : PySem.W.Frag} {kV : Value} {kws : List (Str × V)} (h : kwdB K kV kws = true) : KwdV K kV kws := by
  unfold kwdB at h
  rcases (Bool.or_eq_true _ _).mp h with h2 | h2
  · exact .inl (List.isEmpty_iff.mp h2)
  · cases kV with
    | ref D =>
      refine .inr ⟨D, rfl, fun q hq => ?_⟩
      have h1 := List.all_eq_true.mp h2 q hq
      split at h1
      · rename_i u e
        exact ⟨u, e, He.relB_ok h1⟩
      · cases h1
    | _ => cases h2
def fnAt (K : PySem.W.Frag) (a : Addr) : He.FnW := match K.lookup a with
  | some ⟨_, _, .func fd, _⟩ => some (fd.name, fd.qualname, fd.params, fd.body, fd.scope, fd.globals, fd.closure, fd.builtins)
  | _ => none
def Df.val (d : Df) : He.FnW := some (d.name, d.qual, defArgs d.st, .stmts (defBody d.st), defScope d.st, mainGlobals, [], builtinsNs)
def Df.dvs (K : PySem.W.Frag) (d : Df) : List V := d.dfl.map (He.Dv.v K)
def Df.kws (K : PySem.W.Frag) (d : Df) : List (Str × V) := d.kw.map fun q => (q.1, He.Dv.v K q.2)
def Df.ok (K : PySem.W.Frag) (d : Df) : Bool := PySem.W.keepIn K (.ref (d.wh.ad K)) && (match K.lookup (d.wh.ad K) with
  | some ⟨_, _, .func fd, _⟩ => PySem.W.codeIn K fd.code d.qual && (He.dflB K fd.defaults (d.dvs K) && kwdB K fd.kwdefaults (d.kws K))
  | _ => false)
theorem Df.fd {K : PySem.W.Frag} {d : Df} (e : fnAt K (d.wh.ad K) = d.val) (c : d.ok K = true) : ∃ fd, FunD K d.name d.qual (defArgs d.st) (defBody d.st) (defScope d.st) (d.dvs K) (d.kws K) (d.wh.ad K) fd := by
  obtain ⟨kp, c2⟩ := He.ba c
  unfold fnAt at e
  cases q : K.lookup (d.wh.ad K) with
  | none =>
    rw [q] at c2; cases c2
  | some o =>
    obtain ⟨oc, od, dt, osl⟩ := o
    rw [q] at c2 e
    cases dt with
    | func fd =>
      obtain ⟨n1, n2, n3, n4, n5, n6, n7, n8, n9, n10, n11, n12, n13, n14, n15⟩ := fd
      have e2 : (some (n1, n2, n3, n4, n5, n6, n7, n15) : He.FnW) = some (d.name, d.qual, defArgs d.st, .stmts (defBody d.st), defScope d.st, mainGlobals, [], builtinsNs) := e
      simp only [Option.some.injEq, Prod.mk.injEq] at e2
      obtain ⟨rfl, rfl, rfl, rfl, rfl, rfl, rfl, rfl⟩ := e2
      obtain ⟨k1, k2⟩ := He.ba (show (PySem.W.codeIn K n13 d.qual && (He.dflB K n8 (d.dvs K) && kwdB K n9 (d.kws K))) = true from c2)
      obtain ⟨k2, k3⟩ := He.ba k2
      exact ⟨_, ⟨oc, od, n8, n9, n10, n11, n12, n13, n14, osl, rfl, q, k1, He.dflB_ok k2, kwdB_ok k3⟩, kp⟩
    | _ => cases c2
abbrev AlE : Type := (Bool × List He.FnW) × List (Option (List (Option (Str × Int))))
/-- dicts of the module: the name, the keys in order -/
abbrev Tb : Type := Str × List Str
def obsE (fa : List He.Fa) (fx : List Fx) (fn : List Df) (tb : List Tb) (K : PySem.W.Frag) : AlE := ((((fa.all fun f => f.ok K) && fx.all fun f => f.ok K) && fn.all fun d => d.ok K, fn.map fun d => fnAt K (d.wh.ad K)), tb.map fun t => He.dicW K (He.ga K t.1))
def valE (fn : List Df) (tb : List Tb) (w : World) : AlE := ((true, fn.map Df.val), tb.map fun t => some (He.keysIn w.params t.2))
def SaysE (fa : List He.Fa) (fx : List Fx) (fn : List Df) (tb : List Tb) (w : World) (K : PySem.W.Frag) : Prop := obsE fa fx fn tb K = valE fn tb w
end L3
namespace L3
open PySem L2
inductive Dm {α : Type} (Q : α → Prop) : Type
  | mk
/-- the last argument keeps the simplifier out of Q until x is known -/
def Ex {α : Type} (x : Option α) (Q : α → Prop) (_w : Dm Q := .mk) : Prop := ∃ a, x = some a ∧ Q a
section
variable {α β : Type} {x : Option α} {Q : α → Prop}
theorem Ex.mono {P : α → Prop} (h : Ex x P) (i : ∀ a, P a → Q a) : Ex x Q := let ⟨a, e, p⟩ := h; ⟨a, e, i a p⟩
theorem Ex.to {a : α} (h : Ex x fun b => b = a) : x = some a := let ⟨b, e, p⟩ := h; by rw [e, p]
end
end L3
namespace L3
open PySem L2
end L3
namespace L3
open PySem L2
end L3
namespace L3
open PySem L2
end L3
namespace L3
open PySem L2
end L3
namespace L3
open PySem L2
end L3
namespace L3
open PySem L2
end L3
namespace L3
end L3
namespace L3
end L3
namespace L3
end L3
namespace L3
open PySem L2
end L3
namespace L3
open PySem L2
end L3
namespace L3
open PySem L2
end L3
namespace L3
open PySem PySem.Spec PyProof.Rows L2
end L3
namespace L3
open PySem PySem.Spec PyProof.Rows L2
end L3
namespace L3
open PySem PySem.Spec PyProof.Rows L2
end L3
namespace L3
open PySem PySem.Spec PyProof.Rows L2
mutual
/-- the value u of the text stands for the data -/
def kd (K : PySem.W.Frag) : Value → D → Bool
  | .none, .non => true
  | .bool b, .bl c => b == c
  | .int i _, .int j => decide (i = j)
  | .str x _, .str y => decide (x = y)
  | .ref a, .ktp ds => match K.lookup a with
    | some ⟨.type c, _, .seq its _, _⟩ => decide (c = "tuple") && (decide (its.size ≤ 1000) && kds K its.toList ds)
    | _ => false
  | _, _ => false
def kds (K : PySem.W.Frag) : List Value → List D → Bool
  | [], [] => true
  | u :: us, d :: ds => kd K u d && kds K us ds
  | _, _ => false
end
/-- a tuple of the module's has no dict of its own -/
def topB (K : PySem.W.Frag) : Value → D → Bool
  | .ref a, .ktp _ => match K.lookup a with
    | some o => decide (o.cls = .type "tuple") && o.dict.isNone
    | none => false
  | _, _ => true
def gcB (x : Str) (d : D) (K : PySem.W.Frag) : Bool := match PySem.W.nsIn K mainGlobals x with
  | some (some u) => kd K u d && topB K u d
  | _ => false
def tabB (tab : List (Str × D)) (K : PySem.W.Frag) : List DictEntry → Bool := fun es => match tab, es with
  | [], [] => true
  | (s, d) :: tab, e :: es => (match e.key with
    | .str x _ => decide (x = s)
    | _ => false) && (kd K e.val d && tabB tab K es)
  | _, _ => false
def ktB (x : Str) (tab : List (Str × D)) (K : PySem.W.Frag) : Bool := match K.lookup (He.ga K x) with
  | some ⟨_, _, .dict es _, _⟩ => tabB tab K es.toList
  | _ => false
end L3
namespace L3
open PySem PySem.Spec PyProof.Rows L2
theorem RepK.valV {K : KW} {F : Hp} {vs : List (Key × V)} {ds : List (Key × D)} (h : RepK K F vs ds) (k : Key) : (∀ d, valD ds k = some d → ∃ v, L2.valV vs k = some v ∧ Rep K F v d) ∧ (valD ds k = none → L2.valV vs k = none) := by
  induction vs generalizing ds with
  | nil => cases h; exact ⟨fun d e => (nomatch e), fun _ => rfl⟩
  | cons a vs ih =>
    cases h with
    | cons r rr =>
      rename_i n v d ds
      obtain ⟨h1, h2⟩ := ih rr
      unfold valD L2.valV at *
      rw [List.find?_cons, List.find?_cons]
      by_cases e : n = k
      · rw [decide_eq_true e]
        exact ⟨fun d' hd => by cases hd; exact ⟨v, rfl, r⟩, fun hn => (nomatch hn)⟩
      · rw [decide_eq_false e]
        exact ⟨h1, h2⟩
end L3
namespace HX
open PySem PySem.Calls PyProof.Rows L2
abbrev Tab := List ((Str × Str) × Str)
abbrev kX (prog : Program) (w : World) : HeapKind prog w (List L2.Key) := tupleKind (mixKind prog w)
abbrev Ent := List L2.Key × Addr × Value
def tabObjs : Tab → Nat → List Obj
  | [], _ => []
  | ((a, b), v) :: r, t => { cls := .type "tuple", data := .seq [Value.str a t, Value.str b (t + 1)].toArray } :: tabObjs r (t + 3)
def tabEnts : Tab → Nat → Nat → List Ent
  | [], _, _ => []
  | ((a, b), v) :: r, n, t => ([.inr a, .inr b], n, .str v (t + 2)) :: tabEnts r (n + 1) (t + 3)
def putE (e : DictEntry) : Obj → Obj := Obj.mapDictKeys (·.push e)
section
variable {prog : Program} {w : World} {A : Around} {E : Value → Shared → Prop} {env : Env} {pos : Pos}
abbrev entK (prog : Program) (w : World) : Ent → DictEntry := entryOfKey (kX prog w)
def hashN (w : World) (x : Str) : Int := if x.cps.isEmpty = true then 0 else reduceHash (w.params.strHash x.cps)
end
end HX
namespace HX
open PySem PySem.W PySem.Calls PyProof.Rows
end HX
namespace HX
open PySem PySem.W PySem.Calls PyProof.Rows
def allowB : Sem Fin → Bool
  | .rule .. => true
  | .at .. => true
  | .load .. => true
  | .update .. => true
  | .loadIfAlive .. => true
  | .point .. => true
  | .alloc .. => true
  | .fresh .. => true
  | .ask .. => true
  | .handled .. => true
  | .stack .. => true
  | .thread .. => true
  | _ => false
section
variable {p : Program} {w : World}
/-- one step over the frames base; pre: the frames above -/
def stepB (st : SharedT → Thread → Option (SharedT × Thread)) (den : Code → Sem Fin) (base : List Frame) (s : SharedT) (t : Sem Fin) (c : Code) (q : Pos) (pre : List Frame) : Option (SharedT × Sem Fin × Code × Pos × List Frame) := match t with
  | .pure (.done f) => match pre with
    | .ret k _ _ _ c' q' _ :: r => some (s, k (.ok f), c', q', r)
    | _ => none
  | .pure (.again c') => match c'.quiet with
    | true => some (s, den c', c', q, pre)
    | false => none
  | .raise e => match pre with
    | .ret k _ _ _ c' q' _ :: r => some (s, k (.error e), c', q', r)
    | _ => none
  | .call c' h g l k => some (s, den c', c', q, .ret k h g l c q [] :: pre)
  | t => match allowB t with
    | true => (match st s ⟨t, c, q, pre ++ base⟩ with
      | some (s', t') => some (s', t'.cur, t'.code, t'.pos, pre)
      | none => none)
    | false => none
/-- what stays -/
def Kept (n₀ : Nat) (ann : Option Value) (s s' : Shared) : Prop := s'.heap.life = s.heap.life ∧ s'.os = s.os ∧ ∀ b o, b < n₀ → b ≠ mainNs → b ≠ cStatics → ann ≠ some (.ref b) → s.heap.get? b = some o → s'.heap.get? b = some o
theorem Kept.refl {n₀ : Nat} {ann : Option Value} (s : Shared) : Kept n₀ ann s s := ⟨rfl, rfl, fun _ _ _ _ _ _ e => e⟩
theorem Kept.trans {n₀ : Nat} {ann : Option Value} {a b c : Shared} (h : Kept n₀ ann a b) (k : Kept n₀ ann b c) : Kept n₀ ann a c := ⟨k.1.trans h.1, k.2.1.trans h.2.1, fun x o h1 h2 h3 h4 e => k.2.2 x o h1 h2 h3 h4 (h.2.2 x o h1 h2 h3 h4 e)⟩
def exitB (pre : List Frame) (t : Sem Fin) : Option Flow := match pre with
  | [] => (match t with
    | .pure (.done f) => some f
    | _ => none)
  | _ => none
/-- the run to the exit over base -/
def goB (st : SharedT → Thread → Option (SharedT × Thread)) (den : Code → Sem Fin) (base : List Frame) (n₀ : Nat) (ann : Option Value) : Nat → SharedT → Sem Fin → Code → Pos → List Frame → Option (SharedT × Flow)
  | 0, _, _, _, _, _ => none
  | m + 1, s, t, c, q, pre => match exitB pre t with
    | some f => some (s, f)
    | none => match stepOk n₀ ann ⟨t, c, q, pre ++ base⟩ with
      | false => none
      | true => match stepB st den base s t c q pre with
        | some (s', t', c', q', pre') => HandSHeadRun.frS s' fun s' => goB st den base n₀ ann m s' t' c' q' pre'
        | none => none
end
end HX
namespace HX
open PySem PySem.W PySem.Calls PyProof.Rows
end HX
namespace HX
open PySem PySem.W PySem.Calls PyProof.Rows
end HX
noncomputable section
namespace HX
open PySem PySem.W PySem.Calls PyProof.Rows HandSHeadRun
abbrev StF := SharedT → Thread → Option (SharedT × Thread)
section
variable (st : StF) (n₀ : Nat) (ann : Option Value)
/-- to the first frame -/
def untilB : Nat → SharedT → Thread → Option (SharedT × Thread)
  | 0, _, _ => none
  | m + 1, s, t => match Nat.beq t.stack.length 1 with
    | true => some (s, t)
    | false => match through t with
      | true => none
      | false => match stepOk n₀ ann t with
        | false => none
        | true => match st s t with
          | some (s', t') => frS s' fun s' => untilB m s' t'
          | none => none
/-- a piece, to its end -/
def segQ : Nat → SharedT → Thread → Option (Flow × SharedT × Code × Pos)
  | 0, _, _ => none
  | m + 1, s, t => match endAt 1 t with
    | some f => some (f, s, t.code, t.pos)
    | none => match stepOk n₀ ann t with
      | false => none
      | true => match st s t with
        | some (s', t') => frS s' fun s' => segQ m s' t'
        | none => none
end
section
variable (p : Program) (M k : Nat)
def n0X (w : World) : Nat := (boot_heap w.params).objs.size
/-- the boot, to the text's own frame -/
def preX (st : World → StF) (w : World) (os : OsState) : Option (SharedT × Thread) := match putAll (boot_heap w.params).objs.toList .nil 0 with
  | some (t, n) => untilB (st w) (n0X w) (bootAnn w) M (bootT w os (t, n)) (topStub p)
  | none => none
def nilT : Thread := ⟨.pure (.done .next), .builtin "" {}, default, []⟩
def nilS (w : World) (os : OsState) : SharedT := bootT w os (.nil, 0)
def preT (st : World → StF) (w : World) (os : OsState) : Thread := match preX p M st w os with
  | some r => r.2
  | none => nilT
def preS (st : World → StF) (w : World) (os : OsState) : SharedT := match preX p M st w os with
  | some r => r.1
  | none => nilS w os
def envX (st : World → StF) (w : World) (os : OsState) : Env := match (preT p M st w os).code with
  | .body _ e => e
  | _ => { scope := p.main.scope, locals := mainNs, globals := mainNs, cells := [], code := .none, frame := none }
def qX (st : World → StF) (w : World) (os : OsState) : Pos := match (preT p M st w os).stack with
  | [.ret _ _ _ _ _ q _] => q
  | _ => default
abbrev bodyX : List Stmt := behindTheImports p
abbrev codeX (st : World → StF) (w : World) (os : OsState) : Code := .body (bodyX p) (envX p M st w os)
/-- the block begun -/
def blkX (st : World → StF) (w : World) (os : OsState) : Option (Flow × SharedT × Code × Pos) := segQ (st w) (n0X w) (bootAnn w) M (preS p M st w os) (blockOf (bodyX p) (envX p M st w os) (codeX p M st w os) (preT p M st w os).pos [topFrame (qX p M st w os)])
def segS (w : World) (os : OsState) (r : Option (Flow × SharedT × Code × Pos)) : SharedT := match r with
  | some r => r.2.1
  | none => nilS w os
def segP (r : Option (Flow × SharedT × Code × Pos)) : Pos := match r with
  | some r => r.2.2.2
  | none => default
def segC (r : Option (Flow × SharedT × Code × Pos)) : Option (Flow × Code) := r.map fun r => (r.1, r.2.2.1)
/-- the statements ahead of the table -/
def aheadX (st : World → StF) (w : World) (os : OsState) : Option (Flow × SharedT × Code × Pos) := segQ (st w) (n0X w) (bootAnn w) M (segS w os (blkX p M st w os)) (piecesOf ((bodyX p).take k) (envX p M st w os) (codeX p M st w os) (segP (blkX p M st w os)) [topFrame (qX p M st w os)])
def s1X (st : World → StF) (w : World) (os : OsState) : SharedT := segS w os (aheadX p M k st w os)
/-- the rest -/
def restX (st : World → StF) (den : Code → Sem Fin) (w : World) (os : OsState) (s2 : SharedT) (q2 : Pos) : Option (SharedT × Flow) :=
  goB (st w) den [] (n0X w) (bootAnn w) M s2 ((execs ((bodyX p).drop (k + 1)) (envX p M st w os)).wrap doneF (leaveH (envX p M st w os)) id id) (codeX p M st w os) q2 [topFrame (qX p M st w os)]
end
def pushT? (o : Obj) (s : SharedT) : Option SharedT := match ((s.tree.ins s.n o).get s.n).isSome with
  | true => some { s with tree := s.tree.ins s.n o, n := s.n + 1 }
  | false => none
def pushAllT? : List Obj → SharedT → Option SharedT
  | [], s => some s
  | o :: l, s => match pushT? o s with
    | some s => pushAllT? l s
    | none => none
def setT? (a : Addr) (f : Obj → Obj) (s : SharedT) : Option SharedT := match s.tree.get a with
  | some _ => some { s with tree := s.tree.set a f }
  | none => none
def setAllT? (d : Addr) : List DictEntry → SharedT → Option SharedT
  | [], s => some s
  | e :: l, s => match setT? d (putE e) s with
    | some s => setAllT? d l s
    | none => none
def behindT? (prog : Program) (w : World) (tab : Tab) (x : Str) (ns : Addr) (s : SharedT) : Option SharedT := match pushT? { cls := .type "dict", data := .dict #[] } s with
  | none => none
  | some s1 => match pushAllT? (tabObjs tab s.toks) s1 with
    | none => none
    | some s2 => match setAllT? s.n ((tabEnts tab (s.n + 1) s.toks).map (entK prog w)) s2 with
      | none => none
      | some s3 => match setT? ns (Obj.putName x (hashN w x) (.str x (s.toks + 3 * tab.length + 3 * tab.length)) (.ref s.n)) s3 with
        | none => none
        | some s4 => some { s4 with toks := s.toks + 3 * tab.length + 3 * tab.length + 1 }
def goX (p : Program) (M k : Nat) (tab : Tab) (x : Str) (st : World → StF) (den : Code → Sem Fin) (w : World) (os : OsState) (q2 : Pos) : Option (SharedT × Flow) := match behindT? p w tab x mainNs (s1X p M k st w os) with
  | some s2 => restX p M k st den w os s2 q2
  | none => none
def nsOkT (s : SharedT) : Bool := match getT s mainNs with
  | some ⟨_, _, .dict es _, _⟩ => !es.any (·.refKey)
  | _ => false
abbrev stWQ (p : Program) : World → StF := fun w => stepQ (denQ tabQ) p w
end HX
end
noncomputable section
namespace HX
open PySem PySem.W PySem.Calls PyProof.Rows HandSHeadRun
end HX
end
noncomputable section
namespace HX
open PySem PySem.W PySem.Calls PyProof.Rows HandSHeadRun
def partsOf : Option Stmt → Option (Str × List (Option Expr) × List Expr × Pos × Pos × Pos)
  | some (.Assign [.Name x p1] (.Dict ks vs p2) p3) => some (x, ks, vs, p1, p2, p3)
  | _ => none
def tabB : List (Option Expr) → List Expr → Option Tab
  | [], [] => some []
  | some (.Tuple [.Constant (.str a) _ _, .Constant (.str b) _ _] _ _) :: ks, .Constant (.str v) _ _ :: vs => (tabB ks vs).map fun t => ((a, b), v) :: t
  | _, _ => none
end HX
end
namespace L3
open PySem PySem.Spec PyProof.Rows L2 HX
/-- the hash of a pair of texts -/
def hash2 (w : World) (p : Str × Str) : Int := reduceHash (Builtin.Tuple.tupleHashOf [keyH w (.inr p.1), keyH w (.inr p.2)])
def ent2 (K : PySem.W.Frag) (e : DictEntry) : Option (((Str × Str) × Str) × Int) := match e.key with
  | .ref a => (match K.lookup a with
    | some ⟨.type c, _, .seq its _, _⟩ => (match its.toList with
      | [.str x _, .str y _] => (match e.val with
        | .str v _ => (match decide (c = "tuple") with
          | true => some (((x, y), v), e.hash)
          | false => none)
        | _ => none)
      | _ => none)
    | _ => none)
  | _ => none
def ents2 (K : PySem.W.Frag) : List DictEntry → Option (List (((Str × Str) × Str) × Int))
  | [] => some []
  | e :: r => match ent2 K e with
    | some x => (ents2 K r).map fun l => x :: l
    | none => none
def tab2 (K : PySem.W.Frag) (a : Addr) : Option (List (((Str × Str) × Str) × Int)) := match K.lookup a with
  | some ⟨.type c, none, .dict es _, sl⟩ => (match decide (c = "dict") && (sl.isEmpty && !(a == sysModules)) with
    | true => ents2 K es.toList
    | false => none)
  | _ => none
def val2 (w : World) (tab : Tab) : List (((Str × Str) × Str) × Int) := tab.map fun p => (p, hash2 w p.1)
theorem ent2_ok {K : PySem.W.Frag} {prog : Program} {w : World} {h : Heap} (X : K.In h) {e : DictEntry} {a b v : Str} (q : ent2 K e = some (((a, b), v), hash2 w (a, b))) : ∃ ad t, e = entK prog w ([.inr a, .inr b], ad, .str v t) ∧ (kX prog w).is h [.inr a, .inr b] ad := by
  unfold ent2 at q
  split at q
  · rename_i ad ek
    split at q
    · rename_i c od its n osl lk
      split at q
      · rename_i x t1 y t2 hi
        split at q
        · rename_i v' t hv
          split at q
          · rename_i hc
            simp only [Option.some.injEq, Prod.mk.injEq] at q
            obtain ⟨⟨⟨rfl, rfl⟩, rfl⟩, hh⟩ := q
            have hc' := of_decide_eq_true hc
            subst hc'
            refine ⟨ad, t, ?_, _, its, n, X _ _ lk, rfl, rfl, ?_⟩
            · obtain ⟨e1, e2, e3⟩ := e
              dsimp only at ek hv hh
              subst ek hv hh
              rfl
            · rw [hi]
              exact .cons (by show Value.isStrOf x (.str x t1) = true; simp [Value.isStrOf]) (.cons (by show Value.isStrOf y (.str y t2) = true; simp [Value.isStrOf]) .nil)
          · cases q
        · cases q
      · cases q
    · cases q
  · cases q
/-- the entries, as the table says -/
inductive EntsAre : List Ent → Tab → Prop
  | nil : EntsAre [] []
  | cons {a b v : Str} {ad : Addr} {t : Tok} {xs : List Ent} {tab : Tab} : EntsAre xs tab → EntsAre (([.inr a, .inr b], ad, .str v t) :: xs) (((a, b), v) :: tab)
theorem ents2_ok {K : PySem.W.Frag} {prog : Program} {w : World} {h : Heap} (X : K.In h) : ∀ {tab : Tab} {es : List DictEntry}, ents2 K es = some (val2 w tab) → ∃ xs, EntsAre xs tab ∧ es = xs.map (entK prog w) ∧ ∀ x ∈ xs, (kX prog w).is h x.1 x.2.1
  | [], [], _ => ⟨[], .nil, rfl, fun x hx => (nomatch hx)⟩
  | ((a, b), v) :: tab, [], q => by cases q
  | [], e :: es, q => by
    unfold ents2 at q
    split at q
    · obtain ⟨l, _, h2⟩ := Option.map_eq_some_iff.mp q
      cases h2
    · cases q
  | ((a, b), v) :: tab, e :: es, q => by
    unfold ents2 at q
    split at q
    · rename_i x hx
      obtain ⟨l, h1, h2⟩ := Option.map_eq_some_iff.mp q
      obtain ⟨rfl, rfl⟩ := List.cons.inj (show x :: l = (((a, b), v), hash2 w (a, b)) :: val2 w tab from h2)
      obtain ⟨ad, t, e1, i1⟩ := ent2_ok (prog := prog) X hx
      obtain ⟨xs, r1, r2, r3⟩ := ents2_ok X h1
      refine ⟨([.inr a, .inr b], ad, .str v t) :: xs, .cons r1, ?_, fun x hx => ?_⟩
      · rw [List.map_cons, ← r2, ← e1]
      · rcases List.mem_cons.mp hx with rfl | hx
        · exact i1
        · exact r3 x hx
    · cases q
theorem EntsAre.keys {xs : List Ent} {tab : Tab} (h : EntsAre xs tab) : xs.map (·.1) = tab.map fun p => [(.inr p.1.1 : L2.Key), .inr p.1.2] := by
  induction h with
  | nil => rfl
  | cons _ ih => rw [List.map_cons, List.map_cons, ih]
/-- the table x of the module -/
def PTab (K : PySem.W.Frag) (w : World) (mg : Str → Option Value) (x : Str) (tab : Tab) : Prop := ∃ d, mg x = some (.ref d) ∧ tab2 K d = some (val2 w tab)
theorem PTab.dict {K : PySem.W.Frag} {prog : Program} {w : World} {h : Heap} {d : Addr} {tab : Tab} (X : K.In h) (q : tab2 K d = some (val2 w tab)) (hnd : (tab.map fun p => [(.inr p.1.1 : L2.Key), .inr p.1.2]).Nodup) :
    (d == sysModules) = false ∧ ∃ xs, EntsAre xs tab ∧ h.DictOfH (kX prog w) d xs ∧ ∃ o, h.get? d = some o ∧ o.dict = none := by
  unfold tab2 at q
  split at q
  · rename_i c es n sl lk
    split at q
    · rename_i hc
      obtain ⟨h1, h2⟩ := He.ba hc
      obtain ⟨h3, h4⟩ := He.ba h2
      have h1' := of_decide_eq_true h1
      subst h1'
      obtain ⟨xs, r1, r2, r3⟩ := ents2_ok (prog := prog) X q
      have hs : sl = #[] := by simpa using h3
      subst hs
      refine ⟨by simpa using h4, xs, r1, ⟨_, es, n, X _ _ lk, ⟨rfl, rfl, rfl⟩, rfl, r2, r3, by rw [r1.keys]; exact hnd⟩, _, X _ _ lk, rfl⟩
    · cases q
  · cases q
/-- the part of the heap at some addresses, told beforehand (ads.py finds them). Its entries are not looked at before they are asked for: a search forces all objects, which costs the most -/
def frT (as : List Addr) (g : Addr → Option Obj) : PySem.W.Frag := as.map fun a => (a, (g a).getD default)
def allG (as : List Addr) (g : Addr → Option Obj) : Bool := as.all fun a => (g a).isSome
theorem frT_eq {g : Addr → Option Obj} : ∀ {as : List Addr}, allG as g = true → frT as g = He.frG g as
  | [], _ => rfl
  | a :: as, h => by
    unfold allG at h
    rw [List.all_cons, Bool.and_eq_true] at h
    obtain ⟨h1, h2⟩ := h
    have ih := frT_eq (g := g) (as := as) h2
    unfold frT He.frG at *
    rw [List.map_cons, List.filterMap_cons]
    cases hg : g a with
    | none => rw [hg] at h1; cases h1
    | some o =>
      rw [ih]
      rfl
abbrev AlX : Type := (AlE × Option (List (((Str × Str) × Str) × Int))) × (Bool × Bool)
def obsXG (as bs : List Addr) (fa : List He.Fa) (fx : List Fx) (fn : List Df) (tb : List Tb) (x : Str) (g : Addr → Option Obj) : AlX := ((obsE fa fx fn tb (frT (as ++ bs) g), tab2 (frT (as ++ bs) g) (He.ga (frT (as ++ bs) g) x)), (allG as g, allG bs g))
def valX (fn : List Df) (tb : List Tb) (tab : Tab) (w : World) : AlX := ((valE fn tb w, some (val2 w tab)), (true, true))
def SaysX (fa : List He.Fa) (fx : List Fx) (fn : List Df) (tb : List Tb) (x : Str) (tab : Tab) (w : World) (K : PySem.W.Frag) : Prop := SaysE fa fx fn tb w K ∧ tab2 K (He.ga K x) = some (val2 w tab)
theorem allG_app {as bs : List Addr} {g : Addr → Option Obj} (h1 : allG as g = true) (h2 : allG bs g = true) : allG (as ++ bs) g = true := by
  unfold allG at *
  rw [List.all_append, h1, h2]; rfl
def hookX (as bs : List Addr) (fa : List He.Fa) (fx : List Fx) (fn : List Df) (tb : List Tb) (x : Str) (tab : Tab) : PySem.W.Hook where
  α := AlX
  obs := fun s => obsXG as bs fa fx fn tb x s.heap.get?
  val := fun w => valX fn tb tab w
  says := fun w h => ∃ K : PySem.W.Frag, K.In h ∧ SaysX fa fx fn tb x tab w K
  of := fun _ s e => by
    have e1 : allG as s.heap.get? = true := congrArg (fun z : AlX => z.2.1) e
    have e2 : allG bs s.heap.get? = true := congrArg (fun z : AlX => z.2.2) e
    have e3 := frT_eq (allG_app e1 e2)
    refine ⟨frT (as ++ bs) s.heap.get?, by rw [e3]; exact He.frG_in, congrArg (fun z : AlX => z.1.1) e, congrArg (fun z : AlX => z.1.2) e⟩
  keeps := fun _ _ _ ⟨K, hK, c⟩ k => ⟨K, PySem.W.Frag.In.keeps hK k, c⟩
/-- the head's last equation in three: what the run leaves, and what is told of the first and of the other facts -/
theorem comb3 {α P Q : Type _} {o : Option α} {p : α → P} {q : α → Q} {u : P} {v : Q} {fa : List He.Fa} {fx : List Fx} {fn : List Df} {tb : List Tb} {x : Str} {K : α → PySem.W.Frag} {ga gb : α → Bool} {vt : List (Option (List (Option (Str × Int))))} {w2 : Option (List (((Str × Str) × Str) × Int))} (a n : Nat)
    (h1 : o.map (fun z => (p z, q z, ga z, gb z)) = some (u, v, true, true))
    (h2 : o.map (fun z => ((((fa.take a).all fun f => f.ok (K z)) && (fn.take n).all fun d => d.ok (K z)), (fn.take n).map fun d => fnAt (K z) (d.wh.ad (K z)))) = some (true, (fn.take n).map Df.val))
    (h3 : o.map (fun z => (((((fa.drop a).all fun f => f.ok (K z)) && fx.all fun f => f.ok (K z)) && (fn.drop n).all fun d => d.ok (K z)), ((fn.drop n).map fun d => fnAt (K z) (d.wh.ad (K z))), (tb.map fun t => He.dicW (K z) (He.ga (K z) t.1)), tab2 (K z) (He.ga (K z) x))) = some (true, (fn.drop n).map Df.val, vt, w2)) :
    o.map (fun z => (p z, q z, ((((((((fa.all fun f => f.ok (K z)) && fx.all fun f => f.ok (K z)) && fn.all fun d => d.ok (K z)), fn.map fun d => fnAt (K z) (d.wh.ad (K z))), tb.map fun t => He.dicW (K z) (He.ga (K z) t.1)), tab2 (K z) (He.ga (K z) x)), (ga z, gb z)) : AlX))) = some (u, v, ((((true, fn.map Df.val), vt), w2), (true, true))) := by
  cases o with
  | none => cases h1
  | some z =>
    simp only [Option.map_some, Option.some.injEq, Prod.mk.injEq, Bool.and_eq_true] at h1 h2 h3 ⊢
    obtain ⟨p1, p2, p3, p4⟩ := h1
    obtain ⟨⟨a1, a2⟩, a3⟩ := h2
    obtain ⟨⟨⟨b1, b2⟩, b3⟩, b4, b5, b6⟩ := h3
    have c1 : (fa.all fun f => f.ok (K z)) = true := by
      rw [← List.take_append_drop a fa, List.all_append, a1, b1]; rfl
    have c2 : (fn.all fun d => d.ok (K z)) = true := by
      rw [← List.take_append_drop n fn, List.all_append, a2, b3]; rfl
    have c3 : (fn.map fun d => fnAt (K z) (d.wh.ad (K z))) = fn.map Df.val := by
      conv => lhs; rw [← List.take_append_drop n fn]
      rw [List.map_append, a3, b4, ← List.map_append, List.take_append_drop]
    exact ⟨p1, p2, ⟨⟨⟨⟨⟨c1, b2⟩, c2⟩, c3⟩, b5⟩, b6⟩, p3, p4⟩
end L3
namespace My
open PySem PySem.Spec PyProof.Rows L2 L3
abbrev tabX : HX.Tab := [(("stop", "open"), "stopped"), (("close", "open"), "closed"), (("close", "stopped"), "closed"), (("abort", "open"), "aborted"), (("abort", "stopped"), "cut"), (("done", "open"), "closed"), (("done", "stopped"), "closed"), (("fail", "open"), "closed"), (("fail", "stopped"), "closed")]
def top (i : Nat) : Stmt := PySem.Challenge.pw_lastbytes_k64_sure_rows_by_hand.main.body.getD i (.Pass ⟨0, 0, 0, 0⟩)
abbrev s_is_integer : Stmt := top 10
abbrev s_targets_at : Stmt := top 11
abbrev s_is_row : Stmt := top 12
abbrev s_c_Program_init : Stmt := inClass (top 13) 0
abbrev s_c_Side_init : Stmt := inClass (top 20) 0
abbrev s_c_Program_rows : Stmt := inClass (top 13) 1
abbrev s_sides_of : Stmt := top 25
abbrev s_c_Side_has_ended : Stmt := inClass (top 20) 2
abbrev s_c_Side_word : Stmt := inClass (top 20) 3
abbrev s_c_Side_after : Stmt := inClass (top 20) 1
abbrev s_c_Side_passed : Stmt := inClass (top 20) 9
abbrev s_c_Side_has_given : Stmt := inClass (top 20) 4
abbrev s_c_Side_answer : Stmt := inClass (top 20) 10
abbrev s_c_Side_answered : Stmt := inClass (top 20) 7
abbrev s_c_Side_gone : Stmt := inClass (top 20) 11
abbrev s_c_Side_is_free : Stmt := inClass (top 20) 5
abbrev s_c_Side_left : Stmt := inClass (top 20) 6
abbrev s_most_read : Stmt := top 28
abbrev s_c_Side_moved : Stmt := inClass (top 20) 8
abbrev s_write_end : Stmt := top 29
abbrev s_most_written : Stmt := top 27
abbrev s_read_ends : Stmt := top 30
abbrev s_row_ends : Stmt := top 31
abbrev s_stand_of : Stmt := top 26
abbrev s_replaced : Stmt := top 21
abbrev s_reset_fates : Stmt := top 32
abbrev s_c_Side_reset : Stmt := inClass (top 20) 12
abbrev s_moves : Stmt := top 33
abbrev s_fits : Stmt := top 34
abbrev s_moves_at : Stmt := top 35
abbrev s_next_stands : Stmt := top 36
abbrev s_reached : Stmt := top 37
abbrev s_sure : Stmt := top 39
abbrev s_w_both : Stmt := top 41
abbrev s_w_is_right : Stmt := top 42
abbrev s_law : Stmt := top 43
def faL : List He.Fa := [.free "isinstance", .free "int", .free "bool", .free "tuple", .free "len", .free "str", .glo "is_integer", .free "all", .glo "targets_at", .free "list", .free "enumerate", .glo "is_row", .cls "Program", .noat "Program" "listed", .cls "Side", .noat "Side" "listing", .noat "Side" "row", .noat "Side" "hand", .noat "Side" "heard", .noat "Side" "part", .noat "Side" "told", .noat "Side" "had", .noat "Side" "replies", .mkr "Side", .glo "Side", .meth "Side" "has_ended", .meth "Side" "word", .meth "Side" "after", .glo "HANDS", .meth "Side" "has_given", .meth "Side" "passed", .meth "Side" "answer", .meth "Side" "answered", .meth "Side" "is_free", .meth "Side" "left", .glo "most_read", .free "max", .meth "Side" "moved", .glo "most_written", .meth "Side" "gone", .glo "write_end", .glo "read_ends", .free "zip", .glo "sides_of", .glo "row_ends", .glo "stand_of", .glo "replaced", .glo "reset_fates", .meth "Side" "reset", .glo "moves", .glo "fits", .glo "moves_at", .glo "next_stands", .glo "reached", .free "sorted", .mkr "Program", .glo "Program", .glo "sure", .glo "_law_both", .free "abs", .glo "_law_is_right", .glo "law", .glo "SIZES"]
def fxL : List Fx := [.bool (gcB "WORDS" (.ktp [.str "write", .str "read", .str "drain", .str "stop", .str "close", .str "abort", .str "done", .str "fail"])), .bool (ktB "SIZES" [("write", .int 3), ("read", .int 4), ("drain", .int 2)]), .bool (gcB "MOST_AMOUNT" (.int 1000000000000000000)), .bool (gcB "MOST_ROWS" (.int 24)), .bool (gcB "VERDICTS" (.ktp [.str "done", .str "fail"])), .bool (fun K => kd K (.ref (kwdV K (He.ma K (He.ga K "Side") "__init__") "replies")) (.ktp [])), .prp "Program" "rows", .bool (gcB "GIVEN" (.ktp [.str "closed", .str "aborted", .str "cut"])), .bool (gcB "CALLS" (.ktp [.str "write", .str "read", .str "drain"])), .bool (gcB "READS" (.ktp [.str "read", .str "drain"])), .bool (gcB "ENDED" (.ktp [.str "stopped", .str "closed", .str "cut"])), .bool (gcB "HARD" (.ktp [.str "aborted", .str "cut"])), .bool (gcB "FIRST" (.ktp [.ktp [.int 0, .str "open", .str "", .int 0, .int 0, .str ""], .ktp [.int 0, .str "open", .str "", .int 0, .int 0, .str ""]]))]
def fnL : List Df := [⟨.glo "is_integer", "is_integer", "is_integer", s_is_integer, [], []⟩,
  ⟨.glo "targets_at", "targets_at", "targets_at", s_targets_at, [], []⟩,
  ⟨.glo "is_row", "is_row", "is_row", s_is_row, [], []⟩,
  ⟨.mth "Program" "__init__", "__init__", "Program.__init__", s_c_Program_init, [], []⟩,
  ⟨.mth "Side" "__init__", "__init__", "Side.__init__", s_c_Side_init, [], [("row", .int 0), ("hand", .str "open"), ("heard", .str ""), ("part", .int 0), ("told", .int 0), ("had", .int 0), ("replies", .adr (fun K => (kwdV K (He.ma K (He.ga K "Side") "__init__") "replies")))]⟩,
  ⟨.rcd "Program" "rows" "property", "rows", "Program.rows", s_c_Program_rows, [], []⟩,
  ⟨.glo "sides_of", "sides_of", "sides_of", s_sides_of, [], []⟩,
  ⟨.mth "Side" "has_ended", "has_ended", "Side.has_ended", s_c_Side_has_ended, [], []⟩,
  ⟨.mth "Side" "word", "word", "Side.word", s_c_Side_word, [], []⟩,
  ⟨.mth "Side" "after", "after", "Side.after", s_c_Side_after, [], []⟩,
  ⟨.mth "Side" "passed", "passed", "Side.passed", s_c_Side_passed, [], []⟩,
  ⟨.mth "Side" "has_given", "has_given", "Side.has_given", s_c_Side_has_given, [], []⟩,
  ⟨.mth "Side" "answer", "answer", "Side.answer", s_c_Side_answer, [], []⟩,
  ⟨.mth "Side" "answered", "answered", "Side.answered", s_c_Side_answered, [], []⟩,
  ⟨.mth "Side" "gone", "gone", "Side.gone", s_c_Side_gone, [], []⟩,
  ⟨.mth "Side" "is_free", "is_free", "Side.is_free", s_c_Side_is_free, [], []⟩,
  ⟨.mth "Side" "left", "left", "Side.left", s_c_Side_left, [], []⟩,
  ⟨.glo "most_read", "most_read", "most_read", s_most_read, [], []⟩,
  ⟨.mth "Side" "moved", "moved", "Side.moved", s_c_Side_moved, [], []⟩,
  ⟨.glo "write_end", "write_end", "write_end", s_write_end, [], []⟩,
  ⟨.glo "most_written", "most_written", "most_written", s_most_written, [], []⟩,
  ⟨.glo "read_ends", "read_ends", "read_ends", s_read_ends, [], []⟩,
  ⟨.glo "row_ends", "row_ends", "row_ends", s_row_ends, [], []⟩,
  ⟨.glo "stand_of", "stand_of", "stand_of", s_stand_of, [], []⟩,
  ⟨.glo "replaced", "replaced", "replaced", s_replaced, [], []⟩,
  ⟨.glo "reset_fates", "reset_fates", "reset_fates", s_reset_fates, [], []⟩,
  ⟨.mth "Side" "reset", "reset", "Side.reset", s_c_Side_reset, [], []⟩,
  ⟨.glo "moves", "moves", "moves", s_moves, [], []⟩,
  ⟨.glo "fits", "fits", "fits", s_fits, [], []⟩,
  ⟨.glo "moves_at", "moves_at", "moves_at", s_moves_at, [], []⟩,
  ⟨.glo "next_stands", "next_stands", "next_stands", s_next_stands, [], []⟩,
  ⟨.glo "reached", "reached", "reached", s_reached, [], []⟩,
  ⟨.glo "sure", "sure", "sure", s_sure, [], []⟩,
  ⟨.glo "_law_both", "_law_both", "_law_both", s_w_both, [], []⟩,
  ⟨.glo "_law_is_right", "_law_is_right", "_law_is_right", s_w_is_right, [], []⟩,
  ⟨.glo "law", "law", "law", s_law, [], []⟩]
def tbL : List Tb := [("SIZES", ["write", "read", "drain"])]
end My
namespace My
open PySem PySem.Spec PyProof.Rows L2 L3
open HandSHeadRun HX PySem.W
abbrev R : PySem.W.OpenRow := PySem.W.OpenLaw.row PySem.Challenge.rw_lastbytes_k64_sure_rows_by_hand
abbrev adsA : List Addr := ([2, 3, 6, 4, 21, 38, 42, 43, 44, 45, 52, 59, 64, 127, 138, 139, 140, 141, 142, 254, 265, 268, 269, 276, 281, 288, 295, 302, 309, 316, 323, 330, 335, 340, 345, 352, 357, 362, 369, 374] : List Addr) ++ ([0, 20, 37, 51, 58, 63, 126, 137, 253, 264, 266, 267, 275, 280, 287, 294, 301, 308, 315, 322, 329, 334, 339, 344, 351, 356, 361, 368, 373, 15, 16, 17, 18, 19, 35, 36, 39, 46, 47, 48] : List Addr) ++ ([49, 50, 53, 54, 55, 56, 57, 60, 61, 62, 78, 86, 95, 103, 110, 117, 124, 125, 128, 129, 132, 133, 134, 135, 136, 167, 174, 181, 188, 195, 202, 209, 216, 223, 230, 237, 244, 251, 252, 255] : List Addr) ++ ([256, 259, 260, 261, 262, 263, 270, 271, 272, 273, 274, 277, 278, 279, 282, 283, 284, 285, 286, 289, 290, 291, 292, 293, 296, 297, 298, 299, 300, 303, 304, 305, 306, 307, 310, 311, 312, 313, 314, 317] : List Addr) ++ ([318, 319, 320, 321] : List Addr)
abbrev adsB : List Addr := ([324, 325, 326, 327, 328, 331, 332, 333, 336, 337, 338, 341, 342, 343, 346, 347, 348, 349, 350, 353, 354, 355, 358, 359, 360, 363, 364, 365, 366, 367, 370, 371, 372, 34, 77, 85, 93, 94, 102, 109] : List Addr) ++ ([116, 123, 166, 160, 173, 180, 187, 194, 201, 208, 215, 222, 229, 236, 243, 250, 29, 30, 31, 32, 33, 72, 73, 74, 75, 76, 84, 92, 96, 97, 98, 99, 100, 101, 104, 105, 106, 107, 108, 111] : List Addr) ++ ([112, 113, 114, 115, 118, 119, 120, 121, 122, 161, 162, 163, 164, 165, 159, 168, 169, 170, 171, 172, 175, 176, 177, 178, 179, 182, 183, 184, 185, 186, 189, 190, 191, 192, 193, 196, 197, 198, 199, 200] : List Addr) ++ ([203, 204, 205, 206, 207, 210, 211, 212, 213, 214, 217, 218, 219, 220, 221, 224, 225, 226, 227, 228, 231, 232, 233, 234, 235, 238, 239, 240, 241, 242, 245, 246, 247, 248, 249, 143, 144, 145, 146, 147] : List Addr) ++ ([148, 149, 150, 151] : List Addr)
abbrev hk : PySem.W.Hook := hookX adsA adsB faL fxL fnL tbL "HANDS" tabX
noncomputable def ob (s : PySem.W.SharedT) : AlX := obsXG adsA adsB faL fxL fnL tbL "HANDS" (HandSHeadRun.getT s)
abbrev MM : Nat := 30000
abbrev qv : Program := PySem.W.view R.prog [43]
def loose : List Str := (["_wall", "__name__", "BadProgram", "WORDS", "CALLS", "VERDICTS", "SIZES", "MOST_ROWS", "MOST_AMOUNT", "is_integer", "targets_at", "is_row", "Program", "counted", "GIVEN", "ENDED", "HARD", "HANDS", "Side", "replaced"] : List Str) ++ (["FIRST", "READS", "sides_of", "stand_of", "most_written", "most_read", "write_end", "read_ends", "row_ends", "reset_fates", "moves", "fits", "moves_at", "next_stands", "reached", "sure", "_law_both", "_law_is_right"] : List Str)
noncomputable abbrev KK (s : PySem.W.SharedT) : PySem.W.Frag := frT (adsA ++ adsB) (HandSHeadRun.getT s)
theorem hq : ((partsOf ((bodyX R.prog)[19]?)).bind fun z => (tabB z.2.1 z.2.2.1).map fun t => (z.1, t)) = some (("HANDS" : Str), tabX) := by kernel_rfl
theorem hE1 (w : World) (os : OsState) : (preX R.prog MM (stWQ R.prog) w os).map (·.2) = some ⟨denQ tabQ (.body (bodyX R.prog) (envX R.prog MM (stWQ R.prog) w os)), codeX R.prog MM (stWQ R.prog) w os, (preT R.prog MM (stWQ R.prog) w os).pos, [topFrame (qX R.prog MM (stWQ R.prog) w os)]⟩ := by
  kernel_rfl
theorem hE2 (w : World) (os : OsState) : segC (blkX R.prog MM (stWQ R.prog) w os) = some (.next, codeX R.prog MM (stWQ R.prog) w os) := by
  kernel_rfl
theorem hE3f (w : World) (os : OsState) : segC (aheadX R.prog MM 19 (stWQ R.prog) (w.withFollow "special-get-raises" false) os) = some (.next, codeX R.prog MM (stWQ R.prog) (w.withFollow "special-get-raises" false) os) := by
  kernel_rfl
theorem hE3t (w : World) (os : OsState) : segC (aheadX R.prog MM 19 (stWQ R.prog) (w.withFollow "special-get-raises" true) os) = some (.next, codeX R.prog MM (stWQ R.prog) (w.withFollow "special-get-raises" true) os) := by
  kernel_rfl
theorem hE3 : ∀ (w : World) (os : OsState), segC (aheadX R.prog MM 19 (stWQ R.prog) w os) = some (.next, codeX R.prog MM (stWQ R.prog) w os) :=
  byRow2 "special-get-raises" (P := fun w => ∀ (os : OsState), segC (aheadX R.prog MM 19 (stWQ R.prog) w os) = some (.next, codeX R.prog MM (stWQ R.prog) w os)) hE3f hE3t
theorem hE4f (w : World) (os : OsState) : nsOkT (s1X R.prog MM 19 (stWQ R.prog) (w.withFollow "special-get-raises" false) os) = true := by
  kernel_rfl
theorem hE4t (w : World) (os : OsState) : nsOkT (s1X R.prog MM 19 (stWQ R.prog) (w.withFollow "special-get-raises" true) os) = true := by
  kernel_rfl
theorem hE4 : ∀ (w : World) (os : OsState), nsOkT (s1X R.prog MM 19 (stWQ R.prog) w os) = true :=
  byRow2 "special-get-raises" (P := fun w => ∀ (os : OsState), nsOkT (s1X R.prog MM 19 (stWQ R.prog) w os) = true) hE4f hE4t
theorem hns (w : World) (os : OsState) (v : Value) : storeName (envX R.prog MM (stWQ R.prog) w os) "HANDS" v = nsSet mainNs "HANDS" v := by
  kernel_rfl
theorem e5fA (w : World) (os : OsState) (q2 : PySem.Pos) : (goX R.prog MM 19 tabX "HANDS" (stWQ R.prog) (denQ tabQ) (w.withFollow "special-get-raises" false) os q2).map (fun z => (looksF R.prog (boot_heap (w.withFollow "special-get-raises" false).params) z.1.abs, seenQ qv loose (importedModules R.prog.main.body) (fun s => xlAt qv [] s && recOk R.toRowW.records s) z.1.abs, (ob z.1).2.1, (ob z.1).2.2)) = some (true, openGood qv loose, true, true) := by
  kernel_rfl
theorem e5fB (w : World) (os : OsState) (q2 : PySem.Pos) : (goX R.prog MM 19 tabX "HANDS" (stWQ R.prog) (denQ tabQ) (w.withFollow "special-get-raises" false) os q2).map (fun z => ((((faL.take 37).all fun f => f.ok (KK z.1)) && (fnL.take 21).all fun d => d.ok (KK z.1)), (fnL.take 21).map fun d => fnAt (KK z.1) (d.wh.ad (KK z.1)))) = some (true, (fnL.take 21).map Df.val) := by
  kernel_rfl
theorem e5fC (w : World) (os : OsState) (q2 : PySem.Pos) : (goX R.prog MM 19 tabX "HANDS" (stWQ R.prog) (denQ tabQ) (w.withFollow "special-get-raises" false) os q2).map (fun z => (((((faL.drop 37).all fun f => f.ok (KK z.1)) && fxL.all fun f => f.ok (KK z.1)) && (fnL.drop 21).all fun d => d.ok (KK z.1)), ((fnL.drop 21).map fun d => fnAt (KK z.1) (d.wh.ad (KK z.1))), (tbL.map fun t => He.dicW (KK z.1) (He.ga (KK z.1) t.1)), tab2 (KK z.1) (He.ga (KK z.1) "HANDS"))) = some (true, (fnL.drop 21).map Df.val, (tbL.map fun t => some (He.keysIn (w.withFollow "special-get-raises" false).params t.2)), (some (val2 (w.withFollow "special-get-raises" false) tabX))) := by
  kernel_rfl
theorem hE5f (w : World) (os : OsState) (q2 : PySem.Pos) : (goX R.prog MM 19 tabX "HANDS" (stWQ R.prog) (denQ tabQ) (w.withFollow "special-get-raises" false) os q2).map (fun z => (looksF R.prog (boot_heap (w.withFollow "special-get-raises" false).params) z.1.abs, seenQ qv loose (importedModules R.prog.main.body) (fun s => xlAt qv [] s && recOk R.toRowW.records s) z.1.abs, ob z.1)) = some (true, openGood qv loose, (hk.val (w.withFollow "special-get-raises" false))) := by
  have h := comb3 (o := (goX R.prog MM 19 tabX "HANDS" (stWQ R.prog) (denQ tabQ) (w.withFollow "special-get-raises" false) os q2)) (p := fun z => looksF R.prog (boot_heap (w.withFollow "special-get-raises" false).params) z.1.abs) (q := fun z => seenQ qv loose (importedModules R.prog.main.body) (fun s => xlAt qv [] s && recOk R.toRowW.records s) z.1.abs) (K := fun z => (KK z.1)) (ga := fun z => (ob z.1).2.1) (gb := fun z => (ob z.1).2.2) (x := "HANDS") 37 21 (e5fA w os q2) (e5fB w os q2) (e5fC w os q2)
  exact h
theorem e5tA (w : World) (os : OsState) (q2 : PySem.Pos) : (goX R.prog MM 19 tabX "HANDS" (stWQ R.prog) (denQ tabQ) (w.withFollow "special-get-raises" true) os q2).map (fun z => (looksF R.prog (boot_heap (w.withFollow "special-get-raises" true).params) z.1.abs, seenQ qv loose (importedModules R.prog.main.body) (fun s => xlAt qv [] s && recOk R.toRowW.records s) z.1.abs, (ob z.1).2.1, (ob z.1).2.2)) = some (true, openGood qv loose, true, true) := by
  kernel_rfl
theorem e5tB (w : World) (os : OsState) (q2 : PySem.Pos) : (goX R.prog MM 19 tabX "HANDS" (stWQ R.prog) (denQ tabQ) (w.withFollow "special-get-raises" true) os q2).map (fun z => ((((faL.take 37).all fun f => f.ok (KK z.1)) && (fnL.take 21).all fun d => d.ok (KK z.1)), (fnL.take 21).map fun d => fnAt (KK z.1) (d.wh.ad (KK z.1)))) = some (true, (fnL.take 21).map Df.val) := by
  kernel_rfl
theorem e5tC (w : World) (os : OsState) (q2 : PySem.Pos) : (goX R.prog MM 19 tabX "HANDS" (stWQ R.prog) (denQ tabQ) (w.withFollow "special-get-raises" true) os q2).map (fun z => (((((faL.drop 37).all fun f => f.ok (KK z.1)) && fxL.all fun f => f.ok (KK z.1)) && (fnL.drop 21).all fun d => d.ok (KK z.1)), ((fnL.drop 21).map fun d => fnAt (KK z.1) (d.wh.ad (KK z.1))), (tbL.map fun t => He.dicW (KK z.1) (He.ga (KK z.1) t.1)), tab2 (KK z.1) (He.ga (KK z.1) "HANDS"))) = some (true, (fnL.drop 21).map Df.val, (tbL.map fun t => some (He.keysIn (w.withFollow "special-get-raises" true).params t.2)), (some (val2 (w.withFollow "special-get-raises" true) tabX))) := by
  kernel_rfl
theorem hE5t (w : World) (os : OsState) (q2 : PySem.Pos) : (goX R.prog MM 19 tabX "HANDS" (stWQ R.prog) (denQ tabQ) (w.withFollow "special-get-raises" true) os q2).map (fun z => (looksF R.prog (boot_heap (w.withFollow "special-get-raises" true).params) z.1.abs, seenQ qv loose (importedModules R.prog.main.body) (fun s => xlAt qv [] s && recOk R.toRowW.records s) z.1.abs, ob z.1)) = some (true, openGood qv loose, (hk.val (w.withFollow "special-get-raises" true))) := by
  have h := comb3 (o := (goX R.prog MM 19 tabX "HANDS" (stWQ R.prog) (denQ tabQ) (w.withFollow "special-get-raises" true) os q2)) (p := fun z => looksF R.prog (boot_heap (w.withFollow "special-get-raises" true).params) z.1.abs) (q := fun z => seenQ qv loose (importedModules R.prog.main.body) (fun s => xlAt qv [] s && recOk R.toRowW.records s) z.1.abs) (K := fun z => (KK z.1)) (ga := fun z => (ob z.1).2.1) (gb := fun z => (ob z.1).2.2) (x := "HANDS") 37 21 (e5tA w os q2) (e5tB w os q2) (e5tC w os q2)
  exact h
theorem hE5 : ∀ (w : World) (os : OsState) (q2 : PySem.Pos), (goX R.prog MM 19 tabX "HANDS" (stWQ R.prog) (denQ tabQ) w os q2).map (fun z => (looksF R.prog (boot_heap w.params) z.1.abs, seenQ qv loose (importedModules R.prog.main.body) (fun s => xlAt qv [] s && recOk R.toRowW.records s) z.1.abs, ob z.1)) = some (true, openGood qv loose, hk.val w) :=
  byRow2 "special-get-raises" (P := fun w => ∀ (os : OsState) (q2 : PySem.Pos), (goX R.prog MM 19 tabX "HANDS" (stWQ R.prog) (denQ tabQ) w os q2).map (fun z => (looksF R.prog (boot_heap w.params) z.1.abs, seenQ qv loose (importedModules R.prog.main.body) (fun s => xlAt qv [] s && recOk R.toRowW.records s) z.1.abs, ob z.1)) = some (true, openGood qv loose, hk.val w)) hE5f hE5t
open PySem.Calls in
theorem hOk : (chainsOk qv && opensWell R.prog && (frees R.toRowW && R.within.isEmpty)) = true := by decide +kernel
open PySem.Calls in
theorem hBare : R.prog.bare := ⟨rfl, rfl, rfl, rfl, rfl, by decide +kernel⟩
open PySem PySem.W PySem.Calls PyProof.Rows in
set_option maxRecDepth 100000 in
set_option maxHeartbeats 0 in
theorem hLaw (k : (PySem.W.OpenLaw.row PySem.Challenge.rw_lastbytes_k64_sure_rows_by_hand).wellSaid = true → (PySem.W.OpenLaw.row PySem.Challenge.rw_lastbytes_k64_sure_rows_by_hand).Holds) : PySem.Challenge.rw_lastbytes_k64_sure_rows_by_hand.Holds := by
  w_on; o_law
  rename_i said
  exact k said
end My
namespace L3
open PySem L2
theorem ORep.rep {K : KW} {F : Hp} {p : Addr} {o : HO} {d : D} (h : ORep K F o d) (e : F p = some o) : Rep K F (.ref p) d := by
  cases h with
  | lst r => exact .lst e r
  | dk r => exact .dk e r
  | dd m o r => exact .dd m e o r
  | ins r => exact .ins e r
theorem Reps.get' {K : KW} {F : Hp} : ∀ {vs : List V} {ds : List D} {i : Nat} {v : V}, Reps K F vs ds → vs[i]? = some v → ∃ d, ds[i]? = some d ∧ Rep K F v d
  | _, _, i, _, .nil, e => by simp at e
  | _, _, 0, _, .cons h _, e => by simp at e; subst e; exact ⟨_, rfl, h⟩
  | _, _, i + 1, d, .cons _ r, e => by
    obtain ⟨v, h1, h2⟩ := Reps.get' (i := i) (v := d) r (by simpa using e)
    exact ⟨v, by simpa using h1, h2⟩
theorem Reps.append {K : KW} {F : Hp} : ∀ {vs ws : List V} {ds es : List D}, Reps K F vs ds → Reps K F ws es → Reps K F (vs ++ ws) (ds ++ es)
  | _, _, _, _, .nil, q => q
  | _, _, _, _, .cons h r, q => .cons h (Reps.append r q)
theorem Reps.dropLast {K : KW} {F : Hp} {vs : List V} {ds : List D} (r : Reps K F vs ds) : Reps K F vs.dropLast ds.dropLast := by
  rw [List.dropLast_eq_take, List.dropLast_eq_take, r.length]; exact r.take _
theorem Reps.reverse {K : KW} {F : Hp} : ∀ {vs : List V} {ds : List D}, Reps K F vs ds → Reps K F vs.reverse ds.reverse
  | _, _, .nil => .nil
  | _, _, .cons h r => by rw [List.reverse_cons, List.reverse_cons]; exact (Reps.reverse r).append (.cons h .nil)
/-- ints are represented by themselves -/
theorem Reps.ints {K : KW} {F : Hp} : ∀ {vs : List V} {ns : List Int}, Reps K F vs (ns.map D.int) → vs = ns.map V.int
  | _, [], r => by cases r; rfl
  | _, n :: ns, r => by
    cases r with
    | cons h r => cases h; rw [Reps.ints r]; rfl
theorem reps_ints {K : KW} {F : Hp} : ∀ (ns : List Int), Reps K F (ns.map V.int) (ns.map D.int)
  | [] => .nil
  | _ :: ns => .cons .int (reps_ints ns)
section
variable {K : KW} {F H F' H' : Hp}
theorem Rep.ub1 {v : V} {d : D} (h : Rep K F v d) : ub1 d = d := by cases h <;> rfl
theorem BRep.rep (s : Same F F') {v : V} {d : D} (h : BRep K F H v d) (k : ∀ a ∈ bx1 v d, F' a = H a) : Rep K F' v (L3.ub1 d) := by
  cases h with
  | d r => rw [r.ub1]; exact r.mono s
  | box h1 h2 h3 => exact (h3.mono s).rep (by rw [k _ (List.mem_singleton.mpr rfl)]; exact h2)
theorem BReps.reps (s : Same F F') : ∀ {vs : List V} {ds : List D}, BReps K F H vs ds → (∀ a ∈ bxs vs ds, F' a = H a) → Reps K F' vs (ds.map L3.ub1)
  | _, _, .nil, _ => .nil
  | _, _, .cons h r, k => .cons (h.rep s fun a m => k a (List.mem_append_left _ m)) (r.reps s fun a m => k a (List.mem_append_right _ m))
theorem RepF.of : ∀ {vs : List (Str × V)} {ds : List (Str × D)}, vs.map (·.1) = ds.map (·.1) → Reps K F (vs.map (·.2)) (ds.map fun p => L3.ub1 p.2) → RepF K F vs (ds.map fun p => (p.1, L3.ub1 p.2))
  | [], [], _, _ => .nil
  | [], _ :: _, e, _ => by cases e
  | _ :: _, [], e, _ => by cases e
  | (n, v) :: vs, (m, d) :: ds, e, .cons h r => by
    obtain ⟨e1, e2⟩ := List.cons.inj e
    have e1' : n = m := e1
    subst e1'
    exact .cons h (RepF.of e2 r)
theorem TRep.orep (s : Same F F') {o : HO} {d : D} (h : TRep K F H o d) (k : ∀ a ∈ bx o d, F' a = H a) : ORep K F' o (L3.ub d) := by
  cases h with
  | lst r => exact .lst (r.reps s k)
  | ins e r => exact .ins (RepF.of e (by have := r.reps s k; rw [List.map_map] at this; exact this))
end
theorem OwnAt.of {H : Hp} {σ : St} {ρ : Env} {i : Nat} {l : Addr} {t : Option Nat} {xs : D} (h1 : σ[i]? = some (some (.ref l))) (h2 : ρ[i]? = some (some (.own t xs))) : OwnAt H σ ρ i l := ⟨l, h1, .inl ⟨⟨t, xs, h2⟩, rfl⟩⟩
theorem OwnAt.ofT {H : Hp} {σ : St} {ρ : Env} {i : Nat} {l a : Addr} {t : Option Nat} {xs : D} {o : HO} (h1 : σ[i]? = some (some (.ref l))) (h2 : ρ[i]? = some (some (.tre t xs))) (h3 : H l = some o) (h : a ∈ l :: bx o xs) : OwnAt H σ ρ i a := ⟨l, h1, .inr ⟨t, xs, o, h2, h3, h⟩⟩
section
variable {K : KW} {g : Gx} {F H F' H' : Hp} {σ : St} {ρ : Env}
theorem TRep.no {o : HO} {d : D} {l : Addr} (h : TRep K F H o d) {F' : Hp} (s : Same F F') (hF : ∀ a, a ≠ l → F' a = F a) (hn : l ∉ bx o d) : TRep K F' H o d := h.move s fun a m => by
  refine ⟨?_, rfl⟩
  rw [hF a fun e => hn (e ▸ m)]
  exact (h.at_ a m).1
/-- frozen from now on: a list that is in no slot -/
theorem Gd.freeze (G : Gd K g F H σ ρ) {l : Addr} {vs : HO} (hl : H l = some vs) (hf : F l = none) (hn : g.H0 l = none) (hp : g.pin l = none) (no : ∀ i, ¬ OwnAt H σ ρ i l) : Gd K g (upd F l vs) H σ ρ where
  len := G.len
  slot := fun i s e => by
    have q := G.slot i s e
    have sm : Same F (upd F l vs) := fun b u e => by rw [upd_ne (ne_of_none e hf)]; exact e
    cases s with
    | d d => obtain ⟨v, e, r⟩ := q; exact ⟨v, e, r.mono sm⟩
    | own t xs =>
      obtain ⟨k, ws, e1, tg, fk, hk, r⟩ := q
      refine ⟨k, ws, e1, tg, ?_, hk, r.mono sm⟩
      rw [upd_ne]; exact fk
      intro z
      subst z
      exact no i (.of e1 e)
    | tre t xs =>
      obtain ⟨k, ws, e1, tg, fk, hk, r, nd, tx⟩ := q
      have ne : ∀ a ∈ k :: bx ws xs, a ≠ l := fun a m z => no i (.ofT e1 e hk (z ▸ m))
      refine ⟨k, ws, e1, tg, ?_, hk, r.no sm (fun a h => upd_ne h) fun m => ne l (List.mem_cons_of_mem _ m) rfl, nd, tx⟩
      rw [upd_ne (ne k List.mem_cons_self)]; exact fk
  dist := G.dist
  sub := fun b u e => by
    by_cases hb : b = l
    · subst hb; rw [upd_same] at e; cases e; exact hl
    · rw [upd_ne hb] at e; exact G.sub _ _ e
  old := fun b u e => by
    have q := G.old _ _ e
    rw [upd_ne (ne_of_none q hf)]; exact q
  keep := G.keep
  grow := G.grow
  new := fun b u e => by
    by_cases hb : b = l
    · subst hb; exact .inr hn
    · rw [upd_ne hb] at e; exact G.new _ _ e
  pinned := fun b o h => by
    obtain ⟨h1, h2, h3⟩ := G.pinned b o h
    refine ⟨h1, ?_, h3⟩
    rw [upd_ne]; exact h2
    intro z
    subst z
    rw [hp] at h; cases h
end
mutual
theorem Rep.cut {K : KW} {F F' : Hp} (k : ∀ p o, F p = some o → isLst o = false → F' p = some o) : ∀ {v : V} {d : D}, lf d = true → Rep K F v d → Rep K F' v d
  | _, _, _, .non => .non
  | _, _, _, .bl => .bl
  | _, _, _, .int => .int
  | _, _, _, .str => .str
  | _, _, e, .tup h r => .tup (k _ _ h rfl) (Reps.cut k (by simpa [lf] using e) r)
  | _, _, e, .ktp h r => .ktp (SqT.keep k h) (Reps.cut k (by simpa [lf] using e) r)
  | _, _, e, .ins h r => by simp [lf] at e
  | _, _, _, .cls => .cls
  | _, _, _, .bty => .bty
  | _, _, e, .lst h r => by simp [lf] at e
  | _, _, e, .dk h r => by simp [lf] at e
  | _, _, e, .dd m h o r => by simp [lf] at e
  | _, _, e, .scr h => by simp [lf] at e
theorem Reps.cut {K : KW} {F F' : Hp} (k : ∀ p o, F p = some o → isLst o = false → F' p = some o) : ∀ {v : List V} {d : List D}, lfs d = true → Reps K F v d → Reps K F' v d
  | _, _, _, .nil => .nil
  | _, _, e, .cons h r => by
    simp only [lfs, Bool.and_eq_true] at e
    exact .cons (Rep.cut k e.1 h) (Reps.cut k e.2 r)
theorem RepF.cut {K : KW} {F F' : Hp} (k : ∀ p o, F p = some o → isLst o = false → F' p = some o) : ∀ {v : List (Str × V)} {d : List (Str × D)}, lff d = true → RepF K F v d → RepF K F' v d
  | _, _, _, .nil => .nil
  | _, _, e, .cons h r => by
    simp only [lff, Bool.and_eq_true] at e
    exact .cons (Rep.cut k e.1 h) (RepF.cut k e.2 r)
end
def lfk : List (Key × D) → Bool
  | [] => true
  | (_, d) :: r => lf d && lfk r
def lfe : List (D × D) → Bool
  | [] => true
  | (k, d) :: r => lf k && lf d && lfe r
/-- nothing in it may be changed -/
def lfo : D → Bool
  | .lst l => lfs l
  | .dk l => lfk l
  | .dd l => lfe l
  | .ins _ l => lff l
  | _ => false
theorem RepK.cut {K : KW} {F F' : Hp} (k : ∀ p o, F p = some o → isLst o = false → F' p = some o) : ∀ {v : List (Key × V)} {d : List (Key × D)}, lfk d = true → RepK K F v d → RepK K F' v d
  | _, _, _, .nil => .nil
  | _, _, e, .cons h r => by
    simp only [lfk, Bool.and_eq_true] at e
    exact .cons (Rep.cut k e.1 h) (RepK.cut k e.2 r)
theorem RepE.cut {K : KW} {F F' : Hp} (k : ∀ p o, F p = some o → isLst o = false → F' p = some o) : ∀ {v : List DEn} {d : List (D × D)}, lfe d = true → RepE K F v d → RepE K F' v d
  | _, _, _, .nil => .nil
  | _, _, e, .cons n q h r => by
    simp only [lfe, Bool.and_eq_true] at e
    exact .cons n (Rep.cut k e.1.1 q) (Rep.cut k e.1.2 h) (RepE.cut k e.2 r)
theorem ORep.cut {K : KW} {F F' : Hp} (k : ∀ p o, F p = some o → L3.isLst o = false → F' p = some o) {o : HO} {d : D} (e : lfo d = true) (h : ORep K F o d) : ORep K F' o d := by
  cases h with
  | lst r => exact .lst (r.cut k e)
  | dk r => exact .dk (r.cut k e)
  | dd m o r => exact .dd m o (RepE.cut k e r)
  | ins r => exact .ins (RepF.cut k e r)
open Classical in
/-- all owned things frozen for a moment -/
noncomputable def lent (σ : St) (ρ : Env) (F H : Hp) : Hp := fun b => if ∃ i, OwnAt H σ ρ i b then H b else F b
open Classical in
/-- and given back -/
noncomputable def back (H : Hp) (σ : St) (ρ : Env) (F : Hp) : Hp := fun b => if ∃ i, OwnAt H σ ρ i b then none else F b
section
variable {K : KW} {g : Gx} {F H F' H' : Hp} {σ : St} {ρ : Env}
theorem lent_at {i : Nat} {b : Addr} (h : OwnAt H σ ρ i b) : lent σ ρ F H b = H b := by unfold lent; rw [if_pos ⟨i, h⟩]
theorem lent_no {b : Addr} (h : ¬ ∃ i, OwnAt H σ ρ i b) : lent σ ρ F H b = F b := by unfold lent; rw [if_neg h]
theorem Gd.lentF (G : Gd K g F H σ ρ) : Same F (lent σ ρ F H) := fun b o e => by
  by_cases h : ∃ i, OwnAt H σ ρ i b
  · obtain ⟨i, h⟩ := h
    rw [(G.own h).1] at e; cases e
  · rw [lent_no h]; exact e
theorem Gd.lentH (G : Gd K g F H σ ρ) : Same (lent σ ρ F H) H := fun b o e => by
  by_cases h : ∃ i, OwnAt H σ ρ i b
  · obtain ⟨i, h⟩ := h
    rw [lent_at h] at e; exact e
  · rw [lent_no h] at e; exact G.sub _ _ e
/-- a lent thing is data -/
theorem Gd.lentRep (G : Gd K g F H σ ρ) {i : Nat} {t : Option Nat} {xs : D} (h : ρ[i]? = some (some (.own t xs))) {v : V} (hv : σ[i]? = some (some v)) : Rep K (lent σ ρ F H) v xs := by
  obtain ⟨l, vs, e1, tg, fl, hl, rr⟩ := G.slot i _ h
  rw [hv] at e1
  cases e1
  have o : OwnAt H σ ρ i l := .of hv h
  exact (rr.mono G.lentF).rep (by rw [lent_at o]; exact hl)
theorem Gd.lentTre (G : Gd K g F H σ ρ) {i : Nat} {t : Option Nat} {xs : D} (h : ρ[i]? = some (some (.tre t xs))) {v : V} (hv : σ[i]? = some (some v)) : Rep K (lent σ ρ F H) v (ub xs) := by
  obtain ⟨l, vs, e1, tg, fl, hl, rr, nd, tx⟩ := G.slot i _ h
  rw [hv] at e1
  cases e1
  have o : OwnAt H σ ρ i l := .ofT hv h hl List.mem_cons_self
  exact (rr.orep G.lentF fun a m => lent_at (.ofT hv h hl (List.mem_cons_of_mem _ m))).rep (by rw [lent_at o]; exact hl)
/-- behind an operation on lent things -/
theorem Gd.lentBack (G : Gd K g F H σ ρ) (x : Ext (lent σ ρ F H) H F' H') : Ext F H (back H σ ρ F') H' ∧ ∀ {w : V} {c : D}, lf c = true → Rep K F' w c → Rep K (back H σ ρ F') w c := by
  have nb : ∀ b, (¬ ∃ i, OwnAt H σ ρ i b) → back H σ ρ F' b = F' b := fun b h => by unfold back; rw [if_neg h]
  have yb : ∀ b, (∃ i, OwnAt H σ ρ i b) → back H σ ρ F' b = none := fun b h => by unfold back; rw [if_pos h]
  refine ⟨⟨x.hh, fun b o e => ?_, fun b o e => ?_, fun b o e => ?_⟩, fun {w c} e r => r.cut (fun p o e q => ?_) e⟩
  · by_cases h : ∃ i, OwnAt H σ ρ i b
    · obtain ⟨i, h⟩ := h
      rw [(G.own h).1] at e; cases e
    · rw [nb b h]
      exact x.ff _ _ (by rw [lent_no h]; exact e)
  · by_cases h : ∃ i, OwnAt H σ ρ i b
    · rw [yb b h] at e; cases e
    · rw [nb b h] at e
      exact x.sub _ _ e
  · by_cases h : ∃ i, OwnAt H σ ρ i b
    · rw [yb b h] at e; cases e
    · rw [nb b h] at e
      rcases x.new b o e with z | z
      · rw [lent_no h] at z; exact .inl z
      · exact .inr z
  · by_cases h : ∃ i, OwnAt H σ ρ i p
    · obtain ⟨i, h⟩ := h
      obtain ⟨_, u, hl, hu, _⟩ := G.own h
      have z := x.sub _ _ e
      rw [x.hh _ _ hl] at z
      cases z
      rw [hu] at q
      cases q
    · rw [nb p h]; exact e
end
abbrev NM := Env → Option (D × Env)
abbrev TM := Env → Option (Bool × Env)
def tE (K : KW) (g : Gx) (f : EM) : TE := fun σ H Q => ∃ F ρ d ρ', Gd K g F H σ ρ ∧ f ρ = some (d, ρ') ∧
  ∀ v F' H', Gd K g F' H' σ ρ' → Same F F' → Rep K F' v d → Q v H'
def tO (K : KW) (g : Gx) (f : OM) : TE := fun σ H Q => ∃ F ρ o ρ', Gd K g F H σ ρ ∧ f ρ = some (o, ρ') ∧
  ∀ v F' H', Gd K g F' H' σ ρ' → Same F F' → OpdOk K F' σ v o → Q v H'
def tA (K : KW) (g : Gx) (f : AM) : TA := fun σ H Q => ∃ F ρ os ρ', Gd K g F H σ ρ ∧ f ρ = some (os, ρ') ∧
  ∀ vs F' H', Gd K g F' H' σ ρ' → Same F F' → OpdsOk K F' σ vs os → Q vs H'
/-- a fresh list -/
def tN (K : KW) (g : Gx) (f : NM) : TE := fun σ H Q => ∃ F ρ ds ρ', Gd K g F H σ ρ ∧ f ρ = some (ds, ρ') ∧
  ∀ l o F' H', Gd K g F' H' σ ρ' → Same F F' → H' l = some o → F' l = none → g.H0 l = none → g.pin l = none → (∀ i, ¬ OwnAt H' σ ρ' i l) → ORep K F' o ds → Q (.ref l) H'
def tT (K : KW) (g : Gx) (f : TM) : TT := fun σ H Q => ∃ F ρ b ρ', Gd K g F H σ ρ ∧ f ρ = some (b, ρ') ∧
  ∀ F' H', Gd K g F' H' σ ρ' → Same F F' → Q b H'
abbrev DE (X : Cx) (g : Gx) (e : Expr) (f : EM) : Prop := PE X e (tE X.kw g f)
abbrev DO (X : Cx) (g : Gx) (e : Expr) (f : OM) : Prop := PE X e (tO X.kw g f)
abbrev DN (X : Cx) (g : Gx) (e : Expr) (f : NM) : Prop := PE X e (tN X.kw g f)
abbrev DT (X : Cx) (g : Gx) (e : Expr) (f : TM) : Prop := PT X e (tT X.kw g f)
abbrev DA (X : Cx) (g : Gx) (es : List Expr) (f : AM) : Prop := PA X es (tA X.kw g f)
theorem weakPE {X : Cx} {e : Expr} {t t' : TE} (h : PE X e t) (w : ∀ σ H Q, t' σ H Q → t σ H Q) : PE X e t' := ⟨fun pins s σ H Q I q => h.run pins s σ H Q I (w σ H Q q)⟩
theorem weakPT {X : Cx} {e : Expr} {t t' : TT} (h : PT X e t) (w : ∀ σ H Q, t' σ H Q → t σ H Q) : PT X e t' := ⟨fun pins s σ H Q I q => h.run pins s σ H Q I (w σ H Q q)⟩
theorem weakPW {X : Cx} {e : Expr} {t t' : TT} (h : PW X e t) (w : ∀ σ H Q, t' σ H Q → t σ H Q) : PW X e t' := ⟨fun wh pins s σ H Q I q => h.run wh pins s σ H Q I (w σ H Q q)⟩
theorem weakPA {X : Cx} {e : List Expr} {t t' : TA} (h : PA X e t) (w : ∀ σ H Q, t' σ H Q → t σ H Q) : PA X e t' := ⟨fun p pins s σ H Q I q => h.run p pins s σ H Q I (w σ H Q q)⟩
theorem weakPS {X : Cx} {e : Stmt} {t t' : TS} (h : PS X e t) (w : ∀ D σ H, t' D σ H → t D σ H) : PS X e t' := ⟨fun pins s σ H D I q => h.run pins s σ H D I (w D σ H q)⟩
theorem weakPSs {X : Cx} {e : List Stmt} {t t' : TS} (h : PSs X e t) (w : ∀ D σ H, t' D σ H → t D σ H) : PSs X e t' := ⟨fun pins s σ H D I q => h.run pins s σ H D I (w D σ H q)⟩
def eC (d : D) : EM := fun ρ => some (d, ρ)
def eV (i : Nat) : EM := fun ρ => match ρ[i]? with
  | some (some (.d x)) => some (x, ρ)
  | _ => none
def oV (f : EM) : OM := fun ρ => (f ρ).bind fun p => some (.val p.1, p.2)
/-- the own list of slot i, lent -/
def oR (i : Nat) : OM := fun ρ => match ρ[i]? with
  | some (some (.own _ _)) => some (.ref i, ρ)
  | some (some (.tre _ _)) => some (.ref i, ρ)
  | _ => none
def resAll (ρ : Env) : List Opd → Option (List D)
  | [] => some []
  | o :: r => (res ρ o).bind fun d => (resAll ρ r).bind fun ds => some (d :: ds)
def allVal (os : List Opd) : Bool := os.all isVal
def eL (k : List D → Option D) (f : AM) : EM := fun ρ => (f ρ).bind fun p => (resAll p.2 p.1).bind fun as => (k as).bind fun c => fin (allVal p.1) c p.2
def aN : AM := fun ρ => some ([], ρ)
def aC (f : OM) (h : AM) : AM := fun ρ => (f ρ).bind fun p => (h p.2).bind fun q => some (p.1 :: q.1, q.2)
/-- operations that only make new frozen things -/
def Op1 (K : KW) (r : V → Hp → VK → Prop) (k : D → Option D) : Prop := ∀ (F H : Hp) (v : V) (a c : D) (Q : VK), Same F H → Rep K F v a → k a = some c →
  (∀ w F' H', Ext F H F' H' → Rep K F' w c → Q w H') → r v H Q
def Op2 (K : KW) (r : R2) (k : D → D → Option D) : Prop := ∀ (F H : Hp) (v u : V) (a b c : D) (Q : VK), Same F H → Rep K F v a → Rep K F u b → k a b = some c →
  (∀ w F' H', Ext F H F' H' → Rep K F' w c → Q w H') → r v u H Q
def OpL (K : KW) (r : List V → Hp → VK → Prop) (k : List D → Option D) : Prop := ∀ (F H : Hp) (vs : List V) (as : List D) (c : D) (Q : VK), Same F H → Reps K F vs as → k as = some c →
  (∀ w F' H', Ext F H F' H' → Rep K F' w c → Q w H') → r vs H Q
section
variable {K : KW} {g : Gx} {F H F' H' : Hp} {σ : St} {ρ ρ' : Env}
theorem bnd {α β : Type} {o : Option α} {k : α → Option β} {b : β} (h : o.bind k = some b) : ∃ a, o = some a ∧ k a = some b := Option.bind_eq_some_iff.mp h
/-- the operand as data of the lent heap -/
theorem Gd.lentOpd (G : Gd K g F H σ ρ) {o : Opd} {v : V} {a : D} (h : OpdOk K F σ v o) (e : res ρ o = some a) : Rep K (lent σ ρ F H) v a := by
  cases o with
  | val d =>
    have e' : some d = some a := e
    cases e'
    exact Rep.mono G.lentF h
  | ref i =>
    simp only [res] at e
    split at e
    · rename_i t xs hx
      cases e
      exact G.lentRep hx h
    · rename_i t xs hx
      cases e
      exact G.lentTre hx h
    · cases e
  | io i => cases e
theorem Gd.lentOpds (G : Gd K g F H σ ρ) : ∀ {os : List Opd} {vs : List V} {as : List D}, OpdsOk K F σ vs os → resAll ρ os = some as → Reps K (lent σ ρ F H) vs as
  | _, _, _, .nil, e => by
    unfold resAll at e
    cases e
    exact .nil
  | _, _, _, .cons h r, e => by
    unfold resAll at e
    obtain ⟨d, e1, e⟩ := bnd e
    obtain ⟨ds, e2, e⟩ := bnd e
    cases e
    exact .cons (G.lentOpd h e1) (G.lentOpds r e2)
theorem valOpd {o : Opd} {v : V} {a : D} (h : OpdOk K F σ v o) (e : res ρ o = some a) (hv : isVal o = true) : Rep K F v a := by
  cases o with
  | val d =>
    have e' : some d = some a := e
    cases e'
    exact h
  | ref i => cases hv
  | io i => cases hv
theorem valOpds : ∀ {os : List Opd} {vs : List V} {as : List D}, OpdsOk K F σ vs os → resAll ρ os = some as → allVal os = true → Reps K F vs as
  | _, _, _, .nil, e, _ => by
    unfold resAll at e
    cases e
    exact .nil
  | _, _, _, .cons h r, e, hv => by
    unfold resAll at e
    obtain ⟨d, e1, e⟩ := bnd e
    obtain ⟨ds, e2, e⟩ := bnd e
    cases e
    have q : _ ∧ _ := Bool.and_eq_true_iff.mp (show (isVal _ && allVal _) = true from hv)
    exact .cons (valOpd h e1 q.1) (valOpds r e2 q.2)
/-- the end of an operation: vl tells that all operands are values (then nothing is lent) -/
theorem Gd.opEnd (G : Gd K g F H σ ρ) {vl : Bool} {c d : D} {Q : VK} {R : VK → Prop} (hf : L3.fin vl c ρ = some (d, ρ')) (q : ∀ w F' H', Gd K g F' H' σ ρ' → Same F F' → Rep K F' w d → Q w H')
    (hv : vl = true → (∀ w F' H', Ext F H F' H' → Rep K F' w c → Q w H') → R Q)
    (hl : (∀ w F' H', Ext (lent σ ρ F H) H F' H' → Rep K F' w c → Q w H') → R Q) : R Q := by
  unfold L3.fin at hf
  cases vl with
  | true =>
    rw [Bool.true_or, if_pos rfl] at hf
    cases hf
    exact hv rfl fun w F' H' x r => q w F' H' (G.ext x) x.ff r
  | false =>
    rw [Bool.false_or] at hf
    split at hf
    · rename_i e
      cases hf
      refine hl fun w F' H' x r => ?_
      obtain ⟨x', k⟩ := G.lentBack x
      exact q w _ H' (G.ext x') x'.ff (k e r)
    · cases hf
theorem Gd.op1 (G : Gd K g F H σ ρ) {r : V → Hp → VK → Prop} {k : D → Option D} (hk : Op1 K r k) {o : Opd} {v : V} {a c d : D} {Q : VK} (h : OpdOk K F σ v o) (e : res ρ o = some a) (ec : k a = some c) (hf : L3.fin (isVal o) c ρ = some (d, ρ'))
    (q : ∀ w F' H', Gd K g F' H' σ ρ' → Same F F' → Rep K F' w d → Q w H') : r v H Q :=
  G.opEnd (R := fun Q => r v H Q) hf q (fun hv q' => hk F H v a c Q G.sub (valOpd h e hv) ec q') (fun q' => hk _ H v a c Q G.lentH (G.lentOpd h e) ec q')
theorem Gd.op2 (G : Gd K g F H σ ρ) {r : R2} {k : D → D → Option D} (hk : Op2 K r k) {o p : Opd} {v u : V} {a b c d : D} {Q : VK} (h : OpdOk K F σ v o) (h' : OpdOk K F σ u p) (e : res ρ o = some a) (e' : res ρ p = some b) (ec : k a b = some c)
    (hf : L3.fin (isVal o && isVal p) c ρ = some (d, ρ')) (q : ∀ w F' H', Gd K g F' H' σ ρ' → Same F F' → Rep K F' w d → Q w H') : r v u H Q :=
  G.opEnd (R := fun Q => r v u H Q) hf q (fun hv q' => hk F H v u a b c Q G.sub (valOpd h e (Bool.and_eq_true_iff.mp hv).1) (valOpd h' e' (Bool.and_eq_true_iff.mp hv).2) ec q')
    (fun q' => hk _ H v u a b c Q G.lentH (G.lentOpd h e) (G.lentOpd h' e') ec q')
theorem Gd.opL (G : Gd K g F H σ ρ) {r : List V → Hp → VK → Prop} {k : List D → Option D} (hk : OpL K r k) {os : List Opd} {vs : List V} {as : List D} {c d : D} {Q : VK} (h : OpdsOk K F σ vs os) (e : resAll ρ os = some as) (ec : k as = some c)
    (hf : L3.fin (allVal os) c ρ = some (d, ρ')) (q : ∀ w F' H', Gd K g F' H' σ ρ' → Same F F' → Rep K F' w d → Q w H') : r vs H Q :=
  G.opEnd (R := fun Q => r vs H Q) hf q (fun hv q' => hk F H vs as c Q G.sub (valOpds h e hv) ec q') (fun q' => hk _ H vs as c Q G.lentH (G.lentOpds h e) ec q')
end
section
variable {X : Cx} {g : Gx} {a b c ex : Expr} {es : List Expr} {f f1 f2 f3 : OM} {fe : EM} {fa : AM} {pos : Pos}
/-- fresh, then frozen -/
theorem de_n {n : NM} (h : DN X g ex n) : DE X g ex n := weakPE h fun σ H Q ⟨F, ρ, d, ρ', G, hf, q⟩ => by
  refine ⟨F, ρ, d, ρ', G, hf, fun l vs F' H' G' sm hl hf hn hp no r => ?_⟩
  have sm' : Same F' (upd F' l vs) := fun b u e => by rw [upd_ne (ne_of_none e hf)]; exact e
  exact q _ _ _ (G'.freeze hl hf hn hp no) (sm.trans sm') ((r.mono sm').rep upd_same)
theorem de_c {d : D} {v : V} (h : PE X ex (tC v)) (r : ∀ F, Rep X.kw F v d) : DE X g ex (eC d) := weakPE h fun σ H Q ⟨F, ρ, d', ρ', G, hf, q⟩ => by
  cases hf
  exact q v F H G (Same.refl _) (r F)
theorem de_int {i : Int} {j : Nat} : DE X g (.Constant (.int i) j pos) (eC (.int i)) := de_c pe_int fun _ => .int
theorem de_bl {i : Bool} {j : Nat} : DE X g (.Constant (.bool i) j pos) (eC (.bl i)) := de_c pe_bl fun _ => .bl
theorem de_non {j : Nat} : DE X g (.Constant .none j pos) (eC .non) := de_c pe_non fun _ => .non
theorem de_str {x : Str} {j : Nat} : DE X g (.Constant (.str x) j pos) (eC (.str x)) := de_c pe_str fun _ => .str
theorem de_v {i : Nat} (h : PE X ex (tVar i)) : DE X g ex (eV i) := weakPE h fun σ H Q ⟨F, ρ, d, ρ', G, hf, q⟩ => by
  unfold eV at hf
  split at hf
  · rename_i x hx
    cases hf
    obtain ⟨v, e, r⟩ := G.slot i _ hx
    exact ⟨v, e, q v F H G (Same.refl _) r⟩
  · cases hf
theorem do_v (h : DE X g ex fe) : DO X g ex (oV fe) := weakPE h fun σ H Q ⟨F, ρ, d, ρ', G, hf, q⟩ => by
  obtain ⟨p, en, hf⟩ := bnd hf
  cases hf
  exact ⟨F, ρ, p.1, p.2, G, en, fun v F' H' G' sm r => q v F' H' G' sm r⟩
theorem do_r {i : Nat} (h : PE X ex (tVar i)) : DO X g ex (oR i) := weakPE h fun σ H Q ⟨F, ρ, d, ρ', G, hf, q⟩ => by
  unfold oR at hf
  split at hf
  · rename_i t xs hx
    cases hf
    obtain ⟨l, vs, e, r⟩ := G.slot i _ hx
    exact ⟨.ref l, e, q _ F H G (Same.refl _) e⟩
  · rename_i t xs hx
    cases hf
    obtain ⟨l, vs, e, r⟩ := G.slot i _ hx
    exact ⟨.ref l, e, q _ F H G (Same.refl _) e⟩
  · cases hf
theorem da_n : DA X g [] aN := weakPA pa_nil fun σ H Q ⟨F, ρ, d, ρ', G, hf, q⟩ => by
  cases hf
  exact q _ F H G (Same.refl _) .nil
theorem da_c (h : DO X g ex f) (hr : DA X g es fa) (hs : starEach (ex :: es) X.env = (false, eval ex X.env) :: starEach es X.env := by rfl) : DA X g (ex :: es) (aC f fa) := weakPA (pa_cons h hr hs) fun σ H Q ⟨F, ρ, d, ρ', G, hf, q⟩ => by
  obtain ⟨p, e1, hf⟩ := bnd hf
  obtain ⟨p', e2, hf⟩ := bnd hf
  cases hf
  exact ⟨F, ρ, p.1, p.2, G, e1, fun v F1 H1 G1 s1 r1 => ⟨F1, p.2, p'.1, p'.2, G1, e2, fun vs F2 H2 G2 s2 r2 => q _ F2 H2 G2 (s1.trans s2) (.cons (r1.mono s2) r2)⟩⟩
theorem op1_t {r : V → Hp → VK → Prop} {k : D → Option D} (hk : Op1 X.kw r k) {σ : St} {H : Hp} {Q : VK} (h : tE X.kw g (e1 k f) σ H Q) : tUn r (tO X.kw g f) σ H Q := by
  obtain ⟨F, ρ, d, ρ', G, hf, q⟩ := h
  obtain ⟨p, e1, hf⟩ := bnd hf
  obtain ⟨x, e2, hf⟩ := bnd hf
  obtain ⟨c, e3, hf⟩ := bnd hf
  exact ⟨F, ρ, p.1, p.2, G, e1, fun v F1 H1 G1 s1 r1 => G1.op1 hk r1 e2 e3 hf fun w F2 H2 G2 s2 r2 => q w F2 H2 G2 (s1.trans s2) r2⟩
theorem op2_t {r : R2} {k : D → D → Option D} (hk : Op2 X.kw r k) {σ : St} {H : Hp} {Q : VK} (h : tE X.kw g (e2 k f1 f2) σ H Q) : tOp r (tO X.kw g f1) (tO X.kw g f2) σ H Q := by
  obtain ⟨F, ρ, d, ρ', G, hf, q⟩ := h
  obtain ⟨p, e1, hf⟩ := bnd hf
  obtain ⟨p', e1', hf⟩ := bnd hf
  obtain ⟨x, e2, hf⟩ := bnd hf
  obtain ⟨x', e2', hf⟩ := bnd hf
  obtain ⟨c, e3, hf⟩ := bnd hf
  exact ⟨F, ρ, p.1, p.2, G, e1, fun v F1 H1 G1 s1 r1 => ⟨F1, p.2, p'.1, p'.2, G1, e1', fun u F2 H2 G2 s2 r2 => G2.op2 hk (r1.mono s2) r2 e2 e2' e3 hf fun w F3 H3 G3 s3 r3 => q w F3 H3 G3 ((s1.trans s2).trans s3) r3⟩⟩
theorem opL_t {r : List V → Hp → VK → Prop} {k : List D → Option D} (hk : OpL X.kw r k) {σ : St} {H : Hp} {Q : VK} (h : tE X.kw g (eL k fa) σ H Q) : tCB r (tA X.kw g fa) σ H Q := by
  obtain ⟨F, ρ, d, ρ', G, hf, q⟩ := h
  obtain ⟨p, e1, hf⟩ := bnd hf
  obtain ⟨x, e2, hf⟩ := bnd hf
  obtain ⟨c, e3, hf⟩ := bnd hf
  exact ⟨F, ρ, p.1, p.2, G, e1, fun v F1 H1 G1 s1 r1 => G1.opL hk r1 e2 e3 hf fun w F2 H2 G2 s2 r2 => q w F2 H2 G2 (s1.trans s2) r2⟩
theorem de_bin {op : Operator} {r : R2} {k : D → D → Option D} (ho : OpR X (binaryOp op) r) (hk : Op2 X.kw r k) (ha : DO X g a f1) (hb : DO X g b f2) : DE X g (.BinOp a op b pos) (e2 k f1 f2) :=
  weakPE (pe_op ho ha hb) fun _ _ _ h => op2_t hk h
theorem de_cmp {op : CmpOp} {r : R2} {k : D → D → Option D} (ho : OpR X (compareOp op) r) (hk : Op2 X.kw r k) (ha : DO X g a f1) (hb : DO X g b f2) (h1 : behindInMarks op b = false := by rfl) : DE X g (.Compare a [op] [b] pos) (e2 k f1 f2) :=
  weakPE (pe_cmpR ho ha hb h1) fun _ _ _ h => op2_t hk h
theorem de_ix {r : R2} {k : D → D → Option D} (ho : IxR X r) (hk : Op2 X.kw r k) (ha : DO X g a f1) (hb : DO X g b f2) (hs : PlainIx b := by exact fun _ _ => rfl) : DE X g (.Subscript a b pos) (e2 k f1 f2) :=
  weakPE (pe_ix ho ha hb hs) fun _ _ _ h => op2_t hk h
theorem de_un {op : UnaryOp} {r : V → Hp → VK → Prop} {k : D → Option D} (ho : UnR X (unaryOp op) r) (hk : Op1 X.kw r k) (ha : DO X g a f) : DE X g (.UnaryOp op a pos) (e1 k f) :=
  weakPE (pe_un ho ha) fun _ _ _ h => op1_t hk h
theorem de_callB {id : String} {x : Str} {p : Pos} {r : List V → Hp → VK → Prop} {k : List D → Option D} (hc : CallR X (.builtin id) r) (hk : OpL X.kw r k) (hg : Gl X x) (hm : X.mg x = none) (hv : bootBuiltins x = some (.builtin id)) (ha : DA X g (ex :: es) fa)
    (hn : x ≠ "__name__" := by decide) (hdb : (x == ("__debug__" : Str)) = false := by decide) 
    (h1 : starEach (ex :: es) X.env = (false, eval ex X.env) :: starEach es X.env := by rfl) (h2 : (backTo pos (starEach es X.env)).any (·.1) = false := by rfl) : DE X g (.Call (.Name x p) (ex :: es) [] pos) (eL k fa) :=
  weakPE (pe_callB hc hg hm hv ha hn hdb h1 h2) fun _ _ _ h => opL_t hk h
theorem de_callTy {id : String} {x : Str} {p : Pos} {r : List V → Hp → VK → Prop} {k : List D → Option D} (hc : CallR X (.type id) r) (hk : OpL X.kw r k) (hg : Gl X x) (hm : X.mg x = none) (hv : bootBuiltins x = some (.type id)) (ha : DA X g (ex :: es) fa)
    (hn : x ≠ "__name__" := by decide) (hdb : (x == ("__debug__" : Str)) = false := by decide) 
    (h1 : starEach (ex :: es) X.env = (false, eval ex X.env) :: starEach es X.env := by rfl) (h2 : (backTo pos (starEach es X.env)).any (·.1) = false := by rfl) : DE X g (.Call (.Name x p) (ex :: es) [] pos) (eL k fa) :=
  weakPE (pe_callTy hc hg hm hv ha hn hdb h1 h2) fun _ _ _ h => opL_t hk h
end
end L3
namespace L3
open PySem L2
theorem get_set {α : Type} {l : List α} {i j : Nat} {x y : α} (h : (l.set i x)[j]? = some y) : (j = i ∧ y = x ∧ i < l.length) ∨ (j ≠ i ∧ l[j]? = some y) := by
  by_cases e : j = i
  · subst e
    by_cases hl : j < l.length
    · rw [List.getElem?_set_self hl] at h
      cases h
      exact .inl ⟨rfl, rfl, hl⟩
    · rw [List.set_eq_of_length_le (by omega)] at h
      have := (List.getElem?_eq_some_iff.mp h).1
      omega
  · rw [List.getElem?_set_ne (Ne.symm e)] at h
    exact .inr ⟨e, h⟩
section
variable {K : KW} {g : Gx} {F H F' H' : Hp} {σ : St} {ρ ρ' : Env}
theorem Gd.lt (G : Gd K g F H σ ρ) {i : Nat} (h : i < ρ.length) : i < σ.length := by rw [G.len]; exact h
theorem OwnAt.ne {H : Hp} {σ : St} {ρ : Env} {i j : Nat} {v : Option V} {s : Option S} {a : Addr} (h : OwnAt H (σ.set i v) (ρ.set i s) j a) (ne : j ≠ i) : OwnAt H σ ρ j a :=
  h.to (by rw [List.getElem?_set_ne (Ne.symm ne)]) (by rw [List.getElem?_set_ne (Ne.symm ne)]) fun _ _ _ _ _ => rfl
theorem OwnAt.neR {H : Hp} {σ : St} {ρ : Env} {i j : Nat} {s : Option S} {a : Addr} (h : OwnAt H σ (ρ.set i s) j a) (ne : j ≠ i) : OwnAt H σ ρ j a :=
  h.to rfl (by rw [List.getElem?_set_ne (Ne.symm ne)]) fun _ _ _ _ _ => rfl
theorem OwnAt.of_set {H : Hp} {i j : Nat} {v : Option V} {s : Option S} {l : Addr} (hn : (∃ x, s = some (.d x)) ∨ s = none) (h : OwnAt H (σ.set i v) (ρ.set i s) j l) : OwnAt H σ ρ j l := by
  refine h.ne fun e => ?_
  subst e
  obtain ⟨l, e, ⟨⟨t, xs, r⟩, ea⟩ | ⟨t, xs, o, r, hl, m⟩⟩ := h
  · rcases get_set r with ⟨_, h2, _⟩ | ⟨h1, _⟩
    · rcases hn with ⟨x, hn⟩ | hn <;> (rw [hn] at h2; cases h2)
    · exact h1 rfl
  · rcases get_set r with ⟨_, h2, _⟩ | ⟨h1, _⟩
    · rcases hn with ⟨x, hn⟩ | hn <;> (rw [hn] at h2; cases h2)
    · exact h1 rfl
/-- a slot gets data -/
theorem Gd.setD (G : Gd K g F H σ ρ) (i : Nat) {v : V} {x : D} (r : Rep K F v x) : Gd K g F H (σ.set i (some v)) (ρ.set i (some (.d x))) where
  len := by simp [G.len]
  slot := fun j s e => by
    rcases get_set e with ⟨h1, h2, h3⟩ | ⟨h1, h2⟩
    · subst h1; cases h2
      refine ⟨v, ?_, r⟩
      rw [List.getElem?_set_self (G.lt h3)]
    · rw [List.getElem?_set_ne (Ne.symm h1)]
      exact G.slot j s h2
  dist := fun a b l h1 h2 => G.dist a b l (h1.of_set (.inl ⟨_, rfl⟩)) (h2.of_set (.inl ⟨_, rfl⟩))
  sub := G.sub
  old := G.old
  keep := G.keep
  grow := G.grow
  new := G.new
  pinned := fun b o h => ⟨(G.pinned b o h).1, (G.pinned b o h).2.1, fun j q => (G.pinned b o h).2.2 j (q.of_set (.inl ⟨_, rfl⟩))⟩
/-- what a slot has got, behind a store of an own thing -/
theorem own_set {H : Hp} {σ : St} {ρ : Env} {i j : Nat} {l b : Addr} {t : Option Nat} {xs : D} (hl : i < σ.length) (h : OwnAt H (σ.set i (some (.ref l))) (ρ.set i (some (.own t xs))) j b) : (j = i ∧ b = l) ∨ (j ≠ i ∧ OwnAt H σ ρ j b) := by
  by_cases e : j = i
  · subst e
    obtain ⟨k, e1, ⟨⟨t', ys, r⟩, ea⟩ | ⟨t', ys, o, r, hk, m⟩⟩ := h
    · rw [List.getElem?_set_self hl] at e1
      cases e1
      exact .inl ⟨rfl, ea⟩
    · rcases get_set r with ⟨_, h2, _⟩ | ⟨h1, _⟩
      · cases h2
      · exact absurd rfl h1
  · exact .inr ⟨e, h.ne e⟩
/-- a slot gets a fresh list -/
theorem Gd.setOwn (G : Gd K g F H σ ρ) (i : Nat) {l : Addr} {vs : HO} {xs : D} (hl : H l = some vs) (hf : F l = none) (hn : g.H0 l = none) (hp : g.pin l = none) (no : ∀ i, ¬ OwnAt H σ ρ i l) (r : ORep K F vs xs) :
    Gd K g F H (σ.set i (some (.ref l))) (ρ.set i (some (.own none xs))) := by
  by_cases hi : i < σ.length
  · refine ⟨by simp [G.len], fun j s e => ?_, fun a b k h1 h2 => ?_, G.sub, G.old, G.keep, G.grow, G.new, fun b o h => ⟨(G.pinned b o h).1, (G.pinned b o h).2.1, fun j q => ?_⟩⟩
    · rcases get_set e with ⟨h1, h2, h3⟩ | ⟨h1, h2⟩
      · subst h1; cases h2
        refine ⟨l, vs, ?_, hn, hf, hl, r⟩
        rw [List.getElem?_set_self (G.lt h3)]
      · rw [List.getElem?_set_ne (Ne.symm h1)]
        exact G.slot j s h2
    · rcases own_set hi h1 with ⟨a1, a2⟩ | ⟨a1, a2⟩
      · rcases own_set hi h2 with ⟨b1, b2⟩ | ⟨b1, b2⟩
        · rw [a1, b1]
        · subst a2; exact absurd b2 (no b)
      · rcases own_set hi h2 with ⟨b1, b2⟩ | ⟨b1, b2⟩
        · subst b2; exact absurd a2 (no a)
        · exact G.dist a b k a2 b2
    · rcases own_set hi q with ⟨a1, a2⟩ | ⟨a1, a2⟩
      · subst a2; rw [hp] at h; cases h
      · exact (G.pinned b o h).2.2 j a2
  · rw [List.set_eq_of_length_le (by omega), List.set_eq_of_length_le (by rw [← G.len]; omega)]
    exact G
/-- the other slots, where the heap is changed at places of slot i alone -/
theorem Gd.others (G : Gd K g F H σ ρ) {i : Nat} {fp : List Addr} (hfp : ∀ a ∈ fp, OwnAt H σ ρ i a) {H' : Hp} (hH : ∀ a, a ∉ fp → H' a = H a) {j : Nat} (ne : j ≠ i) {s : S} (e : ρ[j]? = some (some s)) : SOk K g F H' σ[j]? s := by
  have z := G.slot j s e
  cases s with
  | d x => exact z
  | own t' zs =>
    obtain ⟨l', vs', e', tg', fl', hl', rr'⟩ := z
    refine ⟨l', vs', e', tg', fl', ?_, rr'⟩
    rw [hH]; exact hl'
    intro c
    exact ne (G.dist j i l' (.of e' e) (hfp l' c))
  | tre t' zs =>
    obtain ⟨l', vs', e', tg', fl', hl', rr', nd', tx'⟩ := z
    have out : ∀ a ∈ l' :: bx vs' zs, H' a = H a := fun a m => hH a fun c => ne (G.dist j i a (.ofT e' e hl' m) (hfp a c))
    exact ⟨l', vs', e', tg', fl', by rw [out l' List.mem_cons_self]; exact hl', rr'.move (Same.refl _) fun a m => ⟨(rr'.at_ a m).1, out a (List.mem_cons_of_mem _ m)⟩, nd', tx'⟩
theorem Gd.othersOwn (G : Gd K g F H σ ρ) {i : Nat} {fp : List Addr} (hfp : ∀ a ∈ fp, OwnAt H σ ρ i a) {H' : Hp} (hH : ∀ a, a ∉ fp → H' a = H a) {j : Nat} (ne : j ≠ i) {s : Option S} {b : Addr} (h : OwnAt H' σ (ρ.set i s) j b) : OwnAt H σ ρ j b := by
  refine (h.neR ne).to rfl rfl fun l t xs e r => ?_
  obtain ⟨o, ho⟩ := G.root e r
  rw [hH l fun c => ne (G.dist j i l (.ofT e r ho List.mem_cons_self) (hfp l c))]
/-- an owned list is changed -/
theorem Gd.updOwn (G : Gd K g F H σ ρ) {i : Nat} {l : Addr} {t : Option Nat} {xs : D} (e : ρ[i]? = some (some (.own t xs))) (hv : σ[i]? = some (some (.ref l))) {ws : HO} {ys : D} (r : ORep K F ws ys) :
    Gd K g F (upd H l ws) σ (ρ.set i (some (.own t ys))) := by
  obtain ⟨k, vs, e1, tg, fl, hl, rr⟩ := G.slot i _ e
  rw [hv] at e1; cases e1
  have hi : i < ρ.length := (List.getElem?_eq_some_iff.mp e).1
  have oi : OwnAt H σ ρ i l := .of hv e
  have hfp : ∀ a ∈ [l], OwnAt H σ ρ i a := fun a m => by rw [List.mem_singleton.mp m]; exact oi
  have hH : ∀ a, a ∉ [l] → upd H l ws a = H a := fun a m => upd_ne fun c => m (List.mem_singleton.mpr c)
  have own : ∀ {j : Nat} {b : Addr}, OwnAt (upd H l ws) σ (ρ.set i (some (.own t ys))) j b → OwnAt H σ ρ j b := fun {j b} h => by
    by_cases c : j = i
    · subst c
      obtain ⟨k, e1, ⟨⟨t', zs, q⟩, ea⟩ | ⟨t', zs, o, q, hk, m⟩⟩ := h
      · rw [hv] at e1; cases e1
        rw [ea]; exact oi
      · rcases get_set q with ⟨_, h2, _⟩ | ⟨h1, _⟩
        · cases h2
        · exact absurd rfl h1
    · exact G.othersOwn hfp hH c h
  refine ⟨by simp [G.len], fun j s q => ?_, fun a b k h1 h2 => G.dist a b k (own h1) (own h2), fun b o q => ?_, G.old, fun b o q n => ?_, fun b q => ?_, G.new, fun b o q => ?_⟩
  · rcases get_set q with ⟨h1, h2, h3⟩ | ⟨h1, h2⟩
    · subst h1; cases h2
      exact ⟨l, ws, hv, tg, fl, upd_same, r⟩
    · exact G.others hfp hH h1 h2
  · rw [upd_ne]; exact G.sub _ _ q
    intro c; subst c; rw [fl] at q; cases q
  · have z := G.keep b o q n
    rw [upd_ne]; exact z
    intro c
    subst c
    rcases tg.x with h | h
    · rw [h] at q; cases q
    · exact n h
  · by_cases c : b = l
    · subst c; rw [upd_same] at q; cases q
    · rw [upd_ne c] at q; exact G.grow b q
  · obtain ⟨h1, h2, h3⟩ := G.pinned b o q
    refine ⟨?_, h2, fun j z => h3 j (own z)⟩
    rw [upd_ne]; exact h1
    intro c; subst c; exact h3 i oi
end
def tV (f : EM) : TM := fun ρ => (f ρ).bind fun p => match p.1 with
  | .bl b => some (b, p.2)
  | _ => none
def tNt (f : TM) : TM := fun ρ => (f ρ).bind fun p => some (!p.1, p.2)
def tAn (f h : TM) : TM := fun ρ => (f ρ).bind fun p => if p.1 then h p.2 else some (false, p.2)
def tOr' (f h : TM) : TM := fun ρ => (f ρ).bind fun p => if p.1 then some (true, p.2) else h p.2
def eIf (t : TM) (f h : EM) : EM := fun ρ => (t ρ).bind fun p => if p.1 then f p.2 else h p.2
def eAnd (f h : EM) : EM := fun ρ => (f ρ).bind fun p => match p.1 with
  | .bl true => h p.2
  | .bl false => some (.bl false, p.2)
  | _ => none
def eOr (f h : EM) : EM := fun ρ => (f ρ).bind fun p => match p.1 with
  | .bl false => h p.2
  | .bl true => some (.bl true, p.2)
  | _ => none
def eNot (f : EM) : EM := fun ρ => (f ρ).bind fun p => match p.1 with
  | .bl b => some (.bl (!b), p.2)
  | _ => none
section
variable {X : Cx} {g : Gx} {a b c ex : Expr} {es rest : List Expr} {f f1 f2 : EM} {o1 o2 : OM} {t t1 t2 : TM} {pos : Pos}
theorem tV_t {te : TE} (h : ∀ σ H Q, tE X.kw g f σ H Q → te σ H Q) {σ : St} {H : Hp} {Q : Bool → Hp → Prop} (q : tT X.kw g (tV f) σ H Q) : te σ H (fun x H' => ∃ k, x = .bl k ∧ Q k H') := by
  obtain ⟨F, ρ, b, ρ', G, hf, q⟩ := q
  obtain ⟨p, e, hf⟩ := bnd hf
  refine h _ _ _ ⟨F, ρ, p.1, p.2, G, e, fun v F' H' G' s r => ?_⟩
  split at hf
  · rename_i k hk
    cases hf
    rw [hk] at r
    cases r
    exact ⟨_, rfl, q F' H' G' s⟩
  · cases hf
theorem dt_cmp {op : CmpOp} {r : R2} {k : D → D → Option D} (ho : OpR X (compareOp op) r) (hk : Op2 X.kw r k) (ha : DO X g a o1) (hb : DO X g b o2) (h1 : behindInMarks op b = false := by rfl) : DT X g (.Compare a [op] [b] pos) (tV (e2 k o1 o2)) :=
  weakPT (pt_cmpR ho ha hb h1) fun _ _ _ h => tV_t (fun _ _ _ h => op2_t hk h) h
/-- a bool as a test (no comparison) -/
theorem dt_v (h : DE X g ex f) (he : ∀ whole, isTrue ex X.env whole = (do let v ← whole; standAt ex.pos; holding [v] (truthy v)) := by intro _; rfl) : DT X g ex (tV f) :=
  weakPT (pt_val h he) fun _ _ _ h => tV_t (fun _ _ _ h => h) h
theorem dt_not (h : DT X g a t) : DT X g (.UnaryOp .Not a pos) (tNt t) := weakPT (pt_not h) fun σ H Q ⟨F, ρ, b, ρ', G, hf, q⟩ => by
  obtain ⟨p, e, hf⟩ := bnd hf
  cases hf
  exact ⟨F, ρ, p.1, p.2, G, e, q⟩
abbrev DW (X : Cx) (g : Gx) (e : Expr) (f : TM) : Prop := PW X e (tT X.kw g f)
theorem dw_and1 (h : DT X g a t) : DW X g (.BoolOp .And [a] pos) t := pw_and1 h
theorem dw_or1 (h : DT X g a t) : DW X g (.BoolOp .Or [a] pos) t := pw_or1 h
theorem dw_and (h : DT X g a t1) (h2 : DW X g (.BoolOp .And (b :: rest) pos) t2) : DW X g (.BoolOp .And (a :: b :: rest) pos) (tAn t1 t2) := weakPW (pw_and h h2) fun σ H Q ⟨F, ρ, b, ρ', G, hf, q⟩ => by
  obtain ⟨p, e, hf⟩ := bnd hf
  refine ⟨F, ρ, p.1, p.2, G, e, fun F' H' G' s => ?_⟩
  obtain ⟨k, ρ1⟩ := p
  cases k with
  | true => exact iteT ⟨F', ρ1, b, ρ', G', hf, fun F2 H2 G2 s2 => q F2 H2 G2 (s.trans s2)⟩
  | false => cases hf; exact iteF (q F' H' G' s)
theorem dw_or (h : DT X g a t1) (h2 : DW X g (.BoolOp .Or (b :: rest) pos) t2) : DW X g (.BoolOp .Or (a :: b :: rest) pos) (tOr' t1 t2) := weakPW (pw_or h h2) fun σ H Q ⟨F, ρ, b, ρ', G, hf, q⟩ => by
  obtain ⟨p, e, hf⟩ := bnd hf
  refine ⟨F, ρ, p.1, p.2, G, e, fun F' H' G' s => ?_⟩
  obtain ⟨k, ρ1⟩ := p
  cases k with
  | false => exact iteF ⟨F', ρ1, b, ρ', G', hf, fun F2 H2 G2 s2 => q F2 H2 G2 (s.trans s2)⟩
  | true => cases hf; exact iteT (q F' H' G' s)
theorem dt_w (h : DW X g a t) : DT X g a t := PW.pt h
theorem de_if (h : DT X g c t) (ha : DE X g a f1) (hb : DE X g b f2) : DE X g (.IfExp c a b pos) (eIf t f1 f2) := weakPE (pe_ifExp h ha hb) fun σ H Q ⟨F, ρ, d, ρ', G, hf, q⟩ => by
  obtain ⟨p, e, hf⟩ := bnd hf
  refine ⟨F, ρ, p.1, p.2, G, e, fun F' H' G' s => ?_⟩
  obtain ⟨k, ρ1⟩ := p
  cases k with
  | true => exact iteT ⟨F', ρ1, d, ρ', G', hf, fun v F2 H2 G2 s2 => q v F2 H2 G2 (s.trans s2)⟩
  | false => exact iteF ⟨F', ρ1, d, ρ', G', hf, fun v F2 H2 G2 s2 => q v F2 H2 G2 (s.trans s2)⟩
theorem de_one {op : BoolOp} (h : DE X g a f) : DE X g (.BoolOp op [a] pos) f := pe_one h
theorem de_and (ha : DE X g a f1) (hb : DE X g (.BoolOp .And (b :: rest) pos) f2) : DE X g (.BoolOp .And (a :: b :: rest) pos) (eAnd f1 f2) := weakPE (pe_and ha hb) fun σ H Q ⟨F, ρ, d, ρ', G, hf, q⟩ => by
  obtain ⟨p, e, hf⟩ := bnd hf
  obtain ⟨k, ρ1⟩ := p
  refine ⟨F, ρ, k, ρ1, G, e, fun v F' H' G' s r => ?_⟩
  cases k with
  | bl k =>
    cases r
    cases k with
    | true => exact ⟨true, rfl, iteT ⟨F', ρ1, d, ρ', G', hf, fun v F2 H2 G2 s2 => q v F2 H2 G2 (s.trans s2)⟩⟩
    | false => cases hf; exact ⟨false, rfl, iteF (q _ F' H' G' s .bl)⟩
  | _ => cases hf
theorem de_or (ha : DE X g a f1) (hb : DE X g (.BoolOp .Or (b :: rest) pos) f2) : DE X g (.BoolOp .Or (a :: b :: rest) pos) (eOr f1 f2) := weakPE (pe_or ha hb) fun σ H Q ⟨F, ρ, d, ρ', G, hf, q⟩ => by
  obtain ⟨p, e, hf⟩ := bnd hf
  obtain ⟨k, ρ1⟩ := p
  refine ⟨F, ρ, k, ρ1, G, e, fun v F' H' G' s r => ?_⟩
  cases k with
  | bl k =>
    cases r
    cases k with
    | false => exact ⟨false, rfl, iteF ⟨F', ρ1, d, ρ', G', hf, fun v F2 H2 G2 s2 => q v F2 H2 G2 (s.trans s2)⟩⟩
    | true => cases hf; exact ⟨true, rfl, iteT (q _ F' H' G' s .bl)⟩
  | _ => cases hf
theorem de_not (ha : DE X g a f) : DE X g (.UnaryOp .Not a pos) (eNot f) := weakPE (pe_not ha) fun σ H Q ⟨F, ρ, d, ρ', G, hf, q⟩ => by
  obtain ⟨p, e, hf⟩ := bnd hf
  obtain ⟨k, ρ1⟩ := p
  refine ⟨F, ρ, k, ρ1, G, e, fun v F' H' G' s r => ?_⟩
  cases k with
  | bl k => cases r; cases hf; exact ⟨k, rfl, q _ F' H' G' s .bl⟩
  | _ => cases hf
end
def valsOf : List Opd → Option (List D)
  | [] => some []
  | .val d :: r => (valsOf r).bind fun ds => some (d :: ds)
  | _ :: _ => none
def eTup (f : AM) : EM := fun ρ => (f ρ).bind fun p => (valsOf p.1).bind fun ds => some (.tup ds, p.2)
def nLst (f : AM) : NM := fun ρ => (f ρ).bind fun p => (valsOf p.1).bind fun ds => some (.lst ds, p.2)
theorem valsOk {K : KW} {F : Hp} {σ : St} : ∀ {os : List Opd} {vs : List V} {ds : List D}, OpdsOk K F σ vs os → valsOf os = some ds → Reps K F vs ds
  | _, _, _, .nil, e => by cases e; exact .nil
  | .val d :: os, _, _, .cons h r, e => by
    obtain ⟨ds', e1, e2⟩ := bnd e
    cases e2
    exact .cons h (valsOk r e1)
  | .ref _ :: os, _, _, .cons h r, e => by cases e
  | .io _ :: os, _, _, .cons h r, e => by cases e
/-- so many arguments -/
def LenA (f : AM) (n : Nat) : Prop := ∀ ρ os ρ', f ρ = some (os, ρ') → os.length = n
theorem la_n : LenA aN 0 := fun ρ os ρ' h => by cases h; rfl
theorem la_c {f : OM} {h : AM} {n : Nat} (l : LenA h n) : LenA (aC f h) (n + 1) := fun ρ os ρ' e => by
  obtain ⟨p, e1, e⟩ := bnd e
  obtain ⟨q, e2, e⟩ := bnd e
  cases e
  simp [l _ _ _ e2]
section
variable {X : Cx} {g : Gx} {es : List Expr} {fa : AM} {pos : Pos} {n : Nat}
theorem de_tup {x1} (h : DA X g es fa) (l : LenA fa n) (hn : n ≤ 1000 := by decide) : DE X g (.Tuple es x1 pos) (eTup fa) := weakPE (pe_tup h) fun σ H Q ⟨F, ρ, d, ρ', G, hf, q⟩ => by
  obtain ⟨p, e, hf⟩ := bnd hf
  obtain ⟨ds, e1, hf⟩ := bnd hf
  cases hf
  refine ⟨F, ρ, p.1, p.2, G, e, fun vs F' H' G' s r => ⟨?_, fun a ha => ?_⟩⟩
  · rw [r.length, l _ _ _ e]; exact Nat.le_of_lt (small1000 hn)
  · have x := Ext.alloc G'.sub ha (.tup vs)
    exact q _ _ _ (G'.ext x) (s.trans x.ff) (.tup upd_same ((valsOk r e1).mono x.ff))
theorem dn_lst (h : DA X g es fa) (l : LenA fa n) (hn : n ≤ 1000 := by decide) : DN X g (.List es pos) (nLst fa) := weakPE (pe_lst h) fun σ H Q ⟨F, ρ, d, ρ', G, hf, q⟩ => by
  obtain ⟨p, e, hf⟩ := bnd hf
  obtain ⟨ds, e1, hf⟩ := bnd hf
  cases hf
  refine ⟨F, ρ, p.1, p.2, G, e, fun vs F' H' G' s r => ⟨?_, fun a ha => ?_⟩⟩
  · rw [r.length, l _ _ _ e]; exact Nat.le_of_lt (small1000 hn)
  · obtain ⟨G2, h1, h2, h3, h4⟩ := G'.fresh ha (.lst vs)
    exact q _ _ _ _ G2 s upd_same h1 h2 h3 h4 (.lst (valsOk r e1))
end
inductive Out where
  | nx | br | ct
  | rt (d : D)
  /-- a fresh list is handed back -/
  | rn (x : D)
  /-- a fresh thing with boxes is handed back -/
  | rr (x : D)
abbrev SM := Env → Option (Out × Env)
/-- slot j is an in-out parameter's -/
def IsPar (ρ : Env) (j : Nat) : Prop := ∃ k x, ρ[j]? = some (some (.own (some k) x)) ∨ ρ[j]? = some (some (.tre (some k) x))
def OutQ (K : KW) (g : Gx) (E : Ends) (F' : Hp) (σ' : St) (ρ' : Env) (H' : Hp) : Out → Prop
  | .nx => E.nx σ' H'
  | .br => E.bk σ' H'
  | .ct => E.ct σ' H'
  | .rt d => ∀ v, Rep K F' v d → E.rt v H'
  | .rn x => ∀ l o, H' l = some o → F' l = none → g.H0 l = none → (∀ j, IsPar ρ' j → ¬ OwnAt H' σ' ρ' j l) → ORep K F' o x → E.rt (.ref l) H'
  | .rr x => ∀ l o, H' l = some o → TRep K F' H' o x → (l :: bx o x).Nodup → (∀ a ∈ l :: bx o x, F' a = none ∧ g.H0 a = none ∧ ∀ j, IsPar ρ' j → ¬ OwnAt H' σ' ρ' j a) → E.rt (.ref l) H'
def tS (K : KW) (g : Gx) (f : SM) : TS := fun E σ H => ∃ F ρ o ρ', Gd K g F H σ ρ ∧ f ρ = some (o, ρ') ∧ ∀ σ' F' H', Gd K g F' H' σ' ρ' → Same F F' → OutQ K g E F' σ' ρ' H' o
abbrev DS (X : Cx) (g : Gx) (s : Stmt) (f : SM) : Prop := PS X s (tS X.kw g f)
abbrev DSs (X : Cx) (g : Gx) (s : List Stmt) (f : SM) : Prop := PSs X s (tS X.kw g f)
def sNx : SM := fun ρ => some (.nx, ρ)
def sSeq (f h : SM) : SM := fun ρ => (f ρ).bind fun p => match p.1 with
  | .nx => h p.2
  | o => some (o, p.2)
def sRet (f : EM) : SM := fun ρ => (f ρ).bind fun p => some (.rt p.1, p.2)
def sRetN (f : NM) : SM := fun ρ => (f ρ).bind fun p => some (.rn p.1, p.2)
/-- return of the own list of slot i, as it is -/
def sRetO (i : Nat) : SM := fun ρ => match ρ[i]? with
  | some (some (.own none xs)) => some (.rn xs, ρ)
  | some (some (.tre none xs)) => some (.rr xs, ρ)
  | _ => none
def sIf (t : TM) (f h : SM) : SM := fun ρ => (t ρ).bind fun p => if p.1 then f p.2 else h p.2
def sSet (i : Nat) (f : EM) : SM := fun ρ => (f ρ).bind fun p => some (.nx, p.2.set i (some (.d p.1)))
def sOwn (i : Nat) (f : NM) : SM := fun ρ => (f ρ).bind fun p => some (.nx, p.2.set i (some (.own none p.1)))
/-- never reached -/
def sNo : SM := fun _ => none
section
variable {X : Cx} {g : Gx} {st : Stmt} {sts : List Stmt} {ex c : Expr} {f h : SM} {fe : EM} {fn : NM} {t : TM} {pos : Pos}
theorem OutQ.imp {K : KW} {E E' : Ends} {F : Hp} {σ : St} {ρ : Env} {H : Hp} {o : Out} (h : OutQ K g E F σ ρ H o) (h1 : ∀ σ H, E.nx σ H → E'.nx σ H) (h2 : ∀ σ H, E.bk σ H → E'.bk σ H) (h3 : ∀ σ H, E.ct σ H → E'.ct σ H) (h4 : ∀ v H, E.rt v H → E'.rt v H) : OutQ K g E' F σ ρ H o := by
  cases o with
  | nx => exact h1 _ _ h
  | br => exact h2 _ _ h
  | ct => exact h3 _ _ h
  | rt d => exact fun v r => h4 _ _ (h v r)
  | rn xs => exact fun l vs a b c d e => h4 _ _ (h l vs a b c d e)
  | rr xs => exact fun l vs a b c d => h4 _ _ (h l vs a b c d)
theorem dss_nil : DSs X g [] sNx := weakPSs pss_nil fun D σ H ⟨F, ρ, o, ρ', G, hf, q⟩ => by
  cases hf
  exact q σ F H G (Same.refl _)
theorem dss_one (h1 : DS X g st f) : DSs X g [st] f := pss_one h1
theorem dss_cons (h1 : DS X g st f) (h2 : DSs X g sts h) : DSs X g (st :: sts) (sSeq f h) := weakPSs (pss_cons h1 h2) fun D σ H ⟨F, ρ, o, ρ', G, hf, q⟩ => by
  obtain ⟨p, e, hf⟩ := bnd hf
  obtain ⟨o1, ρ1⟩ := p
  refine ⟨F, ρ, o1, ρ1, G, e, fun σ' F' H' G' s => ?_⟩
  cases o1 with
  | nx => exact ⟨F', ρ1, o, ρ', G', hf, fun σ2 F2 H2 G2 s2 => q σ2 F2 H2 G2 (s.trans s2)⟩
  | br => cases hf; exact q σ' F' H' G' s
  | ct => cases hf; exact q σ' F' H' G' s
  | rt d => cases hf; exact q σ' F' H' G' s
  | rn xs => cases hf; exact q σ' F' H' G' s
  | rr xs => cases hf; exact q σ' F' H' G' s
theorem ds_no : DS X g st sNo := weakPS ps_never fun D σ H ⟨F, ρ, o, ρ', G, hf, q⟩ => by cases hf
theorem ds_ret (h : DE X g ex fe) : DS X g (.Return (some ex) pos) (sRet fe) := weakPS (ps_ret h) fun D σ H ⟨F, ρ, o, ρ', G, hf, q⟩ => by
  obtain ⟨p, e, hf⟩ := bnd hf
  cases hf
  exact ⟨F, ρ, p.1, p.2, G, e, fun v F' H' G' s r => q σ F' H' G' s v r⟩
theorem ds_retN (h : DN X g ex fn) : DS X g (.Return (some ex) pos) (sRetN fn) := weakPS (ps_ret h) fun D σ H ⟨F, ρ, o, ρ', G, hf, q⟩ => by
  obtain ⟨p, e, hf⟩ := bnd hf
  cases hf
  exact ⟨F, ρ, p.1, p.2, G, e, fun l vs F' H' G' s h1 h2 h3 h4 h5 h6 => q σ F' H' G' s l vs h1 h2 h3 (fun j _ => h5 j) h6⟩
theorem noPar {K : KW} {F H : Hp} {σ : St} {ρ : Env} (G : Gd K g F H σ ρ) {i : Nat} {a : Addr} (h : OwnAt H σ ρ i a) (np : ¬ IsPar ρ i) : ∀ j, IsPar ρ j → ¬ OwnAt H σ ρ j a := fun j hp ho => np (by rw [G.dist i j a h ho]; exact hp)
theorem ds_retO {i : Nat} (h : PE X ex (tVar i)) : DS X g (.Return (some ex) pos) (sRetO i) := weakPS (ps_ret h) fun D σ H ⟨F, ρ, o, ρ', G, hf, q⟩ => by
  unfold sRetO at hf
  split at hf
  · rename_i xs hx
    cases hf
    obtain ⟨l, vs, e, tg, fl, hl, r⟩ := G.slot i _ hx
    refine ⟨_, e, q σ F H G (Same.refl _) l vs hl fl tg (noPar G (.of e hx) fun ⟨k, x, h⟩ => ?_) r⟩
    rw [hx] at h
    rcases h with h | h <;> cases h
  · rename_i xs hx
    cases hf
    obtain ⟨l, vs, e, tg, fl, hl, r, nd, tx⟩ := G.slot i _ hx
    have np : ¬ IsPar ρ i := fun ⟨k, x, h⟩ => by
      rw [hx] at h
      rcases h with h | h <;> cases h
    refine ⟨_, e, q σ F H G (Same.refl _) l vs hl r nd fun a m => ⟨(G.own (.ofT e hx hl m)).1, ?_, noPar G (.ofT e hx hl m) np⟩⟩
    rcases List.mem_cons.mp m with rfl | m
    · exact tg
    · exact tx a m
  · cases hf
theorem ds_if {a b : List Stmt} (hc : DT X g c t) (ha : DSs X g a f) (hb : DSs X g b h) : DS X g (.If c a b pos) (sIf t f h) := weakPS (ps_if hc ha hb) fun D σ H ⟨F, ρ, o, ρ', G, hf, q⟩ => by
  obtain ⟨p, e, hf⟩ := bnd hf
  refine ⟨F, ρ, p.1, p.2, G, e, fun F' H' G' s => ?_⟩
  obtain ⟨k, ρ1⟩ := p
  cases k with
  | true => exact iteT ⟨F', ρ1, o, ρ', G', hf, fun σ2 F2 H2 G2 s2 => q σ2 F2 H2 G2 (s.trans s2)⟩
  | false => exact iteF ⟨F', ρ1, o, ρ', G', hf, fun σ2 F2 H2 G2 s2 => q σ2 F2 H2 G2 (s.trans s2)⟩
theorem ds_set {i : Nat} {x : Str} {pos' : Pos} (hN : X.N.Nodup) (hi : X.N[i]? = some x) (hx : Loc X.env.scope x) (he : DE X g ex fe) (hs : swapsWith ex (some (.Name x pos')) pos.line X.env = pure false := by rfl)
    (hf : X.fn x = true ∨ X.env.scope.names.lookup x = some .local := by first | exact .inl rfl | exact .inr rfl | assumption) : DS X g (.Assign [.Name x pos'] ex pos) (sSet i fe) := weakPS (ps_set hN hi hx he hs hf) fun D σ H ⟨F, ρ, o, ρ', G, hf, q⟩ => by
  obtain ⟨p, e, hf⟩ := bnd hf
  cases hf
  exact ⟨F, ρ, p.1, p.2, G, e, fun v F' H' G' s r => q _ F' H' (G'.setD i r) s⟩
theorem ds_own {i : Nat} {x : Str} {pos' : Pos} (hN : X.N.Nodup) (hi : X.N[i]? = some x) (hx : Loc X.env.scope x) (he : DN X g ex fn) (hs : swapsWith ex (some (.Name x pos')) pos.line X.env = pure false := by rfl)
    (hf : X.fn x = true ∨ X.env.scope.names.lookup x = some .local := by first | exact .inl rfl | exact .inr rfl | assumption) : DS X g (.Assign [.Name x pos'] ex pos) (sOwn i fn) := weakPS (ps_set hN hi hx he hs hf) fun D σ H ⟨F, ρ, o, ρ', G, hf, q⟩ => by
  obtain ⟨p, e, hf⟩ := bnd hf
  cases hf
  exact ⟨F, ρ, p.1, p.2, G, e, fun l vs F' H' G' s h1 h2 h3 h4 h5 h6 => q _ F' H' (G'.setOwn i h1 h2 h3 h4 h5 h6) s⟩
end
end L3
namespace L3
open PySem L2
/-- an iterator that yields ds, whatever is made meanwhile -/
structure WalkOk (K : KW) (J : It) (F0 : Hp) (ds : List D) : Prop where
  go : ∀ (i : Nat) (F H : Hp), Same F0 F → Same F H → i < ds.length → J.go i H
  yld : ∀ (i : Nat) (F H : Hp) (x : V) (H' : Hp), Same F0 F → Same F H → i < ds.length → J.yld i H x H' → ∃ d F', ds[i]? = some d ∧ Ext F H F' H' ∧ Rep K F' x d
  stop : ∀ (i : Nat) (F H : Hp), Same F0 F → Same F H → ds.length ≤ i → J.stop i H
abbrev LM := Env → Option (List D × Env)
def tI (K : KW) (g : Gx) (f : LM) : TI := fun σ H R => ∃ F ρ ds ρ', Gd K g F H σ ρ ∧ f ρ = some (ds, ρ') ∧
  ∀ J F' H', Gd K g F' H' σ ρ' → Same F F' → WalkOk K J F' ds → R J H'
abbrev DI (X : Cx) (g : Gx) (tg e : Expr) (f : LM) : Prop := PI X tg e (tI X.kw g f)
theorem weakPI {X : Cx} {tg e : Expr} {t t' : TI} (h : PI X tg e t) (w : ∀ σ H R, t' σ H R → t σ H R) : PI X tg e t' := ⟨fun pins s σ H R I q => h.run pins s σ H R I (w σ H R q)⟩
theorem walk_list {K : KW} {F0 : Hp} {a : Addr} {vs : List V} {ds : List D} (h : F0 a = some (.lst vs)) (r : Reps K F0 vs ds) : WalkOk K (Itl K a) F0 ds where
  go := fun i F H s1 s2 hi => by
    rw [← r.length] at hi
    exact ⟨vs, vs[i], SqL.of (s2 _ _ (s1 _ _ h)), by simp [hi]⟩
  yld := fun i F H x H' s1 s2 hi ⟨e, y⟩ => by
    subst e
    obtain ⟨d, e1, e2⟩ := r.get' (y vs (SqL.of (s2 _ _ (s1 _ _ h))))
    exact ⟨d, F, e1, Ext.refl s2, e2.mono s1⟩
  stop := fun i F H s1 s2 hi => by
    rw [← r.length] at hi
    exact ⟨vs, SqL.of (s2 _ _ (s1 _ _ h)), hi⟩
theorem walk_scr {K : KW} {F0 : Hp} {a : Addr} {ns : List Int} (h : SqL K F0 a (ns.map V.int)) : WalkOk K (Itl K a) F0 (ns.map D.int) where
  go := fun i F H s1 s2 hi => by
    rw [List.length_map] at hi
    exact ⟨_, (ns.map V.int)[i]'(by simpa using hi), s2.seq (s1.seq h), by simp [hi]⟩
  yld := fun i F H x H' s1 s2 hi ⟨e, y⟩ => by
    subst e
    have q := y _ (s2.seq (s1.seq h))
    rw [List.getElem?_map] at q
    cases hn : ns[i]? with
    | none => rw [hn] at q; cases q
    | some n =>
      rw [hn] at q; cases q
      exact ⟨.int n, F, by rw [List.getElem?_map, hn]; rfl, Ext.refl s2, .int⟩
  stop := fun i F H s1 s2 hi => by
    rw [List.length_map] at hi
    exact ⟨_, s2.seq (s1.seq h), by simpa using hi⟩
theorem walk_tup {K : KW} {F0 : Hp} {a : Addr} {vs : List V} {ds : List D} (h : SqT K F0 a vs) (r : Reps K F0 vs ds) : WalkOk K (Itt K a) F0 ds where
  go := fun i F H s1 s2 hi => by
    rw [← r.length] at hi
    exact ⟨vs, vs[i], Same.sqt s2 (Same.sqt s1 h), by simp [hi]⟩
  yld := fun i F H x H' s1 s2 hi ⟨e, y⟩ => by
    subst e
    obtain ⟨d, e1, e2⟩ := r.get' (y vs (Same.sqt s2 (Same.sqt s1 h)))
    exact ⟨d, F, e1, Ext.refl s2, e2.mono s1⟩
  stop := fun i F H s1 s2 hi => by
    rw [← r.length] at hi
    exact ⟨vs, Same.sqt s2 (Same.sqt s1 h), hi⟩
/-- lo, lo + 1, .. -/
def rng (lo : Int) (n : Nat) : List D := (List.range n).map fun (i : Nat) => D.int (lo + (i : Int))
/-- an iterable's own value: a list, a tuple, the script -/
def itV (f : EM) : LM := fun ρ => (f ρ).bind fun p => match p.1 with
  | .lst ds => some (ds, p.2)
  | .scr ns => some (ns.map D.int, p.2)
  | _ => none
def itT (f : EM) : LM := fun ρ => (f ρ).bind fun p => match p.1 with
  | .tup ds => some (ds, p.2)
  | .ktp ds => some (ds, p.2)
  | _ => none
def big (i : Int) : Bool := decide (-(2 ^ 62) ≤ i ∧ i < 2 ^ 62)
section
variable {X : Cx} {g : Gx} {tg ex a b : Expr} {fe : EM} {fa : AM} {p pos : Pos}
theorem di_list (h : DE X g ex fe) : DI X g tg ex (itV fe) := weakPI (pi_list h) fun σ H R ⟨F, ρ, ds, ρ', G, hf, q⟩ => by
  obtain ⟨p, e, hf⟩ := bnd hf
  obtain ⟨d, ρ1⟩ := p
  refine ⟨F, ρ, d, ρ1, G, e, fun v F' H' G' s r => ?_⟩
  cases d with
  | lst l =>
    cases hf
    cases r with
    | lst h1 h2 => exact ⟨_, rfl, ⟨_, SqL.of (G'.sub _ _ h1)⟩, q _ F' H' G' s (walk_list h1 h2)⟩
  | scr ns =>
    cases hf
    cases r with
    | scr h1 => exact ⟨_, rfl, ⟨_, G'.sub.seq h1⟩, q _ F' H' G' s (walk_scr h1)⟩
  | _ => cases hf
theorem di_tup (h : DE X g ex fe) : DI X g tg ex (itT fe) := weakPI (pi_tup h) fun σ H R ⟨F, ρ, ds, ρ', G, hf, q⟩ => by
  obtain ⟨p, e, hf⟩ := bnd hf
  obtain ⟨d, ρ1⟩ := p
  refine ⟨F, ρ, d, ρ1, G, e, fun v F' H' G' s r => ?_⟩
  cases d with
  | tup l =>
    cases hf
    cases r with
    | tup h1 h2 => exact ⟨_, rfl, ⟨_, SqT.of (G'.sub _ _ h1)⟩, q _ F' H' G' s (walk_tup (SqT.of h1) h2)⟩
  | ktp l =>
    cases hf
    cases r with
    | ktp h1 h2 => exact ⟨_, rfl, ⟨_, Same.sqt G'.sub h1⟩, q _ F' H' G' s (walk_tup h1 h2)⟩
  | _ => cases hf
end
abbrev GM := D → Env → Option Env
/-- the slots ws alone are written -/
def Wr (ws : List Nat) (σ σ' : St) : Prop := σ'.length = σ.length ∧ ∀ j, j ∉ ws → σ'[j]? = σ[j]?
def tG (K : KW) (g : Gx) (ws : List Nat) (f : GM) : TG := fun v σ H Q => ∃ F ρ d ρ', Gd K g F H σ ρ ∧ Rep K F v d ∧ f d ρ = some ρ' ∧ ∀ σ', Gd K g F H σ' ρ' → Wr ws σ σ' → Q σ' H
abbrev DG (X : Cx) (g : Gx) (tg : Expr) (ws : List Nat) (f : GM) : Prop := PG X tg (tG X.kw g ws f)
theorem weakPG {X : Cx} {e : Expr} {t t' : TG} (h : PG X e t) (w : ∀ v σ H Q, t' v σ H Q → t v σ H Q) : PG X e t' := ⟨fun pins s σ H v u Q I r q => h.run pins s σ H v u Q I r (w v σ H Q q)⟩
def tGs (K : KW) (g : Gx) (ws : List Nat) (f : List D → Env → Option Env) : TGs := fun vs σ H Q => ∃ F ρ ds ρ', Gd K g F H σ ρ ∧ Reps K F vs ds ∧ f ds ρ = some ρ' ∧ ∀ σ', Gd K g F H σ' ρ' → Wr ws σ σ' → Q σ' H
abbrev DGs (X : Cx) (g : Gx) (ts : List Expr) (ws : List Nat) (f : List D → Env → Option Env) : Prop := PGs X ts (tGs X.kw g ws f)
theorem weakPGs {X : Cx} {e : List Expr} {t t' : TGs} (h : PGs X e t) (w : ∀ v σ H Q, t' v σ H Q → t v σ H Q) : PGs X e t' := ⟨fun pins s σ H v u Q I r q => h.run pins s σ H v u Q I r (w v σ H Q q)⟩
def gN (i : Nat) : GM := fun d ρ => some (ρ.set i (some (.d d)))
def gsNil : List D → Env → Option Env := fun ds ρ => match ds with
  | [] => some ρ
  | _ => none
def gsCons (f : GM) (h : List D → Env → Option Env) : List D → Env → Option Env := fun ds ρ => match ds with
  | d :: r => (f d ρ).bind fun ρ1 => h r ρ1
  | _ => none
def gTp (n : Nat) (h : List D → Env → Option Env) : GM := fun d ρ => match d with
  | .tup l => if l.length = n then h l ρ else none
  | .ktp l => if l.length = n then h l ρ else none
  | _ => none
section
variable {X : Cx} {g : Gx} {tg e : Expr} {es : List Expr} {f : GM} {ws us : List Nat} {fs : List D → Env → Option Env} {pos : Pos}
theorem dg_n {i : Nat} {x : Str} (hN : X.N.Nodup) (hi : X.N[i]? = some x) (hx : Loc X.env.scope x) (hf : X.fn x = true ∨ X.env.scope.names.lookup x = some .local := by first | exact .inl rfl | exact .inr rfl | assumption) : DG X g (.Name x pos) [i] (gN i) :=
  weakPG (pg_name hN hi hx hf) fun v σ H Q ⟨F, ρ, d, ρ', G, r, hf, q⟩ => by
  cases hf
  refine q _ (G.setD i r) ⟨by simp, fun j hj => ?_⟩
  rw [List.getElem?_set_ne]
  intro e; subst e; simp at hj
theorem dgs_nil : DGs X g [] [] gsNil := weakPGs pgs_nil fun v σ H Q ⟨F, ρ, d, ρ', G, r, hf, q⟩ => by
  cases r with
  | nil => cases hf; exact ⟨rfl, q _ G ⟨rfl, fun _ _ => rfl⟩⟩
  | cons _ _ => cases hf
theorem dgs_cons (h1 : DG X g e ws f) (h2 : DGs X g es us fs) (hs : (assignEach (e :: es) X.env).map (·.2) = assign e X.env :: (assignEach es X.env).map (·.2) := by rfl) : DGs X g (e :: es) (ws ++ us) (gsCons f fs) :=
  weakPGs (pgs_cons h1 h2 hs) fun v σ H Q ⟨F, ρ, d, ρ', G, r, hf, q⟩ => by
  cases r with
  | nil => cases hf
  | cons r rr =>
    obtain ⟨ρ1, e1, e2⟩ := bnd hf
    refine ⟨_, _, rfl, F, ρ, _, ρ1, G, r, e1, fun σ1 G1 w1 => ⟨F, ρ1, _, ρ', G1, rr, e2, fun σ2 G2 w2 => q σ2 G2 ⟨w2.1.trans w1.1, fun j hj => ?_⟩⟩⟩
    rw [List.mem_append, not_or] at hj
    exact (w2.2 j hj.2).trans (w1.2 j hj.1)
theorem dg_tup {k n : Nat} (hc : X.calm = true) (h : DGs X g es ws fs) (hn : (assignEach es X.env).length = n := by rfl) (hst : (assignEach es X.env).findIdx? (·.1) = none := by rfl) : DG X g (.Tuple es k pos) ws (gTp n fs) :=
  weakPG (pg_tup hc h hn hst) fun v σ H Q ⟨F, ρ, d, ρ', G, r, hf, q⟩ => by
  cases r with
  | tup h1 h2 =>
    unfold gTp at hf
    dsimp only at hf
    split at hf
    · rename_i hl
      exact ⟨_, _, rfl, SqT.of (G.sub _ _ h1), by rw [h2.length, hl], F, ρ, _, ρ', G, h2, hf, q⟩
    · cases hf
  | ktp h1 h2 =>
    unfold gTp at hf
    dsimp only at hf
    split at hf
    · rename_i hl
      exact ⟨_, _, rfl, Same.sqt G.sub h1, by rw [h2.length, hl], F, ρ, _, ρ', G, h2, hf, q⟩
    · cases hf
  | _ => cases hf
end
/-- targets = value -/
def sAsg (f : EM) (h : GM) : SM := fun ρ => (f ρ).bind fun p => (h p.1 p.2).bind fun ρ' => some (.nx, ρ')
section
variable {X : Cx} {g : Gx} {tg e : Expr} {f : EM} {h : GM} {pos : Pos}
theorem ds_asg {ws : List Nat} (he : DE X g e f) (hg : DG X g tg ws h) (hs : swapsWithSole [tg] e pos.line X.env = pure false := by rfl) (hw : swappedStores [tg] e X.env = pure none := by rfl)
    (h1 : (assignEach [tg] X.env).map (·.2) = [assign tg X.env] := by rfl) : DS X g (.Assign [tg] e pos) (sAsg f h) := weakPS (ps_asg he hg hs hw h1) fun D σ H ⟨F, ρ, o, ρ', G, hf, q⟩ => by
  obtain ⟨p, e, hf⟩ := bnd hf
  obtain ⟨ρ1, e1, hf⟩ := bnd hf
  cases hf
  exact ⟨F, ρ, p.1, p.2, G, e, fun v F' H' G' s r => ⟨F', p.2, p.1, ρ', G', r, e1, fun σ' G2 _ => q σ' F' H' G2 s⟩⟩
end
def loop (h : GM) (b : SM) : List D → SM
  | [], ρ => some (.nx, ρ)
  | d :: r, ρ => (h d ρ).bind fun ρ1 => (b ρ1).bind fun p => match p.1 with
    | .nx => loop h b r p.2
    | .ct => loop h b r p.2
    | .br => some (.nx, p.2)
    | o => some (o, p.2)
def sFor (it : LM) (h : GM) (b : SM) : SM := fun ρ => (it ρ).bind fun p => loop h b p.1 p.2
section
variable {X : Cx} {g : Gx} {tg iter : Expr} {body : List Stmt} {it : LM} {h : GM} {b : SM} {pos : Pos}
theorem ds_for {ws : List Nat} (hp : PassesOwn (model X.prog X.w) X.A X.env X.xe) (hc : X.calm = true) (hi : DI X g tg iter it) (hg : DG X g tg ws h) (hb : DSs X g body b)
    (hs : ∀ x, foldedSetIterable iter X.env x = pure x := by intro _; rfl) : DS X g (.For tg iter body [] pos) (sFor it h b) := weakPS (ps_for hp hc hi hg hb hs) fun E σ H ⟨F, ρ, o, ρ', G, hf, q⟩ => by
  obtain ⟨p, e, hf⟩ := bnd hf
  obtain ⟨ds, ρ1⟩ := p
  refine ⟨F, ρ, ds, ρ1, G, e, fun J F1 H1 G1 s1 w => ?_⟩
  refine ⟨fun i m σ H => m = ds.length - i ∧ i ≤ ds.length ∧ ∃ F2 ρ2, Gd X.kw g F2 H σ ρ2 ∧ Same F1 F2 ∧ loop h b (ds.drop i) ρ2 = some (o, ρ'), ⟨_, rfl, Nat.zero_le _, F1, ρ1, G1, Same.refl _, hf⟩, ?_⟩
  rintro i m σ H ⟨rfl, hi, F2, ρ2, G2, s2, hl⟩
  by_cases hlt : i < ds.length
  · refine .inr ⟨w.go i F2 H s2 G2.sub hlt, fun σ' H' => i + 1 ≤ ds.length ∧ ∃ F3 ρ3, Gd X.kw g F3 H' σ' ρ3 ∧ Same F1 F3 ∧ loop h b (ds.drop (i + 1)) ρ3 = some (o, ρ'), fun σ' H' p' => ⟨ds.length - (i + 1), by omega, rfl, p'⟩, fun x H' y => ?_⟩
    obtain ⟨d, F3, hd, xt, r⟩ := w.yld i F2 H x H' s2 G2.sub hlt y
    have ed : ds.drop i = d :: ds.drop (i + 1) := by
      rw [List.drop_eq_getElem_cons hlt]
      rw [List.getElem?_eq_getElem hlt] at hd
      cases hd; rfl
    rw [ed] at hl
    unfold loop at hl
    obtain ⟨ρ4, e4, hl⟩ := bnd hl
    obtain ⟨p5, e5, hl⟩ := bnd hl
    obtain ⟨o5, ρ5⟩ := p5
    refine ⟨F3, ρ2, d, ρ4, G2.ext xt, r, e4, fun σ4 G4 _ => ⟨F3, ρ4, o5, ρ5, G4, e5, fun σ5 F5 H5 G5 s5 => ?_⟩⟩
    have s15 : Same F1 F5 := (s2.trans xt.ff).trans s5
    cases o5 with
    | nx => exact ⟨hlt, F5, ρ5, G5, s15, hl⟩
    | ct => exact ⟨hlt, F5, ρ5, G5, s15, hl⟩
    | br => cases hl; exact q σ5 F5 H5 G5 (s1.trans s15)
    | rt d => cases hl; exact q σ5 F5 H5 G5 (s1.trans s15)
    | rn d => cases hl; exact q σ5 F5 H5 G5 (s1.trans s15)
    | rr d => cases hl; exact q σ5 F5 H5 G5 (s1.trans s15)
  · have e : i = ds.length := by omega
    subst e
    rw [List.drop_length] at hl
    cases hl
    exact .inl ⟨w.stop _ F2 H s2 G2.sub (Nat.le_refl _), q σ F2 H G2 (s1.trans s2)⟩
end
def wipeE : Env → List Nat → Env
  | ρ, [] => ρ
  | ρ, v :: vs => (wipeE ρ vs).set v none
def keepD (ρ : Env) (v : Nat) : Option S := match ρ[v]? with
  | some (some (.d x)) => some (.d x)
  | _ => none
/-- the slots of the comprehension's own names as they were -/
def putBack (ρ0 ρ : Env) : List Nat → Env
  | [] => ρ
  | v :: vs => (putBack ρ0 ρ vs).set v (keepD ρ0 v)
def lcLoop (h : GM) (t : TM) (e : EM) (vs : List Nat) : List D → List D → LM
  | [], acc, ρ => some (acc, ρ)
  | d :: r, acc, ρ => (h d (wipeE ρ vs)).bind fun ρ1 => (t ρ1).bind fun p => if p.1 then (e p.2).bind fun q => if acc.length < 16777216 then lcLoop h t e vs r (acc ++ [q.1]) q.2 else none
    else lcLoop h t e vs r acc p.2
def tYs : TM := fun ρ => some (true, ρ)
abbrev DTs (X : Cx) (g : Gx) (es : List Expr) (t : TM) : Prop := PTs X es (tT X.kw g t)
theorem dts_nil {X : Cx} {g : Gx} : DTs X g [] tYs := ⟨fun pins s σ H Q I ⟨F, ρ, b, ρ', G, hf, q⟩ => by
  cases hf
  exact pts_nil.run pins s σ H Q I (q F H G (Same.refl _))⟩
theorem dts_one {X : Cx} {g : Gx} {c : Expr} {t : TM} (h : DT X g c t) : DTs X g [c] t := pts_one h
def nLc (it : LM) (h : GM) (t : TM) (e : EM) (vs : List Nat) : NM := fun ρ => (it ρ).bind fun p => (lcLoop h t e vs p.1 [] p.2).bind fun q => some (.lst q.1, putBack p.2 q.2 vs)
theorem wipe_get {σ : St} : ∀ {vs : List Nat} {j : Nat}, (wipe σ vs)[j]? = if j ∈ vs then (if j < σ.length then some none else none) else σ[j]?
  | [], j => by simp [wipe]
  | v :: vs, j => by
    unfold wipe
    by_cases e : j = v
    · subst e
      simp only [List.mem_cons, true_or, if_true]
      by_cases hl : j < σ.length
      · rw [List.getElem?_set_self (by rw [wipe_length]; exact hl), if_pos hl]
      · rw [List.getElem?_eq_none (by rw [List.length_set, wipe_length]; omega), if_neg hl]
    · rw [List.getElem?_set_ne (Ne.symm e), wipe_get]
      simp [e]
theorem wipe_eq {σ σ' : St} {vs : List Nat} (hl : σ'.length = σ.length) (h : ∀ j, j ∉ vs → σ'[j]? = σ[j]?) : wipe σ' vs = wipe σ vs := by
  apply List.ext_getElem?
  intro j
  rw [wipe_get, wipe_get, hl]
  by_cases hj : j ∈ vs
  · rw [if_pos hj, if_pos hj]
  · rw [if_neg hj, if_neg hj, h j hj]
theorem wipeE_length (ρ : Env) : ∀ vs : List Nat, (wipeE ρ vs).length = ρ.length
  | [] => rfl
  | v :: vs => by unfold wipeE; rw [List.length_set, wipeE_length ρ vs]
theorem putBack_length (ρ0 ρ : Env) : ∀ vs : List Nat, (putBack ρ0 ρ vs).length = ρ.length
  | [] => rfl
  | v :: vs => by unfold putBack; rw [List.length_set, putBack_length ρ0 ρ vs]
theorem wipeE_get {ρ : Env} : ∀ {vs : List Nat} {j : Nat}, (wipeE ρ vs)[j]? = if j ∈ vs then (if j < ρ.length then some none else none) else ρ[j]?
  | [], j => by simp [wipeE]
  | v :: vs, j => by
    unfold wipeE
    by_cases e : j = v
    · subst e
      simp only [List.mem_cons, true_or, if_true]
      by_cases hl : j < ρ.length
      · rw [List.getElem?_set_self (by rw [wipeE_length]; exact hl), if_pos hl]
      · rw [List.getElem?_eq_none (by rw [List.length_set, wipeE_length]; omega), if_neg hl]
    · rw [List.getElem?_set_ne (Ne.symm e), wipeE_get]
      simp [e]
theorem putBack_get {ρ0 ρ : Env} : ∀ {vs : List Nat} {j : Nat}, (putBack ρ0 ρ vs)[j]? = if j ∈ vs then (if j < ρ.length then some (keepD ρ0 j) else none) else ρ[j]?
  | [], j => by simp [putBack]
  | v :: vs, j => by
    unfold putBack
    by_cases e : j = v
    · subst e
      simp only [List.mem_cons, true_or, if_true]
      by_cases hl : j < ρ.length
      · rw [List.getElem?_set_self (by rw [putBack_length]; exact hl), if_pos hl]
      · rw [List.getElem?_eq_none (by rw [List.length_set, putBack_length]; omega), if_neg hl]
    · rw [List.getElem?_set_ne (Ne.symm e), putBack_get]
      simp [e]
section
variable {K : KW} {g : Gx} {F H F' H' : Hp} {σ : St} {ρ ρ' : Env}
/-- fewer slots are known -/
theorem Gd.less (G : Gd K g F H σ ρ) {σ' : St} {ρ' : Env} (hl : σ'.length = ρ'.length) (h : ∀ (j : Nat) (s : S), ρ'[j]? = some (some s) → ρ[j]? = some (some s) ∧ σ'[j]? = σ[j]?) : Gd K g F H σ' ρ' := by
  have own : ∀ {j : Nat} {b : Addr}, OwnAt H σ' ρ' j b → OwnAt H σ ρ j b := fun {j b} h0 => by
    obtain ⟨s, hs⟩ := h0.slot
    obtain ⟨h1, h2⟩ := h j s hs
    exact h0.to h2.symm (h1.trans hs.symm) fun _ _ _ _ _ => rfl
  exact ⟨hl, fun j s e => by
    obtain ⟨h1, h2⟩ := h j s e
    rw [h2]; exact G.slot j s h1, fun a b l h1 h2 => G.dist a b l (own h1) (own h2), G.sub, G.old, G.keep, G.grow, G.new, fun b o q => ⟨(G.pinned b o q).1, (G.pinned b o q).2.1, fun j z => (G.pinned b o q).2.2 j (own z)⟩⟩
theorem Gd.wipe (G : Gd K g F H σ ρ) (vs : List Nat) : Gd K g F H (L2.wipe σ vs) (wipeE ρ vs) := G.less (by rw [wipe_length, wipeE_length, G.len]) fun j s e => by
  rw [wipeE_get] at e
  by_cases hj : j ∈ vs
  · rw [if_pos hj] at e
    split at e <;> cases e
  · rw [if_neg hj] at e
    rw [wipe_get, if_neg hj]
    exact ⟨e, rfl⟩
theorem Gd.unpin {a : Addr} {o : HO} (hn : g.pin a = none) (G : Gd K (g.also a o) F H σ ρ) : Gd K g F H σ ρ ∧ H a = some o ∧ F a = none ∧ ∀ i, ¬ OwnAt H σ ρ i a :=
  ⟨⟨G.len, fun i s e => by
    have z := G.slot i s e
    cases s with
    | d x => exact z
    | own t xs => exact z
    | tre t xs => exact z, G.dist, G.sub, G.old, G.keep, G.grow, G.new, fun b u q => G.pinned b u (by
      show upd g.pin a o b = some u
      rw [upd_ne (ne_of_none q hn)]; exact q)⟩, G.pinned a o upd_same⟩
theorem Gd.ownUpd (G : Gd K g F H σ ρ) {a : Addr} {o : HO} (no : ∀ i, ¬ OwnAt H σ ρ i a) {j : Nat} {b : Addr} (h : OwnAt (upd H a o) σ ρ j b) : OwnAt H σ ρ j b := h.to rfl rfl fun l t xs e r => by
  obtain ⟨u, hu⟩ := G.root e r
  have ne : l ≠ a := fun c => by
    subst c
    exact no j (.ofT e r hu List.mem_cons_self)
  exact (upd_ne ne).symm
/-- a thing that is neither frozen, nor owned, nor to be kept is changed -/
theorem Gd.updFree (G : Gd K g F H σ ρ) {a : Addr} {o : HO} (hf : F a = none) (h0 : g.H0 a = none) (hp : g.pin a = none) (no : ∀ i, ¬ OwnAt H σ ρ i a) : Gd K g F (upd H a o) σ ρ :=
  ⟨G.len, fun i s e => by
    have z := G.slot i s e
    cases s with
    | d x => exact z
    | own t xs =>
      obtain ⟨l, vs, e1, tg, fl, hl, r⟩ := z
      refine ⟨l, vs, e1, tg, fl, ?_, r⟩
      rw [upd_ne]; exact hl
      intro c; subst c; exact no i (.of e1 e)
    | tre t xs =>
      obtain ⟨l, vs, e1, tg, fl, hl, r, nd, tx⟩ := z
      have ne : ∀ b ∈ l :: bx vs xs, b ≠ a := fun b m c => no i (.ofT e1 e hl (c ▸ m))
      exact ⟨l, vs, e1, tg, fl, by rw [upd_ne (ne l List.mem_cons_self)]; exact hl, r.move (Same.refl _) fun b m => ⟨(r.at_ b m).1, upd_ne (ne b (List.mem_cons_of_mem _ m))⟩, nd, tx⟩, fun i j l h1 h2 => G.dist i j l (G.ownUpd no h1) (G.ownUpd no h2), fun b u q => by rw [upd_ne (ne_of_none q hf)]; exact G.sub _ _ q, G.old, fun b u q n => by rw [upd_ne (ne_of_none q h0)]; exact G.keep _ _ q n, fun b q => by
      by_cases c : b = a
      · subst c; exact h0
      · rw [upd_ne c] at q; exact G.grow b q, G.new, fun b u q => by
      obtain ⟨h1, h2, h3⟩ := G.pinned b u q
      refine ⟨?_, h2, fun i z => h3 i (G.ownUpd no z)⟩
      rw [upd_ne (ne_of_none q hp)]; exact h1⟩
theorem keepD_some {ρ : Env} {v : Nat} {s : S} (h : keepD ρ v = some s) : ∃ x, s = .d x ∧ ρ[v]? = some (some (.d x)) := by
  unfold keepD at h
  split at h
  · rename_i x hx
    cases h
    exact ⟨x, rfl, hx⟩
  · cases h
theorem Gd.unwipe {F1 H1 : Hp} {ρ1 ρE : Env} {vs : List Nat} (G1 : Gd K g F1 H1 σ ρ1) (s : Same F1 F) (G : Gd K g F H (L2.wipe σ vs) (wipeE ρE vs)) : Gd K g F H σ (putBack ρ1 ρE vs) := by
  have hl : σ.length = (putBack ρ1 ρE vs).length := by
    have := G.len
    rw [wipe_length, wipeE_length] at this
    rw [putBack_length, this]
  have old : ∀ {j : Nat} {s : S}, (putBack ρ1 ρE vs)[j]? = some (some s) → (j ∈ vs ∧ ∃ x, s = .d x ∧ ρ1[j]? = some (some (.d x))) ∨ (j ∉ vs ∧ (wipeE ρE vs)[j]? = some (some s) ∧ (L2.wipe σ vs)[j]? = σ[j]?) := fun {j s} e => by
    rw [putBack_get] at e
    by_cases hj : j ∈ vs
    · rw [if_pos hj] at e
      split at e
      · exact .inl ⟨hj, keepD_some (Option.some.inj e)⟩
      · cases e
    · rw [if_neg hj] at e
      exact .inr ⟨hj, by rw [wipeE_get, if_neg hj]; exact e, by rw [wipe_get, if_neg hj]⟩
  have own : ∀ {j : Nat} {b : Addr}, OwnAt H σ (putBack ρ1 ρE vs) j b → OwnAt H (L2.wipe σ vs) (wipeE ρE vs) j b := fun {j b} h0 => by
    by_cases hj : j ∈ vs
    · obtain ⟨l, e1, ⟨⟨t, xs, r⟩, _⟩ | ⟨t, xs, o, r, _, _⟩⟩ := h0 <;>
      · rcases old r with ⟨_, x, q, _⟩ | ⟨n, _⟩
        · cases q
        · exact absurd hj n
    · exact h0.to (by rw [wipe_get, if_neg hj]) (by rw [wipeE_get, if_neg hj, putBack_get, if_neg hj]) fun _ _ _ _ _ => rfl
  refine ⟨hl, fun j s' e => ?_, fun a b l h1 h2 => G.dist a b l (own h1) (own h2), G.sub, G.old, G.keep, G.grow, G.new, fun b o q => ⟨(G.pinned b o q).1, (G.pinned b o q).2.1, fun j z => (G.pinned b o q).2.2 j (own z)⟩⟩
  rcases old e with ⟨_, x, rfl, q⟩ | ⟨_, q1, q2⟩
  · obtain ⟨v, e1, r⟩ := G1.slot j _ q
    exact ⟨v, e1, r.mono s⟩
  · rw [← q2]; exact G.slot j s' q1
end
def tGx (K : KW) (ws : List Nat) (f : GM) : TG := fun v σ H Q => ∃ g, tG K g ws f v σ H Q
def tTx (K : KW) (f : TM) : TT := fun σ H Q => ∃ g, tT K g f σ H Q
def tEx (K : KW) (f : EM) : TE := fun σ H Q => ∃ g, tE K g f σ H Q
theorem pgx {X : Cx} {tg : Expr} {ws : List Nat} {f : GM} (h : ∀ g, DG X g tg ws f) : PG X tg (tGx X.kw ws f) := ⟨fun pins s σ H v u Q I r ⟨g, q⟩ => (h g).run pins s σ H v u Q I r q⟩
theorem ptsx {X : Cx} {es : List Expr} {f : TM} (h : ∀ g, DTs X g es f) : PTs X es (tTx X.kw f) := ⟨fun pins s σ H Q I ⟨g, q⟩ => (h g).run pins s σ H Q I q⟩
theorem pex {X : Cx} {ex : Expr} {f : EM} (h : ∀ g, DE X g ex f) : PE X ex (tEx X.kw f) := ⟨fun pins s σ H Q I ⟨g, q⟩ => (h g).run pins s σ H Q I q⟩
/-- what is walked, told by the state -/
structure WalkG (K : KW) (J : It) (g : Gx) (F0 : Hp) (ds : List D) : Prop where
  go : ∀ (i : Nat) (F H : Hp) (σ : L2.St) (ρ : Env), Gd K g F H σ ρ → Same F0 F → i < ds.length → J.go i H
  yld : ∀ (i : Nat) (F H : Hp) (σ : L2.St) (ρ : Env) (x : V) (H' : Hp), Gd K g F H σ ρ → Same F0 F → i < ds.length → J.yld i H x H' → ∃ d F', ds[i]? = some d ∧ Ext F H F' H' ∧ Rep K F' x d
  stop : ∀ (i : Nat) (F H : Hp) (σ : L2.St) (ρ : Env), Gd K g F H σ ρ → Same F0 F → ds.length ≤ i → J.stop i H
theorem WalkOk.toG {K : KW} {J : It} {g : Gx} {F0 : Hp} {ds : List D} (w : WalkOk K J F0 ds) : WalkG K J g F0 ds :=
  ⟨fun i F H _ _ G s hi => w.go i F H s G.sub hi, fun i F H _ _ x H' G s hi y => w.yld i F H x H' s G.sub hi y, fun i F H _ _ G s hi => w.stop i F H s G.sub hi⟩
theorem lc_in {K : KW} {g : Gx} {h : GM} {t : TM} {e : EM} {ws vs : List Nat} (sub : ∀ j ∈ ws, j ∈ vs) {σ : St} {J : It} {F1 H1 : Hp} {ρ1 ρE : Env} {ds xsE : List D} (G1 : Gd K g F1 H1 σ ρ1) (w : WalkG K J g F1 ds) (eE : lcLoop h t e vs ds [] ρ1 = some (xsE, ρE)) {Q : VK}
    (q : ∀ l o F' H', Gd K g F' H' σ (putBack ρ1 ρE vs) → Same F1 F' → H' l = some o → F' l = none → g.H0 l = none → g.pin l = none → (∀ i, ¬ OwnAt H' σ (putBack ρ1 ρE vs) i l) → ORep K F' o (.lst xsE) → Q (.ref l) H') :
    ∀ D, H1 D = none → ∃ W : Nat → Nat → Hp → Prop, (∃ m, W 0 m (upd H1 D (.lst []))) ∧ ∀ i m H, W i m H →
      (J.stop i H ∧ Q (.ref D) H) ∨ (J.go i H ∧ ∃ Nx : Hp → Prop, (∀ H', Nx H' → ∃ m', m' < m ∧ W (i + 1) m' H') ∧ ∀ x H', J.yld i H x H' → tGx K ws h x (L2.wipe σ vs) H' fun σ2 H2 => L2.wipe σ2 vs = L2.wipe σ vs ∧ tTx K t σ2 H2 fun b H3 =>
        if b = true then tEx K e σ2 H3 fun y H4 => ∃ acc, H4 D = some (.lst acc) ∧ acc.length < sizeLine ∧ Nx (upd H4 D (.lst (acc ++ [y]))) else Nx H3) := by
  intro L hL
  obtain ⟨_, fL, nL, pL, _⟩ := G1.fresh hL (.lst [])
  have G1' := (G1.fresh hL (.lst [])).1
  have Gw := G1'.wipe vs
  have noW : ∀ i, ¬ OwnAt (upd H1 L (.lst [])) (L2.wipe σ vs) (wipeE ρ1 vs) i L := (Gd.fresh (G1.wipe vs) hL (.lst [])).2.2.2.2
  refine ⟨fun i m H => m = ds.length - i ∧ i ≤ ds.length ∧ ∃ F2 ρ2 acc ws', Gd K g F2 H (L2.wipe σ vs) (wipeE ρ2 vs) ∧ Same F1 F2 ∧ H L = some (.lst ws') ∧ F2 L = none ∧ (∀ i, ¬ OwnAt H (L2.wipe σ vs) (wipeE ρ2 vs) i L) ∧ Reps K F2 ws' acc ∧ ws'.length = acc.length ∧ lcLoop h t e vs (ds.drop i) acc ρ2 = some (xsE, ρE),
    ⟨_, rfl, Nat.zero_le _, F1, ρ1, [], [], Gw, Same.refl _, upd_same, fL, noW, .nil, rfl, eE⟩, ?_⟩
  rintro i m H ⟨rfl, hi, F2, ρ2, acc, ws', G2, s2, hL2, fL2, no2, racc, hlen, hl⟩
  by_cases hlt : i < ds.length
  · refine .inr ⟨w.go i F2 H _ _ G2 s2 hlt, fun H' => i + 1 ≤ ds.length ∧ ∃ F3 ρ3 acc ws', Gd K g F3 H' (L2.wipe σ vs) (wipeE ρ3 vs) ∧ Same F1 F3 ∧ H' L = some (.lst ws') ∧ F3 L = none ∧ (∀ i, ¬ OwnAt H' (L2.wipe σ vs) (wipeE ρ3 vs) i L) ∧ Reps K F3 ws' acc ∧ ws'.length = acc.length ∧ lcLoop h t e vs (ds.drop (i + 1)) acc ρ3 = some (xsE, ρE),
      fun H' p' => ⟨ds.length - (i + 1), by omega, rfl, p'⟩, fun x H' y => ?_⟩
    obtain ⟨d, F3, hd, xt, r⟩ := w.yld i F2 H _ _ x H' G2 s2 hlt y
    have ed : ds.drop i = d :: ds.drop (i + 1) := by
      rw [List.drop_eq_getElem_cons hlt]
      rw [List.getElem?_eq_getElem hlt] at hd
      cases hd; rfl
    rw [ed] at hl
    unfold lcLoop at hl
    obtain ⟨ρ4, e4, hl⟩ := bnd hl
    obtain ⟨p5, e5, hl⟩ := bnd hl
    obtain ⟨b5, ρ5⟩ := p5
    have Gp := (G2.pin hL2 fL2 no2).ext xt
    have r3 : Reps K F3 ws' acc := racc.mono xt.ff
    -- wipe behind a turn
    have fold : ∀ {σ4 : St} {F6 H6 : Hp} {ρ6 : Env}, L2.wipe σ4 vs = L2.wipe σ vs → Gd K (g.also L (.lst ws')) F6 H6 σ4 ρ6 → Gd K g F6 H6 (L2.wipe σ vs) (wipeE ρ6 vs) ∧ H6 L = some (.lst ws') ∧ F6 L = none ∧ ∀ i, ¬ OwnAt H6 (L2.wipe σ vs) (wipeE ρ6 vs) i L := fun {σ4 F6 H6 ρ6} ew G6 => by
      have z := G6.wipe vs
      rw [ew] at z
      exact z.unpin pL
    refine ⟨g.also L (.lst ws'), F3, wipeE ρ2 vs, d, ρ4, Gp, r, e4, fun σ4 G4 w4 => ?_⟩
    have ew : L2.wipe σ4 vs = L2.wipe σ vs := by
      have e1 := wipe_eq (σ := L2.wipe σ vs) (σ' := σ4) (vs := vs) w4.1 fun j hj => w4.2 j fun z => hj (sub j z)
      rw [e1]
      apply List.ext_getElem?
      intro j
      rw [wipe_get, wipe_get, wipe_length]
      by_cases hj : j ∈ vs
      · rw [if_pos hj, if_pos hj]
      · rw [if_neg hj, if_neg hj]
    refine ⟨?_, g.also L (.lst ws'), F3, ρ4, b5, ρ5, G4, e5, fun F5 H5 G5 s5 => ?_⟩
    · exact ew
    · cases b5 with
      | true =>
        refine iteT ?_
        simp only [if_true] at hl
        obtain ⟨p6, e6, hl⟩ := bnd hl
        obtain ⟨y6, ρ6⟩ := p6
        refine ⟨g.also L (.lst ws'), F5, ρ5, y6, ρ6, G5, e6, fun y F6 H6 G6 s6 r6 => ?_⟩
        dsimp only at hl
        split at hl
        · rename_i hsz
          obtain ⟨G7, l7, f7, n7⟩ := fold ew G6
          refine ⟨ws', l7, by rw [hlen]; exact (by rw [sizeLine_eq]; exact hsz), hlt, F6, ρ6, acc ++ [y6], ws' ++ [y], G7.updFree f7 nL pL n7, ((s2.trans xt.ff).trans s5).trans s6, upd_same, f7, fun j z => n7 j (G7.ownUpd n7 z), ((r3.mono s5).mono s6).append (.cons r6 .nil), by simp [hlen], hl⟩
        · cases hl
      | false =>
        refine iteF ?_
        obtain ⟨G7, l7, f7, n7⟩ := fold ew G5
        exact ⟨hlt, F5, ρ5, acc, ws', G7, (s2.trans xt.ff).trans s5, l7, f7, n7, r3.mono s5, hlen, hl⟩
  · have e : i = ds.length := by omega
    subst e
    rw [List.drop_length] at hl
    cases hl
    refine .inl ⟨w.stop _ F2 H _ _ G2 s2 (Nat.le_refl _), q L _ F2 H (G1.unwipe s2 G2) s2 hL2 fL2 nL pL (fun i hi => ?_) (.lst racc)⟩
    -- the new list is in no slot
    by_cases hj : i ∈ vs
    · obtain ⟨l, e1, ⟨⟨t', zs, r1⟩, _⟩ | ⟨t', zs, o, r1, _, _⟩⟩ := hi <;>
      · rw [putBack_get, if_pos hj] at r1
        split at r1
        · obtain ⟨x, ex, _⟩ := keepD_some (Option.some.inj r1)
          cases ex
        · cases r1
    · exact no2 i (hi.to (by rw [wipe_get, if_neg hj]) (by rw [wipeE_get, if_neg hj, putBack_get, if_neg hj]) fun _ _ _ _ _ => rfl)
theorem lc_t {K : KW} {g : Gx} {it : LM} {h : GM} {t : TM} {e : EM} {ws vs : List Nat} (sub : ∀ j ∈ ws, j ∈ vs) {σ : St} {H : Hp} {Q : VK} (q : tN K g (nLc it h t e vs) σ H Q) :
    tLc (tI K g it) (tGx K ws h) (tTx K t) (tEx K e) vs σ H Q := by
  obtain ⟨F, ρ, d, ρ', G, hf, q⟩ := q
  obtain ⟨p, e0, hf⟩ := bnd hf
  obtain ⟨ds, ρ1⟩ := p
  obtain ⟨pE, eE, hf⟩ := bnd hf
  obtain ⟨xsE, ρE⟩ := pE
  cases hf
  refine ⟨F, ρ, ds, ρ1, G, e0, fun J F1 H1 G1 s1 w => ?_⟩
  exact lc_in sub G1 w.toG eE fun l o F' H' G' s' => q l o F' H' G' (s1.trans s')
section
variable {X : Cx} {g : Gx} {elt tg iter : Expr} {ifs : List Expr} {scope : Scope} {own : List (Str × Nat)} {pos : Pos} {it : LM} {h : GM} {t : TM} {e : EM} {ws : List Nat}
theorem dn_lc (hc : X.calm = true) (hN : X.N.Nodup) (hi : DI X g tg iter it) (ok : BlkOk X.N X.env.scope scope own)
    (hg : ∀ (s : Shared) (H : Hp) (C : Addr) (cl : List (Str × Addr)) (fp : List Addr) (g : Gx), DG (X.blk s H scope (compEnvC scope cl C X.env) fp) g tg ws h)
    (ht : ∀ (s : Shared) (H : Hp) (C : Addr) (cl : List (Str × Addr)) (fp : List Addr) (g : Gx), DTs (X.blk s H scope (compEnvC scope cl C X.env) fp) g ifs t)
    (he : ∀ (s : Shared) (H : Hp) (C : Addr) (cl : List (Str × Addr)) (fp : List Addr) (g : Gx), DE (X.blk s H scope (compEnvC scope cl C X.env) fp) g elt e)
    (sub : ∀ j ∈ ws, j ∈ own.map (·.2)) (hs : ∀ x, foldedSetIterable iter X.env x = pure x := by intro _; rfl) :
    DN X g (.ListComp elt [⟨tg, iter, ifs, 0⟩] scope pos) (nLc it h t e (own.map (·.2))) :=
  weakPE (pe_lc (g := tGx X.kw ws h) (tt := tTx X.kw t) (te := tEx X.kw e) hc hN hi ok (fun s H C cl fp => pgx (hg s H C cl fp)) (fun s H C cl fp => ptsx (ht s H C cl fp)) (fun s H C cl fp => pex (he s H C cl fp)) hs) fun σ H Q q => lc_t sub q
/-- .. kept as data -/
def sSetN (i : Nat) (f : NM) : SM := fun ρ => (f ρ).bind fun p => some (.nx, p.2.set i (some (.d p.1)))
theorem ds_setLc {i : Nat} {y : Str} {py spos : Pos} (hc : X.calm = true) (hN : X.N.Nodup) (hy : X.N[i]? = some y) (hyl : X.env.scope.names.lookup y = some .local)
    (hsw : swapsWith (.ListComp elt [⟨tg, iter, ifs, 0⟩] scope pos) (some (.Name y py)) spos.line X.env = pure true) (hi : DI X g tg iter it) (ok : BlkOk X.N X.env.scope scope own)
    (hg : ∀ (s : Shared) (H : Hp) (C : Addr) (cl : List (Str × Addr)) (fp : List Addr) (g : Gx), DG (X.blk s H scope (compEnvC scope cl C X.env) fp) g tg ws h)
    (ht : ∀ (s : Shared) (H : Hp) (C : Addr) (cl : List (Str × Addr)) (fp : List Addr) (g : Gx), DTs (X.blk s H scope (compEnvC scope cl C X.env) fp) g ifs t)
    (he : ∀ (s : Shared) (H : Hp) (C : Addr) (cl : List (Str × Addr)) (fp : List Addr) (g : Gx), DE (X.blk s H scope (compEnvC scope cl C X.env) fp) g elt e)
    (sub : ∀ j ∈ ws, j ∈ own.map (·.2)) (hs : ∀ x, foldedSetIterable iter X.env x = pure x := by intro _; rfl) :
    DS X g (.Assign [.Name y py] (.ListComp elt [⟨tg, iter, ifs, 0⟩] scope pos) spos) (sSetN i (nLc it h t e (own.map (·.2)))) :=
  weakPS (ps_setLc (g := tGx X.kw ws h) (tt := tTx X.kw t) (te := tEx X.kw e) hc hN hy hyl hsw hi ok (fun s H C cl fp => pgx (hg s H C cl fp)) (fun s H C cl fp => ptsx (ht s H C cl fp)) (fun s H C cl fp => pex (he s H C cl fp)) hs) fun D σ H ⟨F, ρ, o, ρ', G, hf, q⟩ => by
  obtain ⟨p, e, hf⟩ := bnd hf
  cases hf
  refine lc_t sub ⟨F, ρ, p.1, p.2, G, e, fun l vs F' H' G' s h1 h2 h3 h4 h5 h6 => ?_⟩
  have sm' : Same F' (upd F' l vs) := fun b u e => by rw [upd_ne (ne_of_none e h2)]; exact e
  exact q _ _ H' ((G'.freeze h1 h2 h3 h4 h5).setD i ((h6.mono sm').rep upd_same)) (s.trans sm')
end
end L3
namespace L3
open PySem L2
inductive Res where
  | d (x : D)
  | n (x : D)
  | r (x : D)
abbrev FM := List A → Option (Res × List D)
def bxo : Option HO → D → List Addr
  | some o, x => bx o x
  | none, _ => []
/-- the in-out things, each with its boxes -/
def fpA (H : Hp) : V → A → List (Addr × List Addr)
  | .ref l, .io _ => [(l, [])]
  | .ref l, .tr x => [(l, bxo (H l) x)]
  | _, _ => []
def fpL (H : Hp) : List V → List A → List (Addr × List Addr)
  | v :: vs, a :: as => fpA H v a ++ fpL H vs as
  | _, _ => []
theorem fpL_v (H : Hp) (v : V) (x : D) (vs : List V) (as : List A) : fpL H (v :: vs) (.v x :: as) = fpL H vs as := by cases v <;> rfl
theorem fpL_io (H : Hp) (l : Addr) (x : D) (vs : List V) (as : List A) : fpL H (.ref l :: vs) (.io x :: as) = (l, []) :: fpL H vs as := rfl
theorem fpL_tr {H : Hp} {l : Addr} {o : HO} (h : H l = some o) (x : D) (vs : List V) (as : List A) : fpL H (.ref l :: vs) (.tr x :: as) = (l, bx o x) :: fpL H vs as := by
  show (l, bxo (H l) x) :: _ = _
  rw [h]; rfl
theorem adL_cons (p : Addr × List Addr) (r : List (Addr × List Addr)) : adL (p :: r) = p.1 :: (p.2 ++ adL r) := by simp [adL]
/-- what the in-out things are behind a call -/
inductive IosOk (K : KW) (H F' H' : Hp) : List V → List A → List D → Prop
  | nil : IosOk K H F' H' [] [] []
  | v {v : V} {x : D} {vs : List V} {as : List A} {os : List D} : IosOk K H F' H' vs as os → IosOk K H F' H' (v :: vs) (.v x :: as) os
  | io {l : Addr} {ws : HO} {x0 xs : D} {vs : List V} {as : List A} {os : List D} : F' l = none → H' l = some ws → ORep K F' ws xs → IosOk K H F' H' vs as os → IosOk K H F' H' (.ref l :: vs) (.io x0 :: as) (xs :: os)
  | tr {l : Addr} {ws : HO} {x0 xs : D} {vs : List V} {as : List A} {os : List D} : F' l = none → H' l = some ws → TRep K F' H' ws xs → (∀ a ∈ bx ws xs, a ∈ bxo (H l) x0 ∨ H a = none) → IosOk K H F' H' vs as os → IosOk K H F' H' (.ref l :: vs) (.tr x0 :: as) (xs :: os)
def fpO (H' : Hp) : List V → List A → List D → List (Addr × List Addr)
  | _ :: vs, .v _ :: as, os => fpO H' vs as os
  | .ref l :: vs, .io _ :: as, _ :: os => (l, []) :: fpO H' vs as os
  | .ref l :: vs, .tr _ :: as, x :: os => (l, bxo (H' l) x) :: fpO H' vs as os
  | _, _, _ => []
theorem fpO_v (H : Hp) (v : V) (x : D) (vs : List V) (as : List A) (os : List D) : fpO H (v :: vs) (.v x :: as) os = fpO H vs as os := by cases v <;> cases os <;> rfl
def ResOk (K : KW) (H F' H' : Hp) (ad : List Addr) (v : V) : Res → Prop
  | .d x => Rep K F' v x
  | .n xs => ∃ l ws, v = .ref l ∧ H l = none ∧ F' l = none ∧ l ∉ ad ∧ H' l = some ws ∧ ORep K F' ws xs
  | .r xs => ∃ l ws, v = .ref l ∧ H' l = some ws ∧ TRep K F' H' ws xs ∧ (l :: bx ws xs).Nodup ∧ ∀ a ∈ l :: bx ws xs, H a = none ∧ F' a = none ∧ a ∉ ad
/-- behind a call -/
structure Post (K : KW) (F H F' H' : Hp) (io : List Addr) : Prop where
  ff : Same F F'
  sub : Same F' H'
  keep : ∀ b o, H b = some o → b ∉ io → H' b = some o
  new : ∀ b o, F' b = some o → F b = some o ∨ H b = none
  grow : ∀ b, H' b = none → H b = none
def spF (K : KW) (fm : FM) : Sp := fun vs H Q _ => ∃ F as r os, ArgsOk K F H vs as ∧ (adL (fpL H vs as)).Nodup ∧ Same F H ∧ fm as = some (r, os) ∧
  ∀ v F' H', Post K F H F' H' (adL (fpL H vs as)) → IosOk K H F' H' vs as os → (adL (fpO H' vs as os)).Nodup → ResOk K H F' H' (adL (fpO H' vs as os)) v r → Q v H'
def entry : Nat → List A → Env
  | _, [] => []
  | k, .v x :: r => some (.d x) :: entry k r
  | k, .io xs :: r => some (.own (some k) xs) :: entry (k + 1) r
  | k, .tr xs :: r => some (.tre (some k) xs) :: entry (k + 1) r
def collect : Nat → Nat → List A → Env → Option (List D)
  | _, _, [], _ => some []
  | k, i, .v _ :: r, ρ => collect k (i + 1) r ρ
  | k, i, .io _ :: r, ρ => match ρ[i]? with
    | some (some (.own (some k') xs)) => if k' = k then (collect (k + 1) (i + 1) r ρ).bind fun os => some (xs :: os) else none
    | _ => none
  | k, i, .tr _ :: r, ρ => match ρ[i]? with
    | some (some (.tre (some k') xs)) => if k' = k then (collect (k + 1) (i + 1) r ρ).bind fun os => some (xs :: os) else none
    | _ => none
def resOf : Out → Option Res
  | .rt d => some (.d d)
  | .rn xs => some (.n xs)
  | .rr xs => some (.r xs)
  | .nx => some (.d .non)
  | _ => none
/-- the mirror of a def with n parameters and m names, by its body -/
def mkF (n m : Nat) (G : SM) : FM := fun as => if as.length = n then (G (entry 0 as ++ List.replicate (m - n) none)).bind fun p => (resOf p.1).bind fun r => (collect 0 0 as p.2).bind fun os => some (r, os) else none
theorem entry_length : ∀ (k : Nat) (as : List A), (entry k as).length = as.length
  | _, [] => rfl
  | k, .v x :: r => by simp [entry, entry_length k r]
  | k, .io xs :: r => by simp [entry, entry_length (k + 1) r]
  | k, .tr xs :: r => by simp [entry, entry_length (k + 1) r]
section
variable {K : KW} {F H : Hp} {F0 : Hp}
theorem entry_slot {pin : Hp} : ∀ {vs : List V} {as : List A} {k : Nat} {pre : List (Addr × List Addr)}, ArgsOk K F H vs as → (adL (fpL H vs as)).Nodup → pre.length = k → ∀ (i : Nat) (s : S), (entry k as)[i]? = some (some s) → SOk K ⟨H, F0, pre ++ fpL H vs as, pin⟩ F H (vs.map some)[i]? s
  | _, _, k, pre, .nil, nd, hp, i, s, e => by simp [entry] at e
  | _, _, k, pre, .v (v := v) (x := x) h r, nd, hp, i, s, e => by
    rw [fpL_v] at nd ⊢
    have ih := entry_slot (pin := pin) r nd hp
    cases i with
    | zero =>
      simp [entry] at e
      subst e
      exact ⟨v, by simp, h⟩
    | succ i =>
      have z := ih i s (by simpa [entry] using e)
      simpa using z
  | _, _, k, pre, .io (l := l) (ws := ws) (xs := xs) h1 h2 h3 r, nd, hp, i, s, e => by
    rw [fpL_io, adL_cons] at nd
    have ih := entry_slot (pin := pin) r (List.nodup_cons.mp nd).2 (k := k + 1) (pre := pre ++ [(l, [])]) (by simp [hp])
    cases i with
    | zero =>
      simp [entry] at e
      subst e
      refine ⟨l, ws, by simp, ⟨[], ?_⟩, h1, h2, h3⟩
      show (pre ++ (l, []) :: _)[k]? = some (l, [])
      rw [← hp]; simp
    | succ i =>
      have z := ih i s (by simpa [entry] using e)
      rw [List.append_assoc] at z
      simpa [fpL_io] using z
  | _, _, k, pre, .tr (l := l) (ws := ws) (xs := xs) (vs := vs) (as := as) h1 h2 h3 r, nd, hp, i, s, e => by
    rw [fpL_tr h2, adL_cons] at nd
    have nd2 : (bx ws xs ++ adL (fpL H vs as)).Nodup := (List.nodup_cons.mp nd).2
    have ih := entry_slot (pin := pin) r (List.nodup_append.mp nd2).2.1 (k := k + 1) (pre := pre ++ [(l, bx ws xs)]) (by simp [hp])
    rw [fpL_tr h2]
    cases i with
    | zero =>
      simp [entry] at e
      subst e
      have at_ : (pre ++ (l, bx ws xs) :: fpL H vs as)[k]? = some (l, bx ws xs) := by rw [← hp]; simp
      refine ⟨l, ws, by simp, ⟨_, at_⟩, h1, h2, h3, ?_, fun a m => .inr ⟨_, _, at_, m⟩⟩
      have nd' : (l :: (bx ws xs ++ adL (fpL H vs as))).Nodup := nd
      rw [← List.cons_append] at nd'
      exact (List.nodup_append.mp nd').1
    | succ i =>
      have z := ih i s (by simpa [entry] using e)
      rw [List.append_assoc] at z
      simpa using z
theorem entry_own : ∀ {vs : List V} {as : List A} {k : Nat}, ArgsOk K F H vs as → ∀ (i : Nat) (l : Addr), OwnAt H (vs.map some) (entry k as) i l → l ∈ adL (fpL H vs as)
  | _, _, k, .nil, i, l, h => by
    obtain ⟨s, q⟩ := h.slot
    simp [entry] at q
  | _, _, k, .v (v := v) (x := x) h r, i, l, ho => by
    cases i with
    | zero =>
      obtain ⟨l', e, ⟨⟨t, xs, q⟩, _⟩ | ⟨t, xs, o, q, _, _⟩⟩ := ho <;> simp [entry] at q
    | succ i =>
      rw [fpL_v]
      refine entry_own (k := k) r i l ?_
      obtain ⟨l', e, ⟨⟨t, xs, q⟩, ea⟩ | ⟨t, xs, o, q, hl, m⟩⟩ := ho
      · exact ⟨l', by simpa using e, .inl ⟨⟨t, xs, by simpa [entry] using q⟩, ea⟩⟩
      · exact ⟨l', by simpa using e, .inr ⟨t, xs, o, by simpa [entry] using q, hl, m⟩⟩
  | _, _, k, .io (l := l') h1 h2 h3 r, i, l, ho => by
    rw [fpL_io, adL_cons]
    cases i with
    | zero =>
      obtain ⟨l2, e, ⟨⟨t, xs, q⟩, ea⟩ | ⟨t, xs, o, q, hl, m⟩⟩ := ho
      · simp at e
        subst e
        simp [ea]
      · simp [entry] at q
    | succ i =>
      have := entry_own (k := k + 1) r i l (by
        obtain ⟨l', e, ⟨⟨t, xs, q⟩, ea⟩ | ⟨t, xs, o, q, hl, m⟩⟩ := ho
        · exact ⟨l', by simpa using e, .inl ⟨⟨t, xs, by simpa [entry] using q⟩, ea⟩⟩
        · exact ⟨l', by simpa using e, .inr ⟨t, xs, o, by simpa [entry] using q, hl, m⟩⟩)
      simp [this]
  | _, _, k, .tr (l := l') (ws := ws) (xs := xs0) h1 h2 h3 r, i, l, ho => by
    rw [fpL_tr h2, adL_cons]
    cases i with
    | zero =>
      obtain ⟨l2, e, ⟨⟨t, xs, q⟩, ea⟩ | ⟨t, xs, o, q, hl, m⟩⟩ := ho
      · simp [entry] at q
      · simp at e
        subst e
        simp [entry] at q
        obtain ⟨_, rfl⟩ := q
        rw [h2] at hl
        cases hl
        rcases List.mem_cons.mp m with rfl | m
        · exact List.mem_cons_self
        · exact List.mem_cons_of_mem _ (List.mem_append_left _ m)
    | succ i =>
      have := entry_own (k := k + 1) r i l (by
        obtain ⟨l', e, ⟨⟨t, xs, q⟩, ea⟩ | ⟨t, xs, o, q, hl, m⟩⟩ := ho
        · exact ⟨l', by simpa using e, .inl ⟨⟨t, xs, by simpa [entry] using q⟩, ea⟩⟩
        · exact ⟨l', by simpa using e, .inr ⟨t, xs, o, by simpa [entry] using q, hl, m⟩⟩)
      simp [this]
/-- behind the first slot -/
theorem own_succ {σ : St} {ρ : Env} {x : Option V} {s : Option S} {i : Nat} {a : Addr} (h : OwnAt H (x :: σ) (s :: ρ) (i + 1) a) : OwnAt H σ ρ i a := by
  obtain ⟨l', e, ⟨⟨t, xs, q⟩, ea⟩ | ⟨t, xs, o, q, hl, m⟩⟩ := h
  · exact ⟨l', by simpa using e, .inl ⟨⟨t, xs, by simpa using q⟩, ea⟩⟩
  · exact ⟨l', by simpa using e, .inr ⟨t, xs, o, by simpa using q, hl, m⟩⟩
theorem own_zero {σ : St} {ρ : Env} {x : Option V} {s : Option S} {a : Addr} (h : OwnAt H (x :: σ) (s :: ρ) 0 a) : ∃ l, x = some (.ref l) ∧ (((∃ t xs, s = some (.own t xs)) ∧ a = l) ∨ ∃ t xs o, s = some (.tre t xs) ∧ H l = some o ∧ a ∈ l :: bx o xs) := by
  obtain ⟨l', e, ⟨⟨t, xs, q⟩, ea⟩ | ⟨t, xs, o, q, hl, m⟩⟩ := h
  · exact ⟨l', by simpa using e, .inl ⟨⟨t, xs, by simpa using q⟩, ea⟩⟩
  · exact ⟨l', by simpa using e, .inr ⟨t, xs, o, by simpa using q, hl, m⟩⟩
theorem entry_dist : ∀ {vs : List V} {as : List A} {k : Nat}, ArgsOk K F H vs as → (adL (fpL H vs as)).Nodup → ∀ (i j : Nat) (l : Addr), OwnAt H (vs.map some) (entry k as) i l → OwnAt H (vs.map some) (entry k as) j l → i = j
  | _, _, k, .nil, nd, i, j, l, h, _ => by
    obtain ⟨s, q⟩ := h.slot
    simp [entry] at q
  | _, _, k, .v (v := v) (x := x) h r, nd, i, j, l, h1, h2 => by
    rw [fpL_v] at nd
    cases i with
    | zero =>
      obtain ⟨_, _, ⟨⟨_, _, q⟩, _⟩ | ⟨_, _, _, q, _, _⟩⟩ := own_zero (x := some v) (s := some (.d x)) h1 <;> cases q
    | succ i =>
      cases j with
      | zero => obtain ⟨_, _, ⟨⟨_, _, q⟩, _⟩ | ⟨_, _, _, q, _, _⟩⟩ := own_zero (x := some v) (s := some (.d x)) h2 <;> cases q
      | succ j => rw [entry_dist r nd i j l (own_succ h1) (own_succ h2)]
  | _, _, k, .io (l := l') (xs := xs0) (vs := vs) (as := as) g1 g2 g3 r, nd, i, j, l, h1, h2 => by
    rw [fpL_io, adL_cons, List.nodup_cons] at nd
    have first : ∀ {a : Addr}, OwnAt H (some (V.ref l') :: vs.map some) (some (.own (some k) xs0) :: entry (k + 1) as) 0 a → a = l' := fun {a} h => by
      obtain ⟨l2, e, ⟨_, q⟩ | ⟨_, _, _, q, _, _⟩⟩ := own_zero (x := some (.ref l')) (s := some (.own (some k) xs0)) h
      · cases e; exact q
      · cases q
    cases i with
    | zero =>
      cases j with
      | zero => rfl
      | succ j =>
        rw [first h1] at h2
        exact absurd (entry_own (k := k + 1) r j _ (own_succ h2)) (by simpa using nd.1)
    | succ i =>
      cases j with
      | zero =>
        rw [first h2] at h1
        exact absurd (entry_own (k := k + 1) r i _ (own_succ h1)) (by simpa using nd.1)
      | succ j => rw [entry_dist (k := k + 1) r nd.2 i j l (own_succ h1) (own_succ h2)]
  | _, _, k, .tr (l := l') (ws := ws) (xs := xs0) (vs := vs) (as := as) g1 g2 g3 r, nd, i, j, l, h1, h2 => by
    rw [fpL_tr g2, adL_cons, ← List.cons_append] at nd
    have nd := List.nodup_append.mp nd
    have first : ∀ {a : Addr}, OwnAt H (some (V.ref l') :: vs.map some) (some (.tre (some k) xs0) :: entry (k + 1) as) 0 a → a ∈ l' :: bx ws xs0 := fun {a} h => by
      obtain ⟨l2, e, ⟨⟨_, _, q⟩, _⟩ | ⟨_, _, o, q, ho, m⟩⟩ := own_zero (x := some (.ref l')) (s := some (.tre (some k) xs0)) h
      · cases q
      · cases e; cases q
        rw [g2] at ho; cases ho
        exact m
    cases i with
    | zero =>
      cases j with
      | zero => rfl
      | succ j => exact absurd rfl (nd.2.2 l (first h1) l (entry_own (k := k + 1) r j _ (own_succ h2)))
    | succ i =>
      cases j with
      | zero => exact absurd rfl (nd.2.2 l (first h2) l (entry_own (k := k + 1) r i _ (own_succ h1)))
      | succ j => rw [entry_dist (k := k + 1) r nd.2.1 i j l (own_succ h1) (own_succ h2)]
/-- the outs of a def, its slots at the end -/
theorem collect_ok {g : Gx} {F' H' : Hp} {σ : St} {ρ : Env} (G : Gd K g F' H' σ ρ) (hH : g.H0 = H) : ∀ {vs : List V} {as : List A} {k i : Nat} {pre : List (Addr × List Addr)} {os : List D}, ArgsOk K F H vs as → pre.length = k → g.pl = pre ++ fpL H vs as → collect k i as ρ = some os →
    IosOk K H F' H' vs as os ∧ (adL (fpO H' vs as os)).Nodup ∧ ∀ a ∈ adL (fpO H' vs as os), ∃ j, i ≤ j ∧ IsPar ρ j ∧ OwnAt H' σ ρ j a
  | _, _, k, i, pre, os, .nil, hp, hg, e => by cases e; exact ⟨.nil, .nil, fun a m => nomatch m⟩
  | _, _, k, i, pre, os, .v (v := v) (x := x) h r, hp, hg, e => by
    rw [fpL_v] at hg
    obtain ⟨h1, h2, h3⟩ := collect_ok G hH r hp hg (i := i + 1) e
    rw [fpO_v]
    exact ⟨.v h1, h2, fun a m => by
      obtain ⟨j, q1, q2, q3⟩ := h3 a m
      exact ⟨j, by omega, q2, q3⟩⟩
  | _, _, k, i, pre, os, .io (l := l) (vs := vs) (as := as) g1 g2 g3 r, hp, hg, e => by
    unfold collect at e
    split at e
    · rename_i k' xs hx
      split at e
      · rename_i hk
        subst hk
        obtain ⟨os', e1, e2⟩ := bnd e
        cases e2
        obtain ⟨l2, ws, hv, ⟨bs, tg⟩, fl, hl, rr⟩ := G.slot _ _ hx
        rw [hg, ← hp, fpL_io] at tg
        simp at tg
        have el := tg.1
        subst el
        obtain ⟨h1, h2, h3⟩ := collect_ok G hH r (k := k' + 1) (pre := pre ++ [(l, [])]) (by simp [hp]) (by rw [hg, fpL_io]; simp) e1
        have oi : OwnAt H' σ ρ i l := .of hv hx
        show IosOk _ _ _ _ _ _ _ ∧ (adL ((l, []) :: fpO H' vs as os')).Nodup ∧ ∀ a ∈ adL ((l, []) :: fpO H' vs as os'), _
        rw [adL_cons]
        refine ⟨.io fl hl rr h1, List.nodup_cons.mpr ⟨fun m => ?_, h2⟩, fun a m => ?_⟩
        · obtain ⟨j, q1, q2, q3⟩ := h3 l m
          have := G.dist i j l oi q3
          omega
        · rcases List.mem_cons.mp m with rfl | m
          · exact ⟨i, Nat.le_refl _, ⟨_, _, .inl hx⟩, oi⟩
          · obtain ⟨j, q1, q2, q3⟩ := h3 a m
            exact ⟨j, by omega, q2, q3⟩
      · cases e
    · cases e
  | _, _, k, i, pre, os, .tr (l := l) (ws := ws0) (xs := xs0) (vs := vs) (as := as) g1 g2 g3 r, hp, hg, e => by
    unfold collect at e
    split at e
    · rename_i k' xs hx
      split at e
      · rename_i hk
        subst hk
        obtain ⟨os', e1, e2⟩ := bnd e
        cases e2
        obtain ⟨l2, ws, hv, ⟨bs, tg⟩, fl, hl, rr, nd, tx⟩ := G.slot _ _ hx
        have tg0 := tg
        rw [hg, ← hp, fpL_tr g2] at tg
        simp at tg
        have el := tg.1
        subst el
        have eb := tg.2
        obtain ⟨h1, h2, h3⟩ := collect_ok G hH r (k := k' + 1) (pre := pre ++ [(l, bx ws0 xs0)]) (by simp [hp]) (by rw [hg, fpL_tr g2]; simp) e1
        have oi : ∀ a ∈ l :: bx ws xs, OwnAt H' σ ρ i a := fun a m => .ofT hv hx hl m
        have ef : fpO H' (.ref l :: vs) (.tr xs0 :: as) (xs :: os') = (l, bx ws xs) :: fpO H' vs as os' := by
          show (l, bxo (H' l) xs) :: _ = _
          rw [hl]; rfl
        rw [ef, adL_cons, ← List.cons_append]
        refine ⟨.tr fl hl rr (fun a m => ?_) h1, List.nodup_append.mpr ⟨nd, h2, fun a ma b mb c => ?_⟩, fun a m => ?_⟩
        · rcases tx a m with q | ⟨l2, bs2, q, m2⟩
          · right; rw [← hH]; exact q
          · left
            rw [tg0] at q
            cases q
            rw [g2]
            show a ∈ bx ws0 xs0
            rw [eb]; exact m2
        · subst c
          obtain ⟨j, q1, q2, q3⟩ := h3 a mb
          have := G.dist i j a (oi a ma) q3
          omega
        · rcases List.mem_append.mp m with m | m
          · exact ⟨i, Nat.le_refl _, ⟨_, _, .inr hx⟩, oi a m⟩
          · obtain ⟨j, q1, q2, q3⟩ := h3 a m
            exact ⟨j, by omega, q2, q3⟩
      · cases e
    · cases e
/-- at a def's entry -/
theorem entry_gd {vs : List V} {as : List A} (N : List Str) (h : ArgsOk K F H vs as) (nd : (adL (fpL H vs as)).Nodup) (s : Same F H) (hN : as.length ≤ N.length) :
    Gd K ⟨H, F, fpL H vs as, fun _ => none⟩ F H (L2.start N vs) (entry 0 as ++ List.replicate (N.length - as.length) none) := by
  have hl := h.length
  have here : ∀ {i : Nat} {s : S}, (entry 0 as ++ List.replicate (N.length - as.length) none)[i]? = some (some s) → (entry 0 as)[i]? = some (some s) ∧ (L2.start N vs)[i]? = (vs.map some)[i]? := fun {i s} e => by
    by_cases hi : i < as.length
    · rw [List.getElem?_append_left (by rw [entry_length]; exact hi)] at e
      refine ⟨e, ?_⟩
      unfold L2.start
      rw [List.getElem?_append_left (by simp [hl, hi])]
    · rw [List.getElem?_append_right (by rw [entry_length]; omega)] at e
      rw [List.getElem?_replicate] at e
      split at e <;> cases e
  have own : ∀ {i : Nat} {l : Addr}, OwnAt H (L2.start N vs) (entry 0 as ++ List.replicate (N.length - as.length) none) i l → OwnAt H (vs.map some) (entry 0 as) i l := fun {i l} h0 => by
    obtain ⟨s, q⟩ := h0.slot
    obtain ⟨h1, h2⟩ := here q
    exact h0.to h2.symm (h1.trans q.symm) fun _ _ _ _ _ => rfl
  refine ⟨by simp [L2.start, entry_length, hl], fun i s e => ?_, fun i j l h1 h2 => entry_dist h nd i j l (own h1) (own h2), s, Same.refl _, fun b o e n => e, fun b e => e, fun b o e => .inl e, fun b o e => by cases e⟩
  obtain ⟨h1, h2⟩ := here e
  rw [h2]
  have := entry_slot (F0 := F) (pin := fun _ => none) (pre := []) h nd rfl i s h1
  simpa using this
end
def ios : List Opd → List Nat
  | [] => []
  | .io i :: r => i :: ios r
  | _ :: r => ios r
def isRef : Opd → Bool
  | .ref _ => true
  | _ => false
def hasRef (os : List Opd) : Bool := os.any isRef
def okOs : List Opd → List Nat → Bool
  | [], _ => true
  | .ref i :: r, is => !is.contains i && okOs r is
  | _ :: r, is => okOs r is
def argsOf (ρ : Env) : List Opd → Option (List A)
  | [] => some []
  | .val d :: r => (argsOf ρ r).bind fun as => some (.v d :: as)
  | .ref i :: r => match ρ[i]? with
    | some (some (.own _ xs)) => (argsOf ρ r).bind fun as => some (.v xs :: as)
    | some (some (.tre _ xs)) => (argsOf ρ r).bind fun as => some (.v (ub xs) :: as)
    | _ => none
  | .io i :: r => match ρ[i]? with
    | some (some (.own _ xs)) => (argsOf ρ r).bind fun as => some (.io xs :: as)
    | some (some (.tre _ xs)) => (argsOf ρ r).bind fun as => some (.tr xs :: as)
    | _ => none
def putOuts : List Opd → List D → Env → Option Env
  | [], [], ρ => some ρ
  | [], _ :: _, _ => none
  | .io i :: r, xs :: outs, ρ => match ρ[i]? with
    | some (some (.own t _)) => putOuts r outs (ρ.set i (some (.own t xs)))
    | some (some (.tre t _)) => putOuts r outs (ρ.set i (some (.tre t xs)))
    | _ => none
  | .io _ :: _, [], _ => none
  | .val _ :: r, outs, ρ => putOuts r outs ρ
  | .ref _ :: r, outs, ρ => putOuts r outs ρ
def resD : Res → D
  | .d x => x
  | .n x => x
  | .r x => x
def resL : Res → Option D
  | .n xs => some xs
  | _ => none
def resT : Res → Option D
  | .r xs => some xs
  | _ => none
/-- a call: the operands, the mirror, what comes back -/
def callM (fm : FM) (dds : List D) (fa : AM) : Env → Option (Res × Bool × Env) := fun ρ => (fa ρ).bind fun p => if (ios p.1).Nodup ∧ okOs p.1 (ios p.1) = true then (argsOf p.2 p.1).bind fun as => (fm (as ++ dds.map A.v)).bind fun r =>
  (putOuts p.1 r.2 p.2).bind fun ρ2 => if hasRef p.1 = false ∨ r.2.all lfo = true then some (r.1, !hasRef p.1, ρ2) else none
  else none
/-- a result as data -/
def finR (r : Res × Bool × Env) : Option (D × Env) := match r.1 with
  | .d x => fin r.2.1 x r.2.2
  | .n x => if (r.2.1 || lfo x) = true then some (x, r.2.2) else none
  | .r _ => none
theorem finR_d {x : D} {b : Bool} {ρ : Env} : finR (.d x, b, ρ) = fin b x ρ := rfl
def eCall (fm : FM) (dds : List D) (fa : AM) : EM := fun ρ => (callM fm dds fa ρ).bind finR
open Classical in
noncomputable def lentP (P : Nat → Prop) (σ : St) (ρ : Env) (F H : Hp) : Hp := fun b => if ∃ i, P i ∧ OwnAt H σ ρ i b then H b else F b
open Classical in
noncomputable def backP (P : Nat → Prop) (H : Hp) (σ : St) (ρ : Env) (F : Hp) : Hp := fun b => if ∃ i, P i ∧ OwnAt H σ ρ i b then none else F b
section
variable {K : KW} {g : Gx} {F H F' H' : Hp} {σ : St} {ρ : Env} {P : Nat → Prop}
theorem lentP_at {i : Nat} {b : Addr} (p : P i) (h : OwnAt H σ ρ i b) : lentP P σ ρ F H b = H b := by unfold lentP; rw [if_pos ⟨i, p, h⟩]
theorem lentP_no {b : Addr} (h : ¬ ∃ i, P i ∧ OwnAt H σ ρ i b) : lentP P σ ρ F H b = F b := by unfold lentP; rw [if_neg h]
theorem backP_no {b : Addr} (h : ¬ ∃ i, P i ∧ OwnAt H σ ρ i b) : backP P H σ ρ F b = F b := by unfold backP; rw [if_neg h]
theorem backP_at {b : Addr} (h : ∃ i, P i ∧ OwnAt H σ ρ i b) : backP P H σ ρ F b = none := by unfold backP; rw [if_pos h]
theorem Gd.lentPF (G : Gd K g F H σ ρ) : Same F (lentP P σ ρ F H) := fun b o e => by
  by_cases h : ∃ i, P i ∧ OwnAt H σ ρ i b
  · obtain ⟨i, _, h⟩ := h
    rw [(G.own h).1] at e; cases e
  · rw [lentP_no h]; exact e
theorem Gd.lentPH (G : Gd K g F H σ ρ) : Same (lentP P σ ρ F H) H := fun b o e => by
  by_cases h : ∃ i, P i ∧ OwnAt H σ ρ i b
  · obtain ⟨i, p, h⟩ := h
    rw [lentP_at p h] at e; exact e
  · rw [lentP_no h] at e; exact G.sub _ _ e
/-- what an in-out operand is: its slot, its thing -/
theorem io_at (G : Gd K g F H σ ρ) {i : Nat} {v : V} {a : A} (h : σ[i]? = some (some v)) {r : List Opd} {as : List A} (e : argsOf ρ (.io i :: r) = some (a :: as)) : argsOf ρ r = some as ∧ ∃ l, v = .ref l ∧ (∀ b, OwnAt H σ ρ i b ↔ b ∈ adL (fpA H v a)) ∧ (adL (fpA H v a)).Nodup ∧
    ((∃ t xs ws, a = .io xs ∧ ρ[i]? = some (some (.own t xs)) ∧ tagOk g t l ∧ F l = none ∧ H l = some ws ∧ ORep K F ws xs) ∨ ∃ t xs ws, a = .tr xs ∧ ρ[i]? = some (some (.tre t xs)) ∧ tagOk g t l ∧ F l = none ∧ H l = some ws ∧ TRep K F H ws xs ∧ (∀ b ∈ bx ws xs, tagX g t b)) := by
  unfold argsOf at e
  split at e
  · rename_i t xs hx
    obtain ⟨as', e1, e2⟩ := bnd e
    cases e2
    obtain ⟨l, ws, ev, tg, fl, hl, rr⟩ := G.slot i _ hx
    rw [h] at ev; cases ev
    refine ⟨e1, l, rfl, fun b => ⟨fun ho => ?_, fun m => ?_⟩, by show (adL [(l, [])]).Nodup; simp [adL], .inl ⟨t, xs, ws, rfl, hx, tg, fl, hl, rr⟩⟩
    · show b ∈ adL [(l, [])]
      obtain ⟨k, e1, ⟨_, ea⟩ | ⟨t', ys, o, r, _, _⟩⟩ := ho
      · rw [h] at e1; cases e1
        simp [adL, ea]
      · rw [hx] at r; cases r
    · have : b = l := by
        have m' : b ∈ adL [(l, [])] := m
        simpa [adL] using m'
      subst this
      exact .of h hx
  · rename_i t xs hx
    obtain ⟨as', e1, e2⟩ := bnd e
    cases e2
    obtain ⟨l, ws, ev, tg, fl, hl, rr, nd, tx⟩ := G.slot i _ hx
    rw [h] at ev; cases ev
    have ef : adL (fpA H (.ref l) (.tr xs)) = l :: bx ws xs := by
      show adL [(l, bxo (H l) xs)] = _
      rw [hl]; simp [adL, bxo]
    refine ⟨e1, l, rfl, fun b => ?_, by rw [ef]; exact nd, .inr ⟨t, xs, ws, rfl, hx, tg, fl, hl, rr, tx⟩⟩
    rw [ef]
    refine ⟨fun ho => ?_, fun m => .ofT h hx hl m⟩
    obtain ⟨k, e1, ⟨⟨t', ys, r⟩, ea⟩ | ⟨t', ys, o, r, ho, m⟩⟩ := ho
    · rw [hx] at r; cases r
    · rw [h] at e1; cases e1
      rw [hx] at r; cases r
      rw [hl] at ho; cases ho
      exact m
  · cases e
theorem argsOf_v {ρ : Env} {o : Opd} {r : List Opd} {as : List A} (ho : ∀ i, o ≠ .io i) (e : argsOf ρ (o :: r) = some as) : ∃ x as', as = .v x :: as' ∧ argsOf ρ r = some as' := by
  cases o with
  | val d =>
    obtain ⟨as', e1, e2⟩ := bnd e
    cases e2
    exact ⟨_, _, rfl, e1⟩
  | ref i =>
    unfold argsOf at e
    split at e
    · obtain ⟨as', e1, e2⟩ := bnd e
      cases e2
      exact ⟨_, _, rfl, e1⟩
    · obtain ⟨as', e1, e2⟩ := bnd e
      cases e2
      exact ⟨_, _, rfl, e1⟩
    · cases e
  | io i => exact absurd rfl (ho i)
theorem argsOf_io {ρ : Env} {i : Nat} {r : List Opd} {as : List A} (e : argsOf ρ (.io i :: r) = some as) : ∃ a as', as = a :: as' := by
  unfold argsOf at e
  split at e
  · obtain ⟨as', e1, e2⟩ := bnd e
    cases e2
    exact ⟨_, _, rfl⟩
  · obtain ⟨as', e1, e2⟩ := bnd e
    cases e2
    exact ⟨_, _, rfl⟩
  · cases e
theorem ios_io (i : Nat) (r : List Opd) : ios (.io i :: r) = i :: ios r := rfl
theorem ios_no {o : Opd} (h : ∀ i, o ≠ .io i) (r : List Opd) : ios (o :: r) = ios r := by
  cases o with
  | io i => exact absurd rfl (h i)
  | _ => rfl
theorem adL_app (p q : List (Addr × List Addr)) : adL (p ++ q) = adL p ++ adL q := by simp [adL]
theorem isIo (o : Opd) : (∃ i, o = .io i) ∨ ∀ i, o ≠ .io i := by
  cases o with
  | io i => exact .inl ⟨i, rfl⟩
  | val d => exact .inr fun i h => nomatch h
  | ref j => exact .inr fun i h => nomatch h
theorem ios_args : ∀ {os : List Opd} {vs : List V} {as : List A}, OpdsOk K F σ vs os → argsOf ρ os = some as → Gd K g F H σ ρ → ∀ l, l ∈ adL (fpL H vs as) ↔ ∃ i ∈ ios os, OwnAt H σ ρ i l
  | _, _, _, .nil, e, G, l => by
    cases e
    simp [fpL, adL, ios]
  | _, _, _, .cons (v := v) (o := o) (os := os) h r, e, G, l => by
    rcases isIo o with ⟨i, rfl⟩ | ho
    · obtain ⟨a, as', rfl⟩ := argsOf_io e
      obtain ⟨e1, l', _, hb, _, _⟩ := io_at G h e
      show l ∈ adL (fpA H v a ++ fpL H _ as') ↔ _
      rw [adL_app, List.mem_append, ← hb, ios_args r e1 G l, ios_io]
      simp
    · obtain ⟨x, as', rfl, e1⟩ := argsOf_v ho e
      rw [fpL_v, ios_no ho]
      exact ios_args r e1 G l
theorem ios_nodup : ∀ {os : List Opd} {vs : List V} {as : List A}, OpdsOk K F σ vs os → argsOf ρ os = some as → Gd K g F H σ ρ → (ios os).Nodup → (adL (fpL H vs as)).Nodup
  | _, _, _, .nil, e, G, nd => by
    cases e
    simp [fpL, adL]
  | _, _, _, .cons (v := v) (o := o) (os := os) h r, e, G, nd => by
    rcases isIo o with ⟨i, rfl⟩ | ho
    · obtain ⟨a, as', rfl⟩ := argsOf_io e
      obtain ⟨e1, l', _, hb, hn, _⟩ := io_at G h e
      rw [ios_io, List.nodup_cons] at nd
      show (adL (fpA H v a ++ fpL H _ as')).Nodup
      rw [adL_app]
      refine List.nodup_append.mpr ⟨hn, ios_nodup r e1 G nd.2, fun b hb1 c hc e2 => ?_⟩
      subst e2
      obtain ⟨j, hj, oj⟩ := (ios_args r e1 G b).mp hc
      rw [G.dist i j b ((hb b).mpr hb1) oj] at nd
      exact nd.1 hj
    · obtain ⟨x, as', rfl, e1⟩ := argsOf_v ho e
      rw [fpL_v]
      exact ios_nodup r e1 G (by rw [ios_no ho] at nd; exact nd)
/-- the arguments, over the lent heap -/
theorem args_ok (G : Gd K g F H σ ρ) {is : List Nat} {c : Bool} : ∀ {os : List Opd} {vs : List V} {as : List A}, OpdsOk K F σ vs os → argsOf ρ os = some as → okOs os is = true → (∀ i ∈ ios os, i ∈ is) → (hasRef os = true → c = true) →
    ArgsOk K (lentP (fun i => c = true ∧ i ∉ is) σ ρ F H) H vs as
  | _, _, _, .nil, e, ok, sub, hc => by cases e; exact .nil
  | _, _, _, .cons (v := v) (o := .val d) h r, e, ok, sub, hc => by
    unfold argsOf at e
    obtain ⟨as, e1, e2⟩ := bnd e
    cases e2
    exact .v (Rep.mono G.lentPF h) (args_ok G r e1 ok (by simpa [ios] using sub) (fun q => hc (by simpa [hasRef, isRef] using q)))
  | _, _, _, .cons (v := v) (o := .ref i) h r, e, ok, sub, hc => by
    have h' : σ[i]? = some (some v) := h
    simp only [okOs, Bool.and_eq_true, Bool.not_eq_true'] at ok
    have ni : i ∉ is := by simpa using ok.1
    have pc : c = true := hc (by simp [hasRef, isRef])
    unfold argsOf at e
    split at e
    · rename_i t xs hx
      obtain ⟨as, e1, e2⟩ := bnd e
      cases e2
      obtain ⟨l', ws, ev, tg, fl, hl, rr⟩ := G.slot i _ hx
      rw [h'] at ev
      cases ev
      exact .v ((rr.mono G.lentPF).rep (by rw [lentP_at (P := fun i => c = true ∧ i ∉ is) ⟨pc, ni⟩ (.of h' hx)]; exact hl)) (args_ok G r e1 ok.2 (by simpa [ios] using sub) (fun _ => pc))
    · rename_i t xs hx
      obtain ⟨as, e1, e2⟩ := bnd e
      cases e2
      obtain ⟨l', ws, ev, tg, fl, hl, rr, nd, tx⟩ := G.slot i _ hx
      rw [h'] at ev
      cases ev
      exact .v ((rr.orep G.lentPF fun a m => lentP_at (P := fun i => c = true ∧ i ∉ is) ⟨pc, ni⟩ (.ofT h' hx hl (List.mem_cons_of_mem _ m))).rep (by rw [lentP_at (P := fun i => c = true ∧ i ∉ is) ⟨pc, ni⟩ (.ofT h' hx hl List.mem_cons_self)]; exact hl)) (args_ok G r e1 ok.2 (by simpa [ios] using sub) (fun _ => pc))
    · cases e
  | _, _, _, .cons (v := v) (o := .io i) h r, e, ok, sub, hc => by
    have h' : σ[i]? = some (some v) := h
    have mi : i ∈ is := sub i (by simp [ios])
    have none_ : ∀ {a : Addr}, OwnAt H σ ρ i a → lentP (fun i => c = true ∧ i ∉ is) σ ρ F H a = none := fun {a} oi => by
      rw [lentP_no]
      · exact (G.own oi).1
      · rintro ⟨j, ⟨_, nj⟩, oj⟩
        rw [G.dist i j a oi oj] at mi
        exact nj mi
    obtain ⟨a, as', rfl⟩ := argsOf_io e
    obtain ⟨e1, l, rfl, hb, hn, k⟩ := io_at G h' e
    have rest := args_ok G r e1 ok (fun j hj => sub j (by simp [ios, hj])) (fun q => hc (by simpa [hasRef, isRef] using q))
    rcases k with ⟨t, xs, ws, rfl, hx, tg, fl, hl, rr⟩ | ⟨t, xs, ws, rfl, hx, tg, fl, hl, rr, tx⟩
    · exact .io (none_ (.of h' hx)) hl (rr.mono G.lentPF) rest
    · exact .tr (none_ (.ofT h' hx hl List.mem_cons_self)) hl (rr.move G.lentPF fun a m => ⟨none_ (.ofT h' hx hl (List.mem_cons_of_mem _ m)), rfl⟩) rest
/-- what a slot holds behind the outs are put -/
def PutAt (K : KW) (g : Gx) (H F' H' : Hp) (σ : St) (ρ0 ρ2 : Env) (outs : List D) (j : Nat) : Prop :=
  (∃ t xs xs0 l ws, ρ0[j]? = some (some (.own t xs0)) ∧ ρ2[j]? = some (some (.own t xs)) ∧ σ[j]? = some (some (.ref l)) ∧ F' l = none ∧ H' l = some ws ∧ ORep K F' ws xs ∧ xs ∈ outs) ∨
  ∃ t xs xs0 l ws, ρ0[j]? = some (some (.tre t xs0)) ∧ ρ2[j]? = some (some (.tre t xs)) ∧ σ[j]? = some (some (.ref l)) ∧ F' l = none ∧ H' l = some ws ∧ TRep K F' H' ws xs ∧ (l :: bx ws xs).Nodup ∧ (∀ a ∈ bx ws xs, a ∈ bxo (H l) xs0 ∨ H a = none) ∧ xs ∈ outs
theorem put_get : ∀ {os : List Opd} {vs : List V} {as : List A} {outs : List D} {ρ0 ρ1 ρ2 : Env}, OpdsOk K F σ vs os → argsOf ρ0 os = some as → Gd K g F H σ ρ0 → (ios os).Nodup → IosOk K H F' H' vs as outs → (adL (fpO H' vs as outs)).Nodup → ρ1.length = ρ0.length → (∀ i ∈ ios os, ρ1[i]? = ρ0[i]?) → putOuts os outs ρ1 = some ρ2 →
    ρ2.length = ρ1.length ∧ (∀ j, j ∉ ios os → ρ2[j]? = ρ1[j]?) ∧ (∀ j ∈ ios os, PutAt K g H F' H' σ ρ0 ρ2 outs j) ∧ (∀ j ∈ ios os, ∀ a, OwnAt H' σ ρ2 j a → a ∈ adL (fpO H' vs as outs)) ∧ ∀ i ∈ ios os, ∀ j ∈ ios os, ∀ a, OwnAt H' σ ρ2 i a → OwnAt H' σ ρ2 j a → i = j
  | _, _, _, outs, ρ0, ρ1, ρ2, .nil, e, G, nd, io, ndo, hl, same, hp => by
    cases e
    cases io
    cases hp
    exact ⟨rfl, fun _ _ => rfl, fun j hj => by simp [ios] at hj, fun j hj => by simp [ios] at hj, fun j hj => by simp [ios] at hj⟩
  | _, _, _, outs, ρ0, ρ1, ρ2, .cons (v := v) (o := o) (vs := vs) (os := os) h r, e, G, nd, io, ndo, hl, same, hp => by
    rcases isIo o with ⟨i, rfl⟩ | ho
    · have h' : σ[i]? = some (some v) := h
      obtain ⟨a, as', rfl⟩ := argsOf_io e
      obtain ⟨e1, l, rfl, hb, hn, k⟩ := io_at G h' e
      rw [ios_io] at nd same ⊢
      rw [List.nodup_cons] at nd
      -- what both kinds share
      have step : ∀ {x : D} {outs' : List D} {s : S} {bs : List Addr}, outs = x :: outs' → putOuts os outs' (ρ1.set i (some s)) = some ρ2 → IosOk K H F' H' vs as' outs' → adL (fpO H' (.ref l :: vs) (a :: as') (x :: outs')) = (l :: bs) ++ adL (fpO H' vs as' outs') →
          (∀ ρ3 : Env, ρ3[i]? = some (some s) → (∀ a, OwnAt H' σ ρ3 i a → a ∈ l :: bs)) → (ρ2[i]? = some (some s) → PutAt K g H F' H' σ ρ0 ρ2 (x :: outs') i) →
          ρ2.length = ρ1.length ∧ (∀ j, j ∉ i :: ios os → ρ2[j]? = ρ1[j]?) ∧ (∀ j ∈ i :: ios os, PutAt K g H F' H' σ ρ0 ρ2 outs j) ∧ (∀ j ∈ i :: ios os, ∀ b, OwnAt H' σ ρ2 j b → b ∈ adL (fpO H' (.ref l :: vs) (a :: as') outs)) ∧ ∀ p ∈ i :: ios os, ∀ q ∈ i :: ios os, ∀ b, OwnAt H' σ ρ2 p b → OwnAt H' σ ρ2 q b → p = q := by
        intro x outs' s bs eo hp' io' ef own1 put1
        subst eo
        rw [ef] at ndo ⊢
        have ndo' := List.nodup_append.mp ndo
        have il : i < ρ1.length := by
          rw [hl, ← G.len]; exact (List.getElem?_eq_some_iff.mp h').1
        obtain ⟨q1, q2, q3, q4, q5⟩ := put_get r e1 G nd.2 io' ndo'.2.1 (ρ1 := ρ1.set i (some s)) (by simp [hl]) (fun j hj => by
          rw [List.getElem?_set_ne (by intro z; subst z; exact nd.1 hj)]
          exact same j (List.mem_cons_of_mem _ hj)) hp'
        have hi2 : ρ2[i]? = some (some s) := by rw [q2 i nd.1, List.getElem?_set_self il]
        have o1 := own1 ρ2 hi2
        refine ⟨by rw [q1]; simp, fun j hj => ?_, fun j hj => ?_, fun j hj b hob => ?_, fun p hp q hq b hp1 hq1 => ?_⟩
        · simp only [List.mem_cons, not_or] at hj
          rw [q2 j hj.2, List.getElem?_set_ne (Ne.symm hj.1)]
        · rcases List.mem_cons.mp hj with rfl | hj
          · exact put1 hi2
          · rcases q3 j hj with ⟨t, xs, xs0, l2, ws, b1, b2, b3, b4, b5, b6, b7⟩ | ⟨t, xs, xs0, l2, ws, b1, b2, b3, b4, b5, b6, b7, b8, b9⟩
            · exact .inl ⟨t, xs, xs0, l2, ws, b1, b2, b3, b4, b5, b6, List.mem_cons_of_mem _ b7⟩
            · exact .inr ⟨t, xs, xs0, l2, ws, b1, b2, b3, b4, b5, b6, b7, b8, List.mem_cons_of_mem _ b9⟩
        · rcases List.mem_cons.mp hj with rfl | hj
          · exact List.mem_append_left _ (o1 b hob)
          · exact List.mem_append_right _ (q4 j hj b hob)
        · rcases List.mem_cons.mp hp with e | hp
          · rcases List.mem_cons.mp hq with e' | hq
            · rw [e, e']
            · rw [e] at hp1
              exact absurd rfl (ndo'.2.2 b (o1 b hp1) b (q4 q hq b hq1))
          · rcases List.mem_cons.mp hq with e' | hq
            · rw [e'] at hq1
              exact absurd rfl (ndo'.2.2 b (o1 b hq1) b (q4 p hp b hp1))
            · exact q5 p hp q hq b hp1 hq1
      rcases k with ⟨t, xs0, ws0, rfl, hx, tg, fl, hl0, rr⟩ | ⟨t, xs0, ws0, rfl, hx, tg, fl, hl0, rr, tx⟩
      · cases io with
        | io a1 a2 a3 a4 =>
          rename_i ws xs outs'
          have hi1 : ρ1[i]? = some (some (.own t xs0)) := by rw [same i List.mem_cons_self]; exact hx
          unfold putOuts at hp
          rw [hi1] at hp
          dsimp only at hp
          refine step (x := xs) (outs' := outs') (s := .own t xs) (bs := []) rfl hp a4 ?_ (fun ρ3 h3 b hb => ?_) fun h2 => .inl ⟨t, xs, xs0, l, ws, hx, h2, h', a1, a2, a3, List.mem_cons_self⟩
          · show adL ((l, []) :: _) = _
            rw [adL_cons]; rfl
          · obtain ⟨k, e1, ⟨_, ea⟩ | ⟨t', ys, o, r, _, _⟩⟩ := hb
            · rw [h'] at e1; cases e1
              simp [ea]
            · rw [h3] at r; cases r
      · cases io with
        | tr a1 a2 a3 a5 a4 =>
          rename_i ws xs outs'
          have hi1 : ρ1[i]? = some (some (.tre t xs0)) := by rw [same i List.mem_cons_self]; exact hx
          unfold putOuts at hp
          rw [hi1] at hp
          dsimp only at hp
          have ef : adL (fpO H' (.ref l :: vs) (.tr xs0 :: as') (xs :: outs')) = (l :: bx ws xs) ++ adL (fpO H' vs as' outs') := by
            show adL ((l, bxo (H' l) xs) :: _) = _
            rw [adL_cons, a2]; rfl
          refine step (x := xs) (outs' := outs') (s := .tre t xs) (bs := bx ws xs) rfl hp a4 ef (fun ρ3 h3 b hb => ?_) fun h2 => .inr ⟨t, xs, xs0, l, ws, hx, h2, h', a1, a2, a3, ?_, a5, List.mem_cons_self⟩
          · obtain ⟨k, e1, ⟨⟨t', ys, r⟩, ea⟩ | ⟨t', ys, o, r, ho, m⟩⟩ := hb
            · rw [h3] at r; cases r
            · rw [h'] at e1; cases e1
              rw [h3] at r; cases r
              rw [a2] at ho; cases ho
              exact m
          · rw [ef] at ndo
            exact (List.nodup_append.mp ndo).1
    · obtain ⟨x, as', rfl, e1⟩ := argsOf_v ho e
      cases io with
      | v io =>
        rw [fpO_v] at ndo ⊢
        rw [ios_no ho] at nd same ⊢
        refine put_get r e1 G nd io ndo hl same ?_
        cases o with
        | io i => exact absurd rfl (ho i)
        | val d => cases outs <;> exact hp
        | ref j => cases outs <;> exact hp
theorem lff_all : ∀ {gs : List (Str × D)}, lff gs = true → lfs (gs.map (·.2)) = true
  | [], _ => rfl
  | (n, d) :: r, h => by
    have h := Bool.and_eq_true_iff.mp (show (lf d && lff r) = true from h)
    show (lf d && lfs _) = true
    rw [h.1, lff_all h.2]; rfl
theorem BReps.cut {F1 F2 H1 H2 : Hp} (k : ∀ p o, F1 p = some o → isLst o = false → F2 p = some o) : ∀ {vs : List V} {ds : List D}, lfs ds = true → BReps K F1 H1 vs ds → BReps K F2 H2 vs ds
  | _, _, _, .nil => .nil
  | _, _, e, .cons h r => by
    have e := Bool.and_eq_true_iff.mp (show (lf _ && lfs _) = true from e)
    refine .cons ?_ (r.cut k e.2)
    cases h with
    | d h => exact .d (h.cut k e.1)
    | box _ _ _ => cases e.1
theorem TRep.cut {F1 F2 H1 H2 : Hp} (k : ∀ p o, F1 p = some o → L3.isLst o = false → F2 p = some o) {o : HO} {d : D} (e : lfo d = true) (h : TRep K F1 H1 o d) : TRep K F2 H2 o d := by
  cases h with
  | lst r => exact .lst (r.cut k e)
  | ins e' r => exact .ins e' (r.cut k (lff_all e))
/-- behind a call -/
theorem call_end (G : Gd K g F H σ ρ) {os : List Opd} {vs : List V} {as : List A} {outs : List D} {ρ2 : Env} (r : OpdsOk K F σ vs os) (ea : argsOf ρ os = some as) (nd : (ios os).Nodup) {c : Bool}
    (post : Post K (lentP (fun i => c = true ∧ i ∉ ios os) σ ρ F H) H F' H' (adL (fpL H vs as))) (io : IosOk K H F' H' vs as outs) (ndo : (adL (fpO H' vs as outs)).Nodup) (hp : putOuts os outs ρ = some ρ2) (hl : c = true → ∀ xs ∈ outs, lfo xs = true) :
    Gd K g (backP (fun i => c = true ∧ i ∉ ios os) H σ ρ F') H' σ ρ2 ∧ Same F (backP (fun i => c = true ∧ i ∉ ios os) H σ ρ F') ∧ (∀ {w : V} {d : D}, (c = true → lf d = true) → Rep K F' w d → Rep K (backP (fun i => c = true ∧ i ∉ ios os) H σ ρ F') w d) ∧
      (∀ {w : HO} {d : D}, (c = true → lfo d = true) → ORep K F' w d → ORep K (backP (fun i => c = true ∧ i ∉ ios os) H σ ρ F') w d) ∧ (∀ {w : HO} {d : D}, (c = true → lfo d = true) → TRep K F' H' w d → TRep K (backP (fun i => c = true ∧ i ∉ ios os) H σ ρ F') H' w d) ∧
      (∀ b, H b = none → F' b = none → b ∉ adL (fpO H' vs as outs) → backP (fun i => c = true ∧ i ∉ ios os) H σ ρ F' b = none ∧ g.H0 b = none ∧ g.pin b = none ∧ ∀ i, ¬ OwnAt H' σ ρ2 i b) := by
  obtain ⟨p1, p2, p3, p4, p5⟩ := put_get r ea G nd io ndo rfl (fun _ _ => rfl) hp
  have mem := ios_args r ea G
  have sF : Same F (backP (fun i => c = true ∧ i ∉ ios os) H σ ρ F') := fun b o e => by
    by_cases h : ∃ i, (c = true ∧ i ∉ ios os) ∧ OwnAt H σ ρ i b
    · obtain ⟨i, _, h⟩ := h
      rw [(G.own h).1] at e; cases e
    · rw [backP_no (P := fun i => c = true ∧ i ∉ ios os) h]
      exact post.ff _ _ (by rw [lentP_no (P := fun i => c = true ∧ i ∉ ios os) h]; exact e)
  -- what belongs to a slot that is not handed on stays
  have stay : ∀ {i : Nat} {p : Addr} {o : HO}, OwnAt H σ ρ i p → i ∉ ios os → H p = some o → H' p = some o := fun {i p o} h hn hl => post.keep _ _ hl fun hm => by
    obtain ⟨j, hj, oj⟩ := (mem p).mp hm
    rw [G.dist i j p h oj] at hn
    exact hn hj
  have cut : ∀ p o, F' p = some o → (c = true → isLst o = false) → backP (fun i => c = true ∧ i ∉ ios os) H σ ρ F' p = some o := fun p o e q => by
    by_cases h : ∃ i, (c = true ∧ i ∉ ios os) ∧ OwnAt H σ ρ i p
    · obtain ⟨i, ⟨hc, hn⟩, h⟩ := h
      obtain ⟨_, ws, hl, hw, _⟩ := G.own h
      have z := post.sub _ _ e
      rw [stay h hn hl] at z
      cases z
      have := q hc
      rw [hw] at this
      cases this
    · rw [backP_no (P := fun i => c = true ∧ i ∉ ios os) h]; exact e
  have rep : ∀ {w : V} {d : D}, (c = true → lf d = true) → Rep K F' w d → Rep K (backP (fun i => c = true ∧ i ∉ ios os) H σ ρ F') w d := fun {w d} hd r => by
    cases c with
    | false => exact Rep.mono (fun b o e => cut b o e (by simp)) r
    | true => exact Rep.cut (fun p o e q => cut p o e fun _ => q) (hd rfl) r
  have reps : ∀ {w : HO} {d : D}, (c = true → lfo d = true) → ORep K F' w d → ORep K (backP (fun i => c = true ∧ i ∉ ios os) H σ ρ F') w d := fun {w d} hd r => by
    cases c with
    | false => exact ORep.mono (fun b o e => cut b o e (by simp)) r
    | true => exact ORep.cut (fun p o e q => cut p o e fun _ => q) (hd rfl) r
  have noneB : ∀ {b : Addr}, F' b = none → backP (fun i => c = true ∧ i ∉ ios os) H σ ρ F' b = none := fun {b} e => by
    by_cases h : ∃ i, (c = true ∧ i ∉ ios os) ∧ OwnAt H σ ρ i b
    · exact backP_at (P := fun i => c = true ∧ i ∉ ios os) h
    · rw [backP_no (P := fun i => c = true ∧ i ∉ ios os) h]; exact e
  have trep : ∀ {w : HO} {d : D}, (c = true → lfo d = true) → TRep K F' H' w d → TRep K (backP (fun i => c = true ∧ i ∉ ios os) H σ ρ F') H' w d := fun {w d} hd r => by
    cases c with
    | false => exact r.move (fun b o e => cut b o e (by simp)) fun a m => ⟨noneB (r.at_ a m).1, rfl⟩
    | true => exact TRep.cut (fun p o e q => cut p o e fun _ => q) (hd rfl) r
  -- an own thing that is not handed on is frozen nowhere
  have fnone : ∀ {j : Nat} {l : Addr}, OwnAt H σ ρ j l → j ∉ ios os → backP (fun i => c = true ∧ i ∉ ios os) H σ ρ F' l = none := fun {j l} oj hj => by
    by_cases h : ∃ i, (c = true ∧ i ∉ ios os) ∧ OwnAt H σ ρ i l
    · exact backP_at (P := fun i => c = true ∧ i ∉ ios os) h
    · rw [backP_no (P := fun i => c = true ∧ i ∉ ios os) h]
      cases q : F' l with
      | none => rfl
      | some u =>
        obtain ⟨fl, ws, hl, _⟩ := G.own oj
        rcases post.new l u q with z | z
        · rw [lentP_no (P := fun i => c = true ∧ i ∉ ios os) h, fl] at z; cases z
        · rw [hl] at z; cases z
  -- slots that are not handed on
  have ownN : ∀ {j : Nat} {b : Addr}, j ∉ ios os → OwnAt H' σ ρ2 j b → OwnAt H σ ρ j b := fun {j b} hj h => h.to rfl (p2 j hj).symm fun l t xs e q => by
    rw [p2 j hj] at q
    obtain ⟨o, ho⟩ := G.root e q
    rw [ho, stay (.ofT e q ho List.mem_cons_self) hj ho]
  -- what is owned behind the call was owned, or is new
  have ownY : ∀ {j : Nat} {b : Addr}, j ∈ ios os → OwnAt H' σ ρ2 j b → OwnAt H σ ρ j b ∨ H b = none := fun {j b} hj h => by
    obtain ⟨l, e1, ⟨⟨t', ys, q⟩, ea⟩ | ⟨t', ys, o, q, ho, m⟩⟩ := h
    · rcases p3 j hj with ⟨t, xs, xs0, l2, ws, b1, b2, b3, _⟩ | ⟨t, xs, xs0, l2, ws, b1, b2, b3, _⟩
      · rw [ea]; exact .inl (.of e1 b1)
      · rw [q] at b2; cases b2
    · rcases p3 j hj with ⟨t, xs, xs0, l2, ws, b1, b2, b3, _⟩ | ⟨t, xs, xs0, l2, ws, b1, b2, b3, b4, b5, b6, b7, b8, b9⟩
      · rw [q] at b2; cases b2
      · rw [e1] at b3; cases b3
        rw [q] at b2; cases b2
        rw [ho] at b5; cases b5
        obtain ⟨o0, ho0⟩ := G.root e1 b1
        rcases List.mem_cons.mp m with rfl | m
        · exact .inl (.ofT e1 b1 ho0 List.mem_cons_self)
        · rcases b8 b m with z | z
          · rw [ho0] at z
            exact .inl (.ofT e1 b1 ho0 (List.mem_cons_of_mem _ z))
          · exact .inr z
  have dist : ∀ (i j : Nat) (a : Addr), OwnAt H' σ ρ2 i a → OwnAt H' σ ρ2 j a → i = j := fun i j a h1 h2 => by
    by_cases hi : i ∈ ios os
    · by_cases hj : j ∈ ios os
      · exact p5 i hi j hj a h1 h2
      · rcases ownY hi h1 with h | h
        · exact G.dist i j a h (ownN hj h2)
        · obtain ⟨_, u, hu, _⟩ := G.own (ownN hj h2)
          rw [h] at hu; cases hu
    · by_cases hj : j ∈ ios os
      · rcases ownY hj h2 with h | h
        · exact G.dist i j a (ownN hi h1) h
        · obtain ⟨_, u, hu, _⟩ := G.own (ownN hi h1)
          rw [h] at hu; cases hu
      · exact G.dist i j a (ownN hi h1) (ownN hj h2)
  refine ⟨⟨?_, fun j s e => ?_, dist, fun b o e => ?_, G.old.trans sF, fun b o e n => ?_, fun b e => G.grow b (post.grow b e), fun b o e => ?_, fun b o e => ?_⟩, sF, rep, reps, trep, fun b hb fb nb => ⟨noneB fb, G.grow b hb, ?_, fun i h => ?_⟩⟩
  · rw [p1]; exact G.len
  · by_cases hj : j ∈ ios os
    · rcases p3 j hj with ⟨t', ys, ys0, l2, ws2, b1, b2, b3, b4, b5, b6, b7⟩ | ⟨t', ys, ys0, l2, ws2, b1, b2, b3, b4, b5, b6, b7, b8, b9⟩
      · rw [b2] at e
        cases e
        obtain ⟨l3, ws3, e3, tg, _⟩ := G.slot j _ b1
        rw [b3] at e3
        cases e3
        exact ⟨l2, ws2, b3, tg, noneB b4, b5, reps (fun hc => hl hc ys b7) b6⟩
      · rw [b2] at e
        cases e
        obtain ⟨l3, ws3, e3, tg, _, hl3, _, _, tx⟩ := G.slot j _ b1
        rw [b3] at e3
        cases e3
        refine ⟨l2, ws2, b3, tg, noneB b4, b5, trep (fun hc => hl hc ys b9) b6, b7, fun a m => ?_⟩
        rcases b8 a m with z | z
        · rw [hl3] at z; exact tx a z
        · exact .fresh t' (G.grow a z)
    · rw [p2 j hj] at e
      have z := G.slot j s e
      cases s with
      | d x => obtain ⟨v, e1, r1⟩ := z; exact ⟨v, e1, r1.mono sF⟩
      | own t xs =>
        obtain ⟨l, ws, e1, tg, fl, hl', rr⟩ := z
        have oj : OwnAt H σ ρ j l := .of e1 e
        exact ⟨l, ws, e1, tg, fnone oj hj, stay oj hj hl', rr.mono sF⟩
      | tre t xs =>
        obtain ⟨l, ws, e1, tg, fl, hl', rr, nd', tx⟩ := z
        have oj : ∀ a ∈ l :: bx ws xs, OwnAt H σ ρ j a := fun a m => .ofT e1 e hl' m
        refine ⟨l, ws, e1, tg, fnone (oj l List.mem_cons_self) hj, stay (oj l List.mem_cons_self) hj hl', rr.move sF fun a m => ?_, nd', tx⟩
        have oa := oj a (List.mem_cons_of_mem _ m)
        obtain ⟨_, u, hu, _⟩ := rr.at_ a m
        exact ⟨fnone oa hj, by rw [hu, stay oa hj hu]⟩
  · by_cases h : ∃ i, (c = true ∧ i ∉ ios os) ∧ OwnAt H σ ρ i b
    · rw [backP_at (P := fun i => c = true ∧ i ∉ ios os) h] at e; cases e
    · rw [backP_no (P := fun i => c = true ∧ i ∉ ios os) h] at e; exact post.sub _ _ e
  · have z := G.keep b o e n
    refine post.keep _ _ z fun hm => ?_
    obtain ⟨i, hi, oi⟩ := (mem b).mp hm
    obtain ⟨_, _, _, _, tg⟩ := G.own oi
    rcases tg with tg | tg
    · rw [tg] at e; cases e
    · exact n tg
  · by_cases h : ∃ i, (c = true ∧ i ∉ ios os) ∧ OwnAt H σ ρ i b
    · rw [backP_at (P := fun i => c = true ∧ i ∉ ios os) h] at e; cases e
    · rw [backP_no (P := fun i => c = true ∧ i ∉ ios os) h] at e
      rcases post.new b o e with z | z
      · rw [lentP_no (P := fun i => c = true ∧ i ∉ ios os) h] at z; exact G.new b o z
      · exact .inr (G.grow b z)
  · obtain ⟨h1, h2, h3⟩ := G.pinned b o e
    refine ⟨post.keep _ _ h1 fun hm => ?_, ?_, fun j q => ?_⟩
    · obtain ⟨i, hi, oi⟩ := (mem b).mp hm
      exact h3 i oi
    · have hno : ¬ ∃ i, (c = true ∧ i ∉ ios os) ∧ OwnAt H σ ρ i b := fun ⟨i, _, oi⟩ => h3 i oi
      rw [backP_no (P := fun i => c = true ∧ i ∉ ios os) hno]
      cases q : F' b with
      | none => rfl
      | some u =>
        rcases post.new b u q with z | z
        · rw [lentP_no (P := fun i => c = true ∧ i ∉ ios os) hno, h2] at z; cases z
        · rw [h1] at z; cases z
    · by_cases hj : j ∈ ios os
      · rcases ownY hj q with z | z
        · exact h3 j z
        · rw [h1] at z; cases z
      · exact h3 j (ownN hj q)
  · cases q : g.pin b with
    | none => rfl
    | some o => have := (G.pinned b o q).1; rw [hb] at this; cases this
  · by_cases hi : i ∈ ios os
    · exact nb (p4 i hi b h)
    · obtain ⟨_, u, hu, _⟩ := G.own (ownN hi h)
      rw [hb] at hu; cases hu
end
theorem argsOk_v {K : KW} {F H : Hp} : ∀ {ws : List V} {ds : List D}, Reps K F ws ds → ArgsOk K F H ws (ds.map A.v)
  | _, _, .nil => .nil
  | _, _, .cons a b => .v a (argsOk_v b)
theorem ArgsOk.append {K : KW} {F H : Hp} {ws : List V} {ds : List D} (h2 : Reps K F ws ds) : ∀ {vs : List V} {as : List A}, ArgsOk K F H vs as → ArgsOk K F H (vs ++ ws) (as ++ ds.map A.v)
  | _, _, .nil => argsOk_v h2
  | _, _, .v h r => .v h (ArgsOk.append h2 r)
  | _, _, .io a b c r => .io a b c (ArgsOk.append h2 r)
  | _, _, .tr a b c r => .tr a b c (ArgsOk.append h2 r)
theorem fpL_vals (H : Hp) : ∀ (ws : List V) (ds : List D), fpL H ws (ds.map A.v) = []
  | [], _ => by cases ‹List D› <;> rfl
  | _ :: _, [] => rfl
  | v :: vs, d :: ds => by
    show fpA H v (.v d) ++ fpL H vs (ds.map A.v) = []
    rw [fpL_vals H vs ds]
    cases v <;> rfl
theorem fpL_append {K : KW} {F H : Hp} {ws : List V} (ds : List D) : ∀ {vs : List V} {as : List A}, ArgsOk K F H vs as → fpL H (vs ++ ws) (as ++ ds.map A.v) = fpL H vs as
  | _, _, .nil => fpL_vals H ws ds
  | _, _, .v (v := v) (x := x) (vs := vs) (as := as) h r => by
    show fpA H v (.v x) ++ fpL H (vs ++ ws) (as ++ ds.map A.v) = _
    rw [fpL_append ds r]; rfl
  | _, _, .io (l := l) (xs := x) (vs := vs) (as := as) a b c r => by
    show fpA H (.ref l) (.io x) ++ fpL H (vs ++ ws) (as ++ ds.map A.v) = _
    rw [fpL_append ds r]; rfl
  | _, _, .tr (l := l) (xs := x) (vs := vs) (as := as) a b c r => by
    show fpA H (.ref l) (.tr x) ++ fpL H (vs ++ ws) (as ++ ds.map A.v) = _
    rw [fpL_append ds r]; rfl
theorem iosOk_vals {K : KW} {H F' H' : Hp} : ∀ {ws : List V} {ds : List D} {os : List D}, IosOk K H F' H' ws (ds.map A.v) os → os = []
  | _, [], _, h => by cases h; rfl
  | _, d :: ds, _, h => by
    cases h with
    | v h => exact iosOk_vals h
theorem fpO_vals (H' : Hp) : ∀ (ws : List V) (ds : List D), fpO H' ws (ds.map A.v) [] = []
  | [], _ => by cases ‹List D› <;> rfl
  | _ :: _, [] => rfl
  | v :: vs, d :: ds => by
    rw [List.map_cons, fpO_v]
    exact fpO_vals H' vs ds
theorem iosOk_append {K : KW} {F H F' H' : Hp} {ws : List V} (ds : List D) : ∀ {vs : List V} {as : List A} {os : List D}, ArgsOk K F H vs as → IosOk K H F' H' (vs ++ ws) (as ++ ds.map A.v) os → IosOk K H F' H' vs as os ∧ fpO H' (vs ++ ws) (as ++ ds.map A.v) os = fpO H' vs as os
  | _, _, _, .nil, h => by
    have e := iosOk_vals h
    subst e
    exact ⟨.nil, fpO_vals H' ws ds⟩
  | _, _, os, .v (v := v) (x := x) (vs := vs) (as := as) h r, hi => by
    cases hi with
    | v hi =>
      obtain ⟨h1, h2⟩ := iosOk_append ds r hi
      refine ⟨.v h1, ?_⟩
      show fpO H' (v :: (vs ++ ws)) (.v x :: (as ++ ds.map A.v)) os = _
      rw [fpO_v, fpO_v, h2]
  | _, _, _, .io (l := l) (vs := vs) (as := as) a b c r, hi => by
    cases hi with
    | io a1 a2 a3 hi =>
      obtain ⟨h1, h2⟩ := iosOk_append ds r hi
      refine ⟨.io a1 a2 a3 h1, ?_⟩
      show (l, []) :: fpO H' (vs ++ ws) (as ++ ds.map A.v) _ = (l, []) :: fpO H' vs as _
      rw [h2]
  | _, _, _, .tr (l := l) (vs := vs) (as := as) a b c r, hi => by
    cases hi with
    | tr a1 a2 a3 a4 hi =>
      obtain ⟨h1, h2⟩ := iosOk_append ds r hi
      refine ⟨.tr a1 a2 a3 a4 h1, ?_⟩
      show (l, bxo (H' l) _) :: fpO H' (vs ++ ws) (as ++ ds.map A.v) _ = (l, bxo (H' l) _) :: fpO H' vs as _
      rw [h2]
section
variable {X : Cx} {g : Gx} {CX : CXT} {k : Nat} {f : Addr} {fd : FuncData} {ps : List Str} {fm : FM} {dds : List D} {fa : AM} {ds : List Value} {dvs : List V} {E : XK}
/-- the heart of a call -/
theorem call_t (hdd : ∀ F, Reps X.kw F dvs dds) {α : Type} {kont : Res × Bool × Env → Option α} {a : α} {F H : Hp} {σ : St} {ρ : Env} {R : VK} {p : List Opd × Env} (G : Gd X.kw g F H σ p.2) {vs : List V} (r : OpdsOk X.kw F σ vs p.1)
    {res : Res × Bool × Env} (nd : (ios p.1).Nodup) (ok : okOs p.1 (ios p.1) = true) {as : List A} (ea : argsOf p.2 p.1 = some as) {rr : Res × List D} (ef : fm (as ++ dds.map A.v) = some rr) {ρ2 : Env} (ep : putOuts p.1 rr.2 p.2 = some ρ2)
    (hl : hasRef p.1 = false ∨ rr.2.all lfo = true)
    (q : ∀ v F1 F2 H2 ad, (∀ {w : V} {d : D}, (hasRef p.1 = true → lf d = true) → Rep X.kw F1 w d → Rep X.kw F2 w d) → (∀ {w : HO} {d : D}, (hasRef p.1 = true → lfo d = true) → ORep X.kw F1 w d → ORep X.kw F2 w d) → (∀ {w : HO} {d : D}, (hasRef p.1 = true → lfo d = true) → TRep X.kw F1 H2 w d → TRep X.kw F2 H2 w d) →
      (∀ b, H b = none → F1 b = none → b ∉ ad → F2 b = none ∧ g.H0 b = none ∧ g.pin b = none ∧ ∀ i, ¬ OwnAt H2 σ ρ2 i b) → Gd X.kw g F2 H2 σ ρ2 → Same F F2 → ResOk X.kw H F1 H2 ad v rr.1 → R v H2) : spF X.kw fm (vs ++ dvs) H R E := by
  have ha := args_ok G (is := ios p.1) (c := hasRef p.1) r ea ok (fun _ h => h) (fun h => h)
  refine ⟨_, _, rr.1, rr.2, ha.append (hdd _), ?_, G.lentPH, ef, fun v F1 H2 post io ndo rs => ?_⟩
  · rw [fpL_append dds ha]; exact ios_nodup r ea G nd
  · rw [fpL_append dds ha] at post
    obtain ⟨io', eo⟩ := iosOk_append dds ha io
    rw [eo] at ndo rs
    obtain ⟨G2, sF, rep, reps, trep, none⟩ := call_end G r ea nd post io' ndo ep fun hc => by
      rcases hl with h | h
      · rw [h] at hc; cases hc
      · exact fun xs hx => List.all_eq_true.mp h xs hx
    exact q v F1 _ H2 _ rep reps trep none G2 sF rs
theorem call_e (hdd : ∀ F, Reps X.kw F dvs dds) {σ : St} {H : Hp} {Q : VK} (q : tE X.kw g (eCall fm dds fa) σ H Q) : tCall (spF X.kw fm) dvs E (tA X.kw g fa) σ H Q := by
  obtain ⟨F, ρ, d, ρ', G, hf, q⟩ := q
  obtain ⟨r, hm, hf⟩ := bnd hf
  obtain ⟨p, e0, hm⟩ := bnd hm
  split at hm
  · rename_i hc
    obtain ⟨as, e1, hm⟩ := bnd hm
    obtain ⟨rr, e2, hm⟩ := bnd hm
    obtain ⟨ρ2, e3, hm⟩ := bnd hm
    split at hm
    · rename_i hl
      cases hm
      refine ⟨F, ρ, p.1, p.2, G, e0, fun vs F' H' G' s' r' => call_t (fm := fm) (E := E) (α := Unit) (kont := fun _ => none) (a := ()) (ρ := ρ) (res := (rr.1, true, ρ2)) hdd G' r' hc.1 hc.2 e1 e2 e3 hl fun v F1 F2 H2 ad rep reps trep none G2 sF rs => ?_⟩
      cases e : rr.1 with
      | d x =>
        simp only [finR, e, fin] at hf
        split at hf
        · rename_i hx
          cases hf
          rw [e] at rs
          exact q v F2 H2 G2 (s'.trans sF) (rep (fun h => by rw [h] at hx; simpa using hx) rs)
        · cases hf
      | n xs =>
        simp only [finR, e] at hf
        split at hf
        · rename_i hx
          cases hf
          rw [e] at rs
          obtain ⟨l, ws, rfl, h1, h2, hx2, h3, h4⟩ := rs
          obtain ⟨n1, n2, n3, n4⟩ := none l h1 h2 hx2
          have sm' : Same F2 (upd F2 l ws) := fun b u e => by rw [upd_ne (ne_of_none e n1)]; exact e
          exact q _ _ H2 (G2.freeze h3 n1 n2 n3 n4) ((s'.trans sF).trans sm') (((reps (fun h => by rw [h] at hx; simpa using hx) h4).mono sm').rep upd_same)
        · cases hf
      | r xs => simp only [finR, e] at hf; cases hf
    · cases hm
  · cases hm
variable {x : Str} {p pos : Pos} {e : Expr} {es : List Expr}
theorem de_call (Fk : FnOk X.prog X.w X.kw X.mg X.base CX k f fd ps (spF X.kw fm)) (hr : Room k X.A) (hg : Gl X x) (hm : X.mg x = some (.ref f)) (hk : PySem.W.keepIn X.kw (.ref f) = true) (hb : Binds X.kw fd ps ds) (hd : Vals dvs ds) (hdd : ∀ F, Reps X.kw F dvs dds) (hx : Passes CX X E) (ha : DA X g (e :: es) fa) (hdb : (x == ("__debug__" : Str)) = false := by decide)
    (he : starEach (e :: es) X.env = (false, eval e X.env) :: starEach es X.env := by rfl) (hpl : (backTo pos (starEach es X.env)).any (·.1) = false := by rfl) : DE X g (.Call (.Name x p) (e :: es) [] pos) (eCall fm dds fa) :=
  weakPE (pe_call Fk hr hg hm hk hb hd hx ha (hdb := hdb) (he := he) (hpl := hpl)) fun σ H Q q => call_e hdd q
end
end L3
namespace L3
open PySem L2
theorem opr_or {X : Cx} {f : Value → Value → Sem Value} {r r' : R2} (h : OpR X f r) (h' : OpR X f r') : OpR X f (fun x y H Q => r x y H Q ∨ r' x y H Q) := fun pins s σ H x y v u Q I rx ry q =>
  q.elim (h pins s σ H x y v u Q I rx ry) (h' pins s σ H x y v u Q I rx ry)
theorem callr_or {X : Cx} {f : Value} {r r' : List V → Hp → VK → Prop} (h : CallR X f r) (h' : CallR X f r') : CallR X f (fun xs H Q => r xs H Q ∨ r' xs H Q) := fun pins s σ H xs us Q I r q =>
  q.elim (h pins s σ H xs us Q I r) (h' pins s σ H xs us Q I r)
def wide (i : Int) : Bool := decide (-(2 ^ 256) < i ∧ i < 2 ^ 256)
theorem wide_abs {i : Int} (h : wide i = true) : i.natAbs < 2 ^ 256 := by
  have q := of_decide_eq_true h
  omega
def kAdd : D → D → Option D
  | .int i, .int j => some (.int (i + j))
  | .str x, .str y => if x.length + y.length ≤ 16777216 then some (.str (x ++ y)) else none
  | .tup l, .tup m => if l.length + m.length ≤ 16777216 then some (.tup (l ++ m)) else none
  | .lst l, .lst m => if l.length + m.length ≤ 16777216 then some (.lst (l ++ m)) else none
  | _, _ => none
def kSub : D → D → Option D
  | .int i, .int j => some (.int (i - j))
  | _, _ => none
def kMul : D → D → Option D
  | .int i, .int j => if wide i && wide j then some (.int (i * j)) else none
  | _, _ => none
def kMod : D → D → Option D
  | .int i, .int j => if 0 < j then some (.int (i % j)) else none
  | _, _ => none
def kPow : D → D → Option D
  | .int i, .int j => if 0 ≤ j ∧ j ≤ 1000 ∧ wide i = true then some (.int (i ^ j.toNat)) else none
  | _, _ => none
def kNeg : D → Option D
  | .int i => some (.int (-i))
  | _ => none
def kLt : D → D → Option D
  | .int i, .int j => some (.bl (decide (i < j)))
  | _, _ => none
def kLe : D → D → Option D
  | .int i, .int j => some (.bl (decide (i ≤ j)))
  | _, _ => none
def kGt : D → D → Option D
  | .int i, .int j => some (.bl (decide (j < i)))
  | _, _ => none
def kGe : D → D → Option D
  | .int i, .int j => some (.bl (decide (j ≤ i)))
  | _, _ => none
section
variable {X : Cx} {K : KW}
abbrev rAddX (K : KW) : R2 := fun x y H Q => (∃ i j, x = .int i ∧ y = .int j ∧ Q (.int (i + j)) H) ∨ (∃ i j, x = .str i ∧ y = .str j ∧ i.length + j.length ≤ sizeLine ∧ Q (.str (i ++ j)) H) ∨ rCatA K x y H Q ∨ rCat x y H Q
theorem or_add : OpR X (binaryOp .Add) (rAddX X.kw) := opr_or op_add (opr_or op_add_str (opr_or op_catA op_cat))
theorem ok_add : Op2 K (rAddX K) kAdd := by
  intro F H v u a b c Q s ra rb e q
  unfold kAdd at e
  split at e
  · cases ra; cases rb; cases e
    exact .inl ⟨_, _, rfl, rfl, q _ F H (Ext.refl s) .int⟩
  · split at e
    · rename_i hl
      cases ra; cases rb; cases e
      exact .inr (.inl ⟨_, _, rfl, rfl, by rw [sizeLine_eq]; exact hl, q _ F H (Ext.refl s) .str⟩)
    · cases e
  · split at e
    · rename_i l m hl
      cases e
      cases ra with
      | tup h1 h2 =>
        cases rb with
        | tup h3 h4 =>
          refine .inr (.inr (.inl ⟨_, _, _, _, rfl, rfl, SqT.of (s _ _ h1), SqT.of (s _ _ h3), by rw [sizeLine_eq, h2.length, h4.length]; exact hl, fun e => ?_, fun _ e => ?_, fun _ _ p hp => ?_⟩))
          · subst e; cases h2
            exact q _ F H (Ext.refl s) (.tup h3 h4)
          · subst e; cases h4
            rw [List.append_nil] at q
            exact q _ F H (Ext.refl s) (.tup h1 h2)
          · exact q _ _ _ (Ext.alloc s hp (.tup _)) (.tup upd_same ((h2.append h4).mono (Ext.alloc s hp _).ff))
    · cases e
  · split at e
    · rename_i l m hl
      cases e
      cases ra with
      | lst h1 h2 =>
        cases rb with
        | lst h3 h4 =>
          refine .inr (.inr (.inr ⟨_, _, _, _, rfl, rfl, s _ _ h1, s _ _ h3, by rw [sizeLine_eq, h2.length, h4.length]; exact hl, fun p hp => ?_⟩))
          exact q _ _ _ (Ext.alloc s hp (.lst _)) (.lst upd_same ((h2.append h4).mono (Ext.alloc s hp _).ff))
    · cases e
  · cases e
theorem ok_sub : Op2 K (rI0 fun i j => .int (i - j)) kSub := by
  intro F H v u a b c Q s ra rb e q
  unfold kSub at e
  split at e
  · cases ra; cases rb; cases e
    exact ⟨_, _, rfl, rfl, q _ F H (Ext.refl s) .int⟩
  · cases e
theorem ok_mul : Op2 K (rI CMulW fun i j => .int (i * j)) kMul := by
  intro F H v u a b c Q s ra rb e q
  unfold kMul at e
  split at e
  · split at e
    · rename_i hw
      cases ra; cases rb; cases e
      have h := Bool.and_eq_true_iff.mp hw
      exact ⟨_, _, rfl, rfl, wide_mul (wide_abs h.1) (wide_abs h.2) (by decide) (by decide) (by decide), q _ F H (Ext.refl s) .int⟩
    · cases e
  · cases e
theorem ok_mod : Op2 K (rI (fun _ j => 0 < j) fun i j => .int (i % j)) kMod := by
  intro F H v u a b c Q s ra rb e q
  unfold kMod at e
  split at e
  · split at e
    · rename_i hw
      cases ra; cases rb; cases e
      exact ⟨_, _, rfl, rfl, hw, q _ F H (Ext.refl s) .int⟩
    · cases e
  · cases e
def CPowW (i j : Int) : Prop := 0 ≤ j ∧ (Builtin.Int.intBits i : Int) * j ≤ 2 ^ 27
theorem op_powW : OpR X (binaryOp .Pow) (rI CPowW fun i j => .int (i ^ j.toNat)) := opI fun _ _ _ _ _ _ _ hc q => PyProof.Rows.pow_int hc.1 hc.2 q
theorem ok_pow : Op2 K (rI CPowW fun i j => .int (i ^ j.toNat)) kPow := by
  intro F H v u a b c Q s ra rb e q
  unfold kPow at e
  split at e
  · split at e
    · rename_i i j hw
      cases ra; cases rb; cases e
      refine ⟨_, _, rfl, rfl, ⟨hw.1, ?_⟩, q _ F H (Ext.refl s) .int⟩
      have b := PyProof.Rows.intBits_le (wide_abs hw.2.2)
      have h1 := hw.1
      have h2 := hw.2.1
      have : (Builtin.Int.intBits i : Int) * j ≤ 256 * 1000 := Int.mul_le_mul (by omega) h2 h1 (by decide)
      exact Int.le_trans this (by decide)
    · cases e
  · cases e
theorem ok_neg : Op1 K (rU fun i => .int (-i)) kNeg := by
  intro F H v a c Q s ra e q
  unfold kNeg at e
  split at e
  · cases ra; cases e
    exact ⟨_, rfl, q _ F H (Ext.refl s) .int⟩
  · cases e
theorem ok_lt : Op2 K (rI0 fun i j => .bl (decide (i < j))) kLt := by
  intro F H v u a b c Q s ra rb e q
  unfold kLt at e
  split at e
  · cases ra; cases rb; cases e
    exact ⟨_, _, rfl, rfl, q _ F H (Ext.refl s) .bl⟩
  · cases e
theorem ok_le : Op2 K (rI0 fun i j => .bl (decide (i ≤ j))) kLe := by
  intro F H v u a b c Q s ra rb e q
  unfold kLe at e
  split at e
  · cases ra; cases rb; cases e
    exact ⟨_, _, rfl, rfl, q _ F H (Ext.refl s) .bl⟩
  · cases e
theorem ok_gt : Op2 K (rI0 fun i j => .bl (decide (j < i))) kGt := by
  intro F H v u a b c Q s ra rb e q
  unfold kGt at e
  split at e
  · cases ra; cases rb; cases e
    exact ⟨_, _, rfl, rfl, q _ F H (Ext.refl s) .bl⟩
  · cases e
theorem ok_ge : Op2 K (rI0 fun i j => .bl (decide (j ≤ i))) kGe := by
  intro F H v u a b c Q s ra rb e q
  unfold kGe at e
  split at e
  · cases ra; cases rb; cases e
    exact ⟨_, _, rfl, rfl, q _ F H (Ext.refl s) .bl⟩
  · cases e
/-- a < b < c, the middle one a value -/
def eChain (k k' : D → D → Option D) (f h j : OM) : EM := fun ρ => (f ρ).bind fun p => (h p.2).bind fun q => (res q.2 p.1).bind fun a => (res q.2 q.1).bind fun b => (k a b).bind fun c => match c with
  | .bl true => (j q.2).bind fun r => (res r.2 r.1).bind fun d => if isVal p.1 && isVal q.1 && isVal r.1 then (k' b d).bind fun x => some (x, r.2) else none
  | .bl false => if isVal p.1 && isVal q.1 then some (.bl false, q.2) else none
  | _ => none
end
mutual
def toPy : D → Option PyData
  | .non => some .none
  | .bl b => some (.bool b)
  | .int i => some (.int i)
  | .str x => some (.str x)
  | .tup l => (toPys l).bind fun z => some (.tuple z)
  | .ktp l => (toPys l).bind fun z => some (.tuple z)
  | .lst l => (toPys l).bind fun z => some (.list z)
  | _ => none
def toPys : List D → Option (List PyData)
  | [] => some []
  | d :: r => (toPy d).bind fun z => (toPys r).bind fun zs => some (z :: zs)
end
mutual
theorem toPy_ok {K : KW} {F H : Hp} (s : Same F H) : ∀ {v : V} {d : D} {z : PyData}, Rep K F v d → toPy d = some z → Dp K H v z
  | _, _, _, .non, e => by cases e; exact .non
  | _, _, _, .bl, e => by cases e; exact .bl _
  | _, _, _, .int, e => by cases e; exact .int _
  | _, _, _, .str, e => by cases e; exact .str _
  | _, _, _, .tup h r, e => by
    obtain ⟨z, e1, e2⟩ := bnd e
    cases e2
    exact .tup (SqT.of (s _ _ h)) (toPys_ok s r e1)
  | _, _, _, .ktp h r, e => by
    obtain ⟨z, e1, e2⟩ := bnd e
    cases e2
    exact .tup (Same.sqt s h) (toPys_ok s r e1)
  | _, _, _, .lst h r, e => by
    obtain ⟨z, e1, e2⟩ := bnd e
    cases e2
    exact .lst (SqL.of (s _ _ h)) (toPys_ok s r e1)
  | _, _, _, .ins h r, e => by cases e
  | _, _, _, .dk h r, e => by cases e
  | _, _, _, .dd m h o r, e => by cases e
  | _, _, _, .cls, e => by cases e
  | _, _, _, .bty, e => by cases e
  | _, _, _, .scr h, e => by cases e
theorem toPys_ok {K : KW} {F H : Hp} (s : Same F H) : ∀ {vs : List V} {ds : List D} {zs : List PyData}, Reps K F vs ds → toPys ds = some zs → DpAll K H vs zs
  | _, _, _, .nil, e => by cases e; exact .nil
  | _, _, _, .cons h r, e => by
    obtain ⟨z, e1, e⟩ := bnd e
    obtain ⟨zs, e2, e⟩ := bnd e
    cases e
    exact .cons (toPy_ok s h e1) (toPys_ok s r e2)
end
def eqD (a b : D) : Option Bool := (toPy a).bind fun x => (toPy b).bind fun y => if SeqAt.shaped x && SeqAt.shaped y then some (PyData.eqv x y) else none
def kEq (a b : D) : Option D := (eqD a b).bind fun k => some (.bl k)
def kNe (a b : D) : Option D := (eqD a b).bind fun k => some (.bl (!k))
section
variable {X : Cx} {K : KW}
theorem eqD_ok {F H : Hp} (s : Same F H) {v u : V} {a b : D} {k : Bool} (ra : Rep K F v a) (rb : Rep K F u b) (e : eqD a b = some k) : ∃ x y, Dp K H v x ∧ Dp K H u y ∧ SeqAt.shaped x = true ∧ SeqAt.shaped y = true ∧ k = PyData.eqv x y := by
  obtain ⟨x, e1, e⟩ := bnd e
  obtain ⟨y, e2, e⟩ := bnd e
  split at e
  · rename_i hs
    cases e
    have h := Bool.and_eq_true_iff.mp hs
    exact ⟨x, y, toPy_ok s ra e1, toPy_ok s rb e2, h.1, h.2, rfl⟩
  · cases e
theorem ok_eq : Op2 K (rEqD K) kEq := by
  intro F H v u a b c Q s ra rb e q
  obtain ⟨k, e1, e⟩ := bnd e
  cases e
  obtain ⟨x, y, h1, h2, h3, h4, rfl⟩ := eqD_ok s ra rb e1
  exact ⟨x, y, h1, h2, h3, h4, q _ F H (Ext.refl s) .bl⟩
theorem ok_ne : Op2 K (rNeD K) kNe := by
  intro F H v u a b c Q s ra rb e q
  obtain ⟨k, e1, e⟩ := bnd e
  cases e
  obtain ⟨x, y, h1, h2, h3, h4, rfl⟩ := eqD_ok s ra rb e1
  exact ⟨x, y, h1, h2, h3, h4, q _ F H (Ext.refl s) .bl⟩
end
def isN : D → Bool
  | .non => true
  | _ => false
def kIsN (a b : D) : Option D := match b with
  | .non => some (.bl (isN a))
  | _ => none
def kNotN (a b : D) : Option D := match b with
  | .non => some (.bl (!isN a))
  | _ => none
section
variable {X : Cx} {K : KW}
theorem isN_ok {F : Hp} {v : V} {a : D} (r : Rep K F v a) : decide (v = .non) = isN a := by
  cases r <;> rfl
theorem ok_isN : Op2 K (fun x y H Q => y = .non ∧ Q (.bl (decide (x = .non))) H) kIsN := by
  intro F H v u a b c Q s ra rb e q
  unfold kIsN at e
  split at e
  · cases rb; cases e
    exact ⟨rfl, by rw [isN_ok ra]; exact q _ F H (Ext.refl s) .bl⟩
  · cases e
theorem ok_notN : Op2 K (fun x y H Q => y = .non ∧ Q (.bl (!decide (x = .non))) H) kNotN := by
  intro F H v u a b c Q s ra rb e q
  unfold kNotN at e
  split at e
  · cases rb; cases e
    exact ⟨rfl, by rw [isN_ok ra]; exact q _ F H (Ext.refl s) .bl⟩
  · cases e
end
theorem atI_rep {K : KW} {F : Hp} {vs : List V} {ds : List D} {i : Int} {d : D} (r : Reps K F vs ds) (e : atI ds i = some d) : ∃ v, atI vs i = some v ∧ Rep K F v d := by
  unfold atI at e ⊢
  rw [r.length]
  obtain ⟨j, e1, e2⟩ := bnd e
  obtain ⟨v, h1, h2⟩ := r.get e2
  exact ⟨v, by rw [e1]; exact h1, h2⟩
def kIx (a b : D) : Option D := match b with
  | .int i => match a with
    | .tup l => atI l i
    | .ktp l => atI l i
    | .lst l => atI l i
    | .scr ns => (atI ns i).bind fun n => some (.int n)
    | .str z => if z.length ≤ 16777216 then (atI z.cps.toList i).bind fun c => some (.str ⟨#[c]⟩) else none
    | _ => none
  | _ => none
theorem atI_map {α β : Type} (f : α → β) {l : List α} {i : Int} {x : α} (e : atI l i = some x) : atI (l.map f) i = some (f x) := by
  unfold atI at e ⊢
  rw [List.length_map]
  obtain ⟨j, e1, e2⟩ := bnd e
  rw [e1]
  show (l.map f)[j]? = _
  rw [List.getElem?_map, e2]; rfl
theorem ok_ix {K : KW} : Op2 K (rIx K) kIx := by
  intro F H v u a b c Q s ra rb e q
  unfold kIx at e
  split at e
  · cases rb
    split at e
    · cases ra with
      | tup h1 h2 =>
        obtain ⟨w, e1, r1⟩ := atI_rep h2 e
        exact .inr (.inl ⟨_, _, _, _, rfl, rfl, SqT.of (s _ _ h1), e1, q _ F H (Ext.refl s) r1⟩)
    · cases ra with
      | ktp h1 h2 =>
        obtain ⟨w, e1, r1⟩ := atI_rep h2 e
        exact .inr (.inl ⟨_, _, _, _, rfl, rfl, Same.sqt s h1, e1, q _ F H (Ext.refl s) r1⟩)
    · cases ra with
      | lst h1 h2 =>
        obtain ⟨w, e1, r1⟩ := atI_rep h2 e
        exact .inl ⟨_, _, _, _, rfl, rfl, SqL.of (s _ _ h1), e1, q _ F H (Ext.refl s) r1⟩
    · cases ra with
      | scr h1 =>
        obtain ⟨n, e1, e⟩ := bnd e
        cases e
        exact .inl ⟨_, _, _, _, rfl, rfl, s.seq h1, atI_map V.int e1, q _ F H (Ext.refl s) .int⟩
    · split at e
      · rename_i hz
        cases ra
        obtain ⟨n, e1, e⟩ := bnd e
        cases e
        exact .inr (.inr ⟨_, _, _, rfl, rfl, by rw [sizeLine_eq]; exact hz, e1, q _ F H (Ext.refl s) .str⟩)
      · cases e
    · cases e
  · cases e
def flatD : D → Bool
  | .non => true
  | .bl _ => true
  | .int _ => true
  | .str _ => true
  | _ => false
def eqF : D → D → Bool
  | .non, .non => true
  | .bl a, .bl b => a == b
  | .bl a, .int b => (if a then 1 else 0) == b
  | .int a, .bl b => a == (if b then 1 else 0)
  | .int a, .int b => a == b
  | .str a, .str b => a == b
  | _, _ => false
/-- the items, where all are flat -/
def flats : D → Option (List D)
  | .tup l => if l.all flatD then some l else none
  | .ktp l => if l.all flatD then some l else none
  | .lst l => if l.all flatD then some l else none
  | _ => none
def kIn (neg : Bool) (a b : D) : Option D := (flats b).bind fun l => if flatD a then some (.bl (if neg then !l.any (fun y => eqF y a) else l.any fun y => eqF y a)) else none
section
variable {X : Cx} {K : KW}
theorem flat_ok {F : Hp} {v : V} {a : D} (r : Rep K F v a) (h : flatD a = true) : flatV v = true := by
  cases r <;> first | rfl | cases h
theorem eqF_ok {F : Hp} {v u : V} {a b : D} (r : Rep K F v a) (r' : Rep K F u b) (h : flatD a = true) (h' : flatD b = true) : eqV v u = eqF a b := by
  cases r <;> cases r' <;> first | rfl | cases h | cases h'
theorem flats_ok {F : Hp} : ∀ {vs : List V} {l : List D}, Reps K F vs l → l.all flatD = true → vs.all flatV = true ∧ ∀ {u : V} {b : D}, Rep K F u b → flatD b = true → vs.any (fun y => eqV y u) = l.any fun y => eqF y b
  | _, _, .nil, _ => ⟨rfl, fun _ _ => rfl⟩
  | _, _, .cons h r, e => by
    simp only [List.all_cons, Bool.and_eq_true] at e
    obtain ⟨h1, h2⟩ := flats_ok r e.2
    refine ⟨by simp [flat_ok h e.1, h1], fun r' h' => ?_⟩
    rw [List.any_cons, List.any_cons, eqF_ok h r' e.1 h', h2 r' h']
theorem ok_in {neg : Bool} : Op2 K (rIn K neg) (kIn neg) := by
  intro F H v u a b c Q s ra rb e q
  obtain ⟨l, e1, e⟩ := bnd e
  split at e
  · rename_i hf
    cases e
    have main : ∀ {p : Addr} {vs : List V}, u = .ref p → (SqL K H p vs ∨ SqT K H p vs) → Reps K F vs l → l.all flatD = true → rIn K neg v u H Q := fun {p vs} eu hs r hl => by
      obtain ⟨h1, h2⟩ := flats_ok r hl
      refine ⟨p, vs, eu, hs, flat_ok ra hf, h1, ?_⟩
      unfold inV
      rw [h2 ra hf]
      exact q _ F H (Ext.refl s) .bl
    unfold flats at e1
    split at e1
    · split at e1
      · rename_i hl
        cases e1
        cases rb with
        | tup h1 h2 => exact main rfl (.inr (SqT.of (s _ _ h1))) h2 hl
      · cases e1
    · split at e1
      · rename_i hl
        cases e1
        cases rb with
        | ktp h1 h2 => exact main rfl (.inr (Same.sqt s h1)) h2 hl
      · cases e1
    · split at e1
      · rename_i hl
        cases e1
        cases rb with
        | lst h1 h2 => exact main rfl (.inl (SqL.of (s _ _ h1))) h2 hl
      · cases e1
    · cases e1
  · cases e
end
def kLen : List D → Option D
  | [.tup l] => some (.int l.length)
  | [.ktp l] => some (.int l.length)
  | [.lst l] => some (.int l.length)
  | [.scr l] => some (.int l.length)
  | [.str z] => if z.length ≤ 16777216 then some (.int z.length) else none
  | _ => none
def kAbs : List D → Option D
  | [.int i] => some (.int (if i < 0 then -i else i))
  | _ => none
def kMax2 : List D → Option D
  | [.int i, .int j] => some (.int (if j > i then j else i))
  | _ => none
def kMin2 : List D → Option D
  | [.int i, .int j] => some (.int (if j < i then j else i))
  | _ => none
def kInt : List D → Option D
  | [.int i] => some (.int i)
  | [.bl b] => some (.int (if b then 1 else 0))
  | _ => none
/-- bools, ints of a list -/
def blsOf : List D → Option (List Bool)
  | [] => some []
  | .bl b :: r => (blsOf r).bind fun bs => some (b :: bs)
  | _ :: _ => none
def intsOf : List D → Option (List Int)
  | [] => some []
  | .int b :: r => (intsOf r).bind fun bs => some (b :: bs)
  | _ :: _ => none
def kAny : List D → Option D
  | [.lst l] => (blsOf l).bind fun bs => some (.bl (bs.any id))
  | _ => none
def kAll : List D → Option D
  | [.lst l] => (blsOf l).bind fun bs => some (.bl (bs.all id))
  | _ => none
section
variable {X : Cx} {K : KW}
theorem blsOf_eq : ∀ {l : List D} {bs : List Bool}, blsOf l = some bs → l = bs.map D.bl
  | [], _, e => by cases e; rfl
  | .bl b :: r, _, e => by
    obtain ⟨bs, e1, e2⟩ := bnd e
    cases e2
    rw [blsOf_eq e1]; rfl
theorem intsOf_eq : ∀ {l : List D} {bs : List Int}, intsOf l = some bs → l = bs.map D.int
  | [], _, e => by cases e; rfl
  | .int b :: r, _, e => by
    obtain ⟨bs, e1, e2⟩ := bnd e
    cases e2
    rw [intsOf_eq e1]; rfl
theorem Reps.bls {F : Hp} : ∀ {vs : List V} {bs : List Bool}, Reps K F vs (bs.map D.bl) → vs = bs.map V.bl
  | _, [], r => by cases r; rfl
  | _, b :: bs, r => by
    cases r with
    | cons h r => cases h; rw [Reps.bls r]; rfl
theorem ok_len : OpL K (fun xs H Q => ∃ x n, xs = [x] ∧ LenV K x H n ∧ Q (.int n) H) kLen := by
  intro F H vs as c Q s r e q
  unfold kLen at e
  split at e
  · cases e
    cases r with
    | cons r rr =>
      cases rr
      cases r with
      | tup h1 h2 => exact ⟨_, _, rfl, .inr ⟨_, SqT.of (s _ _ h1), h2.length.symm⟩, q _ F H (Ext.refl s) .int⟩
  · cases e
    cases r with
    | cons r rr =>
      cases rr
      cases r with
      | ktp h1 h2 => exact ⟨_, _, rfl, .inr ⟨_, Same.sqt s h1, h2.length.symm⟩, q _ F H (Ext.refl s) .int⟩
  · cases e
    cases r with
    | cons r rr =>
      cases rr
      cases r with
      | lst h1 h2 => exact ⟨_, _, rfl, .inl ⟨_, SqL.of (s _ _ h1), h2.length.symm⟩, q _ F H (Ext.refl s) .int⟩
  · cases e
    cases r with
    | cons r rr =>
      cases rr
      cases r with
      | scr h1 => exact ⟨_, _, rfl, .inl ⟨_, s.seq h1, (List.length_map ..).symm⟩, q _ F H (Ext.refl s) .int⟩
  · split at e
    · rename_i hz
      cases e
      cases r with
      | cons r rr =>
        cases rr
        cases r
        exact ⟨_, _, rfl, ⟨by rw [sizeLine_eq]; exact hz, rfl⟩, q _ F H (Ext.refl s) .int⟩
    · cases e
  · cases e
theorem ok_abs : OpL K (fun xs H Q => ∃ i, xs = [.int i] ∧ Q (.int (if i < 0 then -i else i)) H) kAbs := by
  intro F H vs as c Q s r e q
  unfold kAbs at e
  split at e
  · cases e
    cases r with
    | cons r rr =>
      cases rr
      cases r
      exact ⟨_, rfl, q _ F H (Ext.refl s) .int⟩
  · cases e
theorem ok_max2 : OpL K (fun xs H Q => ∃ i j, xs = [.int i, .int j] ∧ Q (.int (if j > i then j else i)) H) kMax2 := by
  intro F H vs as c Q s r e q
  unfold kMax2 at e
  split at e
  · cases e
    cases r with
    | cons r rr =>
      cases rr with
      | cons r' rr =>
        cases rr
        cases r
        cases r'
        exact ⟨_, _, rfl, q _ F H (Ext.refl s) .int⟩
  · cases e
theorem ok_all : OpL K (rAll K) kAll := by
  intro F H vs as c Q s r e q
  unfold kAll at e
  split at e
  · obtain ⟨bs, e1, e⟩ := bnd e
    cases e
    cases r with
    | cons r rr =>
      cases rr
      cases r with
      | lst h1 h2 =>
        rw [blsOf_eq e1] at h2
        rw [Reps.bls h2] at h1
        exact ⟨_, bs, rfl, SqL.of (s _ _ h1), q _ F H (Ext.refl s) .bl⟩
  · cases e
end
end L3
namespace L3
open PySem L2
def insBy {α : Type} (lt : α → α → Bool) (x : α) : List α → List α
  | [] => [x]
  | y :: r => if lt y x then y :: insBy lt x r else x :: y :: r
def sortBy {α : Type} (lt : α → α → Bool) : List α → List α
  | [] => []
  | x :: r => insBy lt x (sortBy lt r)
section
open SrtO
variable {α : Type} {lt : α → α → Bool}
theorem insBy_perm (x : α) : ∀ l : List α, (insBy lt x l).Perm (x :: l)
  | [] => List.Perm.refl _
  | y :: r => by
    unfold insBy
    split
    · exact ((insBy_perm x r).cons y).trans (List.Perm.swap x y r)
    · exact List.Perm.refl _
theorem sortBy_perm : ∀ l : List α, (sortBy lt l).Perm l
  | [] => List.Perm.refl _
  | x :: r => (insBy_perm x _).trans ((sortBy_perm r).cons x)
theorem insBy_srtd (O : Swo lt) (x : α) : ∀ {l : List α}, Srtd lt l → Srtd lt (insBy lt x l)
  | [], _ => srtd_one x
  | y :: r, h => by
    unfold insBy
    have h' := List.pairwise_cons.mp h
    split
    · rename_i e
      refine List.pairwise_cons.mpr ⟨fun z hz => ?_, insBy_srtd O x h'.2⟩
      rcases List.mem_cons.mp ((insBy_perm x r).mem_iff.mp hz) with rfl | hz
      · exact O.asym _ _ e
      · exact h'.1 z hz
    · rename_i e
      have e' : lt y x = false := by simpa using e
      refine List.pairwise_cons.mpr ⟨fun z hz => ?_, h⟩
      rcases List.mem_cons.mp hz with rfl | hz
      · exact e'
      · exact O.tr x y z e' (h'.1 z hz)
theorem sortBy_srtd (O : Swo lt) : ∀ l : List α, Srtd lt (sortBy lt l)
  | [] => List.Pairwise.nil
  | x :: r => insBy_srtd O x (sortBy_srtd O r)
theorem insBy_cls (O : Swo lt) (x z : α) : ∀ l : List α, (insBy lt x l).filter (eqv lt z) = (x :: l).filter (eqv lt z)
  | [] => rfl
  | y :: r => by
    unfold insBy
    split
    · rename_i e
      rw [List.filter_cons, insBy_cls O x z r]
      by_cases hx : eqv lt z x = true
      · have hy : eqv lt z y = false := by
          cases q : eqv lt z y with
          | false => rfl
          | true =>
            have := eqv_trans O (u := y) (v := x) q
            rw [hx] at this
            have := (eqv_iff.mp this.symm).1
            rw [e] at this; cases this
        simp [List.filter_cons, hx, hy]
      · simp [List.filter_cons, hx]
    · rfl
theorem sortBy_stb (O : Swo lt) : ∀ l : List α, Stb lt (sortBy lt l) l
  | [] => Stb.refl _
  | x :: r => ⟨sortBy_perm _, fun z => by
    show (insBy lt x (sortBy lt r)).filter _ = _
    rw [insBy_cls O, List.filter_cons, List.filter_cons, (sortBy_stb O r).cls z]⟩
theorem sortBy_only (O : Swo lt) {l m : List α} (h1 : Srtd lt m) (h2 : Stb lt m l) : m = sortBy lt l :=
  stb_uniq O h1 (sortBy_srtd O l) ⟨h2.perm.trans (sortBy_perm l).symm, fun x => (h2.cls x).trans ((sortBy_stb O l).cls x).symm⟩
end
def ltI (a b : Int) : Bool := decide (a < b)
theorem swoI : SrtO.Swo ltI := ⟨fun x y h => by simp [ltI] at *; omega, fun x y z h1 h2 => by simp [ltI] at *; omega⟩
/-- ints, in order -/
def isort (l : List Int) : List Int := sortBy ltI l
theorem perm_sorted_unique : ∀ {l m : List Int}, l.Perm m → l.Pairwise (· ≤ ·) → m.Pairwise (· ≤ ·) → l = m
  | [], m, p, _, _ => (List.Perm.eq_nil p.symm).symm
  | x :: l, [], p, _, _ => absurd p.length_eq (by simp)
  | x :: l, y :: m, p, h1, h2 => by
    have a := List.pairwise_cons.mp h1
    have b := List.pairwise_cons.mp h2
    have e : x = y := by
      have hx : x ∈ y :: m := p.mem_iff.mp List.mem_cons_self
      have hy : y ∈ x :: l := p.mem_iff.mpr List.mem_cons_self
      rcases List.mem_cons.mp hx with e | hx
      · exact e
      · rcases List.mem_cons.mp hy with e | hy
        · exact e.symm
        · have := b.1 x hx
          have := a.1 y hy
          omega
    subst e
    rw [perm_sorted_unique p.cons_inv a.2 b.2]
theorem isort_sorted (l : List Int) : (isort l).Pairwise (· ≤ ·) := (sortBy_srtd swoI l).imp fun {x y} h => by simp [ltI] at h; omega
theorem isort_only {l m : List Int} (p : m.Perm l) (h : m.Pairwise (· ≤ ·)) : m = isort l := perm_sorted_unique (p.trans (sortBy_perm l).symm) h (isort_sorted l)
/-- pairs of ints -/
def pairOf : D → Option (Int × Int)
  | .tup [.int a, .int b] => some (a, b)
  | _ => none
def pairsOf : List D → Option (List (Int × Int))
  | [] => some []
  | d :: r => (pairOf d).bind fun p => (pairsOf r).bind fun ps => some (p :: ps)
def dPair (p : Int × Int) : D := .tup [.int p.1, .int p.2]
def psort (l : List (Int × Int)) : List (Int × Int) := sortBy SrtO.lexB l
theorem pairOf_eq {d : D} {p : Int × Int} (h : pairOf d = some p) : d = dPair p := by
  unfold pairOf at h
  split at h
  · cases h; rfl
  · cases h
theorem pairsOf_eq : ∀ {l : List D} {ps : List (Int × Int)}, pairsOf l = some ps → l = ps.map dPair
  | [], _, e => by cases e; rfl
  | d :: r, _, e => by
    obtain ⟨p, e1, e⟩ := bnd e
    obtain ⟨ps, e2, e⟩ := bnd e
    cases e
    rw [pairOf_eq e1, pairsOf_eq e2]; rfl
def OpN (K : KW) (r : List V → Hp → VK → Prop) (k : List D → Option D) : Prop := ∀ (F H : Hp) (vs : List V) (as : List D) (d : D) (Q : VK), Same F H → Reps K F vs as → k as = some d →
  (∀ l o, H l = none → ORep K F o d → Q (.ref l) (upd H l o)) → r vs H Q
/-- what is made: where a lent list was read nothing that may be changed lies in it -/
def finN (v : Bool) (c : D) (ρ : Env) : Option (D × Env) := if v || lfo c then some (c, ρ) else none
theorem finR_n {x : D} {b : Bool} {ρ : Env} : finR (.n x, b, ρ) = finN b x ρ := rfl
def nL (k : List D → Option D) (f : AM) : NM := fun ρ => (f ρ).bind fun p => (resAll p.2 p.1).bind fun as => (k as).bind fun c => finN (allVal p.1) c p.2
theorem Gd.opN {K : KW} {g : Gx} {F H : Hp} {σ : St} {ρ ρ' : Env} (G : Gd K g F H σ ρ) {vl : Bool} {c d : D} {Q : VK} {R : VK → Prop} (hf : finN vl c ρ = some (d, ρ'))
    (q : ∀ l o F' H', Gd K g F' H' σ ρ' → Same F F' → H' l = some o → F' l = none → g.H0 l = none → g.pin l = none → (∀ i, ¬ OwnAt H' σ ρ' i l) → ORep K F' o d → Q (.ref l) H')
    (hv : vl = true → (∀ l o, H l = none → ORep K F o c → Q (.ref l) (upd H l o)) → R Q)
    (hl : (∀ l o, H l = none → ORep K (lent σ ρ F H) o c → Q (.ref l) (upd H l o)) → R Q) : R Q := by
  unfold finN at hf
  have done : ∀ {l : Addr} {o : HO}, H l = none → ORep K F o c → ρ' = ρ → d = c → Q (.ref l) (upd H l o) := fun {l o} hfree r e1 e2 => by
    subst e1; subst e2
    obtain ⟨G2, h1, h2, h3, h4⟩ := G.fresh hfree o
    exact q l o F _ G2 (Same.refl _) upd_same h1 h2 h3 h4 r
  cases vl with
  | true =>
    rw [Bool.true_or, if_pos rfl] at hf
    cases hf
    exact hv rfl fun l o h r => done h r rfl rfl
  | false =>
    rw [Bool.false_or] at hf
    split at hf
    · rename_i e
      cases hf
      refine hl fun l o h r => done h ?_ rfl rfl
      have hb : ∀ p o, lent σ ρ F H p = some o → isLst o = false → F p = some o := fun p o e q => by
        by_cases hh : ∃ i, OwnAt H σ ρ i p
        · obtain ⟨i, hh⟩ := hh
          obtain ⟨_, ws, hw, hlst, _⟩ := G.own hh
          rw [lent_at hh, hw] at e
          cases e
          rw [hlst] at q; cases q
        · rw [lent_no hh] at e; exact e
      exact r.cut hb e
    · cases hf
section
variable {X : Cx} {g : Gx} {ex : Expr} {es : List Expr} {fa : AM} {pos : Pos}
theorem opN_t {r : List V → Hp → VK → Prop} {k : List D → Option D} (hk : OpN X.kw r k) {σ : St} {H : Hp} {Q : VK} (h : tN X.kw g (nL k fa) σ H Q) : tCB r (tA X.kw g fa) σ H Q := by
  obtain ⟨F, ρ, d, ρ', G, hf, q⟩ := h
  obtain ⟨p, e1, hf⟩ := bnd hf
  obtain ⟨x, e2, hf⟩ := bnd hf
  obtain ⟨c, e3, hf⟩ := bnd hf
  exact ⟨F, ρ, p.1, p.2, G, e1, fun v F1 H1 G1 s1 r1 => G1.opN (R := fun Q => r v H1 Q) hf (fun l o F' H' G' s' => q l o F' H' G' (s1.trans s')) (fun hv q' => hk F1 H1 v x c Q G1.sub (valOpds r1 e2 hv) e3 q')
    (fun q' => hk _ H1 v x c Q G1.lentH (G1.lentOpds r1 e2) e3 q')⟩
theorem dn_callB {id : String} {x : Str} {p : Pos} {r : List V → Hp → VK → Prop} {k : List D → Option D} (hc : CallR X (.builtin id) r) (hk : OpN X.kw r k) (hg : Gl X x) (hm : X.mg x = none) (hv : bootBuiltins x = some (.builtin id)) (ha : DA X g (ex :: es) fa)
    (hn : x ≠ "__name__" := by decide) (hdb : (x == ("__debug__" : Str)) = false := by decide)
    (h1 : starEach (ex :: es) X.env = (false, eval ex X.env) :: starEach es X.env := by rfl) (h2 : (backTo pos (starEach es X.env)).any (·.1) = false := by rfl) : DN X g (.Call (.Name x p) (ex :: es) [] pos) (nL k fa) :=
  weakPE (pe_callB hc hg hm hv ha hn hdb h1 h2) fun _ _ _ h => opN_t hk h
theorem dn_callTy {id : String} {x : Str} {p : Pos} {r : List V → Hp → VK → Prop} {k : List D → Option D} (hc : CallR X (.type id) r) (hk : OpN X.kw r k) (hg : Gl X x) (hm : X.mg x = none) (hv : bootBuiltins x = some (.type id)) (ha : DA X g (ex :: es) fa)
    (hn : x ≠ "__name__" := by decide) (hdb : (x == ("__debug__" : Str)) = false := by decide)
    (h1 : starEach (ex :: es) X.env = (false, eval ex X.env) :: starEach es X.env := by rfl) (h2 : (backTo pos (starEach es X.env)).any (·.1) = false := by rfl) : DN X g (.Call (.Name x p) (ex :: es) [] pos) (nL k fa) :=
  weakPE (pe_callTy hc hg hm hv ha hn hdb h1 h2) fun _ _ _ h => opN_t hk h
end
def keyInts : List (Key × D) → Option (List Int)
  | [] => some []
  | (.inl i, _) :: r => (keyInts r).bind fun is => some (i :: is)
  | _ :: _ => none
def kSorted : List D → Option D
  | [.lst l] => match intsOf l with
    | some ns => some (.lst ((isort ns).map D.int))
    | none => (pairsOf l).bind fun ps => some (.lst ((psort ps).map dPair))
  | [.dk kvs] => (keyInts kvs).bind fun ns => some (.lst ((isort ns).map D.int))
  | _ => none
/-- sorted(d), the keys ints -/
def rSortedDI : List V → Hp → VK → Prop := fun xs H Q => ∃ (a : Addr) (kvs : List (Key × V)) (ks : List Int), xs = [.ref a] ∧ Rd H a (.dK kvs) ∧ kvs.map (·.1) = ks.map Sum.inl ∧
    ∀ (ys : List Int) (p : Addr), ys.Perm ks → ys.Pairwise (· ≤ ·) → H p = none → Q (.ref p) (upd H p (.lst (ys.map V.int)))
theorem ints_of_keys : ∀ {us : List Value} {ks : List Int}, us.length = ks.length → (∀ (j : Nat) (v : Value), us[j]? = some v → ∃ (x : Int) (t : Tok), ks[j]? = some x ∧ v = Value.int x t) → PyProof.Rows.IntsAre us ks
  | [], [], _, _ => .nil
  | u :: us, k :: ks, hl, h => by
    obtain ⟨x, t, e1, e2⟩ := h 0 u rfl
    cases Option.some.inj e1
    subst e2
    exact .cons _ _ (ints_of_keys (by simpa using hl) fun j v e => by
      obtain ⟨y, u, a, b⟩ := h (j + 1) v (by simpa using e)
      exact ⟨y, u, by simpa using a, b⟩)
  | [], _ :: _, hl, _ => by simp at hl
  | _ :: _, [], hl, _ => by simp at hl
theorem cr_sortedDI {X : Cx} (hcalm : X.calm = true) : CallR X (.builtin "sorted") rSortedDI := by
  intro pins s σ H xs us Q I r ⟨a, kvs, ks, ex, hd, hks, q⟩
  subst ex
  obtain ⟨u, eu, rx⟩ := vals1 r
  subst eu
  cases rx
  obtain ⟨z, lo, vs, rel, dd⟩ := dk_rd I.hok hd
  obtain ⟨ep, hat⟩ := dd.dictAt
  have hkeys : vs.map (·.1) = ks.map Sum.inl := rel.keys.symm.trans hks
  have hl : vs.length = ks.length := by
    have e := congrArg List.length hkeys
    simpa using e
  have hlk : kvs.length = ks.length := by
    have e := congrArg List.length hks
    simpa using e
  have h16 : vs.length ≤ sizeLine := by rw [hl, ← hlk]; exact z
  refine Calls.call_function_entry PyProof.Rows.kind_sorted PyProof.Rows.plain_sorted PyProof.Rows.entry_sorted (PyProof.Rows.args_sorted1 _) ?_
  unfold Builtin.«sorted»
  refine wpAny_bind (m := checkCount "sorted" 1 1 _) (wpAny_pure ?_)
  refine wpAny_bind (PySem.W.kdu_collect (A := X.A.in1) (PySem.W.kdl_dict (knd := mixKind X.prog X.w) (kvs := vs) (ep := ep) lo) (I.ok.hd hcalm) hat h16 fun h' tk acc hk hacc => ?_)
  have hal : acc.toList.length = ks.length := by rw [Array.length_toList, hacc.1, hl]
  have hS : PyProof.Rows.IntsAre acc.toList ks := ints_of_keys hal fun j v e => by
    obtain ⟨k, x, e1, e2⟩ := hacc.2 j v (by rw [← Array.getElem?_toList]; exact e)
    have e3 : (vs.map (·.1))[j]? = some k := by rw [List.getElem?_map, e1]; rfl
    rw [hkeys, List.getElem?_map] at e3
    cases e4 : ks[j]? with
    | none => rw [e4] at e3; cases e3
    | some y =>
      rw [e4] at e3
      cases Option.some.inj e3
      obtain ⟨t, ev⟩ := Value.isInt_shape (k := y) (v := v) e2
      exact ⟨y, t, rfl, ev⟩
  have I1 : Inv X pins σ H { s with heap := h', toks := tk } := I.kept hk
  have hz : acc.toList.length ≤ sizeLine := by rw [hal, ← hlk]; exact z
  refine wpAny_bind (wpAny_newList ?_ hz)
  have hoL : (h'.push (PyProof.Rows.seqObj "list" acc.toList.toArray 0)).get? h'.objs.size = some (PyProof.Rows.seqObj "list" acc.toList.toArray 0) := Heap.get?_push_size _ rfl
  show wpAny _ _ _ _ _ ({ s with heap := h'.push (PyProof.Rows.seqObj "list" acc.toList.toArray 0), toks := tk } : Shared)
  refine wpAny_bind (wpAny_holding (wpAny_call_entry PyProof.Rows.slot_list_sort ⟨_, hoL, rfl⟩ PyProof.Rows.entry_list_sort
    (SrtO.list_sort_ord SrtO.swo_int (s := { s with heap := h'.push (PyProof.Rows.seqObj "list" acc.toList.toArray 0), toks := tk }) hoL hz (fun h2 => SrtO.ints_sortable hS h2) fun out h1 h2 => ⟨_, rfl, ?_⟩)
    (PyProof.Rows.args_list_sort _)))
  obtain ⟨g1, g2, g3⟩ := SrtO.ints_out hS h1 h2
  obtain ⟨e', he'⟩ := PyProof.Rows.sortedHeap_at (vs := acc.toList) (out := out.toArray) hoL
  have hlen : ((out.map SrtO.iv).map V.int).length ≤ sizeLine := by
    rw [List.length_map, g2.length_eq, ← hlk]; exact z
  refine wpAny_pure ⟨_, rfl, .ref h'.objs.size, upd H h'.objs.size (.lst ((out.map SrtO.iv).map V.int)), I1.laid (t' := tk) (fun b u e => ?_) (Nat.le_refl _)
    (show ObjOk X.prog X.w _ _ _ (.lst ((out.map SrtO.iv).map V.int)) from ⟨hlen, out, e', vals_of_ints g1, he'⟩), rfl, q _ _ g2 g3 (I1.hok.fresh (Nat.le_refl _))⟩
  have hb : b < h'.objs.size := Heap.lt_size e
  rw [PyProof.Rows.sortedHeap_old (Nat.ne_of_lt hb) (by rw [Heap.size_push]; exact Nat.lt_succ_of_lt hb)]
  exact Heap.get?_push_of_some _ e
abbrev rSortedX (K : KW) : List V → Hp → VK → Prop := fun xs H Q => rSortedI K xs H Q ∨ rSortedPO K xs H Q ∨ rSortedDI xs H Q
section
variable {X : Cx} {K : KW}
theorem cr_sortedX (hc : X.calm = true) : CallR X (.builtin "sorted") (rSortedX X.kw) := callr_or cr_sortedI (callr_or cr_sortedPO (cr_sortedDI hc))
/-- a pair's value and the pair -/
def PairAt (K : KW) (F : Hp) (k : V → Int × Int) (v : V) (p : Int × Int) : Prop := Rep K F v (dPair p) ∧ k v = p
theorem pairs_insBy {F : Hp} {k : V → Int × Int} {v : V} {p : Int × Int} (h : PairAt K F k v p) : ∀ {vs : List V} {ps : List (Int × Int)}, Paired (PairAt K F k) vs ps → Paired (PairAt K F k) (L3.insBy (ltP k) v vs) (L3.insBy SrtO.lexB p ps)
  | _, _, .nil => .cons h .nil
  | u :: _, z :: _, .cons a r => by
    unfold L3.insBy
    have e : ltP k u v = SrtO.lexB z p := by show SrtO.lexB (k u) (k v) = _; rw [a.2, h.2]
    rw [e]
    split
    · exact .cons a (pairs_insBy h r)
    · exact .cons h (.cons a r)
theorem pairs_sortBy {F : Hp} {k : V → Int × Int} : ∀ {vs : List V} {ps : List (Int × Int)}, Paired (PairAt K F k) vs ps → Paired (PairAt K F k) (sortBy (ltP k) vs) (sortBy SrtO.lexB ps)
  | _, _, .nil => .nil
  | _, _, .cons a r => pairs_insBy a (pairs_sortBy r)
theorem pairs_reps {F : Hp} {k : V → Int × Int} : ∀ {vs : List V} {ps : List (Int × Int)}, Paired (PairAt K F k) vs ps → Reps K F vs (ps.map dPair)
  | _, _, .nil => .nil
  | _, _, .cons a r => .cons a.1 (pairs_reps r)
open Classical in
noncomputable def pairKey (K : KW) (F : Hp) (v : V) : Int × Int := if h : ∃ p : Int × Int, ∃ t, v = .ref t ∧ F t = some (.tup [.int p.1, .int p.2]) then Classical.choose h else (0, 0)
theorem pairKey_eq {F : Hp} {v : V} {p : Int × Int} (r : Rep K F v (dPair p)) : pairKey K F v = p ∧ ∃ t, v = .ref t ∧ F t = some (.tup [.int p.1, .int p.2]) := by
  cases r with
  | @tup t vs ds h r =>
    cases r with
    | cons a r =>
      cases r with
      | cons b r =>
        cases r
        cases a; cases b
        have hh : ∃ q : Int × Int, ∃ s, V.ref t = .ref s ∧ F s = some (.tup [.int q.1, .int q.2]) := ⟨p, t, rfl, h⟩
        refine ⟨?_, t, rfl, h⟩
        unfold pairKey
        rw [dif_pos hh]
        obtain ⟨s, e1, e2⟩ := Classical.choose_spec hh
        cases e1
        rw [h] at e2
        have z := HO.tup.inj (Option.some.inj e2)
        exact Prod.ext (V.int.inj (List.cons.inj z).1).symm (V.int.inj (List.cons.inj (List.cons.inj z).2).1).symm
theorem pairs_at {F : Hp} : ∀ {vs : List V} {ps : List (Int × Int)}, Reps K F vs (ps.map dPair) → Paired (PairAt K F (pairKey K F)) vs ps
  | _, [], .nil => .nil
  | _, p :: ps, .cons h r => .cons ⟨h, (pairKey_eq h).1⟩ (pairs_at r)
theorem Paired.mem_left {α β : Type} {R : α → β → Prop} : ∀ {l : List α} {m : List β}, Paired R l m → ∀ x ∈ l, ∃ y ∈ m, R x y
  | _, _, .nil, x, h => by simp at h
  | _, _, .cons a r, x, h => by
    rcases List.mem_cons.mp h with rfl | h
    · exact ⟨_, List.mem_cons_self, a⟩
    · obtain ⟨y, h1, h2⟩ := Paired.mem_left r x h
      exact ⟨y, List.mem_cons_of_mem _ h1, h2⟩
theorem keyInts_eq {F : Hp} : ∀ {vs : List (Key × V)} {kvs : List (Key × D)} {ns : List Int}, RepK K F vs kvs → keyInts kvs = some ns → vs.map (·.1) = ns.map Sum.inl
  | _, _, _, .nil, e => by cases e; rfl
  | _, _, _, .cons (n := .inl i) h r, e => by
    obtain ⟨is, e1, e2⟩ := bnd e
    cases e2
    simp [keyInts_eq r e1]
  | _, _, _, .cons (n := .inr i) h r, e => by cases e
theorem ok_sorted : OpN K (rSortedX K) kSorted := by
  intro F H vs as c Q s r e q
  unfold kSorted at e
  split at e
  · rename_i l
    cases r with
    | cons r rr =>
      cases rr
      cases r with
      | lst h1 h2 =>
        split at e
        · rename_i ns e1
          cases e
          rw [intsOf_eq e1] at h2
          rw [Reps.ints h2] at h1
          exact .inl ⟨_, ns, rfl, SqL.of (s _ _ h1), fun ns' p h3 h4 hp => by
            rw [isort_only h3 h4]
            exact q p _ hp (.lst (reps_ints _))⟩
        · obtain ⟨ps, e1, e⟩ := bnd e
          cases e
          rw [pairsOf_eq e1] at h2
          have pa := pairs_at h2
          refine .inr (.inl ⟨_, _, pairKey K F, rfl, SqL.of (s _ _ h1), fun x hx => ?_, fun ys p h3 h4 hp => ?_⟩)
          · obtain ⟨y, _, hy⟩ := Paired.mem_left pa x hx
            obtain ⟨_, t, e1, e2⟩ := pairKey_eq hy.1
            rw [hy.2]
            exact ⟨t, e1, s _ _ e2⟩
          · rw [sortBy_only (ltP_swo _) h3 h4]
            exact q p _ hp (.lst (pairs_reps (pairs_sortBy pa)))
  · cases r with
    | cons r rr =>
      cases rr
      cases r with
      | dk h1 h2 =>
        obtain ⟨ns, e1, e⟩ := bnd e
        cases e
        exact .inr (.inr ⟨_, _, ns, rfl, .inl (s _ _ h1), keyInts_eq h2 e1, fun ys p h3 h4 hp => by
          rw [isort_only h3 h4]
          exact q p _ hp (.lst (reps_ints _))⟩)
  · cases e
end
def sApp (i : Nat) (f : EM) : SM := fun ρ => match ρ[i]? with
  | some (some (.own _ (.lst _))) => (f ρ).bind fun p => match p.2[i]? with
    | some (some (.own t (.lst xs))) => if xs.length < 16777216 then some (.nx, p.2.set i (some (.own t (.lst (xs ++ [p.1]))))) else none
    | _ => none
  | _ => none
def isOwn (ρ : Env) (i : Nat) : Bool := match ρ[i]? with
  | some (some (.own _ _)) => true
  | _ => false
def putD (kvs : List (Key × D)) (k : Key) (v : D) : List (Key × D) :=
  if (kvs.any fun kv => decide (kv.1 = k)) = true then kvs.map (fun kv => if kv.1 = k then (kv.1, v) else kv) else kvs ++ [(k, v)]
def keyOf : D → Option Key
  | .int i => some (.inl i)
  | .str x => some (.inr x)
  | _ => none
def sPutD (i : Nat) (fv fi : EM) : SM := fun ρ => (fv ρ).bind fun p => if isOwn p.2 i then (fi p.2).bind fun q => match q.2[i]? with
  | some (some (.own t (.dk kvs))) => (keyOf q.1).bind fun k => if kvs.length < 16777216 then some (.nx, q.2.set i (some (.own t (.dk (putD kvs k p.1))))) else none
  | _ => none
  else none
theorem isOwn_at {K : KW} {g : Gx} {F H : Hp} {σ : St} {ρ : Env} (G : Gd K g F H σ ρ) {i : Nat} (h : isOwn ρ i = true) : ∃ l, σ[i]? = some (some (.ref l)) := by
  unfold isOwn at h
  split at h
  · rename_i t x hx
    obtain ⟨l, o, hv, _⟩ := G.slot i _ hx
    exact ⟨l, hv⟩
  · cases h
section
variable {K : KW} {F : Hp}
theorem RepK.append : ∀ {vs ws : List (Key × V)} {ds es : List (Key × D)}, RepK K F vs ds → RepK K F ws es → RepK K F (vs ++ ws) (ds ++ es)
  | _, _, _, _, .nil, q => q
  | _, _, _, _, .cons h r, q => .cons h (RepK.append r q)
theorem RepK.put {v : V} {d : D} (k : Key) (h : Rep K F v d) {vs : List (Key × V)} {ds : List (Key × D)} (r : RepK K F vs ds) : RepK K F (putK vs k v) (putD ds k d) := by
  unfold putK putD
  rw [r.any k]
  have mp : ∀ {vs : List (Key × V)} {ds : List (Key × D)}, RepK K F vs ds → RepK K F (vs.map fun kv => if kv.1 = k then (kv.1, v) else kv) (ds.map fun kv => if kv.1 = k then (kv.1, d) else kv) := by
    intro vs
    induction vs with
    | nil => intro ds r; cases r; exact .nil
    | cons a vs ih =>
      intro ds r
      cases r with
      | cons a r =>
        simp only [List.map_cons]
        split
        · exact .cons h (ih r)
        · exact .cons a (ih r)
  split
  · exact mp r
  · exact r.append (.cons h .nil)
theorem keyOf_kV {v : V} {d : D} {k : Key} (r : Rep K F v d) (e : keyOf d = some k) : v = kV k := by
  unfold keyOf at e
  split at e
  · cases r; cases e; rfl
  · cases r; cases e; rfl
  · cases e
end
theorem ownLst {K : KW} {F : Hp} {o : HO} {ds : List D} (h : ORep K F o (.lst ds)) : ∃ vs, o = .lst vs ∧ Reps K F vs ds := by
  cases h with | lst r => exact ⟨_, rfl, r⟩
theorem ownDk {K : KW} {F : Hp} {o : HO} {ds : List (Key × D)} (h : ORep K F o (.dk ds)) : ∃ vs, o = .dK vs ∧ RepK K F vs ds := by
  cases h with | dk r => exact ⟨_, rfl, r⟩
section
variable {X : Cx} {g : Gx} {st : Stmt} {ex : Expr} {f fv fi : EM} {i : Nat} {pos : Pos}
/-- slot[..].append(e) -/
theorem ds_app (h : PE X ex (tBM X.kw "list" rAppend (tVar i) (tCons (tE X.kw g f) tNil))) (hs : swapsWith ex none pos.line X.env = pure false := by rfl) : DS X g (.Expr ex pos) (sApp i f) :=
  weakPS (ps_expr h hs) fun D σ H ⟨F, ρ, out, ρ', G, hf, q⟩ => by
  unfold sApp at hf
  split at hf
  · rename_i t0 xs0 hx0
    obtain ⟨p, e1, hf⟩ := bnd hf
    split at hf
    · rename_i t xs hx
      split at hf
      · rename_i hl
        cases hf
        obtain ⟨l0, o0, hv, _, _, hl0, r0⟩ := G.slot i _ hx0
        obtain ⟨vs0, rfl, _⟩ := ownLst r0
        refine ⟨_, hv, .inl ⟨rfl, _, SqL.of hl0⟩, F, ρ, p.1, p.2, G, e1, fun w F' H' G' s' r => ?_⟩
        obtain ⟨l, o, hv', _, _, hl1, r1⟩ := G'.slot i _ hx
        rw [hv] at hv'
        cases hv'
        obtain ⟨vs, rfl, r4⟩ := ownLst r1
        exact ⟨l0, vs, w, rfl, rfl, hl1, by rw [r4.length, sizeLine_eq]; exact hl, q σ F' _ (G'.updOwn hx hv (.lst (r4.append (.cons r .nil)))) s'⟩
      · cases hf
    · cases hf
  · cases hf
/-- slot[k] = e, a dict -/
theorem ds_putD (h : PS X st (sDPut (tVar i) (tE X.kw g fi) (tE X.kw g fv))) : DS X g st (sPutD i fv fi) :=
  weakPS h fun D σ H ⟨F, ρ, out, ρ', G, hf, q⟩ => by
  obtain ⟨p, e1, hf⟩ := bnd hf
  split at hf
  · rename_i ho
    obtain ⟨p2, e2, hf⟩ := bnd hf
    obtain ⟨d2, ρ2⟩ := p2
    split at hf
    · rename_i t xs hx
      obtain ⟨k, e3, hf⟩ := bnd hf
      split at hf
      · rename_i hz
        cases hf
        refine ⟨F, ρ, p.1, p.2, G, e1, fun w F1 H1 G1 s1 r1 => ?_⟩
        obtain ⟨l, hv⟩ := isOwn_at G1 ho
        refine ⟨_, hv, F1, p.2, _, ρ2, G1, e2, fun kv F2 H2 G2 s2 r2 => ?_⟩
        obtain ⟨l', o, hv', _, _, hl1, r3⟩ := G2.slot i _ hx
        rw [hv] at hv'
        cases hv'
        obtain ⟨vs, rfl, r4⟩ := ownDk r3
        exact ⟨l, _, rfl, .inl ⟨vs, k, hl1, keyOf_kV r2 e3, by rw [r4.length, sizeLine_eq]; exact hz, rfl⟩, q σ F2 _ (G2.updOwn hx hv (.dk (r4.put k (r1.mono s2)))) (s1.trans s2)⟩
      · cases hf
    · cases hf
  · cases hf
end
def dspLoop : List (EM × EM) → List (Key × D) → NM
  | [], acc, ρ => some (.dk acc, ρ)
  | (fk, fv) :: r, acc, ρ => (fk ρ).bind fun p => (fv p.2).bind fun q => (keyOf p.1).bind fun k => dspLoop r (putD acc k q.1) q.2
def kGet (a b : D) : Option D := match a with
  | .dk kvs => (keyOf b).bind fun k => valD kvs k
  | _ => none
def rDGet : R2 := fun x y H Q => ∃ a v, x = .ref a ∧ DGet H a y (some v) ∧ Q v H
section
variable {X : Cx} {K : KW} {g : Gx} {ex : Expr} {f1 f2 : OM}
theorem ok_dget : Op2 K rDGet kGet := by
  intro F H v u a b c Q s ra rb e q
  unfold kGet at e
  split at e
  · obtain ⟨k, e1, e⟩ := bnd e
    cases ra with
    | dk h1 h2 =>
      obtain ⟨w, e2, r⟩ := (h2.val k).1 _ e
      refine ⟨_, w, rfl, ?_, q w F H (Ext.refl s) r⟩
      rw [keyOf_kV rb e1, ← e2]
      exact DGet.k (s _ _ h1)
  · cases e
theorem de_dget (h : PE X ex (tDGet (tO X.kw g f1) (tO X.kw g f2))) : DE X g ex (e2 kGet f1 f2) := weakPE h fun σ H Q q => op2_t (r := rDGet) ok_dget q
end
section
variable {K : KW} {g : Gx}
/-- the pairs of a display; a is the dict's place, empty meanwhile -/
theorem dsp_t {a : Addr} : ∀ {l : List (EM × EM)} {acc : List (Key × D)} {vs : List (Key × V)} {F H : Hp} {σ : St} {ρ ρ' : Env} {d : D} {R : List (V × V) → Hp → Prop}, Gd K (g.also a (.dK [])) F H σ ρ → RepK K F vs acc → dspLoop l acc ρ = some (d, ρ') →
    (∀ kvs ws F' H', Gd K (g.also a (.dK [])) F' H' σ ρ' → Same F F' → RepK K F' ws (match d with | .dk z => z | _ => []) → (∃ z, d = .dk z) → ws = mergeK vs kvs → kvs.length = l.length → R (kvs.map fun kv => (kV kv.1, kv.2)) H') →
    tPairs (l.map fun p => (tEx K p.1, tEx K p.2)) σ H R
  | [], acc, vs, F, H, σ, ρ, ρ', d, R, G, r, e, q => by
    cases e
    exact q [] vs F H G (Same.refl _) r ⟨_, rfl⟩ rfl rfl
  | (fk, fv) :: l, acc, vs, F, H, σ, ρ, ρ', d, R, G, r, e, q => by
    unfold dspLoop at e
    obtain ⟨p, e1, e⟩ := bnd e
    obtain ⟨p2, e2, e⟩ := bnd e
    obtain ⟨k, e3, e⟩ := bnd e
    refine ⟨_, F, ρ, p.1, p.2, G, e1, fun kv F1 H1 G1 s1 r1 => ⟨_, F1, p.2, p2.1, p2.2, G1, e2, fun w F2 H2 G2 s2 r2 => ?_⟩⟩
    refine dsp_t (vs := putK vs k w) (acc := putD acc k p2.1) G2 ((r.mono (s1.trans s2)).put k r2) e fun kvs ws F' H' G' s' rr dz hw hl => ?_
    rw [keyOf_kV r1 e3]
    exact q ((k, w) :: kvs) ws F' H' G' ((s1.trans s2).trans s') rr dz hw (by simp [hl])
end
end L3
namespace L3
open PySem L2
def putFD (f : Str) (v : D) : List (Str × D) → List (Str × D)
  | [] => [(f, v)]
  | (n, x) :: r => if n = f then (n, v) :: r else (n, x) :: putFD f v r
section
variable {K : KW} {F : Hp}
theorem RepF.put {f : Str} {v : V} {d : D} (h : Rep K F v d) : ∀ {vs : List (Str × V)} {ds : List (Str × D)}, RepF K F vs ds → RepF K F (putF f v vs) (putFD f d ds)
  | _, _, .nil => .cons h .nil
  | _, _, .cons (n := n) a r => by
    unfold putF putFD
    split
    · exact .cons h r
    · exact .cons a (RepF.put h r)
end
/-- slot[..].f = e, an instance of the class at C -/
def sFld' (i : Nat) (C : Addr) (f : Str) (fv : EM) : SM := fun ρ => (fv ρ).bind fun p => match p.2[i]? with
  | some (some (.own t (.ins C' gs))) => if C' = C ∧ gs.length < 1000 then some (.nx, p.2.set i (some (.own t (.ins C' (putFD f p.1 gs))))) else none
  | _ => none
def kFld (C : Addr) (f : Str) (a : D) : Option D := match a with
  | .ins C' gs => if C' = C then gs.lookup f else none
  | _ => none
theorem ownIns {K : KW} {F : Hp} {o : HO} {C : Addr} {ds : List (Str × D)} (h : ORep K F o (.ins C ds)) : ∃ dx vs, o = .ins C dx vs ∧ RepF K F vs ds := by
  cases h with | ins r => exact ⟨_, _, rfl, r⟩
section
variable {X : Cx} {g : Gx} {st : Stmt} {ex : Expr} {fv : EM} {fo : OM} {i : Nat} {C : Addr} {f : Str}
theorem ds_fld (c : Cls X.kw C) (n : NoAttr X.kw C f) (h : PS X st (sFld X.kw (tVar i) (tE X.kw g fv) f)) : DS X g st (sFld' i C f fv) :=
  weakPS h fun D σ H ⟨F, ρ, out, ρ', G, hf, q⟩ => by
  obtain ⟨p, e1, hf⟩ := bnd hf
  split at hf
  · rename_i t C' gs hx
    split at hf
    · rename_i hc
      have hcc := hc.1
      have hl := hc.2
      cases hf
      subst hcc
      refine ⟨F, ρ, p.1, p.2, G, e1, fun w F1 H1 G1 s1 r1 => ?_⟩
      obtain ⟨l, o, hv, _, _, hl1, r3⟩ := G1.slot i _ hx
      obtain ⟨dx, vs, rfl, r4⟩ := ownIns r3
      exact ⟨_, hv, l, _, dx, vs, rfl, hl1, c, n, by rw [r4.length]; exact hl, q σ F1 _ (G1.updOwn hx hv (.ins (r4.put r1))) s1⟩
    · cases hf
  · cases hf
def rFld (K : KW) (f : Str) : V → Hp → VK → Prop := fun x H1 Q => ∃ a C dx fs v, x = .ref a ∧ H1 a = some (.ins C dx fs) ∧ Cls K C ∧ NoAttr K C f ∧ fs.lookup f = some v ∧ Q v H1
theorem ok_fld {K : KW} (c : Cls K C) (n : NoAttr K C f) : Op1 K (rFld K f) (kFld C f) := by
  intro F H v a d Q s ra e q
  unfold kFld at e
  split at e
  · split at e
    · rename_i hc
      subst hc
      cases ra with
      | ins h1 h2 =>
        obtain ⟨w, e1, r⟩ := (h2.get f).1 _ e
        exact ⟨_, _, _, _, w, rfl, s _ _ h1, c, n, e1, q w F H (Ext.refl s) r⟩
    · cases e
  · cases e
theorem de_fld (c : Cls X.kw C) (n : NoAttr X.kw C f) (h : PE X ex (tFld X.kw (tO X.kw g fo) f)) : DE X g ex (e1 (kFld C f) fo) :=
  weakPE h fun σ H Q q => op1_t (r := rFld X.kw f) (ok_fld c n) q
end
def callO (fm : FM) (dds : List D) (os : List Opd) (ρ : Env) : Option (Res × Bool × Env) := if (ios os).Nodup ∧ okOs os (ios os) = true then (argsOf ρ os).bind fun as => (fm (as ++ dds.map A.v)).bind fun r =>
  (putOuts os r.2 ρ).bind fun ρ2 => if hasRef os = false ∨ r.2.all lfo = true then some (r.1, !hasRef os, ρ2) else none
  else none
theorem callM_eq (fm : FM) (dds : List D) (fa : AM) (ρ : Env) : callM fm dds fa ρ = (fa ρ).bind fun p => callO fm dds p.1 p.2 := rfl
section
variable {K : KW} {g : Gx} {fm : FM} {dds : List D} {dvs : List V} {E : XK}
/-- what a call hands back -/
theorem callO_t (hdd : ∀ F, Reps K F dvs dds) {F H : Hp} {σ : L2.St} {ρ ρ2 : Env} {os : List Opd} {vs : List V} (G : Gd K g F H σ ρ) (r : OpdsOk K F σ vs os) {rr : Res} {nr : Bool} {R : VK} (hm : callO fm dds os ρ = some (rr, nr, ρ2))
    (q : ∀ v F1 F2 H2 ad, (∀ {w : V} {d : D}, (nr = false → lf d = true) → Rep K F1 w d → Rep K F2 w d) → (∀ {w : HO} {d : D}, (nr = false → lfo d = true) → ORep K F1 w d → ORep K F2 w d) → (∀ {w : HO} {d : D}, (nr = false → lfo d = true) → TRep K F1 H2 w d → TRep K F2 H2 w d) →
      (∀ b, H b = none → F1 b = none → b ∉ ad → F2 b = none ∧ g.H0 b = none ∧ g.pin b = none ∧ ∀ i, ¬ OwnAt H2 σ ρ2 i b) → Gd K g F2 H2 σ ρ2 → Same F F2 → ResOk K H F1 H2 ad v rr → R v H2) : spF K fm (vs ++ dvs) H R E := by
  unfold callO at hm
  split at hm
  · rename_i hc
    obtain ⟨as, e1, hm⟩ := bnd hm
    obtain ⟨r2, e2, hm⟩ := bnd hm
    obtain ⟨ρ3, e3, hm⟩ := bnd hm
    split at hm
    · rename_i hl
      cases hm
      have ha := args_ok G (is := ios os) (c := hasRef os) r e1 hc.2 (fun _ h => h) (fun h => h)
      refine ⟨_, _, r2.1, r2.2, ha.append (hdd _), ?_, G.lentPH, e2, fun v F1 H2 post io ndo rs => ?_⟩
      · rw [fpL_append dds ha]; exact ios_nodup r e1 G hc.1
      · rw [fpL_append dds ha] at post
        obtain ⟨io', eo⟩ := iosOk_append dds ha io
        rw [eo] at ndo rs
        obtain ⟨G2, sF, rep, reps, trep, none⟩ := call_end G r e1 hc.1 post io' ndo e3 fun hh => by
          rcases hl with h | h
          · rw [h] at hh; cases hh
          · exact fun xs hx => List.all_eq_true.mp h xs hx
        exact q v F1 _ H2 _ (fun {w d} h1 h2 => rep (fun h => h1 (by rw [h]; rfl)) h2) (fun {w d} h1 h2 => reps (fun h => h1 (by rw [h]; rfl)) h2) (fun {w d} h1 h2 => trep (fun h => h1 (by rw [h]; rfl)) h2) none G2 sF rs
    · cases hm
  · cases hm
/-- as data -/
theorem callO_e (hdd : ∀ F, Reps K F dvs dds) {F H : Hp} {σ : L2.St} {ρ ρ' : Env} {os : List Opd} {vs : List V} (G : Gd K g F H σ ρ) (r : OpdsOk K F σ vs os) {d : D} {Q : VK} (hm : ((callO fm dds os ρ).bind fun r => finR r) = some (d, ρ'))
    (q : ∀ v F' H', Gd K g F' H' σ ρ' → Same F F' → Rep K F' v d → Q v H') : spF K fm (vs ++ dvs) H Q E := by
  obtain ⟨⟨rr, nr, ρ2⟩, e1, hf⟩ := bnd hm
  refine callO_t hdd G r e1 fun v F1 F2 H2 ad rep reps trep none G2 sF rs => ?_
  cases rr with
  | d x =>
    simp only [finR, fin] at hf
    split at hf
    · rename_i hx
      cases hf
      exact q v F2 H2 G2 sF (rep (fun h => by rw [h] at hx; simpa using hx) rs)
    · cases hf
  | n xs =>
    simp only [finR] at hf
    split at hf
    · rename_i hx
      cases hf
      obtain ⟨l, ws, rfl, h1, h2, hx2, h3, h4⟩ := rs
      obtain ⟨n1, n2, n3, n4⟩ := none l h1 h2 hx2
      have sm' : Same F2 (upd F2 l ws) := fun b u e => by rw [upd_ne (ne_of_none e n1)]; exact e
      exact q _ _ H2 (G2.freeze h3 n1 n2 n3 n4) (sF.trans sm') (((reps (fun h => by rw [h] at hx; simpa using hx) h4).mono sm').rep upd_same)
    · cases hf
  | r xs => simp only [finR] at hf; cases hf
end
def conts (ρ : Env) : Opd → Option D
  | .val d => some d
  | .ref i => match ρ[i]? with
    | some (some (.own _ x)) => some x
    | some (some (.tre _ x)) => some (ub x)
    | _ => none
  | .io i => match ρ[i]? with
    | some (some (.own _ x)) => some x
    | some (some (.tre _ x)) => some (ub x)
    | _ => none
def insOk (C : Addr) (m : Str) : Option D → Bool
  | some (.ins C' gs) => decide (C' = C) && (gs.lookup m).isNone
  | _ => false
def insOf (C : Addr) : Option D → Bool
  | some (.ins C' gs) => decide (C' = C)
  | _ => false
theorem RepF.sameN {K : KW} {F : Hp} : ∀ {fs : List (Str × V)} {gs : List (Str × D)}, RepF K F fs gs → SameN fs gs
  | _, _, .nil => rfl
  | _, _, .cons _ r => by
    show _ :: _ = _ :: _
    rw [RepF.sameN r]
theorem conts_ins {K : KW} {g : Gx} {F H : Hp} {σ : L2.St} {ρ : Env} (G : Gd K g F H σ ρ) {o : Opd} {v : V} (h : OpdOk K F σ v o) {C : Addr} {gs : List (Str × D)} (e : conts ρ o = some (.ins C gs)) : ∃ a dx fs, v = .ref a ∧ H a = some (.ins C dx fs) ∧ SameN fs gs := by
  have slot : ∀ {i : Nat}, σ[i]? = some (some v) → ((∃ t, ρ[i]? = some (some (.own t (.ins C gs)))) ∨ ∃ t x, ρ[i]? = some (some (.tre t x)) ∧ ub x = .ins C gs) → ∃ a dx fs, v = .ref a ∧ H a = some (.ins C dx fs) ∧ SameN fs gs := fun {i} h hx => by
    rcases hx with ⟨t, hx⟩ | ⟨t, x, hx, eu⟩
    · obtain ⟨l, o, hv, _, _, hl, r⟩ := G.slot i _ hx
      rw [h] at hv
      cases hv
      obtain ⟨dx, vs, rfl, r4⟩ := ownIns r
      exact ⟨l, dx, vs, rfl, hl, r4.sameN⟩
    · obtain ⟨l, o, hv, _, _, hl, r, _, _⟩ := G.slot i _ hx
      rw [h] at hv
      cases hv
      cases r with
      | ins e1 e2 =>
        cases eu
        exact ⟨l, _, _, rfl, hl, e1.trans (by rw [List.map_map]; rfl)⟩
      | lst _ => cases eu
  cases o with
  | val d =>
    cases (show some d = some (.ins C gs) from e)
    cases (show Rep K F v (.ins C gs) from h) with
    | ins h1 h2 => exact ⟨_, _, _, rfl, G.sub _ _ h1, h2.sameN⟩
  | ref i =>
    simp only [conts] at e
    split at e
    · rename_i t x hx
      cases e
      exact slot h (.inl ⟨_, hx⟩)
    · rename_i t x hx
      exact slot h (.inr ⟨_, _, hx, Option.some.inj e⟩)
    · cases e
  | io i =>
    simp only [conts] at e
    split at e
    · rename_i t x hx
      cases e
      exact slot h (.inl ⟨_, hx⟩)
    · rename_i t x hx
      exact slot h (.inr ⟨_, _, hx, Option.some.inj e⟩)
    · cases e
def eMeth (C : Addr) (m : Str) (fm : FM) (dds : List D) (fo : OM) (fa : AM) : EM := fun ρ => (fo ρ).bind fun p => if insOk C m (conts p.2 p.1) then (fa p.2).bind fun q => (callO fm dds (p.1 :: q.1) q.2).bind fun r => finR r else none
def eProp (C : Addr) (fm : FM) (dds : List D) (fo : OM) : EM := fun ρ => (fo ρ).bind fun p => if insOf C (conts p.2 p.1) then (callO fm dds [p.1] p.2).bind fun r => finR r else none
section
variable {X : Cx} {g : Gx} {ex : Expr} {fo : OM} {fa : AM} {C : Addr} {m : Str} {fm : FM} {dds : List D} {dvs : List V} {E : XK}
theorem de_meth (hdd : ∀ F, Reps X.kw F dvs dds) (h : PE X ex (tMeth C m (spF X.kw fm) dvs E (tO X.kw g fo) (tA X.kw g fa))) : DE X g ex (eMeth C m fm dds fo fa) :=
  weakPE h fun σ H Q ⟨F, ρ, d, ρ', G, hf, q⟩ => by
  obtain ⟨p, e1, hf⟩ := bnd hf
  split at hf
  · rename_i hi
    obtain ⟨p2, e2, hf⟩ := bnd hf
    refine ⟨F, ρ, p.1, p.2, G, e1, fun v F1 H1 G1 s1 r1 => ?_⟩
    unfold insOk at hi
    split at hi
    · rename_i C' gs hc
      have hi := Bool.and_eq_true_iff.mp hi
      cases (of_decide_eq_true hi.1)
      obtain ⟨a, dx, fs, rfl, ha, rf⟩ := conts_ins G1 r1 hc
      refine ⟨a, dx, fs, rfl, ha, rf.none (Option.isNone_iff_eq_none.mp hi.2), F1, p.2, p2.1, p2.2, G1, e2, fun vs F2 H2 G2 s2 r2 => ?_⟩
      exact callO_e (vs := V.ref a :: vs) hdd G2 (.cons (r1.mono s2) r2) hf fun w F3 H3 G3 s3 r3 => q w F3 H3 G3 ((s1.trans s2).trans s3) r3
    · cases hi
  · cases hf
theorem de_prop (hdd : ∀ F, Reps X.kw F dvs dds) (h : PE X ex (tProp C (spF X.kw fm) dvs E (tO X.kw g fo))) : DE X g ex (eProp C fm dds fo) :=
  weakPE h fun σ H Q ⟨F, ρ, d, ρ', G, hf, q⟩ => by
  obtain ⟨p, e1, hf⟩ := bnd hf
  split at hf
  · rename_i hi
    refine ⟨F, ρ, p.1, p.2, G, e1, fun v F1 H1 G1 s1 r1 => ?_⟩
    unfold insOf at hi
    split at hi
    · rename_i C' gs hc
      cases (of_decide_eq_true hi)
      obtain ⟨a, dx, fs, rfl, ha, rf⟩ := conts_ins G1 r1 hc
      exact ⟨a, dx, fs, rfl, ha, callO_e (vs := [V.ref a]) hdd G1 (.cons r1 .nil) hf fun w F3 H3 G3 s3 r3 => q w F3 H3 G3 (s1.trans s3) r3⟩
    · cases hi
  · cases hf
end
def nMake (C : Addr) (fm : FM) (dds : List D) (fa : AM) : NM := fun ρ => (fa ρ).bind fun p => (callO fm dds (.io p.2.length :: p.1) (p.2 ++ [some (.own none (.ins C []))])).bind fun r => match r.1 with
  | .d .non => match r.2.2[p.2.length]? with
    | some (some (.own none x)) => if r.2.1 || lfo x then some (x, r.2.2.take p.2.length) else none
    | _ => none
  | _ => none
section
variable {K : KW} {g : Gx} {F H : Hp} {σ : L2.St} {ρ : Env}
/-- one more slot, for a new instance: flat, or one that gets boxes -/
theorem Gd.moreS (G : Gd K g F H σ ρ) {C x dx : Addr} (hx : H x = none) (hd : H dx = none) (ne : dx ≠ x) {s0 : S} (hs : s0 = .own none (.ins C []) ∨ s0 = .tre none (.ins C [])) :
    Gd K g F (upd (upd H dx (.own x)) x (.ins C dx [])) (σ ++ [some (.ref x)]) (ρ ++ [some s0]) := by
  obtain ⟨G1, _⟩ := G.fresh hd (.own x)
  have hx1 : upd H dx (.own x) x = none := by rw [upd_ne (Ne.symm ne)]; exact hx
  obtain ⟨G2, f2, n2, p2, no2⟩ := G1.fresh hx1 (.ins C dx [])
  have here : ∀ {i : Nat} {s : S}, (ρ ++ [some s0])[i]? = some (some s) → (i < ρ.length ∧ ρ[i]? = some (some s) ∧ (σ ++ [some (.ref x)])[i]? = σ[i]?) ∨ (i = ρ.length ∧ s = s0 ∧ (σ ++ [some (.ref x)])[i]? = some (some (.ref x))) := fun {i s} e => by
    by_cases hi : i < ρ.length
    · rw [List.getElem?_append_left hi] at e
      exact .inl ⟨hi, e, List.getElem?_append_left (by rw [G.len]; exact hi)⟩
    · rw [List.getElem?_append_right (by omega)] at e
      have e0 : i - ρ.length = 0 := by
        have := (List.getElem?_eq_some_iff.mp e).1
        simp at this; omega
      have ei : i = ρ.length := by omega
      subst ei
      simp at e
      exact .inr ⟨rfl, e.symm, by rw [List.getElem?_append_right (by rw [G.len]; exact Nat.le_refl _), G.len]; simp⟩
  have own : ∀ {i : Nat} {l : Addr}, OwnAt (upd (upd H dx (.own x)) x (.ins C dx [])) (σ ++ [some (.ref x)]) (ρ ++ [some s0]) i l → OwnAt (upd (upd H dx (.own x)) x (.ins C dx [])) σ ρ i l ∨ (i = ρ.length ∧ l = x) := fun {i l} h0 => by
    obtain ⟨s, q⟩ := h0.slot
    rcases here q with ⟨_, h2, h3⟩ | ⟨h1, h2, h3⟩
    · exact .inl (h0.to h3.symm (h2.trans q.symm) fun _ _ _ _ _ => rfl)
    · refine .inr ⟨h1, ?_⟩
      obtain ⟨k, e1, ⟨_, ea⟩ | ⟨t, xs, o, r, ho, m⟩⟩ := h0
      · rw [h3] at e1; cases e1; exact ea
      · rw [h3] at e1; cases e1
        rw [q] at r
        rw [upd_same] at ho; cases ho
        have es := Option.some.inj (Option.some.inj r)
        rw [h2] at es
        rcases hs with hs | hs
        · rw [hs] at es; cases es
        · rw [hs] at es; cases es
          simpa [bx, bxs] using m
  refine ⟨by simp [G.len], fun i s e => ?_, fun i j l h1 h2 => ?_, G2.sub, G2.old, G2.keep, G2.grow, G2.new, fun b o e => ⟨(G2.pinned b o e).1, (G2.pinned b o e).2.1, fun i h => ?_⟩⟩
  · rcases here e with ⟨_, h2, h3⟩ | ⟨h1, h2, h3⟩
    · rw [h3]; exact G2.slot i s h2
    · rw [h3, h2]
      rcases hs with hs | hs
      · rw [hs]; exact ⟨x, _, rfl, n2, f2, upd_same, .ins .nil⟩
      · rw [hs]; exact ⟨x, _, rfl, n2, f2, upd_same, .ins rfl .nil, by simp [bx, bxs], fun a m => by simp [bx, bxs] at m⟩
  · rcases own h1 with a | ⟨a1, a2⟩
    · rcases own h2 with b | ⟨b1, b2⟩
      · exact G2.dist i j l a b
      · subst b2; exact absurd a (no2 i)
    · rcases own h2 with b | ⟨b1, b2⟩
      · subst a2; exact absurd b (no2 j)
      · rw [a1, b1]
  · rcases own h with a | ⟨a1, a2⟩
    · exact (G2.pinned b o e).2.2 i a
    · subst a2; rw [p2] at e; cases e
theorem Gd.more (G : Gd K g F H σ ρ) {C x dx : Addr} (hx : H x = none) (hd : H dx = none) (ne : dx ≠ x) :
    Gd K g F (upd (upd H dx (.own x)) x (.ins C dx [])) (σ ++ [some (.ref x)]) (ρ ++ [some (.own none (.ins C []))]) := G.moreS hx hd ne (.inl rfl)
/-- the last slot is given up -/
theorem Gd.fewer {n : Nat} (G : Gd K g F H σ ρ) {τ : L2.St} (hl : τ.length = n) (h : ∀ i, i < n → σ[i]? = τ[i]?) (hn : n ≤ ρ.length) : Gd K g F H τ (ρ.take n) := G.less (by simp [hl]; omega) fun j s e => by
  have hj : j < n := by
    have := (List.getElem?_eq_some_iff.mp e).1
    simp at this; omega
  rw [List.getElem?_take_of_lt hj] at e
  exact ⟨e, (h j hj).symm⟩
end
theorem OpdsOk.more {K : KW} {F : Hp} {σ : L2.St} {x : Option V} : ∀ {vs : List V} {os : List Opd}, OpdsOk K F σ vs os → OpdsOk K F (σ ++ [x]) vs os
  | _, _, .nil => .nil
  | _, _, .cons (v := v) (o := .val d) h r => .cons h (OpdsOk.more r)
  | _, _, .cons (v := v) (o := .ref i) h r => by
    have h' : σ[i]? = some (some v) := h
    exact .cons (show (σ ++ [x])[i]? = some (some v) by rw [List.getElem?_append_left (List.getElem?_eq_some_iff.mp h').1]; exact h') (OpdsOk.more r)
  | _, _, .cons (v := v) (o := .io i) h r => by
    have h' : σ[i]? = some (some v) := h
    exact .cons (show (σ ++ [x])[i]? = some (some v) by rw [List.getElem?_append_left (List.getElem?_eq_some_iff.mp h').1]; exact h') (OpdsOk.more r)
theorem putOuts_len : ∀ {os : List Opd} {outs : List D} {ρ ρ2 : Env}, putOuts os outs ρ = some ρ2 → ρ2.length = ρ.length
  | [], [], _, _, e => by cases e; rfl
  | [], _ :: _, _, _, e => by cases e
  | .val _ :: r, outs, ρ, ρ2, e => putOuts_len (os := r) (outs := outs) (by cases outs <;> exact e)
  | .ref _ :: r, outs, ρ, ρ2, e => putOuts_len (os := r) (outs := outs) (by cases outs <;> exact e)
  | .io _ :: _, [], _, _, e => by cases e
  | .io i :: r, x :: outs, ρ, ρ2, e => by
    unfold putOuts at e
    split at e
    · have := putOuts_len (os := r) e
      simpa using this
    · have := putOuts_len (os := r) e
      simpa using this
    · cases e
section
variable {X : Cx} {g : Gx} {ex : Expr} {fa : AM} {C : Addr} {fm : FM} {dds : List D} {dvs : List V} {E : XK}
/-- what a new instance is, once __init__ is done -/
def makK (n : Nat) : Res × Bool × Env → Option (D × Env) := fun r => match r.1 with
  | .d .non => match r.2.2[n]? with
    | some (some (.own none x)) => if r.2.1 || lfo x then some (x, r.2.2.take n) else none
    | _ => none
  | _ => none
theorem callO_len {os : List Opd} {ρ ρ2 : Env} {rr : Res} {nr : Bool} (e2 : callO fm dds os ρ = some (rr, nr, ρ2)) : ρ2.length = ρ.length := by
  unfold callO at e2
  split at e2
  · obtain ⟨as, _, e2⟩ := bnd e2
    obtain ⟨r3, _, e2⟩ := bnd e2
    obtain ⟨ρ3, e3, e2⟩ := bnd e2
    split at e2
    · simp only [Option.some.injEq, Prod.mk.injEq] at e2
      obtain ⟨_, _, e4⟩ := e2
      rw [← e4, putOuts_len e3]
    · cases e2
  · cases e2
theorem make_h {K : KW} {F1 H1 : Hp} {σ : L2.St} {ρ ρ' : Env} {os : List Opd} {vs : List V} {d : D} {Q : VK} (hdd : ∀ F, Reps K F dvs dds) (G1 : Gd K g F1 H1 σ ρ) (r1 : OpdsOk K F1 σ vs os)
    (hf : ((callO fm dds (.io ρ.length :: os) (ρ ++ [some (.own none (.ins C []))])).bind (makK ρ.length)) = some (d, ρ'))
    (q : ∀ l o F' H', Gd K g F' H' σ ρ' → Same F1 F' → H' l = some o → F' l = none → g.H0 l = none → g.pin l = none → (∀ i, ¬ OwnAt H' σ ρ' i l) → ORep K F' o d → Q (.ref l) H') {x dx : Addr} (hx : H1 x = none) (hd : H1 dx = none) (ne : dx ≠ x) :
    spF K fm (.ref x :: (vs ++ dvs)) (upd (upd H1 dx (.own x)) x (.ins C dx [])) (fun v H2 => v = .non ∧ Q (.ref x) H2) E := by
  obtain ⟨⟨rr, nr, ρ2⟩, e2, hf⟩ := bnd hf
  have Gm := G1.more (C := C) hx hd ne
  have hs : σ.length = ρ.length := G1.len
  have r2 : OpdsOk K F1 (σ ++ [some (.ref x)]) (V.ref x :: vs) (.io ρ.length :: os) := .cons (show (σ ++ [some (.ref x)])[ρ.length]? = some (some (.ref x)) by rw [← hs]; simp) r1.more
  unfold makK at hf
  dsimp only at hf
  cases rr with
  | n y => cases hf
  | r y => cases hf
  | d y =>
    cases y with
    | non =>
      dsimp only at hf
      split at hf
      · rename_i z hz
        split at hf
        · rename_i hg
          cases hf
          have len2 : ρ2.length = ρ.length + 1 := by rw [callO_len e2]; simp
          refine callO_t (vs := V.ref x :: vs) hdd Gm r2 e2 fun v F2 F3 H3 ad rep reps trep none G3 sF rs => ?_
          have rs' : Rep K F2 v .non := rs
          cases rs'
          refine ⟨rfl, ?_⟩
          obtain ⟨l, o, hv, tg, fl, hl, ro⟩ := G3.slot ρ.length _ hz
          have hv' : (σ ++ [some (.ref x)])[ρ.length]? = some (some (.ref x)) := by rw [← hs]; simp
          rw [hv'] at hv
          cases hv
          have ox : OwnAt H3 (σ ++ [some (.ref x)]) ρ2 ρ.length x := .of hv' hz
          have G4 : Gd K g F3 H3 σ (ρ2.take ρ.length) := G3.fewer hs (fun i hi => List.getElem?_append_left (by rw [hs]; exact hi)) (by omega)
          refine q x o F3 H3 G4 sF hl fl tg ?_ (fun i hi => ?_) ro
          · cases e : g.pin x with
            | none => rfl
            | some u => exact absurd ox ((G3.pinned x u e).2.2 _)
          · obtain ⟨s, hs2⟩ := hi.slot
            have hlt : i < ρ.length := by
              have := (List.getElem?_eq_some_iff.mp hs2).1
              simp at this; omega
            have := G3.dist i ρ.length x (hi.to (List.getElem?_append_left (by rw [hs]; exact hlt)) (List.getElem?_take_of_lt hlt).symm fun _ _ _ _ _ => rfl) ox
            omega
        · cases hf
      · cases hf
    | _ => cases hf
theorem make_t (hdd : ∀ F, Reps X.kw F dvs dds) {σ : L2.St} {H : Hp} {Q : VK} (q : tN X.kw g (nMake C fm dds fa) σ H Q) : tMake C (spF X.kw fm) dvs E (tA X.kw g fa) σ H Q := by
  obtain ⟨F, ρ, d, ρ', G, hf, q⟩ := q
  obtain ⟨p, e1, hf⟩ := bnd hf
  exact ⟨F, ρ, p.1, p.2, G, e1, fun vs F1 H1 G1 s1 r1 x dx hx hd ne => make_h hdd G1 r1 hf (fun l o F' H' G' s' => q l o F' H' G' (s1.trans s')) hx hd ne⟩
theorem dn_make (hdd : ∀ F, Reps X.kw F dvs dds) (h : PE X ex (tMake C (spF X.kw fm) dvs E (tA X.kw g fa))) : DN X g ex (nMake C fm dds fa) := weakPE h fun σ H Q q => make_t hdd q
end
end L3
namespace L3
open PySem L2
section
variable {X : Cx} {g : Gx} {ex : Expr} {f1 f2 f3 : OM} {r r' : R2} {k k' : D → D → Option D}
theorem chain_t (hk : Op2 X.kw r k) (hk' : Op2 X.kw r' k') {σ : L2.St} {H : Hp} {Q : VK} (q : tE X.kw g (eChain k k' f1 f2 f3) σ H Q) : tChain r r' (tO X.kw g f1) (tO X.kw g f2) (tO X.kw g f3) σ H Q := by
  obtain ⟨F, ρ, d, ρ', G, hf, q⟩ := q
  obtain ⟨p1, e1, hf⟩ := bnd hf
  obtain ⟨p2, e2, hf⟩ := bnd hf
  obtain ⟨a, e3, hf⟩ := bnd hf
  obtain ⟨b, e4, hf⟩ := bnd hf
  obtain ⟨c, e5, hf⟩ := bnd hf
  refine ⟨F, ρ, p1.1, p1.2, G, e1, fun v F1 H1 G1 s1 r1 => ⟨F1, p1.2, p2.1, p2.2, G1, e2, fun u F2 H2 G2 s2 r2 => ?_⟩⟩
  have r1' := r1.mono s2
  split at hf
  · obtain ⟨p3, e6, hf⟩ := bnd hf
    obtain ⟨d3, e7, hf⟩ := bnd hf
    split at hf
    · rename_i hv
      obtain ⟨x, e8, hf⟩ := bnd hf
      cases hf
      have hv1 := Bool.and_eq_true_iff.mp hv
      have hv2 := Bool.and_eq_true_iff.mp hv1.1
      refine G2.op2 (ρ' := p2.2) (d := .bl true) hk r1' r2 e3 e4 e5 (by unfold fin; rw [if_pos (by rw [hv2.1, hv2.2]; rfl)]) fun w F3 H3 G3 s3 r3 => ?_
      cases r3
      refine ⟨true, rfl, iteT ⟨F3, p2.2, p3.1, p3.2, G3, e6, fun z F4 H4 G4 s4 r4 => ?_⟩⟩
      have rb : Rep X.kw F4 u b := Rep.mono (s3.trans s4) (valOpd r2 e4 hv2.2)
      have rd : Rep X.kw F4 z d3 := valOpd r4 e7 hv1.2
      exact hk' F4 H4 u z b d3 _ Q G4.sub rb rd e8 fun w F5 H5 x r5 => q w F5 H5 (G4.ext x) ((((s1.trans s2).trans s3).trans s4).trans x.ff) r5
    · cases hf
  · split at hf
    · rename_i hv
      cases hf
      have hv2 := Bool.and_eq_true_iff.mp hv
      refine G2.op2 (ρ' := p2.2) (d := .bl false) hk r1' r2 e3 e4 e5 (by unfold fin; rw [if_pos (by rw [hv2.1, hv2.2]; rfl)]) fun w F3 H3 G3 s3 r3 => ?_
      have r3' := r3
      cases r3
      exact ⟨false, rfl, iteF (q _ F3 H3 G3 ((s1.trans s2).trans s3) r3')⟩
    · cases hf
  · cases hf
theorem de_chain (hk : Op2 X.kw r k) (hk' : Op2 X.kw r' k') (h : PE X ex (tChain r r' (tO X.kw g f1) (tO X.kw g f2) (tO X.kw g f3))) : DE X g ex (eChain k k' f1 f2 f3) := weakPE h fun σ H Q q => chain_t hk hk' q
theorem dt_chain (hk : Op2 X.kw r k) (hk' : Op2 X.kw r' k') (h : PT X ex (tTest (tChain r r' (tO X.kw g f1) (tO X.kw g f2) (tO X.kw g f3)))) : DT X g ex (tV (eChain k k' f1 f2 f3)) :=
  weakPT h fun σ H Q q => tV_t (te := tChain r r' (tO X.kw g f1) (tO X.kw g f2) (tO X.kw g f3)) (fun _ _ _ z => chain_t hk hk' z) q
end
section
variable {X : Cx} {g : Gx} {ex : Expr} {fo : EM} {fa : AM} {C : Addr} {fm : FM} {dds : List D} {dvs : List V} {E : XK}
theorem de_bty {n : String} (h : PE X ex (tC (.ty n))) : DE X g ex (eC (.bty n)) := de_c h fun _ => .bty
end
def rSortedT (K : KW) : List V → Hp → VK → Prop := fun vs H Q => ∃ (a : Addr) (xs : List V), vs = [V.ref a] ∧ SqT K H a xs ∧
  ((∃ ns : List Int, xs = ns.map V.int ∧ ∀ (ys : List Int) (p : Addr), ys.Perm ns → ys.Pairwise (· ≤ ·) → H p = none → Q (.ref p) (upd H p (.lst (ys.map V.int)))) ∨
   ∃ k : V → Int × Int, (∀ x ∈ xs, ∃ t, x = V.ref t ∧ H t = some (.tup [.int (k x).1, .int (k x).2])) ∧ ∀ (ys : List V) (p : Addr), SrtO.Srtd (ltP k) ys → SrtO.Stb (ltP k) ys xs → H p = none → Q (.ref p) (upd H p (.lst ys)))
theorem sorted_tup {prog : Program} {w : World} {A : Around} {E : Value → Shared → Prop} {s : Shared} {l : Addr} {vs : List Value} {ltv : Value → Value → Bool} {Q : Value → Shared → Prop} (O : SrtO.Swo ltv) (hl : PyProof.Rows.IsTup s.heap l vs.toArray) (hz : vs.length ≤ sizeLine)
    (hS : 2 ≤ vs.length → ∀ (h₁ : Heap) (a : Addr), h₁.get? a = some (PyProof.Rows.seqObj "list" vs.toArray 0) → (∀ b o, s.heap.get? b = some o → b ≠ a ∧ h₁.get? b = some o) → SrtO.SortableO prog w A.in1.in1 { s with heap := h₁ } a vs ltv)
    (h : ∀ (out : List Value) (h1 h' : Heap) (d : Addr), SrtO.Srtd ltv out → SrtO.Stb ltv out vs → (∀ b o, s.heap.get? b = some o → h1.get? b = some o) → (∀ b o, h1.get? b = some o → h'.get? b = some o) → h1.objs.size ≤ d → (∃ n, h'.get? d = some (PyProof.Rows.seqObj "list" out.toArray n)) → Q (.ref d) { s with heap := h' }) :
    wpAny (model prog w) A (call (.builtin "sorted") [.ref l]) Q E s := by
  obtain ⟨o, ho, hc, n, hd⟩ := hl
  refine Calls.call_function_entry PyProof.Rows.kind_sorted PyProof.Rows.plain_sorted PyProof.Rows.entry_sorted (PyProof.Rows.args_sorted1 _) ?_
  unfold Builtin.«sorted»
  refine wpAny_bind (m := checkCount "sorted" 1 1 _) (wpAny_pure ?_)
  refine wpAny_bind (wpAny_collect_seq l (.inr rfl) ho hc hd (fun h1 hk => ?_) (by simpa using hz))
  have hz' : vs.toArray.toList.length ≤ sizeLine := by simpa using hz
  refine wpAny_bind (wpAny_newList ?_ hz')
  have hoL : (h1.push (PyProof.Rows.seqObj "list" vs.toArray 0)).get? h1.objs.size = some (PyProof.Rows.seqObj "list" vs.toArray 0) := Heap.get?_push_size _ rfl
  have kk : ∀ b o, s.heap.get? b = some o → b ≠ h1.objs.size ∧ (h1.push (PyProof.Rows.seqObj "list" vs.toArray 0)).get? b = some o := fun b o e => by
    have e1 := hk b o e
    exact ⟨Nat.ne_of_lt (Heap.lt_size e1), Heap.get?_push_of_some _ e1⟩
  show wpAny _ _ _ _ _ ({ s with heap := h1.push (PyProof.Rows.seqObj "list" vs.toArray 0) } : Shared)
  refine wpAny_bind (wpAny_holding (wpAny_call_entry PyProof.Rows.slot_list_sort ⟨_, hoL, rfl⟩ PyProof.Rows.entry_list_sort
    (SrtO.list_sort_ord O (s := { s with heap := h1.push (PyProof.Rows.seqObj "list" vs.toArray 0) }) hoL hz (fun h2 => hS h2 _ _ hoL kk) fun out a1 a2 => ⟨_, rfl, ?_⟩)
    (PyProof.Rows.args_list_sort _)))
  refine wpAny_pure ⟨_, rfl, h out h1 _ _ a1 a2 hk (fun b o e => ?_) (Nat.le_refl _) (PyProof.Rows.sortedHeap_at (vs := vs) (out := out.toArray) hoL)⟩
  have hb : b < h1.objs.size := Heap.lt_size e
  rw [PyProof.Rows.sortedHeap_old (Nat.ne_of_lt hb) (by rw [Heap.size_push]; exact Nat.lt_succ_of_lt hb)]
  exact Heap.get?_push_of_some _ e
theorem cr_sortedT {X : Cx} : CallR X (.builtin "sorted") (rSortedT X.kw) := by
  intro pins s σ H vs us Q I r ⟨a, xs, ev, hs, q⟩
  subst ev
  obtain ⟨u, eu, ru⟩ := vals1 r
  subst eu
  cases ru
  obtain ⟨its, rv, hl, hz⟩ := I.tuple hs
  have hz' : its.length ≤ sizeLine := by rw [← rv.length]; exact hz
  rcases q with ⟨ns, ex, q⟩ | ⟨k, hx, q⟩
  · subst ex
    have hi := rv.ints
    refine sorted_tup SrtO.swo_int hl hz' (fun h2 h₁ a' _ _ => SrtO.ints_sortable hi h2) fun out h1 h' d b1 b2 k1 k2 hd ⟨n, hn⟩ => ?_
    obtain ⟨c1, c2, c3⟩ := SrtO.ints_out hi b1 b2
    have I1 : Inv X pins σ H { s with heap := h1 } := I.kept (t' := s.toks) k1
    refine ⟨.ref d, upd H d (.lst ((out.map SrtO.iv).map V.int)), I1.laid (t' := s.toks) k2 hd ⟨?_, out, n, vals_of_ints c1, hn⟩, rfl, q _ d c2 c3 (I1.hok.fresh hd)⟩
    rw [List.length_map, c2.length_eq, ← hi.length]; exact hz'
  · obtain ⟨e1, e2⟩ := refs_back rv fun x m => by
      obtain ⟨t, e, _⟩ := hx x m
      exact ⟨t, e⟩
    have hp : ∀ v ∈ its, Srt.IsPair s.heap v (k (backV v)).1 (k (backV v)).2 := fun v hv => by
      obtain ⟨t, rfl⟩ := e2 v hv
      have hm : V.ref t ∈ xs := by rw [e1]; exact List.mem_map.mpr ⟨_, hv, rfl⟩
      obtain ⟨t', e, ht⟩ := hx _ hm
      cases e
      obtain ⟨-, its2, rt, ot, hot, hct, nt, hdt⟩ := I.hok _ _ ht
      obtain ⟨u1, u2, rfl, ⟨t1, rfl⟩, ⟨t2, rfl⟩⟩ := vals2 rt
      exact ⟨t, ot, t1, t2, nt, rfl, hot, hct, hdt⟩
    refine sorted_tup (SrtO.swo_lex fun v => k (backV v)) hl hz' (fun h2 h₁ a' ha kk => SrtO.pairs_sortableO (s := { s with heap := h₁ }) (by omega) (fun v hm => (hp v hm).keeps fun b o e _ => (kk b o e).2) fun o e => ?_) fun out h1 h' d b1 b2 k1 k2 hd ⟨n, hn⟩ => ?_
    · have e' : some o = some (PyProof.Rows.seqObj "list" its.toArray 0) := e.symm.trans ha
      cases e'
      intro c
      exact absurd (Value.type.inj c) (by decide)
    · have h3 : ∀ u ∈ out, ∃ a, u = Value.ref a := fun u hu => e2 u (b2.perm.mem_iff.mp hu)
      have hb : SrtO.Stb (ltP k) (out.map backV) xs := by
        rw [e1]
        exact SrtO.Stb.map (ltP_swo k) backV b2
      have I1 : Inv X pins σ H { s with heap := h1 } := I.kept (t' := s.toks) k1
      refine ⟨.ref d, upd H d (.lst (out.map backV)), I1.laid (t' := s.toks) k2 hd ⟨?_, out, n, vals_back h3, hn⟩, rfl, q _ d (SrtO.srtd_map b1) hb (I1.hok.fresh hd)⟩
      rw [hb.len]
      exact hz
def kSortedA : List D → Option D
  | [.tup l] => match intsOf l with
    | some ns => some (.lst ((isort ns).map D.int))
    | none => (pairsOf l).bind fun ps => some (.lst ((psort ps).map dPair))
  | [.ktp l] => match intsOf l with
    | some ns => some (.lst ((isort ns).map D.int))
    | none => none
  | as => kSorted as
abbrev rSortedA (K : KW) : List V → Hp → VK → Prop := fun xs H Q => rSortedT K xs H Q ∨ rSortedX K xs H Q
theorem cr_sortedA {X : Cx} (hc : X.calm = true) : CallR X (.builtin "sorted") (rSortedA X.kw) := callr_or cr_sortedT (cr_sortedX hc)
theorem ok_sortedA {K : KW} : OpN K (rSortedA K) kSortedA := by
  intro F H vs as c Q s r e q
  have goI : ∀ {p : Addr} {ws : List V} {l : List D} {ns : List Int}, vs = [.ref p] → SqT K H p ws → Reps K F ws l → intsOf l = some ns → c = .lst ((isort ns).map D.int) → rSortedA K vs H Q := fun {p ws l ns} ev hs r e1 ec => by
    subst ec
    rw [intsOf_eq e1] at r
    rw [Reps.ints r] at hs
    exact .inl ⟨p, _, ev, hs, .inl ⟨ns, rfl, fun ys d h3 h4 hp => by
      rw [isort_only h3 h4]
      exact q d _ hp (.lst (reps_ints _))⟩⟩
  unfold kSortedA at e
  split at e
  · cases r with
    | cons r rr =>
      cases rr
      cases r with
      | tup h1 h2 =>
        split at e
        · rename_i ns e1
          exact goI rfl (SqT.of (s _ _ h1)) h2 e1 (Option.some.inj e).symm
        · obtain ⟨ps, e1, e⟩ := bnd e
          cases e
          rw [pairsOf_eq e1] at h2
          have pa := pairs_at h2
          refine .inl ⟨_, _, rfl, SqT.of (s _ _ h1), .inr ⟨pairKey K F, fun x hx => ?_, fun ys p h3 h4 hp => ?_⟩⟩
          · obtain ⟨y, _, hy⟩ := Paired.mem_left pa x hx
            obtain ⟨_, t, e1, e2⟩ := pairKey_eq hy.1
            rw [hy.2]
            exact ⟨t, e1, s _ _ e2⟩
          · rw [sortBy_only (ltP_swo _) h3 h4]
            exact q p _ hp (.lst (pairs_reps (pairs_sortBy pa)))
  · cases r with
    | cons r rr =>
      cases rr
      cases r with
      | ktp h1 h2 =>
        split at e
        · rename_i ns e1
          exact goI rfl (Same.sqt s h1) h2 e1 (Option.some.inj e).symm
        · cases e
  · exact .inr (ok_sorted F H vs _ c Q s r e q)
/-- a, b = x, y, the names plain locals -/
def sPar (i j : Nat) (fa : AM) : SM := fun ρ => (fa ρ).bind fun p => (valsOf p.1).bind fun ds => match ds with
  | [x, y] => some (.nx, (p.2.set i (some (.d x))).set j (some (.d y)))
  | _ => none
section
variable {X : Cx} {g : Gx} {st : Stmt} {i j : Nat} {fa : AM}
theorem ds_par (h : PS X st (tPar i j (tA X.kw g fa))) : DS X g st (sPar i j fa) := weakPS h fun D σ H ⟨F, ρ, out, ρ', G, hf, q⟩ => by
  obtain ⟨p, e1, hf⟩ := bnd hf
  obtain ⟨ds, e2, hf⟩ := bnd hf
  split at hf
  · rename_i x y
    cases hf
    refine ⟨F, ρ, p.1, p.2, G, e1, fun vs F1 H1 G1 s1 r1 => ?_⟩
    have rr := valsOk r1 e2
    cases rr with
    | cons a rr =>
      cases rr with
      | cons b rr =>
        cases rr
        exact ⟨_, _, rfl, q _ F1 H1 ((G1.setD i a).setD j b) s1⟩
  · cases hf
end
theorem law_end {K : KW} {fm : FM} {H : Hp} {a : Addr} {ns : List Int} (hS : SqL K H a (ns.map V.int)) (h : fm [.v (.scr ns)] = some (.d (.bl true), [])) : spF K fm [.ref a] H (fun v _ => v = .bl true) fun _ _ _ => False :=
  ⟨H, [.v (.scr ns)], _, _, .v (.scr hS) .nil, by rw [fpL_v]; exact .nil, Same.refl _, h, fun v F' H' _ _ _ r => by
    cases (show Rep K F' v (.bl true) from r)
    rfl⟩
end L3
namespace L3
open PySem PySem.Spec PyProof.Rows L2
theorem nilA {K : KW} {g : Gx} {σ : L2.St} {H : Hp} {Q : List V → Hp → Prop} (h : tA K g aN σ H Q) : tNil σ H Q := by
  obtain ⟨F, ρ, os, ρ', G, hf, q⟩ := h
  cases hf
  exact q [] F H G (Same.refl _) .nil
theorem monoO {K : KW} {g : Gx} {f : OM} {σ : L2.St} {H : Hp} {Q Q' : VK} (i : ∀ v H', Q v H' → Q' v H') (h : tO K g f σ H Q) : tO K g f σ H Q' := by
  obtain ⟨F, ρ, d, ρ', G, hf, q⟩ := h
  exact ⟨F, ρ, d, ρ', G, hf, fun v F' H' G' s r => i v H' (q v F' H' G' s r)⟩
section
variable {X : Cx} {g : Gx} {ex : Expr} {C : Addr} {sp : Sp} {E : XK} {dvs : List V} {m : Str}
theorem pe_me0 {fo : OM} (h : PE X ex (tMeth C m sp dvs E (tO X.kw g fo) tNil)) : PE X ex (tMeth C m sp dvs E (tO X.kw g fo) (tA X.kw g aN)) :=
  weakPE h fun σ H Q q => monoO (fun _ _ ⟨a, dx, fs, h1, h2, h3, t⟩ => ⟨a, dx, fs, h1, h2, h3, nilA t⟩) q
end
section
variable {P : Program} {w : World} {K : PySem.W.Frag} {mg : Str → Option Value} {base : Heap}
/-- a def as it stands -/
abbrev Fd (K : PySem.W.Frag) (x qual : Str) (st : Stmt) (dvs : List V) (f : Addr) (fd : FuncData) : Prop := FunD K x qual (defArgs st) (defBody st) (defScope st) dvs [] f fd
theorem okD {x qual : Str} {st : Stmt} {dvs : List V} {kws : List (Str × V)} {f : Addr} {fd : FuncData} {N ps : List Str} {k : Nat} {B : SM} (W : FunD K x qual (defArgs st) (defBody st) (defScope st) dvs kws f fd) (Sc : FnScope N ps (defScope st)) (hps : ps.length ≤ N.length)
    (hb : ∀ (cdv : Value) (A : Around) (outer : List PySem.Env) (s : Shared) (H : Hp) (E : XK) (g : Gx), Room k (A.deeper (PyProof.Rows.envOfC qual (defScope st) s.heap.objs.size f cdv)) → DSs (cxOf CX0 P w K mg base N qual (defScope st) f cdv A outer s H E).nox g (defBody st) B) :
    FnOk P w K mg base CX0 (k + 1) f fd ps (spF ⟨K, w⟩ (mkF ps.length N.length B)) := by
  refine FunD.ok W Sc (fun vs H Q E ⟨F0, as, r, os, h, nd, s, hf, q⟩ => ?_) (fun cdv A outer s H vs Q E hr ⟨F0, as, r, os, h, nd, sm, hf, q⟩ => ⟨_, PSs.nox (hb cdv A outer s H E ⟨H, F0, fpL H vs as, fun _ => none⟩ hr), ?_⟩)
  · unfold mkF at hf
    split at hf
    · rename_i hl
      rw [h.length]; exact hl
    · cases hf
  · unfold mkF at hf
    split at hf
    · rename_i hl
      obtain ⟨p, e1, hf⟩ := bnd hf
      obtain ⟨r', e2, hf⟩ := bnd hf
      obtain ⟨os', e3, hf⟩ := bnd hf
      cases hf
      obtain ⟨o, ρ'⟩ := p
      have G := entry_gd N h nd sm (by rw [hl]; exact hps)
      rw [hl] at G
      refine ⟨F0, _, o, ρ', G, e1, fun σ' F' H' G' s' => ?_⟩
      have post : Post ⟨K, w⟩ F0 H F' H' (adL (fpL H vs as)) := ⟨s', G'.sub, G'.keep, G'.new, G'.grow⟩
      obtain ⟨ios, ndo, par⟩ := collect_ok G' rfl (pre := []) h rfl rfl e3
      cases o with
      | nx => cases e2; exact q _ F' H' post ios ndo .non
      | rt d => cases e2; exact fun v r => q v F' H' post ios ndo r
      | rn xs =>
        cases e2
        exact fun l ws h1 h2 h3 h4 h5 => q _ F' H' post ios ndo ⟨l, ws, rfl, h3, h2, fun m => by
          obtain ⟨j, _, q2, q3⟩ := par l m
          exact h4 j q2 q3, h1, h5⟩
      | rr xs =>
        cases e2
        exact fun l ws h1 h2 h3 h4 => q _ F' H' post ios ndo ⟨l, ws, rfl, h1, h2, h3, fun a m => ⟨(h4 a m).2.1, (h4 a m).1, fun m2 => by
          obtain ⟨j, _, q2, q3⟩ := par a m2
          exact (h4 a m).2.2 j q2 q3⟩⟩
      | br => cases e2
      | ct => cases e2
    · cases hf
end
/-- what a proved def hands to its callers: it may be called by all its parameters; by fewer, the defaults dvs filling up -/
structure Done (P : Program) (w : World) (K : PySem.W.Frag) (mg : Str → Option Value) (base : Heap) (k : Nat) (f : Addr) (ps : List Str) (fm : FM) (dvs : List V) (fd : FuncData) : Prop where
  ok : FnOk P w K mg base CX0 k f fd ps (spF ⟨K, w⟩ fm)
  kp : PySem.W.keepIn K (.ref f) = true
  bd : Binds K fd ps []
  dd : ∃ ds, Vals dvs ds ∧ Binds K fd ps ds
theorem recAd_ok {K : PySem.W.Frag} {p : Addr} {T : String} (h : (match PySem.W.recIn K p T with | some (.ref _ :: _) => true | _ => false) = true) : ∃ rest, PySem.W.recIn K p T = some (.ref (recAd K p T) :: rest) := by
  unfold recAd
  cases e : PySem.W.recIn K p T with
  | none => rw [e] at h; cases h
  | some l =>
    rw [e] at h
    cases l with
    | nil => cases h
    | cons v r => cases v <;> first | exact ⟨r, rfl⟩ | cases h
section
variable {K : PySem.W.Frag}
theorem prp_ok {C m : Str} (h : (Fx.prp C m).ok K = true) : PropOf K (He.ga K C) m (cmP K C m) (recAd K (cmP K C m) "property") := by
  obtain ⟨h1, h2⟩ := He.ba h
  obtain ⟨h3, h4⟩ := He.ba h2
  obtain ⟨h5, h6⟩ := He.ba h4
  exact ⟨of_decide_eq_true h1, of_decide_eq_true h3, of_decide_eq_true h5, recAd_ok h6⟩
end
section
variable {fa : List He.Fa} {fx : List Fx} {fn : List Df} {tb : List Tb} {w : World} {K : PySem.W.Frag}
theorem SaysE.one (c : SaysE fa fx fn tb w K) : ((fa.all fun f => f.ok K) && fx.all fun f => f.ok K) = true ∧ (fn.all fun d => d.ok K) = true := He.ba (congrArg (fun z : AlE => z.1.1) c)
theorem SaysE.atA (c : SaysE fa fx fn tb w K) (i : Nat) {f : He.Fa} (h : fa[i]? = some f := by rfl) : f.ok K = true := List.all_eq_true.mp (He.ba c.one.1).1 f (List.mem_of_getElem? h)
theorem SaysE.atX (c : SaysE fa fx fn tb w K) (i : Nat) {f : Fx} (h : fx[i]? = some f := by rfl) : f.ok K = true := List.all_eq_true.mp (He.ba c.one.1).2 f (List.mem_of_getElem? h)
theorem SaysE.atF (c : SaysE fa fx fn tb w K) (i : Nat) {d : Df} (h : fn[i]? = some d := by rfl) : ∃ fd, FunD K d.name d.qual (defArgs d.st) (defBody d.st) (defScope d.st) (d.dvs K) (d.kws K) (d.wh.ad K) fd := by
  have e : fn.map (fun d => fnAt K (d.wh.ad K)) = fn.map Df.val := congrArg (fun z : AlE => z.1.2) c
  have e2 : (fn.map fun d => fnAt K (d.wh.ad K))[i]? = (fn.map Df.val)[i]? := by rw [e]
  rw [List.getElem?_map, List.getElem?_map, h] at e2
  exact Df.fd (Option.some.inj e2) (List.all_eq_true.mp c.one.2 d (List.mem_of_getElem? h))
theorem SaysE.tab (c : SaysE fa fx fn tb w K) (i : Nat) {t : Tb} (h : tb[i]? = some t := by rfl) : ∃ es n, KDict K w (He.ga K t.1) es n := by
  have e : tb.map (fun t => He.dicW K (He.ga K t.1)) = tb.map fun t => some (He.keysIn w.params t.2) := congrArg (fun z : AlE => z.2) c
  have e2 : (tb.map fun t => He.dicW K (He.ga K t.1))[i]? = (tb.map fun t => some (He.keysIn w.params t.2))[i]? := by rw [e]
  rw [List.getElem?_map, List.getElem?_map, h] at e2
  exact He.dicW_ok (Option.some.inj e2)
end
end L3
namespace L3
open PySem L2
def Ex0 {α : Type} (x : Option α) (Q : α → Prop) : Prop := ∃ a, x = some a ∧ Q a
section
variable {α β : Type} {x : Option α} {Q : α → Prop}
theorem ex_eq {w : Dm Q} : Ex x Q w = Ex0 x Q := rfl
theorem ex0_some {a : α} : Ex0 (some a) Q = Q a := propext ⟨fun ⟨_, e, q⟩ => by cases e; exact q, fun q => ⟨a, rfl, q⟩⟩
theorem ex0_none : Ex0 (none : Option α) Q = False := propext ⟨fun ⟨_, e, _⟩ => (nomatch e), False.elim⟩
theorem ex0_bind {y : Option β} {f : β → Option α} : Ex0 (y.bind f) Q = Ex0 y fun b => Ex0 (f b) Q := by
  cases y with
  | none => rw [Option.bind_none, ex0_none, ex0_none]
  | some b => rw [Option.bind_some, ex0_some]
theorem ex0_guard {c : Prop} [Decidable c] : Ex0 (if c then x else none) Q = (c ∧ Ex0 x Q) := by
  by_cases h : c
  · rw [if_pos h]; exact propext ⟨fun q => ⟨h, q⟩, fun q => q.2⟩
  · rw [if_neg h, ex0_none]; exact propext ⟨False.elim, fun q => h q.1⟩
theorem ex_some {a : α} {w : Dm Q} : Ex (some a) Q w = Q a := ex0_some
theorem ex_none {w : Dm Q} : Ex (none : Option α) Q w = False := ex0_none
theorem ex_bind {y : Option β} {f : β → Option α} {w : Dm Q} : Ex (y.bind f) Q w = Ex y fun b => Ex (f b) Q := ex0_bind
theorem ex_guard {c : Prop} [Decidable c] {w : Dm Q} : Ex (if c then x else none) Q w = (c ∧ Ex x Q) := ex0_guard
end
section
variable {α : Type} {ρ : Env} {Q : D × Env → Prop} {QO : Opd × Env → Prop} {QA : List Opd × Env → Prop} {QT : Bool × Env → Prop} {QS : Out × Env → Prop} {QL : List D × Env → Prop} {QR : Env → Prop}
variable {f h : EM} {o o1 o2 o3 : OM} {a : AM} {t t1 t2 : TM} {s s1 s2 : SM} {i j : Nat} {n m : Nat}
theorem x_eC {d : D} : Ex (eC d ρ) Q = Q (d, ρ) := ex_some
def dAt (ρ : Env) (i : Nat) : Option D := match ρ[i]? with
  | some (some (.d x)) => some x
  | _ => none
theorem x_eV : Ex (eV i ρ) Q = Ex (dAt ρ i) fun x => Q (x, ρ) := by
  simp only [ex_eq]
  unfold eV dAt; generalize ρ[i]? = z; rcases z with _ | _ | x | ⟨t, x⟩ | ⟨t, x⟩ <;>
  simp only [ex0_some, ex0_none]
theorem x_oV : Ex (oV f ρ) QO = Ex (f ρ) fun p => QO (.val p.1, p.2) := by
  simp only [ex_eq]
  unfold oV; rw [ex0_bind]; simp only [ex0_some]
def ownAny (ρ : Env) (i : Nat) : Option D := match ρ[i]? with
  | some (some (.own _ x)) => some x
  | some (some (.tre _ x)) => some (ub x)
  | _ => none
theorem x_oR : Ex (oR i ρ) QO = Ex (ownAny ρ i) fun _ => QO (.ref i, ρ) := by
  simp only [ex_eq]
  unfold oR ownAny; generalize ρ[i]? = z; rcases z with _ | _ | x | ⟨t, x⟩ | ⟨t, x⟩ <;>
  simp only [ex0_some, ex0_none]
theorem res_v {d : D} : res ρ (.val d) = some d := rfl
theorem res_r : res ρ (.ref i) = ownAny ρ i := rfl
theorem res_i : res ρ (.io i) = none := rfl
theorem isVal_v {d : D} : isVal (.val d) = true := rfl
theorem isVal_r : isVal (.ref i) = false := rfl
theorem isVal_i : isVal (.io i) = false := rfl
theorem x_fin {v : Bool} {c : D} : Ex (fin v c ρ) Q = ((v = true ∨ lf c = true) ∧ Q (c, ρ)) := by
  simp only [ex_eq]
  unfold fin; rw [ex0_guard, ex0_some]
  simp only [Bool.or_eq_true]
theorem x_finN {v : Bool} {c : D} : Ex (finN v c ρ) Q = ((v = true ∨ lfo c = true) ∧ Q (c, ρ)) := by
  simp only [ex_eq]
  unfold finN; rw [ex0_guard, ex0_some]
  simp only [Bool.or_eq_true]
theorem x_e1 {k : D → Option D} : Ex (e1 k o ρ) Q = Ex (o ρ) fun p => Ex (res p.2 p.1) fun a => Ex (k a) fun c => Ex (fin (isVal p.1) c p.2) Q := by
  simp only [ex_eq]
  unfold e1; simp only [ex0_bind]
theorem x_e2 {k : D → D → Option D} : Ex (e2 k o1 o2 ρ) Q = Ex (o1 ρ) fun p => Ex (o2 p.2) fun q => Ex (res q.2 p.1) fun a => Ex (res q.2 q.1) fun b => Ex (k a b) fun c => Ex (fin (isVal p.1 && isVal q.1) c q.2) Q := by
  simp only [ex_eq]
  unfold e2; simp only [ex0_bind]
theorem x_eL {k : List D → Option D} : Ex (eL k a ρ) Q = Ex (a ρ) fun p => Ex (resAll p.2 p.1) fun as => Ex (k as) fun c => Ex (fin (allVal p.1) c p.2) Q := by
  simp only [ex_eq]
  unfold eL; simp only [ex0_bind]
theorem x_nL {k : List D → Option D} : Ex (nL k a ρ) Q = Ex (a ρ) fun p => Ex (resAll p.2 p.1) fun as => Ex (k as) fun c => Ex (finN (allVal p.1) c p.2) Q := by
  simp only [ex_eq]
  unfold nL; simp only [ex0_bind]
theorem x_aN : Ex (aN ρ) QA = QA ([], ρ) := ex_some
theorem x_aC : Ex (aC o a ρ) QA = Ex (o ρ) fun p => Ex (a p.2) fun q => QA (p.1 :: q.1, q.2) := by
  simp only [ex_eq]
  unfold aC; simp only [ex0_bind, ex0_some]
theorem resAll_n : resAll ρ [] = some [] := rfl
theorem x_resAll {o : Opd} {r : List Opd} {QD : List D → Prop} : Ex (resAll ρ (o :: r)) QD = Ex (res ρ o) fun d => Ex (resAll ρ r) fun ds => QD (d :: ds) := by
  show Ex0 ((res ρ o).bind fun d => (resAll ρ r).bind fun ds => some (d :: ds)) QD = _
  simp only [ex0_bind, ex0_some, ex_eq]
theorem x_valsOf {d : D} {r : List Opd} {QD : List D → Prop} : Ex (valsOf (.val d :: r)) QD = Ex (valsOf r) fun ds => QD (d :: ds) := by
  show Ex0 ((valsOf r).bind fun ds => some (d :: ds)) QD = _
  simp only [ex0_bind, ex0_some, ex_eq]
theorem valsOf_n : valsOf [] = some [] := rfl
theorem x_tV : Ex (tV f ρ) QT = Ex (f ρ) fun p => ∃ b, p.1 = .bl b ∧ QT (b, p.2) := by
  simp only [ex_eq]
  unfold tV; rw [ex0_bind]
  congr 1; funext p
  obtain ⟨d, ρ'⟩ := p
  cases d <;> simp [ex0_some, ex0_none]
theorem x_tNt : Ex (tNt t ρ) QT = Ex (t ρ) fun p => QT (!p.1, p.2) := by
  simp only [ex_eq]
  unfold tNt; simp only [ex0_bind, ex0_some]
theorem bt0 {b : Bool} {x y : Option α} {P : α → Prop} : Ex0 (if b then x else y) P = ((b = true → Ex0 x P) ∧ (b = false → Ex0 y P)) := by
  cases b <;> simp
theorem x_tAn : Ex (tAn t1 t2 ρ) QT = Ex (t1 ρ) fun p => (p.1 = true → Ex (t2 p.2) QT) ∧ (p.1 = false → QT (false, p.2)) := by
  simp only [ex_eq]
  unfold tAn; simp only [ex0_bind, bt0, ex0_some]
theorem x_tOr : Ex (tOr' t1 t2 ρ) QT = Ex (t1 ρ) fun p => (p.1 = true → QT (true, p.2)) ∧ (p.1 = false → Ex (t2 p.2) QT) := by
  simp only [ex_eq]
  unfold tOr'; simp only [ex0_bind, bt0, ex0_some]
theorem x_tYs : Ex (tYs ρ) QT = QT (true, ρ) := ex_some
theorem x_eIf : Ex (eIf t f h ρ) Q = Ex (t ρ) fun p => (p.1 = true → Ex (f p.2) Q) ∧ (p.1 = false → Ex (h p.2) Q) := by
  simp only [ex_eq]
  unfold eIf; simp only [ex0_bind, bt0]
theorem x_eAnd : Ex (eAnd f h ρ) Q = Ex (f ρ) fun p => ∃ b, p.1 = .bl b ∧ (b = true → Ex (h p.2) Q) ∧ (b = false → Q (.bl false, p.2)) := by
  simp only [ex_eq]
  unfold eAnd; rw [ex0_bind]
  congr 1; funext p
  obtain ⟨d, ρ'⟩ := p
  cases d with
  | bl b => cases b <;> simp [ex0_some]
  | _ => simp [ex0_none]
theorem x_eOr : Ex (eOr f h ρ) Q = Ex (f ρ) fun p => ∃ b, p.1 = .bl b ∧ (b = true → Q (.bl true, p.2)) ∧ (b = false → Ex (h p.2) Q) := by
  simp only [ex_eq]
  unfold eOr; rw [ex0_bind]
  congr 1; funext p
  obtain ⟨d, ρ'⟩ := p
  cases d with
  | bl b => cases b <;> simp [ex0_some]
  | _ => simp [ex0_none]
theorem x_eNot : Ex (eNot f ρ) Q = Ex (f ρ) fun p => ∃ b, p.1 = .bl b ∧ Q (.bl (!b), p.2) := by
  simp only [ex_eq]
  unfold eNot; rw [ex0_bind]
  congr 1; funext p
  obtain ⟨d, ρ'⟩ := p
  cases d <;> simp [ex0_some, ex0_none]
theorem x_eTup : Ex (eTup a ρ) Q = Ex (a ρ) fun p => Ex (valsOf p.1) fun ds => Q (.tup ds, p.2) := by
  simp only [ex_eq]
  unfold eTup; simp only [ex0_bind, ex0_some]
theorem x_nLst : Ex (nLst a ρ) Q = Ex (a ρ) fun p => Ex (valsOf p.1) fun ds => Q (.lst ds, p.2) := by
  simp only [ex_eq]
  unfold nLst; simp only [ex0_bind, ex0_some]
theorem x_eChain {k k' : D → D → Option D} : Ex (eChain k k' o1 o2 o3 ρ) Q = Ex (o1 ρ) fun p => Ex (o2 p.2) fun q => Ex (res q.2 p.1) fun a => Ex (res q.2 q.1) fun b => Ex (k a b) fun c => ∃ z, c = .bl z ∧ (isVal p.1 = true ∧ isVal q.1 = true) ∧
    (z = true → Ex (o3 q.2) fun r => Ex (res r.2 r.1) fun d => isVal r.1 = true ∧ Ex (k' b d) fun x => Q (x, r.2)) ∧ (z = false → Q (.bl false, q.2)) := by
  simp only [ex_eq]
  unfold eChain; simp only [ex0_bind]
  congr 1; funext p; congr 1; funext q; congr 1; funext a; congr 1; funext b; congr 1; funext c
  cases c with
  | bl z =>
    cases z
    · simp only [ex0_guard, ex0_some, Bool.and_eq_true]
      simp
    · simp only [ex0_bind, ex0_guard, ex0_some, Bool.and_eq_true]
      apply propext
      constructor
      · rintro ⟨r, e1, d, e2, ⟨⟨h1, h2⟩, h3⟩, x, e3, q3⟩
        exact ⟨true, rfl, ⟨h1, h2⟩, fun _ => ⟨r, e1, d, e2, h3, x, e3, q3⟩, fun z => by cases z⟩
      · rintro ⟨_, e, ⟨h1, h2⟩, h, _⟩
        cases e
        obtain ⟨r, e1, d, e2, h3, x, e3, q3⟩ := h rfl
        exact ⟨r, e1, d, e2, ⟨⟨h1, h2⟩, h3⟩, x, e3, q3⟩
  | _ => simp [ex0_none]
theorem x_sNx : Ex (sNx ρ) QS = QS (.nx, ρ) := ex_some
def seqK (h : SM) (QS : Out × Env → Prop) : Out → Env → Prop
  | .nx, ρ => Ex (h ρ) QS
  | o, ρ => QS (o, ρ)
theorem x_sSeq : Ex (sSeq s1 s2 ρ) QS = Ex (s1 ρ) fun p => seqK s2 QS p.1 p.2 := by
  simp only [ex_eq]
  unfold sSeq; rw [ex0_bind]
  congr 1; funext p
  obtain ⟨o, ρ'⟩ := p
  cases o <;> simp only [ex0_some] <;> rfl
theorem seqK_nx : seqK s2 QS .nx ρ = Ex (s2 ρ) QS := rfl
theorem seqK_br : seqK s2 QS .br ρ = QS (.br, ρ) := rfl
theorem seqK_ct : seqK s2 QS .ct ρ = QS (.ct, ρ) := rfl
theorem seqK_rt {d : D} : seqK s2 QS (.rt d) ρ = QS (.rt d, ρ) := rfl
theorem seqK_rn {d : D} : seqK s2 QS (.rn d) ρ = QS (.rn d, ρ) := rfl
theorem seqK_rr {d : D} : seqK s2 QS (.rr d) ρ = QS (.rr d, ρ) := rfl
theorem x_sRet : Ex (sRet f ρ) QS = Ex (f ρ) fun p => QS (.rt p.1, p.2) := by
  simp only [ex_eq]
  unfold sRet; simp only [ex0_bind, ex0_some]
theorem x_sRetN : Ex (sRetN f ρ) QS = Ex (f ρ) fun p => QS (.rn p.1, p.2) := by
  simp only [ex_eq]
  unfold sRetN; simp only [ex0_bind, ex0_some]
def ownNew (ρ : Env) (i : Nat) : Option D := match ρ[i]? with
  | some (some (.own none x)) => some x
  | _ => none
def retO (ρ : Env) (i : Nat) : Option Out := match ρ[i]? with
  | some (some (.own none x)) => some (.rn x)
  | some (some (.tre none x)) => some (.rr x)
  | _ => none
theorem x_sRetO : Ex (sRetO i ρ) QS = Ex (retO ρ i) fun o => QS (o, ρ) := by
  simp only [ex_eq]
  unfold sRetO retO; generalize ρ[i]? = z; rcases z with _ | _ | x | ⟨_ | t, x⟩ | ⟨_ | t, x⟩ <;>
  simp only [ex0_some, ex0_none]
theorem x_sIf : Ex (sIf t s1 s2 ρ) QS = Ex (t ρ) fun p => (p.1 = true → Ex (s1 p.2) QS) ∧ (p.1 = false → Ex (s2 p.2) QS) := by
  simp only [ex_eq]
  unfold sIf; simp only [ex0_bind, bt0]
theorem x_sSet : Ex (sSet i f ρ) QS = Ex (f ρ) fun p => QS (.nx, p.2.set i (some (.d p.1))) := by
  simp only [ex_eq]
  unfold sSet; simp only [ex0_bind, ex0_some]
theorem x_sSetN : Ex (sSetN i f ρ) QS = Ex (f ρ) fun p => QS (.nx, p.2.set i (some (.d p.1))) := by
  simp only [ex_eq]
  unfold sSetN; simp only [ex0_bind, ex0_some]
theorem x_sOwn : Ex (sOwn i f ρ) QS = Ex (f ρ) fun p => QS (.nx, p.2.set i (some (.own none p.1))) := by
  simp only [ex_eq]
  unfold sOwn; simp only [ex0_bind, ex0_some]
theorem x_sAsg {g : GM} : Ex (sAsg f g ρ) QS = Ex (f ρ) fun p => Ex (g p.1 p.2) fun ρ' => QS (.nx, ρ') := by
  simp only [ex_eq]
  unfold sAsg; simp only [ex0_bind, ex0_some]
theorem x_gN {d : D} : Ex (gN i d ρ) QR = QR (ρ.set i (some (.d d))) := ex_some
def tupItems : D → Option (List D)
  | .tup l => some l
  | .ktp l => some l
  | _ => none
theorem x_gTp {h : List D → Env → Option Env} {d : D} : Ex (gTp n h d ρ) QR = Ex (tupItems d) fun l => l.length = n ∧ Ex (h l ρ) QR := by
  simp only [ex_eq]
  unfold gTp tupItems
  cases d <;> simp only [ex0_guard, ex0_some, ex0_none]
theorem x_gsN : Ex (gsNil [] ρ) QR = QR ρ := ex_some
theorem x_gsC {g : GM} {h : List D → Env → Option Env} {d : D} {r : List D} : Ex (gsCons g h (d :: r) ρ) QR = Ex (g d ρ) fun ρ1 => Ex (h r ρ1) QR := by
  simp only [ex_eq]
  unfold gsCons; simp only [ex0_bind]
theorem x_sPar : Ex (sPar i j a ρ) QS = Ex (a ρ) fun p => Ex (valsOf p.1) fun ds => ∃ x y, ds = [x, y] ∧ QS (.nx, (p.2.set i (some (.d x))).set j (some (.d y))) := by
  simp only [ex_eq]
  unfold sPar; simp only [ex0_bind]
  congr 1; funext p; congr 1; funext ds
  cases ds with
  | nil => simp [ex0_none]
  | cons x r =>
    cases r with
    | nil => simp [ex0_none]
    | cons y r =>
      cases r with
      | nil => exact propext ⟨fun q => ⟨x, y, rfl, by rw [ex0_some] at q; exact q⟩, fun ⟨_, _, e, q⟩ => by cases e; rw [ex0_some]; exact q⟩
      | cons z r => simp [ex0_none]
def ownL (ρ : Env) (i : Nat) : Option (Option Nat × List D) := match ρ[i]? with
  | some (some (.own t (.lst xs))) => some (t, xs)
  | _ => none
def ownK (ρ : Env) (i : Nat) : Option (Option Nat × List (Key × D)) := match ρ[i]? with
  | some (some (.own t (.dk xs))) => some (t, xs)
  | _ => none
theorem x_sApp : Ex (sApp i f ρ) QS = Ex (ownL ρ i) fun _ => Ex (f ρ) fun p => Ex (ownL p.2 i) fun q => q.2.length < 16777216 ∧ QS (.nx, p.2.set i (some (.own q.1 (.lst (q.2 ++ [p.1]))))) := by
  simp only [ex_eq]
  unfold sApp ownL
  generalize ρ[i]? = z; rcases z with _ | _ | x | ⟨t, x⟩ <;> try simp only [ex0_some, ex0_none]
  cases x <;> simp only [ex0_some, ex0_none, ex0_bind]
  congr 1; funext p
  generalize p.2[i]? = z; rcases z with _ | _ | x | ⟨t, x⟩ <;> try simp only [ex0_some, ex0_none]
  cases x <;> simp only [ex0_some, ex0_none, ex0_guard]
theorem x_sPutD {fv fi : EM} : Ex (sPutD i fv fi ρ) QS = Ex (fv ρ) fun p => isOwn p.2 i = true ∧ Ex (fi p.2) fun q => Ex (ownK q.2 i) fun w => Ex (keyOf q.1) fun k => w.2.length < 16777216 ∧ QS (.nx, q.2.set i (some (.own w.1 (.dk (putD w.2 k p.1))))) := by
  simp only [ex_eq]
  unfold sPutD ownK
  simp only [ex0_bind, ex0_guard]
  congr 1; funext p; congr 2; funext q
  obtain ⟨d, ρ'⟩ := q
  dsimp only
  generalize ρ'[i]? = z; rcases z with _ | _ | x | ⟨t, x⟩ <;> try simp only [ex0_some, ex0_none]
  cases x <;> simp only [ex0_bind, ex0_some, ex0_none, ex0_guard]
def ownIn (C : Addr) (ρ : Env) (i : Nat) : Option (Option Nat × List (Str × D)) := match ρ[i]? with
  | some (some (.own t (.ins C' gs))) => if C' = C then some (t, gs) else none
  | _ => none
def lstItems : D → Option (List D)
  | .lst l => some l
  | .scr ns => some (ns.map D.int)
  | _ => none
theorem x_itV : Ex (itV f ρ) QL = Ex (f ρ) fun p => Ex (lstItems p.1) fun l => QL (l, p.2) := by
  simp only [ex_eq]
  unfold itV; rw [ex0_bind]
  congr 1; funext p
  obtain ⟨d, ρ'⟩ := p
  cases d <;> simp only [lstItems, ex0_some, ex0_none]
theorem x_itT : Ex (itT f ρ) QL = Ex (f ρ) fun p => Ex (tupItems p.1) fun l => QL (l, p.2) := by
  simp only [ex_eq]
  unfold itT; rw [ex0_bind]
  congr 1; funext p
  obtain ⟨d, ρ'⟩ := p
  cases d <;> simp only [tupItems, ex0_some, ex0_none]
def int1 : List Opd → Option Int
  | [.val (.int j)] => some j
  | _ => none
def int2 : List Opd → Option (Int × Int)
  | [.val (.int i), .val (.int j)] => some (i, j)
  | _ => none
theorem x_sFor {it : LM} {h : GM} : Ex (sFor it h s ρ) QS = Ex (it ρ) fun p => Ex (loop h s p.1 p.2) QS := by
  simp only [ex_eq]
  unfold sFor; rw [ex0_bind]
theorem x_nLc {it : LM} {h : GM} {e : EM} {vs : List Nat} : Ex (nLc it h t e vs ρ) Q = Ex (it ρ) fun p => Ex (lcLoop h t e vs p.1 [] p.2) fun q => Q (.lst q.1, putBack p.2 q.2 vs) := by
  simp only [ex_eq]
  unfold nLc; simp only [ex0_bind, ex0_some]
theorem x_mkF {B : SM} {as : List A} {QF : Res × List D → Prop} : Ex (mkF n m B as) QF = (as.length = n ∧ Ex (B (entry 0 as ++ List.replicate (m - n) none)) fun p => Ex (resOf p.1) fun r => Ex (collect 0 0 as p.2) fun os => QF (r, os)) := by
  simp only [ex_eq]
  unfold mkF; simp only [ex0_guard, ex0_bind, ex0_some]
theorem x_callO {fm : FM} {dds : List D} {os : List Opd} {QC : Res × Bool × Env → Prop} : Ex (callO fm dds os ρ) QC = (((ios os).Nodup ∧ okOs os (ios os) = true) ∧ Ex (argsOf ρ os) fun as => Ex (fm (as ++ dds.map A.v)) fun r => Ex (putOuts os r.2 ρ) fun ρ2 =>
    (hasRef os = false ∨ r.2.all lfo = true) ∧ QC (r.1, !hasRef os, ρ2)) := by
  simp only [ex_eq]
  unfold callO; simp only [ex0_guard, ex0_bind, ex0_some]
theorem x_eCall {fm : FM} {dds : List D} : Ex (eCall fm dds a ρ) Q = Ex (a ρ) fun p => Ex (callO fm dds p.1 p.2) fun r => Ex (finR r) Q := by
  simp only [ex_eq]
  unfold eCall; rw [ex0_bind, callM_eq, ex0_bind]
theorem x_eMeth {C : Addr} {mm : Str} {fm : FM} {dds : List D} : Ex (eMeth C mm fm dds o a ρ) Q = Ex (o ρ) fun p => insOk C mm (conts p.2 p.1) = true ∧ Ex (a p.2) fun q => Ex (callO fm dds (p.1 :: q.1) q.2) fun r => Ex (finR r) Q := by
  simp only [ex_eq]
  unfold eMeth; simp only [ex0_guard, ex0_bind]
theorem x_eProp {C : Addr} {fm : FM} {dds : List D} : Ex (eProp C fm dds o ρ) Q = Ex (o ρ) fun p => insOf C (conts p.2 p.1) = true ∧ Ex (callO fm dds [p.1] p.2) fun r => Ex (finR r) Q := by
  simp only [ex_eq]
  unfold eProp; simp only [ex0_guard, ex0_bind]
def isCls (C : Addr) : D → Bool
  | .cls C' => decide (C' = C)
  | _ => false
def isNon : Res → Bool
  | .d .non => true
  | _ => false
theorem x_nMake {C : Addr} {fm : FM} {dds : List D} : Ex (nMake C fm dds a ρ) Q = Ex (a ρ) fun p => Ex (callO fm dds (.io p.2.length :: p.1) (p.2 ++ [some (.own none (.ins C []))])) fun r => isNon r.1 = true ∧ Ex (ownNew r.2.2 p.2.length) fun x => (r.2.1 = true ∨ lfo x = true) ∧ Q (x, r.2.2.take p.2.length) := by
  simp only [ex_eq]
  unfold nMake; simp only [ex0_bind]
  congr 1; funext p; congr 1; funext r
  obtain ⟨r1, r2, ρ2⟩ := r
  unfold ownNew
  dsimp only
  cases r1 with
  | n x => simp [isNon, ex0_none]
  | r x => simp [isNon, ex0_none]
  | d x =>
    cases x <;> simp only [isNon, Bool.false_eq_true, false_and, ex0_none, true_and]
    generalize ρ2[p.2.length]? = z; rcases z with _ | _ | x | ⟨_ | t, x⟩ | ⟨_ | t, x⟩ <;> simp only [ex0_some, ex0_none, ex0_guard, Bool.or_eq_true]
theorem x_sFld {C : Addr} {fl : Str} : Ex (sFld' i C fl f ρ) QS = Ex (f ρ) fun p => Ex (ownIn C p.2 i) fun w => w.2.length < 1000 ∧ QS (.nx, p.2.set i (some (.own w.1 (.ins C (putFD fl p.1 w.2))))) := by
  simp only [ex_eq]
  unfold sFld' ownIn; rw [ex0_bind]
  congr 1; funext p
  generalize p.2[i]? = z; rcases z with _ | _ | x | ⟨t, x⟩ <;> try simp only [ex0_some, ex0_none]
  cases x <;> simp only [ex0_some, ex0_none, ex0_guard]
  rename_i C' gs
  by_cases h : C' = C
  · subst h; simp
  · simp [h]
end
theorem atI_at {α : Type} {l : List α} {i : Int} (h : 0 ≤ i) (hl : i < l.length) : atI l i = l[i.toNat]? := by
  unfold atI ixN
  rw [if_pos h, if_pos hl]; rfl
theorem atI_last {α : Type} {l : List α} (h : l ≠ []) : atI l (-1) = l.getLast? := by
  have hp := List.length_pos_iff.mpr h
  unfold atI ixN
  rw [if_neg (by omega), if_pos (by omega), Option.bind_some, List.getLast?_eq_getElem?]
  congr 1
  omega
theorem kAdd_i {i j : Int} : kAdd (.int i) (.int j) = some (.int (i + j)) := rfl
theorem kSub_i {i j : Int} : kSub (.int i) (.int j) = some (.int (i - j)) := rfl
theorem kLt_i {i j : Int} : kLt (.int i) (.int j) = some (.bl (decide (i < j))) := rfl
theorem kLe_i {i j : Int} : kLe (.int i) (.int j) = some (.bl (decide (i ≤ j))) := rfl
theorem kGt_i {i j : Int} : kGt (.int i) (.int j) = some (.bl (decide (j < i))) := rfl
theorem kGe_i {i j : Int} : kGe (.int i) (.int j) = some (.bl (decide (j ≤ i))) := rfl
theorem kNeg_i {i : Int} : kNeg (.int i) = some (.int (-i)) := rfl
theorem kInt_i {i : Int} : kInt [.int i] = some (.int i) := rfl
theorem kInt_b {b : Bool} : kInt [.bl b] = some (.int (if b then 1 else 0)) := rfl
theorem kAbs_i {i : Int} : kAbs [.int i] = some (.int (if i < 0 then -i else i)) := rfl
theorem kMax_i {i j : Int} : kMax2 [.int i, .int j] = some (.int (if j > i then j else i)) := rfl
theorem kMin_i {i j : Int} : kMin2 [.int i, .int j] = some (.int (if j < i then j else i)) := rfl
theorem kLen_l {l : List D} : kLen [.lst l] = some (.int l.length) := rfl
theorem kLen_t {l : List D} : kLen [.tup l] = some (.int l.length) := rfl
theorem kLen_k {l : List D} : kLen [.ktp l] = some (.int l.length) := rfl
theorem kLen_s {l : List Int} : kLen [.scr l] = some (.int l.length) := rfl
section
variable {Q : D → Prop} {i j : Int}
theorem atI_0 {α : Type} {a : α} {l : List α} : atI (a :: l) 0 = some a := by
  rw [atI_at (by omega) (by rw [List.length_cons]; omega)]; rfl
theorem atI_1 {α : Type} {a b : α} {l : List α} : atI (a :: b :: l) 1 = some b := by
  rw [atI_at (by omega) (by simp only [List.length_cons]; omega)]; rfl
theorem atI_2 {α : Type} {a b c : α} {l : List α} : atI (a :: b :: c :: l) 2 = some c := by
  rw [atI_at (by omega) (by simp only [List.length_cons]; omega)]; rfl
theorem atI_3 {α : Type} {a b c d : α} {l : List α} : atI (a :: b :: c :: d :: l) 3 = some d := by
  rw [atI_at (by omega) (by simp only [List.length_cons]; omega)]; rfl
theorem ixN_0 {n : Nat} : ixN (n + 1) 0 = some 0 := by
  unfold ixN; rw [if_pos (by omega), if_pos (by omega)]; rfl
theorem ixN_1 {n : Nat} : ixN (n + 2) 1 = some 1 := by
  unfold ixN; rw [if_pos (by omega), if_pos (by omega)]; rfl
theorem ixN_2 {n : Nat} : ixN (n + 3) 2 = some 2 := by
  unfold ixN; rw [if_pos (by omega), if_pos (by omega)]; rfl
theorem ixN_3 {n : Nat} : ixN (n + 4) 3 = some 3 := by
  unfold ixN; rw [if_pos (by omega), if_pos (by omega)]; rfl
theorem x_kMul : Ex (kMul (.int i) (.int j)) Q = ((wide i = true ∧ wide j = true) ∧ Q (.int (i * j))) := by
  simp only [ex_eq]
  unfold kMul; simp only [ex0_guard, ex0_some, Bool.and_eq_true]
theorem x_kAddL {l m : List D} : Ex (kAdd (.lst l) (.lst m)) Q = (l.length + m.length ≤ 16777216 ∧ Q (.lst (l ++ m))) := by unfold kAdd; simp only [ex_guard, ex_some]
theorem x_kAddT {l m : List D} : Ex (kAdd (.tup l) (.tup m)) Q = (l.length + m.length ≤ 16777216 ∧ Q (.tup (l ++ m))) := by unfold kAdd; simp only [ex_guard, ex_some]
theorem x_kMod : Ex (kMod (.int i) (.int j)) Q = (0 < j ∧ Q (.int (i % j))) := by
  simp only [ex_eq]
  unfold kMod; simp only [ex0_guard, ex0_some]
theorem x_kPow : Ex (kPow (.int i) (.int j)) Q = ((0 ≤ j ∧ j ≤ 1000 ∧ wide i = true) ∧ Q (.int (i ^ j.toNat))) := by
  simp only [ex_eq]
  unfold kPow; simp only [ex0_guard, ex0_some]
theorem kIx_t {l : List D} : kIx (.tup l) (.int i) = atI l i := rfl
theorem kIx_k {l : List D} : kIx (.ktp l) (.int i) = atI l i := rfl
theorem kIx_l {l : List D} : kIx (.lst l) (.int i) = atI l i := rfl
theorem kIx_s {l : List Int} : kIx (.scr l) (.int i) = (atI l i).bind fun n => some (.int n) := rfl
end
theorem resD_d {x : D} : resD (.d x) = x := rfl
theorem resD_n {x : D} : resD (.n x) = x := rfl
theorem wide_10 : wide 10 = true := by decide +kernel
theorem wide_2 : wide 2 = true := by decide +kernel
def brkK {β : Type} (I : Env → β) (Q : Out × Env → β) : Out → Env → β
  | .nx, ρ => I ρ
  | .ct, ρ => I ρ
  | .br, ρ => Q (.nx, ρ)
  | o, ρ => Q (o, ρ)
theorem brk_nx {β : Type} {I : Env → β} {Q : Out × Env → β} {ρ : Env} : brkK I Q .nx ρ = I ρ := rfl
theorem brk_ct {β : Type} {I : Env → β} {Q : Out × Env → β} {ρ : Env} : brkK I Q .ct ρ = I ρ := rfl
theorem brk_br {β : Type} {I : Env → β} {Q : Out × Env → β} {ρ : Env} : brkK I Q .br ρ = Q (.nx, ρ) := rfl
theorem brk_rt {β : Type} {I : Env → β} {Q : Out × Env → β} {ρ : Env} {d : D} : brkK I Q (.rt d) ρ = Q (.rt d, ρ) := rfl
theorem brk_rn {β : Type} {I : Env → β} {Q : Out × Env → β} {ρ : Env} {d : D} : brkK I Q (.rn d) ρ = Q (.rn d, ρ) := rfl
theorem brk_rr {β : Type} {I : Env → β} {Q : Out × Env → β} {ρ : Env} {d : D} : brkK I Q (.rr d) ρ = Q (.rr d, ρ) := rfl
theorem x_loop_n {h : GM} {b : SM} {ρ : Env} {Q : Out × Env → Prop} : Ex (loop h b [] ρ) Q = Q (.nx, ρ) := ex_some
theorem x_loop_c {h : GM} {b : SM} {d : D} {r : List D} {ρ : Env} {Q : Out × Env → Prop} : Ex (loop h b (d :: r) ρ) Q = Ex (h d ρ) fun ρ1 => Ex (b ρ1) fun p => brkK (fun ρ2 => Ex (loop h b r ρ2) Q) Q p.1 p.2 := by
  show Ex ((h d ρ).bind fun ρ1 => (b ρ1).bind fun p => match p.1 with
    | .nx => loop h b r p.2
    | .ct => loop h b r p.2
    | .br => some (.nx, p.2)
    | o => some (o, p.2)) Q = _
  simp only [ex_eq, ex0_bind]
  congr 1; funext ρ1; congr 1; funext p
  obtain ⟨o, ρ2⟩ := p
  cases o <;> simp only [ex0_some] <;> rfl
theorem ex_loop {h : GM} {b : SM} {Q : Out × Env → Prop} (xs : List D) (I : Nat → Env → Prop) {ρ : Env} (h0 : I 0 ρ)
    (step : ∀ i x ρ, xs[i]? = some x → I i ρ → Ex (h x ρ) fun ρ1 => Ex (b ρ1) fun p => brkK (I (i + 1)) Q p.1 p.2) (fi : ∀ ρ, I xs.length ρ → Q (.nx, ρ)) : Ex (loop h b xs ρ) Q := by
  suffices H : ∀ (ys : List D) (i : Nat) (ρ : Env), ys = xs.drop i → i ≤ xs.length → I i ρ → Ex (loop h b ys ρ) Q from H xs 0 ρ rfl (Nat.zero_le _) h0
  intro ys
  induction ys with
  | nil =>
    intro i ρ e hi hI
    have : i = xs.length := by
      have := congrArg List.length e
      rw [List.length_nil, List.length_drop] at this
      omega
    subst this
    exact ⟨_, rfl, fi ρ hI⟩
  | cons y ys ih =>
    intro i ρ e hi hI
    have hl : i < xs.length := by
      have := congrArg List.length e
      rw [List.length_cons, List.length_drop] at this
      omega
    have e2 : xs.drop i = xs[i] :: xs.drop (i + 1) := List.drop_eq_getElem_cons hl
    rw [e2] at e
    injection e with ey ez
    obtain ⟨ρ1, e1, p, e3, k⟩ := step i y ρ (by rw [List.getElem?_eq_getElem hl, ey]) hI
    obtain ⟨o, ρ2⟩ := p
    show Ex ((h y ρ).bind fun ρ1 => (b ρ1).bind fun p => match p.1 with
      | .nx => loop h b ys p.2
      | .ct => loop h b ys p.2
      | .br => some (.nx, p.2)
      | o => some (o, p.2)) Q
    rw [e1, Option.bind_some, e3, Option.bind_some]
    cases o with
    | nx => exact ih (i + 1) ρ2 ez (by omega) k
    | ct => exact ih (i + 1) ρ2 ez (by omega) k
    | br => exact ⟨_, rfl, k⟩
    | rt d => exact ⟨_, rfl, k⟩
    | rn d => exact ⟨_, rfl, k⟩
    | rr d => exact ⟨_, rfl, k⟩
theorem ex_lc {h : GM} {t : TM} {e : EM} {vs : List Nat} {Q : List D × Env → Prop} (xs : List D) (I : Nat → List D → Env → Prop) {ρ : Env} (h0 : I 0 [] (wipeE ρ vs))
    (step : ∀ i x acc ρ, xs[i]? = some x → I i acc ρ → Ex (h x ρ) fun ρ1 => Ex (t ρ1) fun p => (p.1 = true → Ex (e p.2) fun q => acc.length < 16777216 ∧ I (i + 1) (acc ++ [q.1]) (wipeE q.2 vs)) ∧ (p.1 = false → I (i + 1) acc (wipeE p.2 vs)))
    (fi : ∀ acc ρ', I xs.length acc (wipeE ρ' vs) → Q (acc, ρ')) : Ex (lcLoop h t e vs xs [] ρ) Q := by
  suffices H : ∀ (ys : List D) (i : Nat) (acc : List D) (ρ : Env), ys = xs.drop i → i ≤ xs.length → I i acc (wipeE ρ vs) → Ex (lcLoop h t e vs ys acc ρ) Q from H xs 0 [] ρ rfl (Nat.zero_le _) h0
  intro ys
  induction ys with
  | nil =>
    intro i acc ρ e hi hI
    have : i = xs.length := by
      have := congrArg List.length e
      rw [List.length_nil, List.length_drop] at this
      omega
    subst this
    exact ⟨_, rfl, fi acc ρ hI⟩
  | cons y ys ih =>
    intro i acc ρ eq hi hI
    have hl : i < xs.length := by
      have := congrArg List.length eq
      rw [List.length_cons, List.length_drop] at this
      omega
    have e2 : xs.drop i = xs[i] :: xs.drop (i + 1) := List.drop_eq_getElem_cons hl
    rw [e2] at eq
    injection eq with ey ez
    obtain ⟨ρ1, e1, p, e3, k1, k2⟩ := step i y acc _ (by rw [List.getElem?_eq_getElem hl, ey]) hI
    obtain ⟨c, ρ2⟩ := p
    unfold lcLoop
    rw [e1, Option.bind_some, e3, Option.bind_some]
    cases c with
    | true =>
      obtain ⟨q, e4, hlen, k⟩ := k1 rfl
      show Ex ((e ρ2).bind fun q => if acc.length < 16777216 then lcLoop h t e vs ys (acc ++ [q.1]) q.2 else none) Q
      rw [e4, Option.bind_some, if_pos hlen]
      exact ih (i + 1) _ _ ez (by omega) k
    | false => exact ih (i + 1) _ _ ez (by omega) (k2 rfl)
/-- a comprehension that changes nothing else -/
theorem ex_lcP {α β : Type} (ys : List α) (u : α → D) (f : α → Option β) (w : β → D) {h : GM} {t : TM} {e : EM} {vs : List Nat} {Q : List D × Env → Prop} {xs : List D} {ρ : Env} (ex : xs = ys.map u) (hl : xs.length ≤ 16777216)
    (step : ∀ y ∈ ys, Ex (h (u y) (wipeE ρ vs)) fun ρ1 => Ex (t ρ1) fun p => (p.1 = true → Ex (e p.2) fun q => wipeE q.2 vs = wipeE ρ vs ∧ ∃ z, f y = some z ∧ q.1 = w z) ∧ (p.1 = false → wipeE p.2 vs = wipeE ρ vs ∧ f y = none))
    (fi : ∀ ρ', wipeE ρ' vs = wipeE ρ vs → Q ((ys.filterMap f).map w, ρ')) : Ex (lcLoop h t e vs xs [] ρ) Q := by
  subst ex
  have hlen : ∀ i, ((ys.take i).filterMap f).length ≤ i := fun i => Nat.le_trans (List.length_filterMap_le ..) (by rw [List.length_take]; omega)
  refine ex_lc _ (fun i acc ρ' => ρ' = wipeE ρ vs ∧ acc = ((ys.take i).filterMap f).map w) ⟨rfl, rfl⟩ ?_ ?_
  · rintro i x acc ρ' hx ⟨rfl, rfl⟩
    rw [List.getElem?_map] at hx
    cases hy : ys[i]? with
    | none => rw [hy] at hx; cases hx
    | some y =>
      rw [hy] at hx
      cases hx
      have hi : i < ys.length := (List.getElem?_eq_some_iff.mp hy).1
      have et : ys.take (i + 1) = ys.take i ++ [y] := by rw [List.take_succ, hy]; rfl
      refine (step y (List.mem_of_getElem? hy)).mono fun ρ1 h1 => h1.mono fun p ⟨h2, h3⟩ => ⟨fun c => (h2 c).mono fun q ⟨h4, z, h5, h6⟩ => ⟨?_, h4, ?_⟩, fun c => ⟨(h3 c).1, ?_⟩⟩
      · rw [List.length_map]
        have := hlen i
        rw [List.length_map] at hl
        omega
      · rw [et, List.filterMap_append, List.map_append, h6]
        simp [h5]
      · rw [et, List.filterMap_append, List.map_append]
        simp [(h3 c).2]
  · rintro acc ρ' ⟨h1, rfl⟩
    rw [List.length_map, List.take_length]
    exact fi ρ' h1
theorem putBack_wipe {ρ0 : Env} : ∀ {vs : List Nat} {ρ ρ' : Env}, wipeE ρ vs = wipeE ρ' vs → putBack ρ0 ρ vs = putBack ρ0 ρ' vs := by
  have key : ∀ (vs : List Nat) (ρ : Env), putBack ρ0 ρ vs = putBack ρ0 (wipeE ρ vs) vs := by
    intro vs
    have len : ∀ (vs : List Nat) (ρ : Env), (putBack ρ0 ρ vs).length = ρ.length := by
      intro vs
      induction vs with
      | nil => intro ρ; rfl
      | cons v vs ih => intro ρ; show ((putBack ρ0 ρ vs).set v _).length = _; rw [List.length_set, ih]
    have wl : ∀ (vs : List Nat) (ρ : Env), (wipeE ρ vs).length = ρ.length := by
      intro vs
      induction vs with
      | nil => intro ρ; rfl
      | cons v vs ih => intro ρ; show ((wipeE ρ vs).set v _).length = _; rw [List.length_set, ih]
    have gw : ∀ (vs : List Nat) (ρ : Env) (j : Nat), j ∉ vs → (wipeE ρ vs)[j]? = ρ[j]? := by
      intro vs
      induction vs with
      | nil => intro ρ j _; rfl
      | cons v vs ih =>
        intro ρ j hj
        show ((wipeE ρ vs).set v none)[j]? = _
        rw [List.getElem?_set_ne (by intro e; subst e; exact hj List.mem_cons_self), ih ρ j fun m => hj (List.mem_cons_of_mem _ m)]
    have gp : ∀ (vs : List Nat) (ρ : Env) (j : Nat), (putBack ρ0 ρ vs)[j]? = if j ∈ vs then (if j < ρ.length then some (keepD ρ0 j) else none) else ρ[j]? := by
      intro vs
      induction vs with
      | nil => intro ρ j; simp [putBack]
      | cons v vs ih =>
        intro ρ j
        show ((putBack ρ0 ρ vs).set v (keepD ρ0 v))[j]? = _
        by_cases e : v = j
        · subst e
          rw [if_pos List.mem_cons_self]
          by_cases hl : v < ρ.length
          · rw [List.getElem?_set_self (by rw [len]; exact hl), if_pos hl]
          · rw [if_neg hl, List.getElem?_eq_none (by rw [List.length_set, len]; omega)]
        · rw [List.getElem?_set_ne e, ih]
          simp [Ne.symm e]
    intro ρ
    apply List.ext_getElem?
    intro j
    rw [gp, gp, wl]
    by_cases hj : j ∈ vs
    · rw [if_pos hj, if_pos hj]
    · rw [if_neg hj, if_neg hj, gw _ _ _ hj]
  intro vs ρ ρ' e
  rw [key vs ρ, key vs ρ', e]
end L3
namespace L3
open PySem L2
def sh : Nat → D → Bool
  | _, .non => true
  | _, .bl _ => true
  | _, .int _ => true
  | _, .str x => PyData.canLay0 (.str x)
  | k + 1, .tup l => l.all (sh k)
  | k + 1, .ktp l => l.all (sh k)
  | k + 1, .lst l => l.all (sh k)
  | _, _ => false
theorem shs_ok {k : Nat} (ih : ∀ d, sh k d = true → ∃ z, toPy d = some z ∧ z.canLay0 = true ∧ z.depth ≤ k) : ∀ l : List D, l.all (sh k) = true → ∃ zs, toPys l = some zs ∧ PyData.canLayAll0 zs = true ∧ PyData.depthAll zs ≤ k
  | [], _ => ⟨[], by simp only [toPys], by simp only [PyData.canLayAll0], by unfold PyData.depthAll; omega⟩
  | d :: l, h => by
    rw [List.all_cons, Bool.and_eq_true] at h
    obtain ⟨z, e1, e2, e3⟩ := ih d h.1
    obtain ⟨zs, f1, f2, f3⟩ := shs_ok ih l h.2
    refine ⟨z :: zs, ?_, ?_, ?_⟩
    · simp only [toPys, e1, f1, Option.bind_some]
    · unfold PyData.canLayAll0
      rw [e2, f2]; rfl
    · unfold PyData.depthAll
      omega
theorem sh_ok : ∀ (k : Nat) (d : D), sh k d = true → ∃ z, toPy d = some z ∧ z.canLay0 = true ∧ z.depth ≤ k
  | k, .non, _ => ⟨PyData.none, by simp only [toPy], by simp only [PyData.canLay0], by unfold PyData.depth; omega⟩
  | k, .bl b, _ => ⟨PyData.bool b, by simp only [toPy], by simp only [PyData.canLay0], by unfold PyData.depth; omega⟩
  | k, .int i, _ => ⟨PyData.int i, by simp only [toPy], by simp only [PyData.canLay0], by unfold PyData.depth; omega⟩
  | k, .str x, h => ⟨PyData.str x, by simp only [toPy], by simpa only [sh] using h, by unfold PyData.depth; omega⟩
  | k + 1, .tup l, h => by
    obtain ⟨zs, f1, f2, f3⟩ := shs_ok (sh_ok k) l (by simpa only [sh] using h)
    refine ⟨.tuple zs, ?_, by unfold PyData.canLay0; exact f2, by unfold PyData.depth; omega⟩
    simp only [toPy, f1, Option.bind_some]
  | k + 1, .ktp l, h => by
    obtain ⟨zs, f1, f2, f3⟩ := shs_ok (sh_ok k) l (by simpa only [sh] using h)
    refine ⟨.tuple zs, ?_, by unfold PyData.canLay0; exact f2, by unfold PyData.depth; omega⟩
    simp only [toPy, f1, Option.bind_some]
  | k + 1, .lst l, h => by
    obtain ⟨zs, f1, f2, f3⟩ := shs_ok (sh_ok k) l (by simpa only [sh] using h)
    refine ⟨.list zs, ?_, by unfold PyData.canLay0; exact f2, by unfold PyData.depth; omega⟩
    simp only [toPy, f1, Option.bind_some]
  | 0, .tup l, h => by simp [sh] at h
  | 0, .ktp l, h => by simp [sh] at h
  | 0, .lst l, h => by simp [sh] at h
  | k, .dk l, h => by cases k <;> (simp [sh] at h)
  | k, .dd l, h => by cases k <;> (simp [sh] at h)
  | k, .ins C l, h => by cases k <;> (simp [sh] at h)
  | k, .cls a, h => by cases k <;> (simp [sh] at h)
  | k, .bty a, h => by cases k <;> (simp [sh] at h)
  | k, .scr l, h => by cases k <;> (simp [sh] at h)
  | k, .box l, h => by cases k <;> (simp [sh] at h)
mutual
def dEq : D → D → Bool
  | .non, .non => true
  | .bl a, .bl b => a == b
  | .bl a, .int j => (if a then 1 else 0) == j
  | .int i, .bl b => i == (if b then 1 else 0)
  | .int i, .int j => decide (i = j)
  | .str x, .str y => x == y
  | .lst l, .lst m => dEqs l m
  | .tup l, .tup m => dEqs l m
  | .tup l, .ktp m => dEqs l m
  | .ktp l, .tup m => dEqs l m
  | .ktp l, .ktp m => dEqs l m
  | _, _ => false
def dEqs : List D → List D → Bool
  | [], [] => true
  | x :: l, y :: m => dEq x y && dEqs l m
  | _, _ => false
end
mutual
theorem dEq_ok : ∀ (a b : D) {x y : PyData}, toPy a = some x → toPy b = some y → PyData.eqv x y = dEq a b
  | .non, b, x, y, h1, h2 => by
    simp only [toPy, Option.some.injEq] at h1
    subst h1
    cases b with
    | lst m => obtain ⟨z, e3, e4⟩ := bnd h2; cases e4; simp only [PyData.eqv, dEq]
    | tup m => obtain ⟨z, e3, e4⟩ := bnd h2; cases e4; simp only [PyData.eqv, dEq]
    | ktp m => obtain ⟨z, e3, e4⟩ := bnd h2; cases e4; simp only [PyData.eqv, dEq]
    | int m => simp only [toPy, Option.some.injEq] at h2; subst h2; simp [PyData.eqv, dEq, Bool.beq_eq_decide_eq]
    | _ => simp only [toPy, Option.some.injEq, reduceCtorEq] at h2 <;> (subst h2; simp only [PyData.eqv, dEq])
  | .bl p, b, x, y, h1, h2 => by
    simp only [toPy, Option.some.injEq] at h1
    subst h1
    cases b with
    | lst m => obtain ⟨z, e3, e4⟩ := bnd h2; cases e4; simp only [PyData.eqv, dEq]
    | tup m => obtain ⟨z, e3, e4⟩ := bnd h2; cases e4; simp only [PyData.eqv, dEq]
    | ktp m => obtain ⟨z, e3, e4⟩ := bnd h2; cases e4; simp only [PyData.eqv, dEq]
    | int m => simp only [toPy, Option.some.injEq] at h2; subst h2; simp [PyData.eqv, dEq, Bool.beq_eq_decide_eq]
    | _ => simp only [toPy, Option.some.injEq, reduceCtorEq] at h2 <;> (subst h2; simp only [PyData.eqv, dEq])
  | .int p, b, x, y, h1, h2 => by
    simp only [toPy, Option.some.injEq] at h1
    subst h1
    cases b with
    | lst m => obtain ⟨z, e3, e4⟩ := bnd h2; cases e4; simp only [PyData.eqv, dEq]
    | tup m => obtain ⟨z, e3, e4⟩ := bnd h2; cases e4; simp only [PyData.eqv, dEq]
    | ktp m => obtain ⟨z, e3, e4⟩ := bnd h2; cases e4; simp only [PyData.eqv, dEq]
    | int m => simp only [toPy, Option.some.injEq] at h2; subst h2; simp [PyData.eqv, dEq, Bool.beq_eq_decide_eq]
    | _ => simp only [toPy, Option.some.injEq, reduceCtorEq] at h2 <;> (subst h2; simp only [PyData.eqv, dEq])
  | .str p, b, x, y, h1, h2 => by
    simp only [toPy, Option.some.injEq] at h1
    subst h1
    cases b with
    | lst m => obtain ⟨z, e3, e4⟩ := bnd h2; cases e4; simp only [PyData.eqv, dEq]
    | tup m => obtain ⟨z, e3, e4⟩ := bnd h2; cases e4; simp only [PyData.eqv, dEq]
    | ktp m => obtain ⟨z, e3, e4⟩ := bnd h2; cases e4; simp only [PyData.eqv, dEq]
    | int m => simp only [toPy, Option.some.injEq] at h2; subst h2; simp [PyData.eqv, dEq, Bool.beq_eq_decide_eq]
    | _ => simp only [toPy, Option.some.injEq, reduceCtorEq] at h2 <;> (subst h2; simp only [PyData.eqv, dEq])
  | .lst l, b, x, y, h1, h2 => by
    obtain ⟨z1, e1, e2⟩ := bnd h1
    cases e2
    cases b with
    | lst m => obtain ⟨z, e3, e4⟩ := bnd h2; cases e4; simp only [PyData.eqv, dEq]; exact dEqs_ok l m e1 e3
    | tup m => obtain ⟨z, e3, e4⟩ := bnd h2; cases e4; simp only [PyData.eqv, dEq]
    | ktp m => obtain ⟨z, e3, e4⟩ := bnd h2; cases e4; simp only [PyData.eqv, dEq]
    | _ => simp only [toPy, Option.some.injEq, reduceCtorEq] at h2 <;> (subst h2; simp only [PyData.eqv, dEq])
  | .tup l, b, x, y, h1, h2 => by
    obtain ⟨z1, e1, e2⟩ := bnd h1
    cases e2
    cases b with
    | lst m => obtain ⟨z, e3, e4⟩ := bnd h2; cases e4; simp only [PyData.eqv, dEq]
    | tup m => obtain ⟨z, e3, e4⟩ := bnd h2; cases e4; simp only [PyData.eqv, dEq]; exact dEqs_ok l m e1 e3
    | ktp m => obtain ⟨z, e3, e4⟩ := bnd h2; cases e4; simp only [PyData.eqv, dEq]; exact dEqs_ok l m e1 e3
    | _ => simp only [toPy, Option.some.injEq, reduceCtorEq] at h2 <;> (subst h2; simp only [PyData.eqv, dEq])
  | .ktp l, b, x, y, h1, h2 => by
    obtain ⟨z1, e1, e2⟩ := bnd h1
    cases e2
    cases b with
    | lst m => obtain ⟨z, e3, e4⟩ := bnd h2; cases e4; simp only [PyData.eqv, dEq]
    | tup m => obtain ⟨z, e3, e4⟩ := bnd h2; cases e4; simp only [PyData.eqv, dEq]; exact dEqs_ok l m e1 e3
    | ktp m => obtain ⟨z, e3, e4⟩ := bnd h2; cases e4; simp only [PyData.eqv, dEq]; exact dEqs_ok l m e1 e3
    | _ => simp only [toPy, Option.some.injEq, reduceCtorEq] at h2 <;> (subst h2; simp only [PyData.eqv, dEq])
  | .dk l, b, x, y, h1, h2 => by simp only [toPy, reduceCtorEq] at h1
  | .dd l, b, x, y, h1, h2 => by simp only [toPy, reduceCtorEq] at h1
  | .ins C l, b, x, y, h1, h2 => by simp only [toPy, reduceCtorEq] at h1
  | .cls a, b, x, y, h1, h2 => by simp only [toPy, reduceCtorEq] at h1
  | .bty a, b, x, y, h1, h2 => by simp only [toPy, reduceCtorEq] at h1
  | .scr a, b, x, y, h1, h2 => by simp only [toPy, reduceCtorEq] at h1
theorem dEqs_ok : ∀ (l m : List D) {x y : List PyData}, toPys l = some x → toPys m = some y → PyData.eqvAll x y = dEqs l m
  | [], [], _, _, h1, h2 => by cases h1; cases h2; simp only [PyData.eqvAll, dEqs]
  | [], b :: m, _, _, h1, h2 => by
    cases h1
    obtain ⟨z, e1, h2⟩ := bnd h2
    obtain ⟨zs, e2, e3⟩ := bnd h2
    cases e3; simp only [PyData.eqvAll, dEqs]
  | a :: l, [], _, _, h1, h2 => by
    cases h2
    obtain ⟨z, e1, h1⟩ := bnd h1
    obtain ⟨zs, e2, e3⟩ := bnd h1
    cases e3; simp only [PyData.eqvAll, dEqs]
  | a :: l, b :: m, _, _, h1, h2 => by
    obtain ⟨z, e1, h1⟩ := bnd h1
    obtain ⟨zs, e2, e3⟩ := bnd h1
    obtain ⟨y, f1, h2⟩ := bnd h2
    obtain ⟨ys, f2, f3⟩ := bnd h2
    cases e3; cases f3
    simp only [PyData.eqvAll, dEqs]
    rw [dEq_ok a b e1 f1, dEqs_ok l m e2 f2]
end
theorem eqD_sh {a b : D} (ha : sh 64 a = true) (hb : sh 64 b = true) : eqD a b = some (dEq a b) := by
  obtain ⟨x, e1, e2, e3⟩ := sh_ok 64 a ha
  obtain ⟨y, f1, f2, f3⟩ := sh_ok 64 b hb
  unfold eqD
  rw [e1, f1, Option.bind_some, Option.bind_some, if_pos]
  · rw [dEq_ok a b e1 f1]
  · unfold SeqAt.shaped
    simp [e2, f2, e3, f3]
theorem kEq_sh {a b : D} (ha : sh 64 a = true) (hb : sh 64 b = true) : kEq a b = some (.bl (dEq a b)) := by unfold kEq; rw [eqD_sh ha hb]; rfl
theorem kNe_sh {a b : D} (ha : sh 64 a = true) (hb : sh 64 b = true) : kNe a b = some (.bl (!dEq a b)) := by unfold kNe; rw [eqD_sh ha hb]; rfl
theorem kEq_i {i j : Int} : kEq (.int i) (.int j) = some (.bl (decide (i = j))) := by rw [kEq_sh (by unfold sh; rfl) (by unfold sh; rfl)]; rfl
theorem kNe_i {i j : Int} : kNe (.int i) (.int j) = some (.bl (!decide (i = j))) := by rw [kNe_sh (by unfold sh; rfl) (by unfold sh; rfl)]; rfl
theorem kEq_b {i j : Bool} : kEq (.bl i) (.bl j) = some (.bl (i == j)) := by rw [kEq_sh (by unfold sh; rfl) (by unfold sh; rfl)]; rfl
theorem kNe_b {i j : Bool} : kNe (.bl i) (.bl j) = some (.bl (!(i == j))) := by rw [kNe_sh (by unfold sh; rfl) (by unfold sh; rfl)]; rfl
theorem dEqs_map {α : Type} {f : α → D} (h : ∀ x y, dEq (f x) (f y) = true ↔ x = y) : ∀ l m : List α, dEqs (l.map f) (m.map f) = true ↔ l = m
  | [], [] => by simp [dEqs]
  | [], y :: m => by simp [dEqs]
  | x :: l, [] => by simp [dEqs]
  | x :: l, y :: m => by simp [dEqs, h, dEqs_map h l m]
theorem dPair_eq (p q : Int × Int) : dEq (dPair p) (dPair q) = true ↔ p = q := by
  obtain ⟨a, b⟩ := p
  obtain ⟨c, d⟩ := q
  simp [dPair, dEq, dEqs]
theorem sh_pair (p : Int × Int) : sh 63 (dPair p) = true := by
  unfold dPair sh
  simp [sh]
theorem sh_pairs (ps : List (Int × Int)) : sh 64 (.lst (ps.map dPair)) = true := by
  unfold sh
  rw [List.all_map, List.all_eq_true]
  exact fun p _ => sh_pair p
theorem sh_nil : sh 64 (.lst []) = true := by unfold sh; rfl
/-- compared with the empty list -/
theorem kEq_pn {ps : List (Int × Int)} : kEq (.lst (ps.map dPair)) (.lst []) = some (.bl ps.isEmpty) := by
  rw [kEq_sh (sh_pairs ps) sh_nil]
  cases ps <;> rfl
theorem kNe_pn {ps : List (Int × Int)} : kNe (.lst (ps.map dPair)) (.lst []) = some (.bl (!ps.isEmpty)) := by
  rw [kNe_sh (sh_pairs ps) sh_nil]
  cases ps <;> rfl
theorem kEq_nn : kEq (.lst []) (.lst []) = some (.bl true) := kEq_pn (ps := [])
theorem kNe_nn : kNe (.lst []) (.lst []) = some (.bl false) := kNe_pn (ps := [])
theorem ex_last {α : Type} {l : List α} {f : α → D} {Q : D → Prop} {x : α} (h : l.getLast? = some x) (k : Q (f x)) : Ex (atI (l.map f) (-1)) Q := by
  have hn : l ≠ [] := by intro e; subst e; cases h
  rw [atI_last (by intro e; exact hn (List.map_eq_nil_iff.mp e)), List.getLast?_map, h]
  exact ⟨_, rfl, k⟩
theorem rng_len {lo : Int} {n : Nat} : (rng lo n).length = n := by
  unfold rng; rw [List.length_map, List.length_range]
theorem intsOf_ints : ∀ ns : List Int, intsOf (ns.map D.int) = some ns
  | [] => rfl
  | n :: ns => by
    show ((intsOf (ns.map D.int)).bind fun bs => some (n :: bs)) = _
    rw [intsOf_ints ns]; rfl
theorem blsOf_bls : ∀ ns : List Bool, blsOf (ns.map D.bl) = some ns
  | [] => rfl
  | n :: ns => by
    show ((blsOf (ns.map D.bl)).bind fun bs => some (n :: bs)) = _
    rw [blsOf_bls ns]; rfl
theorem pairsOf_pairs : ∀ ns : List (Int × Int), pairsOf (ns.map dPair) = some ns
  | [] => rfl
  | n :: ns => by
    show ((pairOf (dPair n)).bind fun p => (pairsOf (ns.map dPair)).bind fun ps => some (p :: ps)) = _
    rw [pairsOf_pairs ns]; rfl
theorem kSorted_pairs (ps : List (Int × Int)) : kSortedA [.lst (ps.map dPair)] = some (.lst ((psort ps).map dPair)) := by
  show kSorted [.lst (ps.map dPair)] = _
  unfold kSorted
  cases ps with
  | nil => rfl
  | cons p r =>
    show (match intsOf (dPair p :: r.map dPair) with
      | some ns => some (D.lst ((isort ns).map D.int))
      | none => (pairsOf ((p :: r).map dPair)).bind fun ps => some (D.lst ((psort ps).map dPair))) = _
    rw [pairsOf_pairs]
    rfl
theorem kSorted_ints (ns : List Int) : kSortedA [.lst (ns.map D.int)] = some (.lst ((isort ns).map D.int)) := by
  show kSorted [.lst (ns.map D.int)] = _
  unfold kSorted
  dsimp only
  rw [intsOf_ints]
theorem kAny_bls (bs : List Bool) : kAny [.lst (bs.map D.bl)] = some (.bl (bs.any id)) := by
  unfold kAny
  dsimp only
  rw [blsOf_bls]; rfl
theorem kAll_bls (bs : List Bool) : kAll [.lst (bs.map D.bl)] = some (.bl (bs.all id)) := by
  unfold kAll
  dsimp only
  rw [blsOf_bls]; rfl
theorem kSorted_k0 : kSortedA [.ktp []] = some (.lst []) := rfl
theorem kFld_hit {C : Addr} {f : Str} {x : D} {r : List (Str × D)} : kFld C f (.ins C ((f, x) :: r)) = some x := by
  unfold kFld
  dsimp only
  rw [if_pos rfl, List.lookup_cons, beq_self_eq_true]
theorem putFD_n {f : Str} {v : D} : putFD f v [] = [(f, v)] := rfl
theorem x_dspN {acc : List (Key × D)} {ρ : Env} {Q : D × Env → Prop} : Ex (dspLoop [] acc ρ) Q = Q (.dk acc, ρ) := ex_some
theorem x_dspC {fk fv : EM} {r : List (EM × EM)} {acc : List (Key × D)} {ρ : Env} {Q : D × Env → Prop} : Ex (dspLoop ((fk, fv) :: r) acc ρ) Q = Ex (fk ρ) fun p => Ex (fv p.2) fun q => Ex (keyOf p.1) fun k => Ex (dspLoop r (putD acc k q.1) q.2) Q := by
  show Ex ((fk ρ).bind fun p => (fv p.2).bind fun q => (keyOf p.1).bind fun k => dspLoop r (putD acc k q.1) q.2) Q = _
  simp only [ex_eq, ex0_bind]
theorem keyOf_i {i : Int} : keyOf (.int i) = some (.inl i) := rfl
theorem keyOf_s {x : Str} : keyOf (.str x) = some (.inr x) := rfl
/-- a dict used as a set of ints -/
def dset (ks : List Int) : List (Key × D) := ks.map fun k => (Sum.inl k, D.bl true)
theorem dset_len (ks : List Int) : (dset ks).length = ks.length := List.length_map ..
theorem keyInts_dset : ∀ ks : List Int, keyInts (dset ks) = some ks
  | [] => rfl
  | k :: ks => by
    show ((keyInts (dset ks)).bind fun is => some (k :: is)) = _
    rw [keyInts_dset ks]; rfl
theorem kSorted_dset (ks : List Int) : kSortedA [.dk (dset ks)] = some (.lst ((isort ks).map D.int)) := by
  show kSorted [.dk (dset ks)] = _
  unfold kSorted
  dsimp only
  rw [keyInts_dset]; rfl
theorem lfs_map {α : Type} {f : α → D} (h : ∀ x, lf (f x) = true) : ∀ l : List α, lfs (l.map f) = true
  | [] => rfl
  | x :: l => by
    show (lf (f x) && lfs (l.map f)) = true
    rw [h, lfs_map h l]; rfl
theorem lfs_ints (l : List Int) : lfs (l.map D.int) = true := lfs_map (fun _ => rfl) l
theorem lfs_bls (l : List Bool) : lfs (l.map D.bl) = true := lfs_map (fun _ => rfl) l
theorem kIx_p0 {p : Int × Int} : kIx (dPair p) (.int 0) = some (.int p.1) := by
  show atI [D.int p.1, D.int p.2] 0 = _
  rw [atI_0]
theorem kIx_p1 {p : Int × Int} : kIx (dPair p) (.int 1) = some (.int p.2) := by
  show atI [D.int p.1, D.int p.2] 1 = _
  rw [atI_1]
theorem tupItems_p {p : Int × Int} : tupItems (dPair p) = some [.int p.1, .int p.2] := rfl
theorem lf_pair (p : Int × Int) : lf (dPair p) = true := rfl
theorem lfs_pairs (l : List (Int × Int)) : lfs (l.map dPair) = true := lfs_map lf_pair l
end L3
namespace L3
open PySem L2
def kList : List D → Option D
  | [.lst l] => some (.lst l)
  | [.tup l] => some (.lst l)
  | [.ktp l] => some (.lst l)
  | [.scr ns] => some (.lst (ns.map D.int))
  | _ => none
abbrev rListOf (K : KW) : List V → Hp → VK → Prop := fun xs H Q => ∃ p ys, xs = [.ref p] ∧ (SqL K H p ys ∨ SqT K H p ys) ∧ ∀ l, H l = none → Q (.ref l) (upd H l (.lst ys))
theorem reps_one {K : KW} {F : Hp} {vs : List V} {a : D} (r : Reps K F vs [a]) : ∃ v, vs = [v] ∧ Rep K F v a := by
  cases r with
  | cons h rr => cases rr; exact ⟨_, rfl, h⟩
theorem reps_two {K : KW} {F : Hp} {vs : List V} {a b : D} (r : Reps K F vs [a, b]) : ∃ v u, vs = [v, u] ∧ Rep K F v a ∧ Rep K F u b := by
  cases r with
  | cons h rr =>
    obtain ⟨u, e, h2⟩ := reps_one rr
    subst e
    exact ⟨_, _, rfl, h, h2⟩
theorem ok_list {K : KW} : OpN K (rListOf K) kList := by
  intro F H vs as c Q s r e q
  unfold kList at e
  split at e
  · obtain ⟨v, rfl, h⟩ := reps_one r
    cases e
    cases h with
    | lst h1 h2 => exact ⟨_, _, rfl, .inl (SqL.of (s _ _ h1)), fun l hl => q l _ hl (.lst h2)⟩
  · obtain ⟨v, rfl, h⟩ := reps_one r
    cases e
    cases h with
    | tup h1 h2 => exact ⟨_, _, rfl, .inr (SqT.of (s _ _ h1)), fun l hl => q l _ hl (.lst h2)⟩
  · obtain ⟨v, rfl, h⟩ := reps_one r
    cases e
    cases h with
    | ktp h1 h2 => exact ⟨_, _, rfl, .inr (Same.sqt s h1), fun l hl => q l _ hl (.lst h2)⟩
  · obtain ⟨v, rfl, h⟩ := reps_one r
    cases e
    cases h with
    | scr h1 => exact ⟨_, _, rfl, .inl (s.seq h1), fun l hl => q l _ hl (.lst (reps_ints _))⟩
  · cases e
def kTuple : List D → Option D
  | [.lst l] => some (.tup l)
  | [.tup l] => some (.tup l)
  | [.ktp l] => some (.ktp l)
  | _ => none
abbrev rTupleOf (K : KW) : List V → Hp → VK → Prop := fun xs H Q => ∃ p ys, xs = [.ref p] ∧ ((SqL K H p ys ∧ ∀ l, H l = none → Q (.ref l) (upd H l (.tup ys))) ∨ (SqT K H p ys ∧ Q (.ref p) H))
theorem ok_tuple {K : KW} : OpL K (rTupleOf K) kTuple := by
  intro F H vs as c Q s r e q
  unfold kTuple at e
  split at e
  · obtain ⟨v, rfl, h⟩ := reps_one r
    cases e
    cases h with
    | lst h1 h2 =>
      refine ⟨_, _, rfl, .inl ⟨SqL.of (s _ _ h1), fun l hl => q _ _ _ (Ext.alloc s hl _) (.tup upd_same (h2.mono (Ext.alloc s hl _).ff))⟩⟩
  · obtain ⟨v, rfl, h⟩ := reps_one r
    cases e
    have h' := h
    cases h with
    | tup h1 h2 => exact ⟨_, _, rfl, .inr ⟨SqT.of (s _ _ h1), q _ F H (Ext.refl s) h'⟩⟩
  · obtain ⟨v, rfl, h⟩ := reps_one r
    cases e
    have h' := h
    cases h with
    | ktp h1 h2 => exact ⟨_, _, rfl, .inr ⟨Same.sqt s h1, q _ F H (Ext.refl s) h'⟩⟩
  · cases e
def tyN : D → Option String
  | .non => some "NoneType"
  | .bl _ => some "bool"
  | .int _ => some "int"
  | .str _ => some "str"
  | .tup _ => some "tuple"
  | .ktp _ => some "tuple"
  | .lst _ => some "list"
  | .scr _ => some "list"
  | .dk _ => some "dict"
  | _ => none
/-- what of the text an own class must have for isinstance -/
structure IsiC (K : PySem.W.Frag) (C : Addr) : Prop where
  cl : Cls K C
  at_ : PySem.W.findIn K (.ref C) "__class__" = some (some (.builtin "object.__class__"))
  get : PySem.W.specialIn K (.builtin "object.__class__") "__get__" = some (some (.builtin "getset_descriptor.__get__"))
  tk : PySem.W.takesIn K (.builtin "object.__class__") = some true
  ob : PySem.W.mroIn K C (.type "object") = some true
  is_ : (PySem.W.clsIn K C).isSome = true ∧ PySem.W.typeIn K (.ref C) = some (.type "type")
def names7 : List String := ["NoneType", "bool", "int", "str", "tuple", "list", "dict"]
def subN (a b : String) : Bool := a == b || (a == "bool" && b == "int")
theorem kit_names {K : PySem.W.Frag} {a b : String} (ha : a ∈ names7) (hb : b ∈ names7) : PySem.W.kitOne K (.type a) (.type b) = some (subN a b) := by
  simp only [names7, List.mem_cons, List.not_mem_nil, or_false] at ha hb
  rcases ha with rfl | rfl | rfl | rfl | rfl | rfl | rfl <;> rcases hb with rfl | rfl | rfl | rfl | rfl | rfl | rfl <;> kernel_rfl
theorem kit_own {K : PySem.W.Frag} {a : String} {C : Addr} (ha : a ∈ names7) (h : IsiC K C) : PySem.W.kitOne K (.type a) (.ref C) = some false := by
  unfold PySem.W.kitOne
  rw [if_neg (by intro z; exact absurd (eq_of_beq z) (by intro q; cases q))]
  show (if ((PySem.W.clsIn K C).isSome && PySem.W.typeIn K (.ref C) == some (.type "type")) = true then PySem.W.subIn K (.type a) (.ref C) else none) = _
  rw [h.is_.1, h.is_.2, if_pos (by rfl)]
  simp only [names7, List.mem_cons, List.not_mem_nil, or_false] at ha
  rcases ha with rfl | rfl | rfl | rfl | rfl | rfl | rfl <;> kernel_rfl
theorem kit_self {K : PySem.W.Frag} {C : Addr} : PySem.W.kitOne K (.ref C) (.ref C) = some true := by
  unfold PySem.W.kitOne
  rw [if_pos (beq_self_eq_true _)]
theorem tyN_ok {K : KW} {F H : Hp} (s : Same F H) {v : V} {a : D} {n : String} (r : Rep K F v a) (e : tyN a = some n) : TyX K H v (.type n) ∧ n ∈ names7 := by
  cases r with
  | non => cases e; exact ⟨.base .non, by decide⟩
  | bl => cases e; exact ⟨.base (.bl _), by decide⟩
  | int => cases e; exact ⟨.base (.int _), by decide⟩
  | str => cases e; exact ⟨.base (.str _), by decide⟩
  | tup h1 h2 => cases e; exact ⟨.base (.tup (s _ _ h1)), by decide⟩
  | ktp h1 h2 =>
    cases e
    refine ⟨?_, by decide⟩
    rcases Same.sqt s h1 with (h | ⟨o, h⟩) | ⟨o, its, n, h3, h4, h5⟩
    · exact .base (.tup h)
    · exact .fTuple h
    · exact .kTuple h3 h4
  | lst h1 h2 => cases e; exact ⟨.base (.lst (s _ _ h1)), by decide⟩
  | dk h1 h2 => cases e; exact ⟨.base (.dK (s _ _ h1)), by decide⟩
  | dd m h1 ho h2 => cases e
  | scr h1 =>
    cases e
    refine ⟨?_, by decide⟩
    rcases s.seq h1 with (h | ⟨o, h⟩) | ⟨o, its, n, h3, h4, h5⟩
    · exact .base (.lst h)
    · exact .base (.frz h)
    · exact .kList h3 h4
  | ins h1 h2 => cases e
  | cls => cases e
  | bty => cases e
/-- a thing's type: a built-in's name, an own class -/
def tyD : D → Option (String ⊕ Addr)
  | .ins C _ => some (.inr C)
  | d => (tyN d).map Sum.inl
def valT : String ⊕ Addr → Value
  | .inl n => .type n
  | .inr C => .ref C
def isiTy (cs : List Addr) (t : String ⊕ Addr) (c : D) : Option Bool := match t, c with
  | .inl t, .bty n => if n ∈ names7 then some (subN t n) else none
  | .inl _, .cls C => if C ∈ cs then some false else none
  | .inr C', .cls C => if C ∈ cs ∧ C' = C then some true else none
  | _, _ => none
def inCs (cs : List Addr) : String ⊕ Addr → Bool
  | .inl _ => true
  | .inr C => decide (C ∈ cs)
def nmOk : String ⊕ Addr → Prop
  | .inl n => n ∈ names7
  | .inr _ => True
theorem tyD_ok {K : KW} {cs : List Addr} (hc : ∀ C ∈ cs, IsiC K C) {F H : Hp} (s : Same F H) {v : V} {a : D} {t : String ⊕ Addr} (r : Rep K F v a) (e : tyD a = some t) (hi : inCs cs t = true) : TyX K H v (valT t) ∧ nmOk t := by
  unfold tyD at e
  split at e
  · cases e
    cases r with
    | ins h1 h2 =>
      have h := hc _ (of_decide_eq_true hi)
      exact ⟨.base (.ins (s _ _ h1) h.cl h.at_ h.get h.tk h.ob), True.intro⟩
  · obtain ⟨n, e1, e2⟩ := Option.map_eq_some_iff.mp e
    subst e2
    exact tyN_ok s r e1
theorem isiTy_ok {K : KW} {cs : List Addr} (hc : ∀ C ∈ cs, IsiC K C) {F : Hp} {u : V} {c : D} {t : String ⊕ Addr} {b : Bool} (hn : nmOk t) (r : Rep K F u c) (e : isiTy cs t c = some b) : ∃ w, ClsV u w ∧ PySem.W.kitOne K (valT t) w = some b := by
  unfold isiTy at e
  split at e
  · cases r
    split at e
    · rename_i h
      cases e
      exact ⟨_, .ty _, kit_names hn h⟩
    · cases e
  · cases r
    split at e
    · rename_i h
      cases e
      exact ⟨_, .own _, kit_own hn (hc _ h)⟩
    · cases e
  · cases r
    split at e
    · rename_i h
      cases e
      obtain ⟨_, rfl⟩ := h
      exact ⟨_, .own _, kit_self⟩
    · cases e
  · cases e
def kIsi (cs : List Addr) : List D → Option D
  | [a, c] => (tyD a).bind fun t => if inCs cs t then (isiTy cs t c).bind fun b => some (.bl b) else none
  | _ => none
theorem ok_isi {K : KW} {cs : List Addr} (hc : ∀ C ∈ cs, IsiC K C) : OpL K (rIsi K) (kIsi cs) := by
  intro F H vs as c Q s r e q
  unfold kIsi at e
  split at e
  · obtain ⟨v, u, rfl, h1, h2⟩ := reps_two r
    obtain ⟨t, e1, e⟩ := bnd e
    split at e
    · rename_i hi
      obtain ⟨b, e2, e3⟩ := bnd e
      cases e3
      obtain ⟨k1, k2⟩ := tyD_ok hc s h1 e1 hi
      obtain ⟨w, k3, k4⟩ := isiTy_ok hc k2 h2 e2
      exact ⟨_, _, _, w, b, rfl, k3, k1, k4, q _ F H (Ext.refl s) .bl⟩
    · cases e
  · cases e
/-- isinstance(x, (c1, c2, ..)), the tuple displayed: all of them are looked at -/
def isiAny (cs : List Addr) (t : String ⊕ Addr) : List D → Option Bool
  | [] => some false
  | c :: r => (isiTy cs t c).bind fun b => (isiAny cs t r).bind fun b' => some (b || b')
def kIsiT (cs : List Addr) : List D → Option D
  | [a, .tup l] => (tyD a).bind fun t => if inCs cs t then (isiAny cs t l).bind fun b => some (.bl b) else none
  | _ => none
theorem isiAny_ok {K : KW} {cs : List Addr} (hc : ∀ C ∈ cs, IsiC K C) {F : Hp} {t : String ⊕ Addr} (hn : nmOk t) : ∀ {us : List V} {l : List D} {b : Bool}, Reps K F us l → isiAny cs t l = some b → ∃ ws, Paired ClsV us ws ∧ PySem.W.kitAny K (valT t) ws = some b
  | _, _, _, .nil, e => by cases e; exact ⟨[], .nil, rfl⟩
  | _, _, _, .cons r1 r2, e => by
    obtain ⟨b1, e1, e⟩ := bnd e
    obtain ⟨b2, e2, e3⟩ := bnd e
    cases e3
    obtain ⟨w, k1, k2⟩ := isiTy_ok hc hn r1 e1
    obtain ⟨ws, k3, k4⟩ := isiAny_ok hc hn r2 e2
    refine ⟨w :: ws, .cons k1 k3, ?_⟩
    unfold PySem.W.kitAny
    rw [k2]
    cases b1
    · exact k4
    · rfl
theorem ok_isiT {K : KW} {cs : List Addr} (hc : ∀ C ∈ cs, IsiC K C) : OpL K (rIsiT K) (kIsiT cs) := by
  intro F H vs as c Q s r e q
  unfold kIsiT at e
  split at e
  · obtain ⟨v, u, rfl, h1, h2⟩ := reps_two r
    obtain ⟨t, e1, e⟩ := bnd e
    split at e
    · rename_i hi
      obtain ⟨b, e2, e3⟩ := bnd e
      cases e3
      obtain ⟨k1, k2⟩ := tyD_ok hc s h1 e1 hi
      cases h2 with
      | tup h3 h4 =>
        obtain ⟨ws, k3, k4⟩ := isiAny_ok hc k2 h4 e2
        exact ⟨_, _, _, _, ws, b, rfl, s _ _ h3, k3, k1, k4, q _ F H (Ext.refl s) .bl⟩
    · cases e
  · cases e
def cutL {α : Type} (xs : List α) (lo hi : Option Int) : List α := (xs.drop (HT.sIx xs.length 0 lo)).take (HT.sIx xs.length xs.length hi - HT.sIx xs.length 0 lo)
def wholeL (n : Nat) (lo hi : Option Int) : Bool := decide (HT.sIx n 0 lo = 0 ∧ HT.sIx n n hi = n)
theorem cutL_whole {α : Type} {xs : List α} {lo hi : Option Int} (h : HT.sIx xs.length 0 lo = 0 ∧ HT.sIx xs.length xs.length hi = xs.length) : cutL xs lo hi = xs := by
  unfold cutL
  rw [h.1, h.2, List.drop_zero, Nat.sub_zero, List.take_length]
theorem reps_cut {K : KW} {F : Hp} {vs : List V} {ds : List D} (h : Reps K F vs ds) (lo hi : Option Int) : Reps K F (cutV vs lo hi) (cutL ds lo hi) := by
  unfold cutV cutL
  rw [h.length]
  exact Reps.take _ (Reps.drop _ h)
def kSl (lo hi : Option Int) : D → Option D
  | .tup l => some (.tup (cutL l lo hi))
  | .ktp l => if wholeL l.length lo hi then some (.ktp l) else some (.tup (cutL l lo hi))
  | .lst l => some (.lst (cutL l lo hi))
  | .scr l => some (.lst ((cutL l lo hi).map D.int))
  | .str z => if z.length ≤ 16777216 then some (.str (cutS z lo hi)) else none
  | _ => none
abbrev rSl (K : KW) : V → Option Int → Option Int → Hp → VK → Prop := fun x lo hi H Q => rSlA K x lo hi H Q ∨ rSlL K x lo hi H Q ∨ rSlS x lo hi H Q
theorem sl_all {X : Cx} : SlR X (rSl X.kw) := SlR.or sl_tupA (SlR.or sl_list sl_str)
theorem cutV_ints (ns : List Int) (lo hi : Option Int) : cutV (ns.map V.int) lo hi = (cutL ns lo hi).map V.int := by
  unfold cutV cutL
  rw [List.length_map, List.map_take, List.map_drop]
theorem ok_sl {K : KW} (lo hi : Option Int) : Op1 K (fun x H Q => rSl K x lo hi H Q) (kSl lo hi) := by
  intro F H v a c Q s r e q
  unfold kSl at e
  split at e
  · cases e
    cases r with
    | tup h1 h2 =>
      refine .inl ⟨_, _, rfl, SqT.of (s _ _ h1), fun hw => ?_, fun _ p hp => q _ _ _ (Ext.alloc s hp _) (.tup upd_same ((reps_cut h2 lo hi).mono (Ext.alloc s hp _).ff))⟩
      rw [h2.length] at hw
      rw [cutL_whole hw] at q
      exact q _ F H (Ext.refl s) (.tup h1 h2)
  · cases r with
    | ktp h1 h2 =>
      split at e
      · rename_i hw
        cases e
        have hw' := of_decide_eq_true hw
        rw [← h2.length] at hw'
        exact .inl ⟨_, _, rfl, Same.sqt s h1, fun _ => q _ F H (Ext.refl s) (.ktp h1 h2), fun n => absurd hw' n⟩
      · rename_i hw
        cases e
        have hw' : ¬ _ := fun z => hw (decide_eq_true z)
        rw [← h2.length] at hw'
        exact .inl ⟨_, _, rfl, Same.sqt s h1, fun z => absurd z hw', fun _ p hp => q _ _ _ (Ext.alloc s hp _) (.tup upd_same ((reps_cut h2 lo hi).mono (Ext.alloc s hp _).ff))⟩
  · cases e
    cases r with
    | lst h1 h2 => exact .inr (.inl ⟨_, _, rfl, SqL.of (s _ _ h1), fun p hp => q _ _ _ (Ext.alloc s hp _) (.lst upd_same ((reps_cut h2 lo hi).mono (Ext.alloc s hp _).ff))⟩)
  · cases e
    cases r with
    | scr h1 =>
      refine .inr (.inl ⟨_, _, rfl, s.seq h1, fun p hp => ?_⟩)
      rw [cutV_ints]
      exact q _ _ _ (Ext.alloc s hp _) (.lst upd_same (reps_ints _))
  · split at e
    · rename_i hz
      cases e
      cases r
      exact .inr (.inr ⟨_, rfl, by rw [sizeLine_eq]; exact hz, q _ F H (Ext.refl s) .str⟩)
    · cases e
  · cases e
abbrev BM := Env → Option (Option Int × Env)
def bN : BM := fun ρ => some (none, ρ)
def bS (f : EM) : BM := fun ρ => (f ρ).bind fun p => match p.1 with
  | .int i => some (some i, p.2)
  | _ => none
def tB (K : KW) (g : Gx) (f : BM) : TO := fun σ H Q => ∃ F ρ o ρ', Gd K g F H σ ρ ∧ f ρ = some (o, ρ') ∧ ∀ F' H', Gd K g F' H' σ ρ' → Same F F' → Q o H'
theorem weakPO {X : Cx} {e : Option Expr} {t t' : TO} (h : PO X e t) (i : ∀ σ H Q, t' σ H Q → t σ H Q) : PO X e t' := ⟨fun pins s σ H Q I q => h.run pins s σ H Q I (i _ _ _ q)⟩
section
variable {X : Cx} {g : Gx} {ex : Expr} {lo hi : Option Expr} {f : EM} {fo : OM} {bl bh : BM} {pos p2 : Pos}
theorem db_n : PO X none (tB X.kw g bN) := weakPO po_none fun σ H Q ⟨F, ρ, o, ρ', G, hf, q⟩ => by
  cases hf
  exact q F H G (Same.refl _)
theorem db_s (h : DE X g ex f) : PO X (some ex) (tB X.kw g (bS f)) := weakPO (po_some h) fun σ H Q ⟨F, ρ, o, ρ', G, hf, q⟩ => by
  obtain ⟨p, e1, hf⟩ := bnd hf
  split at hf
  · rename_i i hi
    cases hf
    refine ⟨F, ρ, p.1, p.2, G, e1, fun v F' H' G' s r => ?_⟩
    rw [hi] at r
    cases r
    exact ⟨i, rfl, q F' H' G' s⟩
  · cases hf
/-- x[lo:hi] as data -/
def eSl (fo : OM) (bl bh : BM) : EM := fun ρ => (fo ρ).bind fun p => (bl p.2).bind fun l => (bh l.2).bind fun h => (res h.2 p.1).bind fun a => (kSl l.1 h.1 a).bind fun c => fin (isVal p.1) c h.2
theorem de_sl (he : DO X g ex fo) (hl : PO X lo (tB X.kw g bl)) (hh : PO X hi (tB X.kw g bh)) : DE X g (.Subscript ex (.Slice lo hi none p2) pos) (eSl fo bl bh) :=
  weakPE (pe_slice sl_all he hl hh) fun σ H Q ⟨F, ρ, d, ρ', G, hf, q⟩ => by
  obtain ⟨p, e1, hf⟩ := bnd hf
  obtain ⟨l, e2, hf⟩ := bnd hf
  obtain ⟨h, e3, hf⟩ := bnd hf
  obtain ⟨a, e4, hf⟩ := bnd hf
  obtain ⟨c, e5, hf⟩ := bnd hf
  refine ⟨F, ρ, p.1, p.2, G, e1, fun v F1 H1 G1 s1 r1 => ⟨F1, p.2, l.1, l.2, G1, e2, fun F2 H2 G2 s2 => ⟨F2, l.2, h.1, h.2, G2, e3, fun F3 H3 G3 s3 => ?_⟩⟩⟩
  exact G3.op1 (r := fun x H Q => rSl X.kw x l.1 h.1 H Q) (ok_sl l.1 h.1) ((r1.mono s2).mono s3) e4 e5 hf fun w F4 H4 G4 s4 r4 => q w F4 H4 G4 (((s1.trans s2).trans s3).trans s4) r4
end
end L3
namespace L3
open PySem L2
def zipD (xs ys : List D) : List D := (xs.zip ys).map fun p => D.tup [p.1, p.2]
theorem zipD_get {xs ys : List D} {i : Nat} {x y : D} (h1 : xs[i]? = some x) (h2 : ys[i]? = some y) : (zipD xs ys)[i]? = some (.tup [x, y]) := by
  unfold zipD
  rw [List.getElem?_map, List.getElem?_zip_eq_some (z := (x, y)) |>.mpr ⟨h1, h2⟩]
  rfl
theorem zipD_len {xs ys : List D} : (zipD xs ys).length = min xs.length ys.length := by
  unfold zipD
  rw [List.length_map, List.length_zip]
theorem walk_zipL {K : KW} {F0 : Hp} {a b : Addr} {xs ys : List V} {ds es : List D} (ha : F0 a = some (.lst xs)) (hb : F0 b = some (.lst ys)) (ra : Reps K F0 xs ds) (rb : Reps K F0 ys es) : WalkOk K (Itz K a b) F0 (zipD ds es) where
  go := fun i F H s1 s2 hi => by
    rw [zipD_len, ← ra.length, ← rb.length] at hi
    exact ⟨xs, ys, xs[i]'(by omega), ys[i]'(by omega), SqL.of (s2 _ _ (s1 _ _ ha)), SqL.of (s2 _ _ (s1 _ _ hb)), List.getElem?_eq_getElem _, List.getElem?_eq_getElem _⟩
  yld := fun i F H v H' s1 s2 hi ⟨T, x, y, ev, hT, eH, hx, hy⟩ => by
    subst ev eH
    obtain ⟨d, e1, r1⟩ := ra.get' (hx xs (SqL.of (s2 _ _ (s1 _ _ ha))))
    obtain ⟨e, e2, r2⟩ := rb.get' (hy ys (SqL.of (s2 _ _ (s1 _ _ hb))))
    have X1 := Ext.alloc s2 hT (.tup [x, y])
    exact ⟨_, _, zipD_get e1 e2, X1, .tup upd_same (.cons (Rep.mono X1.ff (r1.mono s1)) (.cons (Rep.mono X1.ff (r2.mono s1)) .nil))⟩
  stop := fun i F H s1 s2 hi => by
    rw [zipD_len, ← ra.length, ← rb.length] at hi
    exact ⟨xs, ys, SqL.of (s2 _ _ (s1 _ _ ha)), SqL.of (s2 _ _ (s1 _ _ hb)), by omega⟩
theorem walk_zipT {K : KW} {F0 : Hp} {a b : Addr} {xs ys : List V} {ds es : List D} (ha : SqT K F0 a xs) (hb : SqT K F0 b ys) (ra : Reps K F0 xs ds) (rb : Reps K F0 ys es) : WalkOk K (RZ.ItzT K a b) F0 (zipD ds es) where
  go := fun i F H s1 s2 hi => by
    rw [zipD_len, ← ra.length, ← rb.length] at hi
    exact ⟨xs, ys, xs[i]'(by omega), ys[i]'(by omega), Same.sqt s2 (Same.sqt s1 ha), Same.sqt s2 (Same.sqt s1 hb), List.getElem?_eq_getElem _, List.getElem?_eq_getElem _⟩
  yld := fun i F H v H' s1 s2 hi ⟨T, x, y, ev, hT, eH, hx, hy⟩ => by
    subst ev eH
    obtain ⟨d, e1, r1⟩ := ra.get' (hx xs (Same.sqt s2 (Same.sqt s1 ha)))
    obtain ⟨e, e2, r2⟩ := rb.get' (hy ys (Same.sqt s2 (Same.sqt s1 hb)))
    have X1 := Ext.alloc s2 hT (.tup [x, y])
    exact ⟨_, _, zipD_get e1 e2, X1, .tup upd_same (.cons (Rep.mono X1.ff (r1.mono s1)) (.cons (Rep.mono X1.ff (r2.mono s1)) .nil))⟩
  stop := fun i F H s1 s2 hi => by
    rw [zipD_len, ← ra.length, ← rb.length] at hi
    exact ⟨xs, ys, Same.sqt s2 (Same.sqt s1 ha), Same.sqt s2 (Same.sqt s1 hb), by omega⟩
def zipM : List Opd → Option (List D)
  | [.val (.lst l), .val (.lst m)] => some (zipD l m)
  | [.val (.tup l), .val (.tup m)] => some (zipD l m)
  | [.val (.tup l), .val (.ktp m)] => some (zipD l m)
  | [.val (.ktp l), .val (.tup m)] => some (zipD l m)
  | [.val (.ktp l), .val (.ktp m)] => some (zipD l m)
  | _ => none
def itZ (f : AM) : LM := fun ρ => (f ρ).bind fun p => (zipM p.1).bind fun l => some (l, p.2)
def tupP : D → Option (List D)
  | .tup l => some l
  | .ktp l => some l
  | _ => none
theorem rep_tupP {K : KW} {F : Hp} {v : V} {d : D} {l : List D} (r : Rep K F v d) (e : tupP d = some l) : ∃ p vs, v = .ref p ∧ SqT K F p vs ∧ Reps K F vs l := by
  cases d <;> cases e <;> cases r
  · rename_i h1 h2; exact ⟨_, _, rfl, SqT.of h1, h2⟩
  · rename_i h1 h2; exact ⟨_, _, rfl, h1, h2⟩
theorem zipM_cases {os : List Opd} {l : List D} (e : zipM os = some l) : (∃ a b, os = [.val (.lst a), .val (.lst b)] ∧ l = zipD a b) ∨ ∃ x y a b, os = [.val x, .val y] ∧ tupP x = some a ∧ tupP y = some b ∧ l = zipD a b := by
  unfold zipM at e
  split at e
  · cases e; exact .inl ⟨_, _, rfl, rfl⟩
  · cases e; exact .inr ⟨_, _, _, _, rfl, rfl, rfl, rfl⟩
  · cases e; exact .inr ⟨_, _, _, _, rfl, rfl, rfl, rfl⟩
  · cases e; exact .inr ⟨_, _, _, _, rfl, rfl, rfl, rfl⟩
  · cases e; exact .inr ⟨_, _, _, _, rfl, rfl, rfl, rfl⟩
  · cases e
section
variable {X : Cx} {g : Gx} {a b : Expr} {fa : AM} {p pos tpos : Pos} {elts : List Expr} {kk : Nat}
theorem di_zip (hg : Gl X "zip") (hm : X.mg "zip" = none) (ha : DA X g [a, b] fa) (hs : starEach [a, b] X.env = (false, eval a X.env) :: starEach [b] X.env := by rfl) (hpl : (backTo pos (starEach [b] X.env)).any (·.1) = false := by rfl) :
    DI X g (.Tuple elts kk tpos) (.Call (.Name "zip" p) [a, b] [] pos) (itZ fa) :=
  weakPI (RZ.pi_zipA hg hm ha hs hpl) fun σ H R ⟨F, ρ, ds, ρ', G, hf, q⟩ => by
  obtain ⟨q1, e, hf⟩ := bnd hf
  obtain ⟨l, e2, hf⟩ := bnd hf
  obtain ⟨os, ρ1⟩ := q1
  cases hf
  refine ⟨F, ρ, os, ρ1, G, e, fun vs F' H' G' s r => ?_⟩
  rcases zipM_cases e2 with ⟨x, y, rfl, rfl⟩ | ⟨x, y, l1, l2, rfl, t1, t2, rfl⟩
  · cases r with
    | cons r1 rr =>
      cases rr with
      | cons r2 rr =>
        cases rr
        have r1' : Rep X.kw F' _ (.lst x) := r1
        have r2' : Rep X.kw F' _ (.lst y) := r2
        cases r1' with
        | lst h1 h2 =>
          cases r2' with
          | lst h3 h4 => exact ⟨_, _, _, _, rfl, .inl ⟨SqL.of (G'.sub _ _ h1), SqL.of (G'.sub _ _ h3), q _ F' H' G' s (walk_zipL h1 h3 h2 h4)⟩⟩
  · cases r with
    | cons r1 rr =>
      cases rr with
      | cons r2 rr =>
        cases rr
        obtain ⟨p1, w1, rfl, h1, h2⟩ := rep_tupP (show Rep X.kw F' _ x from r1) t1
        obtain ⟨p2, w2, rfl, h3, h4⟩ := rep_tupP (show Rep X.kw F' _ y from r2) t2
        exact ⟨_, _, _, _, rfl, .inr ⟨Same.sqt G'.sub h1, Same.sqt G'.sub h3, q _ F' H' G' s (walk_zipT h1 h3 h2 h4)⟩⟩
end
def enumD (xs : List D) : List D := zipD (rng 0 xs.length) xs
theorem enumD_get {xs : List D} {i : Nat} {x : D} (h : xs[i]? = some x) : (enumD xs)[i]? = some (.tup [.int (i : Nat), x]) := by
  have hi := (List.getElem?_eq_some_iff.mp h).1
  refine zipD_get ?_ h
  unfold rng
  rw [List.getElem?_map, List.getElem?_range hi]
  show some (D.int (0 + (i : Int))) = _
  rw [Int.zero_add]
theorem enumD_len {xs : List D} : (enumD xs).length = xs.length := by
  unfold enumD
  rw [zipD_len, rng_len]
  omega
theorem walk_enum {K : KW} {F0 : Hp} {a : Addr} {xs : List V} {ds : List D} (ha : F0 a = some (.lst xs)) (ra : Reps K F0 xs ds) : WalkOk K (Ite K a) F0 (enumD ds) where
  go := fun i F H s1 s2 hi => by
    rw [enumD_len, ← ra.length] at hi
    exact ⟨xs, xs[i]'hi, SqL.of (s2 _ _ (s1 _ _ ha)), List.getElem?_eq_getElem _⟩
  yld := fun i F H v H' s1 s2 hi ⟨T, x, ev, hT, eH, hx⟩ => by
    subst ev eH
    obtain ⟨d, e1, r1⟩ := ra.get' (hx xs (SqL.of (s2 _ _ (s1 _ _ ha))))
    have X1 := Ext.alloc s2 hT (.tup [.int (i : Nat), x])
    exact ⟨_, _, enumD_get e1, X1, .tup upd_same (.cons .int (.cons (Rep.mono X1.ff (r1.mono s1)) .nil))⟩
  stop := fun i F H s1 s2 hi => by
    rw [enumD_len, ← ra.length] at hi
    exact ⟨xs, SqL.of (s2 _ _ (s1 _ _ ha)), hi⟩
def itE (f : AM) : LM := fun ρ => (f ρ).bind fun p => match p.1 with
  | [.val (.lst l)] => some (enumD l, p.2)
  | _ => none
theorem di_enum {X : Cx} {g : Gx} {a : Expr} {fa : AM} {p pos tpos : Pos} {elts : List Expr} {kk : Nat} (hg : Gl X "enumerate") (hm : X.mg "enumerate" = none) (ha : DA X g [a] fa) (hs : starEach [a] X.env = [(false, eval a X.env)] := by rfl) :
    DI X g (.Tuple elts kk tpos) (.Call (.Name "enumerate" p) [a] [] pos) (itE fa) :=
  weakPI (pi_enum hg hm ha hs) fun σ H R ⟨F, ρ, ds, ρ', G, hf, q⟩ => by
  obtain ⟨q1, e, hf⟩ := bnd hf
  obtain ⟨os, ρ1⟩ := q1
  refine ⟨F, ρ, os, ρ1, G, e, fun vs F' H' G' s r => ?_⟩
  dsimp only at hf
  split at hf
  · cases hf
    cases r with
    | cons r1 rr =>
      cases rr
      rename_i l _
      have r1' : Rep X.kw F' _ (.lst l) := r1
      cases r1' with
      | lst h1 h2 => exact ⟨_, _, rfl, SqL.of (G'.sub _ _ h1), q _ F' H' G' s (walk_enum h1 h2)⟩
  · cases hf
end L3
namespace L3
open PySem L2
def isS : D → Bool
  | .str _ => true
  | _ => false
def strD : D → Option Str
  | .str y => some y
  | _ => none
end L3
namespace L3
open PySem L2
def whl (t : TM) (b : SM) : Nat → SM
  | 0, _ => none
  | n + 1, ρ => (t ρ).bind fun p => if p.1 then (b p.2).bind fun q => match q.1 with
    | .nx => whl t b n q.2
    | .ct => whl t b n q.2
    | .br => some (.nx, q.2)
    | o => some (o, q.2)
    else some (.nx, p.2)
theorem ds_while {X : Cx} {g : Gx} {c : Expr} {body : List Stmt} {t : TM} {b : SM} {pos : Pos} (N : Nat) (hp : PassesOwn (model X.prog X.w) X.A X.env X.xe) (hc : DT X g c t) (hb : DSs X g body b) : DS X g (.While c body [] pos) (whl t b N) :=
  weakPS (ps_while hp hc hb) fun E σ H ⟨F, ρ, o, ρ', G, hf, q⟩ => by
  refine ⟨fun n σ H => ∃ F2 ρ2, Gd X.kw g F2 H σ ρ2 ∧ Same F F2 ∧ whl t b n ρ2 = some (o, ρ'), ⟨N, F, ρ, G, Same.refl _, hf⟩, ?_⟩
  rintro n σ H ⟨F2, ρ2, G2, s2, hw⟩
  cases n with
  | zero => cases hw
  | succ n =>
    obtain ⟨⟨b1, ρ3⟩, e1, hw⟩ := bnd hw
    refine ⟨F2, ρ2, b1, ρ3, G2, e1, fun F3 H3 G3 s3 => ?_⟩
    cases b1 with
    | false =>
      cases hw
      exact iteF (q _ F3 H3 G3 (s2.trans s3))
    | true =>
      refine iteT ?_
      simp only [if_true] at hw
      obtain ⟨⟨o4, ρ4⟩, e4, hw⟩ := bnd hw
      refine ⟨fun σ' H' => ∃ F5, Gd X.kw g F5 H' σ' ρ4 ∧ Same F F5 ∧ whl t b n ρ4 = some (o, ρ'), fun σ' H' ⟨F5, G5, s5, h5⟩ => ⟨n, Nat.lt_succ_self n, F5, ρ4, G5, s5, h5⟩, F3, ρ3, o4, ρ4, G3, e4, fun σ' F5 H5 G5 s5 => ?_⟩
      have s6 := (s2.trans s3).trans s5
      cases o4 with
      | nx => exact ⟨F5, G5, s6, hw⟩
      | ct => exact ⟨F5, G5, s6, hw⟩
      | br => cases hw; exact q _ F5 H5 G5 s6
      | rt d => cases hw; exact q _ F5 H5 G5 s6
      | rn x => cases hw; exact q _ F5 H5 G5 s6
      | rr x => cases hw; exact q _ F5 H5 G5 s6
end L3
namespace L3
open PySem L2
section
variable {ρ : Env} {Q : D × Env → Prop} {QL : List D × Env → Prop} {QS : Out × Env → Prop} {QB : Option Int × Env → Prop} {a : AM} {o o2 : OM} {f : EM} {bl bh : BM} {i : Nat}
theorem x_bN : Ex (bN ρ) QB = QB (none, ρ) := ex_some
theorem x_bS : Ex (bS f ρ) QB = Ex (f ρ) fun p => ∃ i, p.1 = .int i ∧ QB (some i, p.2) := by
  unfold bS; simp only [ex_eq]; rw [ex0_bind]
  congr 1; funext p
  obtain ⟨d, ρ'⟩ := p
  cases d <;> simp [ex0_some, ex0_none]
theorem x_eSl : Ex (eSl o bl bh ρ) Q = Ex (o ρ) fun p => Ex (bl p.2) fun l => Ex (bh l.2) fun h => Ex (res h.2 p.1) fun a => Ex (kSl l.1 h.1 a) fun c => Ex (fin (isVal p.1) c h.2) Q := by
  unfold eSl; simp only [ex_eq, ex0_bind]
theorem x_itZ : Ex (itZ a ρ) QL = Ex (a ρ) fun p => Ex (zipM p.1) fun l => QL (l, p.2) := by
  unfold itZ; simp only [ex_eq, ex0_bind, ex0_some]
def lstArg : List Opd → Option (List D)
  | [.val (.lst l)] => some l
  | _ => none
theorem x_itE : Ex (itE a ρ) QL = Ex (a ρ) fun p => Ex (lstArg p.1) fun l => QL (enumD l, p.2) := by
  unfold itE; simp only [ex_eq]; rw [ex0_bind]
  congr 1; funext p
  obtain ⟨l, ρ'⟩ := p
  unfold lstArg
  rcases l with _ | ⟨x, _ | ⟨y, r⟩⟩
  · simp only [ex0_none]
  · rcases x with d | _ | _ <;> try simp only [ex0_none]
    cases d <;> simp only [ex0_some, ex0_none]
  · rcases x with d | _ | _ <;> simp only [ex0_none]
end
theorem kSl_l {l : List D} {lo hi : Option Int} : kSl lo hi (.lst l) = some (.lst (cutL l lo hi)) := rfl
theorem kSl_t {l : List D} {lo hi : Option Int} : kSl lo hi (.tup l) = some (.tup (cutL l lo hi)) := rfl
theorem zipM_l {l m : List D} : zipM [.val (.lst l), .val (.lst m)] = some (zipD l m) := rfl
theorem kList_l {l : List D} : kList [.lst l] = some (.lst l) := rfl
theorem kTuple_l {l : List D} : kTuple [.lst l] = some (.tup l) := rfl
theorem kTuple_t {l : List D} : kTuple [.tup l] = some (.tup l) := rfl
theorem cutL_map {α : Type} {f : α → D} {l : List α} {lo hi : Option Int} : cutL (l.map f) lo hi = (cutL l lo hi).map f := by
  unfold cutL
  rw [List.length_map, List.map_take, List.map_drop]
theorem cutL_from {α : Type} {l : List α} {k : Nat} : cutL l (some (k : Int)) none = l.drop k := by
  have e2 : HT.sIx l.length l.length none = l.length := rfl
  have e1 : HT.sIx l.length 0 (some (k : Int)) = min k l.length := by
    show (if (k : Int) < 0 then ((k : Int) + (l.length : Int)).toNat else min (k : Int).toNat l.length) = _
    rw [if_neg (by omega)]
    rfl
  unfold cutL
  rw [e1, e2]
  by_cases h : k ≤ l.length
  · rw [Nat.min_eq_left h, ← List.length_drop, List.take_length]
  · rw [Nat.min_eq_right (by omega), List.drop_length, List.drop_eq_nil_of_le (by omega), List.take_nil]
theorem zipD_map {α β : Type} {f : α → D} {g : β → D} {l : List α} {m : List β} : zipD (l.map f) (m.map g) = (l.zip m).map fun p => D.tup [f p.1, g p.2] := by
  unfold zipD
  rw [List.zip_map, List.map_map]
  rfl
end L3
namespace L3
theorem cutL_1 {α : Type} {l : List α} : cutL l (some 1) none = l.drop 1 := cutL_from (k := 1)
end L3
namespace L3
theorem kIsN_n {a : D} : kIsN a .non = some (.bl (isN a)) := rfl
theorem kNotN_n {a : D} : kNotN a .non = some (.bl (!isN a)) := rfl
theorem isN_n : isN .non = true := rfl
theorem isN_i {i : Int} : isN (.int i) = false := rfl
theorem isN_s {x : PySem.Str} : isN (.str x) = false := rfl
theorem isN_t {l : List D} : isN (.tup l) = false := rfl
end L3
namespace L3
end L3
namespace L3
open PySem L2
theorem isort_mem {l : List Int} {x : Int} : x ∈ isort l ↔ x ∈ l := (sortBy_perm l).mem_iff
end L3
namespace L3
open PySem L2
theorem kIsi_b {cs : List Addr} {a : D} {n m : String} (ht : tyD a = some (.inl n)) (hm : m ∈ names7) : kIsi cs [a, .bty m] = some (.bl (subN n m)) := by
  show ((tyD a).bind fun t => if inCs cs t then (isiTy cs t (.bty m)).bind fun b => some (D.bl b) else none) = _
  rw [ht]
  show ((if m ∈ names7 then some (subN n m) else none).bind fun b => some (D.bl b)) = _
  rw [if_pos hm]
  rfl
theorem kIsi_ll {cs : List Addr} {l : List D} : kIsi cs [.lst l, .bty "list"] = some (.bl true) := kIsi_b (n := "list") rfl (by decide)
theorem kIsi_tt {cs : List Addr} {l : List D} : kIsi cs [.tup l, .bty "tuple"] = some (.bl true) := kIsi_b (n := "tuple") rfl (by decide)
end L3
namespace L3
open PySem L2
end L3
namespace L3
open PySem PySem.Spec PyProof.Rows L2
def strOk : D → Bool
  | .str _ => true
  | _ => false
def blOk : D → Bool
  | .bl _ => true
  | _ => false
def oneOpd : List Opd → Option Opd
  | [o] => some o
  | _ => none
end L3
namespace L3
open PySem PySem.Spec PyProof.Rows L2
def lstOnly : D → Option (List D)
  | .lst l => some l
  | _ => none
theorem tupItems_t {l : List D} : tupItems (.tup l) = some l := rfl
theorem tupItems_kt {l : List D} : tupItems (.ktp l) = some l := rfl
theorem lstItems_l {l : List D} : lstItems (.lst l) = some l := rfl
theorem lstItems_sc {l : List Int} : lstItems (.scr l) = some (l.map D.int) := rfl
theorem lstOnly_l {l : List D} : lstOnly (.lst l) = some l := rfl
theorem oneOpd_1 {o : Opd} : oneOpd [o] = some o := rfl
theorem resOf_rt {d : D} : resOf (.rt d) = some (.d d) := rfl
theorem resOf_rn {d : D} : resOf (.rn d) = some (.n d) := rfl
theorem resOf_nx : resOf .nx = some (.d .non) := rfl
theorem resL_n {d : D} : resL (.n d) = some d := rfl
theorem resL_d {d : D} : resL (.d d) = none := rfl
theorem isNon_d : L3.isNon (.d .non) = true := rfl
theorem isCls_c {C : Addr} : isCls C (.cls C) = true := by simp [isCls]
theorem insOf_i {C : Addr} {fs : List (Str × D)} : insOf C (some (.ins C fs)) = true := by simp [insOf]
theorem insOk_i {C : Addr} {m : Str} {fs : List (Str × D)} : insOk C m (some (.ins C fs)) = (fs.lookup m).isNone := by simp [insOk]
theorem conts_v {ρ : Env} {d : D} : conts ρ (.val d) = some d := rfl
theorem conts_r {ρ : Env} {i : Nat} : conts ρ (.ref i) = ownAny ρ i := rfl
theorem conts_i {ρ : Env} {i : Nat} : conts ρ (.io i) = ownAny ρ i := rfl
theorem strOk_s {s : Str} : strOk (.str s) = true := rfl
theorem blOk_b {b : Bool} : blOk (.bl b) = true := rfl
theorem lfo_l {l : List D} : lfo (.lst l) = lfs l := rfl
theorem lfo_k {l : List (Key × D)} : lfo (.dk l) = lfk l := rfl
theorem lfo_i {C : Addr} {l : List (Str × D)} : lfo (.ins C l) = lff l := rfl
def two : List D → Option (D × D)
  | [x, y] => some (x, y)
  | _ => none
theorem two_2 {x y : D} : two [x, y] = some (x, y) := rfl
theorem x_sPar2 {i j : Nat} {a : AM} {ρ : Env} {QS : Out × Env → Prop} : Ex (sPar i j a ρ) QS = Ex (a ρ) fun p => Ex (valsOf p.1) fun ds => Ex (two ds) fun z => QS (.nx, (p.2.set i (some (.d z.1))).set j (some (.d z.2))) := by
  rw [x_sPar]; simp only [ex_eq]
  congr 1; funext p
  congr 1; funext ds
  apply propext
  constructor
  · rintro ⟨x, y, rfl, h⟩
    exact ⟨_, rfl, h⟩
  · rintro ⟨z, e, h⟩
    unfold two at e
    split at e
    · cases e; exact ⟨_, _, rfl, h⟩
    · cases e
theorem x_lcLoop_n {h : GM} {t : TM} {e : EM} {vs : List Nat} {acc : List D} {ρ : Env} {Q : List D × Env → Prop} : Ex (lcLoop h t e vs [] acc ρ) Q = Q (acc, ρ) := ex_some
theorem x_lcLoop_c {h : GM} {t : TM} {e : EM} {vs : List Nat} {d : D} {r acc : List D} {ρ : Env} {Q : List D × Env → Prop} : Ex (lcLoop h t e vs (d :: r) acc ρ) Q = Ex (h d (wipeE ρ vs)) fun ρ1 => Ex (t ρ1) fun p =>
    (p.1 = true → Ex (e p.2) fun q => acc.length < 16777216 ∧ Ex (lcLoop h t e vs r (acc ++ [q.1]) q.2) Q) ∧ (p.1 = false → Ex (lcLoop h t e vs r acc p.2) Q) := by
  simp only [ex_eq]
  rw [show lcLoop h t e vs (d :: r) acc ρ = ((h d (wipeE ρ vs)).bind fun ρ1 => (t ρ1).bind fun p => if p.1 then (e p.2).bind fun q => if acc.length < 16777216 then lcLoop h t e vs r (acc ++ [q.1]) q.2 else none else lcLoop h t e vs r acc p.2) from rfl]
  simp only [ex0_bind, bt0, ex0_guard]
def kInX (neg : Bool) (a b : D) : Option D := match b with
  | .lst l => if sh 64 a && sh 64 (.lst l) then some (.bl (if neg then !l.any (fun z => dEq z a) else l.any fun z => dEq z a)) else none
  | _ => none
theorem any_pairs (p : Int × Int) (ps : List (Int × Int)) : ((ps.map dPair).any fun z => dEq z (dPair p)) = decide (p ∈ ps) := by
  rw [List.any_map, Bool.eq_iff_iff, List.any_eq_true, decide_eq_true_eq]
  constructor
  · rintro ⟨x, h1, h2⟩
    rw [← (dPair_eq x p).mp h2]; exact h1
  · intro h
    exact ⟨p, h, (dPair_eq p p).mpr rfl⟩
theorem sh_pair64 (p : Int × Int) : sh 64 (dPair p) = true := by
  unfold dPair sh
  rfl
theorem kInX_p {p : Int × Int} {ps : List (Int × Int)} : kInX false (dPair p) (.lst (ps.map dPair)) = some (.bl (decide (p ∈ ps))) := by
  unfold kInX
  dsimp only
  rw [if_pos (by rw [sh_pair64, sh_pairs]; rfl), any_pairs]
  rfl
theorem kNotInX_p {p : Int × Int} {ps : List (Int × Int)} : kInX true (dPair p) (.lst (ps.map dPair)) = some (.bl (!decide (p ∈ ps))) := by
  unfold kInX
  dsimp only
  rw [if_pos (by rw [sh_pair64, sh_pairs]; rfl), any_pairs]
  rfl
theorem kEq_pd (p q : Int × Int) : kEq (dPair p) (dPair q) = some (.bl (decide (p = q))) := by
  rw [kEq_sh (sh_pair64 _) (sh_pair64 _)]
  congr 2
  rw [Bool.eq_iff_iff, dPair_eq, decide_eq_true_eq]
theorem kNe_pd (p q : Int × Int) : kNe (dPair p) (dPair q) = some (.bl (!decide (p = q))) := by
  rw [kNe_sh (sh_pair64 _) (sh_pair64 _)]
  congr 3
  rw [Bool.eq_iff_iff, dPair_eq, decide_eq_true_eq]
theorem kEq_pp (a b : List (Int × Int)) : kEq (.lst (a.map dPair)) (.lst (b.map dPair)) = some (.bl (decide (a = b))) := by
  rw [kEq_sh (sh_pairs _) (sh_pairs _)]
  have := dEqs_map dPair_eq a b
  congr 2
  show dEqs _ _ = _
  rw [Bool.eq_iff_iff, this, decide_eq_true_eq]
theorem kNe_pp (a b : List (Int × Int)) : kNe (.lst (a.map dPair)) (.lst (b.map dPair)) = some (.bl (!decide (a = b))) := by
  rw [kNe_sh (sh_pairs _) (sh_pairs _)]
  have := dEqs_map dPair_eq a b
  congr 3
  show dEqs _ _ = _
  rw [Bool.eq_iff_iff, this, decide_eq_true_eq]
theorem kInX_t {a b : Int} {ps : List (Int × Int)} : kInX false (.tup [.int a, .int b]) (.lst (ps.map dPair)) = some (.bl (decide ((a, b) ∈ ps))) := kInX_p (p := (a, b))
theorem kNotInX_t {a b : Int} {ps : List (Int × Int)} : kInX true (.tup [.int a, .int b]) (.lst (ps.map dPair)) = some (.bl (!decide ((a, b) ∈ ps))) := kNotInX_p (p := (a, b))
end L3
namespace L3
open PySem PySem.Spec PyProof.Rows L2
section
variable {X : Cx} {g : Gx} {e st : Expr} {te : TE} {ts : TO} {pos p2 : Pos} {f : OM}
def kRev : List D → Option D
  | [.lst l] => some (.lst l.reverse)
  | _ => none
end
theorem kRev_l {l : List D} : kRev [.lst l] = some (.lst l.reverse) := rfl
end L3
namespace L3
open PySem PySem.Spec PyProof.Rows L2
mutual
theorem kd_ok {K : KW} : ∀ {d : D} {u : Value}, kd K u d = true → ∃ v, RelV v u ∧ ∀ F, Rep K F v d
  | .non, .none, _ => ⟨.non, rfl, fun _ => .non⟩
  | .bl c, .bool b, h => by
    have : b = c := by unfold kd at h; exact beq_iff_eq.mp h
    subst this
    exact ⟨.bl b, rfl, fun _ => .bl⟩
  | .int j, .int i t, h => by
    have : i = j := by unfold kd at h; exact of_decide_eq_true h
    subst this
    exact ⟨.int i, ⟨t, rfl⟩, fun _ => .int⟩
  | .str y, .str x t, h => by
    have : x = y := by unfold kd at h; exact of_decide_eq_true h
    subst this
    exact ⟨.str x, ⟨t, rfl⟩, fun _ => .str⟩
  | .ktp ds, .ref a, h => by
    unfold kd at h
    split at h
    · rename_i c od its n osl e
      obtain ⟨h1, h2⟩ := He.ba h
      obtain ⟨h3, h4⟩ := He.ba h2
      have e1 := of_decide_eq_true h1
      subst e1
      have h3' := of_decide_eq_true h3
      obtain ⟨vs, r1, r2⟩ := kds_ok h4
      refine ⟨.ref a, rfl, fun F => .ktp (.inr ⟨_, its, n, e, rfl, rfl, ?_, r1⟩) (r2 F)⟩
      exact Nat.le_of_lt (small1000 h3')
    · cases h
theorem kds_ok {K : KW} : ∀ {ds : List D} {us : List Value}, kds K us ds = true → ∃ vs, Vals vs us ∧ ∀ F, Reps K F vs ds
  | [], [], _ => ⟨[], .nil, fun _ => .nil⟩
  | d :: ds, u :: us, h => by
    unfold kds at h
    obtain ⟨h1, h2⟩ := He.ba h
    obtain ⟨v, r1, r2⟩ := kd_ok h1
    obtain ⟨vs, r3, r4⟩ := kds_ok h2
    exact ⟨v :: vs, .cons r1 r3, fun F => .cons (r2 F) (r4 F)⟩
end
/-- the global x is the data -/
def GCon (K : KW) (mg : Str → Option Value) (x : Str) (d : D) : Prop := ∃ v u, mg x = some u ∧ RelV v u ∧ (∀ F, Rep K F v d) ∧ ∀ ds, d = .ktp ds → ∃ p o, v = .ref p ∧ K.fr.lookup p = some o ∧ o.cls = .type "tuple" ∧ o.dict = none
theorem topB_ok {K : KW} {v : V} {u : Value} {d : D} {F : Hp} (r1 : RelV v u) (r2 : Rep K F v d) (h : topB K.fr u d = true) : ∀ ds, d = .ktp ds → ∃ p o, v = .ref p ∧ K.fr.lookup p = some o ∧ o.cls = .type "tuple" ∧ o.dict = none := by
  intro ds e
  subst e
  cases r2 with
  | @ktp p vs _ hq rs =>
    have eu : u = .ref p := r1
    subst eu
    unfold topB at h
    dsimp only at h
    split at h
    · rename_i o ho
      obtain ⟨h1, h2⟩ := He.ba h
      exact ⟨p, o, rfl, ho, of_decide_eq_true h1, Option.isNone_iff_eq_none.mp h2⟩
    · cases h
theorem gcB_ok {K : PySem.W.Frag} {w : World} {h : Heap} {mg : Str → Option Value} (X : K.In h) (G : h.Ns mainGlobals mg) {x : Str} {d : D} (c : gcB x d K = true) : GCon ⟨K, w⟩ mg x d := by
  unfold gcB at c
  split at c
  · rename_i u e
    obtain ⟨c, c2⟩ := He.ba c
    obtain ⟨v, r1, r2⟩ := kd_ok (K := ⟨K, w⟩) c
    exact ⟨v, u, PySem.W.mg_of X G e, r1, r2, topB_ok r1 (r2 fun _ => none) c2⟩
  · cases c
theorem de_gc {X : Cx} {g : Gx} {x : Str} {pos : Pos} {d : D} (hg : Gl X x) (h : GCon X.kw X.mg x d) (hdb : (x == ("__debug__" : Str)) = false := by decide) : DE X g (.Name x pos) (eC d) := by
  obtain ⟨v, u, e, r1, r2⟩ := h
  exact de_c (pe_glob hg e r1 (hd := hdb)) r2.1
def TabAt (K : KW) (d : Addr) (tab : List (Str × D)) : Prop := ∀ s, (∀ e, tab.lookup s = some e → ∃ u v, PySem.W.nsIn K d s = some (some u) ∧ RelV v u ∧ ∀ F, Rep K F v e) ∧ (tab.lookup s = none → PySem.W.nsIn K d s = some none)
theorem tabB_ok {K : KW} (s : Str) : ∀ {tab : List (Str × D)} {es : List DictEntry}, tabB tab K es = true → (∀ e, tab.lookup s = some e → ∃ en v, es.find? (·.key.isStr s) = some en ∧ RelV v en.val ∧ ∀ F, Rep K F v e) ∧ (tab.lookup s = none → es.find? (·.key.isStr s) = none) ∧ es.any (·.refKey) = false
  | [], [], _ => ⟨fun _ h => (nomatch h), fun _ => rfl, rfl⟩
  | (z, d) :: tab, e :: es, h => by
    unfold tabB at h
    obtain ⟨h1, h2⟩ := He.ba h
    obtain ⟨h3, h4⟩ := He.ba h2
    obtain ⟨i1, i2, i3⟩ := tabB_ok s h4
    split at h1
    · rename_i x t ek
      have ex := of_decide_eq_true h1
      subst ex
      have ik : e.key.isStr s = decide (x = s) := by rw [ek]; first | rfl | (unfold Value.isStr; first | rfl | (rw [Bool.eq_iff_iff]; simp))
      have rk : e.refKey = false := by unfold DictEntry.refKey; rw [ek]
      rw [List.find?_cons, List.any_cons, rk, i3, ik]
      by_cases q : s = x
      · subst q
        refine ⟨fun d' hd => ?_, fun hn => ?_, rfl⟩
        · rw [List.lookup_cons, beq_self_eq_true] at hd
          cases hd
          obtain ⟨v, r1, r2⟩ := kd_ok h3
          exact ⟨e, v, by simp, r1, r2⟩
        · rw [List.lookup_cons, beq_self_eq_true] at hn
          cases hn
      · have q1 : (s == x) = false := by rw [beq_eq_false_iff_ne]; exact q
        have q2 : decide (x = s) = false := decide_eq_false fun z => q z.symm
        rw [List.lookup_cons, q1, q2]
        exact ⟨i1, i2, rfl⟩
    · cases h1
theorem ktB_ok {K : PySem.W.Frag} {w : World} {x : Str} {tab : List (Str × D)} (h : ktB x tab K = true) : TabAt ⟨K, w⟩ (He.ga K x) tab := by
  unfold ktB at h
  split at h
  · rename_i oc od es n osl e
    intro s
    obtain ⟨h1, h2, h3⟩ := tabB_ok (K := ⟨K, w⟩) s h
    refine ⟨fun d hd => ?_, fun hn => ?_⟩
    · obtain ⟨en, v, e1, r1, r2⟩ := h1 d hd
      refine ⟨en.val, v, ?_, r1, r2⟩
      unfold PySem.W.nsIn
      rw [e]
      dsimp only
      rw [e1]
    · unfold PySem.W.nsIn
      rw [e]
      dsimp only
      rw [h2 hn]
      dsimp only
      rw [h3]
      rfl
  · cases h
end L3
namespace L3
open PySem PySem.Spec PyProof.Rows L2
/-- the global x is a dict with these text keys -/
def KTab (K : KW) (w : World) (mg : Str → Option Value) (x : Str) (tab : List (Str × D)) : Prop := ∃ d es n, mg x = some (.ref d) ∧ KDict K w d es n ∧ TabAt K d tab
def tKGet2 (K : KW) (tab : List (Str × D)) (ty tx : TE) : TE := fun σ H Q => ty σ H fun y H1 => tx σ H1 fun z H2 => ∃ s, y = .str s ∧ (∀ e v, tab.lookup s = some e → (∀ F, Rep K F v e) → Q v H2) ∧ (tab.lookup s = none → Q z H2)
section
variable {X : Cx} {x : Str} {tab : List (Str × D)} {e f : Expr} {p apos cpos pos : Pos} {ty tx : TE}
theorem pe_kget2 (hg : Gl X x) (T : KTab X.kw X.w X.mg x tab) (he : PE X e ty) (hf : PE X f tx) (m : M2 X (.Name x p) "get" apos e f cpos) (hdb : (x == ("__debug__" : Str)) = false := by decide) : PE X (.Call (.Attribute (.Name x p) "get" apos) [e, f] [] cpos) (tKGet2 X.kw tab ty tx) := by
  obtain ⟨d, es, n, hm, D, ht⟩ := T
  refine ⟨fun pins s σ H Q I h => ?_⟩
  have ho : PE X (.Name x p) (tC (.ref d)) := pe_glob hg hm rfl (hd := hdb)
  refine wpAny_Call_method m.base m.few m.line PySem.F.plainAttrs_dict PySem.F.slot_dict_get PySem.F.type_dict_get (thn (ho.run pins s σ H (fun v H1 => v = .ref d ∧ H1 = H) I ⟨rfl, rfl⟩) fun u s1 ⟨v, H1, I1, rx, ex, eH⟩ => ?_)
  subst ex; subst eH
  obtain rfl : u = Value.ref d := rx
  have hk := I1.kIn _ _ D.at_
  refine ⟨kd_type D I1, fun b eb => by cases eb; exact ⟨_, hk, rfl⟩, ?_⟩
  rw [m.trees]
  refine Calls.callWith_builtin rfl (Calls.evalArgs_plain (Calls.spliced_cons (thn (he.run pins s1 σ H1 _ I1 h) fun iv s2 ⟨y, H2, I2, ry, q2⟩ =>
    Calls.spliced_cons (thn (hf.run pins s2 σ H2 _ I2 q2) fun fv s3 ⟨z, H3, I3, rz, st, ey, q3, q4⟩ => Calls.spliced_nil ?_))))
  subst ey
  obtain ⟨t, rfl⟩ := ry
  have hmap := PySem.W.mapOf_K (prog := X.prog) (w := X.w) I3.kIn D.at_ D.lit
  refine call_meetsIn PySem.F.slot_dict_get hmap.typeIs PySem.F.entry_dict_get (PySem.F.args_dict_get_3 _ _ _) (meets_dict_get_default (strKind X.prog X.w) d (strKind_is X.prog X.w st t) D.low fv) ⟨_, hmap, ?_⟩
  obtain ⟨h1, h2⟩ := ht st
  cases hl : tab.lookup st with
  | some e' =>
    obtain ⟨u, v, en, ru, rv⟩ := h1 e' hl
    rw [PySem.W.find_K D.at_ en]
    exact ⟨v, H3, I3.tok _, ru, q3 e' v hl rv⟩
  | none =>
    rw [PySem.W.find_K D.at_ (h2 hl)]
    exact ⟨z, H3, I3.tok _, rz, q4 hl⟩
end
def eKGet (tab : List (Str × D)) (fk fd : EM) : EM := fun ρ => (fk ρ).bind fun p => (fd p.2).bind fun q => match p.1 with
  | .str s => some ((tab.lookup s).getD q.1, q.2)
  | _ => none
section
variable {X : Cx} {g : Gx} {x : Str} {tab : List (Str × D)} {e f ex : Expr} {p apos cpos pos : Pos} {fk fd : EM}
theorem de_kget2 (hg : Gl X x) (T : KTab X.kw X.w X.mg x tab) (he : DE X g e fk) (hf : DE X g f fd) (m : M2 X (.Name x p) "get" apos e f cpos) (hdb : (x == ("__debug__" : Str)) = false := by decide) : DE X g (.Call (.Attribute (.Name x p) "get" apos) [e, f] [] cpos) (eKGet tab fk fd) :=
  weakPE (pe_kget2 hg T he hf m (hdb := hdb)) fun σ H Q ⟨F, ρ, d, ρ', G, hf, q⟩ => by
  obtain ⟨⟨a, ρ1⟩, e1, hf⟩ := bnd hf
  obtain ⟨⟨b, ρ2⟩, e2, hf⟩ := bnd hf
  dsimp only at hf
  refine ⟨F, ρ, a, ρ1, G, e1, fun v F1 H1 G1 s1 r1 => ⟨F1, ρ1, b, ρ2, G1, e2, fun w F2 H2 G2 s2 r2 => ?_⟩⟩
  cases a with
  | str s =>
    cases r1
    cases hf
    refine ⟨s, rfl, fun e' v' hl rv => ?_, fun hl => ?_⟩
    · rw [hl] at q
      exact q v' F2 H2 G2 (s1.trans s2) (rv F2)
    · rw [hl] at q
      exact q w F2 H2 G2 (s1.trans s2) r2
  | _ => cases hf
end
theorem keyOf_kV2 {K : KW} {F : Hp} {v : V} {d : D} {k : Key} (r : Rep K F v d) (e : L3.keyOf d = some k) : v = kV k := by
  unfold L3.keyOf at e
  split at e
  · cases e; cases r; rfl
  · cases e; cases r; rfl
  · cases e
def seqItems : D → Option (List D)
  | .tup l => some l
  | .ktp l => some l
  | .lst l => some l
  | _ => none
def aS (f : EM) (h : AM) : AM := fun ρ => (f ρ).bind fun p => (seqItems p.1).bind fun l => (h p.2).bind fun q => some (l.map Opd.val ++ q.1, q.2)
theorem OpdsOk.vals {K : KW} {F : Hp} {σ : L2.St} {vs2 : List V} {os : List Opd} (h : OpdsOk K F σ vs2 os) : ∀ {vs : List V} {l : List D}, Reps K F vs l → OpdsOk K F σ (vs ++ vs2) (l.map Opd.val ++ os)
  | _, _, .nil => h
  | _, _, .cons r rr => .cons r (OpdsOk.vals h rr)
theorem seqItems_ok {K : KW} {F H : Hp} (s : Same F H) {v : V} {d : D} {l : List D} (r : Rep K F v d) (e : seqItems d = some l) : ∃ p xs, v = .ref p ∧ (SqT K H p xs ∨ SqL K H p xs) ∧ Reps K F xs l := by
  unfold seqItems at e
  split at e
  · cases e; cases r with | tup h1 h2 => exact ⟨_, _, rfl, .inl (SqT.of (s _ _ h1)), h2⟩
  · cases e; cases r with | ktp h1 h2 => exact ⟨_, _, rfl, .inl (Same.sqt s h1), h2⟩
  · cases e; cases r with | lst h1 h2 => exact ⟨_, _, rfl, .inr (SqL.of (s _ _ h1)), h2⟩
  · cases e
section
variable {X : Cx} {g : Gx} {ex : Expr} {es : List Expr} {f : EM} {fa : AM} {p pos : Pos}
theorem da_s (h : DE X g ex f) (hr : DA X g es fa) (hs : starEach (.Starred ex p :: es) X.env = (true, eval ex X.env) :: starEach es X.env := by rfl) : DA X g (.Starred ex p :: es) (aS f fa) := weakPA (StX.pa_star h hr hs) fun σ H Q ⟨F, ρ, d, ρ', G, hf, q⟩ => by
  obtain ⟨⟨a, ρ1⟩, e1, hf⟩ := bnd hf
  obtain ⟨l, e2, hf⟩ := bnd hf
  obtain ⟨⟨os, ρ2⟩, e3, hf⟩ := bnd hf
  cases hf
  refine ⟨F, ρ, a, ρ1, G, e1, fun v F1 H1 G1 s1 r1 => ?_⟩
  obtain ⟨p', xs, ev, hx, rx⟩ := seqItems_ok G1.sub r1 e2
  exact ⟨p', xs, ev, hx, F1, ρ1, os, _, G1, e3, fun vs F2 H2 G2 s2 r2 => q _ F2 H2 G2 (s1.trans s2) (OpdsOk.vals r2 (rx.mono s2))⟩
def eTupS (f : AM) : EM := fun ρ => (f ρ).bind fun p => (valsOf p.1).bind fun ds => if ds.length ≤ 1000 then some (.tup ds, p.2) else none
def nLstS (f : AM) : NM := fun ρ => (f ρ).bind fun p => (valsOf p.1).bind fun ds => if ds.length ≤ 1000 then some (.lst ds, p.2) else none
theorem valsOf_len : ∀ {os : List Opd} {ds : List D}, valsOf os = some ds → os.length = ds.length
  | [], _, e => by cases e; rfl
  | .val d :: os, _, e => by
    obtain ⟨ds', e1, e2⟩ := bnd e
    cases e2
    simp [valsOf_len e1]
  | .ref _ :: _, _, e => by cases e
  | .io _ :: _, _, e => by cases e
theorem de_tupS {x1} (h : DA X g es fa) : DE X g (.Tuple es x1 pos) (eTupS fa) := weakPE (pe_tup h) fun σ H Q ⟨F, ρ, d, ρ', G, hf, q⟩ => by
  obtain ⟨p, e, hf⟩ := bnd hf
  obtain ⟨ds, e1, hf⟩ := bnd hf
  split at hf
  · rename_i hl
    cases hf
    refine ⟨F, ρ, p.1, p.2, G, e, fun vs F' H' G' s r => ⟨?_, fun a ha => ?_⟩⟩
    · rw [r.length, valsOf_len e1]; exact Nat.le_of_lt (small1000 hl)
    · have x := Ext.alloc G'.sub ha (.tup vs)
      exact q _ _ _ (G'.ext x) (s.trans x.ff) (.tup upd_same ((valsOk r e1).mono x.ff))
  · cases hf
theorem dn_lstS (h : DA X g es fa) : DN X g (.List es pos) (nLstS fa) := weakPE (pe_lst h) fun σ H Q ⟨F, ρ, d, ρ', G, hf, q⟩ => by
  obtain ⟨p, e, hf⟩ := bnd hf
  obtain ⟨ds, e1, hf⟩ := bnd hf
  split at hf
  · rename_i hl
    cases hf
    refine ⟨F, ρ, p.1, p.2, G, e, fun vs F' H' G' s r => ⟨?_, fun a ha => ?_⟩⟩
    · rw [r.length, valsOf_len e1]; exact Nat.le_of_lt (small1000 hl)
    · obtain ⟨G2, h1, h2, h3, h4⟩ := G'.fresh ha (.lst vs)
      exact q _ _ _ _ G2 s upd_same h1 h2 h3 h4 (.lst (valsOk r e1))
  · cases hf
end
def strO : D → Option Str
  | .str s => some s
  | _ => none
theorem strO_s {s : Str} : strO (.str s) = some s := rfl
def dkD : D → Option (List (Key × D))
  | .dk l => some l
  | _ => none
theorem dkD_k {l : List (Key × D)} : dkD (.dk l) = some l := rfl
theorem seqItems_t {l : List D} : seqItems (.tup l) = some l := rfl
theorem seqItems_kt {l : List D} : seqItems (.ktp l) = some l := rfl
theorem seqItems_l {l : List D} : seqItems (.lst l) = some l := rfl
section
variable {tab : List (Str × D)} {fk fd fx : EM} {fa : AM} {ρ : Env} {Q : D × Env → Prop} {QA : List Opd × Env → Prop} {neg : Bool}
theorem x_eKGet : Ex (eKGet tab fk fd ρ) Q = Ex (fk ρ) fun p => Ex (fd p.2) fun q => Ex (strO p.1) fun s => Q ((tab.lookup s).getD q.1, q.2) := by
  simp only [ex_eq]
  unfold eKGet
  simp only [ex0_bind]
  congr 1; funext p; congr 1; funext q
  obtain ⟨a, r⟩ := p
  cases a <;> simp only [strO, ex0_none, ex0_some]
theorem x_aS : Ex (aS fk fa ρ) QA = Ex (fk ρ) fun p => Ex (seqItems p.1) fun l => Ex (fa p.2) fun q => QA (l.map Opd.val ++ q.1, q.2) := by
  simp only [ex_eq]
  unfold aS
  simp only [ex0_bind, ex0_some]
theorem x_eTupS : Ex (eTupS fa ρ) Q = Ex (fa ρ) fun p => Ex (valsOf p.1) fun ds => ds.length ≤ 1000 ∧ Q (.tup ds, p.2) := by
  simp only [ex_eq]
  unfold eTupS
  simp only [ex0_bind, ex0_guard, ex0_some]
theorem x_nLstS : Ex (nLstS fa ρ) Q = Ex (fa ρ) fun p => Ex (valsOf p.1) fun ds => ds.length ≤ 1000 ∧ Q (.lst ds, p.2) := by
  simp only [ex_eq]
  unfold nLstS
  simp only [ex0_bind, ex0_guard, ex0_some]
end
theorem valsOf_app : ∀ (l : List D) (os : List Opd), valsOf (l.map Opd.val ++ os) = (valsOf os).bind fun ds => some (l ++ ds)
  | [], os => by cases h : valsOf os <;> simp [h]
  | d :: l, os => by
    show (valsOf (l.map Opd.val ++ os)).bind (fun ds => some (d :: ds)) = _
    rw [valsOf_app l os]
    cases valsOf os <;> rfl
theorem x_valsApp {l : List D} {os : List Opd} {Q : List D → Prop} : Ex (valsOf (l.map Opd.val ++ os)) Q = Ex (valsOf os) fun ds => Q (l ++ ds) := by
  simp only [ex_eq]
  rw [valsOf_app, ex0_bind]
  simp only [ex0_some]
theorem ktab_of {K : PySem.W.Frag} {w : World} {mg : Str → Option Value} {x : Str} {tab : List (Str × D)} (h1 : mg x = some (.ref (He.ga K x))) (h2 : ∃ es n, KDict K w (He.ga K x) es n) (h3 : ktB x tab K = true) : KTab ⟨K, w⟩ w mg x tab := by
  obtain ⟨es, n, D⟩ := h2
  exact ⟨_, es, n, h1, D, ktB_ok h3⟩
end L3
namespace HX
open PySem PySem.Calls PyProof.Rows L2
def pushAll (l : List Obj) (h : Heap) : Heap := l.foldl Heap.push h
def setAll (d : Addr) (l : List DictEntry) (h : Heap) : Heap := l.foldl (fun h e => h.update d (putE e)) h
inductive TabE : List (Option Expr) → List Expr → Tab → Prop
  | nil : TabE [] [] []
  | cons {a b v : Str} {k1 k2 k3 : Nat} {p1 p2 p3 pt : Pos} {kt : Nat} {ks : List (Option Expr)} {vs : List Expr} {r : Tab} : TabE ks vs r →
    TabE (some (.Tuple [.Constant (.str a) k1 p1, .Constant (.str b) k2 p2] kt pt) :: ks) (.Constant (.str v) k3 p3 :: vs) (((a, b), v) :: r)
section
variable {prog : Program} {w : World} {A : Around} {E : Value → Shared → Prop} {env : Env} {pos : Pos}
theorem wp_evalTab {ks : List (Option Expr)} {vs : List Expr} {tab : Tab} (h : TabE ks vs tab) : ∀ {s : Shared} {Q : List (Value × Value) → Shared → Prop},
    Q ((tabEnts tab s.heap.objs.size s.toks).map fun x => (Value.ref x.2.1, x.2.2)) { s with heap := pushAll (tabObjs tab s.toks) s.heap, toks := s.toks + 3 * tab.length } → wpAny (model prog w) A (evalPairs (pairTrees ks vs env pos)) Q E s := by
  induction h with
  | nil => intro s Q hQ; exact pairTrees_nil_walk hQ
  | @cons a b v k1 k2 k3 p1 p2 p3 pt kt ks vs r h ih =>
    intro s Q hQ
    have tr : backTo pt (starEach [.Constant (.str a) k1 p1, .Constant (.str b) k2 p2] env) = [(false, eval (.Constant (.str a) k1 p1) env), (false, eval (.Constant (.str b) k2 p2) env)] := rfl
    refine pairTrees_cons_walk (wpAny_Tuple ?_)
    rw [tr]
    refine spliced_cons (wpAny_Constant_str (spliced_cons (wpAny_Constant_str (spliced_nil ⟨by rw [sizeLine_eq]; simp, ?_⟩))))
    refine wpAny_Constant_str (ih ?_)
    have e1 : (s.heap.push { cls := .type "tuple", data := .seq [Value.str a s.toks, Value.str b (s.toks + 1)].toArray }).objs.size = s.heap.objs.size + 1 := Heap.size_push _ _
    have e2 : s.toks + 1 + 1 + 1 + 3 * r.length = s.toks + 3 * (((a, b), v) :: r).length := by rw [List.length_cons]; omega
    show Q (_ :: _) _
    rw [show ({ s with toks := s.toks + 1 + 1 + 1, heap := s.heap.push { cls := .type "tuple", data := .seq [Value.str a s.toks, Value.str b (s.toks + 1)].toArray } } : Shared).heap.objs.size = s.heap.objs.size + 1 from e1]
    rw [show ({ s with toks := s.toks + 1 + 1 + 1, heap := s.heap.push { cls := .type "tuple", data := .seq [Value.str a s.toks, Value.str b (s.toks + 1)].toArray } } : Shared).toks + 3 * r.length = s.toks + 3 * (((a, b), v) :: r).length from e2]
    exact hQ
theorem push_keep : ∀ {l : List Obj} {h : Heap} {a : Addr} {o : Obj}, h.get? a = some o → (pushAll l h).get? a = some o
  | [], _, _, _, e => e
  | x :: l, h, a, o, e => push_keep (l := l) (h := h.push x) (Heap.get?_push_of_some x e)
theorem ents_is : ∀ {tab : Tab} {h : Heap} {t : Nat}, ∀ x ∈ tabEnts tab h.objs.size t, (kX prog w).is (pushAll (tabObjs tab t) h) x.1 x.2.1
  | [], _, _, x, hx => by cases hx
  | ((a, b), v) :: r, h, t, x, hx => by
    rcases List.mem_cons.mp hx with rfl | hx
    · exact ⟨_, _, _, push_keep (l := tabObjs r (t + 3)) (Heap.get?_push_size h rfl), rfl, rfl, .cons (by show Value.isStrOf a (.str a t) = true; simp [Value.isStrOf]) (.cons (by show Value.isStrOf b (.str b (t + 1)) = true; simp [Value.isStrOf]) .nil)⟩
    · rw [← Heap.size_push h { cls := .type "tuple", data := .seq [Value.str a t, Value.str b (t + 1)].toArray }] at hx
      exact ents_is (tab := r) (h := h.push { cls := .type "tuple", data := .seq [Value.str a t, Value.str b (t + 1)].toArray }) x hx
theorem ents_two : ∀ {tab : Tab} {n t : Nat}, ∀ x ∈ tabEnts tab n t, x.1.length = 2
  | [], _, _, x, hx => by cases hx
  | ((a, b), v) :: r, n, t, x, hx => by
    rcases List.mem_cons.mp hx with rfl | hx
    · rfl
    · exact ents_two x hx
theorem ents_keys : ∀ {tab : Tab} {n t : Nat}, (tabEnts tab n t).map (·.1) = tab.map fun p => [(.inr p.1.1 : L2.Key), .inr p.1.2]
  | [], _, _ => rfl
  | ((a, b), v) :: r, n, t => by
    show _ :: (tabEnts r (n + 1) (t + 3)).map (·.1) = _
    rw [ents_keys]
    rfl
theorem ents_len : ∀ {tab : Tab} {n t : Nat}, (tabEnts tab n t).length = tab.length
  | [], _, _ => rfl
  | ((a, b), v) :: r, n, t => by
    show (tabEnts r (n + 1) (t + 3)).length + 1 = r.length + 1
    rw [ents_len]
/-- dictSet of one new key, its end as it is -/
theorem wp_setX {s : Shared} {d : Addr} {pre : List Ent} {x : Ent} {Q : Unit → Shared → Prop} (hu : A.units < cLine) (hm : s.heap.DictOfH (kX prog w) d pre) (hk : (kX prog w).is s.heap x.1 x.2.1) (hno : x.1 ∉ pre.map (·.1)) (hsz : pre.length ≤ 1000)
    (hQ : (s.heap.update d (putE (entryOfKey (kX prog w) x))).DictOfH (kX prog w) d (pre ++ [x]) → Heap.SameBut d s.heap (s.heap.update d (putE (entryOfKey (kX prog w) x))) →
      Q () { s with heap := s.heap.update d (putE (entryOfKey (kX prog w) x)), toks := s.toks + (x.1.length + 1) }) :
    wpAny (model prog w) A (dictSet d (.ref x.2.1) x.2.2) Q E s := by
  obtain ⟨o, es, ep, ho, hc, hd, he, his, hn⟩ := hm
  have hs2 : es.size ≤ sizeLine := by rw [size_of_entries he, sizeLine_eq]; omega
  unfold dictSet
  refine wpAny_holding (wpAny_bind (wpAny_pyHash_tuple hu hk ?_))
  unfold dictSetHashed
  refine wpAny_holding (wpAny_bind (wpAny_dictFind_heap (knd := kX prog w) (s := { s with toks := s.toks + (x.1.length + 1) }) hu hk ho hd he his hn (fun _ => ?_) (fun j p hj => ?_)))
  · refine wpAny_bind (wpAny_rule (wpAny_updateDictKeys (s := { s with toks := s.toks + (x.1.length + 1) }) ho hd (hQ ?_ (Heap.SameBut.update ..)) (hz := hs2)))
    refine ⟨_, _, ep + 1, Heap.get?_update_self _ ho (Obj.isFreed_of_dict (Obj.data_mapDictKeys hd _)), hc.mapDictKeys _, Obj.data_mapDictKeys hd _, ?_, fun y hy => ?_, ?_⟩
    · rw [Array.toList_push, he, List.map_append]
      rfl
    · rcases List.mem_append.mp hy with hy | hy
      · exact (kX prog w).keeps (his y hy) ho hd (Heap.SameBut.update ..)
      · rw [List.mem_singleton.mp hy]
        exact (kX prog w).keeps hk ho hd (Heap.SameBut.update ..)
    · rw [List.map_append, List.nodup_append]
      refine ⟨hn, by simp, ?_⟩
      intro a ha b hb e
      simp only [List.map_cons, List.map_nil, List.mem_singleton] at hb
      subst hb
      exact hno (e ▸ ha)
  · exact absurd (List.mem_map.mpr ⟨_, List.mem_of_getElem? hj, rfl⟩) hno
/-- {(a, b): v, ..}, its end as it is -/
theorem wp_tabDict {s : Shared} {keys : List (Option Expr)} {values : List Expr} {tab : Tab} {Q : Value → Shared → Prop} (ht : TabE keys values tab) (hu : A.units < cLine) (hk : keys.length ≤ 15) (h0 : keys ≠ []) (hall : keys.all (·.isSome) = true) (hl : keys.length = values.length)
    (hnd : (tab.map fun p => [(.inr p.1.1 : L2.Key), .inr p.1.2]).Nodup) (hlen : tab.length ≤ 100)
    (hQ : Q (.ref s.heap.objs.size) { s with heap := setAll s.heap.objs.size ((tabEnts tab (s.heap.objs.size + 1) s.toks).map (entK prog w)) (pushAll (tabObjs tab s.toks) (s.heap.push { cls := .type "dict", data := .dict #[] })), toks := s.toks + 3 * tab.length + 3 * tab.length }) :
    wpAny (model prog w) A (eval (.Dict keys values pos) env) Q E s := by
  have hn := pairTrees_length keys values env pos hall hl
  rw [arm_eval_Dict, zip_pairTrees keys values env pos hall hl, dictDisplay_pairs _ (fun e => by rw [e] at hn; exact h0 (List.length_eq_zero_iff.mp hn.symm)) (by rw [hn]; omega)]
  refine wpAny_bind (wpAny_standAt (wpAny_bind ?_))
  unfold subDict
  refine wpAny_bind (wpAny_alloc ?_)
  refine wpAny_bind (wpAny_holding ?_)
  rw [if_pos (by rw [hn]; exact hk)]
  have sz : (s.heap.push { cls := .type "dict", data := .dict #[] }).objs.size = s.heap.objs.size + 1 := Heap.size_push _ _
  refine wpAny_bind (wp_evalTab ht ?_)
  dsimp only
  rw [sz]
  refine wpAny_holding ?_
  have key : ∀ {pre : List Ent} {h : Heap}, h.DictOfH (kX prog w) s.heap.objs.size pre → h.DictOfH (kX prog w) s.heap.objs.size pre := fun x => x
  refine wpAny_bind (wpAny_forIn_list _ (fun l _ s' => ∃ pre rest, pre ++ rest = tabEnts tab (s.heap.objs.size + 1) s.toks ∧ l = rest.map (fun x => (Value.ref x.2.1, x.2.2)) ∧
      s' = { s with heap := setAll s.heap.objs.size (pre.map (entK prog w)) (pushAll (tabObjs tab s.toks) (s.heap.push { cls := .type "dict", data := .dict #[] })), toks := s.toks + 3 * tab.length + 3 * pre.length } ∧
      s'.heap.DictOfH (kX prog w) s.heap.objs.size pre ∧ ∀ x ∈ rest, (kX prog w).is s'.heap x.1 x.2.1) _ ?_ ?_ _ _ ⟨[], _, rfl, rfl, rfl, ?_, fun x hx => ?_⟩)
  · rintro y l u s' ⟨pre, rest, e, el, es, hm, his⟩
    cases rest with
    | nil => cases el
    | cons x rest =>
      obtain ⟨e1, e2⟩ := List.cons.inj el
      subst e1 e2
      have hx2 : x.1.length = 2 := ents_two x (by rw [← e]; simp)
      have hno : x.1 ∉ pre.map (·.1) := by
        have h1 : ((pre ++ x :: rest).map (·.1)).Nodup := by rw [e, ents_keys]; exact hnd
        rw [List.map_append, List.nodup_append] at h1
        intro hm'
        exact h1.2.2 x.1 hm' x.1 (by simp) rfl
      have hpl : pre.length ≤ 1000 := by
        have := congrArg List.length e
        rw [List.length_append, ents_len] at this
        omega
      refine wpAny_bind (wp_setX hu hm (his x List.mem_cons_self) hno hpl fun hm' sb => wpAny_pure ⟨pre ++ [x], rest, by simpa using e, rfl, ?_, hm', fun z hz => ?_⟩)
      · rw [es]
        simp only [List.map_append, List.map_cons, List.map_nil, List.length_append, List.length_cons, List.length_nil, hx2]
        have : setAll s.heap.objs.size (pre.map (entK prog w) ++ [entK prog w x]) (pushAll (tabObjs tab s.toks) (s.heap.push { cls := .type "dict", data := .dict #[] })) = (setAll s.heap.objs.size (pre.map (entK prog w)) (pushAll (tabObjs tab s.toks) (s.heap.push { cls := .type "dict", data := .dict #[] }))).update s.heap.objs.size (putE (entK prog w x)) := by
          unfold setAll
          rw [List.foldl_append]
          rfl
        rw [this]
        congr 1
      · obtain ⟨o, es0, ep0, ho0, _, hd0, _⟩ := hm
        exact (kX prog w).keeps (his z (List.mem_cons_of_mem _ hz)) ho0 hd0 sb
  · rintro u s' ⟨pre, rest, e, el, es, hm, his⟩
    have : rest = [] := by
      cases rest with
      | nil => rfl
      | cons _ _ => cases el
    subst this
    rw [List.append_nil] at e
    subst e
    rw [es]
    refine wpAny_pure (wpAny_pure (wpAny_pure ?_))
    rw [ents_len]
    exact hQ
  · obtain ⟨o, es0, ep0, ho0, hc0, hd0, he0, _, hn0⟩ := Heap.DictOfH.new (knd := kX prog w) s.heap
    exact ⟨o, es0, ep0, push_keep ho0, hc0, hd0, he0, (fun x hx => nomatch hx), hn0⟩
  · have := ents_is (prog := prog) (w := w) (tab := tab) (h := s.heap.push { cls := .type "dict", data := .dict #[] }) (t := s.toks) x
    rw [sz] at this
    exact this hx
theorem setAll_ne {d a : Addr} (ne : a ≠ d) : ∀ {l : List DictEntry} {h : Heap}, (setAll d l h).get? a = h.get? a
  | [], _ => rfl
  | e :: l, h => (setAll_ne ne (l := l) (h := h.update d (putE e))).trans (Heap.get?_update_ne _ _ _ _ ne)
theorem wp_nsSetX {s : Shared} {a : Addr} {o : Obj} {es : Array DictEntry} {ep : Nat} {name : Str} {v : Value} {Q : Unit → Shared → Prop} (ho : s.heap.get? a = some o) (hd : o.data = .dict es ep) (hany : es.any (·.refKey) = false)
    (hQ : Q () { s with heap := s.heap.update a (Obj.putName name (hashN w name) (.str name s.toks) v), toks := s.toks + 1 }) : wpAny (model prog w) A (nsSet a name v) Q E s := fun Γ p hΓ => by
  simp only [nsSet, strHash, Sem.wp_bind', Sem.wp_cmd_ask, Sem.wp_pure', Sem.wp_cmd_mkText]
  rw [Sem.wp_loadPart_of (model prog w) Γ _ p { s with toks := s.toks + 1 } (o := o) _ ho]
  simp only [hd, aRefKeyMayBeTheName_eq, aRefKeyMayBeTheNameByArray, hany, Bool.and_false, Bool.false_eq_true, if_false, Sem.wp_cmd_updatePart]
  exact ⟨by rw [ho]; rfl, hQ⟩
/-- the state behind x = {(a, b): v, ..} -/
def behind (prog : Program) (w : World) (tab : Tab) (x : Str) (ns : Addr) (s : Shared) : Shared :=
  { s with
    heap := (setAll s.heap.objs.size ((tabEnts tab (s.heap.objs.size + 1) s.toks).map (entK prog w)) (pushAll (tabObjs tab s.toks) (s.heap.push { cls := .type "dict", data := .dict #[] }))).update ns
      (Obj.putName x (hashN w x) (.str x (s.toks + 3 * tab.length + 3 * tab.length)) (.ref s.heap.objs.size))
    toks := s.toks + 3 * tab.length + 3 * tab.length + 1 }
theorem wp_tabAssign {s : Shared} {keys : List (Option Expr)} {values : List Expr} {tab : Tab} {x : Str} {pos' pos2 : Pos} {ns : Addr} {o : Obj} {es : Array DictEntry} {ep : Nat} {Q : Flow → Shared → Prop} (ht : TabE keys values tab) (hu : A.units < cLine) (hk : keys.length ≤ 15) (h0 : keys ≠ []) (hall : keys.all (·.isSome) = true) (hl : keys.length = values.length)
    (hnd : (tab.map fun p => [(.inr p.1.1 : L2.Key), .inr p.1.2]).Nodup) (hlen : tab.length ≤ 100)
    (ho : s.heap.get? ns = some o) (hd : o.data = .dict es ep) (hany : es.any (·.refKey) = false) (hst : ∀ v, storeName env x v = nsSet ns x v) (hs : swapsWith (.Dict keys values pos) (some (.Name x pos')) pos2.line env = pure false)
    (hQ : Q .next (behind prog w tab x ns s)) : wpAny (model prog w) A (exec (.Assign [.Name x pos'] (.Dict keys values pos) pos2) env) Q E s := by
  refine wpAny_Assign_Name (wp_tabDict ht hu hk h0 hall hl hnd hlen ?_) hs
  rw [hst]
  have ne : ns ≠ s.heap.objs.size := Nat.ne_of_lt (Heap.lt_size ho)
  refine wp_nsSetX (o := o) ?_ hd hany hQ
  show (setAll s.heap.objs.size _ (pushAll _ _)).get? ns = some o
  rw [setAll_ne ne]
  exact push_keep (Heap.get?_push_of_some _ ho)
end
end HX
namespace HX
open PySem PySem.W PySem.Calls PyProof.Rows
section
variable {α : Type} {tb : String → Option Builtin} {p : Program} {w : World} {n₀ : Nat} {ann : Option Value} {B : List Frame} {K' : α → Sem Fin} {H' : Value → Sem Fin} {gd : Bool → Bool} {lv : List Value → List Value} {res : α → Flow}
theorem topGo_trans : ∀ {n m : Nat} {s s1 s2 : Shared} {t t1 t2 : Thread}, topGo tb p w n₀ ann n s t = some (s1, t1) → topGo tb p w n₀ ann m s1 t1 = some (s2, t2) → topGo tb p w n₀ ann (n + m) s t = some (s2, t2)
  | 0, m, s, s1, s2, t, t1, t2, h, k => by
    obtain ⟨rfl, rfl⟩ : s = s1 ∧ t = t1 := by simpa [topGo] using h
    rw [Nat.zero_add]; exact k
  | n + 1, m, s, s1, s2, t, t1, t2, h, k => by
    rw [show n + 1 + m = n + m + 1 by omega]
    unfold topGo at h ⊢
    cases ht : through t with
    | true => rw [ht] at h; cases h
    | false =>
      rw [ht] at h
      cases hk : stepOk n₀ ann t with
      | false => rw [hk] at h; cases h
      | true =>
        rw [hk] at h
        cases hs : step (denote tb) p w s t with
        | halt o s₂ => rw [hs] at h; cases h
        | go s₂ t₂ => rw [hs] at h; exact topGo_trans h k
theorem seg_topGo (hB : splitAtGen B = none) : ∀ (n : Nat) (s : Shared) (t t' : Thread) (f : Flow) (s' : Shared) (c' : Code) (p' : Pos), Rel2 (fun a => .pure (.done (res a))) K' deadEnd H' gd lv B t t' →
    segRun tb p w n₀ ann B.length n s t = some (f, s', c', p') → ∃ a, res a = f ∧ ∃ m, topGo tb p w n₀ ann m s t' = some (s', ⟨K' a, c', p', B⟩)
  | 0, _, _, _, _, _, _, _, _, h => by simp [segRun] at h
  | n + 1, s, ⟨cur, code, pos, st⟩, ⟨cur', code', pos', st'⟩, f, s', c', p', R, h => by
    obtain ⟨e1, e2, R⟩ := R
    dsimp only at e1 e2 R
    subst e1 e2
    unfold segRun at h
    cases he : endAt B.length ⟨cur, code, pos, st⟩ with
    | some g =>
      rw [he] at h
      obtain ⟨rfl, rfl, rfl, rfl⟩ : g = f ∧ s = s' ∧ code = c' ∧ pos = p' := by simpa using h
      rcases R with ⟨rfl, rfl, x, rfl, rfl⟩ | ⟨rfl, F⟩
      · have hx : ∃ a, x = .pure a ∧ res a = g := by
          cases x with
          | pure a => simp only [endAt, Sem.wrap, beq_self_eq_true, Option.some.injEq] at he; exact ⟨a, rfl, he⟩
          | _ => simp [endAt, Sem.wrap] at he
        obtain ⟨a, rfl, rfl⟩ := hx
        exact ⟨a, rfl, 0, rfl⟩
      · have l := F.longer.1
        have : ((st.length == B.length) = false) := beq_eq_false_iff_ne.mpr (Nat.ne_of_gt l)
        simp only [endAt, this] at he
        cases he
    | none =>
      rw [he] at h
      cases hk : stepOk n₀ ann ⟨cur, code, pos, st⟩ with
      | false => rw [hk] at h; cases h
      | true =>
        rw [hk] at h
        cases hs : step (denote tb) p w s ⟨cur, code, pos, st⟩ with
        | halt o s₂ => rw [hs] at h; cases h
        | go s₂ t₂ =>
          rw [hs] at h
          have key : stepOk n₀ ann ⟨cur', code, pos, st'⟩ = true ∧ through ⟨cur', code, pos, st'⟩ = false ∧ ∃ t₂', step (denote tb) p w s ⟨cur', code, pos, st'⟩ = .go s₂ t₂' ∧ Rel2 (fun a => .pure (.done (res a))) K' deadEnd H' gd lv B t₂ t₂' := by
            rcases R with ⟨rfl, rfl, x, rfl, rfl⟩ | ⟨rfl, F⟩
            · have hp : ∀ a, x ≠ .pure a := by
                rintro a rfl
                simp [endAt, Sem.wrap] at he
              have hr : ∀ e, x ≠ .raise e := by
                rintro e rfl
                obtain ⟨heap, gens, drawn, toks, os⟩ := s
                simp only [Sem.wrap, step] at hs
                cases hs
              obtain ⟨k1, k2⟩ := okOuter (K' := K') (H' := H') hp hr hk
              exact ⟨k1, k2, step_outer hB hp hs⟩
            · obtain ⟨k1, k2⟩ := okInner hB F hk
              exact ⟨k1, k2, step_inner hB F hs⟩
          obtain ⟨k1, k2, t₂', k3, R'⟩ := key
          obtain ⟨a, ha, m, hm⟩ := seg_topGo hB n s₂ t₂ t₂' f s' c' p' R' h
          refine ⟨a, ha, m + 1, ?_⟩
          unfold topGo
          rw [k2, k1, k3]
          exact hm
end
section
variable {tb : String → Option Builtin} {p : Program} {w : World} {n₀ : Nat} {ann : Option Value} {env : Env} {q : Pos}
theorem pieceG_app {n : Nat} {s s' : Shared} {l rest : List Stmt} {c : Code} {pos p' : Pos} (h : segRun tb p w n₀ ann 1 n s (piecesOf l env c pos [topFrame q]) = some (.next, s', c, p')) :
    ∃ m, topGo tb p w n₀ ann m s (restOf (l ++ rest) env c pos [topFrame q]) = some (s', restOf rest env c p' [topFrame q]) := by
  obtain ⟨a, ha, m, hm⟩ := seg_topGo (res := id) (K' := fun f => match f with | .next => (execs rest env).wrap doneF (leaveH env) id id | f => doneF f) (H' := leaveH env) (B := [topFrame q]) rfl n s (piecesOf l env c pos [topFrame q])
    ⟨(execs l env).wrap (fun f => match f with | .next => (execs rest env).wrap doneF (leaveH env) id id | f => doneF f) (leaveH env) id id, c, pos, [topFrame q]⟩ _ _ _ _ ⟨rfl, rfl, .inl ⟨rfl, rfl, _, rfl, rfl⟩⟩ h
  obtain rfl : a = .next := ha
  refine ⟨m, ?_⟩
  unfold restOf
  rw [execs_app_wrap]
  exact hm
theorem pieceG_block {n : Nat} {s s' : Shared} {b : List Stmt} {c : Code} {pos p' : Pos} (h : segRun tb p w n₀ ann 1 n s (blockOf b env c pos [topFrame q]) = some (.next, s', c, p')) :
    ∃ m, topGo tb p w n₀ ann m s ⟨denote tb (.body b env), c, pos, [topFrame q]⟩ = some (s', restOf b env c p' [topFrame q]) := by
  obtain ⟨a, ha, m, hm⟩ := seg_topGo (res := fun _ : Unit => Flow.next) (K' := fun _ => (execs b env).wrap doneF (leaveH env) id id) (H' := Sem.raise) (B := [topFrame q]) rfl n s (blockOf b env c pos [topFrame q])
    ⟨(blockStart b env).wrap (fun _ => (execs b env).wrap doneF (leaveH env) id id) .raise id id, c, pos, [topFrame q]⟩ _ _ _ _ ⟨rfl, rfl, .inl ⟨rfl, rfl, _, rfl, rfl⟩⟩ h
  rw [body_wrap]
  exact ⟨m, hm⟩
end
section
variable {p : Program} {w : World} {n₀ : Nat} {ann : Option Value}
theorem topGo_spec : ∀ (n : Nat) (s : Shared) (t : Thread) (s₁ : Shared) (t₁ : Thread), s.asleep → topGo table p w n₀ ann n s t = some (s₁, t₁) →
    schedN (denote table) p w n (.single s t) = .running (.single s₁ t₁) ∧ s₁.heap.life = s.heap.life ∧ s₁.os = s.os ∧
    ∀ b o, b < n₀ → b ≠ mainNs → b ≠ cStatics → ann ≠ some (.ref b) → s.heap.get? b = some o → s₁.heap.get? b = some o
  | 0, s, t, s₁, t₁, _, h => by
    obtain ⟨rfl, rfl⟩ : s = s₁ ∧ t = t₁ := by simpa [topGo] using h
    exact ⟨rfl, rfl, rfl, fun _ _ _ _ _ _ e => e⟩
  | n + 1, s, t, s₁, t₁, hr, h => by
    unfold topGo at h
    cases ht : through t with
    | true => rw [ht] at h; cases h
    | false =>
      rw [ht] at h
      cases hk : stepOk n₀ ann t with
      | false => rw [hk] at h; cases h
      | true =>
        rw [hk] at h
        cases hs : step (denote table) p w s t with
        | halt o s' => rw [hs] at h; cases h
        | go s' t' =>
          rw [hs] at h
          obtain ⟨hc, hk⟩ := Bool.and_eq_true_iff.mp hk
          have hl := step_life (denote table) p w s s' t t' hs
          obtain ⟨hm, l, os, fr⟩ := topGo_spec n s' t' s₁ t₁ (Shared.asleep_of_life hl hr) h
          have e : sstep (denote table) p w (.single s t) = .go (.single s' t') := by
            rcases sstep_single (denote table) p w s t hc hr with e | e
            · rw [e, hs]; rfl
            · rw [hs] at e; cases e
          refine ⟨by simp only [schedN, e]; exact hm, l.trans hl, os.trans (step_os_same hs (by revert hk; cases t.cur <;> simp)), fun b o h1 h2 h3 h4 h5 => fr b o h1 h2 h3 h4 ?_⟩
          rw [step_heap (denote table) p w s s' t t' hs]
          revert hk
          cases t.cur <;> intro hk <;> try exact h5
          case update a _ f _ =>
            have : b ≠ a := by
              rintro rfl
              simp only [Bool.or_eq_true, Nat.ble_eq, beq_iff_eq] at hk
              rcases hk with ((q | q) | q) | q
              · exact absurd h1 (Nat.not_lt.mpr q)
              · exact h2 q
              · exact h3 q
              · exact h4 q
            exact (Heap.get?_update_ne _ _ _ _ this).trans h5
          case alloc x _ => exact Heap.get?_push_of_some x h5
end
end HX
namespace HX
open PySem PySem.W PySem.Calls PyProof.Rows
section
variable {p : Program} {w : World}
theorem allow_ok {t : Sem Fin} (h : allowB t = true) {σ σ' : Shared} {c : Code} {q : Pos} {st : List Frame} {t' : Thread} (hs : step (denote table) p w σ ⟨t, c, q, st⟩ = .go σ' t') :
    (model p w).step σ ⟨t, c, q, st⟩ = .go σ' t' ∧ t'.stack = st := by
  have hl : Thread.loud ⟨t, c, q, st⟩ = false := by
    cases t <;> first | rfl | exact nomatch h
  rw [Model.step_quiet (model p w) hl]
  obtain ⟨heap, gens, drawn, toks, os⟩ := σ
  have hk : stepK (model p w).den (model p w).prog (model p w).w ⟨heap, gens, drawn, toks, os⟩ ⟨t, c, q, st⟩ = step (denote table) p w ⟨heap, gens, drawn, toks, os⟩ ⟨t, c, q, st⟩ := by
    cases t <;> first | rfl | exact nomatch h
  refine ⟨hk.trans hs, ?_⟩
  clear hk hl
  cases t
  case rule => simp only [step] at hs; cases hs; rfl
  case load => simp only [step] at hs; split at hs <;> cases hs; rfl
  case update => simp only [step] at hs; split at hs <;> cases hs; rfl
  case loadIfAlive => simp only [step] at hs; cases hs; rfl
  case «at» => simp only [step] at hs; cases hs; rfl
  case point => simp only [step] at hs; cases hs; rfl
  case alloc => simp only [step] at hs; cases hs; rfl
  case fresh => simp only [step] at hs; cases hs; rfl
  case ask => simp only [step] at hs; cases hs; rfl
  case handled => simp only [step] at hs; cases hs; rfl
  case stack => simp only [step] at hs; cases hs; rfl
  case thread => simp only [step] at hs; cases hs; rfl
  all_goals exact nomatch h
theorem stepB_ok {base : List Frame} {s s' : SharedT} {t t' : Sem Fin} {c c' : Code} {q q' : Pos} {pre pre' : List Frame} (h : stepB (stepT (denote table) p w) (denote table) base s t c q pre = some (s', t', c', q', pre')) :
    (model p w).step s.abs ⟨t, c, q, pre ++ base⟩ = .go s'.abs ⟨t', c', q', pre' ++ base⟩ := by
  have other : ∀ {t : Sem Fin}, allowB t = true → (match stepT (denote table) p w s ⟨t, c, q, pre ++ base⟩ with
      | some (s', t') => some (s', t'.cur, t'.code, t'.pos, pre)
      | none => none) = some (s', t', c', q', pre') → (model p w).step s.abs ⟨t, c, q, pre ++ base⟩ = .go s'.abs ⟨t', c', q', pre' ++ base⟩ := fun {t} ha h => by
    cases e : stepT (denote table) p w s ⟨t, c, q, pre ++ base⟩ with
    | none => rw [e] at h; cases h
    | some r =>
      obtain ⟨s2, t2⟩ := r
      rw [e] at h
      cases h
      obtain ⟨h1, h2⟩ := allow_ok ha (stepT_spec e)
      rw [h1, ← h2]
  cases t with
  | pure fin =>
    cases fin with
    | done f =>
      unfold stepB at h
      cases pre with
      | nil => cases h
      | cons F r =>
        cases F with
        | gen => cases h
        | ret k hh g l c2 q2 kp =>
          obtain ⟨rfl, rfl, rfl, rfl, rfl⟩ : s = s' ∧ k (.ok f) = t' ∧ c2 = c' ∧ q2 = q' ∧ r = pre' := by simpa using h
          exact step_leaf_ret (model p w) s.abs c q (r ++ base) (.ok f) k hh g l c2 q2 kp
    | again c2 =>
      unfold stepB at h
      cases hq : c2.quiet with
      | false => simp only [hq] at h; cases h
      | true =>
        simp only [hq] at h
        obtain ⟨rfl, rfl, rfl, rfl, rfl⟩ : s = s' ∧ denote table c2 = t' ∧ c2 = c' ∧ q = q' ∧ pre = pre' := by simpa using h
        exact PySem.step_again (model p w) s.abs c q (pre ++ base) c2 hq
  | raise e =>
    unfold stepB at h
    cases pre with
    | nil => cases h
    | cons F r =>
      cases F with
      | gen => cases h
      | ret k hh g l c2 q2 kp =>
        obtain ⟨rfl, rfl, rfl, rfl, rfl⟩ : s = s' ∧ k (.error e) = t' ∧ c2 = c' ∧ q2 = q' ∧ r = pre' := by simpa using h
        exact step_leaf_ret (model p w) s.abs c q (r ++ base) (.error e) k hh g l c2 q2 kp
  | call c2 hh g l k =>
    obtain ⟨rfl, rfl, rfl, rfl, rfl⟩ : s = s' ∧ denote table c2 = t' ∧ c2 = c' ∧ q = q' ∧ (Frame.ret k hh g l c q [] :: pre) = pre' := by simpa [stepB] using h
    exact step_call (model p w) s.abs c q (pre ++ base) c2 hh g l k
  | _ => first | (exact other rfl h) | (cases h)
theorem step_kept {n₀ : Nat} {ann : Option Value} {s s' : Shared} {t t' : Thread} (hs : step (denote table) p w s t = .go s' t') (hk : stepOk n₀ ann t = true) : Kept n₀ ann s s' := by
  obtain ⟨hc, hk⟩ := Bool.and_eq_true_iff.mp hk
  refine ⟨step_life (denote table) p w s s' t t' hs, step_os_same hs (by revert hk; cases t.cur <;> simp), fun b o h1 h2 h3 h4 h5 => ?_⟩
  rw [step_heap (denote table) p w s s' t t' hs]
  revert hk
  cases t.cur <;> intro hk <;> try exact h5
  case update a _ f _ =>
    have : b ≠ a := by
      rintro rfl
      simp only [Bool.or_eq_true, Nat.ble_eq, beq_iff_eq] at hk
      rcases hk with ((q | q) | q) | q
      · exact absurd h1 (Nat.not_lt.mpr q)
      · exact h2 q
      · exact h3 q
      · exact h4 q
    exact (Heap.get?_update_ne _ _ _ _ this).trans h5
  case alloc x _ => exact Heap.get?_push_of_some x h5
theorem stepB_kept {n₀ : Nat} {ann : Option Value} {base : List Frame} {s s' : SharedT} {t t' : Sem Fin} {c c' : Code} {q q' : Pos} {pre pre' : List Frame} (h : stepB (stepT (denote table) p w) (denote table) base s t c q pre = some (s', t', c', q', pre')) (hk : stepOk n₀ ann ⟨t, c, q, pre ++ base⟩ = true) :
    Kept n₀ ann s.abs s'.abs := by
  have other : (match stepT (denote table) p w s ⟨t, c, q, pre ++ base⟩ with
      | some (s', t') => some (s', t'.cur, t'.code, t'.pos, pre)
      | none => none) = some (s', t', c', q', pre') → Kept n₀ ann s.abs s'.abs := fun h => by
    cases e : stepT (denote table) p w s ⟨t, c, q, pre ++ base⟩ with
    | none => rw [e] at h; cases h
    | some r =>
      obtain ⟨s2, t2⟩ := r
      rw [e] at h
      cases h
      exact step_kept (stepT_spec e) hk
  have same : s = s' → Kept n₀ ann s.abs s'.abs := fun e => by subst e; exact Kept.refl _
  cases t with
  | pure fin =>
    cases fin with
    | done f =>
      unfold stepB at h
      cases pre with
      | nil => cases h
      | cons F r =>
        cases F with
        | gen => cases h
        | ret k hh g l c2 q2 kp => exact same (by simpa using congrArg (fun z => z.map (·.1)) h)
    | again c2 =>
      unfold stepB at h
      cases hq : c2.quiet with
      | false => simp only [hq] at h; cases h
      | true =>
        simp only [hq] at h
        exact same (by simpa using congrArg (fun z => z.map (·.1)) h)
  | raise e =>
    unfold stepB at h
    cases pre with
    | nil => cases h
    | cons F r =>
      cases F with
      | gen => cases h
      | ret k hh g l c2 q2 kp => exact same (by simpa using congrArg (fun z => z.map (·.1)) h)
  | call c2 hh g l k => exact same (by simpa [stepB] using congrArg (fun z => z.map (·.1)) h)
  | _ => first | (exact other h) | (cases h)
theorem exitB_ok {pre : List Frame} {t : Sem Fin} {f : Flow} (h : exitB pre t = some f) : pre = [] ∧ t = .pure (.done f) := by
  unfold exitB at h
  cases pre with
  | cons => cases h
  | nil =>
    refine ⟨rfl, ?_⟩
    dsimp only at h
    split at h
    · cases h; rfl
    · cases h
theorem goB_ok {n₀ : Nat} {ann : Option Value} {base : List Frame} : ∀ {m : Nat} {s s' : SharedT} {t : Sem Fin} {c : Code} {q : Pos} {pre : List Frame} {f : Flow}, goB (stepT (denote table) p w) (denote table) base n₀ ann m s t c q pre = some (s', f) →
    Reach (model p w) base s.abs t c q pre s'.abs (.ret (.ok f)) ∧ Kept n₀ ann s.abs s'.abs
  | 0, _, _, _, _, _, _, _, h => by cases h
  | m + 1, s, s', t, c, q, pre, f, h => by
    unfold goB at h
    cases he : exitB pre t with
    | some g =>
      rw [he] at h
      cases h
      obtain ⟨rfl, rfl⟩ := exitB_ok he
      exact ⟨.exit ⟨rfl, rfl⟩, Kept.refl _⟩
    | none =>
      rw [he] at h
      dsimp only at h
      cases hk : stepOk n₀ ann ⟨t, c, q, pre ++ base⟩ with
      | false => rw [hk] at h; cases h
      | true =>
        rw [hk] at h
        dsimp only at h
        cases hs : stepB (stepT (denote table) p w) (denote table) base s t c q pre with
        | none => rw [hs] at h; cases h
        | some r =>
          obtain ⟨s2, t2, c2, q2, pre2⟩ := r
          rw [hs] at h
          dsimp only at h
          rw [HandSHeadRun.frS_eq] at h
          obtain ⟨h1, h2⟩ := goB_ok h
          exact ⟨.step (stepB_ok hs) h1, (stepB_kept hs hk).trans h2⟩
end
end HX
namespace HX
open PySem PySem.W PySem.Calls PyProof.Rows
section
variable {p : Program} {w : World}
theorem schedN_add {den : Code → Sem Fin} : ∀ {n m : Nat} {c c' : Config} {r : SRun}, schedN den p w n c = .running c' → schedN den p w m c' = r → schedN den p w (n + m) c = r
  | 0, m, c, c', r, h, k => by
    obtain rfl : c = c' := by simpa [schedN] using h
    rw [Nat.zero_add]; exact k
  | n + 1, m, c, c', r, h, k => by
    rw [show n + 1 + m = n + m + 1 by omega]
    simp only [schedN] at h ⊢
    cases hs : sstep den p w c with
    | go c2 => rw [hs] at h; exact schedN_add h k
    | halt o s => rw [hs] at h; cases h
/-- from Runs to the end, by the machine itself -/
theorem end_sched {s s' : Shared} {t : Sem Fin} {c : Code} {q : Pos} {st : List Frame} {f : Flow} (hr : s.asleep) (hg : s'.gens = #[]) (h : Runs (model p w) (Ctx.of c []) q t st s (.ret (.ok f)) s') :
    ∃ n t₁, schedN (denote table) p w n (.single s ⟨t, c, q, st⟩) = .running (.single s' t₁) ∧ through t₁ = true := by
  obtain ⟨n, t', c', q', pre', hn, e1, e2⟩ := (runs_reach h [] (Ctx.fits_of ..)).runN
  subst e1 e2
  rw [List.append_nil, List.append_nil] at hn
  have hn : (model p w).runN n s ⟨t, c, q, st⟩ = .running s' ⟨leafOf (.ok f), c', q', []⟩ := hn
  have hl : leftWithCleanup s'.gens = false := by rw [hg]; simp [leftWithCleanup]
  have hn1 : (model p w).runN (n + 1) s ⟨t, c, q, st⟩ = .halted (outcomeOf (.ok f)) s' := by
    rw [runN_snoc hn, step_leaf_nil]
    simp only [finish, hl, Bool.false_eq_true, if_false]
  obtain ⟨s'', hh, hf, hc⟩ := runNI_real (denote table) p w hn1 (outcomeOf_ends _)
  have hne : ∀ k s₂, runN (denote table) p w k s ⟨t, c, q, st⟩ ≠ .halted (.unsupported "lifetime:generator-with-cleanup-left-suspended") s₂ := by
    intro k s₂ hk
    have a := runN_mono (denote table) p w (n + 1) k s _ _ s'' hh
    have b := runN_mono (denote table) p w k (n + 1) s _ _ s₂ hk
    rw [Nat.add_comm, b] at a
    injection a with a1 _
    cases a1
  have hs := schedN_eq_runN (denote table) p w s ⟨t, c, q, st⟩ hr ⟨hc, hne⟩ n
  obtain ⟨σ, tau, hrun, e1, e2⟩ := runNI_running_real hn
  have hrun : runN (denote table) p w n s ⟨t, c, q, st⟩ = .running σ tau := hrun
  have eσ : σ = s' := Shared.eq_of_forget_eq e1 hg
  subst eσ
  refine ⟨n, tau, by rw [hs, hrun]; rfl, ?_⟩
  obtain ⟨cur, code, pos, stack⟩ := tau
  have e3 : cur = leafOf (.ok f) := congrArg Thread.cur e2
  have e4 : forgetAll stack = [] := congrArg Thread.stack e2
  have e5 : stack = [] := by
    cases stack with
    | nil => rfl
    | cons _ _ => cases e4
  subst e3 e5
  rfl
/-- the statement's wp, then the rest -/
theorem mid_runs {s₁ s₂ : Shared} {P : Flow → Shared → Prop} {st : Stmt} {rest : List Stmt} {env : Env} {c : Code} {q q1 : Pos} {A : Around} (hA : ((Ctx.of c []).over [topFrame q]).In A)
    (hw : wpAny (model p w) A (exec st env) (fun g s => g = .next ∧ s = s₂) (fun _ _ => False) s₁)
    (hrest : ∀ q2, ∃ f s₃, Runs (model p w) (Ctx.of c []) q2 ((execs rest env).wrap doneF (leaveH env) id id) [topFrame q] s₂ (.ret (.ok f)) s₃ ∧ P f s₃) :
    ∃ f s₃, Runs (model p w) (Ctx.of c []) q1 ((execs (st :: rest) env).wrap doneF (leaveH env) id id) [topFrame q] s₁ (.ret (.ok f)) s₃ ∧ P f s₃ := by
  rw [execs_cons_wrap]
  obtain ⟨e, s', h1, f, h2, h3⟩ := runs_wrap_of_wp (M := model p w) (Γ := Ctx.of c []) (fs := [topFrame q]) (Φ := fun e s => ∃ f, e = .ret (.ok f) ∧ P f s)
    (fun g => match g with | .next => (execs rest env).wrap doneF (leaveH env) id id | g => doneF g) (leaveH env) id id (exec st env) (hw _ q1 hA)
    (fun a p' s' h => by
      obtain ⟨ea, es⟩ := h
      subst ea es
      obtain ⟨f, s₃, h1, h2⟩ := hrest p'
      exact ⟨_, _, h1, f, rfl, h2⟩)
    (fun x p' s' h => h.elim)
  subst h2
  exact ⟨f, s', h1, h3⟩
end
end HX
namespace HX
open PySem PySem.W PySem.Calls PyProof.Rows
/-- the top, run to its end at a world, and what is seen behind it -/
def TopX (p q : Program) (loose : List Str) (Xt : Shared → Bool) {α : Type} (Yf : Shared → α) (Ya : World → α) (w : World) (s₀ : Shared) : Prop :=
  ∃ s₂, (∃ n t₁, schedN (denote table) p w n (.single s₀ (topStub p)) = .running (.single s₂ t₁) ∧ through t₁ = true) ∧ Kept s₀.heap.objs.size (s₀.heap.nsMap mainGlobals "__annotations__") s₀ s₂ ∧
    (staticsOk (importedModules p.main.body) s₀.heap s₂.heap && namesBound p s₂.heap && gensDone s₂ && laidKept s₀.heap s₂.heap) = true ∧ openSeen q loose (importedModules p.main.body) Xt true s₂ = openGood q loose ∧ Yf s₂ = Ya w
/-- what stands behind the top -/
def Behind (p q : Program) (loose : List Str) (XP : (Str → Option Value) → Heap → Prop) {α : Type} (Yf : Shared → α) (Ya : World → α) (w : World) : Prop :=
  (∃ s, AfterRun (opening p) w s) ∧ ∀ s, AfterRun (opening p) w s → ∃ s₀, fenceModules? p s = some s₀ ∧ s₀.gens = #[] ∧ ∃ s₁, TopRan p w s₀ s₁ ∧ s₁.asleep ∧ (s₁.gens.size == 0) = true ∧ s₁.heap.isNs mainGlobals = true ∧
    Ground q loose [] XP w s₁ (s₁.heap.nsMap mainGlobals) (s₁.heap.nsMap builtinsNs) s₁.heap ∧ Yf s₁ = Ya w
section
variable {p q : Program} {loose : List Str} {Xt : Shared → Bool} {XP : (Str → Option Value) → Heap → Prop} {α : Type} {Yf : Shared → α} {Ya : World → α}
theorem behindX {w : World} {N : Nat} {s₀ : Shared} (h2 : fencedOpening treeTable p w N = some s₀) (hg : s₀.heap.isNs mainGlobals = true) (hn : s₀.gens = #[]) (T : s₀.asleep → TopX p q loose Xt Yf Ya w s₀)
    (hX : ∀ s, Xt s = true → XP (s.heap.nsMap mainGlobals) s.heap) (hch : chainsOk q = true) : Behind p q loose XP Yf Ya w := by
  rw [← table_eq_tree] at h2
  obtain ⟨s, h4, h5⟩ := Option.bind_eq_some_iff.mp h2
  have A := AfterImport.of_importEnds h4
  have z : s₀.asleep := Shared.asleep_of_life (fence_lifeW h5) A.life
  obtain ⟨s₂, run, kp, looks, seen, obs⟩ := T z
  obtain ⟨G, g0, g1, g2, g3, g4, g5⟩ := ground_of_open (w := w) hX hch seen
  refine ⟨⟨s, A⟩, fun s' hs' => ?_⟩
  cases AfterImport.unique hs' A
  have l4 := Bool.and_eq_true_iff.mp looks
  have l3 := Bool.and_eq_true_iff.mp l4.1
  have l2 := Bool.and_eq_true_iff.mp l3.1
  have old : ∀ b o, s₀.heap.get? b = some o → ¬ theTopsOwn s₀.heap b → s₂.heap.get? b = some o := fun b o hb hnn =>
    kp.2.2 b o (Heap.lt_size hb) (fun e => hnn (.inl e)) (fun e => hnn (.inr (.inl e))) (fun e => hnn (.inr (.inr ((Pin.globalOf_eq hg _).trans e)))) hb
  exact ⟨s₀, h5, hn, s₂, ⟨run, kp.1, Shared.rest_eq kp.2.1, old, g2, statics_of_ok l2.1, g3, g4, g5, gens_of_done l3.2, names_of_bound l2.2, laid_of_kept l4.2⟩, Shared.asleep_of_life kp.1 z, g0, g1, G, obs⟩
end
/-- the law, over what stands behind the top -/
theorem holdsX {r : OpenRow} {q : Program} {loose : List Str} {XP : (Str → Option Value) → Heap → Prop} {α : Type} {Yf : Shared → α} {Ya : World → α} {YP : World → Heap → Prop} {d : DefRec} {kwd : List (Str × Expr)}
    (B : ∀ w, Behind r.prog q loose (fun mg h => XP mg h ∧ RecFacts r.toRowW.records h) Yf Ya w) (hY : ∀ w s, Yf s = Ya w → YP w s.heap) (hYk : ∀ w h h', YP w h → (∀ b o, h.get? b = some o → h'.get? b = some o) → YP w h')
    (hXk : ∀ mg h h', XP mg h → (∀ b o, h.get? b = some o → h'.get? b = some o) → XP mg h')
    (hdef : defOf q r.name = some (d, kwd)) (hp : r.prog.theDef r.name = some (d.params, d.body, d.scope)) (hk : kwWritten? d.params.kwonlyargs d.params.kw_defaults = some kwd) (hwr : (!r.writes || r.records.isEmpty) = true)
    (k1 : r.wellSaid = true) (ok : (chainsOk q && opensWell r.prog && (frees r.toRowW && r.within.isEmpty)) = true) (hb : r.prog.bare) (hw : r.toRowW.promised)
    (call : WalkO q loose XP YP r.toRowW d kwd fun f vs => PySem.call f vs) : r.Holds := by
  obtain ⟨hco, hfr⟩ := Bool.and_eq_true_iff.mp ok
  have hop := (Bool.and_eq_true_iff.mp hco).2
  obtain ⟨hfr, hwi⟩ := Bool.and_eq_true_iff.mp hfr
  obtain ⟨hsame, hu, ha, hap, hm⟩ := frees_parts hfr
  have hwi' : r.toRowW.claim.within = [] := List.isEmpty_iff.mp hwi
  refine ⟨k1, hw, ⟨⟨hb, hop, by show r.toRowW.makers.map _ = []; rw [hm]; rfl⟩, hw.witness, fun w => ⟨(B w).1, fun s' hs' => ?_⟩⟩⟩
  obtain ⟨s₀, hf, hg0, s, hT, hz, hgn, hg, G1, y⟩ := (B w).2 s' hs'
  have hgens : s.gens = #[] := Array.eq_empty_of_size_eq_zero (beq_iff_eq.mp hgn)
  have G0 : Ground q loose [] XP w s (s.heap.nsMap mainGlobals) (s.heap.nsMap builtinsNs) s.heap := ⟨G1.T, G1.B, G1.D, G1.TE, G1.TD, G1.W, G1.X.1, G1.cls, G1.has, G1.apart, G1.once, G1.K⟩
  have RF := G1.X.2
  refine ⟨s₀, hf, hg0, s, hT, fun n hn => ?_, RF.1, RF.2.1, ClaimW.callFrom_of_specG (c := r.toRowW.claim) hz hgens fun args hpre hlay ord hord => ?_⟩
  · obtain rfl : n = r.name := by split at hn <;> simp_all
    exact pinned_of_view hg G0 hdef hp hk
  · have G : Ground q loose r.toRowW.records XP w s _ _ s.heap := RF.ground G0
    obtain ⟨⟨vs, s₁⟩, hlaid⟩ := Option.isSome_iff_exists.mp (layAllW_isSome (P := w.params) (ord := ord) G.has args r.toRowW.args s (pre_splitW hpre).1)
    have keeps := layAllW_keeps _ _ _ hlaid
    have hal := layAllW_rest _ _ _ hlaid
    obtain ⟨as, hrd, hin, hold⟩ := reads_layAllW hord _ _ _ hlaid hlay s₁.heap (fun _ _ e => e)
    have L : Laid r.toRowW.records w s s₁ args vs as := ⟨⟨ord, hord, hlaid⟩, hrd, hin, hold, keeps, hal.1.trans hgens, hal.2.2.1⟩
    have G₁ := G.keeps hXk keeps
    obtain ⟨a, o, pm, cd, doc, dV, kV, e1, e2, e3, e4, e5⟩ := G₁.fn hdef
    have main := call w s s₁ _ _ G₁ (hYk _ _ _ (hY w s y) keeps) a o pm cd doc dV kV e2 e3 e4 e5 (defOf_name hdef ▸ e1) L.gens args vs as hpre hlay L.reads L.well (L.low G.low)
    have hi := ident_freeW hu ha hap
    refine ⟨vs, s₁, hlaid, wpAny_bind (wpAny_nsGet G₁.T.g ?_)⟩
    rw [e1]
    refine wpAny_bind (wpAny_mono main (fun v s2 g => wpAny_pure ⟨.ret v, rfl, ?_⟩) fun e s2 g => ?_)
    · have z := g.laid (c := r.toRowW.claim) hsame hwi' hi L
      exact ⟨z.1, z.2.1, z.2.2, fun qq => ⟨namesKept_of hT hg r.keeps keeps g.2.1.old, noTable hwr qq⟩⟩
    · have z := g.laid (c := r.toRowW.claim) hsame hwi' hi L
      exact ⟨z.1, z.2.1, z.2.2, fun qq => ⟨namesKept_of hT hg r.keeps keeps g.2.1.old, noTable hwr qq⟩⟩
end HX
noncomputable section
namespace HX
open PySem PySem.W PySem.Calls PyProof.Rows HandSHeadRun
section
variable {tb : String → Option Builtin} {p : Program} {w : World} {n₀ : Nat} {ann : Option Value}
theorem untilB_ok : ∀ {m : Nat} {s s' : SharedT} {t t' : Thread}, untilB (stepT (denote tb) p w) n₀ ann m s t = some (s', t') → ∃ k, topGo tb p w n₀ ann k s.abs t = some (s'.abs, t')
  | 0, _, _, _, _, h => by cases h
  | m + 1, s, s', t, t', h => by
    unfold untilB at h
    cases h1 : Nat.beq t.stack.length 1 with
    | true =>
      rw [h1] at h
      cases h
      exact ⟨0, rfl⟩
    | false =>
      rw [h1] at h
      dsimp only at h
      cases h2 : through t with
      | true => rw [h2] at h; cases h
      | false =>
        rw [h2] at h
        dsimp only at h
        cases h3 : stepOk n₀ ann t with
        | false => rw [h3] at h; cases h
        | true =>
          rw [h3] at h
          dsimp only at h
          cases h4 : stepT (denote tb) p w s t with
          | none => rw [h4] at h; cases h
          | some r =>
            obtain ⟨s2, t2⟩ := r
            rw [h4] at h
            dsimp only at h
            rw [frS_eq] at h
            obtain ⟨k, hk⟩ := untilB_ok h
            refine ⟨k + 1, ?_⟩
            unfold topGo
            rw [h2, h3, stepT_spec h4]
            exact hk
theorem segQ_ok : ∀ {m : Nat} {s s' : SharedT} {t : Thread} {f : Flow} {c : Code} {q : Pos}, segQ (stepT (denote tb) p w) n₀ ann m s t = some (f, s', c, q) → segRun tb p w n₀ ann 1 m s.abs t = some (f, s'.abs, c, q)
  | 0, _, _, _, _, _, _, h => by cases h
  | m + 1, s, s', t, f, c, q, h => by
    unfold segQ at h
    unfold segRun
    cases h1 : endAt 1 t with
    | some g => rw [h1] at h; cases h; rfl
    | none =>
      rw [h1] at h
      dsimp only at h
      cases h3 : stepOk n₀ ann t with
      | false => rw [h3] at h; cases h
      | true =>
        rw [h3] at h
        dsimp only at h
        cases h4 : stepT (denote tb) p w s t with
        | none => rw [h4] at h; cases h
        | some r =>
          obtain ⟨s2, t2⟩ := r
          rw [h4] at h
          dsimp only at h
          rw [frS_eq] at h
          dsimp only
          rw [stepT_spec h4]
          exact segQ_ok h
end
section
variable (p : Program) (M k : Nat)
theorem segC_ok {w : World} {os : OsState} {r : Option (Flow × SharedT × Code × Pos)} {f : Flow} {c : Code} (h : segC r = some (f, c)) : r = some (f, segS w os r, c, segP r) := by
  cases r with
  | none => cases h
  | some r =>
    obtain ⟨g, s, d, q⟩ := r
    cases h
    rfl
end
theorem pushT_ok {o : Obj} {s s' : SharedT} (h : pushT? o s = some s') : s'.abs = { s.abs with heap := s.abs.heap.push o } ∧ s'.n = s.n + 1 ∧ s'.toks = s.toks := by
  unfold pushT? at h
  cases e : ((s.tree.ins s.n o).get s.n).isSome with
  | false => rw [e] at h; cases h
  | true =>
    rw [e] at h
    cases h
    refine ⟨?_, rfl, rfl⟩
    show (⟨absHeap (s.tree.ins s.n o) (s.n + 1) s.life, s.gens, s.drawn, s.toks, s.os⟩ : Shared) = _
    rw [absHeap_ins e]
    rfl
theorem pushAllT_ok : ∀ {l : List Obj} {s s' : SharedT}, pushAllT? l s = some s' → s'.abs = { s.abs with heap := pushAll l s.abs.heap } ∧ s'.toks = s.toks
  | [], s, s', h => by cases h; exact ⟨rfl, rfl⟩
  | o :: l, s, s', h => by
    unfold pushAllT? at h
    cases e : pushT? o s with
    | none => rw [e] at h; cases h
    | some s1 =>
      rw [e] at h
      obtain ⟨a1, a2⟩ := pushAllT_ok h
      obtain ⟨b1, _, b3⟩ := pushT_ok e
      exact ⟨by rw [a1, b1]; rfl, a2.trans b3⟩
theorem setT_ok {a : Addr} {f : Obj → Obj} {s s' : SharedT} (h : setT? a f s = some s') : s'.abs = { s.abs with heap := s.abs.heap.update a f } ∧ s'.toks = s.toks := by
  unfold setT? at h
  cases e : s.tree.get a with
  | none => rw [e] at h; cases h
  | some o =>
    rw [e] at h
    cases h
    refine ⟨?_, rfl⟩
    show (⟨absHeap (s.tree.set a f) s.n s.life, s.gens, s.drawn, s.toks, s.os⟩ : Shared) = _
    rw [absHeap_set e]
    rfl
theorem setAllT_ok {d : Addr} : ∀ {l : List DictEntry} {s s' : SharedT}, setAllT? d l s = some s' → s'.abs = { s.abs with heap := setAll d l s.abs.heap } ∧ s'.toks = s.toks
  | [], s, s', h => by cases h; exact ⟨rfl, rfl⟩
  | e :: l, s, s', h => by
    unfold setAllT? at h
    cases q : setT? d (putE e) s with
    | none => rw [q] at h; cases h
    | some s1 =>
      rw [q] at h
      obtain ⟨a1, a2⟩ := setAllT_ok h
      obtain ⟨b1, b3⟩ := setT_ok q
      exact ⟨by rw [a1, b1]; rfl, a2.trans b3⟩
theorem behindT_ok {prog : Program} {w : World} {tab : Tab} {x : Str} {ns : Addr} {s s' : SharedT} (h : behindT? prog w tab x ns s = some s') : s'.abs = behind prog w tab x ns s.abs := by
  unfold behindT? at h
  cases e1 : pushT? { cls := .type "dict", data := .dict #[] } s with
  | none => rw [e1] at h; cases h
  | some s1 =>
    rw [e1] at h
    dsimp only at h
    cases e2 : pushAllT? (tabObjs tab s.toks) s1 with
    | none => rw [e2] at h; cases h
    | some s2 =>
      rw [e2] at h
      dsimp only at h
      cases e3 : setAllT? s.n ((tabEnts tab (s.n + 1) s.toks).map (entK prog w)) s2 with
      | none => rw [e3] at h; cases h
      | some s3 =>
        rw [e3] at h
        dsimp only at h
        cases e4 : setT? ns (Obj.putName x (hashN w x) (.str x (s.toks + 3 * tab.length + 3 * tab.length)) (.ref s.n)) s3 with
        | none => rw [e4] at h; cases h
        | some s4 =>
          rw [e4] at h
          cases h
          obtain ⟨a1, _, _⟩ := pushT_ok e1
          obtain ⟨a2, _⟩ := pushAllT_ok e2
          obtain ⟨a3, _⟩ := setAllT_ok e3
          obtain ⟨a4, _⟩ := setT_ok e4
          have sz : s.abs.heap.objs.size = s.n := absHeap_size _ _ _
          show ({ s4.abs with toks := s.toks + 3 * tab.length + 3 * tab.length + 1 } : Shared) = _
          rw [a4, a3, a2, a1]
          unfold behind
          rw [sz]
          rfl
abbrev stW (p : Program) : World → StF := fun w => stepT (denote treeTable) p w
theorem stW_eq (p : Program) : stW p = stWQ p := by
  unfold stW stWQ
  rw [stepQ_eq, denQ_eq, tabQ_eq]
end HX
end
noncomputable section
namespace HX
open PySem PySem.W PySem.Calls PyProof.Rows HandSHeadRun
theorem life_push : ∀ {l : List Obj} {h : Heap}, (pushAll l h).life = h.life
  | [], _ => rfl
  | o :: l, h => (life_push (l := l) (h := h.push o)).trans (Heap.life_push h o)
theorem life_set {d : Addr} : ∀ {l : List DictEntry} {h : Heap}, (setAll d l h).life = h.life
  | [], _ => rfl
  | e :: l, h => (life_set (l := l) (h := h.update d (putE e))).trans (Heap.update_life h d _)
theorem behind_kept {prog : Program} {w : World} {tab : Tab} {x : Str} {n₀ : Nat} {ann : Option Value} {s : Shared} : Kept n₀ ann s (behind prog w tab x mainNs s) := by
  refine ⟨?_, rfl, fun b o _ h2 _ _ e => ?_⟩
  · exact (Heap.update_life _ _ _).trans (life_set.trans (life_push.trans (Heap.life_push _ _)))
  · exact (Heap.get?_update_ne _ _ _ _ h2).trans ((setAll_ne (Nat.ne_of_lt (Heap.lt_size e))).trans (push_keep (Heap.get?_push_of_some _ e)))
def s0X (w : World) (os : OsState) : Shared := ⟨boot_heap w.params, #[], boot_drawn, boot_toks, os⟩
theorem preX_ok {p : Program} {M : Nat} {w : World} {os : OsState} {t : Thread} (h : (preX p M (stW p) w os).map (·.2) = some t) : ∃ m, topGo treeTable p w (n0X w) (bootAnn w) m (s0X w os) (topStub p) = some ((preS p M (stW p) w os).abs, t) := by
  obtain ⟨⟨S, t'⟩, e, e2⟩ := Option.map_eq_some_iff.mp h
  cases e2
  have eS : preS p M (stW p) w os = S := by unfold preS; rw [e]
  rw [eS]
  unfold preX at e
  cases q : putAll (boot_heap w.params).objs.toList .nil 0 with
  | none => rw [q] at e; cases e
  | some r =>
    obtain ⟨T, n⟩ := r
    rw [q] at e
    dsimp only at e
    obtain ⟨m, hm⟩ := untilB_ok e
    have eb : (bootT w os (T, n)).abs = s0X w os := by
      show (⟨absHeap T n (boot_heap w.params).life, #[], boot_drawn, boot_toks, os⟩ : Shared) = _
      rw [putAll_heap q]
      rfl
    rw [eb] at hm
    exact ⟨m, hm⟩
theorem topGo_specT {p : Program} {w : World} {n₀ n : Nat} {ann : Option Value} {s s₁ : Shared} {t t₁ : Thread} (hr : s.asleep) (h : topGo treeTable p w n₀ ann n s t = some (s₁, t₁)) :
    schedN (denote table) p w n (.single s t) = .running (.single s₁ t₁) ∧ Kept n₀ ann s s₁ := by
  rw [← table_eq_tree] at h
  obtain ⟨a, b⟩ := topGo_spec n s t s₁ t₁ hr h
  exact ⟨a, b⟩
theorem goB_okT {p : Program} {w : World} {n₀ m : Nat} {ann : Option Value} {base : List Frame} {s s' : SharedT} {t : Sem Fin} {c : Code} {q : Pos} {pre : List Frame} {f : Flow} (h : goB (stepT (denote treeTable) p w) (denote treeTable) base n₀ ann m s t c q pre = some (s', f)) :
    Reach (model p w) base s.abs t c q pre s'.abs (.ret (.ok f)) ∧ Kept n₀ ann s.abs s'.abs := by
  rw [← table_eq_tree] at h
  exact goB_ok h
theorem topX_of {p q : Program} {loose : List Str} {Xt : Shared → Bool} {α : Type} {Yf : Shared → α} {Ya : World → α} {M k : Nat} {w : World} {os : OsState} {A : Around}
    {keys : List (Option Expr)} {values : List Expr} {tab : Tab} {x : Str} {p1 p2 p3 : Pos}
    (e1 : (preX p M (stW p) w os).map (·.2) = some ⟨denote treeTable (.body (bodyX p) (envX p M (stW p) w os)), codeX p M (stW p) w os, (preT p M (stW p) w os).pos, [topFrame (qX p M (stW p) w os)]⟩)
    (e2 : segC (blkX p M (stW p) w os) = some (.next, codeX p M (stW p) w os))
    (e3 : segC (aheadX p M k (stW p) w os) = some (.next, codeX p M (stW p) w os))
    (hst : (bodyX p)[k]? = some (.Assign [.Name x p1] (.Dict keys values p2) p3))
    (ht : TabE keys values tab) (hk : keys.length ≤ 15) (h0 : keys ≠ []) (hall : keys.all (·.isSome) = true) (hl : keys.length = values.length) (hnd : (tab.map fun p => [(.inr p.1.1 : L2.Key), .inr p.1.2]).Nodup) (hlen : tab.length ≤ 100)
    (e4 : nsOkT (s1X p M k (stW p) w os) = true) (hns : ∀ v, storeName (envX p M (stW p) w os) x v = nsSet mainNs x v)
    (hsw : swapsWith (.Dict keys values p2) (some (.Name x p1)) p3.line (envX p M (stW p) w os) = pure false)
    (hA : ((Ctx.of (codeX p M (stW p) w os) []).over [topFrame (qX p M (stW p) w os)]).In A) (hu : A.units < cLine)
    (e5 : ∀ q2, (goX p M k tab x (stW p) (denote treeTable) w os q2).map (fun r => (looksF p (boot_heap w.params) r.1.abs, openSeen q loose (importedModules p.main.body) Xt true r.1.abs, Yf r.1.abs)) = some (true, openGood q loose, Ya w))
    (hz : (s0X w os).asleep) : TopX p q loose Xt Yf Ya w (s0X w os) := by
  obtain ⟨m0, g0⟩ := preX_ok e1
  obtain ⟨m1, g1⟩ := pieceG_block (segQ_ok (segC_ok (os := os) (w := w) e2))
  obtain ⟨m2, g2⟩ := pieceG_app (rest := (bodyX p).drop k) (segQ_ok (segC_ok (os := os) (w := w) e3))
  rw [List.take_append_drop] at g2
  have hd : (bodyX p).drop k = .Assign [.Name x p1] (.Dict keys values p2) p3 :: (bodyX p).drop (k + 1) := by
    obtain ⟨hlt, he⟩ := List.getElem?_eq_some_iff.mp hst
    rw [List.drop_eq_getElem_cons hlt, he]
  rw [hd] at g2
  have G := topGo_trans (topGo_trans g0 g1) g2
  -- the table
  have hs1 : ∃ o es ep, (s1X p M k (stW p) w os).abs.heap.get? mainNs = some o ∧ o.data = .dict es ep ∧ es.any (·.refKey) = false := by
    unfold nsOkT at e4
    rw [getT_eq] at e4
    split at e4
    · rename_i c dd es ep sl e
      exact ⟨_, es, ep, e, rfl, by simpa using e4⟩
    · cases e4
  obtain ⟨o, es, ep, ho, hdt, hany⟩ := hs1
  cases hb : behindT? p w tab x mainNs (s1X p M k (stW p) w os) with
  | none =>
    obtain ⟨⟨S3, f⟩, r5, _⟩ := Option.map_eq_some_iff.mp (e5 default)
    unfold goX at r5
    rw [hb] at r5
    cases r5
  | some s2 =>
    have eb := behindT_ok hb
    have hw : wpAny (model p w) A (exec (.Assign [.Name x p1] (.Dict keys values p2) p3) (envX p M (stW p) w os)) (fun g s => g = .next ∧ s = s2.abs) (fun _ _ => False) (s1X p M k (stW p) w os).abs :=
      wp_tabAssign ht hu hk h0 hall hl hnd hlen ho hdt hany hns hsw ⟨rfl, eb.symm⟩
    obtain ⟨f, s3, R, kp3, looks, seen, obs⟩ := mid_runs (P := fun f s3 => Kept (n0X w) (bootAnn w) s2.abs s3 ∧ looksF p (boot_heap w.params) s3 = true ∧ openSeen q loose (importedModules p.main.body) Xt true s3 = openGood q loose ∧ Yf s3 = Ya w)
      (q1 := segP (aheadX p M k (stW p) w os)) (rest := (bodyX p).drop (k + 1)) hA hw fun q2 => by
        obtain ⟨⟨S3, f⟩, r5, r6⟩ := Option.map_eq_some_iff.mp (e5 q2)
        unfold goX at r5
        rw [hb] at r5
        dsimp only at r5
        unfold restX at r5
        have r7 : goB (stepT (denote treeTable) p w) (denote treeTable) [] (n0X w) (bootAnn w) M s2 ((execs ((bodyX p).drop (k + 1)) (envX p M (stW p) w os)).wrap doneF (leaveH (envX p M (stW p) w os)) id id) (codeX p M (stW p) w os) q2 [topFrame (qX p M (stW p) w os)] = some (S3, f) := r5
        obtain ⟨h1, h2⟩ := goB_okT r7
        obtain ⟨a1, a2, a3⟩ : _ ∧ _ ∧ _ := by simpa only [Prod.mk.injEq] using r6
        exact ⟨f, S3.abs, reach_runs h1, h2, a1, a2, a3⟩
    obtain ⟨sch, k1⟩ := topGo_specT hz G
    have k1 : Kept (n0X w) (bootAnn w) (s0X w os) (s1X p M k (stW p) w os).abs := k1
    have k2 : Kept (n0X w) (bootAnn w) (s1X p M k (stW p) w os).abs s2.abs := by rw [eb]; exact behind_kept
    have e9 : (_ && _) = true := congrArg (fun x => x.2.2.1) seen
    have hg : s3.gens = #[] := Array.eq_empty_of_size_eq_zero (beq_iff_eq.mp (Bool.and_eq_true_iff.mp e9).2)
    obtain ⟨n, t1, hn, ht1⟩ := end_sched (Shared.asleep_of_life k1.1 hz) hg R
    exact ⟨s3, ⟨_, t1, schedN_add sch hn, ht1⟩, k1.trans (k2.trans kp3), looks, seen, obs⟩
end HX
end
noncomputable section
namespace HX
open PySem PySem.W PySem.Calls PyProof.Rows HandSHeadRun
theorem partsOf_ok {o : Option Stmt} {x : Str} {ks : List (Option Expr)} {vs : List Expr} {p1 p2 p3 : Pos} (h : partsOf o = some (x, ks, vs, p1, p2, p3)) : o = some (.Assign [.Name x p1] (.Dict ks vs p2) p3) := by
  unfold partsOf at h
  split at h
  · cases h; rfl
  · cases h
theorem tabB_ok : ∀ {ks : List (Option Expr)} {vs : List Expr} {tab : Tab}, tabB ks vs = some tab → TabE ks vs tab
  | ks, vs, tab, h => by
    unfold tabB at h
    split at h
    · cases h; exact .nil
    · rename_i ks' vs'
      obtain ⟨t, e, e2⟩ := Option.map_eq_some_iff.mp h
      cases e2
      exact .cons (tabB_ok e)
    · cases h
theorem TabE.facts {ks : List (Option Expr)} {vs : List Expr} {tab : Tab} (h : TabE ks vs tab) : ks.length = tab.length ∧ vs.length = tab.length ∧ ks.all (·.isSome) = true := by
  induction h with
  | nil => exact ⟨rfl, rfl, rfl⟩
  | cons _ ih =>
    obtain ⟨a, b, c⟩ := ih
    exact ⟨by simp [a], by simp [b], by simp [c]⟩
def aX (b : List Stmt) (env : Env) (q : Pos) : Around := { handled := none, depth := frameCount ((Ctx.of (.body b env) []).over [topFrame q]).below + ((Ctx.of (.body b env) []).over [topFrame q]).code.weight, frames := none, guards := none, units := 100 }
theorem in_aX {b : List Stmt} {env : Env} {q : Pos} : ((Ctx.of (.body b env) []).over [topFrame q]).In (aX b env q) :=
  ⟨rfl, Nat.le_refl _, fun _ h => (nomatch h), fun _ h => (nomatch h), Nat.le_of_ble_eq_true (by rfl)⟩
theorem den_eq : denote treeTable = denQ tabQ := by rw [denQ_eq, tabQ_eq]
section
variable {r : OpenRow} {q : Program} {H : Hook} {ob : SharedT → H.α} {M k : Nat} {loose : List PySem.Str} {d : DefRec} {kwd : List (PySem.Str × PySem.Expr)} {x : Str} {tab : Tab}
theorem headX (ho : ∀ s : SharedT, ob s = H.obs s.abs) (e : opening r.prog = plainProg r.prog.main.scope.names) (f : ∀ s, fenceModules? r.prog s = some s)
    (hq : ((partsOf ((bodyX r.prog)[k]?)).bind fun z => (tabB z.2.1 z.2.2.1).map fun t => (z.1, t)) = some (x, tab)) (h15 : tab.length ≤ 15) (h0 : tab ≠ []) (hnd : (tab.map fun p => [(.inr p.1.1 : L2.Key), .inr p.1.2]).Nodup)
    (e1 : ∀ w os, (preX r.prog M (stWQ r.prog) w os).map (·.2) = some ⟨denQ tabQ (.body (bodyX r.prog) (envX r.prog M (stWQ r.prog) w os)), codeX r.prog M (stWQ r.prog) w os, (preT r.prog M (stWQ r.prog) w os).pos, [topFrame (qX r.prog M (stWQ r.prog) w os)]⟩)
    (e2 : ∀ w os, segC (blkX r.prog M (stWQ r.prog) w os) = some (.next, codeX r.prog M (stWQ r.prog) w os))
    (e3 : ∀ w os, segC (aheadX r.prog M k (stWQ r.prog) w os) = some (.next, codeX r.prog M (stWQ r.prog) w os))
    (e4 : ∀ w os, nsOkT (s1X r.prog M k (stWQ r.prog) w os) = true) (hns : ∀ w os v, storeName (envX r.prog M (stWQ r.prog) w os) x v = nsSet mainNs x v)
    (e5 : ∀ w os q2, (goX r.prog M k tab x (stWQ r.prog) (denQ tabQ) w os q2).map (fun z => (looksF r.prog (boot_heap w.params) z.1.abs, seenQ q loose (importedModules r.prog.main.body) (fun s => xlAt q [] s && recOk r.toRowW.records s) z.1.abs, ob z.1)) = some (true, openGood q loose, H.val w))
    (hdef : defOf q r.name = some (d, kwd)) (hp : r.prog.theDef r.name = some (d.params, d.body, d.scope)) (hk : kwWritten? d.params.kwonlyargs d.params.kw_defaults = some kwd)
    (hwr : (!r.writes || r.records.isEmpty) = true) (k1 : r.wellSaid = true) (ok : (chainsOk q && opensWell r.prog && (frees r.toRowW && r.within.isEmpty)) = true) (hb : r.prog.bare) (hw : r.toRowW.promised)
    (call : WalkO q loose (XL q []) H.says r.toRowW d kwd fun f vs => PySem.call f vs) : r.Holds := by
  obtain ⟨⟨x', ks, vs, p1, p2, p3⟩, a1, a2⟩ := Option.bind_eq_some_iff.mp hq
  dsimp only at a2
  obtain ⟨t, a3, a4⟩ := Option.map_eq_some_iff.mp a2
  cases a4
  have hst := partsOf_ok a1
  have ht := tabB_ok a3
  obtain ⟨l1, l2, l3⟩ := ht.facts
  have hch : chainsOk q = true := (Bool.and_eq_true_iff.mp (Bool.and_eq_true_iff.mp ok).1).1
  rw [← stW_eq] at e1 e2 e3 e4 hns e5
  rw [← den_eq] at e1 e5
  have eo : ob = fun s => H.obs s.abs := funext ho
  have Bh : ∀ w, Behind r.prog q loose (fun mg h => XL q [] mg h ∧ RecFacts r.toRowW.records h) H.obs H.val w := fun w => by
    obtain ⟨⟨h, gs, dd, kk, os⟩, b1, b2⟩ := Option.map_eq_some_iff.mp (boot_open (N := 600) e (by rfl) f w)
    obtain ⟨rfl, rfl, rfl, rfl⟩ : h = boot_heap w.params ∧ gs = Array.mk [] ∧ dd = boot_drawn ∧ kk = boot_toks := by simpa using b2
    refine behindX (Xt := fun s => xlAt q [] s && recOk r.toRowW.records s) b1 (boot_ns w.params) rfl (fun z => ?_) (fun s z => ⟨xl_of s (Bool.and_eq_true_iff.mp z).1, recFacts_of (Bool.and_eq_true_iff.mp z).2⟩) hch
    refine topX_of (os := os) (A := aX _ _ _) (e1 w os) (e2 w os) (e3 w os) hst ht (by omega) (fun c => h0 (by rw [c] at l1; exact List.length_eq_zero_iff.mp l1.symm)) l3 (by omega) hnd (by omega) (e4 w os) (hns w os) rfl in_aX (show 100 < cLine by decide) (fun q2 => ?_) z
    have z5 := e5 w os q2
    rw [eo] at z5
    simp only [← seenQ_eq] at z5
    exact z5
  exact holdsX (XP := XL q []) (YP := H.says) Bh H.of H.keeps XL.keeps hdef hp hk hwr k1 ok hb hw call
end
end HX
end
namespace L3
open PySem PySem.Spec PyProof.Rows L2 HX
def look2 (tab : Tab) (k : Str × Str) : Option Str := (tab.find? fun p => decide (p.1 = k)).map (·.2)
theorem EntsAre.look {xs : List Ent} {tab : Tab} (h : EntsAre xs tab) (a b : Str) : (∀ v, look2 tab (a, b) = some v → ∃ t, (atKey xs [.inr a, .inr b]).map (·.2) = some (.str v t)) ∧ (look2 tab (a, b) = none → (atKey xs [.inr a, .inr b]).map (·.2) = none) := by
  induction h with
  | nil => exact ⟨fun v q => (nomatch q), fun _ => rfl⟩
  | @cons a' b' v' ad t xs tab _ ih =>
    unfold look2 atKey at *
    rw [List.find?_cons, List.find?_cons]
    by_cases e : (a', b') = (a, b)
    · cases e
      rw [decide_eq_true rfl, decide_eq_true rfl]
      exact ⟨fun v q => by cases q; exact ⟨t, rfl⟩, fun q => (nomatch q)⟩
    · have e2 : ¬ ([(.inr a' : L2.Key), .inr b'] = [.inr a, .inr b]) := fun z => e (by
        injection z with z1 z2
        injection z2 with z3 _
        rw [Sum.inr.inj z1, Sum.inr.inj z3])
      rw [decide_eq_false e, decide_eq_false e2]
      exact ih
def tTGet (tab : Tab) (ty tx : TE) : TE := fun σ H Q => ty σ H fun y H1 => tx σ H1 fun z H2 => ∃ b a1 a2, y = .ref b ∧ H2 b = some (.tup [.str a1, .str a2]) ∧ Q ((look2 tab (a1, a2)).elim z .str) H2
section
variable {X : Cx} {g : Gx} {x : Str} {tab : Tab} {e f : Expr} {p apos cpos : Pos} {ty tx : TE} {fk fd : EM}
theorem pe_tget2 (hu : X.A.units + 1 < cLine) (hg : Gl X x) (T : PTab X.kw X.w X.mg x tab) (hnd : (tab.map fun p => [(.inr p.1.1 : L2.Key), .inr p.1.2]).Nodup) (he : PE X e ty) (hf : PE X f tx) (m : M2 X (.Name x p) "get" apos e f cpos) (hdb : (x == ("__debug__" : Str)) = false := by decide) :
    PE X (.Call (.Attribute (.Name x p) "get" apos) [e, f] [] cpos) (tTGet tab ty tx) := by
  obtain ⟨d, hm, q⟩ := T
  refine ⟨fun pins s σ H Q I h => ?_⟩
  obtain ⟨hd, xs, r1, dd, ob, ho, hno⟩ := PTab.dict (prog := X.prog) I.kIn q hnd
  refine wpAny_Call_method m.base m.few m.line PySem.F.plainAttrs_dict PySem.F.slot_dict_get PySem.F.type_dict_get (ld_glob I hg hm ⟨dd.typeIs, fun b z => ?_, ?_⟩ hdb)
  · cases z
    exact ⟨ob, ho, hno⟩
  rw [m.trees]
  refine Calls.callWith_builtin rfl (Calls.evalArgs_plain (Calls.spliced_cons (thn (he.run pins s σ H _ I h) fun u s1 ⟨y, H1, I1, ry, q1⟩ => Calls.spliced_cons (thn (hf.run pins s1 σ H1 _ I1 q1) fun r s2 ⟨z, H2, I2, rz, b, a1, a2, ey, eb, q2⟩ => Calls.spliced_nil ?_))))
  subst ey
  cases (show u = Value.ref b from ry)
  obtain ⟨hd2, xs2, r2, dd2, _⟩ := PTab.dict (prog := X.prog) I2.kIn q hnd
  obtain ⟨l1, l2⟩ := r2.look a1 a2
  refine call_meetsIn PySem.F.slot_dict_get dd2.typeIs PySem.F.entry_dict_get (PySem.F.args_dict_get_3 _ _ _) (meetsH_dict_get_default (kX X.prog X.w) d b hd2 r) ⟨tupleKind_room_in1 hu, [.inr a1, .inr a2], xs2, key_of I2.hok eb, dd2, ?_⟩
  cases hl : look2 tab (a1, a2) with
  | none =>
    rw [l2 hl]
    rw [hl] at q2
    exact ⟨_, H2, I2.tok _, rz, q2⟩
  | some v =>
    obtain ⟨t, e1⟩ := l1 v hl
    rw [e1]
    rw [hl] at q2
    exact ⟨V.str v, H2, I2.tok _, ⟨t, rfl⟩, q2⟩
def pair2 : D → Option (Str × Str)
  | .tup [.str a, .str b] => some (a, b)
  | _ => none
def eTGet (tab : Tab) (fk fx : EM) : EM := fun ρ => (fk ρ).bind fun p => (pair2 p.1).bind fun k => (fx p.2).bind fun q => some ((look2 tab k).elim q.1 .str, q.2)
theorem pair2_ok {d : D} {k : Str × Str} (h : pair2 d = some k) : d = .tup [.str k.1, .str k.2] := by
  unfold pair2 at h
  split at h
  · cases h; rfl
  · cases h
theorem de_tget2 (hu : X.A.units + 1 < cLine) (hg : Gl X x) (T : PTab X.kw X.w X.mg x tab) (he : DE X g e fk) (hf : DE X g f fd) (m : M2 X (.Name x p) "get" apos e f cpos) (hnd : (tab.map fun p => [(.inr p.1.1 : L2.Key), .inr p.1.2]).Nodup := by decide +kernel) (hdb : (x == ("__debug__" : Str)) = false := by decide) :
    DE X g (.Call (.Attribute (.Name x p) "get" apos) [e, f] [] cpos) (eTGet tab fk fd) := weakPE (pe_tget2 hu hg T hnd he hf m (hdb := hdb)) fun σ H Q ⟨F, ρ, d, ρ', G, hf, q⟩ => by
  obtain ⟨⟨a, ρ1⟩, e1, hf⟩ := bnd hf
  obtain ⟨k, e2, hf⟩ := bnd hf
  obtain ⟨⟨b, ρ2⟩, e3, hf⟩ := bnd hf
  cases hf
  refine ⟨F, ρ, a, ρ1, G, e1, fun v F1 H1 G1 s1 r1 => ⟨F1, ρ1, b, ρ2, G1, e3, fun w F2 H2 G2 s2 r2 => ?_⟩⟩
  dsimp only at e2
  rw [pair2_ok e2] at r1
  cases r1 with
  | tup h1 h2 =>
    cases h2 with
    | cons ha h2 =>
      cases h2 with
      | cons hb h2 =>
        cases h2
        cases ha
        cases hb
        refine ⟨_, k.1, k.2, rfl, G2.sub _ _ (s2 _ _ h1), q _ F2 H2 G2 (s1.trans s2) ?_⟩
        cases look2 tab (k.1, k.2) with
        | none => exact r2
        | some v => exact .str
theorem x_eTGet {ρ : Env} {Q : D × Env → Prop} : Ex (eTGet tab fk fd ρ) Q = Ex (fk ρ) fun p => Ex (pair2 p.1) fun k => Ex (fd p.2) fun q => Q ((look2 tab k).elim q.1 .str, q.2) := by
  simp only [ex_eq]
  unfold eTGet
  simp only [ex0_bind, ex0_some]
theorem pair2_s {a b : Str} : pair2 (.tup [.str a, .str b]) = some (a, b) := rfl
end
theorem obsXG_eq {as bs : List Addr} {fa : List He.Fa} {fx : List Fx} {fn : List Df} {tb : List Tb} {x : Str} {tab : Tab} {g : Addr → Option Obj} {s : Shared} (h : ∀ a, g a = s.heap.get? a) : obsXG as bs fa fx fn tb x g = (hookX as bs fa fx fn tb x tab).obs s := by
  rw [show g = s.heap.get? from funext h]; rfl
end L3
namespace My
open PySem PySem.Spec PyProof.Rows L2 L3
open HandSHeadRun HX PySem.W
theorem ob_eq (s : PySem.W.SharedT) : ob s = hk.obs s.abs := obsXG_eq (HandSHeadRun.getT_eq s)
end My
namespace L3
open PySem L2
def kind : D → Nat
  | .non => 1
  | .bl _ => 2
  | .int _ => 3
  | .str _ => 4
  | .tup _ => 5
  | .lst _ => 6
  | .ins _ _ => 7
  | .dk _ => 8
  | _ => 0
theorem Reps.len {K : KW} {F : Hp} : ∀ {vs : List V} {ds : List D}, Reps K F vs ds → vs.length = ds.length
  | _, _, .nil => rfl
  | _, _, .cons _ r => by rw [List.length_cons, List.length_cons, Reps.len r]
theorem RepF.names {K : KW} {F : Hp} : ∀ {vs : List (Str × V)} {ds : List (Str × D)}, RepF K F vs ds → vs.map (·.1) = ds.map (·.1)
  | _, _, .nil => rfl
  | _, _, .cons _ r => by rw [List.map_cons, List.map_cons, RepF.names r]
/-- F' is F without some changeable things, each with data -/
structure CutS (K : KW) (F F' : Hp) (xs : List D) : Prop where
  cut : ∀ p o, F p = some o → F' p = some o ∨ (isLst o = true ∧ ∃ x ∈ xs, ORep K F o x)
section
variable {K : KW} {F F' : Hp} {xs : List D}
theorem CutS.keep (c : CutS K F F' xs) : ∀ p o, F p = some o → isLst o = false → F' p = some o := fun p o e q => (c.cut p o e).elim id fun z => by rw [z.1] at q; cases q
end
def datR : Res → Option D
  | .d x => some x
  | _ => none
theorem Reps.rep {K : KW} {F : Hp} {vs : List V} {ds : List D} (r : Reps K F vs ds) : ∀ n : Nat, Reps K F (List.replicate n vs).flatten (List.replicate n ds).flatten
  | 0 => .nil
  | n + 1 => by
    rw [List.replicate_succ, List.replicate_succ, List.flatten_cons, List.flatten_cons]
    exact r.append (Reps.rep r n)
end L3
namespace L3
open PySem L2
theorem strD_s {y : PySem.Str} : strD (.str y) = some y := rfl
theorem shS {k : Nat} {x : PySem.Str} (h : PyData.strOk x = true) : sh k (.str x) = true := by
  cases k <;> (unfold sh; unfold PyData.canLay0; exact h)
mutual
theorem dEq_refl : ∀ {k : Nat} {d : D}, sh k d = true → dEq d d = true
  | _, .non, _ => by simp only [dEq]
  | _, .bl _, _ => by simp only [dEq, beq_self_eq_true]
  | _, .int _, _ => by simp only [dEq, decide_true]
  | _, .str _, _ => by simp only [dEq, beq_self_eq_true]
  | k + 1, .tup l, h => by
    unfold sh at h
    simp only [dEq]
    exact dEqs_refl h
  | k + 1, .ktp l, h => by
    unfold sh at h
    simp only [dEq]
    exact dEqs_refl h
  | k + 1, .lst l, h => by
    unfold sh at h
    simp only [dEq]
    exact dEqs_refl h
  | 0, .tup _, h => by simp [sh] at h
  | 0, .ktp _, h => by simp [sh] at h
  | 0, .lst _, h => by simp [sh] at h
  | 0, .dk _, h => by simp [sh] at h
  | 0, .dd _, h => by simp [sh] at h
  | _ + 1, .dd _, h => by simp [sh] at h
  | _ + 1, .dk _, h => by simp [sh] at h
  | 0, .box _, h => by simp [sh] at h
  | _ + 1, .box _, h => by simp [sh] at h
  | 0, .ins _ _, h => by simp [sh] at h
  | _ + 1, .ins _ _, h => by simp [sh] at h
  | 0, .cls _, h => by simp [sh] at h
  | _ + 1, .cls _, h => by simp [sh] at h
  | 0, .bty _, h => by simp [sh] at h
  | _ + 1, .bty _, h => by simp [sh] at h
  | 0, .scr _, h => by simp [sh] at h
  | _ + 1, .scr _, h => by simp [sh] at h
theorem dEqs_refl : ∀ {k : Nat} {l : List D}, l.all (sh k) = true → dEqs l l = true
  | _, [], _ => by simp only [dEqs]
  | k, d :: l, h => by
    rw [List.all_cons, Bool.and_eq_true] at h
    simp only [dEqs, dEq_refl h.1, dEqs_refl h.2, Bool.and_self]
end
theorem kNe_refl {d : D} (h : sh 64 d = true) : kNe d d = some (.bl false) := by rw [kNe_sh h h, dEq_refl h]; rfl
theorem kEq_refl {d : D} (h : sh 64 d = true) : kEq d d = some (.bl true) := by rw [kEq_sh h h, dEq_refl h]
theorem nodup_sub {α : Type} [DecidableEq α] : ∀ {l m : List α}, l.Nodup → (∀ x ∈ l, x ∈ m) → l.length ≤ m.length
  | [], _, _, _ => Nat.zero_le _
  | x :: l, m, nd, h => by
    have hx := h x List.mem_cons_self
    have nd' := List.nodup_cons.mp nd
    have e := List.length_erase_of_mem hx
    have := nodup_sub (l := l) (m := m.erase x) nd'.2 fun y hy => (List.mem_erase_of_ne (by intro c; subst c; exact nd'.1 hy)).mpr (h y (List.mem_cons_of_mem _ hy))
    have hp : 0 < m.length := List.length_pos_of_mem hx
    rw [List.length_cons]
    omega
end L3
namespace L3
open PySem L2
def intD : D → Option Int
  | .int k => some k
  | _ => none
theorem intD_i {k : Int} : intD (.int k) = some k := rfl
theorem datR_d {x : D} : datR (.d x) = some x := rfl
end L3
namespace KwX
open PySem PySem.Spec PyProof.Rows L2
section
variable {prog : Program} {w : World} {K : Type} [DecidableEq K] {knd : KeyKind prog w K} {A : Around} {E : Value → Shared → Prop} {s : Shared}
theorem wp_dictPut {d : Addr} {kvs : List (K × Value)} {k : K} {key v : Value} {Q : Unit → Shared → Prop} (hkey : knd.is k key = true) (hm : s.heap.DictOf knd d kvs)
    (hQ : ∀ h', h'.DictOf knd d (stored kvs k v) → Heap.SameBut d s.heap h' → Q () { s with heap := h' }) (hsz : kvs.length ≤ sizeLine) :
    wpAny (model prog w) A (dictPut d (knd.hash k) key v) Q E s := by
  obtain ⟨o, es, ep, ho, hc, hd, hk, hp, hn⟩ := hm
  have hes : es.size ≤ sizeLine := by have e1 := hp.length; have e2 : es.toList.length = es.size := by simp
                                      omega
  unfold dictPut
  refine wpAny_bind (wpAny_dictFind_of hkey ho hd hk ?_)
  have hidx : (es.findIdx? fun e => knd.is k e.key) = kvs.findIdx? fun kv => decide (kv.1 = k) := by
    rw [← hp.findIdx k]; obtain ⟨l⟩ := es; simp
  cases hi : es.findIdx? fun e => knd.is k e.key with
  | some i =>
    refine wpAny_updateDict ho hd (hQ _ ⟨_, _, ep, Heap.get?_update_self _ ho (Obj.isFreed_of_dict (Obj.data_mapDict hd _)),
      hc.mapDict _, Obj.data_mapDict hd _, hk.modify _ _, ?_, ?_⟩ (Heap.SameBut.update ..))
    · rw [stored, if_pos (any_of_findIdx_some (hidx ▸ hi))]
      have hl : (es.toList.findIdx? fun e => knd.is k e.key) = some i := by rw [← hi]; obtain ⟨l⟩ := es; simp
      have := hp.modify hn hl v
      obtain ⟨l⟩ := es
      simpa using this
    · rw [stored, if_pos (any_of_findIdx_some (hidx ▸ hi)), keys_map_store]; exact hn
  | none =>
    have hnot : k ∉ kvs.map (·.1) := not_mem_of_findIdx_none (hidx ▸ hi)
    have hany : ¬ (kvs.any fun kv => decide (kv.1 = k)) = true := by
      rw [List.any_eq_true]; rintro ⟨kv, hkv, he⟩
      exact hnot (List.mem_map.mpr ⟨kv, hkv, of_decide_eq_true he⟩)
    refine wpAny_updateDictKeys (hz := hes) ho hd (hQ _ ⟨_, _, ep + 1, Heap.get?_update_self _ ho (Obj.isFreed_of_dict (Obj.data_mapDictKeys hd _)),
      hc.mapDictKeys _, Obj.data_mapDictKeys hd _, hk.push hkey _, ?_, ?_⟩ (Heap.SameBut.update ..))
    · rw [stored, if_neg hany]
      have := hp.append hkey (knd.hash k) v
      obtain ⟨l⟩ := es
      simpa using this
    · rw [stored, if_neg hany, List.map_append, List.nodup_append]
      refine ⟨hn, by simp, ?_⟩
      intro a ha b hb
      simp only [List.map_cons, List.map_nil, List.mem_singleton] at hb
      subst hb
      exact fun e => hnot (e ▸ ha)
theorem wp_dictFind_no {d : Addr} {kvs : List (K × Value)} {k : K} {key : Value} {Q : Option Nat → Shared → Prop} (hkey : knd.is k key = true) (hm : s.heap.DictOf knd d kvs) (hn : k ∉ kvs.map (·.1)) (hQ : Q none s) : wpAny (model prog w) A (dictFind d key (knd.hash k)) Q E s := by
  obtain ⟨o, es, ep, ho, hc, hd, hk, hp, hnd⟩ := hm
  refine wpAny_dictFind_of hkey ho hd hk ?_
  have hidx : (es.findIdx? fun e => knd.is k e.key) = kvs.findIdx? fun kv => decide (kv.1 = k) := by
    rw [← hp.findIdx k]; obtain ⟨l⟩ := es; simp
  have : (kvs.findIdx? fun kv => decide (kv.1 = k)) = none := by
    rw [List.findIdx?_eq_none_iff]
    intro x hx
    refine decide_eq_false fun e => hn ?_
    exact List.mem_map.mpr ⟨x, hx, e⟩
  rw [hidx, this]
  exact hQ
end
section
variable {prog : Program} {w : World} {A : Around} {E : Value → Shared → Prop} {s : Shared}
theorem notRef {k : Key} {v : Value} (h : (mixKind prog w).is k v = true) : ∀ a, v ≠ .ref a := by
  intro a e
  rcases keyIs_shape h with ⟨i, t, _, rfl⟩ | ⟨x, t, _, rfl⟩ <;> cases e
theorem wp_merge {d o : Addr} {kvs more : List (Key × Value)} {u : Bool} {Q : Unit → Shared → Prop} (hdo : d ≠ o) (hoS : (o == sysModules) = false)
    (hd : s.heap.DictOf (mixKind prog w) d kvs) (ho : s.heap.DictOf (mixKind prog w) o more) (hu : u = true → kvs = [])
    (hQ : ∀ h', h'.DictOf (mixKind prog w) d (merged kvs more) → Heap.SameBut d s.heap h' → Q () { s with heap := h' }) (hsz : kvs.length + more.length ≤ sizeLine) :
    wpAny (model prog w) A (mergeMapping d (.ref o) u) Q E s := by
  have hT : s.TypeIs (.ref o) "dict" := ho.typeIs
  obtain ⟨od, esd, epd, hod, hcd, hdd, hkd, hpd, hnd⟩ := id hd
  obtain ⟨oo, eso, epo, hoo, hco, hdo', hko, hpo, hno⟩ := id ho
  have hlen : more.length = eso.size := by rw [← hpo.length]; simp
  unfold mergeMapping
  refine wpAny_bind (wpAny_isInstance (U := "dict") (b := true) hT (by rfl) ?_)
  dsimp only
  rw [if_pos rfl]
  refine wpAny_bind (wpAny_specialOf hT PySem.F.slot_dict_iter.lookup ?_)
  refine wpAny_bind (wpAny_pure ?_)
  rw [show ((some (Value.builtin "dict.__iter__") : Option Value) == some (.builtin "dict.__iter__")) = true from by rfl]
  dsimp only
  rw [if_neg (by rw [hoS]; exact Bool.false_ne_true)]
  have loop : wpAny (model prog w) A (do
      let l ← dictEntries o
      let epoch ← dictEpoch o
      forIn (List.range l.size) PUnit.unit fun i (_ : PUnit) => (do
          let l' ← dictEntries o
          match l'[i]? with
            | some e => do
              holding [e.key, e.val]
                  (if u = true then do
                    let f ← dictFind d e.key e.hash
                    if f.isSome = true then do
                        rule "dict.merge.duplicate-key"
                        let x ← newExc (Value.type "KeyError") [e.key]
                        raiseNew x
                        dictPut d e.hash e.key e.val
                      else dictPut d e.hash e.key e.val
                  else dictPut d e.hash e.key e.val)
              let ep' ← dictEpoch o
              if (ep' != epoch) = true then do
                  (unsupported "dict.changed-during-merge" : Sem PUnit)
                  pure (ForInStep.yield PUnit.unit)
                else pure (ForInStep.yield PUnit.unit)
            | _ => do
              (unsupported "dict.changed-during-merge" : Sem PUnit)
              pure (ForInStep.yield PUnit.unit) : Sem (ForInStep PUnit))
      pure ()) Q E s := by
    refine wpAny_bind (wpAny_dictEntries hoo hdo' ?_)
    refine wpAny_bind (wpAny_dictEpoch hoo hdo' ?_)
    refine wpAny_bind ?_
    rw [List.range_eq_range']
    refine wpAny_forIn_list _
      (fun rest _ s' => ∃ h' i, s' = { s with heap := h' } ∧ rest = List.range' i (eso.size - i) ∧ i ≤ eso.size ∧ h'.DictOf (mixKind prog w) d (merged kvs (more.take i)) ∧ h'.get? o = some oo ∧ Heap.SameBut d s.heap h')
      _ ?_ ?_ _ _ ⟨s.heap, 0, rfl, by simp, Nat.zero_le _, by simpa [merged] using hd, hoo, Heap.SameBut.refl _ _⟩
    · rintro x rest b s' ⟨h', i, rfl, hr, hi, hd', hoo', hs'⟩
      have hlt : i < eso.size := by
        rcases Nat.lt_or_ge i eso.size with h | h
        · exact h
        · rw [Nat.sub_eq_zero_of_le h] at hr; simp at hr
      obtain ⟨rfl, hrest⟩ : x = i ∧ rest = List.range' (i + 1) (eso.size - (i + 1)) := by
        have e : eso.size - i = (eso.size - (i + 1)) + 1 := by omega
        rw [e, List.range'_succ] at hr
        injection hr with h1 h2
        exact ⟨h1, h2⟩
      refine wpAny_bind (wpAny_dictEntries hoo' hdo' ?_)
      rw [Array.getElem?_eq_getElem hlt]
      obtain ⟨kv, hkv⟩ : ∃ kv, more[x]? = some kv := ⟨more[x]'(by rw [hlen]; exact hlt), List.getElem?_eq_getElem _⟩
      obtain ⟨k, v⟩ := kv
      obtain ⟨hkey, hval⟩ := hpo.get? (e := eso[x]) (by simp [hlt]) hkv
      obtain ⟨k', hkey', hhash⟩ := hko eso[x] (Array.getElem_mem hlt)
      obtain rfl : k' = k := (mixKind prog w).inj _ _ _ hkey' hkey
      dsimp only
      have hmx : (merged kvs (more.take x)).length ≤ sizeLine := by
        have e1 := merged_length_le kvs (more.take x)
        have e2 : (more.take x).length ≤ more.length := by rw [List.length_take]; omega
        omega
      have put : ∀ {Q' : Unit → Shared → Prop}, (∀ h'', h''.DictOf (mixKind prog w) d (merged kvs (more.take (x + 1))) → h''.get? o = some oo → Heap.SameBut d s.heap h'' → Q' () { s with heap := h'' }) → wpAny (model prog w) A (dictPut d eso[x].hash eso[x].key eso[x].val) Q' E { s with heap := h' } := by
        intro Q' q
        rw [hhash, hval]
        refine wp_dictPut (hsz := hmx) hkey hd' fun h'' hd'' hs'' => ?_
        exact q h'' (by rw [merged_take_succ kvs more x (k', v) hkv]; exact hd'') ((hs''.2 o (Ne.symm hdo)).trans hoo') (hs'.trans hs'')
      refine wpAny_bind (wpAny_holding ?_)
      by_cases hu' : u = true
      · rw [if_pos hu']
        have hk0 := hu hu'
        subst hk0
        rw [hhash]
        refine wpAny_bind (wp_dictFind_no hkey hd' ?_ ?_)
        · rw [merged_nil_of_nodup _ (by
            rw [List.map_take]
            exact hno.sublist (List.take_sublist _ _))]
          intro hm
          obtain ⟨y, hy, ey⟩ := List.mem_map.mp hm
          obtain ⟨j, hj, hyj⟩ := List.getElem_of_mem hy
          rw [List.getElem_take] at hyj
          rw [List.length_take] at hj
          have h1 : (more.map (·.1))[j]? = some k' := by rw [List.getElem?_map, List.getElem?_eq_getElem (by omega), hyj]; simp [ey]
          have h2 : (more.map (·.1))[x]? = some k' := by rw [List.getElem?_map, hkv]; rfl
          have := (List.getElem?_inj (l := more.map (·.1)) (i := j) (j := x) (by rw [List.length_map]; omega) hno).mp (h1.trans h2.symm)
          omega
        · rw [if_neg (by simp)]
          rw [← hhash]
          refine put fun h'' hd'' hoo'' hs'' => ?_
          refine wpAny_bind (wpAny_dictEpoch hoo'' hdo' ?_)
          rw [if_neg (by simp)]
          exact wpAny_pure ⟨h'', x + 1, rfl, hrest, hlt, hd'', hoo'', hs''⟩
      · rw [if_neg hu']
        refine put fun h'' hd'' hoo'' hs'' => ?_
        refine wpAny_bind (wpAny_dictEpoch hoo'' hdo' ?_)
        rw [if_neg (by simp)]
        exact wpAny_pure ⟨h'', x + 1, rfl, hrest, hlt, hd'', hoo'', hs''⟩
    · rintro b s' ⟨h', i, rfl, hr, hi, hd', hoo', hs'⟩
      have hin : i = eso.size := by
        rcases Nat.lt_or_ge i eso.size with h | h
        · have e : eso.size - i = (eso.size - (i + 1)) + 1 := by omega
          rw [e, List.range'_succ] at hr; exact nomatch hr
        · exact Nat.le_antisymm hi h
      refine wpAny_pure (hQ h' ?_ hs')
      rw [hin, ← hlen, List.take_length] at hd'; exact hd'
  refine wpAny_bind (wpAny_dictEntries hod hdd ?_)
  by_cases hemp : esd.isEmpty = true
  · rw [if_pos hemp]
    refine wpAny_bind (wpAny_dictEntries hoo hdo' ?_)
    refine wpAny_bind ?_
    rw [← Array.forIn_toList]
    refine wpAny_forIn_list _ (fun rest _ s' => s' = s ∧ ∀ e ∈ rest, ∀ a, e.key ≠ .ref a) _ ?_ ?_ _ _ ⟨rfl, fun e he a ha => ?_⟩
    · rintro e rest b s' ⟨rfl, hr⟩
      have hne := hr e List.mem_cons_self
      have : ∀ {t : Addr → Sem (ForInStep PUnit)} {Q' : ForInStep PUnit → Shared → Prop}, Q' (.yield PUnit.unit) s' → wpAny (model prog w) A (match e.key with | Value.ref a => t a | _ => pure (ForInStep.yield PUnit.unit)) Q' E s' := by
        intro t Q' q
        split
        · rename_i a ha
          exact absurd ha (hne a)
        · exact wpAny_pure q
      exact this ⟨rfl, fun e' he' => hr e' (List.mem_cons_of_mem _ he')⟩
    · rintro b s' ⟨rfl, _⟩
      exact loop
    · have he' : e ∈ eso := by simpa using he
      obtain ⟨k, hk, _⟩ := hko e he'
      exact notRef hk a ha
  · rw [if_neg hemp]
    exact loop
end
end KwX
namespace KwX
open PySem PySem.Calls PyProof.Rows L2 PySem.W
section
variable {prog : Program} {w : World} {A : Around} {E : Value → Shared → Prop} {s : Shared}
theorem wp_keywordsIn {f : Value} {d : Addr} {kvs : List (L2.Key × Value)} {ks : List Str} {Q : List (Str × Value) → Shared → Prop} (hd : s.heap.DictOf (mixKind prog w) d kvs) (hk : kvs.map (·.1) = ks.map .inr)
    (hQ : Q (ks.zip (kvs.map (·.2))) s) : wpAny (model prog w) A (keywordsIn f d) Q E s := by
  obtain ⟨od, esd, epd, hod, hcd, hdd, hkd, hpd, hnd⟩ := id hd
  unfold keywordsIn
  refine wpAny_bind (wpAny_dictEntries hod hdd ?_)
  refine wpAny_bind ?_
  rw [← Array.forIn_toList]
  have hlen : esd.toList.length = kvs.length := by simpa using hpd.length
  have hkl : ks.length = kvs.length := by
    have := congrArg List.length hk
    simpa using this.symm
  have htot : esd.toList.length = (ks.zip (kvs.map (·.2))).length := by
    rw [List.length_zip, List.length_map, hlen, hkl]; omega
  refine wpAny_forIn_list _ (fun rest b s' => s' = s ∧ ∃ i, i ≤ esd.toList.length ∧ rest = esd.toList.drop i ∧ b = (ks.zip (kvs.map (·.2))).take i) _ ?_ ?_ _ _ ⟨rfl, 0, Nat.zero_le _, by simp, by simp⟩
  · rintro e rest b s' ⟨rfl, i, hi, hr, rfl⟩
    have hlt : i < esd.toList.length := by
      rcases Nat.lt_or_ge i esd.toList.length with h | h
      · exact h
      · rw [List.drop_eq_nil_of_le h] at hr; cases hr
    rw [List.drop_eq_getElem_cons hlt] at hr
    obtain ⟨rfl, rfl⟩ := List.cons.inj hr
    have hlk : i < kvs.length := by omega
    have hlks : i < ks.length := by omega
    have hkv : kvs[i]? = some (kvs[i]) := List.getElem?_eq_getElem hlk
    obtain ⟨hkey, hval⟩ := hpd.get? (e := esd.toList[i]) (by simp) hkv
    have hki : (kvs[i]).1 = .inr ks[i] := by
      have h1 : (kvs.map (·.1))[i]? = (ks.map (Sum.inr : Str → L2.Key))[i]? := by rw [hk]
      rw [List.getElem?_map, List.getElem?_map, hkv, List.getElem?_eq_getElem hlks] at h1
      exact Option.some.inj h1
    have hsh : ∃ t, esd.toList[i].key = .str ks[i] t := by
      rcases keyIs_shape hkey with ⟨_, _, e1, _⟩ | ⟨x, t, e1, e2⟩
      · exact nomatch (hki.symm.trans e1)
      · have := Sum.inr.inj (hki.symm.trans e1); subst this; exact ⟨t, e2⟩
    obtain ⟨t, ht⟩ := hsh
    rw [ht]
    refine wpAny_pure ⟨rfl, i + 1, hlt, rfl, ?_⟩
    rw [show esd.toList[i].val = (kvs[i]).2 from hval]
    have hz : (ks.zip (kvs.map (·.2)))[i]? = some (ks[i], (kvs[i]).2) := by
      rw [List.getElem?_zip_eq_some]
      exact ⟨List.getElem?_eq_getElem hlks, by rw [List.getElem?_map, hkv]; rfl⟩
    rw [List.take_add_one, hz]
    rfl
  · rintro b s' ⟨rfl, i, hi, hr, rfl⟩
    have hin : i = esd.toList.length := by
      rcases Nat.lt_or_ge i esd.toList.length with h | h
      · rw [List.drop_eq_getElem_cons h] at hr; cases hr
      · omega
    subst hin
    rw [htot, List.take_length]
    exact wpAny_pure hQ
/-- {**x} made into keywords -/
theorem wp_mergedKw {f : Value} {x : Sem Value} {Q : Addr → Shared → Prop}
    (h : wpAny (model prog w) A x (fun m s2 => ∃ o more, m = .ref o ∧ s.heap.objs.size ≠ o ∧ (o == sysModules) = false ∧ s2.heap.DictOf (mixKind prog w) s.heap.objs.size [] ∧ s2.heap.DictOf (mixKind prog w) o more ∧ more.length ≤ sizeLine ∧
      ∀ h', h'.DictOf (mixKind prog w) s.heap.objs.size (merged [] more) → Heap.SameBut s.heap.objs.size s2.heap h' → Q s.heap.objs.size { s2 with heap := h' }) E { s with heap := s.heap.push { cls := .type "dict", data := .dict #[] } }) :
    wpAny (model prog w) A (mergedKeywords f [(none, x)]) Q E s := by
  unfold mergedKeywords
  refine wpAny_bind (wpAny_alloc ?_)
  refine wpAny_bind (wpAny_holding ?_)
  have key : wpAny (model prog w) A x (fun m s2 => ∀ E', wpAny (model prog w) A (mergeMapping s.heap.objs.size m true) (fun _ s3 => Q s.heap.objs.size s3) E' s2) E { s with heap := s.heap.push { cls := .type "dict", data := .dict #[] } } := by
    refine wpAny_mono h (fun m s2 ⟨o, more, em, ne, hs, hd, ho, hz, q⟩ E' => ?_) fun _ _ z => z
    rw [em]
    exact wp_merge ne hs hd ho (fun _ => rfl) q (by simpa using hz)
  refine wpAny_bind (wpAny_forIn_list _ (fun l b s' => (l = [(none, x)] ∧ b = [] ∧ s' = { s with heap := s.heap.push { cls := .type "dict", data := .dict #[] } }) ∨ (l = [] ∧ b = [] ∧ Q s.heap.objs.size s')) _ ?_ ?_ _ _ (.inl ⟨rfl, rfl, rfl⟩))
  · rintro y rest b s' (⟨e1, rfl, rfl⟩ | ⟨e1, _⟩)
    · obtain ⟨rfl, rfl⟩ := List.cons.inj e1
      refine wpAny_bind (wpAny_pure ?_)
      refine wpAny_bind (wpAny_mono key (fun m s2 q => ?_) fun _ _ z => z)
      refine wpAny_bind (wpAny_onRaise (wpAny_holding (wpAny_tryCatch (wpAny_onRaise (wpAny_mono (q (fun _ _ => False)) (fun u s3 q3 => ?_) fun _ _ z => z.elim)))))
      exact wpAny_pure (.inr ⟨rfl, rfl, q3⟩)
    · cases e1
  · rintro b s' (⟨e1, _⟩ | ⟨_, rfl, q⟩)
    · cases e1
    · exact wpAny_pure (wpAny_pure q)
/-- e1, .., en, **x -/
theorem wp_evalArgsKw {f : Value} {args : List (Bool × Sem Value)} {x : Sem Value} {Q : Args → Shared → Prop} (hl : ∀ y, args ≠ [(true, y)])
    (h : wpAny (model prog w) A (spliced args) (fun vs s => wpAny (model prog w) A x (fun m s2 => ∃ (o : Addr) (kvs : List (L2.Key × Value)) (ks : List Str), m = .ref o ∧ s.heap.objs.size ≠ o ∧ (o == sysModules) = false ∧ s2.heap.DictOf (mixKind prog w) s.heap.objs.size [] ∧ s2.heap.DictOf (mixKind prog w) o kvs ∧
        kvs.map (·.1) = ks.map .inr ∧ kvs.length ≤ sizeLine ∧
        ∀ h', Heap.SameBut s.heap.objs.size s2.heap h' → Q ⟨vs, ks.zip (kvs.map (·.2))⟩ { s2 with heap := h' }) E { s with heap := s.heap.push { cls := .type "dict", data := .dict #[] } }) E s) :
    wpAny (model prog w) A (evalArgs f true args [(none, x)]) Q E s := by
  unfold evalArgs
  have key : wpAny (model prog w) A (spliced args) (fun vs s => wpAny (model prog w) A (mergedKeywords f [(none, x)]) (fun d s2 => wpAny (model prog w) A (keywordsIn f d) (fun kw s3 => Q ⟨vs, kw⟩ s3) E s2) E s) E s := by
    refine wpAny_mono h (fun vs s1 h1 => ?_) fun _ _ z => z
    refine wp_mergedKw (wpAny_mono h1 (fun m s2 ⟨o, kvs, ks, em, ne, hs, hd, ho, hk, hz, q⟩ => ⟨o, kvs, em, ne, hs, hd, ho, hz, fun h' hd' sb => ?_⟩) fun _ _ z => z)
    have hnd : (kvs.map (·.1)).Nodup := by obtain ⟨_, _, _, _, _, _, _, _, hn⟩ := ho; exact hn
    rw [merged_nil_of_nodup _ hnd] at hd'
    exact wp_keywordsIn hd' hk (q h' sb)
  have tail : ∀ vs s1, wpAny (model prog w) A (mergedKeywords f [(none, x)]) (fun d s2 => wpAny (model prog w) A (keywordsIn f d) (fun kw s3 => Q ⟨vs, kw⟩ s3) E s2) E s1 → wpAny (model prog w) A (holding (vs ++ (none : Option Value).toList) (do
      let d ← mergedKeywords f [(none, x)]
      let pos ← (pure vs : Sem (List Value))
      return (⟨pos, ← holding (.ref d :: pos) (keywordsIn f d)⟩ : Args))) Q E s1 := fun vs s1 h1 =>
    wpAny_holding (wpAny_bind (wpAny_mono h1 (fun d s2 h2 => wpAny_bind (wpAny_pure (wpAny_bind (wpAny_holding (wpAny_mono h2 (fun kw s3 q => wpAny_pure q) fun _ _ z => z))))) fun _ _ z => z))
  rcases args with _ | ⟨⟨b, y⟩, r⟩
  · exact wpAny_bind (wpAny_mono key (fun vs s1 h1 => wpAny_bind (wpAny_pure (tail vs s1 h1))) fun _ _ z => z)
  · cases b with
    | false => exact wpAny_bind (wpAny_mono key (fun vs s1 h1 => wpAny_bind (wpAny_pure (tail vs s1 h1))) fun _ _ z => z)
    | true =>
      cases r with
      | nil => exact absurd rfl (hl y)
      | cons z r => exact wpAny_bind (wpAny_mono key (fun vs s1 h1 => wpAny_bind (wpAny_pure (tail vs s1 h1))) fun _ _ z => z)
theorem wp_callKw {f : Value} {first : List Value} {pos : Pos} {Q : Value → Shared → Prop} {P : Heap → Prop} {args : List (Bool × Sem Value)} {x : Sem Value}
    (hk : ∀ h, P h → ∃ k, (k = Keeper.frame ∨ k = Keeper.machine ∨ k = Keeper.boundFrame) ∧ Looks (model prog w) h (keeperOf f) k)
    (h : wpAny (model prog w) A (evalArgs f true args [(none, x)]) (fun a s₁ => P s₁.heap ∧ wpAny (model prog w) A (call f (first ++ a.pos) a.kw) Q E s₁) E s) : wpAny (model prog w) A (callWith pos f first args [(none, x)]) Q E s := by
  unfold callWith
  refine wpAny_bind (wpAny_holding (wpAny_mono h (fun a s₁ h₁ => wpAny_bind (wpAny_standAt ?_)) fun _ _ x => x))
  obtain ⟨k, hk', L⟩ := hk _ h₁.1
  have hst : (args.any (·.1) || [((none : Option Str), x)].any (·.1.isNone)) = true := by
    rw [show [((none : Option Str), x)].any (·.1.isNone) = true from rfl, Bool.or_true]
  simp only [hst]
  refine wpAny_bind (L.here ?_)
  have tail : ∀ {t : Sem Value}, wpAny (model prog w) A t Q E s₁ → wpAny (model prog w) A (t >>= fun r => holding [r] point >>= fun _ => pure r) Q E s₁ :=
    fun ht => wpAny_bind (wpAny_mono ht (fun r s₂ hr => wpAny_bind (wpAny_holding (wpAny_point (wpAny_pure hr)))) fun _ _ x => x)
  have marked (mk : Value) : wpAny (model prog w) A (callMarked mk f (first ++ a.pos) a.kw) Q E s₁ := by unfold callMarked; exact Calls.wpAny_keep h₁.2
  rcases hk' with rfl | rfl | rfl <;> dsimp only <;> first | exact tail (marked _) | exact tail (wpAny_operating h₁.2)
end
section
variable {X : Cx} {CX : CXT} {k n : Nat} {f C : Addr} {fd : FuncData} {ps ks : List Str} {sp : Sp} {E : XK} {x : Str} {p pos : Pos} {e ex : Expr} {es : List Expr} {kw : Keyword} {t : TA} {td : TE} {g : List Value → List Value → List Value} {gV : List V → List V → List V}
/-- C(e, .., **x): x a dict with the texts ks as keys, in this order -/
def tMakeD (C : Addr) (n : Nat) (ks : List Str) (sp : Sp) (gV : List V → List V → List V) (E : XK) (t : TA) (td : TE) : TE := fun σ H Q => t σ H fun vs H1 => td σ H1 fun y H2 => ∃ o kvs, y = .ref o ∧ Rd H2 o (.dK kvs) ∧ kvs.map (·.1) = ks.map .inr ∧ vs.length = n ∧
  ∀ x dx, H2 x = none → H2 dx = none → dx ≠ x → sp (gV (.ref x :: vs) (kvs.map (·.2))) (upd (upd H2 dx (.own x)) x (.ins C dx [])) (fun v H3 => v = .non ∧ Q (.ref x) H3) E
theorem kv_vals : ∀ {kvs : List (L2.Key × V)} {vs : List (L2.Key × Value)}, KV kvs vs → Vals (kvs.map (·.2)) (vs.map (·.2)) := by
  intro kvs vs r
  unfold KV at r
  induction r with
  | nil => exact .nil
  | cons h _ ih => exact .cons h.2 ih
theorem pe_makeD (M : Mk X.K C f) (F : FnOk X.prog X.w X.K X.mg X.base CX k f fd ps sp) (hr : Room (k + 1) X.A) (hg : Gl X x) (hm : X.mg x = some (.ref C)) (hb : KBn X.K fd ps (n + 1) ks g gV) (hx : Passes CX X E) (ha : PA X (e :: es) t) (hd : PE X ex td)
    (hkw : backToKw pos (keywordEach [kw] X.env) = [(none, do let v ← eval ex X.env; standAt pos; pure v)] := by rfl) (hdb : (x == ("__debug__" : Str)) = false := by decide)
    (he : starEach (e :: es) X.env = (false, eval e X.env) :: starEach es X.env := by rfl) :
    PE X (.Call (.Name x p) (e :: es) [kw] pos) (tMakeD C n ks sp gV E t td) := by
  refine ⟨fun pins s σ H Q I h => ?_⟩
  refine wpAny_Call_Name_kw (ld_glob I hg hm ?_ hdb)
  rw [hkw]
  refine wp_callKw (P := X.K.In) (keeps_K M.kp) (wp_evalArgsKw (fun y q => ?_) (thn (ha.run pos pins s σ H _ I h) fun us s1 ⟨vs, H1, I1, r, q⟩ => ?_))
  · rw [he] at q
    cases q
  · have hnew : (s1.heap.push { cls := .type "dict", data := .dict #[] }).get? s1.heap.objs.size = some { cls := .type "dict", data := .dict #[] } := Heap.get?_push_size _ rfl
    have hn := I1.hok.fresh (Nat.le_refl s1.heap.objs.size)
    have fp := I1.fpOk (H' := H1) (Nat.le_refl _) hn
    have I1' : Inv X ((s1.heap.objs.size, ({ cls := .type "dict", data := .dict #[] } : Obj)) :: pins) σ H1 { s1 with heap := s1.heap.push { cls := .type "dict", data := .dict #[] } } :=
      (I1.kept (t' := s1.toks) (h' := s1.heap.push { cls := .type "dict", data := .dict #[] }) fun _ _ z => Heap.get?_push_of_some _ z).pins_of fun p hp => by
        rcases List.mem_cons.mp hp with rfl | hp
        · exact ⟨hnew, hn, fp.2.1, fp.2.2.1, fun v => nofun⟩
        · obtain ⟨z1, z2, z3, z4, z5⟩ := I1.pin p (List.mem_append_right _ hp)
          exact ⟨Heap.get?_push_of_some _ z1, z2, z3, z4, z5⟩
    refine wpAny_bind (thn (hd.run _ _ σ H1 _ I1' q) fun m s2 ⟨y, H2, I2, ry, o, kvs, ey, rd, hk, hl, hsp⟩ => wpAny_bind (wpAny_standAt (wpAny_pure ?_)))
    subst ey
    cases (show m = Value.ref o from ry)
    obtain ⟨z, hsy, ws, rel, dd⟩ := dk_rd I2.hok rd
    obtain ⟨pg, pn, _, _, _⟩ := I2.pin (s1.heap.objs.size, _) (List.mem_append_right _ List.mem_cons_self)
    have hne : s1.heap.objs.size ≠ o := fun eo => by
      rw [eo] at pn
      rcases rd with q1 | ⟨_, q1⟩ <;> (rw [pn] at q1; cases q1)
    refine ⟨o, ws, ks, rfl, hne, hsy, ?_, dd, by rw [← rel.keys]; exact hk, by rw [← rel.length]; exact z, fun h' sb => ?_⟩
    · obtain ⟨o1, es1, ep1, h1, h2⟩ := Heap.DictOf.new (knd := mixKind X.prog X.w) s1.heap
      have : o1 = { cls := .type "dict", data := .dict #[] } := Option.some.inj (h1.symm.trans hnew)
      subst this
      exact ⟨_, es1, ep1, pg, h2⟩
    · have fp2 := I1.fpOk (H' := H2) (Nat.le_refl _) pn
      have I3 : Inv X pins σ H2 s2 := I2.pins_of fun p hp => I2.pin p (List.mem_append_right _ (List.mem_cons_of_mem _ hp))
      have I4 := I3.turned (t' := s2.toks) (h' := h') (it := s1.heap.objs.size) (fun b u hb e => (sb.2 b hb).trans e) pn fp2.2.1 fp2.2.2.2.1 fp2.2.2.2.2.1 fp2.2.2.2.2.2
      refine ⟨I4.kIn, ?_⟩
      exact run_makeK M F hr hb hx I4 r (kv_vals rel) hl (by simpa using congrArg List.length hk) hsp
end
end KwX
namespace KwX
open PySem PySem.Calls PyProof.Rows L2 PySem.W
section
variable {prog : Program} {w : World} {A : Around} {E : Value → Shared → Prop} {s : Shared}
theorem isStr_key {k : L2.Key} {v : Value} {x : Str} (h : (mixKind prog w).is k v = true) (hx : v.isStr x = true) : k = .inr x := by
  rcases keyIs_shape h with ⟨i, t, _, rfl⟩ | ⟨y, t, rfl, rfl⟩
  · cases hx
  · exact congrArg _ (by simpa [Value.isStr] using hx)
theorem wp_nsSetD {d : Addr} {kvs : List (L2.Key × Value)} {name : Str} {v : Value} {Q : Unit → Shared → Prop} (hm : s.heap.DictOf (mixKind prog w) d kvs) (hno : (.inr name : L2.Key) ∉ kvs.map (·.1))
    (hQ : ∀ h', h'.DictOf (mixKind prog w) d (kvs ++ [(.inr name, v)]) → Heap.SameBut d s.heap h' → Q () { s with heap := h', toks := s.toks + 1 }) : wpAny (model prog w) A (nsSet d name v) Q E s := fun Γ p hΓ => by
  obtain ⟨o, es, ep, ho, hc, hd, hk, hp, hn⟩ := hm
  simp only [nsSet, strHash, Sem.wp_bind', Sem.wp_cmd_ask, Sem.wp_pure', Sem.wp_cmd_mkText]
  rw [Sem.wp_loadPart_of (model prog w) Γ _ p { s with toks := s.toks + 1 } (o := o) _ ho]
  have hany : es.any (·.refKey) = false := by
    rw [Array.any_eq_false']
    intro e he
    obtain ⟨k, hk1, _⟩ := hk e he
    rcases keyIs_shape hk1 with ⟨i, t, _, h⟩ | ⟨y, t, _, h⟩ <;> simp [DictEntry.refKey, h]
  simp only [hd, aRefKeyMayBeTheName_eq, aRefKeyMayBeTheNameByArray, hany, Bool.and_false, Bool.false_eq_true, if_false, Sem.wp_cmd_updatePart]
  refine ⟨by rw [ho]; rfl, hQ _ ?_ (Heap.SameBut.update ..)⟩
  obtain ⟨c, d', dt, sl⟩ := o
  subst hd
  have hi : es.findIdx? (·.key.isStr name) = none := by
    rw [Array.findIdx?_eq_none_iff]
    intro e he
    cases hx : e.key.isStr name with
    | false => rfl
    | true =>
      obtain ⟨k, hk1, _⟩ := hk e he
      have := isStr_key hk1 hx
      subst this
      have h1 := hp.findIdx (.inr name)
      have h2 : (kvs.findIdx? fun kv => decide (kv.1 = (.inr name : L2.Key))) = none := by
        rw [List.findIdx?_eq_none_iff]
        intro x hx
        refine decide_eq_false fun e => hno ?_
        exact List.mem_map.mpr ⟨x, hx, e⟩
      rw [h2, List.findIdx?_eq_none_iff] at h1
      rw [h1 e (by simpa using he)] at hk1
      cases hk1
  have key : (mixKind prog w).is (.inr name) (.str name s.toks) = true := by
    show Value.isStrOf name (.str name s.toks) = true
    simp [Value.isStrOf]
  refine ⟨_, _, ep + 1, Heap.get?_update_self _ ho (by simp only [Obj.putName_eq, Obj.putNameByArray, hi]; rfl), ?_, by simp only [Obj.putName_eq, Obj.putNameByArray, hi]; rfl, hk.push key _, ?_, ?_⟩
  · simp only [Obj.putName_eq, Obj.putNameByArray, hi]
    exact hc
  · have := hp.append key ((mixKind prog w).hash (.inr name)) v
    obtain ⟨l⟩ := es
    simpa using this
  · rw [List.map_append, List.nodup_append]
    refine ⟨hn, by simp, ?_⟩
    intro a ha b hb
    simp only [List.map_cons, List.map_nil, List.mem_singleton] at hb
    subst hb
    exact fun e => hno (e ▸ ha)
theorem wp_bindKw {fd : FuncData} {p1 pd : Arg} {a : Value} {ks : List Str} {ws : List Value} {Q : List (Str × Value) → Shared → Prop} (h1 : fd.params.posonlyargs = []) (h2 : fd.params.args = [p1]) (h3 : fd.params.vararg = none) (h4 : fd.params.kwonlyargs = []) (h5 : fd.params.kwarg = some pd) (h6 : fd.defaults = .none)
    (hl : ws.length = ks.length) (hz : ks.length ≤ sizeLine) (hnd : ks.Nodup) (hp : p1.arg ∉ ks)
    (hQ : ∀ h' t', h'.DictOf (mixKind prog w) s.heap.objs.size ((ks.map (Sum.inr : Str → L2.Key)).zip ws) → (∀ b, b ≠ s.heap.objs.size → h'.get? b = (s.heap.push { cls := .type "dict", data := .dict #[] }).get? b) → Q [(p1.arg, a), (pd.arg, .ref s.heap.objs.size)] { s with heap := h', toks := t' }) :
    wpAny (model prog w) A (bindArgs fd ⟨[a], ks.zip ws⟩) Q E s := by
  unfold bindArgs
  simp only [h1, h2, h3, h4, h5, h6, List.map_nil, List.map_cons, List.nil_append]
  refine wpAny_bind (wpAny_forIn_list _ (fun l b s' => s' = s ∧ (∃ pre, pre ++ l = ks.zip ws ∧ b = ([(p1.arg, a)], pre))) _ ?_ ?_ _ _ ⟨rfl, [], rfl, rfl⟩)
  · rintro ⟨k, v⟩ rest b s' ⟨rfl, pre, e, rfl⟩
    have hk : k ∈ ks := (List.of_mem_zip (show (k, v) ∈ ks.zip ws by rw [← e]; simp)).1
    have hc : ([p1.arg].contains k || ([] : List Str).contains k) = false := by
      have : k ≠ p1.arg := fun q => hp (q ▸ hk)
      simpa using this
    simp only [hc]
    exact wpAny_pure ⟨rfl, pre ++ [(k, v)], by simpa using e, rfl⟩
  · rintro b s' ⟨rfl, pre, e, rfl⟩
    rw [List.append_nil] at e
    subst e
    refine wpAny_bind (wpAny_of_eq (a := none) rfl ?_)
    have hl1 : List.lookup p1.arg [(p1.arg, a)] = some a := by simp [List.lookup]
    simp only [Option.getD_none, List.length_cons, List.length_nil]
    rw [if_neg (by simp)]
    simp only [List.drop_nil, List.length_nil, Nat.sub_zero, Nat.zero_add, List.take_succ_cons, List.take_zero, List.filter_cons, List.filter_nil, hl1, Option.isNone_some, Bool.false_eq_true, if_false, List.isEmpty_nil, Bool.not_true, List.drop_succ_cons, List.drop_zero, List.zip_nil_left, List.forIn_nil, pure_bind, List.append_nil, List.filterMap_cons, List.filterMap_nil, Option.map_some]
    rw [if_neg (by rw [List.length_zip, hl]; omega)]
    refine wpAny_bind (wpAny_alloc ?_)
    refine wpAny_bind (wpAny_forIn_list _ (fun l b s2 => ∃ pre h' t', pre ++ l = ks.zip ws ∧ s2 = { s' with heap := h', toks := t' } ∧ h'.DictOf (mixKind prog w) s'.heap.objs.size (pre.map fun kv => ((.inr kv.1 : L2.Key), kv.2)) ∧
      (∀ b, b ≠ s'.heap.objs.size → h'.get? b = (s'.heap.push { cls := .type "dict", data := .dict #[] }).get? b)) _ ?_ ?_ _ _ ⟨[], s'.heap.push { cls := .type "dict", data := .dict #[] }, s'.toks, rfl, rfl, Heap.DictOf.new s'.heap, fun _ _ => rfl⟩)
    · rintro ⟨k, v⟩ rest b s2 ⟨pre, h', t', e, rfl, dd, same⟩
      have hno : (.inr k : L2.Key) ∉ (pre.map fun kv => ((.inr kv.1 : L2.Key), kv.2)).map (·.1) := by
        intro hm
        rw [List.map_map] at hm
        obtain ⟨y, hy, ey⟩ := List.mem_map.mp hm
        have e2 : (ks.zip ws).map (·.1) = ks := by rw [List.map_fst_zip]; omega
        rw [← e, List.map_append, List.map_cons] at e2
        rw [← e2] at hnd
        have := (List.nodup_append.mp hnd).2.2 y.1 (List.mem_map.mpr ⟨y, hy, rfl⟩) k List.mem_cons_self
        exact this (Sum.inr.inj ey)
      refine wpAny_bind (wp_nsSetD dd hno fun h'' dd' sb => wpAny_pure ⟨pre ++ [(k, v)], h'', t' + 1, by simpa using e, rfl, ?_, fun b hb => (sb.2 b hb).trans (same b hb)⟩)
      rw [List.map_append]
      exact dd'
    · rintro b s2 ⟨pre, h', t', e, rfl, dd, same⟩
      rw [List.append_nil] at e
      subst e
      refine wpAny_pure (hQ h' t' ?_ same)
      have : ((ks.zip ws).map fun kv => ((.inr kv.1 : L2.Key), kv.2)) = (ks.map (Sum.inr : Str → L2.Key)).zip ws := by
        rw [List.zip_map_left]
        rfl
      rw [← this]
      exact dd
end
end KwX
namespace L3
open PySem PySem.Spec PyProof.Rows L2
/-- o.m(k = v, ..) of a def (self, **d) -/
def FnKw (P : Program) (w : World) (K : PySem.W.Frag) (mg : Str → Option Value) (base : Heap) (k : Nat) (p1 : Str) (f : Addr) (sp : Sp) : Prop :=
  ∀ (A : Around) (outer : List PySem.Env) (s : Shared) (H : Hp) (u : Value) (v : V) (ks : List Str) (ws : List Value) (zs : List V) (Q : VK) (E : XK), Room k A → Env0 P w K mg base A outer s H → RelV v u → Vals zs ws → zs.length = ks.length → ks.length ≤ 100 → ks.Nodup → p1 ∉ ks →
    (∀ d, H d = none → sp [v, .ref d] (upd H d (.dK ((ks.map .inr).zip zs))) Q E) → codeAny (model P w) A (.call (.ref f) ⟨[u], ks.zip ws⟩) (CR CX0 outer P w H s Q E) s
section
variable {P : Program} {w : World} {K : PySem.W.Frag} {mg : Str → Option Value} {base : Heap}
theorem env0_dict {A : Around} {outer : List PySem.Env} {s : Shared} {H : Hp} {h' : Heap} {t' : Nat} {u : HO} (e0 : Env0 P w K mg base A outer s H) (same : ∀ b, b ≠ s.heap.objs.size → h'.get? b = (s.heap.push { cls := .type "dict", data := .dict #[] }).get? b) (new : ObjOk P w (upd H s.heap.objs.size u) h' s.heap.objs.size u) :
    Env0 P w K mg base A outer { s with heap := h', toks := t' } (upd H s.heap.objs.size u) := by
  have kp : ∀ b x, s.heap.get? b = some x → h'.get? b = some x := fun b x e => by
    rw [same b (Nat.ne_of_lt (Heap.lt_size e))]
    exact Heap.get?_push_of_some _ e
  refine ⟨e0.frames, e0.mod, fun b x e => ⟨kp b x (e0.bs b x e).1, ?_⟩, ?_, Heap.FunFrames.of_keeps (fun b x e _ => ⟨x, kp b x e, rfl⟩) e0.funs, fun b hb => ?_, e0.hok.laid kp (Nat.le_refl _) new, e0.bare⟩
  · rw [upd_ne (Nat.ne_of_lt (Heap.lt_size (e0.bs b x e).1))]
    exact (e0.bs b x e).2
  · exact Nat.le_trans e0.bsz (Nat.le_of_lt new.lt)
  · obtain ⟨_, x, hx, _⟩ := e0.funs.mem hb
    rw [upd_ne (Nat.ne_of_lt (Heap.lt_size hx))]
    exact e0.frf b hb
theorem kv_zip : ∀ {ks : List Str} {zs : List V} {ws : List Value}, Vals zs ws → KV ((ks.map (Sum.inr : Str → L2.Key)).zip zs) ((ks.map (Sum.inr : Str → L2.Key)).zip ws)
  | [], _, _, _ => by simp only [List.map_nil, List.zip_nil_left]; exact .nil
  | _ :: _, _, _, .nil => by simp only [List.zip_nil_right]; exact .nil
  | k :: ks, _, _, .cons h r => by
    simp only [List.map_cons, List.zip_cons_cons]
    exact .cons ⟨rfl, h⟩ (kv_zip r)
theorem fn_kw {f : Addr} {name qual : Str} {params : Arguments} {body : List Stmt} {scope : Scope} {fd : FuncData} {N : List Str} {kws : List (Str × V)} {p1 pd : Arg} {k : Nat} {sp : Sp} (W : FunD K name qual params body scope [] kws f fd) (S : FnScope N [p1.arg, pd.arg] scope)
    (h1 : params.posonlyargs = []) (h2 : params.args = [p1]) (h3 : params.vararg = none) (h4 : params.kwonlyargs = []) (h5 : params.kwarg = some pd)
    (hbody : ∀ (cdv : Value) (A : Around) (outer : List PySem.Env) (s : Shared) (H : Hp) (vs : List V) (Q : VK) (E : XK), Room k (A.deeper (envOfC qual scope s.heap.objs.size f cdv)) → sp vs H Q E →
      ∃ t, PSs (cxOf CX0 P w K mg base N qual scope f cdv A outer s H E) body t ∧ t { nx := fun _ H' => Q .non H', rt := Q } (start N vs) H) : FnKw P w K mg base (k + 1) p1.arg f sp := by
  intro A outer s H u v ks ws zs Q E hr e0 ru rz hl hz hnd hp hsp
  obtain ⟨oc, od, dV, kV, doc, pm, an, cdv, ct, osl, rfl, lk, hcd, hD, hK⟩ := W.ex
  have hdV : dV = .none := by
    rcases hD with ⟨_, h⟩ | ⟨e, _⟩
    · exact h
    · exact absurd rfl e
  subst hdV
  have hn : H s.heap.objs.size = none := e0.hok.fresh (Nat.le_refl _)
  have hlw : ws.length = ks.length := by rw [← rz.length]; exact hl
  have hz' : ks.length ≤ sizeLine := by rw [sizeLine_eq]; omega
  refine StX.run_bnd lk hcd S hr e0 (G := fun xs H2 => ∃ d, H d = none ∧ xs = [v, V.ref d] ∧ H2 = upd H d (.dK ((ks.map .inr).zip zs))) (fun A' Ex Q' h => ?_) fun s2 H2 xs ⟨d, hd, ex, eH⟩ hr' => ?_
  · refine KwX.wp_bindKw (fd := PySem.W.fnOf name qual params body scope .none kV doc pm an cdv ct) h1 h2 h3 h4 h5 rfl hlw hz' hnd hp fun h' t' dd same => ?_
    have big : sysModules < s.heap.objs.size := StX.env0_big e0
    have new : ObjOk P w (upd H s.heap.objs.size (.dK ((ks.map .inr).zip zs))) h' s.heap.objs.size (.dK ((ks.map .inr).zip zs)) := dk_new (by
        rw [List.length_zip, List.length_map, hl, Nat.min_self]; exact hz') (by
        rw [beq_eq_false_iff_ne]; exact Nat.ne_of_gt big) (kv_zip rz) dd
    have kp : ∀ b x, s.heap.get? b = some x → h'.get? b = some x := fun b x e => by
      rw [same b (Nat.ne_of_lt (Heap.lt_size e))]
      exact Heap.get?_push_of_some _ e
    exact h { s with heap := h', toks := t' } _ [v, V.ref s.heap.objs.size] [u, Value.ref s.heap.objs.size] (env0_dict e0 same new) (Un.laid kp (Nat.le_refl _) hn) rfl (fun e s' z => z) (.cons ru (.cons rfl .nil)) rfl ⟨_, hn, rfl, rfl⟩
  · subst ex eH
    exact hbody cdv A outer s2 _ _ Q E hr' (hsp d hd)
/-- a def of the text, its body read as B -/
theorem bodyD {x qual : Str} {st : Stmt} {f : Addr} {N : List Str} {n k : Nat} {B : SM} (hn : n ≤ N.length)
    (hb : ∀ (cdv : Value) (A : Around) (outer : List PySem.Env) (s : Shared) (H : Hp) (E : XK) (g : Gx), Room k (A.deeper (PyProof.Rows.envOfC qual (defScope st) s.heap.objs.size f cdv)) → DSs (cxOf CX0 P w K mg base N qual (defScope st) f cdv A outer s H E).nox g (defBody st) B)
    (cdv : Value) (A : Around) (outer : List PySem.Env) (s : Shared) (H : Hp) (vs : List V) (Q : VK) (E : XK) (hr : Room k (A.deeper (envOfC qual (defScope st) s.heap.objs.size f cdv))) (h : spF ⟨K, w⟩ (mkF n N.length B) vs H Q E) :
      ∃ t, PSs (cxOf CX0 P w K mg base N qual (defScope st) f cdv A outer s H E) (defBody st) t ∧ t { nx := fun _ H' => Q .non H', rt := Q } (start N vs) H := by
  obtain ⟨F0, as, r, os, h, nd, sm, hf, q⟩ := h
  refine ⟨_, PSs.nox (hb cdv A outer s H E ⟨H, F0, fpL H vs as, fun _ => none⟩ hr), ?_⟩
  unfold mkF at hf
  split at hf
  · rename_i hl
    obtain ⟨p, e1, hf⟩ := bnd hf
    obtain ⟨r', e2, hf⟩ := bnd hf
    obtain ⟨os', e3, hf⟩ := bnd hf
    cases hf
    obtain ⟨o, ρ'⟩ := p
    have G := entry_gd N h nd sm (by rw [hl]; exact hn)
    rw [hl] at G
    refine ⟨F0, _, o, ρ', G, e1, fun σ' F' H' G' s' => ?_⟩
    have post : Post ⟨K, w⟩ F0 H F' H' (adL (fpL H vs as)) := ⟨s', G'.sub, G'.keep, G'.new, G'.grow⟩
    obtain ⟨ios, ndo, par⟩ := collect_ok G' rfl (pre := []) h rfl rfl e3
    cases o with
    | nx => cases e2; exact q _ F' H' post ios ndo .non
    | rt d => cases e2; exact fun v r => q v F' H' post ios ndo r
    | rn xs =>
      cases e2
      exact fun l ws h1 h2 h3 h4 h5 => q _ F' H' post ios ndo ⟨l, ws, rfl, h3, h2, fun m => by
        obtain ⟨j, _, q2, q3⟩ := par l m
        exact h4 j q2 q3, h1, h5⟩
    | rr xs =>
      cases e2
      exact fun l ws h1 h2 h3 h4 => q _ F' H' post ios ndo ⟨l, ws, rfl, h1, h2, h3, fun a m => ⟨(h4 a m).2.1, (h4 a m).1, fun m2 => by
        obtain ⟨j, _, q2, q3⟩ := par a m2
        exact (h4 a m).2.2 j q2 q3⟩⟩
    | br => cases e2
    | ct => cases e2
  · cases hf
end
def tMethK (C : Addr) (m : Str) (ks : List Str) (sp : Sp) (E : XK) (ta : TE) (tk : TA) : TE := fun σ H Q => ta σ H fun x H1 => ∃ a dx fs, x = .ref a ∧ H1 a = some (.ins C dx fs) ∧ fs.lookup m = none ∧
  tk σ H1 fun zs H2 => zs.length = ks.length ∧ ∀ d, H2 d = none → sp [.ref a, .ref d] (upd H2 d (.dK ((ks.map .inr).zip zs))) Q E
abbrev DK (X : Cx) (g : Gx) (kws : List Keyword) (f : AM) : Prop := PK X kws (tA X.kw g f)
section
variable {X : Cx} {g : Gx} {k : Nat} {f C : Addr} {sp : Sp} {E : XK} {m p1 : Str} {pos apos kpos : Pos} {e o : Expr} {kws : List Keyword} {ta : TE} {tk : TA} {ks : List Str} {nm : Option Str} {fm : FM} {fo : EM} {fv : OM} {fa : AM}
theorem weakPK {t t' : TA} (h : PK X kws t) (w : ∀ σ H Q, t' σ H Q → t σ H Q) : PK X kws t' := ⟨fun p pins s σ H Q I q => h.run p pins s σ H Q I (w σ H Q q)⟩
theorem dk_n : DK X g [] aN := weakPK pk_nil fun σ H Q ⟨F, ρ, d, ρ', G, hf, q⟩ => by
  cases hf
  exact q _ F H G (Same.refl _) .nil
theorem dk_c (h : DO X g e fv) (hr : DK X g kws fa) : DK X g (⟨nm, e, kpos⟩ :: kws) (aC fv fa) := weakPK (pk_cons h hr) fun σ H Q ⟨F, ρ, d, ρ', G, hf, q⟩ => by
  obtain ⟨p, e1, hf⟩ := bnd hf
  obtain ⟨p', e2, hf⟩ := bnd hf
  cases hf
  exact ⟨F, ρ, p.1, p.2, G, e1, fun v F1 H1 G1 s1 r1 => ⟨F1, p.2, p'.1, p'.2, G1, e2, fun vs F2 H2 G2 s2 r2 => q _ F2 H2 G2 (s1.trans s2) (.cons (r1.mono s2) r2)⟩⟩
theorem run_fnKw {pins : List (Addr × Obj)} {σ : L2.St} {H : Hp} {s : Shared} {u : Value} {v : V} {ws : List Value} {zs : List V} {Q : VK} (F : FnKw X.prog X.w X.kw X.mg X.base k p1 f sp) (hr : Room k X.A) (I : Inv X pins σ H s) (ru : RelV v u) (rz : Vals zs ws) (hl : zs.length = ks.length) (h100 : ks.length ≤ 100) (hnd : ks.Nodup) (hp : p1 ∉ ks)
    (h : ∀ d, H d = none → sp [v, .ref d] (upd H d (.dK ((ks.map .inr).zip zs))) Q E) : wpAny (model X.prog X.w) X.A (call (.ref f) [u] (ks.zip ws)) (EP X pins σ Q) X.xe s := by
  refine wpAny_call (codeAny_mono (F X.A X.stack s H u v ks ws zs Q E hr I.env0 ru rz hl h100 hnd hp h) fun r s' hq => ?_)
  cases r with
  | error e => exact False.elim hq
  | ok fl =>
    cases fl with
    | ret u => exact I.after hq
    | next => exact False.elim hq
    | brk => exact False.elim hq
    | cont => exact False.elim hq
theorem pe_methK {pl : Sem Bool} (he : PE X o ta) (c : Cls X.kw C) (hm : Meth X.kw C m f) (F : FnKw X.prog X.w X.kw X.mg X.base k p1 f sp) (hr : Room k X.A) (hkw : PK X kws tk) (hnd : ks.Nodup := by decide) (hp : p1 ∉ ks := by decide) (h100 : ks.length ≤ 100 := by decide)
    (hall : (backToKw pos (keywordEach kws X.env)).all (·.1.isSome) = true := by rfl) (hks : (backToKw pos (keywordEach kws X.env)).filterMap (·.1) = ks := by rfl)
    (hpl : ((backTo pos (starEach [] X.env)).any (·.1) || (backToKw pos (keywordEach kws X.env)).any (·.1.isNone)) = false := by rfl)
    (ht : eval (.Call (.Attribute o m apos) [] kws pos) X.env = (do
      let ov ← eval o X.env
      standAt apos.atName
      let (f, first) ← holding [ov] (getMethod ov m pl)
      callWith pos f first (backTo pos (starEach [] X.env)) (backToKw pos (keywordEach kws X.env))) := by rfl) :
    PE X (.Call (.Attribute o m apos) [] kws pos) (tMethK C m ks sp E ta tk) := by
  refine ⟨fun pins s σ H Q I h => ?_⟩
  refine PySem.W.methodCall_KW (pl := pl) (thn (he.run pins s σ H _ I h) fun u s1 ⟨x, H1, I1, rx, a, dx, fs, ex, ea, l, q⟩ => ?_) ht
  subst ex
  obtain rfl : u = Value.ref a := rx
  refine getmeth_ok I1 ea c hm l ?_
  refine PySem.W.callWith_KW0 (first := [.ref a]) (h₀ := X.base) I.ok.mod.kin hm.kp hall (thn (hkw.run pos pins s1 σ H1 _ I1 q) fun us s2 ⟨vs, H2, I2, r, hl, q2⟩ => ⟨I2.kIn, ?_⟩) hpl
  rw [hks]
  exact run_fnKw (v := V.ref a) F hr I2 rfl r hl h100 hnd hp q2
def eKw (C : Addr) (m : Str) (ks : List Str) (fm : FM) (fo : EM) (fa : AM) : EM := fun ρ => (fo ρ).bind fun p => if insOk C m (some p.1) then (fa p.2).bind fun q => (valsOf q.1).bind fun ds => if ds.length = ks.length then
  (callO fm [] [.val p.1, .val (.dk ((ks.map .inr).zip ds))] q.2).bind fun r => finR r else none else none
theorem repk_zip {K : KW} {F : Hp} : ∀ {ks : List L2.Key} {vs : List V} {ds : List D}, Reps K F vs ds → RepK K F (ks.zip vs) (ks.zip ds)
  | [], _, _, _ => by simp only [List.zip_nil_left]; exact .nil
  | _ :: _, _, _, .nil => by simp only [List.zip_nil_right]; exact .nil
  | k :: ks, _, _, .cons h r => by
    simp only [List.zip_cons_cons]
    exact .cons h (repk_zip r)
theorem de_kw (h : PE X e (tMethK C m ks (spF X.kw fm) E (tE X.kw g fo) (tA X.kw g fa))) : DE X g e (eKw C m ks fm fo fa) := weakPE h fun σ H Q ⟨F, ρ, d, ρ', G, hf, q⟩ => by
  obtain ⟨p, e1, hf⟩ := bnd hf
  split at hf
  · rename_i hi
    obtain ⟨p2, e2, hf⟩ := bnd hf
    obtain ⟨ds, e3, hf⟩ := bnd hf
    split at hf
    · rename_i hl
      refine ⟨F, ρ, p.1, p.2, G, e1, fun v F1 H1 G1 s1 r1 => ?_⟩
      unfold insOk at hi
      split at hi
      · rename_i C' gs hc
        have hi := Bool.and_eq_true_iff.mp hi
        cases (of_decide_eq_true hi.1)
        have hc' := Option.some.inj hc
        rw [hc'] at r1
        cases r1 with
        | @ins a _ dx fs _ h1 h2 =>
        refine ⟨a, dx, fs, rfl, G1.sub _ _ h1, h2.sameN.none (Option.isNone_iff_eq_none.mp hi.2), F1, p.2, p2.1, p2.2, G1, e2, fun vs F2 H2 G2 s2 r2 => ?_⟩
        have rv := valsOk r2 e3
        refine ⟨by rw [rv.length]; exact hl, fun dd hd => ?_⟩
        obtain ⟨G3, n1, n2, n3, n4⟩ := G2.fresh hd (.dK ((ks.map .inr).zip vs))
        have sm : Same F2 (upd F2 dd (.dK ((ks.map .inr).zip vs))) := fun b u e => by rw [upd_ne (ne_of_none e n1)]; exact e
        have G4 := G3.freeze upd_same n1 n2 n3 n4
        have rp : Rep X.kw (upd F2 dd (.dK ((ks.map .inr).zip vs))) (.ref a) p.1 := by
          rw [hc']
          exact (Rep.mono (s2.trans sm) (.ins h1 h2))
        exact callO_e (dvs := []) (vs := [V.ref a, V.ref dd]) (fun _ => .nil) G4 (.cons (o := .val p.1) rp (.cons (o := .val (.dk ((ks.map .inr).zip ds))) (show Rep _ _ _ _ from .dk upd_same (repk_zip (rv.mono sm))) .nil)) hf fun w F3 H3 G5 s3 r3 => q w F3 H3 G5 (((s1.trans s2).trans sm).trans s3) r3
      · cases hi
    · cases hf
  · cases hf
end
end L3
namespace KwX
open PySem PySem.Calls PyProof.Rows L2 PySem.W
section
variable {prog : Program} {w : World} {A : Around} {E : Value → Shared → Prop} {s : Shared}
theorem wp_dispMerge {pairs : List (Sem Value × Sem Value)} {x : Sem Value} {Q : Value → Shared → Prop} (h0 : pairs ≠ []) (hlen : pairs.length ≤ 15)
    (h : wpAny (model prog w) A (evalPairs pairs) (fun vs s1 => ∃ kvs, Carries (mixKind prog w) vs kvs ∧ s1.heap.DictOf (mixKind prog w) s.heap.objs.size [] ∧
      ∀ h', h'.DictOf (mixKind prog w) s.heap.objs.size (merged [] kvs) → Heap.SameBut s.heap.objs.size s1.heap h' →
        wpAny (model prog w) A x (fun m s2 => ∃ (o : Addr) (as more : List (L2.Key × Value)), m = .ref o ∧ s.heap.objs.size ≠ o ∧ (o == sysModules) = false ∧ s2.heap.DictOf (mixKind prog w) s.heap.objs.size as ∧ s2.heap.DictOf (mixKind prog w) o more ∧
          as.length + more.length ≤ sizeLine ∧ ∀ h'', h''.DictOf (mixKind prog w) s.heap.objs.size (merged as more) → Heap.SameBut s.heap.objs.size s2.heap h'' → Q (.ref s.heap.objs.size) { s2 with heap := h'' }) E { s1 with heap := h', toks := s1.toks + vs.length }) E
      { s with heap := s.heap.push { cls := .type "dict", data := .dict #[] } }) :
    wpAny (model prog w) A (dictDisplay (pairs.map (fun p => (some p.1, p.2)) ++ [(none, x)])) Q E s := by
  unfold dictDisplay
  refine wpAny_bind (wpAny_forIn_list _ (fun l b s' => (∃ pre rest, pre ++ rest = pairs ∧ l = rest.map (fun p => (some p.1, p.2)) ++ [(none, x)] ∧ b = (none, pre) ∧ s' = s) ∨ (l = [] ∧ b = (some s.heap.objs.size, []) ∧ Q (.ref s.heap.objs.size) s')) _ ?_ ?_ _ _ (.inl ⟨[], pairs, rfl, rfl, rfl, rfl⟩))
  · rintro ⟨k, v⟩ l b s' (⟨pre, rest, e, el, rfl, rfl⟩ | ⟨el, _⟩)
    · cases rest with
      | nil =>
        obtain ⟨e1, rfl⟩ := List.cons.inj el
        cases e1
        rw [List.append_nil] at e
        subst e
        have hne : pre.isEmpty = false := by cases pre with
          | nil => exact absurd rfl h0
          | cons _ _ => rfl
        simp only [hne]
        rw [if_neg (by simp)]
        refine wpAny_bind (wpAny_bind (wpAny_subDict (knd := mixKind prog w) (Q := fun d s3 => _) hlen (wpAny_mono h (fun vs s1 ⟨kvs, hc, hm, hq⟩ => ⟨kvs, hc, hm, fun h' dd sb => wpAny_pure ?_⟩) fun _ _ z => z)))
        refine wpAny_bind (wpAny_pure ?_)
        refine wpAny_bind (wpAny_holding (wpAny_mono (hq h' dd sb) (fun m s2 ⟨o, as, more, em, ne, hs, hd, ho, hz, q⟩ => ?_) fun _ _ z => z))
        subst em
        refine wpAny_bind (wpAny_onRaise (wpAny_tryCatch (wpAny_onRaise (wpAny_holding (wp_merge ne hs hd ho (fun u => nomatch u) (fun h'' d2 sb2 => ?_) hz)))))
        exact wpAny_pure (.inr ⟨trivial, rfl, q h'' d2 sb2⟩)
      | cons p rest =>
        obtain ⟨e1, rfl⟩ := List.cons.inj el
        cases e1
        have hne : ((pre ++ [(p.1, p.2)]).length == 17) = false := by
          have := congrArg List.length e
          simp at this
          simp; omega
        simp only [hne]
        exact wpAny_pure (.inl ⟨pre ++ [p], rest, by simpa using e, rfl, rfl, rfl⟩)
    · cases el
  · rintro b s' (⟨pre, rest, e, el, rfl, rfl⟩ | ⟨_, rfl, q⟩)
    · cases rest <;> cases el
    · exact wpAny_bind (wpAny_pure (wpAny_pure q))
end
section
/-- {k: v, .., **x}: the pairs, then a dict on top -/
def tDispM (trs : List (TE × TE)) (td : TE) : TE := fun σ H Q => ∀ p, H p = none → tPairs trs σ (upd H p (.dK [])) fun ps H2 => H2 p = some (.dK []) ∧ ∃ kvs : List (L2.Key × V), ps = kvs.map (fun kv => (kV kv.1, kv.2)) ∧ kvs.length ≤ 15 ∧
  td σ (upd H2 p (.dK (mergeK [] kvs))) fun y H4 => ∃ o more, y = .ref o ∧ p ≠ o ∧ H4 p = some (.dK (mergeK [] kvs)) ∧ Rd H4 o (.dK more) ∧ more.length ≤ 100 ∧ Q (.ref p) (upd H4 p (.dK (mergeK (mergeK [] kvs) more)))
theorem pe_dispM {X : Cx} {pos : Pos} {keys : List (Option Expr)} {values : List Expr} {ex : Expr} {trs : List (TE × TE)} {td : TE} (h : PPs X pos keys values trs) (hx : PE X ex td) (hall : keys.all (·.isSome) = true) (hl : keys.length = values.length) (h0 : keys ≠ [])
    (h15 : keys.length ≤ 15) (he : (evalEachOpt (keys ++ [none]) X.env).zip ((evalEach (values ++ [ex]) X.env).map fun v => do let x ← v; standAt pos; pure x) = (pairTrees keys values X.env pos).map (fun p => (some p.1, p.2)) ++ [(none, do let x ← eval ex X.env; standAt pos; pure x)] := by rfl) :
    PE X (.Dict (keys ++ [none]) (values ++ [ex]) pos) (tDispM trs td) := by
  refine ⟨fun pins s σ H Q I q => ?_⟩
  have hn := I.hok.fresh (Nat.le_refl s.heap.objs.size)
  have I1 := I.laid (a := s.heap.objs.size) (o := .dK []) (h' := s.heap.push { cls := .type "dict", data := .dict #[] }) (t' := s.toks) (fun _ _ q => Heap.get?_push_of_some _ q) (Nat.le_refl _) (dk_empty s.heap I.big)
  have hpl := pairTrees_length keys values X.env pos hall hl
  rw [arm_eval_Dict, he]
  refine wpAny_bind (wpAny_standAt (wp_dispMerge (fun e => ?_) (by rw [hpl]; exact h15) (thn (h.run pins _ σ _ _ I1 (q _ hn)) fun ws s2 ⟨ps, H2, I2, rel, e, kvs, ep, lk, q2⟩ => ?_)))
  · rw [e] at hpl
    exact h0 (List.length_eq_zero_iff.mp hpl.symm)
  subst ep
  obtain ⟨rs, c, rk⟩ := carries_of (P := X.prog) (w := X.w) rel
  obtain ⟨z, hd, vs0, r0, dd⟩ := dk_of I2.hok e
  cases r0
  refine ⟨rs, c, dd, fun h' dd' hs => ?_⟩
  have lm : (mergeK [] kvs).length ≤ 15 := by
    have h1 := length_mergeK kvs []
    rw [List.length_nil] at h1
    omega
  have hz : (mergeK [] kvs).length ≤ sizeLine := by rw [sizeLine_eq]; omega
  have he' : ∃ q, h'.get? s.heap.objs.size = some q := let ⟨q, _, _, hq, _⟩ := dd'; ⟨q, hq⟩
  have rm : KV (mergeK [] kvs) (merged [] rs) := rk.merge .nil
  have I3 := d_write (t' := s2.toks + ws.length) I2 (by rw [e]; exact True.intro) hs he' (dk_new hz hd rm dd')
  refine wpAny_bind (thn (hx.run pins _ σ _ _ I3 q2) fun m s4 ⟨y, H4, I4, ry, o, more, ey, ne, e4, rd, l100, q4⟩ => wpAny_bind (wpAny_standAt (wpAny_pure ?_)))
  subst ey
  cases (show m = Value.ref o from ry)
  obtain ⟨z4, hd4, ms, rel4, dd4⟩ := dk_rd I4.hok rd
  obtain ⟨_, _, as, ra, da⟩ := dk_of I4.hok e4
  have hz4 : (mergeK (mergeK [] kvs) more).length ≤ sizeLine := by
    have h1 := length_mergeK more (mergeK [] kvs)
    rw [sizeLine_eq]; omega
  refine ⟨o, as, ms, rfl, ne, hd4, da, dd4, by rw [← ra.length, ← rel4.length, sizeLine_eq]; omega, fun h'' d2 sb2 => ⟨V.ref s.heap.objs.size, _, ?_, rfl, q4⟩⟩
  exact d_write I4 (by rw [e4]; exact True.intro) sb2 (let ⟨q, _, _, hq, _⟩ := d2; ⟨q, hq⟩) (dk_new hz4 hd (KV.merge rel4 ra) d2)
end
end KwX
namespace L3
open PySem PySem.Spec PyProof.Rows L2
def dkOf : D → Option (List (L2.Key × D))
  | .dk l => some l
  | _ => none
def mergeD (acc more : List (L2.Key × D)) : List (L2.Key × D) := more.foldl (fun a kv => putD a kv.1 kv.2) acc
theorem RepK.mergeR {K : KW} {F : Hp} : ∀ {more : List (L2.Key × V)} {ms : List (L2.Key × D)} {acc : List (L2.Key × V)} {as : List (L2.Key × D)}, RepK K F more ms → RepK K F acc as → RepK K F (mergeK acc more) (mergeD as ms)
  | _, _, _, _, .nil, r => r
  | _, _, _, _, .cons (n := n) h t, r => by
    have := RepK.mergeR t (r.put n h)
    exact this
/-- {k: e, .., **d} -/
def nDspM (l : List (EM × EM)) (fd : EM) : NM := fun ρ => (dspLoop l [] ρ).bind fun p => (dkOf p.1).bind fun acc => (fd p.2).bind fun q => (dkOf q.1).bind fun more => if more.length ≤ 100 then some (.dk (mergeD acc more), q.2) else none
section
variable {X : Cx} {g : Gx} {keys : List (Option Expr)} {values : List Expr} {ex : Expr} {l : List (EM × EM)} {fd : EM} {pos : Pos}
theorem dn_dspM (h : PPs X pos keys values (l.map fun p => (tEx X.kw p.1, tEx X.kw p.2))) (hx : PE X ex (tEx X.kw fd)) (hall : keys.all (·.isSome) = true) (hl : keys.length = values.length) (h0 : keys ≠ []) (h15 : keys.length ≤ 15) (hk : l.length ≤ 15)
    (he : (evalEachOpt (keys ++ [none]) X.env).zip ((evalEach (values ++ [ex]) X.env).map fun v => do let x ← v; standAt pos; pure x) = (pairTrees keys values X.env pos).map (fun p => (some p.1, p.2)) ++ [(none, do let x ← eval ex X.env; standAt pos; pure x)] := by rfl) :
    DN X g (.Dict (keys ++ [none]) (values ++ [ex]) pos) (nDspM l fd) := weakPE (KwX.pe_dispM h hx hall hl h0 h15 he) fun σ H Q ⟨F, ρ, d, ρ', G, hf, q⟩ => by
  intro a ha
  obtain ⟨p, e1, hf⟩ := bnd hf
  obtain ⟨acc, e2, hf⟩ := bnd hf
  obtain ⟨p2, e3, hf⟩ := bnd hf
  obtain ⟨more, e4, hf⟩ := bnd hf
  split at hf
  · rename_i h100
    cases hf
    obtain ⟨G1, f1, n1, p1, no1⟩ := G.fresh ha (.dK [])
    refine dsp_t (g := g) (vs := []) (G1.pin upd_same f1 no1) .nil e1 fun kvs ws F' H' G' s' rr ⟨z, hz⟩ hw hlen => ?_
    rw [hz] at e2 rr
    cases e2
    obtain ⟨G2, l2, f2, no2⟩ := G'.unpin p1
    refine ⟨l2, kvs, rfl, by rw [hlen]; exact hk, ?_⟩
    rw [← hw]
    have G3 := G2.updFree (o := .dK ws) f2 n1 p1 no2
    have no3 : ∀ i, ¬ OwnAt (upd H' a (.dK ws)) σ p.2 i a := fun j z => no2 j (G2.ownUpd no2 z)
    refine ⟨_, F', p.2, p2.1, p2.2, G3.pin upd_same f2 no3, e3, fun v F4 H4 G4 s4 r4 => ?_⟩
    obtain ⟨G5, l5, f5, no5⟩ := G4.unpin p1
    unfold dkOf at e4
    split at e4
    · rename_i mm em
      cases e4
      rw [em] at r4
      cases r4 with
      | @dk o vs _ h1 h2 =>
      have ne : a ≠ o := fun e => by rw [e] at f5; rw [f5] at h1; cases h1
      refine ⟨o, vs, rfl, ne, l5, Rd.of (G5.sub _ _ h1), by rw [h2.length]; exact h100, ?_⟩
      exact q a _ F4 _ (G5.updFree f5 n1 p1 no5) (s'.trans s4) upd_same f5 n1 p1 (fun j z => no5 j (G5.ownUpd no5 z)) (.dk (RepK.mergeR h2 (rr.mono s4)))
    · cases e4
  · cases hf
end
def kwO (ρ : Env) : Opd → Option (List (L2.Key × D))
  | .val d => dkOf d
  | .ref i => match ρ[i]? with
    | some (some (.own _ d)) => dkOf d
    | _ => none
  | .io _ => none
def nMakeD (C : Addr) (ks : List Str) (fm : FM) (fa : AM) (fo : OM) : NM := fun ρ => (fa ρ).bind fun p => (fo p.2).bind fun q => (kwO q.2 q.1).bind fun l => if l.map (·.1) = ks.map .inr then
  (callO fm [] (.io q.2.length :: (p.1 ++ (l.map (·.2)).map Opd.val)) (q.2 ++ [some (.own none (.ins C []))])).bind (makK q.2.length) else none
theorem OpdsOk.app {K : KW} {F : Hp} {σ : L2.St} : ∀ {vs : List V} {os : List Opd} {vs2 : List V} {os2 : List Opd}, OpdsOk K F σ vs os → OpdsOk K F σ vs2 os2 → OpdsOk K F σ (vs ++ vs2) (os ++ os2)
  | _, _, _, _, .nil, r => r
  | _, _, _, _, .cons h t, r => .cons h (OpdsOk.app t r)
theorem opds_vals {K : KW} {F : Hp} {σ : L2.St} : ∀ {vs : List (L2.Key × V)} {ds : List (L2.Key × D)}, RepK K F vs ds → OpdsOk K F σ (vs.map (·.2)) ((ds.map (·.2)).map Opd.val)
  | _, _, .nil => .nil
  | _, _, .cons h t => .cons (o := .val _) h (opds_vals t)
theorem RepK.keysEq {K : KW} {F : Hp} : ∀ {vs : List (L2.Key × V)} {ds : List (L2.Key × D)}, RepK K F vs ds → vs.map (·.1) = ds.map (·.1)
  | _, _, .nil => rfl
  | _, _, .cons (n := n) _ t => by
    show n :: _ = n :: _
    rw [RepK.keysEq t]
section
variable {X : Cx} {g : Gx} {ex : Expr} {C : Addr} {ks : List Str} {fm : FM} {fa : AM} {fo : OM} {n : Nat} {E : XK}
theorem kwO_ok {K : KW} {F H : Hp} {σ : L2.St} {ρ : Env} (G : Gd K g F H σ ρ) {v : V} {o : Opd} (r : OpdOk K F σ v o) {l : List (L2.Key × D)} (e : kwO ρ o = some l) : ∃ a kvs, v = .ref a ∧ H a = some (.dK kvs) ∧ RepK K F kvs l := by
  cases o with
  | val d =>
    have e' : dkOf d = some l := e
    cases d <;> first | (cases e'; cases (show Rep K F v (.dk l) from r) with | dk h1 h2 => exact ⟨_, _, rfl, G.sub _ _ h1, h2⟩) | cases e'
  | ref i =>
    have hv : σ[i]? = some (some v) := r
    simp only [kwO] at e
    split at e
    · rename_i t d hx
      obtain ⟨a, o, hv2, _, _, hl, r3⟩ := G.slot i _ hx
      rw [hv] at hv2
      cases hv2
      cases d <;> first | (cases e; cases r3 with | dk h2 => exact ⟨_, _, rfl, hl, h2⟩) | cases e
    · cases e
  | io i => cases e
theorem dn_makeD (h : PE X ex (KwX.tMakeD C n ks (spF X.kw fm) (fun vs zs => vs ++ zs) E (tA X.kw g fa) (tO X.kw g fo))) (hn : LenA fa n) : DN X g ex (nMakeD C ks fm fa fo) := weakPE h fun σ H Q ⟨F, ρ, d, ρ', G, hf, q⟩ => by
  obtain ⟨p, e1, hf⟩ := bnd hf
  obtain ⟨p2, e2, hf⟩ := bnd hf
  obtain ⟨l, e3, hf⟩ := bnd hf
  split at hf
  · rename_i hk
    refine ⟨F, ρ, p.1, p.2, G, e1, fun vs F1 H1 G1 s1 r1 => ⟨F1, p.2, p2.1, p2.2, G1, e2, fun v F2 H2 G2 s2 r2 => ?_⟩⟩
    obtain ⟨a, kvs, rfl, ha, rk⟩ := kwO_ok G2 r2 e3
    refine ⟨a, kvs, rfl, Rd.of ha, rk.keysEq.trans hk, by rw [r1.length, hn _ _ _ e1], fun x dx hx hd ne => ?_⟩
    have h1 := make_h (C := C) (E := E) (dvs := []) (dds := []) (fun _ => .nil) G2 (OpdsOk.app (r1.mono s2) (opds_vals rk)) hf (fun l o F' H' G' s' => q l o F' H' G' ((s1.trans s2).trans s')) hx hd ne
    rw [List.append_nil] at h1
    exact h1
  · cases hf
end
section
variable {ρ : Env} {Q : D × Env → Prop} {C : Addr} {ks : List Str} {fm : FM} {fa : AM} {fo : OM} {fe fd : EM} {m : Str} {l : List (EM × EM)}
theorem dkOf_k {l : List (L2.Key × D)} : dkOf (.dk l) = some l := rfl
theorem kwO_v {d : D} : kwO ρ (.val d) = dkOf d := rfl
theorem x_makK {n : Nat} {r : Res × Bool × Env} : Ex (makK n r) Q = (isNon r.1 = true ∧ Ex (ownNew r.2.2 n) fun x => (r.2.1 = true ∨ lfo x = true) ∧ Q (x, r.2.2.take n)) := by
  simp only [ex_eq]
  obtain ⟨r1, r2, ρ2⟩ := r
  unfold makK ownNew
  dsimp only
  cases r1 with
  | n x => simp [isNon, ex0_none]
  | r x => simp [isNon, ex0_none]
  | d x =>
    cases x <;> simp only [isNon, Bool.false_eq_true, false_and, ex0_none, true_and]
    generalize ρ2[n]? = z; rcases z with _ | _ | x | ⟨_ | t, x⟩ | ⟨_ | t, x⟩ <;> simp only [ex0_some, ex0_none, ex0_guard, Bool.or_eq_true]
theorem x_eKw : Ex (eKw C m ks fm fe fa ρ) Q = Ex (fe ρ) fun p => insOk C m (some p.1) = true ∧ Ex (fa p.2) fun q => Ex (valsOf q.1) fun ds => ds.length = ks.length ∧
    Ex (callO fm [] [.val p.1, .val (.dk ((ks.map .inr).zip ds))] q.2) fun r => Ex (finR r) Q := by
  simp only [ex_eq]
  unfold eKw
  simp only [ex0_bind, ex0_guard]
theorem x_nDspM : Ex (nDspM l fd ρ) Q = Ex (dspLoop l [] ρ) fun p => Ex (dkOf p.1) fun acc => Ex (fd p.2) fun q => Ex (dkOf q.1) fun more => more.length ≤ 100 ∧ Q (.dk (mergeD acc more), q.2) := by
  simp only [ex_eq]
  unfold nDspM
  simp only [ex0_bind, ex0_guard, ex0_some]
theorem x_nMakeD : Ex (nMakeD C ks fm fa fo ρ) Q = Ex (fa ρ) fun p => Ex (fo p.2) fun q => Ex (kwO q.2 q.1) fun l => l.map (·.1) = ks.map .inr ∧
    Ex (callO fm [] (.io q.2.length :: (p.1 ++ (l.map (·.2)).map Opd.val)) (q.2 ++ [some (.own none (.ins C []))])) fun r => isNon r.1 = true ∧ Ex (ownNew r.2.2 q.2.length) fun x => (r.2.1 = true ∨ lfo x = true) ∧ Q (x, r.2.2.take q.2.length) := by
  simp only [ex_eq]
  unfold nMakeD
  simp only [ex0_bind, ex0_guard]
  congr 1; funext p; congr 1; funext q; congr 1; funext l; congr 1; congr 1; funext r
  have := @x_makK Q q.2.length r
  simp only [ex_eq] at this
  exact this
end
theorem kdR_ok {K : KW} {a : Addr} {d : D} (h : kd K (.ref a) d = true) (F : Hp) : Rep K F (.ref a) d := by
  obtain ⟨v, r1, r2⟩ := kd_ok h
  have : v = .ref a := by
    cases v <;> first | (cases (show Value.ref a = Value.ref _ from r1); rfl) | (obtain ⟨_, h⟩ := r1; cases h) | cases r1
  subst this
  exact r2 F
/-- a proved def with keyword-only parameters: n written ones, then the names ks -/
structure DoneK (P : Program) (w : World) (K : PySem.W.Frag) (mg : Str → Option Value) (base : Heap) (k : Nat) (f : Addr) (ps : List Str) (n : Nat) (ks : List Str) (fm : FM) (dvs : List V) (fd : FuncData) : Prop where
  ok : FnOk P w K mg base CX0 k f fd ps (spF ⟨K, w⟩ fm)
  kp : PySem.W.keepIn K (.ref f) = true
  dd : ∃ ds, Vals dvs ds ∧ Binds K fd ps ds
  kb : KBn K fd ps n ks (fun us ws => us ++ ws) (fun vs zs => vs ++ zs)
/-- a proved def (self, **d) -/
structure DoneD (P : Program) (w : World) (K : PySem.W.Frag) (mg : Str → Option Value) (base : Heap) (k : Nat) (p1 : Str) (f : Addr) (fm : FM) : Prop where
  ok : FnKw P w K mg base k p1 f (spF ⟨K, w⟩ fm)
  kp : PySem.W.keepIn K (.ref f) = true
section
variable {K : KW} {x qual : Str} {params : Arguments} {body : List Stmt} {scope : Scope} {kws : List (Str × V)} {f : Addr} {fd : FuncData} {ps : List Str}
theorem kbAll (F : FunD K x qual params body scope [] kws f fd) (n : Nat) (ks : List Str) (hk : kws ≠ [])
    (h : ∀ (D : Addr) (doc pm : Value) (an : Option Addr) (cdv ct : Value) (us ws : List Value), us.length = n → ws.length = ks.length → bindArgs (PySem.W.fnOf x qual params body scope .none (.ref D) doc pm an cdv ct) ⟨us, ks.zip ws⟩ = pure (ps.zip (us ++ ws))) :
    KBn K fd ps n ks (fun us ws => us ++ ws) (fun vs zs => vs ++ zs) := by
  obtain ⟨_, b⟩ := FunD.kbinds0 (ps := ps) F n ks [] (fun us _ ws => us ++ ws) hk (fun q hq => nomatch hq) (fun r1 _ r3 => r1.append r3) fun D doc pm an cdv ct us mv ws l1 _ l3 => h D doc pm an cdv ct us ws l1 l3
  exact b
end
end L3
namespace L3
open PySem PySem.Spec PyProof.Rows L2
section
variable {K : KW} {F H H' : Hp}
theorem getB (f : Str) : ∀ {vs : List (Str × V)} {ds : List (Str × D)}, vs.map (·.1) = ds.map (·.1) → BReps K F H (vs.map (·.2)) (ds.map (·.2)) → ∀ {d : D}, ds.lookup f = some d →
    ∃ v, vs.lookup f = some v ∧ BRep K F H v d ∧ ∀ a ∈ bx1 v d, a ∈ bxs (vs.map (·.2)) (ds.map (·.2))
  | [], [], _, _, _, e => by cases e
  | [], _ :: _, h, _, _, _ => by cases h
  | _ :: _, [], h, _, _, _ => by cases h
  | (n, v) :: vs, (m, d) :: ds, h, r, d', e => by
    obtain ⟨e1, e2⟩ := List.cons.inj h
    have e1' : n = m := e1
    subst e1'
    cases r with
    | cons h1 h2 =>
      simp only [List.lookup] at e ⊢
      split at e
      · rename_i q
        cases e
        exact ⟨v, rfl, h1, fun a m => List.mem_append_left _ m⟩
      · rename_i q
        obtain ⟨w, a1, a2, a3⟩ := getB f e2 h2 e
        exact ⟨w, a1, a2, fun a m => List.mem_append_right _ (a3 a m)⟩
end
def isBox : D → Bool
  | .box _ => true
  | _ => false
def tAQ (K : KW) (g : Gx) (f : AM) : TA := fun σ H Q => ∃ F ρ os ρ', Gd K g F H σ ρ ∧ f ρ = some (os, ρ') ∧ ∀ vs F' H', Gd K g F' H' σ ρ' → Same F F' → OpdsOk K F' σ vs os → Same H H' → Q vs H'
abbrev QA (X : Cx) (g : Gx) (es : List Expr) (f : AM) : Prop := PA X es (tAQ X.kw g f)
def boxL : Option D → Option (List D)
  | some (.box (.lst xs)) => some xs
  | _ => none
def treNew (ρ : Env) (i : Nat) : Option D := match ρ[i]? with
  | some (some (.tre none x)) => some x
  | _ => none
def treIn (C : Addr) (ρ : Env) (i : Nat) : Option (Option Nat × List (Str × D)) := match ρ[i]? with
  | some (some (.tre t (.ins C' gs))) => if C' = C then some (t, gs) else none
  | _ => none
end L3
namespace L3
open PySem PySem.Spec PyProof.Rows L2
def three : List D → Option (D × D × D)
  | [x, y, z] => some (x, y, z)
  | _ => none
theorem three_3 {x y z : D} : three [x, y, z] = some (x, y, z) := rfl
theorem three_of {ds : List D} {w : D × D × D} (h : three ds = some w) : ds = [w.1, w.2.1, w.2.2] := by
  unfold three at h
  split at h
  · cases h; rfl
  · cases h
def sPar3 (i j l : Nat) (fa : AM) : SM := fun ρ => (fa ρ).bind fun p => (valsOf p.1).bind fun ds => (three ds).bind fun z => some (.nx, ((p.2.set i (some (.d z.1))).set j (some (.d z.2.1))).set l (some (.d z.2.2)))
theorem intD_of {x : D} {a : Int} (h : intD x = some a) : x = .int a := by
  unfold intD at h
  split at h
  · cases h; rfl
  · cases h
def sAug (i : Nat) (k : Int → Int → Int) (fe : EM) : SM := fun ρ => (eV i ρ).bind fun w => (intD w.1).bind fun a => (fe ρ).bind fun p => (intD p.1).bind fun b => some (.nx, p.2.set i (some (.d (.int (k a b)))))
section
variable {X : Cx} {g : Gx} {st : Stmt} {i j k : Nat} {fa : AM} {f1 f2 f3 : NM} {fe : EM} {op : Int → Int → Int}
theorem ds_par3 (h : PS X st (tPar3 i j k (tA X.kw g fa))) : DS X g st (sPar3 i j k fa) := weakPS h fun D σ H ⟨F, ρ, out, ρ', G, hf, q⟩ => by
  obtain ⟨p, e1, hf⟩ := bnd hf
  obtain ⟨ds, e2, hf⟩ := bnd hf
  obtain ⟨z, e3, hf⟩ := bnd hf
  cases hf
  have e4 := three_of e3
  subst e4
  refine ⟨F, ρ, p.1, p.2, G, e1, fun vs F1 H1 G1 s1 r1 => ?_⟩
  have rr := valsOk r1 e2
  cases rr with
  | cons a rr =>
    cases rr with
    | cons b rr =>
      cases rr with
      | cons c rr =>
        cases rr
        exact ⟨_, _, _, rfl, q _ F1 H1 (((G1.setD i a).setD j b).setD k c) s1⟩
theorem ds_aug (h : PS X st (tAug i (tEx X.kw fe) (ipI op))) : DS X g st (sAug i op fe) := weakPS h fun D σ H ⟨F, ρ, out, ρ', G, hf, q⟩ => by
  obtain ⟨w, e0, hf⟩ := bnd hf
  obtain ⟨a, e1, hf⟩ := bnd hf
  obtain ⟨p, e2, hf⟩ := bnd hf
  obtain ⟨b, e3, hf⟩ := bnd hf
  cases hf
  have e1' := intD_of e1
  unfold eV at e0
  split at e0
  · rename_i x hx
    cases e0
    subst e1'
    obtain ⟨v, e, r⟩ := G.slot i _ hx
    cases r
    refine ⟨_, e, g, F, ρ, p.1, p.2, G, e2, fun v2 F1 H1 G1 s1 r1 => ?_⟩
    rw [intD_of e3] at r1
    cases r1
    exact ⟨a, b, rfl, rfl, q _ F1 H1 (G1.setD i .int) s1⟩
  · cases e0
end
section
variable {i j k : Nat} {fa : AM} {f1 f2 f3 : NM} {fe : EM} {op : Int → Int → Int} {ρ : Env} {QS : Out × Env → Prop}
theorem x_sPar3 : Ex (sPar3 i j k fa ρ) QS = Ex (fa ρ) fun p => Ex (valsOf p.1) fun ds => Ex (three ds) fun z => QS (.nx, ((p.2.set i (some (.d z.1))).set j (some (.d z.2.1))).set k (some (.d z.2.2))) := by
  simp only [ex_eq]
  unfold sPar3; simp only [ex0_bind, ex0_some]
theorem x_sAug : Ex (sAug i op fe ρ) QS = Ex (eV i ρ) fun w => Ex (intD w.1) fun a => Ex (fe ρ) fun p => Ex (intD p.1) fun b => QS (.nx, p.2.set i (some (.d (.int (op a b))))) := by
  simp only [ex_eq]
  unfold sAug; simp only [ex0_bind, ex0_some]
end
def lastE : List Expr → Expr
  | [] => .Tuple [] 0 default
  | [e] => e
  | _ :: e :: r => lastE (e :: r)
section
variable {X : Cx} {g : Gx} {ks : List (Option Expr)} {vs : List Expr} {l : List (EM × EM)} {fd : EM} {pos : Pos}
theorem dn_dspM2 (h : PPs X pos ks.dropLast vs.dropLast (l.map fun p => (tEx X.kw p.1, tEx X.kw p.2))) (hx : PE X (lastE vs) (tEx X.kw fd)) (hk1 : ks = ks.dropLast ++ [none]) (hv1 : vs = vs.dropLast ++ [lastE vs]) (hall : ks.dropLast.all (·.isSome) = true) (hl : ks.dropLast.length = vs.dropLast.length) (h0 : ks.dropLast.isEmpty = false) (h15 : Nat.ble ks.dropLast.length 15 = true) (hk : Nat.ble l.length 15 = true)
    (he : (evalEachOpt (ks.dropLast ++ [none]) X.env).zip ((evalEach (vs.dropLast ++ [lastE vs]) X.env).map fun v => do let x ← v; standAt pos; pure x) = (pairTrees ks.dropLast vs.dropLast X.env pos).map (fun p => (some p.1, p.2)) ++ [(none, do let x ← eval (lastE vs) X.env; standAt pos; pure x)] := by rfl) :
    DN X g (.Dict ks vs pos) (nDspM l fd) := by
  rw [hk1, hv1]
  exact dn_dspM h hx hall hl (fun z => by rw [z] at h0; cases h0) (Nat.le_of_ble_eq_true h15) (Nat.le_of_ble_eq_true hk) he
end
end L3
namespace L3
open PySem PySem.Spec PyProof.Rows L2
def n2 (k : D → D → Option D) (f1 f2 : OM) : NM := fun ρ => (f1 ρ).bind fun p => (f2 p.2).bind fun q => (res q.2 p.1).bind fun a => (res q.2 q.1).bind fun b => (k a b).bind fun c => finN (isVal p.1 && isVal q.1) c q.2
section
variable {o1 o2 : OM} {ρ : Env} {Q : D × Env → Prop}
theorem x_n2 {k : D → D → Option D} : Ex (n2 k o1 o2 ρ) Q = Ex (o1 ρ) fun p => Ex (o2 p.2) fun q => Ex (res q.2 p.1) fun a => Ex (res q.2 q.1) fun b => Ex (k a b) fun c => Ex (finN (isVal p.1 && isVal q.1) c q.2) Q := by
  simp only [ex_eq]
  unfold n2; simp only [ex0_bind]
end
def anyItems : D → Option (List D)
  | .lst l => some l
  | .scr ns => some (ns.map D.int)
  | .tup l => some l
  | .ktp l => some l
  | _ => none
theorem anyItems_l {l : List D} : anyItems (.lst l) = some l := rfl
theorem anyItems_t {l : List D} : anyItems (.tup l) = some l := rfl
theorem anyItems_k {l : List D} : anyItems (.ktp l) = some l := rfl
end L3
namespace L3
open PySem L2
end L3
namespace L3
open PySem PySem.Spec PyProof.Rows L2
theorem BReps.length {K : KW} {F H : Hp} : ∀ {vs : List V} {ds : List D}, BReps K F H vs ds → vs.length = ds.length
  | _, _, .nil => rfl
  | _, _, .cons _ r => by rw [List.length_cons, List.length_cons, BReps.length r]
end L3
namespace L3
open PySem PySem.Spec PyProof.Rows L2
section
variable {X : Cx} {g : Gx} {e lo st : Expr} {te : TE} {tl ts : TO} {pos p2 : Pos} {f : OM}
def kStp3 : D → Option D
  | .tup [a, b, c] => some (.tup [a, c])
  | _ => none
end
section
variable {f : EM} {ρ : Env} {Q : D × Env → Prop}
def lstD : D → Option (List D)
  | .lst l => some l
  | _ => none
theorem lstD_l {l : List D} : lstD (.lst l) = some l := rfl
end
theorem kStp3_t {a b c : D} : kStp3 (.tup [a, b, c]) = some (.tup [a, c]) := rfl
end L3
namespace L3
open PySem L2
/-- where just o stands -/
theorem exA_at {P : Program} {w : World} {H : Hp} {h : Heap} {a b : Addr} {o : Obj} (k : HOk P w H h) (e : H b = some (exA a o)) : b = a ∧ h.get? b = some o := by
  obtain ⟨h1, ⟨ob, hb⟩, st⟩ := (show ObjOk P w H h b (exA a o) from k b _ e)
  have h1 : h.get? a = some o := h1
  by_cases q : b = a
  · subst q; exact ⟨rfl, h1⟩
  · exfalso
    have hf : ({ o with slots := o.slots.push none } : Obj).isFreed = false := by
      have := (Heap.get?_some_iff.mp h1).2
      obtain ⟨c, d, dt, sl⟩ := o
      cases dt <;> first | rfl | exact this
    have h2 : (h.update a fun _ => { o with slots := o.slots.push none }).get? a = some o :=
      st h _ h1 fun o' e' => (Heap.get?_update_other h _ (Ne.symm q)).trans e'
    rw [Heap.get?_update_self _ h1 hf] at h2
    have h3 := congrArg (fun x : Obj => x.slots.size) (Option.some.inj h2)
    simp at h3
section
variable {X : Cx} {pins : List (Addr × Obj)} {σ : L2.St} {F H : Hp} {s : Shared}
mutual
theorem nested_ok (I : Inv X pins σ H s) (sm : Same F H) : ∀ {v : V} {d : D} {n : NestedKey} {u : Value}, Rep X.kw F v d → nkD d = some n → RelV v u → NestedIs s.heap n u
  | _, _, _, _, .non, e, r => by cases e; cases r; exact .none
  | _, _, _, _, .bl (b := b), e, r => by cases e; cases r; exact .bool rfl
  | _, _, _, _, .int, e, r => by cases e; obtain ⟨t, rfl⟩ := r; exact .int _ _
  | _, _, _, _, .str, e, r => by cases e; obtain ⟨t, rfl⟩ := r; exact .text _ _
  | _, _, _, _, .tup h q, e, r => by
    obtain ⟨ks, e1, e2⟩ := Option.map_eq_some_iff.mp e
    subst e2
    cases r
    obtain ⟨its, rr, ⟨o, h1, h2, n, h3⟩, _⟩ := I.tuple (SqT.of (sm _ _ h))
    exact .tup h1 h2 h3 (by simpa using nesteds_ok I sm q e1 rr)
  | _, _, _, _, .ktp h q, e, r => by
    obtain ⟨ks, e1, e2⟩ := Option.map_eq_some_iff.mp e
    subst e2
    cases r
    obtain ⟨its, rr, ⟨o, h1, h2, n, h3⟩, _⟩ := I.tuple (Same.sqt sm h)
    exact .tup h1 h2 h3 (by simpa using nesteds_ok I sm q e1 rr)
  | _, _, _, _, .lst h q, e, r => by cases e
  | _, _, _, _, .ins h q, e, r => by cases e
  | _, _, _, _, .dk h q, e, r => by cases e
  | _, _, _, _, .dd m h o q, e, r => by cases e
  | _, _, _, _, .cls, e, r => by cases e
  | _, _, _, _, .bty, e, r => by cases e
  | _, _, _, _, .scr h, e, r => by cases e
theorem nesteds_ok (I : Inv X pins σ H s) (sm : Same F H) : ∀ {vs : List V} {ds : List D} {ks : List NestedKey} {us : List Value}, Reps X.kw F vs ds → nkDs ds = some ks → Vals vs us → NestedAll s.heap ks us
  | _, _, _, _, .nil, e, r => by cases e; cases r; exact .nil
  | _, _, _, _, .cons h q, e, r => by
    obtain ⟨k, e1, e⟩ := bnd e
    obtain ⟨ks, e2, e⟩ := bnd e
    cases e
    cases r with
    | cons r1 r2 => exact .cons (nested_ok I sm h e1 r1) (nesteds_ok I sm q e2 r2)
end
theorem nkT_eq {d : D} {n : NestedKey} (e : nkT d = some n) : nkD d = some n ∧ n.depth ≤ 8 := by
  unfold nkT at e
  split at e
  · rename_i l h
    split at e
    · rename_i hd
      cases e
      exact ⟨h, hd⟩
    · cases e
  · cases e
theorem nkT_ref {K : KW} {F : Hp} {v : V} {d : D} {n : NestedKey} (r : Rep K F v d) (e : nkT d = some n) : ∃ b, v = .ref b := by
  cases r with
  | non => cases e
  | bl => cases e
  | int => cases e
  | str => cases e
  | bty => cases e
  | _ => exact ⟨_, rfl⟩
/-- the value y is the key n -/
def IsKey (K : KW) (H : Hp) (y : V) (n : NestedKey) : Prop := ∃ F d, Same F H ∧ Rep K F y d ∧ nkT d = some n
theorem IsKey.at_ {b : Addr} {n : NestedKey} (I : Inv X pins σ H s) (k : IsKey X.kw H (.ref b) n) : (nestedKind X.prog X.w).is s.heap n b := by
  obtain ⟨F, d, sm, r, e⟩ := k
  obtain ⟨e1, e2⟩ := nkT_eq e
  exact ⟨nested_ok I sm r e1 rfl, e2⟩
theorem IsKey.ref {K : KW} {H : Hp} {y : V} {n : NestedKey} (k : IsKey K H y n) : ∃ b, y = .ref b := by
  obtain ⟨F, d, sm, r, e⟩ := k
  exact nkT_ref r e
theorem IsKey.mono {K : KW} {H H' : Hp} {y : V} {n : NestedKey} (s : Same H H') (k : IsKey K H y n) : IsKey K H' y n := by
  obtain ⟨F, d, sm, r, e⟩ := k
  exact ⟨F, d, sm.trans s, r, e⟩
/-- at p lies the dict of the entries es -/
def DDAt (K : KW) (H : Hp) (p : Addr) (es : List DEn) : Prop := ∃ a o, (a == sysModules) = false ∧ H p = some (exA a o) ∧ DObj K.w o es ∧ ∀ x ∈ es, IsKey K H (.ref x.2.1) x.1
abbrev REn (p : DEn) (q : NestedKey × Addr × Value) : Prop := p.1 = q.1 ∧ p.2.1 = q.2.1 ∧ RelV p.2.2 q.2.2
theorem REn.mem {es : List DEn} {xs : List (NestedKey × Addr × Value)} (h : Paired REn es xs) : ∀ x ∈ xs, ∃ y ∈ es, REn y x := by
  induction h with
  | nil => intro x hx; cases hx
  | @cons p q ps qs r t ih =>
    intro x hx
    rcases List.mem_cons.mp hx with rfl | hx
    · exact ⟨p, List.mem_cons_self, r⟩
    · obtain ⟨y, h1, h2⟩ := ih x hx
      exact ⟨y, List.mem_cons_of_mem _ h1, h2⟩
theorem DDAt.dict {p : Addr} {es : List DEn} (I : Inv X pins σ H s) (h : DDAt X.kw H p es) :
    (p == sysModules) = false ∧ es.length ≤ sizeLine ∧ ∃ xs, Paired REn es xs ∧ s.heap.DictOfH (nestedKind X.prog X.w) p xs := by
  obtain ⟨a, o, ha, hp, ⟨hz, xs, pr, ex, en, ep, h1, h2, h3⟩, hk⟩ := h
  obtain ⟨e1, e2⟩ := exA_at I.hok hp
  subst e1
  refine ⟨ha, hz, xs, pr, o, en, ep, e2, ex, h1, h2, fun x hx => ?_, h3⟩
  obtain ⟨y, m, q1, q2, q3⟩ := REn.mem pr x hx
  have := (hk y m).at_ I
  rw [q1, q2] at this
  exact this
/-- what is found at n -/
def lookE (es : List DEn) (n : NestedKey) : Option V := (es.find? fun x => decide (x.1 = n)).map (·.2.2)
theorem lookE_rel {es : List DEn} {xs : List (NestedKey × Addr × Value)} (h : Paired REn es xs) (n : NestedKey) : RelO (lookE es n) ((atKey xs n).map (·.2)) := by
  induction h with
  | nil => exact True.intro
  | @cons p q ps qs r t ih =>
    unfold lookE atKey at *
    rw [List.find?_cons, List.find?_cons]
    by_cases e : p.1 = n
    · rw [decide_eq_true e, decide_eq_true (r.1 ▸ e)]
      exact r.2.2
    · rw [decide_eq_false e, decide_eq_false (r.1 ▸ e)]
      exact ih
/-- the entries behind d[n] = v -/
def putN (es : List DEn) (n : NestedKey) (b : Addr) (v : V) : List DEn := if (lookE es n).isSome then es.map fun x => if x.1 = n then (x.1, x.2.1, v) else x else es ++ [(n, b, v)]
theorem lookE_some {es : List DEn} {xs : List (NestedKey × Addr × Value)} (h : Paired REn es xs) (n : NestedKey) : (lookE es n).isSome = (atKey xs n).isSome := by
  have := (lookE_rel h n).isSome_eq
  rw [Option.isSome_map] at this
  exact this
theorem mapN_rel {n : NestedKey} {v : V} {r : Value} (rv : RelV v r) {es : List DEn} {xs : List (NestedKey × Addr × Value)} (h : Paired REn es xs) : Paired REn (es.map fun x => if x.1 = n then (x.1, x.2.1, v) else x) (xs.map (putAt n r)) := by
  induction h with
  | nil => exact .nil
  | @cons p q ps qs r t ih =>
    refine .cons ?_ ih
    show REn (if p.1 = n then (p.1, p.2.1, v) else p) (if q.1 = n then (q.1, q.2.1, _) else q)
    by_cases e : p.1 = n
    · rw [if_pos e, if_pos (r.1 ▸ e)]; exact ⟨r.1, r.2.1, rv⟩
    · rw [if_neg e, if_neg (r.1 ▸ e)]; exact r
theorem snocN_rel {p : DEn} {q : NestedKey × Addr × Value} (e : REn p q) {es : List DEn} {xs : List (NestedKey × Addr × Value)} (h : Paired REn es xs) : Paired REn (es ++ [p]) (xs ++ [q]) := by
  induction h with
  | nil => exact .cons e .nil
  | cons r t ih => exact .cons r ih
theorem putN_rel {es : List DEn} {xs : List (NestedKey × Addr × Value)} (h : Paired REn es xs) (n : NestedKey) (b : Addr) {v : V} {r : Value} (rv : RelV v r) : Paired REn (putN es n b v) (storedH xs n b r) := by
  unfold putN storedH
  rw [lookE_some h n]
  split
  · exact mapN_rel rv h
  · exact snocN_rel ⟨rfl, rfl, rv⟩ h
theorem putN_length (es : List DEn) (n : NestedKey) (b : Addr) (v : V) : (putN es n b v).length ≤ es.length + 1 := by
  unfold putN
  split <;> simp
theorem exA_obj {P : Program} {w : World} {H : Hp} {h : Heap} {a : Addr} {o : Obj} (e : h.get? a = some o) : ObjOk P w H h a (exA a o) :=
  ⟨e, ⟨o, e⟩, fun h1 h2 e1 k => k _ e1⟩
/-- d[y] = v -/
theorem dd_setItem {p : Addr} {es : List DEn} {n : NestedKey} {b : Addr} {v : V} {r : Value} {E : Value → Shared → Prop} {Q : Unit → Shared → Prop} {A : Around} (hu : A.units + 9 < cLine) (I : Inv X pins σ H s) (g : DDAt X.kw H p es) (hk : IsKey X.kw H (.ref b) n)
    (hl : es.length < sizeLine) (rv : RelV v r) (h : ∀ o s', (p == sysModules) = false → DObj X.w o (putN es n b v) → Inv X pins σ (upd H p (exA p o)) s' → Q () s') :
    wpAny (model X.prog X.w) A (setItem (.ref p) (.ref b) r) Q E s := by
  have hmu : Mut (H p) := by obtain ⟨a, o, _, e, _⟩ := g; rw [e]; exact True.intro
  obtain ⟨hs, hz, xs, pr, dd⟩ := g.dict I
  have hzx : xs.length ≤ sizeLine := by rw [← Paired.length pr]; exact hz
  refine wpAny_setItem_heap (hsz := hzx) (knd := nestedKind X.prog X.w) (show A.in1.units + 8 < cLine from by show A.units + 1 + 8 < cLine; omega) (hk.at_ I) dd fun h' dd' sb => ?_
  obtain ⟨o, en, ep, h1, h2, h3, h4, h5, h6⟩ := dd'
  refine h o _ hs ⟨?_, _, putN_rel pr n b rv, h2, en, ep, h3, h4, h6⟩ (d_write I hmu sb ⟨o, h1⟩ (exA_obj h1))
  have := putN_length es n b v
  omega
end
end L3
namespace L3
open PySem L2
def getE (ds : List (D × D)) (n : NestedKey) : Option D := (ds.find? fun p => decide (nkT p.1 = some n)).map (·.2)
def putE (ds : List (D × D)) (k : D) (n : NestedKey) (d : D) : List (D × D) := if (getE ds n).isSome then ds.map fun p => if nkT p.1 = some n then (p.1, d) else p else ds ++ [(k, d)]
section
variable {K : KW} {F H : Hp}
theorem RepE.length : ∀ {es : List DEn} {ds : List (D × D)}, RepE K F es ds → es.length = ds.length
  | _, _, .nil => rfl
  | _, _, .cons _ _ _ r => by rw [List.length_cons, List.length_cons, RepE.length r]
theorem RepE.val (n : NestedKey) : ∀ {es : List DEn} {ds : List (D × D)}, RepE K F es ds → (∀ d, getE ds n = some d → ∃ v, lookE es n = some v ∧ Rep K F v d) ∧ (getE ds n = none → lookE es n = none)
  | _, _, .nil => ⟨fun d e => (nomatch e), fun _ => rfl⟩
  | _, _, .cons (n := m) (k := k) (d := d) e q h r => by
    obtain ⟨h1, h2⟩ := RepE.val n r
    unfold getE lookE at *
    rw [List.find?_cons, List.find?_cons]
    by_cases c : m = n
    · have c' : nkT k = some n := by rw [e, c]
      rw [decide_eq_true c, decide_eq_true c']
      exact ⟨fun d' hd => by cases hd; exact ⟨_, rfl, h⟩, fun hn => (nomatch hn)⟩
    · have c' : ¬ nkT k = some n := fun z => c (by rw [e] at z; exact Option.some.inj z)
      rw [decide_eq_false c, decide_eq_false c']
      exact ⟨h1, h2⟩
theorem RepE.isS (n : NestedKey) {es : List DEn} {ds : List (D × D)} (r : RepE K F es ds) : (getE ds n).isSome = (lookE es n).isSome := by
  obtain ⟨h1, h2⟩ := r.val n
  cases h : getE ds n with
  | none => rw [h2 h]; rfl
  | some d => obtain ⟨v, e, _⟩ := h1 d h; rw [e]; rfl
theorem RepE.map {n : NestedKey} {v : V} {d : D} (h : Rep K F v d) : ∀ {es : List DEn} {ds : List (D × D)}, RepE K F es ds →
    RepE K F (es.map fun x => if x.1 = n then (x.1, x.2.1, v) else x) (ds.map fun p => if nkT p.1 = some n then (p.1, d) else p)
  | _, _, .nil => .nil
  | _, _, .cons (n := m) (b := b) (v := v') (k := k) (d := d') e q h' r => by
    by_cases c : m = n
    · have c' : nkT k = some n := by rw [e, c]
      rw [List.map_cons, List.map_cons]
      simp only [c, c', if_true]
      exact .cons c' q h (RepE.map h r)
    · have c' : ¬ nkT k = some n := fun z => c (by rw [e] at z; exact Option.some.inj z)
      rw [List.map_cons, List.map_cons]
      simp only [c, c', if_false]
      exact .cons e q h' (RepE.map h r)
theorem RepE.snoc {n : NestedKey} {b : Addr} {v : V} {k d : D} (e : nkT k = some n) (q : Rep K F (.ref b) k) (h : Rep K F v d) : ∀ {es : List DEn} {ds : List (D × D)}, RepE K F es ds → RepE K F (es ++ [(n, b, v)]) (ds ++ [(k, d)])
  | _, _, .nil => .cons e q h .nil
  | _, _, .cons e' q' h' r => .cons e' q' h' (RepE.snoc e q h r)
theorem RepE.put {n : NestedKey} {b : Addr} {v : V} {k d : D} (e : nkT k = some n) (q : Rep K F (.ref b) k) (h : Rep K F v d) {es : List DEn} {ds : List (D × D)} (r : RepE K F es ds) : RepE K F (putN es n b v) (putE ds k n d) := by
  unfold putN putE
  rw [r.isS n]
  split
  · exact r.map h
  · exact r.snoc e q h
theorem RepE.keys (s : Same F H) : ∀ {es : List DEn} {ds : List (D × D)}, RepE K F es ds → ∀ x ∈ es, IsKey K H (.ref x.2.1) x.1
  | _, _, .nil, x, hx => by cases hx
  | _, _, .cons e q h r, x, hx => by
    rcases List.mem_cons.mp hx with rfl | hx
    · exact ⟨F, _, s, q, e⟩
    · exact RepE.keys s r x hx
theorem Rep.ddAt (s : Same F H) {v : V} {ds : List (D × D)} (r : Rep K F v (.dd ds)) : ∃ p es, v = .ref p ∧ DDAt K H p es ∧ RepE K F es ds := by
  cases r with
  | dd m h o q => exact ⟨_, _, rfl, ⟨_, _, m, s _ _ h, o, q.keys s⟩, q⟩
theorem ORep.ddAt (s : Same F H) {p : Addr} {u : HO} {ds : List (D × D)} (r : ORep K F u (.dd ds)) (e : H p = some u) : ∃ es, DDAt K H p es ∧ RepE K F es ds := by
  cases r with
  | dd m o q => exact ⟨_, ⟨_, _, m, e, o, q.keys s⟩, q⟩
end
def rKIn (K : KW) (neg : Bool) : R2 := fun y x H Q => ∃ p es n, x = .ref p ∧ DDAt K H p es ∧ IsKey K H y n ∧ Q (.bl (if neg then !(lookE es n).isSome else (lookE es n).isSome)) H
def kKIn (neg : Bool) (a b : D) : Option D := match b with
  | .dd ds => (nkT a).bind fun n => some (.bl (if neg then !(getE ds n).isSome else (getE ds n).isSome))
  | _ => none
section
variable {X : Cx} {K : KW} {g : Gx} {ex : Expr} {f1 f2 : OM}
theorem room9 {A : Around} {k : Nat} (hr : Room k A) : A.units + 9 < cLine := by have := hr.units; omega
theorem in9 {A : Around} (hu : A.units + 9 < cLine) : A.in1.units + 8 < cLine := by
  show A.units + 1 + 8 < cLine
  omega
theorem op_knotin (hu : X.A.units + 9 < cLine) : OpR X (compareOp .NotIn) (rKIn X.kw true) := by
  intro pins s σ H y x u v Q I ry rx ⟨p, es, n, ex, dd, hk, q⟩
  subst ex
  obtain ⟨b, eb⟩ := hk.ref
  subst eb
  cases rx
  cases ry
  obtain ⟨hs, hz, xs, pr, d⟩ := dd.dict I
  refine PyProof.Rows.wpAny_notIn_heap (knd := nestedKind X.prog X.w) (in9 hu) (hk.at_ I) hs d ?_
  rw [← lookE_some pr n]
  exact ⟨.bl (!(lookE es n).isSome), H, I.tok _, rfl, q⟩
theorem ok_kin {neg : Bool} : Op2 K (rKIn K neg) (kKIn neg) := by
  intro F H v u a b c Q s ra rb e q
  unfold kKIn at e
  split at e
  · obtain ⟨n, e1, e⟩ := bnd e
    cases e
    obtain ⟨p, es, ev, dd, r⟩ := rb.ddAt s
    refine ⟨p, es, n, ev, dd, ⟨F, a, s, ra, e1⟩, q _ F H (Ext.refl s) ?_⟩
    rw [r.isS n]
    exact .bl
  · cases e
/-- slot[k], slot an own dict -/
def ddSlot (ρ : Env) (i : Nat) : Option (Option Nat × List (D × D)) := match ρ[i]? with
  | some (some (.own t (.dd ds))) => some (t, ds)
  | _ => none
theorem ddSlot_at {K : KW} {F H : Hp} {σ : L2.St} {ρ : Env} (G : Gd K g F H σ ρ) {i : Nat} {t : Option Nat} {ds : List (D × D)} (e : ddSlot ρ i = some (t, ds)) {l : Addr} (hl : σ[i]? = some (some (.ref l))) :
    ρ[i]? = some (some (.own t (.dd ds))) ∧ ∃ es, DDAt K H l es ∧ RepE K F es ds := by
  unfold ddSlot at e
  split at e
  · rename_i t' ds' h
    cases e
    refine ⟨h, ?_⟩
    obtain ⟨l', u, e1, _, _, hu, r⟩ := G.slot i _ h
    rw [hl] at e1
    cases e1
    exact ORep.ddAt G.sub r hu
  · cases e
theorem RepE.getD {F : Hp} {es : List DEn} {ds : List (D × D)} (r : RepE K F es ds) (n : NestedKey) {z : V} {x : D} (rz : Rep K F z x) : Rep K F ((lookE es n).getD z) ((getE ds n).getD x) := by
  obtain ⟨h1, h2⟩ := r.val n
  cases h : getE ds n with
  | none => rw [h2 h]; exact rz
  | some d => obtain ⟨v, e, q⟩ := h1 d h; rw [e]; exact q
def sKPut (K : KW) (td ty tv : TE) : TS := fun D σ H => tv σ H fun v H1 => td σ H1 fun x H2 => ty σ H2 fun y H3 => ∃ p es n b, x = .ref p ∧ y = .ref b ∧ DDAt K H3 p es ∧ IsKey K H3 y n ∧ es.length < sizeLine ∧
  ∀ o, (p == sysModules) = false → DObj K.w o (putN es n b v) → D.nx σ (upd H3 p (exA p o))
theorem ps_kput {o i value : Expr} {pos pos' : Pos} {td ty tv : TE} (hu : X.A.units + 9 < cLine) (ho : PE X o td) (hi : PE X i ty) (hv : PE X value tv) (hs : swapsWith value (some (.Subscript o i pos')) pos.line X.env = pure false) :
    PS X (.Assign [.Subscript o i pos'] value pos) (sKPut X.kw td ty tv) := by
  refine ⟨fun pins s σ H D I h => ?_⟩
  refine wpAny_Assign_Subscript (thn (hv.run pins s σ H _ I h) fun r s1 ⟨v, H1, I1, rv, q1⟩ => thn (ho.run pins s1 σ H1 _ I1 q1) fun u s2 ⟨x, H2, I2, rx, q2⟩ => thn (hi.run pins s2 σ H2 _ I2 q2) fun iv s3 ⟨y, H3, I3, ry, p, es, n, b, ex, ey, dd, hk, hl, q3⟩ => ?_) hs
  subst ex ey
  obtain rfl : u = Value.ref p := rx
  obtain rfl : iv = Value.ref b := ry
  exact dd_setItem hu I3 dd hk hl rv fun ob s4 hsm hob I4 => ⟨σ, _, I4, q3 ob hsm hob⟩
def sPutE (i : Nat) (fv fi : EM) : SM := fun ρ => (fv ρ).bind fun p => if isOwn p.2 i then (fi p.2).bind fun q => (ddSlot q.2 i).bind fun w => (nkT q.1).bind fun n =>
  if w.2.length < 16777216 then some (.nx, q.2.set i (some (.own w.1 (.dd (putE w.2 q.1 n p.1))))) else none
  else none
theorem ds_putE {st : Stmt} {i : Nat} {fv fi : EM} (h : PS X st (sKPut X.kw (tVar i) (tE X.kw g fi) (tE X.kw g fv))) : DS X g st (sPutE i fv fi) :=
  weakPS h fun D σ H ⟨F, ρ, out, ρ', G, hf, q⟩ => by
  obtain ⟨p, e1, hf⟩ := bnd hf
  split at hf
  · rename_i ho
    obtain ⟨⟨d2, ρ2⟩, e2, hf⟩ := bnd hf
    obtain ⟨⟨t, ds⟩, e3, hf⟩ := bnd hf
    obtain ⟨n, e4, hf⟩ := bnd hf
    dsimp only at hf
    split at hf
    · rename_i hz
      cases hf
      refine ⟨F, ρ, p.1, p.2, G, e1, fun w F1 H1 G1 s1 r1 => ?_⟩
      obtain ⟨l, hv⟩ := isOwn_at G1 ho
      refine ⟨_, hv, F1, p.2, _, ρ2, G1, e2, fun kv F2 H2 G2 s2 r2 => ?_⟩
      obtain ⟨hx, es, dd, r⟩ := ddSlot_at G2 e3 hv
      obtain ⟨b, eb⟩ := nkT_ref r2 e4
      subst eb
      exact ⟨l, es, n, b, rfl, rfl, dd, ⟨F2, d2, G2.sub, r2, e4⟩, by rw [r.length, sizeLine_eq]; exact hz, fun ob hsm hob => q σ F2 _ (G2.updOwn hx hv (.dd hsm hob (r.put e4 r2 (r1.mono s2)))) (s1.trans s2)⟩
    · cases hf
  · cases hf
end
end L3
namespace L3
open PySem L2
theorem dobj_new (w : World) : DObj w { cls := .type "dict", data := .dict #[] } [] := ⟨Nat.zero_le _, [], .nil, ⟨rfl, rfl, rfl⟩, #[], 0, rfl, rfl, List.nodup_nil⟩
section
variable {X : Cx} {g : Gx} {pos : Pos}
theorem big_no {s : Shared} (h : sysModules < s.heap.objs.size) : (s.heap.objs.size == sysModules) = false := beq_eq_false_iff_ne.mpr (Nat.ne_of_gt h)
theorem fresh_n {K : KW} {F H : Hp} {σ : L2.St} {ρ : Env} (G : Gd K g F H σ ρ) {p : Addr} (hp : H p = none) (u : HO) :
    Gd K g F (upd H p u) σ ρ ∧ upd H p u p = some u ∧ F p = none ∧ g.H0 p = none ∧ g.pin p = none ∧ ∀ i, ¬ OwnAt (upd H p u) σ ρ i p := by
  obtain ⟨h1, h2, h3, h4, h5⟩ := G.fresh hp u
  exact ⟨h1, upd_same, h2, h3, h4, h5⟩
/-- {k: v} -/
def tKDsp (K : KW) (tk tv : TE) : TE := fun σ H Q => ∀ p o, (p == sysModules) = false → DObj K.w o [] → H p = none → tPairs [(tk, tv)] σ (upd H p (exA p o)) fun ps H2 => ∃ x y n b, ps = [(x, y)] ∧ x = .ref b ∧ IsKey K H2 x n ∧ H2 p = some (exA p o) ∧
  ∀ o', DObj K.w o' [(n, b, y)] → Q (.ref p) (upd H2 p (exA p o'))
theorem pe_kdsp {k v : Expr} {tk tv : TE} (hu : X.A.units + 9 < cLine) (hk : PE X k tk) (hv : PE X v tv) : PE X (.Dict [some k] [v] pos) (tKDsp X.kw tk tv) := by
  refine ⟨fun pins s σ H Q I h => ?_⟩
  have hn := I.hok.fresh (Nat.le_refl s.heap.objs.size)
  have I0 := I.laid (a := s.heap.objs.size) (h' := s.heap.push { cls := .type "dict", data := .dict #[] }) (t' := s.toks) (fun _ _ q => Heap.get?_push_of_some _ q) (Nat.le_refl _) (exA_obj (Heap.get?_push_size _ rfl))
  have h0 := h _ _ (big_no I.big) (dobj_new X.w) hn
  have pp := (pps_cons (pos := pos) hk hv (pps_nil (X := X))).run pins _ σ _
    (fun ps H2 => ∃ x y n b, ps = [(x, y)] ∧ x = .ref b ∧ IsKey X.kw H2 x n ∧ H2 s.heap.objs.size = some (exA s.heap.objs.size { cls := .type "dict", data := .dict #[] }) ∧ ∀ o', DObj X.w o' [(n, b, y)] → Q (.ref s.heap.objs.size) (upd H2 s.heap.objs.size (exA s.heap.objs.size o'))) I0 h0
  · rw [PySem.arm_eval_Dict, PySem.zip_pairTrees [some k] [v] X.env pos rfl rfl, PySem.dictDisplay_pairs (PySem.pairTrees [some k] [v] X.env pos) (by unfold PySem.pairTrees; exact List.cons_ne_nil _ _) (by show 1 < 17; decide)]
    refine wpAny_bind (wpAny_standAt (wpAny_bind (wpAny_subDictH (knd := nestedKind X.prog X.w) (Q := fun d s' => wpAny (model X.prog X.w) X.A (pure (Value.ref d)) _ X.xe s') (by show X.A.units + 8 < cLine; omega) (by show 1 ≤ 15; decide) (thn pp fun ws s2 ⟨ps, H2, I2, rel, x, y, n, b, ep, ex, hk2, hd2, q2⟩ => ?_))))
    subst ep ex
    cases rel with
    | @cons p q ps qs hpq rest =>
      cases rest
      obtain ⟨wk, wv⟩ := q
      have e1 : wk = Value.ref b := hpq.1
      subst e1
      refine ⟨[(n, b, wv)], ⟨rfl, rfl, hk2.at_ I2, trivial⟩, ?_, fun h' tk dd sb => wpAny_pure ?_⟩
      · obtain ⟨_, e2⟩ := exA_at I2.hok hd2
        exact ⟨_, #[], 0, e2, ⟨rfl, rfl, rfl⟩, rfl, rfl, fun _ z => (nomatch z), List.nodup_nil⟩
      · obtain ⟨o', en, ep, a1, a2, a3, a4, a5, a6⟩ := dd
        have od : DObj X.w o' [(n, b, y)] := ⟨by show 1 ≤ sizeLine; rw [sizeLine_eq]; decide, _, .cons ⟨rfl, rfl, hpq.2⟩ .nil, a2, en, ep, a3, a4, a6⟩
        exact ⟨.ref s.heap.objs.size, _, d_write I2 (by rw [hd2]; exact True.intro) sb ⟨o', a1⟩ (exA_obj a1), rfl, q2 o' od⟩
/-- {k: v} of one pair -/
def nKDsp (fk fv : EM) : NM := fun ρ => (fk ρ).bind fun p => (fv p.2).bind fun q => (nkT p.1).bind fun n => some (.dd [(p.1, q.1)], q.2)
theorem dn_kdsp {k v : Expr} {fk fv : EM} (hu : X.A.units + 9 < cLine) (hk : ∀ g, DE X g k fk) (hv : ∀ g, DE X g v fv) : DN X g (.Dict [some k] [v] pos) (nKDsp fk fv) :=
  weakPE (pe_kdsp hu (pex hk) (pex hv)) fun σ H Q ⟨F, ρ, d, ρ', G, hf, q⟩ => by
  obtain ⟨⟨a, ρ1⟩, e1, hf⟩ := bnd hf
  obtain ⟨⟨b, ρ2⟩, e2, hf⟩ := bnd hf
  obtain ⟨n, e3, hf⟩ := bnd hf
  cases hf
  intro p o hm hd hp
  obtain ⟨G1, l1, f1, n1, p1, no1⟩ := fresh_n G hp (exA p o)
  have G2 := G1.pin l1 f1 no1
  refine ⟨g.also p (exA p o), F, ρ, a, ρ1, G2, e1, fun x F1 H1 G3 s1 r1 => ⟨g.also p (exA p o), F1, ρ1, b, _, G3, e2, fun y F2 H2 G4 s2 r2 => ?_⟩⟩
  obtain ⟨bk, eb⟩ := nkT_ref r1 e3
  subst eb
  obtain ⟨G5, l5, f5, no5⟩ := G4.unpin p1
  refine ⟨_, y, n, bk, rfl, rfl, ⟨F2, a, G5.sub, r1.mono s2, e3⟩, l5, fun o' od => ?_⟩
  exact q p _ F2 _ (G5.updFree f5 n1 p1 no5) (s1.trans s2) upd_same f5 n1 p1 (fun i z => no5 i (G5.ownUpd no5 z)) (.dd hm od (.cons e3 (r1.mono s2) r2 .nil))
end
end L3
namespace L3
open PySem L2
/-- the entries of the object o, as the machine sees them -/
structure Ent (o : Obj) (es : List DEn) (en : Array DictEntry) (ep : Nat) : Prop where
  ex : o.ExactDict
  dat : o.data = .dict en ep
  sz : en.size = es.length
  at_ : ∀ (i : Nat) (e : DEn), es[i]? = some e → ∃ x : DictEntry, en[i]? = some x ∧ x.key = .ref e.2.1 ∧ RelV e.2.2 x.val
theorem Paired.geti {α β : Type} {R : α → β → Prop} : ∀ {l : List α} {m : List β}, Paired R l m → ∀ (i : Nat) (a : α), l[i]? = some a → ∃ b, m[i]? = some b ∧ R a b
  | _, _, .nil, i, a, h => by simp at h
  | _, _, .cons r _, 0, a, h => by simp at h; subst h; exact ⟨_, rfl, r⟩
  | _, _, .cons _ t, i + 1, a, h => by
    obtain ⟨b, h1, h2⟩ := Paired.geti t i a (by simpa using h)
    exact ⟨b, by simpa using h1, h2⟩
theorem DObj.ent {w : World} {o : Obj} {es : List DEn} (h : DObj w o es) : ∃ en ep, Ent o es en ep := by
  obtain ⟨hz, xs, pr, ex, en, ep, h1, h2, h3⟩ := h
  have sz : en.size = xs.length := by
    have := congrArg List.length h2
    simpa using this
  refine ⟨en, ep, ex, h1, by rw [sz]; exact (Paired.length pr).symm, fun i e he => ?_⟩
  obtain ⟨x, hx, r⟩ := Paired.geti pr i e he
  refine ⟨entN w x, ?_, ?_, r.2.2⟩
  · rw [← Array.getElem?_toList, h2, List.getElem?_map, hx]; rfl
  · show Value.ref x.2.1 = _
    rw [r.2.1]
section
variable {P : Program} {w : World} {K : PySem.W.Frag} {tg : Expr} {p : Addr} {o : Obj} {es : List DEn} {en : Array DictEntry} {ep : Nat}
theorem ent_raw {H : Hp} {h : Heap} (E : Ent o es en ep) (k : HOk P w H h) (e : H p = some (exA p o)) : h.DictRaw p en ep := ⟨o, (exA_at k e).2, E.ex, E.dat⟩
theorem Ent.get (E : Ent o es en ep) {i : Nat} (hi : i < es.length) : ∃ e, es[i]? = some e ∧ ∃ h : i < en.size, en[i].key = .ref e.2.1 ∧ RelV e.2.2 en[i].val := by
  have h' : i < en.size := by rw [E.sz]; exact hi
  obtain ⟨x, hx, h1, h2⟩ := E.at_ i es[i] (by simp [hi])
  refine ⟨es[i], by simp [hi], h', ?_⟩
  rw [Array.getElem?_eq_getElem h'] at hx
  cases hx
  exact ⟨h1, h2⟩
end
end L3
namespace L3
open PySem L2
def rListD (K : KW) : List V → Hp → VK → Prop := fun xs H Q => ∃ p es, xs = [.ref p] ∧ DDAt K H p es ∧ ∀ l, H l = none → Q (.ref l) (upd H l (.lst (es.map fun e => V.ref e.2.1)))
theorem DDAt.raw {X : Cx} {pins : List (Addr × Obj)} {σ : L2.St} {H : Hp} {s : Shared} {p : Addr} {es : List DEn} (I : Inv X pins σ H s) (h : DDAt X.kw H p es) :
    (p == sysModules) = false ∧ es.length ≤ sizeLine ∧ ∃ o en ep, Ent o es en ep ∧ s.heap.DictRaw p en ep := by
  obtain ⟨a, o, ha, hp, ob, hk⟩ := h
  obtain ⟨e1, e2⟩ := exA_at I.hok hp
  subst e1
  obtain ⟨en, ep, E⟩ := ob.ent
  exact ⟨ha, ob.1, o, en, ep, E, ent_raw E I.hok hp⟩
theorem keys_vals {o : Obj} {es : List DEn} {en : Array DictEntry} {ep : Nat} (E : Ent o es en ep) {acc : List Value} (hl : acc.length = en.size) (h : ∀ j v, acc[j]? = some v → ∃ hi : j < en.size, v = en[j].key) : Vals (es.map fun e => V.ref e.2.1) acc := by
  have : acc = es.map fun e => Value.ref e.2.1 := by
    apply List.ext_getElem?
    intro j
    rw [List.getElem?_map]
    by_cases hj : j < es.length
    · obtain ⟨e, he, hi, hk, _⟩ := E.get hj
      rw [he]
      have hj' : j < acc.length := by rw [hl]; exact hi
      obtain ⟨hi2, q⟩ := h j acc[j] (by simp [hj'])
      rw [List.getElem?_eq_getElem hj', q, hk]
      rfl
    · rw [List.getElem?_eq_none (by rw [hl, E.sz]; omega), List.getElem?_eq_none (by omega)]
      rfl
  rw [this]
  clear this h hl E
  induction es with
  | nil => exact .nil
  | cons e es ih => exact .cons rfl ih
theorem call_listD {X : Cx} (hc : X.calm = true) : CallR X (.type "list") (rListD X.kw) := by
  intro pins s σ H xs us Q I r ⟨p, es, ex, dd, q⟩
  subst ex
  cases r with
  | cons r rr =>
    cases rr
    cases r
    obtain ⟨hm, hz, o, en, ep, E, raw⟩ := dd.raw I
    refine PySem.W.kdl_call (KdlSrc.rawDict (es := en) (ep := ep) hm) (I.ok.hd hc) raw (by rw [E.sz]; exact hz) fun h' tk acc c kp hn it => ?_
    have vl : Vals (es.map fun e => V.ref e.2.1) acc.toList := keys_vals E (by rw [Array.length_toList]; exact it.1) fun j v hj => it.2 j v (by rw [← Array.getElem?_toList]; exact hj)
    refine ⟨.ref s.heap.objs.size, _, I.laid (a := s.heap.objs.size) (t' := tk) kp (Nat.le_refl _) ?_, rfl, q _ (I.hok.fresh (Nat.le_refl _))⟩
    exact ⟨by rw [List.length_map]; exact hz, acc.toList, c, vl, by simpa using hn⟩
def kListX : List D → Option D
  | [.lst l] => some (.lst l)
  | [.tup l] => some (.lst l)
  | [.ktp l] => some (.lst l)
  | [.scr ns] => some (.lst (ns.map D.int))
  | [.dd ds] => some (.lst (ds.map (·.1)))
  | _ => none
abbrev rListX (K : KW) : List V → Hp → VK → Prop := fun xs H Q => rListOf K xs H Q ∨ rListD K xs H Q
theorem cr_listX {X : Cx} (hc : X.calm = true) : CallR X (.type "list") (rListX X.kw) := callr_or call_list_of (call_listD hc)
theorem RepE.refs {K : KW} {F : Hp} : ∀ {es : List DEn} {ds : List (D × D)}, RepE K F es ds → Reps K F (es.map fun e => V.ref e.2.1) (ds.map (·.1))
  | _, _, .nil => .nil
  | _, _, .cons _ q _ r => .cons q (RepE.refs r)
theorem ok_listX {K : KW} : OpN K (rListX K) kListX := by
  intro F H vs as c Q s r e q
  by_cases hd : ∃ ds, as = [.dd ds]
  · obtain ⟨ds, rfl⟩ := hd
    cases e
    obtain ⟨v, rfl, h⟩ := reps_one r
    obtain ⟨p, es, ev, dd, re⟩ := h.ddAt s
    subst ev
    exact .inr ⟨p, es, rfl, dd, fun l hl => q l _ hl (.lst re.refs)⟩
  · refine .inl (ok_list F H vs as c Q s r ?_ q)
    rcases as with _ | ⟨a, _ | ⟨b, t⟩⟩
    · cases e
    · cases a <;> first | exact e | (exact absurd ⟨_, rfl⟩ hd)
    · cases a <;> cases e
end L3
namespace L3
open PySem PySem.Spec L2 PyProof.Rows
section
variable {X : Cx}
theorem dd_dictSet {pins : List (Addr × Obj)} {σ : L2.St} {H : Hp} {s : Shared} {A : Around} {E : Value → Shared → Prop} {p b : Addr} {es : List DEn} {n : NestedKey} {v : V} {r : Value} {Q : Unit → Shared → Prop} (hu : A.units + 9 < cLine) (I : Inv X pins σ H s) (g : DDAt X.kw H p es) (hk : IsKey X.kw H (.ref b) n)
    (hl : es.length < sizeLine) (rv : RelV v r) (h : ∀ o s', DObj X.w o (putN es n b v) → Inv X pins σ (upd H p (exA p o)) s' → Q () s') : wpAny (model X.prog X.w) A (dictSet p (.ref b) r) Q E s := by
  have hmu : Mut (H p) := by obtain ⟨a, o, _, e, _⟩ := g; rw [e]; exact True.intro
  obtain ⟨hs, hz, xs, pr, dd⟩ := g.dict I
  refine wpAny_dictSet_heap (hsz := by rw [← Paired.length pr]; exact hz) (knd := nestedKind X.prog X.w) (show A.units + 8 < cLine by omega) (hk.at_ I) dd fun h' dd' sb => ?_
  obtain ⟨o, en, ep, h1, h2, h3, h4, h5, h6⟩ := dd'
  refine h o _ ⟨?_, _, putN_rel pr n b rv, h2, en, ep, h3, h4, h6⟩ (d_write I hmu sb ⟨o, h1⟩ (exA_obj h1))
  have := putN_length es n b v
  omega
def tKc (K : KW) (wi : TI) (g : TG) (tt : TT) (tk tv : TE) (vs : List Nat) : TE := fun σ H Q => wi σ H fun J H1 => ∀ D o0, (D == sysModules) = false → DObj K.w o0 [] → H1 D = none → ∃ W : Nat → Nat → Hp → Prop, (∃ m, W 0 m (upd H1 D (exA D o0))) ∧ ∀ i m H, W i m H →
  (J.stop i H ∧ Q (.ref D) H) ∨ (J.go i H ∧ ∃ Nx : Hp → Prop, (∀ H', Nx H' → ∃ m', m' < m ∧ W (i + 1) m' H') ∧ ∀ x H', J.yld i H x H' → g x (L2.wipe σ vs) H' fun σ2 H2 => L2.wipe σ2 vs = L2.wipe σ vs ∧ tt σ2 H2 fun c H3 =>
    if c = true then tk σ2 H3 fun y H4 => tv σ2 H4 fun z H5 => ∃ es n b, y = .ref b ∧ DDAt K H5 D es ∧ IsKey K H5 y n ∧ es.length < sizeLine ∧ ∀ o, DObj K.w o (putN es n b z) → Nx (upd H5 D (exA D o)) else Nx H3)
theorem kc_core {pins : List (Addr × Obj)} {s : Shared} {σ : L2.St} {H : Hp} {Q : VK} {kx vx tg iter : Expr} {ifs : List Expr} {scope : Scope} {own : List (Str × Nat)} {pos pos' : Pos} {wi : TI} {g : TG} {tt : TT} {tk tv : TE} {use : Option (Value → Sem Unit)} {Qf : Value → Shared → Prop}
    (hu : X.A.units + 9 < cLine) (hc : X.calm = true) (hN : X.N.Nodup) (I : Inv X pins σ H s) (hi : PI X tg iter wi) (ok : BlkOk X.N X.env.scope scope own)
    (hg : ∀ (s : Shared) (H : Hp) (C : Addr) (cl : List (Str × Addr)) (fp : List Addr), PG (X.blk s H scope (compEnvC scope cl C X.env) fp) tg g) (ht : ∀ (s : Shared) (H : Hp) (C : Addr) (cl : List (Str × Addr)) (fp : List Addr), PTs (X.blk s H scope (compEnvC scope cl C X.env) fp) ifs tt)
    (hk : ∀ (s : Shared) (H : Hp) (C : Addr) (cl : List (Str × Addr)) (fp : List Addr), PE (X.blk s H scope (compEnvC scope cl C X.env) fp) kx tk)
    (he : ∀ (s : Shared) (H : Hp) (C : Addr) (cl : List (Str × Addr)) (fp : List Addr), PE (X.blk s H scope (compEnvC scope cl C X.env) fp) vx tv) (hs : ∀ x, foldedSetIterable iter X.env x = pure x)
    (h : tKc X.kw wi g tt tk tv (own.map (·.2)) σ H Q)
    (hRR : ∀ D C s' m H', Inv X pins σ H' s' → Q (.ref D) H' → s'.heap.Ns C m → FpOk X pins H' C → compPost (model X.prog X.w) X.A X.xe use Qf (.ref D) C (.ok .next) s') :
    wpAny (model X.prog X.w) X.A (comprehension (.DictComp kx vx [⟨tg, iter, ifs, 0⟩] scope pos) scope X.env pos' newDict false (eval iter X.env) use) Qf X.xe s := by
  have free : ∀ y ∈ scope.names, y.2 = .free → ∃ c, X.env.cells.lookup y.1 = some c := fun y hy e => (ok.free y hy e).elim (fun k => I.ok.has _ (.inl k)) fun k => I.ok.has _ (.inr k)
  refine wpAny_comprehension_free (use := use) rfl hs (closure_ok free) ok.kind (fun y hy e => by rw [ok.uniq y hy, e])
    (thn (hi.run pins s σ H _ I h) fun xv s1 hx => thn hx fun itv s2 ⟨it, fp, tn, J, Hb, e, Ib, T, stb, fb, q⟩ => ?_)
  subst e
  refine wpAny_newObj_type (newEnv_comp ?_)
  -- the new dict
  generalize hD : s2.heap.objs.size = D
  have Dn : Hb D = none := Ib.hok.fresh (Nat.le_of_eq hD)
  have Dm : (D == sysModules) = false := hD ▸ big_no Ib.big
  obtain ⟨W, ⟨m0, w0⟩, turn⟩ := q D { cls := .type "dict", data := .dict #[] } Dm (dobj_new X.w) Dn
  generalize ht3 : ({ s2 with heap := s2.heap.push { cls := .type "dict", data := .dict #[] } } : Shared) = t3
  generalize hHc : upd Hb D (exA D { cls := .type "dict", data := .dict #[] }) = Hc at w0
  have Ic : Inv X pins σ Hc t3 := by
    rw [← ht3, ← hHc]
    refine Ib.laid (t' := s2.toks) (fun b o e => Heap.get?_push_of_some _ e) (Nat.le_of_eq hD) (exA_obj ?_)
    rw [← hD]
    exact Heap.get?_push_size _ rfl
  have hh3 : t3.heap = s2.heap.push { cls := .type "dict", data := .dict #[] } := by rw [← ht3]
  have lt3 : ∀ b ∈ fp, b < s2.heap.objs.size := fun b hb => by
    obtain ⟨o, e, _⟩ := T.obj _ _ stb b hb
    exact Heap.lt_size e
  have fc : ∀ b ∈ fp, FpOk X pins Hc b ∧ b < t3.heap.objs.size := fun b hb => by
    have hlt := lt3 b hb
    refine ⟨⟨?_, (fb b hb).2⟩, by rw [hh3, Heap.size_push]; exact Nat.lt_succ_of_lt hlt⟩
    rw [← hHc, upd_ne (by rw [← hD]; exact Nat.ne_of_lt hlt)]
    exact (fb b hb).1
  have stc : tn 0 t3.heap := T.keep _ _ _ stb fun b _ o e => by rw [hh3]; exact Heap.get?_push_of_some _ e
  have Id := block_start Ic ok hN fc
  have nfp : ∀ b ∈ fp, Hc b = none := fun b hb => (fc b hb).1.1
  have pg := hg t3 Hc t3.heap.objs.size (cellsFrom (t3.heap.objs.size + 1) scope.names (cloFrom X.env.cells scope.names [])) fp
  have pt := ht t3 Hc t3.heap.objs.size (cellsFrom (t3.heap.objs.size + 1) scope.names (cloFrom X.env.cells scope.names [])) fp
  have pk := hk t3 Hc t3.heap.objs.size (cellsFrom (t3.heap.objs.size + 1) scope.names (cloFrom X.env.cells scope.names [])) fp
  have pe := he t3 Hc t3.heap.objs.size (cellsFrom (t3.heap.objs.size + 1) scope.names (cloFrom X.env.cells scope.names [])) fp
  show codeAny _ _ (.compStart (.DictComp kx vx [⟨tg, iter, ifs, 0⟩] scope pos) 0 (.ref it) (.ref D) (compEnvC scope (cellsFrom (t3.heap.objs.size + 1) scope.names (cloFrom X.env.cells scope.names [])) t3.heap.objs.size X.env)) (compPost (model X.prog X.w) X.A X.xe use Qf (.ref D) t3.heap.objs.size) { t3 with heap := pushCells (t3.heap.push { cls := .type "dict", data := .dict #[] }) scope.names }
  generalize hce : compEnvC scope (cellsFrom (t3.heap.objs.size + 1) scope.names (cloFrom X.env.cells scope.names [])) t3.heap.objs.size X.env = ce at Id pg pt pk pe ⊢
  have cL : ce.locals = t3.heap.objs.size := by subst hce; rfl
  generalize ht4 : ({ t3 with heap := pushCells (t3.heap.push { cls := .type "dict", data := .dict #[] }) scope.names } : Shared) = t4 at Id ⊢
  have std : tn 0 t4.heap := T.keep _ _ _ stc fun b _ o e => by rw [← ht4]; exact pushCells_keeps _ _ _ _ (Heap.get?_push_of_some _ e)
  have still : ∀ {σ' : L2.St} {H' : Hp} {s' : Shared}, Inv (X.blk t3 Hc scope ce fp) [] σ' H' s' → (∀ b ∈ fp, H' b = none) → ∀ b ∈ fp, FpOk (X.blk t3 Hc scope ce fp) [] H' b := fun {σ' H' s'} J' hn b hb =>
    ⟨hn b hb, (J'.ok.exf b hb).1, J'.ok.exfs b hb, .inl hb, fun x c e => (J'.ok.exf b hb).2 x c e, fun z hz => absurd (show z ∈ ([] : List (Addr × Obj)) ++ [] from hz) (by simp)⟩
  have loop : codeAny (model X.prog X.w) X.A (.compLoop (.DictComp kx vx [⟨tg, iter, ifs, 0⟩] scope pos) 0 (.ref it) (.ref D) ce) (compPost (model X.prog X.w) X.A X.xe use Qf (.ref D) t3.heap.objs.size) t4 := by
    refine compLoop_anyD (fun n s' => ∃ i H', Inv (X.blk t3 Hc scope ce fp) [] (L2.wipe σ (own.map (·.2))) H' s' ∧ tn i s'.heap ∧ (∀ b ∈ fp, H' b = none) ∧ W i n H') ?_ m0 ⟨0, Hc, Id, std, nfp, w0⟩
    rintro n s5 ⟨i, H5, I5, st5, n5, w5⟩
    rcases turn i n H5 w5 with ⟨stop, qq⟩ | ⟨go, Nx, hNx, step⟩
    · refine thnF (T.done (X.blk t3 Hc scope ce fp) rfl rfl rfl hc i [] s5 _ H5 (fun _ _ => False) I5 (still I5 n5) st5 stop) fun r s6 ⟨hr, I6⟩ => ?_
      subst hr
      have I7 : Inv X pins σ H5 s6 := Ic.call' (ch := fp) I6.os I6.base I6.hok I6.bare fun b hb => ⟨(fc b hb).1.2.2.2.1, (fc b hb).1.2.1, (fc b hb).1.2.2.2.2.1, (fc b hb).1.2.2.2.2.2⟩
      have nC : H5 ce.locals = none := I6.free
      obtain ⟨m, hn, _⟩ := I6.loc
      have hn : s6.heap.Ns ce.locals m := hn
      rw [cL] at hn nC
      exact hRR D t3.heap.objs.size s6 m H5 I7 qq hn (Ic.fpOk (Nat.le_refl _) nC)
    · refine thnF (T.item (X.blk t3 Hc scope ce fp) rfl rfl rfl hc i [] s5 _ H5 (fun _ _ => False) I5 (still I5 n5) st5 go) fun r s6 ⟨u, hr, h6⟩ => ?_
      subst hr
      refine thnF h6 fun _ s7 ⟨x, H7, I7, r7, y7, st7, n7⟩ => ?_
      refine thnF (pg.run _ s7 _ H7 x u _ (I7.pinned (still I7 n7) (T.obj _ _ st7)) r7 (step x H7 y7)) fun _ s8 ⟨σ8, H8, I8, hw8, q8⟩ => ?_
      refine thnF (pt.run _ s8 σ8 H8 _ I8 q8) fun c s9 ⟨H9, I9, q9⟩ => ?_
      have back : ∀ {s' : Shared} {H' : Hp}, Inv (X.blk t3 Hc scope ce fp) ([] ++ pinsAt fp s7.heap) σ8 H' s' → Nx H' → ∃ m, m < n ∧ ∃ i H', Inv (X.blk t3 Hc scope ce fp) [] (L2.wipe σ (own.map (·.2))) H' s' ∧ tn i s'.heap ∧ (∀ b ∈ fp, H' b = none) ∧ W i m H' := fun {s' H'} J' nx => by
        obtain ⟨m', hm, w'⟩ := hNx H' nx
        have pin' : ∀ b ∈ fp, ∀ o, s7.heap.get? b = some o → s'.heap.get? b = some o ∧ H' b = none := fun b hb o e =>
          ⟨(J'.pin (b, o) (List.mem_append_right _ (List.mem_append_right _ (mem_pinsAt hb e)))).1, (J'.pin (b, o) (List.mem_append_right _ (List.mem_append_right _ (mem_pinsAt hb e)))).2.1⟩
        refine ⟨m', hm, i + 1, H', (J'.unpinned (pins := [])).weak (by rw [← hw8, wipe_length]) (fun j v e => ?_), T.keep _ _ _ st7 fun b hb o e => (pin' b hb o e).1, fun b hb => ?_, w'⟩
        · rw [← hw8] at e
          exact (wipe_some e).1
        · obtain ⟨o, e, _⟩ := T.obj _ _ st7 b hb
          exact (pin' b hb o e).2
      cases c with
      | false =>
        simp only [Bool.false_eq_true, if_false] at q9 ⊢
        exact back I9 q9
      | true =>
        simp only [if_true] at q9 ⊢
        refine thnF (pk.run _ s9 σ8 H9 _ I9 q9) fun z s10 ⟨yk, H10, I10, r10, q10⟩ => ?_
        refine thnF (pe.run _ s10 σ8 H10 _ I10 q10) fun z2 s11 ⟨yv, H11, I11, r11, es, nk, bk, ek, dd, kk, hz11, nx⟩ => ?_
        subst ek
        obtain rfl : z = Value.ref bk := r10
        exact dd_dictSet (X := X.blk t3 Hc scope ce fp) hu I11 dd kk hz11 r11 fun o s12 od I12 => back I12 (nx o od)
  exact codeAny_compStart_dict loop (T.self X.A 0 _ _ _ std loop)
end
end L3
namespace L3
open PySem L2
def kcLoop (h : GM) (t : TM) (fk fv : EM) (vs : List Nat) : List D → List (D × D) → Env → Option (List (D × D) × Env)
  | [], acc, ρ => some (acc, ρ)
  | d :: r, acc, ρ => (h d (wipeE ρ vs)).bind fun ρ1 => (t ρ1).bind fun p => if p.1 then (fk p.2).bind fun q => (fv q.2).bind fun w => (nkT q.1).bind fun n => if acc.length < 16777216 then kcLoop h t fk fv vs r (putE acc q.1 n w.1) w.2 else none
    else kcLoop h t fk fv vs r acc p.2
def nKc (it : LM) (h : GM) (t : TM) (fk fv : EM) (vs : List Nat) : NM := fun ρ => (it ρ).bind fun p => (kcLoop h t fk fv vs p.1 [] p.2).bind fun q => some (.dd q.1, putBack p.2 q.2 vs)
theorem kc_in {K : KW} {g : Gx} {h : GM} {t : TM} {fk fv : EM} {ws vs : List Nat} (sub : ∀ j ∈ ws, j ∈ vs) {σ : L2.St} {J : It} {F1 H1 : Hp} {ρ1 ρE : Env} {ds : List D} {xsE : List (D × D)} (G1 : Gd K g F1 H1 σ ρ1) (w : WalkG K J g F1 ds) (eE : kcLoop h t fk fv vs ds [] ρ1 = some (xsE, ρE)) {Q : VK}
    (q : ∀ l o F' H', Gd K g F' H' σ (putBack ρ1 ρE vs) → Same F1 F' → H' l = some o → F' l = none → g.H0 l = none → g.pin l = none → (∀ i, ¬ OwnAt H' σ (putBack ρ1 ρE vs) i l) → ORep K F' o (.dd xsE) → Q (.ref l) H') :
    ∀ L o0, (L == sysModules) = false → DObj K.w o0 [] → H1 L = none → ∃ W : Nat → Nat → Hp → Prop, (∃ m, W 0 m (upd H1 L (exA L o0))) ∧ ∀ i m H, W i m H →
      (J.stop i H ∧ Q (.ref L) H) ∨ (J.go i H ∧ ∃ Nx : Hp → Prop, (∀ H', Nx H' → ∃ m', m' < m ∧ W (i + 1) m' H') ∧ ∀ x H', J.yld i H x H' → tGx K ws h x (L2.wipe σ vs) H' fun σ2 H2 => L2.wipe σ2 vs = L2.wipe σ vs ∧ tTx K t σ2 H2 fun c H3 =>
        if c = true then tEx K fk σ2 H3 fun y H4 => tEx K fv σ2 H4 fun z H5 => ∃ es n b, y = .ref b ∧ DDAt K H5 L es ∧ IsKey K H5 y n ∧ es.length < sizeLine ∧ ∀ o, DObj K.w o (putN es n b z) → Nx (upd H5 L (exA L o)) else Nx H3) := by
  intro L o0 hm ho0 hL
  obtain ⟨G1', _, fL, nL, pL, _⟩ := fresh_n G1 hL (exA L o0)
  have Gw := G1'.wipe vs
  have noW : ∀ i, ¬ OwnAt (upd H1 L (exA L o0)) (L2.wipe σ vs) (wipeE ρ1 vs) i L := (Gd.fresh (G1.wipe vs) hL (exA L o0)).2.2.2.2
  refine ⟨fun i m H => m = ds.length - i ∧ i ≤ ds.length ∧ ∃ F2 ρ2 acc es o2, Gd K g F2 H (L2.wipe σ vs) (wipeE ρ2 vs) ∧ Same F1 F2 ∧ H L = some (exA L o2) ∧ F2 L = none ∧ (∀ i, ¬ OwnAt H (L2.wipe σ vs) (wipeE ρ2 vs) i L) ∧ DObj K.w o2 es ∧ RepE K F2 es acc ∧ kcLoop h t fk fv vs (ds.drop i) acc ρ2 = some (xsE, ρE),
    ⟨_, rfl, Nat.zero_le _, F1, ρ1, [], [], o0, Gw, Same.refl _, upd_same, fL, noW, ho0, .nil, eE⟩, ?_⟩
  rintro i m H ⟨rfl, hi, F2, ρ2, acc, es, o2, G2, s2, hL2, fL2, no2, ob2, racc, hl⟩
  by_cases hlt : i < ds.length
  · refine .inr ⟨w.go i F2 H _ _ G2 s2 hlt, fun H' => i + 1 ≤ ds.length ∧ ∃ F3 ρ3 acc es o3, Gd K g F3 H' (L2.wipe σ vs) (wipeE ρ3 vs) ∧ Same F1 F3 ∧ H' L = some (exA L o3) ∧ F3 L = none ∧ (∀ i, ¬ OwnAt H' (L2.wipe σ vs) (wipeE ρ3 vs) i L) ∧ DObj K.w o3 es ∧ RepE K F3 es acc ∧ kcLoop h t fk fv vs (ds.drop (i + 1)) acc ρ3 = some (xsE, ρE),
      fun H' p' => ⟨ds.length - (i + 1), by omega, rfl, p'⟩, fun x H' y => ?_⟩
    obtain ⟨d, F3, hd, xt, r⟩ := w.yld i F2 H _ _ x H' G2 s2 hlt y
    have ed : ds.drop i = d :: ds.drop (i + 1) := by
      rw [List.drop_eq_getElem_cons hlt]
      rw [List.getElem?_eq_getElem hlt] at hd
      cases hd; rfl
    rw [ed] at hl
    unfold kcLoop at hl
    obtain ⟨ρ4, e4, hl⟩ := bnd hl
    obtain ⟨⟨b5, ρ5⟩, e5, hl⟩ := bnd hl
    have Gp := (G2.pin hL2 fL2 no2).ext xt
    have r3 : RepE K F3 es acc := racc.mono xt.ff
    have fold : ∀ {σ4 : L2.St} {F6 H6 : Hp} {ρ6 : Env}, L2.wipe σ4 vs = L2.wipe σ vs → Gd K (g.also L (exA L o2)) F6 H6 σ4 ρ6 → Gd K g F6 H6 (L2.wipe σ vs) (wipeE ρ6 vs) ∧ H6 L = some (exA L o2) ∧ F6 L = none ∧ ∀ i, ¬ OwnAt H6 (L2.wipe σ vs) (wipeE ρ6 vs) i L := fun {σ4 F6 H6 ρ6} ew G6 => by
      have z := G6.wipe vs
      rw [ew] at z
      exact z.unpin pL
    refine ⟨g.also L (exA L o2), F3, wipeE ρ2 vs, d, ρ4, Gp, r, e4, fun σ4 G4 w4 => ?_⟩
    have ew : L2.wipe σ4 vs = L2.wipe σ vs := by
      have e1 := wipe_eq (σ := L2.wipe σ vs) (σ' := σ4) (vs := vs) w4.1 fun j hj => w4.2 j fun z => hj (sub j z)
      rw [e1]
      apply List.ext_getElem?
      intro j
      rw [wipe_get, wipe_get, wipe_length]
      by_cases hj : j ∈ vs
      · rw [if_pos hj, if_pos hj]
      · rw [if_neg hj, if_neg hj]
    refine ⟨ew, g.also L (exA L o2), F3, ρ4, b5, ρ5, G4, e5, fun F5 H5 G5 s5 => ?_⟩
    cases b5 with
    | true =>
      refine iteT ?_
      simp only [if_true] at hl
      obtain ⟨⟨k6, ρ6⟩, e6, hl⟩ := bnd hl
      obtain ⟨⟨v7, ρ7⟩, e7, hl⟩ := bnd hl
      obtain ⟨n, e8, hl⟩ := bnd hl
      dsimp only at hl
      split at hl
      · rename_i hsz
        refine ⟨g.also L (exA L o2), F5, ρ5, k6, ρ6, G5, e6, fun y F6 H6 G6 s6 r6 => ⟨g.also L (exA L o2), F6, ρ6, v7, ρ7, G6, e7, fun z F7 H7 G7 s7 r7 => ?_⟩⟩
        obtain ⟨b, eb⟩ := nkT_ref r6 e8
        subst eb
        obtain ⟨G8, l8, f8, n8⟩ := fold ew G7
        have r8 : RepE K F7 es acc := ((r3.mono s5).mono s6).mono s7
        refine ⟨es, n, b, rfl, ⟨L, o2, hm, l8, ob2, r8.keys G7.sub⟩, ⟨F7, k6, G7.sub, r6.mono s7, e8⟩, by rw [r8.length, sizeLine_eq]; exact hsz, fun o3 ob3 => ⟨hlt, F7, ρ7, putE acc k6 n v7, _, o3, G8.updFree f8 nL pL n8, (((s2.trans xt.ff).trans s5).trans s6).trans s7, upd_same, f8, fun j z => n8 j (G8.ownUpd n8 z), ob3, r8.put e8 (r6.mono s7) r7, hl⟩⟩
      · cases hl
    | false =>
      refine iteF ?_
      obtain ⟨G7, l7, f7, n7⟩ := fold ew G5
      exact ⟨hlt, F5, ρ5, acc, es, o2, G7, (s2.trans xt.ff).trans s5, l7, f7, n7, ob2, r3.mono s5, hl⟩
  · have e : i = ds.length := by omega
    subst e
    rw [List.drop_length] at hl
    cases hl
    refine .inl ⟨w.stop _ F2 H _ _ G2 s2 (Nat.le_refl _), q L _ F2 H (G1.unwipe s2 G2) s2 hL2 fL2 nL pL (fun i hi => ?_) (.dd hm ob2 racc)⟩
    by_cases hj : i ∈ vs
    · obtain ⟨l, e1, ⟨⟨t', zs, r1⟩, _⟩ | ⟨t', zs, o, r1, _, _⟩⟩ := hi <;>
      · rw [putBack_get, if_pos hj] at r1
        split at r1
        · obtain ⟨x, ex, _⟩ := keepD_some (Option.some.inj r1)
          cases ex
        · cases r1
    · exact no2 i (hi.to (by rw [wipe_get, if_neg hj]) (by rw [wipeE_get, if_neg hj, putBack_get, if_neg hj]) fun _ _ _ _ _ => rfl)
theorem kc_t {K : KW} {g : Gx} {it : LM} {h : GM} {t : TM} {fk fv : EM} {ws vs : List Nat} (sub : ∀ j ∈ ws, j ∈ vs) {σ : L2.St} {H : Hp} {Q : VK} (q : tN K g (nKc it h t fk fv vs) σ H Q) :
    tKc K (tI K g it) (tGx K ws h) (tTx K t) (tEx K fk) (tEx K fv) vs σ H Q := by
  obtain ⟨F, ρ, d, ρ', G, hf, q⟩ := q
  obtain ⟨⟨ds, ρ1⟩, e0, hf⟩ := bnd hf
  obtain ⟨⟨xsE, ρE⟩, eE, hf⟩ := bnd hf
  cases hf
  refine ⟨F, ρ, ds, ρ1, G, e0, fun J F1 H1 G1 s1 w => ?_⟩
  exact kc_in sub G1 w.toG eE fun l o F' H' G' s' => q l o F' H' G' (s1.trans s')
section
variable {X : Cx} {g : Gx} {kx vx tg iter : Expr} {ifs : List Expr} {scope : Scope} {own : List (Str × Nat)} {pos : Pos} {it : LM} {h : GM} {t : TM} {fk fv : EM} {ws : List Nat}
/-- name = {..} on one line, the name a local -/
theorem ps_setKc {i : Nat} {y : Str} {py spos : Pos} {wi : TI} {gg : TG} {tt : TT} {tk tv : TE} (hu : X.A.units + 9 < cLine) (hc : X.calm = true) (hN : X.N.Nodup) (hy : X.N[i]? = some y) (hyl : X.env.scope.names.lookup y = some .local)
    (hsw : swapsWith (.DictComp kx vx [⟨tg, iter, ifs, 0⟩] scope pos) (some (.Name y py)) spos.line X.env = pure true) (hi : PI X tg iter wi) (ok : BlkOk X.N X.env.scope scope own)
    (hg : ∀ (s : Shared) (H : Hp) (C : Addr) (cl : List (Str × Addr)) (fp : List Addr), PG (X.blk s H scope (compEnvC scope cl C X.env) fp) tg gg) (ht : ∀ (s : Shared) (H : Hp) (C : Addr) (cl : List (Str × Addr)) (fp : List Addr), PTs (X.blk s H scope (compEnvC scope cl C X.env) fp) ifs tt)
    (hk : ∀ (s : Shared) (H : Hp) (C : Addr) (cl : List (Str × Addr)) (fp : List Addr), PE (X.blk s H scope (compEnvC scope cl C X.env) fp) kx tk)
    (he : ∀ (s : Shared) (H : Hp) (C : Addr) (cl : List (Str × Addr)) (fp : List Addr), PE (X.blk s H scope (compEnvC scope cl C X.env) fp) vx tv) (hs : ∀ x, foldedSetIterable iter X.env x = pure x := by intro _; rfl) :
    PS X (.Assign [.Name y py] (.DictComp kx vx [⟨tg, iter, ifs, 0⟩] scope pos) spos) (tAsg (tKc X.kw wi gg tt tk tv (own.map (·.2))) (gName i)) := by
  refine ⟨fun pins s σ H D I h => ?_⟩
  rw [exec_Assign_Name_used _ _ _ _ hsw]
  refine wpAny_bind (wpAny_standAt (wpAny_bind ?_))
  show wpAny _ X.A (do let _ ← comprehension (.DictComp kx vx [⟨tg, iter, ifs, 0⟩] scope pos) scope X.env (firstIterPos [⟨tg, iter, ifs, 0⟩] pos) newDict false (eval iter X.env) (some (assign (.Name y py) X.env))) _ _ s
  have h : tKc X.kw wi gg tt tk tv (own.map (·.2)) σ H (fun x H1 => gName i x σ H1 D.nx) := h
  refine wpAny_bind (thn (kc_core (Qf := fun _ s' => SP X pins D .next s') hu hc hN I hi ok hg ht hk he hs h fun L C s' m H' J q hn f => ?_) fun _ s' hq => wpAny_pure (wpAny_pure hq))
  show wpAny _ _ (assign (.Name y py) X.env (.ref L)) _ _ _
  refine wpAny_assign_Name (store_ok2 (v := V.ref L) J hN hy (.inl hyl) rfl (fun s2 J2 ⟨a, sb, ha⟩ => ?_) (.inr hyl))
  obtain ⟨a0, a1, a2, a3, a4, a5⟩ := f
  have haC : C ≠ a := ha.elim (fun z => z ▸ a1) fun z e => a4 y a z e.symm
  exact ⟨m, hn.sameBut sb haC, fun h3 sb3 => ⟨_, H', J2.turned (t' := s2.toks) (fun b o hb e => (sb3.2 b hb).trans e) a0 a1 a3 a4 a5, q⟩⟩
/-- .. kept as data -/
theorem ds_setKc {i : Nat} {y : Str} {py spos : Pos} (hu : X.A.units + 9 < cLine) (hc : X.calm = true) (hN : X.N.Nodup) (hy : X.N[i]? = some y) (hyl : X.env.scope.names.lookup y = some .local)
    (hsw : swapsWith (.DictComp kx vx [⟨tg, iter, ifs, 0⟩] scope pos) (some (.Name y py)) spos.line X.env = pure true) (hi : DI X g tg iter it) (ok : BlkOk X.N X.env.scope scope own)
    (hg : ∀ (s : Shared) (H : Hp) (C : Addr) (cl : List (Str × Addr)) (fp : List Addr) (g : Gx), DG (X.blk s H scope (compEnvC scope cl C X.env) fp) g tg ws h)
    (ht : ∀ (s : Shared) (H : Hp) (C : Addr) (cl : List (Str × Addr)) (fp : List Addr) (g : Gx), DTs (X.blk s H scope (compEnvC scope cl C X.env) fp) g ifs t)
    (hk : ∀ (s : Shared) (H : Hp) (C : Addr) (cl : List (Str × Addr)) (fp : List Addr) (g : Gx), DE (X.blk s H scope (compEnvC scope cl C X.env) fp) g kx fk)
    (he : ∀ (s : Shared) (H : Hp) (C : Addr) (cl : List (Str × Addr)) (fp : List Addr) (g : Gx), DE (X.blk s H scope (compEnvC scope cl C X.env) fp) g vx fv)
    (sub : ∀ j ∈ ws, j ∈ own.map (·.2)) (hs : ∀ x, foldedSetIterable iter X.env x = pure x := by intro _; rfl) :
    DS X g (.Assign [.Name y py] (.DictComp kx vx [⟨tg, iter, ifs, 0⟩] scope pos) spos) (sSetN i (nKc it h t fk fv (own.map (·.2)))) :=
  weakPS (ps_setKc (gg := tGx X.kw ws h) (tt := tTx X.kw t) (tk := tEx X.kw fk) (tv := tEx X.kw fv) hu hc hN hy hyl hsw hi ok (fun s H C cl fp => pgx (hg s H C cl fp)) (fun s H C cl fp => ptsx (ht s H C cl fp)) (fun s H C cl fp => pex (hk s H C cl fp)) (fun s H C cl fp => pex (he s H C cl fp)) hs) fun D σ H ⟨F, ρ, o, ρ', G, hf, q⟩ => by
  obtain ⟨p, e, hf⟩ := bnd hf
  cases hf
  refine kc_t sub ⟨F, ρ, p.1, p.2, G, e, fun l vs F' H' G' s h1 h2 h3 h4 h5 h6 => ?_⟩
  have sm' : Same F' (upd F' l vs) := fun b u e => by rw [upd_ne (ne_of_none e h2)]; exact e
  exact q _ _ H' ((G'.freeze h1 h2 h3 h4 h5).setD i ((h6.mono sm').rep upd_same)) (s.trans sm')
theorem sw_trueD {kx vx : Expr} {gs : List Comprehension} {scope : Scope} {pos py : Pos} {y : Str} {l : Nat} {env : PySem.Env} (hk : env.scope.kind = .function) (hy : env.scope.names.lookup y = some .local) (hl : (py.line == pos.line) = true)
    (ha : (scope.names.any fun (n, k) => n == y && (k == .local || k == .cell)) = false) : swapsWith (.DictComp kx vx gs scope pos) (some (.Name y py)) l env = pure true := by
  have ky : env.kindOf y = some .local := hy
  have hb : env.blockKind = .function := by unfold Env.blockKind; rw [hk]; rfl
  unfold swapsWith
  simp only [hb, ky, ha, Expr.pos, hl]
  rfl
end
end L3
namespace L3
open PySem L2
def ePopO (i : Nat) : EM := fun ρ => (ownL ρ i).bind fun w => w.2[w.2.length - 1]?.bind fun y => some (y, ρ.set i (some (.own w.1 (.lst w.2.dropLast))))
theorem de_popO {X : Cx} {g : Gx} {ex : Expr} {i : Nat} (h : PE X ex (tBM0 X.kw "list" rPop (tVar i))) : DE X g ex (ePopO i) := weakPE h fun σ H Q ⟨F, ρ, d, ρ', G, hf, q⟩ => by
  obtain ⟨⟨t, xs⟩, e0, hf⟩ := bnd hf
  obtain ⟨y, ey, hf⟩ := bnd hf
  cases hf
  have hx : ρ[i]? = some (some (.own t (.lst xs))) := by
    unfold ownL at e0
    split at e0
    · rename_i hx; cases e0; exact hx
    · cases e0
  obtain ⟨l, o, hv, _, fl, hl, r⟩ := G.slot i _ hx
  obtain ⟨ws, rfl, r4⟩ := ownLst r
  obtain ⟨u, hu, ru⟩ := r4.get ey
  exact ⟨_, hv, .inl ⟨rfl, _, SqL.of hl⟩, l, ws, u, rfl, rfl, hl, by rw [r4.length]; exact hu, q u F _ (G.updOwn hx hv (.lst r4.dropLast)) (Same.refl _) ru⟩
section
variable {ρ : Env} {Q : D × Env → Prop} {i : Nat} {fk fv fx fd : EM} {QS : Out × Env → Prop} {QL : List D × Env → Prop}
theorem x_ePopO : Ex (ePopO i ρ) Q = Ex (ownL ρ i) fun w => Ex (w.2[w.2.length - 1]?) fun y => Q (y, ρ.set i (some (.own w.1 (.lst w.2.dropLast)))) := by
  simp only [ex_eq]
  unfold ePopO
  simp only [ex0_bind, ex0_some]
theorem x_nKDsp : Ex (nKDsp fk fv ρ) Q = Ex (fk ρ) fun p => Ex (fv p.2) fun q => Ex (nkT p.1) fun n => Q (.dd [(p.1, q.1)], q.2) := by
  simp only [ex_eq]
  unfold nKDsp
  simp only [ex0_bind, ex0_some]
theorem x_sPutE : Ex (sPutE i fv fk ρ) QS = Ex (fv ρ) fun p => isOwn p.2 i = true ∧ Ex (fk p.2) fun q => Ex (ddSlot q.2 i) fun w => Ex (nkT q.1) fun n => w.2.length < 16777216 ∧ QS (.nx, q.2.set i (some (.own w.1 (.dd (putE w.2 q.1 n p.1))))) := by
  simp only [ex_eq]
  unfold sPutE
  simp only [ex0_bind, ex0_some, ex0_guard]
def ddD : D → Option (List (D × D))
  | .dd ds => some ds
  | _ => none
theorem ddD_d {ds : List (D × D)} : ddD (.dd ds) = some ds := rfl
theorem x_nKc {it : LM} {h : GM} {t : TM} {vs : List Nat} : Ex (nKc it h t fk fv vs ρ) Q = Ex (it ρ) fun p => Ex (kcLoop h t fk fv vs p.1 [] p.2) fun q => Q (.dd q.1, putBack p.2 q.2 vs) := by
  simp only [ex_eq]
  unfold nKc
  simp only [ex0_bind, ex0_some]
end
theorem kKIn_d {neg : Bool} {a : D} {ds : List (D × D)} : kKIn neg a (.dd ds) = (nkT a).bind fun n => some (.bl (if neg then !(getE ds n).isSome else (getE ds n).isSome)) := rfl
/-- the loop of a dict comprehension by an invariant -/
theorem ex_kcI {h : GM} {t : TM} {fk fv : EM} {vs : List Nat} {Q : List (D × D) × Env → Prop} (xs : List D) (I : Nat → List (D × D) → Env → Prop) {ρ : Env} (h0 : I 0 [] (wipeE ρ vs))
    (step : ∀ (i : Nat) (x : D) (acc : List (D × D)) ρ, xs[i]? = some x → I i acc ρ → Ex (h x ρ) fun ρ1 => Ex (t ρ1) fun p =>
      (p.1 = true → Ex (fk p.2) fun q => Ex (fv q.2) fun w => Ex (nkT q.1) fun n => acc.length < 16777216 ∧ I (i + 1) (putE acc q.1 n w.1) (wipeE w.2 vs)) ∧ (p.1 = false → I (i + 1) acc (wipeE p.2 vs)))
    (fi : ∀ acc ρ', I xs.length acc (wipeE ρ' vs) → Q (acc, ρ')) : Ex (kcLoop h t fk fv vs xs [] ρ) Q := by
  suffices H : ∀ (ys : List D) (i : Nat) (acc : List (D × D)) (ρ : Env), ys = xs.drop i → i ≤ xs.length → I i acc (wipeE ρ vs) → Ex (kcLoop h t fk fv vs ys acc ρ) Q from H xs 0 [] ρ rfl (Nat.zero_le _) h0
  intro ys
  induction ys with
  | nil =>
    intro i acc ρ e hi hI
    have : i = xs.length := by
      have := congrArg List.length e
      rw [List.length_nil, List.length_drop] at this
      omega
    subst this
    exact ⟨(acc, ρ), rfl, fi acc ρ hI⟩
  | cons y ys ih =>
    intro i acc ρ e hi hI
    have hlt : i < xs.length := by
      have := congrArg List.length e
      rw [List.length_cons, List.length_drop] at this
      omega
    have hx : xs[i]? = some y := by
      have e2 := congrArg (fun l => l[0]?) e
      simpa using e2.symm
    have ey : ys = xs.drop (i + 1) := by
      have := congrArg List.tail e
      simpa using this
    have q := step i y acc _ hx hI
    simp only [ex_eq] at q ⊢
    unfold kcLoop
    obtain ⟨ρ1, e1, ⟨b, ρ2⟩, e2, q1, q2⟩ := q
    rw [e1, Option.bind_some, e2, Option.bind_some]
    cases b with
    | true =>
      obtain ⟨⟨k, ρ3⟩, e3, ⟨v, ρ4⟩, e4, n, e5, hz, hI'⟩ := q1 rfl
      dsimp only at e3 e4 e5 hz hI' ⊢
      rw [if_pos rfl, e3, Option.bind_some]
      dsimp only
      rw [e4, Option.bind_some, e5, Option.bind_some, if_pos hz]
      exact ih (i + 1) _ ρ4 ey hlt hI'
    | false =>
      dsimp only at q2 ⊢
      rw [if_neg (by simp)]
      exact ih (i + 1) _ ρ2 ey hlt (q2 rfl)
end L3
namespace L3
open PySem L2
/-- the written ones (true) and the defaults (false), in the order of the parameters -/
def mrg {α : Type} : List Bool → List α → List α → List α
  | true :: r, ms, z :: zs => z :: mrg r ms zs
  | false :: r, m :: ms, zs => m :: mrg r ms zs
  | _, _, _ => []
theorem mrg_vals : ∀ (pat : List Bool) {ms zs : List V} {mv ws : List Value}, Vals ms mv → Vals zs ws → Vals (mrg pat ms zs) (mrg pat mv ws)
  | [], _, _, _, _, _, _ => by unfold mrg; exact .nil
  | true :: r, _, _, _, _, h1, .cons q h2 => by unfold mrg; exact .cons q (mrg_vals r h1 h2)
  | true :: r, _, _, _, _, h1, .nil => by unfold mrg; exact .nil
  | false :: r, _, _, _, _, .cons q h1, h2 => by unfold mrg; exact .cons q (mrg_vals r h1 h2)
  | false :: r, _, _, _, _, .nil, h2 => by unfold mrg; exact .nil
theorem mrg_reps {K : KW} {F : Hp} : ∀ (pat : List Bool) {ms zs : List V} {ds es : List D}, Reps K F ms ds → Reps K F zs es → Reps K F (mrg pat ms zs) (mrg pat ds es)
  | [], _, _, _, _, _, _ => by unfold mrg; exact .nil
  | true :: r, _, _, _, _, h1, .cons q h2 => by unfold mrg; exact .cons q (mrg_reps r h1 h2)
  | true :: r, _, _, _, _, h1, .nil => by unfold mrg; exact .nil
  | false :: r, _, _, _, _, .cons q h1, h2 => by unfold mrg; exact .cons q (mrg_reps r h1 h2)
  | false :: r, _, _, _, _, .nil, h2 => by unfold mrg; exact .nil
theorem opds_val {K : KW} {F : Hp} {σ : L2.St} : ∀ {vs : List V} {ds : List D}, Reps K F vs ds → OpdsOk K F σ vs (ds.map Opd.val)
  | _, _, .nil => .nil
  | _, _, .cons h r => .cons h (opds_val r)
/-- some of the keyword-only parameters are written: ks; ms the defaults of the others -/
structure DoneM (K : PySem.W.Frag) (ps : List Str) (n : Nat) (ks : List Str) (pat : List Bool) (ms : List V) (fd : FuncData) : Prop where
  kb : ∃ mv : List Value, KBn K fd ps n ks (fun us ws => us ++ mrg pat mv ws) (fun vs zs => vs ++ mrg pat ms zs)
theorem kbSub {K : PySem.W.Frag} {x qual : Str} {params : Arguments} {body : List Stmt} {scope : Scope} {kws : List (Str × V)} {f : Addr} {fd : FuncData} {ps : List Str} (F : FunD K x qual params body scope [] kws f fd) (n : Nat) (ks : List Str) (pat : List Bool) (ms : List (Str × V)) (hk : kws ≠ []) (hms : ∀ q ∈ ms, q ∈ kws)
    (h : ∀ (D : Addr) (doc pm : Value) (an : Option Addr) (cdv ct : Value) (us mv ws : List Value), us.length = n → mv.length = ms.length → ws.length = ks.length →
      KwChain D ((ms.map (·.1)).zip mv) (bindArgs (PySem.W.fnOf x qual params body scope .none (.ref D) doc pm an cdv ct) ⟨us, ks.zip ws⟩) (ps.zip (us ++ mrg pat mv ws))) : DoneM K ps n ks pat (ms.map (·.2)) fd :=
  ⟨FunD.kbinds0 (ps := ps) F n ks ms (fun us mv ws => us ++ mrg pat mv ws) hk hms (fun r1 r2 r3 => r1.append (mrg_vals pat r2 r3)) h⟩
def nMakeK (C : Addr) (pat : List Bool) (dds : List D) (m : Nat) (fm : FM) (fa fk : AM) : NM := fun ρ => (fa ρ).bind fun p => (fk p.2).bind fun q => (valsOf q.1).bind fun zs => if zs.length = m then
  (callO fm [] (.io q.2.length :: (p.1 ++ (mrg pat dds zs).map Opd.val)) (q.2 ++ [some (.own none (.ins C []))])).bind (makK q.2.length) else none
section
variable {X : Cx} {g : Gx} {ex : Expr} {C : Addr} {n m : Nat} {pat : List Bool} {ms : List V} {dds : List D} {fm : FM} {fa fk : AM} {E : XK}
theorem dn_makeK (hdd : ∀ F, Reps X.kw F ms dds) (h : PE X ex (tMakeK C n m (spF X.kw fm) (fun vs zs => vs ++ mrg pat ms zs) E (tA X.kw g fa) (tA X.kw g fk))) (hn : LenA fa n) : DN X g ex (nMakeK C pat dds m fm fa fk) := weakPE h fun σ H Q ⟨F, ρ, d, ρ', G, hf, q⟩ => by
  obtain ⟨p, e1, hf⟩ := bnd hf
  obtain ⟨p2, e2, hf⟩ := bnd hf
  obtain ⟨zs, e3, hf⟩ := bnd hf
  split at hf
  · rename_i hz
    refine ⟨F, ρ, p.1, p.2, G, e1, fun vs F1 H1 G1 s1 r1 => ⟨F1, p.2, p2.1, p2.2, G1, e2, fun us F2 H2 G2 s2 r2 => ?_⟩⟩
    have rz := valsOk r2 e3
    refine ⟨by rw [r1.length, hn _ _ _ e1], by rw [rz.length]; exact hz, fun x dx hx hd ne => ?_⟩
    have h1 := make_h (C := C) (E := E) (dvs := []) (dds := []) (fun _ => .nil) G2 (OpdsOk.app (r1.mono s2) (opds_val (mrg_reps pat (hdd F2) rz))) hf (fun l o F' H' G' s' => q l o F' H' G' ((s1.trans s2).trans s')) hx hd ne
    rw [List.append_nil] at h1
    exact h1
  · cases hf
end
section
variable {ρ : Env} {Q : D × Env → Prop} {C : Addr} {n m : Nat} {pat : List Bool} {dds : List D} {fm : FM} {fa fk : AM}
theorem x_nMakeK : Ex (nMakeK C pat dds m fm fa fk ρ) Q = Ex (fa ρ) fun p => Ex (fk p.2) fun q => Ex (valsOf q.1) fun zs => zs.length = m ∧
    Ex (callO fm [] (.io q.2.length :: (p.1 ++ (mrg pat dds zs).map Opd.val)) (q.2 ++ [some (.own none (.ins C []))])) fun r => isNon r.1 = true ∧ Ex (ownNew r.2.2 q.2.length) fun x => (r.2.1 = true ∨ lfo x = true) ∧ Q (x, r.2.2.take q.2.length) := by
  simp only [ex_eq]
  unfold nMakeK
  simp only [ex0_bind, ex0_guard]
  congr 1; funext p; congr 1; funext q; congr 1; funext zs; congr 1; congr 1; funext r
  have := @x_makK Q q.2.length r
  simp only [ex_eq] at this
  exact this
theorem mrg_t {α : Type} {r : List Bool} {ms zs : List α} {z : α} : mrg (true :: r) ms (z :: zs) = z :: mrg r ms zs := rfl
theorem mrg_f {α : Type} {r : List Bool} {ms zs : List α} {m : α} : mrg (false :: r) (m :: ms) zs = m :: mrg r ms zs := rfl
theorem mrg_nil {α : Type} {ms zs : List α} : mrg [] ms zs = [] := rfl
end
end L3
namespace L3
open PySem PySem.Spec PyProof.Rows L2
end L3
namespace L3
open PySem PySem.Spec PyProof.Rows L2
def nDNew : NM := fun ρ => some (.dk [], ρ)
section
variable {X : Cx} {g : Gx} {pos : PySem.Pos}
theorem dn_dnew : DN X g (.Dict [] [] pos) nDNew := weakPE pe_dnewK fun σ H Q ⟨F, ρ, d, ρ', G, hf, q⟩ => by
  cases hf
  intro p hp
  obtain ⟨h1, h2, h3, h4, h5⟩ := G.fresh hp (.dK [])
  exact q p _ F _ h1 (Same.refl _) upd_same h2 h3 h4 h5 (.dk .nil)
end
theorem x_nDNew {ρ : Env} {Q : D × Env → Prop} : Ex (nDNew ρ) Q = Q (.dk [], ρ) := by
  simp only [ex_eq]
  unfold nDNew; simp only [ex0_some]
def eDGet2O (i : Nat) (fk fx : EM) : EM := fun ρ => (ownK ρ i).bind fun w0 => (fk ρ).bind fun q => (L3.keyOf q.1).bind fun k => (fx q.2).bind fun r => (ownK r.2 i).bind fun w => some ((valD w.2 k).getD r.1, r.2)
theorem ownK_slot {ρ : Env} {i : Nat} {w : Option Nat × List (Key × D)} (h : ownK ρ i = some w) : ρ[i]? = some (some (.own w.1 (.dk w.2))) := by
  unfold ownK at h
  split at h
  · rename_i e; cases h; exact e
  · cases h
section
variable {X : Cx} {g : Gx}
theorem de_dget2O {i : Nat} {x : PySem.Str} {p : PySem.Pos} {e f : Expr} {apos cpos : PySem.Pos} {fk fx : EM} (hu : X.A.units + 1 < cLine) (ho : PE X (.Name x p) (tVar i)) (he : DE X g e fk) (hf : DE X g f fx) (m : M2 X (.Name x p) "get" apos e f cpos) : DE X g (.Call (.Attribute (.Name x p) "get" apos) [e, f] [] cpos) (eDGet2O i fk fx) :=
  weakPE (pe_dget2 hu ho he hf m) fun σ H Q ⟨F, ρ, d, ρ', G, hf, q⟩ => by
  obtain ⟨w0, e0, hf⟩ := bnd hf
  obtain ⟨⟨b, ρ2⟩, e2, hf⟩ := bnd hf
  obtain ⟨k, e3, hf⟩ := bnd hf
  obtain ⟨⟨c, ρ3⟩, e4, hf⟩ := bnd hf
  obtain ⟨w1, e5, hf⟩ := bnd hf
  cases hf
  obtain ⟨l, u, hl, _, _, hu', r⟩ := G.slot i _ (ownK_slot e0)
  cases r with
  | dk r0 =>
    refine ⟨_, hl, _, rfl, .inl ⟨_, .inl hu'⟩, F, ρ, b, ρ2, G, e2, fun w F2 H2 G2 s2 r2 => ⟨F2, ρ2, c, _, G2, e4, fun z F3 H3 G3 s3 r3 => ?_⟩⟩
    obtain ⟨l', u', hl', _, _, hu3, r'⟩ := G3.slot i _ (ownK_slot e5)
    have el : l' = l := by
      rw [hl] at hl'
      cases hl'
      rfl
    subst el
    cases r' with
    | dk r1 =>
      have ew := keyOf_kV2 (r2.mono s3) e3
      subst ew
      refine ⟨_, DGet.k hu3, ?_⟩
      obtain ⟨k1, k2⟩ := RepK.valV r1 k
      cases hv : valD w1.2 k with
      | some d' =>
        obtain ⟨v', e6, r6⟩ := k1 d' hv
        rw [e6]
        rw [hv] at q
        exact q v' F3 H3 G3 (s2.trans s3) r6
      | none =>
        rw [k2 hv]
        rw [hv] at q
        exact q z F3 H3 G3 (s2.trans s3) r3
end
theorem x_eDGet2O {i : Nat} {fk fx : EM} {ρ : Env} {Q : D × Env → Prop} : Ex (eDGet2O i fk fx ρ) Q = Ex (ownK ρ i) fun w0 => Ex (fk ρ) fun q => Ex (L3.keyOf q.1) fun k => Ex (fx q.2) fun r => Ex (ownK r.2 i) fun w => Q ((valD w.2 k).getD r.1, r.2) := by
  simp only [ex_eq]
  unfold eDGet2O; simp only [ex0_bind, ex0_some]
end L3
namespace L3
open PySem PySem.Spec PyProof.Rows L2
def kNeSc : D → D → Option D
  | .scr ns, .lst [] => if sh 64 (.lst (ns.map D.int)) = true then some (.bl (!ns.isEmpty)) else none
  | _, _ => none
theorem dp_ints {K : KW} {H : Hp} : ∀ {ns : List Int} {zs : List PyData}, toPys (ns.map D.int) = some zs → DpAll K H (ns.map V.int) zs
  | [], _, e => by cases e; exact .nil
  | i :: ns, _, e => by
    obtain ⟨z, e1, e⟩ := bnd e
    obtain ⟨zs, e2, e⟩ := bnd e
    cases e
    cases e1
    exact .cons (.int i) (dp_ints e2)
theorem ok_neSc {K : KW} : Op2 K (rNeD K) kNeSc := by
  intro F H v u a b c Q s ra rb e q
  unfold kNeSc at e
  split at e
  · rename_i ns
    split at e
    · rename_i hs
      cases e
      cases ra with
      | scr h1 =>
        cases rb with
        | lst h3 h4 =>
          cases h4
          obtain ⟨x, e1, e2, e3⟩ := sh_ok 64 _ hs
          have hp : toPy (.lst (ns.map D.int)) = some x := e1
          obtain ⟨zs, f1, f2⟩ := bnd hp
          cases f2
          refine ⟨_, _, .lst (s.seq h1) (dp_ints f1), .lst (SqL.of (s _ _ h3)) .nil, by unfold SeqAt.shaped; simp [e2, e3], by decide, ?_⟩
          have hv : PyData.eqv (.list zs) (.list []) = ns.isEmpty := by
            have := dEq_ok (.lst (ns.map D.int)) (.lst []) hp (show toPy (.lst []) = some (.list []) from rfl)
            rw [this]
            show dEqs (ns.map D.int) [] = _
            cases ns <;> rfl
          rw [hv]
          exact q _ F H (Ext.refl s) .bl
    · cases e
  · cases e
end L3
namespace My
open PySem L2 L3
/-- slots: 0 value, 1 least, 2 most -/
def B_is_integer : SM :=
  sRet (eAnd (eL (kIsi []) (aC (oV (eV 0)) (aC (oV (eC (.bty "int"))) (aN)))) (eAnd (eNot (eL (kIsi []) (aC (oV (eV 0)) (aC (oV (eC (.bty "bool"))) (aN))))) (eChain kLe kLe (oV (eV 1)) (oV (eV 0)) (oV (eV 2)))))
def f_is_integer : FM := mkF 3 3 (B_is_integer)
/-- slots: 0 word -/
def B_targets_at : SM :=
  sRet (eIf (tV (e2 kEq (oV (eV 0)) (oV (eC (.str "drain"))))) (eC (.int 1)) (eC (.int 2)))
def f_targets_at : FM := mkF 1 1 (B_targets_at)
def B_is_row_1 : SM :=
  sIf (tOr' (tNt (tV (eL (kIsi []) (aC (oV (eV 0)) (aC (oV (eC (.bty "tuple"))) (aN)))))) (tOr' (tV (e2 kEq (oV (eL kLen (aC (oV (eV 0)) (aN)))) (oV (eC (.int 0))))) (tOr' (tNt (tV (eL (kIsi []) (aC (oV (e2 kIx (oV (eV 0)) (oV (eC (.int 0))))) (aC (oV (eC (.bty "str"))) (aN)))))) (tV (e2 (kIn true) (oV (e2 kIx (oV (eV 0)) (oV (eC (.int 0))))) (oV (eC (.ktp [.str "write", .str "read", .str "drain", .str "stop", .str "close", .str "abort", .str "done", .str "fail"])))))))) (sRet (eC (.bl false))) (sNx)
def B_is_row_2 : SM :=
  sIf (tV (e2 kNe (oV (eL kLen (aC (oV (eV 0)) (aN)))) (oV (eKGet [("write", .int 3), ("read", .int 4), ("drain", .int 2)] (eV 3) (eC (.int 1)))))) (sRet (eC (.bl false))) (sNx)
def B_is_row_3 : SM :=
  sIf (tAn (tV (e2 (kIn false) (oV (eV 3)) (oV (eTup (aC (oV (eC (.str "write"))) (aC (oV (eC (.str "read"))) (aN))))))) (tNt (tV (eCall (f_is_integer) [] (aC (oV (e2 kIx (oV (eV 0)) (oV (eC (.int 1))))) (aC (oV (eC (.int 1))) (aC (oV (eC (.int 1000000000000000000))) (aN)))))))) (sRet (eC (.bl false))) (sNx)
def B_is_row_4 : SM :=
  sRet (eL kAll (aC (oV (nLc (itT (eSl (oV (eV 0)) (bS (eCall (f_targets_at) [] (aC (oV (eV 3)) (aN)))) (bN))) (gN 4) (tYs) (eCall (f_is_integer) [] (aC (oV (eV 4)) (aC (oV (e2 kAdd (oV (eV 1)) (oV (eC (.int 1))))) (aC (oV (e2 kSub (oV (eV 2)) (oV (eC (.int 1))))) (aN))))) [4])) (aN)))
/-- slots: 0 value, 1 index, 2 many, 3 word, 4 target -/
def B_is_row : SM :=
  sSeq (B_is_row_1)
    (sSeq (sSet 3 (e2 kIx (oV (eV 0)) (oV (eC (.int 0)))))
    (sSeq (B_is_row_2)
    (sSeq (B_is_row_3)
    (B_is_row_4))))
def f_is_row : FM := mkF 3 5 (B_is_row)
def B_c_Program_init_1 : SM :=
  sIf (tOr' (tNt (tV (eL (kIsiT []) (aC (oV (eV 1)) (aC (oV (eTup (aC (oV (eC (.bty "list"))) (aC (oV (eC (.bty "tuple"))) (aN))))) (aN)))))) (tNt (tV (eChain kLe kLe (oV (eC (.int 1))) (oV (eL kLen (aC (oV (eV 1)) (aN)))) (oV (eC (.int 24))))))) (sNo) (sNx)
def B_c_Program_init_2 : SM :=
  sFor (itE (aC (oV (eV 1)) (aN))) (gTp 2 (gsCons (gN 2) (gsCons (gN 3) (gsNil)))) (sIf (tNt (tV (eCall (f_is_row) [] (aC (oV (eV 3)) (aC (oV (eV 2)) (aC (oV (eL kLen (aC (oV (eV 1)) (aN)))) (aN))))))) (sNo) (sNx))
def B_c_Program_init_3 : SM :=
  sIf (tV (e2 (kIn true) (oV (e2 kIx (oV (e2 kIx (oV (eV 1)) (oV (e1 kNeg (oV (eC (.int 1))))))) (oV (eC (.int 0))))) (oV (eC (.ktp [.str "done", .str "fail"]))))) (sNo) (sNx)
/-- slots: 0 self, 1 rows, 2 index, 3 row -/
def B_c_Program_init (C_Program : Addr) : SM :=
  sSeq (B_c_Program_init_1)
    (sSeq (B_c_Program_init_2)
    (sSeq (B_c_Program_init_3)
    (sFld' 0 C_Program "listed" (eL kTuple (aC (oV (eV 1)) (aN))))))
def f_c_Program_init (C_Program : Addr) : FM := mkF 2 4 (B_c_Program_init C_Program)
/-- slots: 0 self, 1 listing, 2 row, 3 hand, 4 heard, 5 part, 6 told, 7 had, 8 replies -/
def B_c_Side_init (C_Side : Addr) : SM :=
  sSeq (sFld' 0 C_Side "listing" (eV 1))
    (sSeq (sFld' 0 C_Side "row" (eV 2))
    (sSeq (sFld' 0 C_Side "hand" (eV 3))
    (sSeq (sFld' 0 C_Side "heard" (eV 4))
    (sSeq (sFld' 0 C_Side "part" (eV 5))
    (sSeq (sFld' 0 C_Side "told" (eV 6))
    (sSeq (sFld' 0 C_Side "had" (eV 7))
    (sFld' 0 C_Side "replies" (eV 8))))))))
def f_c_Side_init (C_Side : Addr) : FM := mkF 9 9 (B_c_Side_init C_Side)
/-- slots: 0 self -/
def B_c_Program_rows (C_Program : Addr) : SM :=
  sRet (e1 (kFld C_Program "listed") (oV (eV 0)))
def f_c_Program_rows (C_Program : Addr) : FM := mkF 1 1 (B_c_Program_rows C_Program)
def B_sides_of_1 (C_Program : Addr) (C_Side : Addr) : SM :=
  sApp 3 (nMakeK C_Side [true, true, true, false, true, true, false] [.int 0, .ktp []] 5 (f_c_Side_init C_Side) (aC (oV (eProp C_Program (f_c_Program_rows C_Program) [] (oV (eV 4)))) (aN)) (aC (oV (e2 kIx (oV (eV 5)) (oV (eC (.int 0))))) (aC (oV (e2 kIx (oV (eV 5)) (oV (eC (.int 1))))) (aC (oV (e2 kIx (oV (eV 5)) (oV (eC (.int 2))))) (aC (oV (e2 kIx (oV (eV 5)) (oV (eC (.int 3))))) (aC (oV (e2 kIx (oV (eV 5)) (oV (eC (.int 4))))) (aN)))))))
def B_sides_of_2 (C_Program : Addr) (C_Side : Addr) : SM :=
  sFor (itT (eTup (aC (oV (eTup (aC (oV (eV 0)) (aC (oV (e2 kIx (oV (eV 2)) (oV (eC (.int 0))))) (aN))))) (aC (oV (eTup (aC (oV (eV 1)) (aC (oV (e2 kIx (oV (eV 2)) (oV (eC (.int 1))))) (aN))))) (aN))))) (gTp 2 (gsCons (gN 4) (gsCons (gN 5) (gsNil)))) (B_sides_of_1 C_Program C_Side)
/-- slots: 0 first, 1 second, 2 stand, 3 found, 4 program, 5 part -/
def B_sides_of (C_Program : Addr) (C_Side : Addr) : SM :=
  sSeq (sOwn 3 (nLst (aN)))
    (sSeq (B_sides_of_2 C_Program C_Side)
    (sRetO 3))
def f_sides_of (C_Program : Addr) (C_Side : Addr) : FM := mkF 3 6 (B_sides_of C_Program C_Side)
/-- slots: 0 self -/
def B_c_Side_has_ended (C_Side : Addr) : SM :=
  sRet (eL (kIsi []) (aC (oV (e1 (kFld C_Side "row") (oV (eV 0)))) (aC (oV (eC (.bty "str"))) (aN))))
def f_c_Side_has_ended (C_Side : Addr) : FM := mkF 1 1 (B_c_Side_has_ended C_Side)
/-- slots: 0 self -/
def B_c_Side_word (C_Side : Addr) : SM :=
  sRet (eIf (tV (eMeth C_Side "has_ended" (f_c_Side_has_ended C_Side) [] (oV (eV 0)) aN)) (eC (.str "")) (e2 kIx (oV (e2 kIx (oV (e1 (kFld C_Side "listing") (oV (eV 0)))) (oV (e1 (kFld C_Side "row") (oV (eV 0)))))) (oV (eC (.int 0)))))
def f_c_Side_word (C_Side : Addr) : FM := mkF 1 1 (B_c_Side_word C_Side)
/-- slots: 0 self, 1 changes, 2 values -/
def B_c_Side_after (C_Side : Addr) : SM :=
  sSeq (sSet 2 (nDspM [(eC (.str "row"), e1 (kFld C_Side "row") (oV (eV 0))), (eC (.str "hand"), e1 (kFld C_Side "hand") (oV (eV 0))), (eC (.str "heard"), e1 (kFld C_Side "heard") (oV (eV 0))), (eC (.str "part"), e1 (kFld C_Side "part") (oV (eV 0))), (eC (.str "told"), e1 (kFld C_Side "told") (oV (eV 0))), (eC (.str "had"), e1 (kFld C_Side "had") (oV (eV 0))), (eC (.str "replies"), e1 (kFld C_Side "replies") (oV (eV 0)))] (eV 1)))
    (sRetN (nMakeD C_Side ["row", "hand", "heard", "part", "told", "had", "replies"] (f_c_Side_init C_Side) (aC (oV (e1 (kFld C_Side "listing") (oV (eV 0)))) (aN)) (oV (eV 2))))
def f_c_Side_after (C_Side : Addr) : FM := mkF 2 3 (B_c_Side_after C_Side)
/-- slots: 0 self, 1 word, 2 goal -/
def B_c_Side_passed (C_Side : Addr) : SM :=
  sSeq (sSet 1 (eMeth C_Side "word" (f_c_Side_word C_Side) [] (oV (eV 0)) aN))
    (sSeq (sSet 2 (eIf (tV (e2 (kIn false) (oV (eV 1)) (oV (eC (.ktp [.str "done", .str "fail"]))))) (eV 1) (e2 kAdd (oV (e1 (kFld C_Side "row") (oV (eV 0)))) (oV (eC (.int 1))))))
    (sRet (eKw C_Side "after" ["row", "hand"] (f_c_Side_after C_Side) (eV 0) (aC (oV (eV 2)) (aC (oV (eTGet tabX (eTup (aC (oV (eV 1)) (aC (oV (e1 (kFld C_Side "hand") (oV (eV 0)))) (aN)))) (e1 (kFld C_Side "hand") (oV (eV 0))))) (aN))))))
def f_c_Side_passed (C_Side : Addr) : FM := mkF 1 3 (B_c_Side_passed C_Side)
/-- slots: 0 self -/
def B_c_Side_has_given (C_Side : Addr) : SM :=
  sRet (e2 (kIn false) (oV (e1 (kFld C_Side "hand") (oV (eV 0)))) (oV (eC (.ktp [.str "closed", .str "aborted", .str "cut"]))))
def f_c_Side_has_given (C_Side : Addr) : FM := mkF 1 1 (B_c_Side_has_given C_Side)
/-- slots: 0 self, 1 is_over, 2 is_write -/
def B_c_Side_answer (C_Side : Addr) : SM :=
  sSeq (sSet 2 (e2 kEq (oV (eMeth C_Side "word" (f_c_Side_word C_Side) [] (oV (eV 0)) aN)) (oV (eC (.str "write")))))
    (sSeq (sIf (tV (eMeth C_Side "has_given" (f_c_Side_has_given C_Side) [] (oV (eV 0)) aN)) (sRet (eC (.str "broken"))) (sNx))
    (sSeq (sIf (tV (e2 kEq (oV (e1 (kFld C_Side "heard") (oV (eV 0)))) (oV (eC (.str "reset"))))) (sRet (eC (.str "reset"))) (sNx))
    (sSeq (sIf (tV (e2 kEq (oV (e1 (kFld C_Side "heard") (oV (eV 0)))) (oV (eC (.str "told"))))) (sRet (eIf (tV (eV 2)) (eC (.str "broken")) (eC (.str "end")))) (sNx))
    (sSeq (sIf (tV (eV 2)) (sRet (eIf (tV (e2 kEq (oV (e1 (kFld C_Side "hand") (oV (eV 0)))) (oV (eC (.str "stopped"))))) (eC (.str "broken")) (eC .non))) (sNx))
    (sRet (eIf (tV (eV 1)) (eC (.str "end")) (eC .non)))))))
def f_c_Side_answer (C_Side : Addr) : FM := mkF 2 3 (B_c_Side_answer C_Side)
def B_c_Side_answered_1 : SM :=
  sIf (tAn (tV (e2 kEq (oV (e2 kIx (oV (eV 2)) (oV (eC (.int 0))))) (oV (eC (.str "write"))))) (tV (e2 kEq (oV (eV 1)) (oV (eC (.str "taken")))))) (sAug 3 (fun a b => a + b) (e2 kIx (oV (eV 2)) (oV (eC (.int 1))))) (sNx)
def B_c_Side_answered_2 (C_Side : Addr) : SM :=
  sIf (tAn (tV (e2 kNe (oV (e2 kIx (oV (eV 2)) (oV (eC (.int 0))))) (oV (eC (.str "write"))))) (tV (e2 (kIn false) (oV (eV 1)) (oV (eTup (aC (oV (eC (.str "taken"))) (aC (oV (eC (.str "end"))) (aN)))))))) (sAug 4 (fun a b => a + b) (e1 (kFld C_Side "part") (oV (eV 0)))) (sNx)
def B_c_Side_answered_3 : SM :=
  sIf (tV (e2 (kIn false) (oV (eV 1)) (oV (eTup (aC (oV (eC (.str "reset"))) (aC (oV (eC (.str "broken"))) (aN))))))) (sSet 5 (e2 kIx (oV (eV 2)) (oV (e1 kNeg (oV (eC (.int 1))))))) (sIf (tAn (tV (e2 kEq (oV (eV 1)) (oV (eC (.str "end"))))) (tV (e2 kEq (oV (e2 kIx (oV (eV 2)) (oV (eC (.int 0))))) (oV (eC (.str "read")))))) (sSet 5 (e2 kIx (oV (eV 2)) (oV (eC (.int 2))))) (sNx))
/-- slots: 0 self, 1 answer, 2 row, 3 told, 4 had, 5 goal, 6 heard, 7 replies -/
def B_c_Side_answered (C_Side : Addr) : SM :=
  sSeq (sSet 2 (e2 kIx (oV (e1 (kFld C_Side "listing") (oV (eV 0)))) (oV (e1 (kFld C_Side "row") (oV (eV 0))))))
    (sSeq (sPar3 3 4 5 (aC (oV (e1 (kFld C_Side "told") (oV (eV 0)))) (aC (oV (e1 (kFld C_Side "had") (oV (eV 0)))) (aC (oV (e2 kAdd (oV (e1 (kFld C_Side "row") (oV (eV 0)))) (oV (eC (.int 1))))) (aN)))))
    (sSeq (B_c_Side_answered_1)
    (sSeq (B_c_Side_answered_2 C_Side)
    (sSeq (B_c_Side_answered_3)
    (sSeq (sSet 6 (eIf (tV (e2 kEq (oV (eV 1)) (oV (eC (.str "reset"))))) (eC (.str "told")) (e1 (kFld C_Side "heard") (oV (eV 0)))))
    (sSeq (sSet 7 (eTupS (aS (e1 (kFld C_Side "replies") (oV (eV 0))) (aC (oV (eV 1)) (aN)))))
    (sRet (eKw C_Side "after" ["row", "heard", "part", "told", "had", "replies"] (f_c_Side_after C_Side) (eV 0) (aC (oV (eV 5)) (aC (oV (eV 6)) (aC (oV (eC (.int 0))) (aC (oV (eV 3)) (aC (oV (eV 4)) (aC (oV (eV 7)) (aN)))))))))))))))
def f_c_Side_answered (C_Side : Addr) : FM := mkF 2 8 (B_c_Side_answered C_Side)
def B_c_Side_gone_1 (C_Side : Addr) : SM :=
  sIf (tV (e2 (kIn true) (oV (eMeth C_Side "word" (f_c_Side_word C_Side) [] (oV (eV 0)) aN)) (oV (eC (.ktp [.str "write", .str "read", .str "drain"]))))) (sRet (eMeth C_Side "passed" (f_c_Side_passed C_Side) [] (oV (eV 0)) aN)) (sNx)
/-- slots: 0 self, 1 is_over, 2 answer -/
def B_c_Side_gone (C_Side : Addr) : SM :=
  sSeq (sIf (tV (eMeth C_Side "has_ended" (f_c_Side_has_ended C_Side) [] (oV (eV 0)) aN)) (sRet (eC .non)) (sNx))
    (sSeq (B_c_Side_gone_1 C_Side)
    (sSeq (sSet 2 (eMeth C_Side "answer" (f_c_Side_answer C_Side) [] (oV (eV 0)) (aC (oV (eV 1)) (aN))))
    (sRet (eIf (tV (e2 kIsN (oV (eV 2)) (oV (eC .non)))) (eC .non) (eMeth C_Side "answered" (f_c_Side_answered C_Side) [] (oV (eV 0)) (aC (oV (eV 2)) (aN)))))))
def f_c_Side_gone (C_Side : Addr) : FM := mkF 2 3 (B_c_Side_gone C_Side)
def B_c_Side_is_free_1 (C_Side : Addr) : SM :=
  sIf (tOr' (tV (e2 (kIn true) (oV (eMeth C_Side "word" (f_c_Side_word C_Side) [] (oV (eV 0)) aN)) (oV (eV 1)))) (tOr' (tV (eMeth C_Side "has_given" (f_c_Side_has_given C_Side) [] (oV (eV 0)) aN)) (tV (e2 kNe (oV (e1 (kFld C_Side "heard") (oV (eV 0)))) (oV (eC (.str ""))))))) (sRet (eC (.bl false))) (sNx)
/-- slots: 0 self, 1 words -/
def B_c_Side_is_free (C_Side : Addr) : SM :=
  sSeq (B_c_Side_is_free_1 C_Side)
    (sRet (eOr (e2 kNe (oV (eMeth C_Side "word" (f_c_Side_word C_Side) [] (oV (eV 0)) aN)) (oV (eC (.str "write")))) (e2 kEq (oV (e1 (kFld C_Side "hand") (oV (eV 0)))) (oV (eC (.str "open"))))))
def f_c_Side_is_free (C_Side : Addr) : FM := mkF 2 2 (B_c_Side_is_free C_Side)
/-- slots: 0 self, 1 row -/
def B_c_Side_left (C_Side : Addr) : SM :=
  sSeq (sSet 1 (e2 kIx (oV (e1 (kFld C_Side "listing") (oV (eV 0)))) (oV (e1 (kFld C_Side "row") (oV (eV 0))))))
    (sRet (eIf (tV (e2 kEq (oV (e2 kIx (oV (eV 1)) (oV (eC (.int 0))))) (oV (eC (.str "drain"))))) (eC .non) (e2 kSub (oV (e2 kIx (oV (eV 1)) (oV (eC (.int 1))))) (oV (e1 (kFld C_Side "part") (oV (eV 0)))))))
def f_c_Side_left (C_Side : Addr) : FM := mkF 1 2 (B_c_Side_left C_Side)
def B_most_read_1 (C_Side : Addr) : SM :=
  sIf (tNt (tV (eMeth C_Side "is_free" (f_c_Side_is_free C_Side) [] (oV (eV 0)) (aC (oV (eC (.ktp [.str "read", .str "drain"]))) (aN))))) (sRet (e1 (kFld C_Side "had") (oV (eV 0)))) (sNx)
/-- slots: 0 side, 1 left -/
def B_most_read (C_Side : Addr) : SM :=
  sSeq (B_most_read_1 C_Side)
    (sSeq (sSet 1 (eMeth C_Side "left" (f_c_Side_left C_Side) [] (oV (eV 0)) aN))
    (sRet (eIf (tV (e2 kIsN (oV (eV 1)) (oV (eC .non)))) (eC .non) (e2 kSub (oV (e2 kAdd (oV (e1 (kFld C_Side "had") (oV (eV 0)))) (oV (eV 1)))) (oV (eC (.int 1)))))))
def f_most_read (C_Side : Addr) : FM := mkF 1 2 (B_most_read C_Side)
/-- slots: 0 self, 1 many, 2 later -/
def B_c_Side_moved (C_Side : Addr) : SM :=
  sSeq (sSet 2 (eKw C_Side "after" ["part"] (f_c_Side_after C_Side) (eV 0) (aC (oV (e2 kAdd (oV (e1 (kFld C_Side "part") (oV (eV 0)))) (oV (eV 1)))) (aN))))
    (sRet (eIf (tV (e2 kEq (oV (eMeth C_Side "left" (f_c_Side_left C_Side) [] (oV (eV 2)) aN)) (oV (eC (.int 0))))) (eMeth C_Side "answered" (f_c_Side_answered C_Side) [] (oV (eV 2)) (aC (oV (eC (.str "taken"))) (aN))) (eV 2)))
def f_c_Side_moved (C_Side : Addr) : FM := mkF 2 3 (B_c_Side_moved C_Side)
/-- slots: 0 mine, 1 other, 2 most, 3 need -/
def B_write_end (C_Side : Addr) : SM :=
  sSeq (sSet 2 (eCall (f_most_read C_Side) [] (aC (oV (eV 1)) (aN))))
    (sSeq (sSet 3 (eIf (tV (e2 kIsN (oV (eV 2)) (oV (eC .non)))) (eC (.int 1)) (eL kMax2 (aC (oV (eC (.int 1))) (aC (oV (e2 kSub (oV (e2 kAdd (oV (e1 (kFld C_Side "told") (oV (eV 0)))) (oV (eMeth C_Side "left" (f_c_Side_left C_Side) [] (oV (eV 0)) aN)))) (oV (eV 2)))) (aN))))))
    (sRet (eTup (aC (oV (eV 3)) (aC (oV (eC (.str "write"))) (aC (oV (eMeth C_Side "moved" (f_c_Side_moved C_Side) [] (oV (eV 0)) (aC (oV (eMeth C_Side "left" (f_c_Side_left C_Side) [] (oV (eV 0)) aN)) (aN)))) (aN)))))))
def f_write_end (C_Side : Addr) : FM := mkF 2 4 (B_write_end C_Side)
/-- slots: 0 side -/
def B_most_written (C_Side : Addr) : SM :=
  sRet (eIf (tV (eMeth C_Side "is_free" (f_c_Side_is_free C_Side) [] (oV (eV 0)) (aC (oV (eTup (aC (oV (eC (.str "write"))) (aN)))) (aN)))) (e2 kSub (oV (e2 kAdd (oV (e1 (kFld C_Side "told") (oV (eV 0)))) (oV (eMeth C_Side "left" (f_c_Side_left C_Side) [] (oV (eV 0)) aN)))) (oV (eC (.int 1)))) (e1 (kFld C_Side "told") (oV (eV 0))))
def f_most_written (C_Side : Addr) : FM := mkF 1 1 (B_most_written C_Side)
def B_read_ends_1 (C_Side : Addr) : SM :=
  sIf (tAn (tV (e2 kNotN (oV (eV 3)) (oV (eC .non)))) (tV (e2 kLe (oV (e2 kAdd (oV (e1 (kFld C_Side "had") (oV (eV 0)))) (oV (eV 3)))) (oV (eCall (f_most_written C_Side) [] (aC (oV (eV 1)) (aN))))))) (sApp 2 (eTup (aC (oV (eC (.int 1))) (aC (oV (eC (.str "read"))) (aC (oV (eMeth C_Side "moved" (f_c_Side_moved C_Side) [] (oV (eV 0)) (aC (oV (eV 3)) (aN)))) (aN)))))) (sNx)
def B_read_ends_2 (C_Side : Addr) : SM :=
  sIf (tAn (tV (e2 (kIn false) (oV (e1 (kFld C_Side "hand") (oV (eV 1)))) (oV (eC (.ktp [.str "stopped", .str "closed", .str "cut"]))))) (tOr' (tV (e2 kIsN (oV (eV 3)) (oV (eC .non)))) (tV (e2 kLt (oV (e1 (kFld C_Side "told") (oV (eV 1)))) (oV (e2 kAdd (oV (e1 (kFld C_Side "had") (oV (eV 0)))) (oV (eV 3)))))))) (sApp 2 (eTup (aC (oV (eC (.int 1))) (aC (oV (eC (.str "end"))) (aC (oV (eMeth C_Side "answered" (f_c_Side_answered C_Side) [] (oV (eKw C_Side "after" ["part"] (f_c_Side_after C_Side) (eV 0) (aC (oV (e2 kSub (oV (e1 (kFld C_Side "told") (oV (eV 1)))) (oV (e1 (kFld C_Side "had") (oV (eV 0)))))) (aN)))) (aC (oV (eC (.str "end"))) (aN)))) (aN)))))) (sNx)
/-- slots: 0 mine, 1 other, 2 found, 3 left -/
def B_read_ends (C_Side : Addr) : SM :=
  sSeq (sOwn 2 (nLst (aN)))
    (sSeq (sSet 3 (eMeth C_Side "left" (f_c_Side_left C_Side) [] (oV (eV 0)) aN))
    (sSeq (B_read_ends_1 C_Side)
    (sSeq (B_read_ends_2 C_Side)
    (sRetO 2))))
def f_read_ends (C_Side : Addr) : FM := mkF 2 4 (B_read_ends C_Side)
def B_row_ends_1 : SM :=
  sIf (tV (e2 kNotN (oV (eV 2)) (oV (eC .non)))) (sRetN (nLst (aC (oV (eTup (aC (oV (eC (.int 1))) (aC (oV (eC (.str "go"))) (aC (oV (eV 2)) (aN)))))) (aN)))) (sNx)
/-- slots: 0 mine, 1 other, 2 later -/
def B_row_ends (C_Side : Addr) : SM :=
  sSeq (sIf (tV (eMeth C_Side "has_ended" (f_c_Side_has_ended C_Side) [] (oV (eV 0)) aN)) (sRetN (nLst (aN))) (sNx))
    (sSeq (sSet 2 (eMeth C_Side "gone" (f_c_Side_gone C_Side) [] (oV (eV 0)) (aC (oV (eC (.bl false))) (aN))))
    (sSeq (B_row_ends_1)
    (sRet (eIf (tV (e2 kEq (oV (eMeth C_Side "word" (f_c_Side_word C_Side) [] (oV (eV 0)) aN)) (oV (eC (.str "write"))))) (nLst (aC (oV (eCall (f_write_end C_Side) [] (aC (oV (eV 0)) (aC (oV (eV 1)) (aN))))) (aN))) (eCall (f_read_ends C_Side) [] (aC (oV (eV 0)) (aC (oV (eV 1)) (aN))))))))
def f_row_ends (C_Side : Addr) : FM := mkF 2 3 (B_row_ends C_Side)
/-- slots: 0 sides, 1 fates, 2 found, 3 side, 4 fate -/
def B_stand_of (C_Side : Addr) : SM :=
  sSeq (sSetN 2 (nLc (itZ (aC (oV (eV 0)) (aC (oV (eV 1)) (aN)))) (gTp 2 (gsCons (gN 3) (gsCons (gN 4) (gsNil)))) (tYs) (eTup (aC (oV (e1 (kFld C_Side "row") (oV (eV 3)))) (aC (oV (e1 (kFld C_Side "hand") (oV (eV 3)))) (aC (oV (e1 (kFld C_Side "heard") (oV (eV 3)))) (aC (oV (e1 (kFld C_Side "told") (oV (eV 3)))) (aC (oV (e1 (kFld C_Side "had") (oV (eV 3)))) (aC (oV (eV 4)) (aN)))))))) [3, 4]))
    (sRet (eTup (aC (oV (e2 kIx (oV (eV 2)) (oV (eC (.int 0))))) (aC (oV (e2 kIx (oV (eV 2)) (oV (eC (.int 1))))) (aN)))))
def f_stand_of (C_Side : Addr) : FM := mkF 2 5 (B_stand_of C_Side)
/-- slots: 0 pair, 1 index, 2 value -/
def B_replaced : SM :=
  sRet (eTupS (aS (eSl (oV (eV 0)) (bN) (bS (eV 1))) (aC (oV (eV 2)) (aS (eSl (oV (eV 0)) (bS (e2 kAdd (oV (eV 1)) (oV (eC (.int 1))))) (bN)) (aN)))))
def f_replaced : FM := mkF 3 3 (B_replaced)
def B_reset_fates_1 (C_Side : Addr) : SM :=
  sIf (tOr' (tV (eMeth C_Side "has_given" (f_c_Side_has_given C_Side) [] (oV (eV 0)) aN)) (tV (e2 kNe (oV (e1 (kFld C_Side "heard") (oV (eV 0)))) (oV (eC (.str "")))))) (sRetN (nLst (aN))) (sNx)
def B_reset_fates_2 (C_Side : Addr) : SM :=
  sIf (tAn (tV (e2 (kIn true) (oV (e1 (kFld C_Side "hand") (oV (eV 1)))) (oV (eC (.ktp [.str "aborted", .str "cut"]))))) (tNt (tAn (tV (e2 kEq (oV (e1 (kFld C_Side "hand") (oV (eV 1)))) (oV (eC (.str "closed"))))) (tV (e2 kGt (oV (eCall (f_most_written C_Side) [] (aC (oV (eV 0)) (aN)))) (oV (e1 (kFld C_Side "had") (oV (eV 1))))))))) (sRetN (nLst (aN))) (sNx)
/-- slots: 0 mine, 1 other, 2 most, 3 found -/
def B_reset_fates (C_Side : Addr) : SM :=
  sSeq (B_reset_fates_1 C_Side)
    (sSeq (B_reset_fates_2 C_Side)
    (sSeq (sSet 2 (eCall (f_most_read C_Side) [] (aC (oV (eV 0)) (aN))))
    (sSeq (sSet 3 (eIf (tV (e2 kGt (oV (e1 (kFld C_Side "told") (oV (eV 1)))) (oV (e1 (kFld C_Side "had") (oV (eV 0)))))) (nLst (aC (oV (eC (.str "wiped"))) (aN))) (nLst (aN))))
    (sRet (eIf (tOr' (tV (e2 kIsN (oV (eV 2)) (oV (eC .non)))) (tV (e2 kLe (oV (e1 (kFld C_Side "told") (oV (eV 1)))) (oV (eV 2))))) (nLstS (aS (eV 3) (aC (oV (eC (.str "whole"))) (aN)))) (eV 3))))))
def f_reset_fates (C_Side : Addr) : FM := mkF 2 4 (B_reset_fates C_Side)
/-- slots: 0 self -/
def B_c_Side_reset (C_Side : Addr) : SM :=
  sRet (eKw C_Side "after" ["heard"] (f_c_Side_after C_Side) (eV 0) (aC (oV (eC (.str "reset"))) (aN)))
def f_c_Side_reset (C_Side : Addr) : FM := mkF 1 1 (B_c_Side_reset C_Side)
def B_moves_1 (C_Side : Addr) : SM :=
  sSeq (sSet 12 (eIf (tV (e2 kEq (oV (eV 6)) (oV (eC (.int 0))))) (eTup (aC (oV (eV 9)) (aC (oV (eC (.int 1))) (aN)))) (eTup (aC (oV (eC (.int 1))) (aC (oV (eV 9)) (aN))))))
    (sApp 5 (eTup (aC (oV (eV 12)) (aC (oV (eV 10)) (aC (oV (eV 6)) (aC (oV (eCall (f_stand_of C_Side) [] (aC (oV (eCall (f_replaced) [] (aC (oV (eV 3)) (aC (oV (eV 6)) (aC (oV (eV 11)) (aN)))))) (aC (oV (eV 4)) (aN))))) (aN)))))))
def B_moves_2 (C_Side : Addr) : SM :=
  sFor (itV (eCall (f_row_ends C_Side) [] (aC (oV (eV 7)) (aC (oV (eV 8)) (aN))))) (gTp 3 (gsCons (gN 9) (gsCons (gN 10) (gsCons (gN 11) (gsNil))))) (B_moves_1 C_Side)
def B_moves_3 (C_Side : Addr) : SM :=
  sSeq (sSet 14 (eCall (f_replaced) [] (aC (oV (eV 4)) (aC (oV (e2 kSub (oV (eC (.int 1))) (oV (eV 6)))) (aC (oV (eV 13)) (aN))))))
    (sApp 5 (eTup (aC (oV (eTup (aC (oV (eC (.int 1))) (aC (oV (eC (.int 1))) (aN))))) (aC (oV (eV 13)) (aC (oV (eV 6)) (aC (oV (eCall (f_stand_of C_Side) [] (aC (oV (eCall (f_replaced) [] (aC (oV (eV 3)) (aC (oV (eV 6)) (aC (oV (eMeth C_Side "reset" (f_c_Side_reset C_Side) [] (oV (eV 7)) aN)) (aN)))))) (aC (oV (eV 14)) (aN))))) (aN)))))))
def B_moves_4 (C_Side : Addr) : SM :=
  sSeq (sPar 7 8 (aC (oV (e2 kIx (oV (eV 3)) (oV (eV 6)))) (aC (oV (e2 kIx (oV (eV 3)) (oV (e2 kSub (oV (eC (.int 1))) (oV (eV 6)))))) (aN))))
    (sSeq (B_moves_2 C_Side)
    (sFor (itV (eCall (f_reset_fates C_Side) [] (aC (oV (eV 7)) (aC (oV (eV 8)) (aN))))) (gN 13) (B_moves_3 C_Side)))
/-- slots: 0 first, 1 second, 2 stand, 3 sides, 4 fates, 5 found, 6 side, 7 mine, 8 other, 9 need, 10 kind, 11 later, 12 least, 13 fate, 14 later_fates -/
def B_moves (C_Program : Addr) (C_Side : Addr) : SM :=
  sSeq (sSet 3 (eCall (f_sides_of C_Program C_Side) [] (aC (oV (eV 0)) (aC (oV (eV 1)) (aC (oV (eV 2)) (aN))))))
    (sSeq (sSet 4 (eTup (aC (oV (e2 kIx (oV (e2 kIx (oV (eV 2)) (oV (eC (.int 0))))) (oV (eC (.int 5))))) (aC (oV (e2 kIx (oV (e2 kIx (oV (eV 2)) (oV (eC (.int 1))))) (oV (eC (.int 5))))) (aN)))))
    (sSeq (sOwn 5 (nLst (aN)))
    (sSeq (sFor (itT (eTup (aC (oV (eC (.int 0))) (aC (oV (eC (.int 1))) (aN))))) (gN 6) (B_moves_4 C_Side))
    (sRetO 5))))
def f_moves (C_Program : Addr) (C_Side : Addr) : FM := mkF 3 15 (B_moves C_Program C_Side)
/-- slots: 0 least, 1 rooms, 2 need, 3 room -/
def B_fits : SM :=
  sRet (eL kAll (aC (oV (nLc (itZ (aC (oV (eV 0)) (aC (oV (eV 1)) (aN)))) (gTp 2 (gsCons (gN 2) (gsCons (gN 3) (gsNil)))) (tYs) (eOr (e2 kIsN (oV (eV 3)) (oV (eC .non))) (e2 kGe (oV (eV 3)) (oV (eV 2)))) [2, 3])) (aN)))
def f_fits : FM := mkF 2 4 (B_fits)
/-- slots: 0 first, 1 second, 2 rooms, 3 stand, 4 move -/
def B_moves_at (C_Program : Addr) (C_Side : Addr) : SM :=
  sRetN (nLc (itV (eCall (f_moves C_Program C_Side) [] (aC (oV (eV 0)) (aC (oV (eV 1)) (aC (oV (eV 3)) (aN)))))) (gN 4) (tV (eCall (f_fits) [] (aC (oV (e2 kIx (oV (eV 4)) (oV (eC (.int 0))))) (aC (oV (eV 2)) (aN))))) (eSl (oV (eV 4)) (bS (eC (.int 1))) (bN)) [4])
def f_moves_at (C_Program : Addr) (C_Side : Addr) : FM := mkF 4 5 (B_moves_at C_Program C_Side)
/-- slots: 0 first, 1 second, 2 rooms, 3 stand, 4 found, 5 kind, 6 side, 7 after -/
def B_next_stands (C_Program : Addr) (C_Side : Addr) : SM :=
  sSeq (sSetN 4 (nKc (itV (eCall (f_moves_at C_Program C_Side) [] (aC (oV (eV 0)) (aC (oV (eV 1)) (aC (oV (eV 2)) (aC (oV (eV 3)) (aN))))))) (gTp 3 (gsCons (gN 5) (gsCons (gN 6) (gsCons (gN 7) (gsNil))))) (tYs) (eV 7) (eC (.bl true)) [5, 6, 7]))
    (sRetN (nL kListX (aC (oV (eV 4)) (aN))))
def f_next_stands (C_Program : Addr) (C_Side : Addr) : FM := mkF 4 8 (B_next_stands C_Program C_Side)
def B_reached_1 (C_Program : Addr) (C_Side : Addr) : SM :=
  sFor (itV (eCall (f_next_stands C_Program C_Side) [] (aC (oV (eV 0)) (aC (oV (eV 1)) (aC (oV (eV 2)) (aC (oV (ePopO 4)) (aN))))))) (gN 5) (sIf (tV (e2 (kKIn true) (oV (eV 5)) (oR 3))) (sSeq (sPutE 3 (eC (.bl true)) (eV 5))
    (sApp 4 (eV 5))) (sNx))
/-- slots: 0 first, 1 second, 2 rooms, 3 found, 4 waiting, 5 after -/
def B_reached (C_Program : Addr) (C_Side : Addr) : SM :=
  sSeq (sOwn 3 (nKDsp (eC (.ktp [.ktp [.int 0, .str "open", .str "", .int 0, .int 0, .str ""], .ktp [.int 0, .str "open", .str "", .int 0, .int 0, .str ""]])) (eC (.bl true))))
    (sSeq (sOwn 4 (nLst (aC (oV (eC (.ktp [.ktp [.int 0, .str "open", .str "", .int 0, .int 0, .str ""], .ktp [.int 0, .str "open", .str "", .int 0, .int 0, .str ""]]))) (aN))))
    (sSeq (whl (tV (e2 kNe (oR 4) (oV (nLst (aN))))) (B_reached_1 C_Program C_Side) 16777216)
    (sRetN (nL kListX (aC (oR 3) (aN))))))
def f_reached (C_Program : Addr) (C_Side : Addr) : FM := mkF 3 6 (B_reached C_Program C_Side)
def B_sure_1 : SM :=
  sIf (tNt (tV (eL (kIsi []) (aC (oV (eV 5)) (aC (oV (eC (.bty "str"))) (aN)))))) (sSeq (sSet 9 (eOr (e2 kEq (oV (eV 6)) (oV (eC (.str "whole")))) (eAnd (e2 kEq (oV (eV 6)) (oV (eC (.str "")))) (e2 kGe (oV (eV 8)) (oV (eV 7))))))
    (sPutD 3 (eAnd (eDGet2O 3 (eV 5) (eC (.bl true))) (eV 9)) (eV 5))) (sNx)
def B_sure_2 : SM :=
  sSeq (sAsg (eTup (aC (oV (e2 kIx (oV (e2 kIx (oV (eV 4)) (oV (eV 2)))) (oV (eC (.int 0))))) (aC (oV (e2 kIx (oV (e2 kIx (oV (eV 4)) (oV (eV 2)))) (oV (eC (.int 5))))) (aC (oV (e2 kIx (oV (e2 kIx (oV (eV 4)) (oV (eV 2)))) (oV (eC (.int 3))))) (aC (oV (e2 kIx (oV (e2 kIx (oV (eV 4)) (oV (e2 kSub (oV (eC (.int 1))) (oV (eV 2)))))) (oV (eC (.int 4))))) (aN)))))) (gTp 4 (gsCons (gN 5) (gsCons (gN 6) (gsCons (gN 7) (gsCons (gN 8) (gsNil)))))))
    (B_sure_1)
def B_sure_3 (C_Program : Addr) (C_Side : Addr) : SM :=
  sFor (itV (eCall (f_reached C_Program C_Side) [] (aC (oV (eV 0)) (aC (oV (eV 1)) (aC (oV (eTup (aC (oV (eC .non)) (aC (oV (eC .non)) (aN))))) (aN)))))) (gN 4) (B_sure_2)
/-- slots: 0 first, 1 second, 2 side, 3 found, 4 stand, 5 row, 6 fate, 7 told, 8 had, 9 is_sure -/
def B_sure (C_Program : Addr) (C_Side : Addr) : SM :=
  sSeq (sOwn 3 (nDNew))
    (sSeq (B_sure_3 C_Program C_Side)
    (sRetN (nLc (itV (nL kSortedA (aC (oR 3) (aN)))) (gN 5) (tV (e2 kGet (oR 3) (oV (eV 5)))) (eV 5) [5])))
def f_sure (C_Program : Addr) (C_Side : Addr) : FM := mkF 3 10 (B_sure C_Program C_Side)
/-- slots: 0 one, 1 two, 2 made, 3 side -/
def B_w_both (C_Program : Addr) (C_Side : Addr) : SM :=
  sSeq (sSet 2 (nLst (aC (oV (nMake C_Program (f_c_Program_init C_Program) [] (aC (oV (eV 0)) (aN)))) (aC (oV (nMake C_Program (f_c_Program_init C_Program) [] (aC (oV (eV 1)) (aN)))) (aN)))))
    (sRetN (nLc (itT (eTup (aC (oV (eC (.int 0))) (aC (oV (eC (.int 1))) (aN))))) (gN 3) (tYs) (eCall (f_sure C_Program C_Side) [] (aC (oV (e2 kIx (oV (eV 2)) (oV (eC (.int 0))))) (aC (oV (e2 kIx (oV (eV 2)) (oV (eC (.int 1))))) (aC (oV (eV 3)) (aN))))) [3]))
def f_w_both (C_Program : Addr) (C_Side : Addr) : FM := mkF 2 4 (B_w_both C_Program C_Side)
def B_w_is_right_1 (C_Program : Addr) (C_Side : Addr) : SM :=
  sIf (tV (e2 kNe (oV (eCall (f_w_both C_Program C_Side) [] (aC (oV (eV 1)) (aC (oV (eV 2)) (aN))))) (oV (nLst (aC (oV (nLst (aC (oV (eC (.int 0))) (aN)))) (aC (oV (nLst (aC (oV (eC (.int 0))) (aC (oV (eC (.int 1))) (aN))))) (aN))))))) (sRet (eC (.bl false))) (sNx)
def B_w_is_right_2 (C_Program : Addr) (C_Side : Addr) : SM :=
  sIf (tV (e2 kNe (oV (eCall (f_w_both C_Program C_Side) [] (aC (oV (eV 1)) (aC (oV (eV 3)) (aN))))) (oV (nLst (aC (oV (nLst (aC (oV (eC (.int 0))) (aC (oV (eC (.int 3))) (aN))))) (aC (oV (nLst (aC (oV (eC (.int 0))) (aC (oV (eC (.int 1))) (aC (oV (eC (.int 2))) (aN)))))) (aN))))))) (sRet (eC (.bl false))) (sNx)
def B_w_is_right_3 (C_Program : Addr) (C_Side : Addr) : SM :=
  sIf (tV (e2 kNe (oV (eCall (f_w_both C_Program C_Side) [] (aC (oV (eV 4)) (aC (oV (eV 5)) (aN))))) (oV (nLst (aC (oV (nLst (aC (oV (eC (.int 0))) (aC (oV (eC (.int 2))) (aN))))) (aC (oV (nLst (aC (oV (eC (.int 0))) (aC (oV (eC (.int 1))) (aN))))) (aN))))))) (sRet (eC (.bl false))) (sNx)
/-- slots: 0 n, 1 client, 2 server, 3 drained, 4 asker, 5 teller, 6 writer, 7 reader -/
def B_w_is_right (C_Program : Addr) (C_Side : Addr) : SM :=
  sSeq (sSet 1 (nLst (aC (oV (eTup (aC (oV (eC (.str "write"))) (aC (oV (e2 kMul (oV (eC (.int 100))) (oV (eV 0)))) (aC (oV (eC (.int 4))) (aN)))))) (aC (oV (eTup (aC (oV (eC (.str "stop"))) (aN)))) (aC (oV (eTup (aC (oV (eC (.str "drain"))) (aC (oV (eC (.int 4))) (aN))))) (aC (oV (eTup (aC (oV (eC (.str "done"))) (aN)))) (aC (oV (eTup (aC (oV (eC (.str "fail"))) (aN)))) (aN))))))))
    (sSeq (sSet 2 (nLst (aC (oV (eTup (aC (oV (eC (.str "read"))) (aC (oV (e2 kMul (oV (eC (.int 10))) (oV (eV 0)))) (aC (oV (eC (.int 3))) (aC (oV (eC (.int 3))) (aN))))))) (aC (oV (eTup (aC (oV (eC (.str "write"))) (aC (oV (e2 kMul (oV (eC (.int 50))) (oV (eV 0)))) (aC (oV (eC (.int 3))) (aN)))))) (aC (oV (eTup (aC (oV (eC (.str "close"))) (aN)))) (aC (oV (eTup (aC (oV (eC (.str "done"))) (aN)))) (aN)))))))
    (sSeq (B_w_is_right_1 C_Program C_Side)
    (sSeq (sSet 3 (nLst (aC (oV (eTup (aC (oV (eC (.str "read"))) (aC (oV (e2 kMul (oV (eC (.int 10))) (oV (eV 0)))) (aC (oV (eC (.int 4))) (aC (oV (eC (.int 4))) (aN))))))) (aC (oV (eTup (aC (oV (eC (.str "drain"))) (aC (oV (eC (.int 4))) (aN))))) (aC (oV (eTup (aC (oV (eC (.str "write"))) (aC (oV (e2 kMul (oV (eC (.int 50))) (oV (eV 0)))) (aC (oV (eC (.int 4))) (aN)))))) (aC (oV (eTup (aC (oV (eC (.str "close"))) (aN)))) (aC (oV (eTup (aC (oV (eC (.str "done"))) (aN)))) (aN))))))))
    (sSeq (B_w_is_right_2 C_Program C_Side)
    (sSeq (sSet 4 (nLst (aC (oV (eTup (aC (oV (eC (.str "write"))) (aC (oV (e2 kMul (oV (eC (.int 8))) (oV (eV 0)))) (aC (oV (eC (.int 3))) (aN)))))) (aC (oV (eTup (aC (oV (eC (.str "read"))) (aC (oV (eV 0)) (aC (oV (eC (.int 3))) (aC (oV (eC (.int 3))) (aN))))))) (aC (oV (eTup (aC (oV (eC (.str "done"))) (aN)))) (aC (oV (eTup (aC (oV (eC (.str "fail"))) (aN)))) (aN)))))))
    (sSeq (sSet 5 (nLst (aC (oV (eTup (aC (oV (eC (.str "read"))) (aC (oV (e2 kMul (oV (eC (.int 8))) (oV (eV 0)))) (aC (oV (eC (.int 3))) (aC (oV (eC (.int 3))) (aN))))))) (aC (oV (eTup (aC (oV (eC (.str "write"))) (aC (oV (eV 0)) (aC (oV (eC (.int 3))) (aN)))))) (aC (oV (eTup (aC (oV (eC (.str "done"))) (aN)))) (aC (oV (eTup (aC (oV (eC (.str "fail"))) (aN)))) (aN)))))))
    (sSeq (B_w_is_right_3 C_Program C_Side)
    (sSeq (sSet 6 (nLst (aC (oV (eTup (aC (oV (eC (.str "write"))) (aC (oV (e2 kMul (oV (eC (.int 5))) (oV (eV 0)))) (aC (oV (eC (.int 2))) (aN)))))) (aC (oV (eTup (aC (oV (eC (.str "abort"))) (aN)))) (aC (oV (eTup (aC (oV (eC (.str "done"))) (aN)))) (aC (oV (eTup (aC (oV (eC (.str "fail"))) (aN)))) (aN)))))))
    (sSeq (sSet 7 (nLst (aC (oV (eTup (aC (oV (eC (.str "read"))) (aC (oV (e2 kMul (oV (eC (.int 5))) (oV (eV 0)))) (aC (oV (eC (.int 2))) (aC (oV (eC (.int 2))) (aN))))))) (aC (oV (eTup (aC (oV (eC (.str "done"))) (aN)))) (aC (oV (eTup (aC (oV (eC (.str "fail"))) (aN)))) (aC (oV (eTup (aC (oV (eC (.str "done"))) (aN)))) (aN)))))))
    (sRet (e2 kEq (oV (eCall (f_w_both C_Program C_Side) [] (aC (oV (eV 6)) (aC (oV (eV 7)) (aN))))) (oV (nLst (aC (oV (nLst (aC (oV (eC (.int 0))) (aN)))) (aC (oV (nLst (aC (oV (eC (.int 0))) (aC (oV (eC (.int 1))) (aC (oV (eC (.int 2))) (aN)))))) (aN))))))))))))))))
def f_w_is_right (C_Program : Addr) (C_Side : Addr) : FM := mkF 1 8 (B_w_is_right C_Program C_Side)
/-- slots: 0 script, 1 n, 2 many -/
def B_law (C_Program : Addr) (C_Side : Addr) : SM :=
  sSeq (sSet 1 (e2 kAdd (oV (eC (.int 1))) (oV (e2 kMod (oV (eIf (tV (e2 kNeSc (oV (eV 0)) (oV (nLst (aN))))) (eL kAbs (aC (oV (e2 kIx (oV (eV 0)) (oV (eC (.int 0))))) (aN))) (eC (.int 0)))) (oV (e2 kPow (oV (eC (.int 10))) (oV (eC (.int 15)))))))))
    (sRet (eL kAll (aC (oV (nLc (itT (eTup (aC (oV (eC (.int 1))) (aC (oV (eV 1)) (aN))))) (gN 2) (tYs) (eCall (f_w_is_right C_Program C_Side) [] (aC (oV (eV 2)) (aN))) [2])) (aN))))
def f_law (C_Program : Addr) (C_Side : Addr) : FM := mkF 1 3 (B_law C_Program C_Side)
end My
namespace My
open PySem PySem.Spec PyProof.Rows L2 L3
abbrev N_is_integer : List Str := ["value", "least", "most"]
theorem sc_is_integer : FnScope N_is_integer ["value", "least", "most"] (defScope s_is_integer) := ⟨rfl, rfl, rfl, by decide +kernel, rfl, by decide +kernel, by decide +kernel⟩
abbrev N_targets_at : List Str := ["word"]
theorem sc_targets_at : FnScope N_targets_at ["word"] (defScope s_targets_at) := ⟨rfl, rfl, rfl, by decide +kernel, rfl, by decide +kernel, by decide +kernel⟩
abbrev N_is_row : List Str := ["value", "index", "many", "word", "target"]
theorem sc_is_row : FnScope N_is_row ["value", "index", "many"] (defScope s_is_row) := ⟨rfl, rfl, rfl, by decide +kernel, rfl, by decide +kernel, by decide +kernel⟩
abbrev N_c_Program_init : List Str := ["self", "rows", "index", "row"]
theorem sc_c_Program_init : FnScope N_c_Program_init ["self", "rows"] (defScope s_c_Program_init) := ⟨rfl, rfl, rfl, by decide +kernel, rfl, by decide +kernel, by decide +kernel⟩
abbrev N_c_Side_init : List Str := ["self", "listing", "row", "hand", "heard", "part", "told", "had", "replies"]
theorem sc_c_Side_init : FnScope N_c_Side_init ["self", "listing", "row", "hand", "heard", "part", "told", "had", "replies"] (defScope s_c_Side_init) := ⟨rfl, rfl, rfl, by decide +kernel, rfl, by decide +kernel, by decide +kernel⟩
abbrev N_c_Program_rows : List Str := ["self"]
theorem sc_c_Program_rows : FnScope N_c_Program_rows ["self"] (defScope s_c_Program_rows) := ⟨rfl, rfl, rfl, by decide +kernel, rfl, by decide +kernel, by decide +kernel⟩
abbrev N_sides_of : List Str := ["first", "second", "stand", "found", "program", "part"]
theorem sc_sides_of : FnScope N_sides_of ["first", "second", "stand"] (defScope s_sides_of) := ⟨rfl, rfl, rfl, by decide +kernel, rfl, by decide +kernel, by decide +kernel⟩
abbrev N_c_Side_has_ended : List Str := ["self"]
theorem sc_c_Side_has_ended : FnScope N_c_Side_has_ended ["self"] (defScope s_c_Side_has_ended) := ⟨rfl, rfl, rfl, by decide +kernel, rfl, by decide +kernel, by decide +kernel⟩
abbrev N_c_Side_word : List Str := ["self"]
theorem sc_c_Side_word : FnScope N_c_Side_word ["self"] (defScope s_c_Side_word) := ⟨rfl, rfl, rfl, by decide +kernel, rfl, by decide +kernel, by decide +kernel⟩
abbrev N_c_Side_after : List Str := ["self", "changes", "values"]
theorem sc_c_Side_after : FnScope N_c_Side_after ["self", "changes"] (defScope s_c_Side_after) := ⟨rfl, rfl, rfl, by decide +kernel, rfl, by decide +kernel, by decide +kernel⟩
abbrev N_c_Side_passed : List Str := ["self", "word", "goal"]
theorem sc_c_Side_passed : FnScope N_c_Side_passed ["self"] (defScope s_c_Side_passed) := ⟨rfl, rfl, rfl, by decide +kernel, rfl, by decide +kernel, by decide +kernel⟩
abbrev N_c_Side_has_given : List Str := ["self"]
theorem sc_c_Side_has_given : FnScope N_c_Side_has_given ["self"] (defScope s_c_Side_has_given) := ⟨rfl, rfl, rfl, by decide +kernel, rfl, by decide +kernel, by decide +kernel⟩
abbrev N_c_Side_answer : List Str := ["self", "is_over", "is_write"]
theorem sc_c_Side_answer : FnScope N_c_Side_answer ["self", "is_over"] (defScope s_c_Side_answer) := ⟨rfl, rfl, rfl, by decide +kernel, rfl, by decide +kernel, by decide +kernel⟩
abbrev N_c_Side_answered : List Str := ["self", "answer", "row", "told", "had", "goal", "heard", "replies"]
theorem sc_c_Side_answered : FnScope N_c_Side_answered ["self", "answer"] (defScope s_c_Side_answered) := ⟨rfl, rfl, rfl, by decide +kernel, rfl, by decide +kernel, by decide +kernel⟩
abbrev N_c_Side_gone : List Str := ["self", "is_over", "answer"]
theorem sc_c_Side_gone : FnScope N_c_Side_gone ["self", "is_over"] (defScope s_c_Side_gone) := ⟨rfl, rfl, rfl, by decide +kernel, rfl, by decide +kernel, by decide +kernel⟩
abbrev N_c_Side_is_free : List Str := ["self", "words"]
theorem sc_c_Side_is_free : FnScope N_c_Side_is_free ["self", "words"] (defScope s_c_Side_is_free) := ⟨rfl, rfl, rfl, by decide +kernel, rfl, by decide +kernel, by decide +kernel⟩
abbrev N_c_Side_left : List Str := ["self", "row"]
theorem sc_c_Side_left : FnScope N_c_Side_left ["self"] (defScope s_c_Side_left) := ⟨rfl, rfl, rfl, by decide +kernel, rfl, by decide +kernel, by decide +kernel⟩
abbrev N_most_read : List Str := ["side", "left"]
theorem sc_most_read : FnScope N_most_read ["side"] (defScope s_most_read) := ⟨rfl, rfl, rfl, by decide +kernel, rfl, by decide +kernel, by decide +kernel⟩
abbrev N_c_Side_moved : List Str := ["self", "many", "later"]
theorem sc_c_Side_moved : FnScope N_c_Side_moved ["self", "many"] (defScope s_c_Side_moved) := ⟨rfl, rfl, rfl, by decide +kernel, rfl, by decide +kernel, by decide +kernel⟩
abbrev N_write_end : List Str := ["mine", "other", "most", "need"]
theorem sc_write_end : FnScope N_write_end ["mine", "other"] (defScope s_write_end) := ⟨rfl, rfl, rfl, by decide +kernel, rfl, by decide +kernel, by decide +kernel⟩
abbrev N_most_written : List Str := ["side"]
theorem sc_most_written : FnScope N_most_written ["side"] (defScope s_most_written) := ⟨rfl, rfl, rfl, by decide +kernel, rfl, by decide +kernel, by decide +kernel⟩
abbrev N_read_ends : List Str := ["mine", "other", "found", "left"]
theorem sc_read_ends : FnScope N_read_ends ["mine", "other"] (defScope s_read_ends) := ⟨rfl, rfl, rfl, by decide +kernel, rfl, by decide +kernel, by decide +kernel⟩
abbrev N_row_ends : List Str := ["mine", "other", "later"]
theorem sc_row_ends : FnScope N_row_ends ["mine", "other"] (defScope s_row_ends) := ⟨rfl, rfl, rfl, by decide +kernel, rfl, by decide +kernel, by decide +kernel⟩
abbrev N_stand_of : List Str := ["sides", "fates", "found", "side", "fate"]
theorem sc_stand_of : FnScope N_stand_of ["sides", "fates"] (defScope s_stand_of) := ⟨rfl, rfl, rfl, by decide +kernel, rfl, by decide +kernel, by decide +kernel⟩
abbrev N_replaced : List Str := ["pair", "index", "value"]
theorem sc_replaced : FnScope N_replaced ["pair", "index", "value"] (defScope s_replaced) := ⟨rfl, rfl, rfl, by decide +kernel, rfl, by decide +kernel, by decide +kernel⟩
abbrev N_reset_fates : List Str := ["mine", "other", "most", "found"]
theorem sc_reset_fates : FnScope N_reset_fates ["mine", "other"] (defScope s_reset_fates) := ⟨rfl, rfl, rfl, by decide +kernel, rfl, by decide +kernel, by decide +kernel⟩
abbrev N_c_Side_reset : List Str := ["self"]
theorem sc_c_Side_reset : FnScope N_c_Side_reset ["self"] (defScope s_c_Side_reset) := ⟨rfl, rfl, rfl, by decide +kernel, rfl, by decide +kernel, by decide +kernel⟩
abbrev N_moves : List Str := ["first", "second", "stand", "sides", "fates", "found", "side", "mine", "other", "need", "kind", "later", "least", "fate", "later_fates"]
theorem sc_moves : FnScope N_moves ["first", "second", "stand"] (defScope s_moves) := ⟨rfl, rfl, rfl, by decide +kernel, rfl, by decide +kernel, by decide +kernel⟩
abbrev N_fits : List Str := ["least", "rooms", "need", "room"]
theorem sc_fits : FnScope N_fits ["least", "rooms"] (defScope s_fits) := ⟨rfl, rfl, rfl, by decide +kernel, rfl, by decide +kernel, by decide +kernel⟩
abbrev N_moves_at : List Str := ["first", "second", "rooms", "stand", "move"]
theorem sc_moves_at : FnScope N_moves_at ["first", "second", "rooms", "stand"] (defScope s_moves_at) := ⟨rfl, rfl, rfl, by decide +kernel, rfl, by decide +kernel, by decide +kernel⟩
abbrev N_next_stands : List Str := ["first", "second", "rooms", "stand", "found", "kind", "side", "after"]
theorem sc_next_stands : FnScope N_next_stands ["first", "second", "rooms", "stand"] (defScope s_next_stands) := ⟨rfl, rfl, rfl, by decide +kernel, rfl, by decide +kernel, by decide +kernel⟩
abbrev N_reached : List Str := ["first", "second", "rooms", "found", "waiting", "after"]
theorem sc_reached : FnScope N_reached ["first", "second", "rooms"] (defScope s_reached) := ⟨rfl, rfl, rfl, by decide +kernel, rfl, by decide +kernel, by decide +kernel⟩
abbrev N_sure : List Str := ["first", "second", "side", "found", "stand", "row", "fate", "told", "had", "is_sure"]
theorem sc_sure : FnScope N_sure ["first", "second", "side"] (defScope s_sure) := ⟨rfl, rfl, rfl, by decide +kernel, rfl, by decide +kernel, by decide +kernel⟩
abbrev N_w_both : List Str := ["_law_one", "_law_two", "_law_made", "_law_side"]
theorem sc_w_both : FnScope N_w_both ["_law_one", "_law_two"] (defScope s_w_both) := ⟨rfl, rfl, rfl, by decide +kernel, rfl, by decide +kernel, by decide +kernel⟩
abbrev N_w_is_right : List Str := ["_law_n", "_law_client", "_law_server", "_law_drained", "_law_asker", "_law_teller", "_law_writer", "_law_reader"]
theorem sc_w_is_right : FnScope N_w_is_right ["_law_n"] (defScope s_w_is_right) := ⟨rfl, rfl, rfl, by decide +kernel, rfl, by decide +kernel, by decide +kernel⟩
abbrev N_law : List Str := ["_law_script", "_law_n", "_law_many"]
theorem sc_law : FnScope N_law ["_law_script"] (defScope s_law) := ⟨rfl, rfl, rfl, by decide +kernel, rfl, by decide +kernel, by decide +kernel⟩
structure Txt (K : PySem.W.Frag) (w : World) (mg : Str → Option Value) : Prop where
  z_isinstance : mg "isinstance" = none
  z_int : mg "int" = none
  z_bool : mg "bool" = none
  z_tuple : mg "tuple" = none
  z_len : mg "len" = none
  z_str : mg "str" = none
  gc_WORDS : GCon ⟨K, w⟩ mg "WORDS" (.ktp [.str "write", .str "read", .str "drain", .str "stop", .str "close", .str "abort", .str "done", .str "fail"])
  kt_SIZES : KTab ⟨K, w⟩ w mg "SIZES" [("write", .int 3), ("read", .int 4), ("drain", .int 2)]
  g_is_integer : mg "is_integer" = some (.ref (He.ga K "is_integer"))
  gc_MOST_AMOUNT : GCon ⟨K, w⟩ mg "MOST_AMOUNT" (.int 1000000000000000000)
  z_all : mg "all" = none
  g_targets_at : mg "targets_at" = some (.ref (He.ga K "targets_at"))
  z_list : mg "list" = none
  gc_MOST_ROWS : GCon ⟨K, w⟩ mg "MOST_ROWS" (.int 24)
  z_enumerate : mg "enumerate" = none
  g_is_row : mg "is_row" = some (.ref (He.ga K "is_row"))
  gc_VERDICTS : GCon ⟨K, w⟩ mg "VERDICTS" (.ktp [.str "done", .str "fail"])
  cl_Program : Cls K (He.ga K "Program")
  n_Program_listed : NoAttr K (He.ga K "Program") "listed"
  cl_Side : Cls K (He.ga K "Side")
  n_Side_listing : NoAttr K (He.ga K "Side") "listing"
  n_Side_row : NoAttr K (He.ga K "Side") "row"
  n_Side_hand : NoAttr K (He.ga K "Side") "hand"
  n_Side_heard : NoAttr K (He.ga K "Side") "heard"
  n_Side_part : NoAttr K (He.ga K "Side") "part"
  n_Side_told : NoAttr K (He.ga K "Side") "told"
  n_Side_had : NoAttr K (He.ga K "Side") "had"
  n_Side_replies : NoAttr K (He.ga K "Side") "replies"
  t_c_Side_init_replies : kd K (.ref (kwdV K (He.ma K (He.ga K "Side") "__init__") "replies")) (.ktp []) = true
  mk_Side : Mk K (He.ga K "Side") (He.ma K (He.ga K "Side") "__init__")
  g_Side : mg "Side" = some (.ref (He.ga K "Side"))
  p_c_Program_rows : PropOf K (He.ga K "Program") "rows" (cmP K "Program" "rows") (recAd K (cmP K "Program" "rows") "property")
  e_c_Side_has_ended : Meth K (He.ga K "Side") "has_ended" (He.ma K (He.ga K "Side") "has_ended")
  e_c_Side_word : Meth K (He.ga K "Side") "word" (He.ma K (He.ga K "Side") "word")
  e_c_Side_after : Meth K (He.ga K "Side") "after" (He.ma K (He.ga K "Side") "after")
  pt_HANDS : PTab K w mg "HANDS" tabX
  gc_GIVEN : GCon ⟨K, w⟩ mg "GIVEN" (.ktp [.str "closed", .str "aborted", .str "cut"])
  e_c_Side_has_given : Meth K (He.ga K "Side") "has_given" (He.ma K (He.ga K "Side") "has_given")
  gc_CALLS : GCon ⟨K, w⟩ mg "CALLS" (.ktp [.str "write", .str "read", .str "drain"])
  e_c_Side_passed : Meth K (He.ga K "Side") "passed" (He.ma K (He.ga K "Side") "passed")
  e_c_Side_answer : Meth K (He.ga K "Side") "answer" (He.ma K (He.ga K "Side") "answer")
  e_c_Side_answered : Meth K (He.ga K "Side") "answered" (He.ma K (He.ga K "Side") "answered")
  e_c_Side_is_free : Meth K (He.ga K "Side") "is_free" (He.ma K (He.ga K "Side") "is_free")
  gc_READS : GCon ⟨K, w⟩ mg "READS" (.ktp [.str "read", .str "drain"])
  e_c_Side_left : Meth K (He.ga K "Side") "left" (He.ma K (He.ga K "Side") "left")
  g_most_read : mg "most_read" = some (.ref (He.ga K "most_read"))
  z_max : mg "max" = none
  e_c_Side_moved : Meth K (He.ga K "Side") "moved" (He.ma K (He.ga K "Side") "moved")
  g_most_written : mg "most_written" = some (.ref (He.ga K "most_written"))
  gc_ENDED : GCon ⟨K, w⟩ mg "ENDED" (.ktp [.str "stopped", .str "closed", .str "cut"])
  e_c_Side_gone : Meth K (He.ga K "Side") "gone" (He.ma K (He.ga K "Side") "gone")
  g_write_end : mg "write_end" = some (.ref (He.ga K "write_end"))
  g_read_ends : mg "read_ends" = some (.ref (He.ga K "read_ends"))
  z_zip : mg "zip" = none
  gc_HARD : GCon ⟨K, w⟩ mg "HARD" (.ktp [.str "aborted", .str "cut"])
  g_sides_of : mg "sides_of" = some (.ref (He.ga K "sides_of"))
  g_row_ends : mg "row_ends" = some (.ref (He.ga K "row_ends"))
  g_stand_of : mg "stand_of" = some (.ref (He.ga K "stand_of"))
  g_replaced : mg "replaced" = some (.ref (He.ga K "replaced"))
  g_reset_fates : mg "reset_fates" = some (.ref (He.ga K "reset_fates"))
  e_c_Side_reset : Meth K (He.ga K "Side") "reset" (He.ma K (He.ga K "Side") "reset")
  g_moves : mg "moves" = some (.ref (He.ga K "moves"))
  g_fits : mg "fits" = some (.ref (He.ga K "fits"))
  g_moves_at : mg "moves_at" = some (.ref (He.ga K "moves_at"))
  gc_FIRST : GCon ⟨K, w⟩ mg "FIRST" (.ktp [.ktp [.int 0, .str "open", .str "", .int 0, .int 0, .str ""], .ktp [.int 0, .str "open", .str "", .int 0, .int 0, .str ""]])
  g_next_stands : mg "next_stands" = some (.ref (He.ga K "next_stands"))
  g_reached : mg "reached" = some (.ref (He.ga K "reached"))
  z_sorted : mg "sorted" = none
  mk_Program : Mk K (He.ga K "Program") (He.ma K (He.ga K "Program") "__init__")
  g_Program : mg "Program" = some (.ref (He.ga K "Program"))
  g_sure : mg "sure" = some (.ref (He.ga K "sure"))
  g_w_both : mg "_law_both" = some (.ref (He.ga K "_law_both"))
  z_abs : mg "abs" = none
  g_w_is_right : mg "_law_is_right" = some (.ref (He.ga K "_law_is_right"))
section
variable {P : Program} {w : World} {K : PySem.W.Frag} {mg : Str → Option Value} {base : Heap}
theorem ok_is_integer (T : Txt K w mg) {fd : FuncData} (W : Fd K "is_integer" "is_integer" s_is_integer [] (He.ga K "is_integer") fd) :
    FnOk P w K mg base CX0 1 (He.ga K "is_integer") fd ["value", "least", "most"] (spF ⟨K, w⟩ (f_is_integer)) := by
  refine okD (k := 0) (N := N_is_integer) (ps := ["value", "least", "most"]) W sc_is_integer (by decide) (fun cdv A outer s H E g hr => ?_)
  have nd := sc_is_integer.nd
  have hu := hr.units
  exact dss_one (ds_ret (de_and (de_callB call_isi (ok_isi (fun C h => nomatch h)) (by rfl) T.z_isinstance (by decide +kernel) (da_c (do_v (de_v (pv 0))) (da_c (do_v (de_bty (pe_bltn (by rfl) T.z_int (by decide +kernel) rfl))) (da_n)))) (de_and (de_not (de_callB call_isi (ok_isi (fun C h => nomatch h)) (by rfl) T.z_isinstance (by decide +kernel) (da_c (do_v (de_v (pv 0))) (da_c (do_v (de_bty (pe_bltn (by rfl) T.z_bool (by decide +kernel) rfl))) (da_n))))) (de_one (de_chain ok_le ok_le (pe_chain op_le op_le (do_v (de_v (pv 1))) (do_v (de_v (pv 0))) (do_v (de_v (pv 2)))))))))
theorem ok_targets_at (T : Txt K w mg) {fd : FuncData} (W : Fd K "targets_at" "targets_at" s_targets_at [] (He.ga K "targets_at") fd) :
    FnOk P w K mg base CX0 1 (He.ga K "targets_at") fd ["word"] (spF ⟨K, w⟩ (f_targets_at)) := by
  refine okD (k := 0) (N := N_targets_at) (ps := ["word"]) W sc_targets_at (by decide) (fun cdv A outer s H E g hr => ?_)
  have nd := sc_targets_at.nd
  have hu := hr.units
  exact dss_one (ds_ret (de_if (dt_cmp (op_eqD hu) ok_eq (do_v (de_v (pv 0))) (do_v (de_str)) (nomark _)) (de_int) (de_int)))
theorem ok_is_row (T : Txt K w mg) {fd : FuncData} (W : Fd K "is_row" "is_row" s_is_row [] (He.ga K "is_row") fd)
    {fd_is_integer : FuncData} (D_is_integer : Done P w K mg base 1 (He.ga K "is_integer") ["value", "least", "most"] (f_is_integer) [] fd_is_integer)
    {fd_targets_at : FuncData} (D_targets_at : Done P w K mg base 1 (He.ga K "targets_at") ["word"] (f_targets_at) [] fd_targets_at) :
    FnOk P w K mg base CX0 2 (He.ga K "is_row") fd ["value", "index", "many"] (spF ⟨K, w⟩ (f_is_row)) := by
  have G_is_integer := D_is_integer.ok
  have G_targets_at := D_targets_at.ok
  refine okD (k := 1) (N := N_is_row) (ps := ["value", "index", "many"]) W sc_is_row (by decide) (fun cdv A outer s H E g hr => ?_)
  have nd := sc_is_row.nd
  have hu := hr.units
  exact dss_cons (ds_if (dt_w (dw_or (dt_not (dt_v (de_callB call_isi (ok_isi (fun C h => nomatch h)) (by rfl) T.z_isinstance (by decide +kernel) (da_c (do_v (de_v (pv 0))) (da_c (do_v (de_bty (pe_bltn (by rfl) T.z_tuple (by decide +kernel) rfl))) (da_n)))))) (dw_or (dt_cmp (op_eqD hu) ok_eq (do_v (de_callB call_len ok_len (by rfl) T.z_len (by decide +kernel) (da_c (do_v (de_v (pv 0))) (da_n)))) (do_v (de_int)) (nomark _)) (dw_or (dt_not (dt_v (de_callB call_isi (ok_isi (fun C h => nomatch h)) (by rfl) T.z_isinstance (by decide +kernel) (da_c (do_v (de_ix ix_seq ok_ix (do_v (de_v (pv 0))) (do_v (de_int)))) (da_c (do_v (de_bty (pe_bltn (by rfl) T.z_str (by decide +kernel) rfl))) (da_n)))))) (dw_or1 (dt_cmp op_notIn_seq ok_in (do_v (de_ix ix_seq ok_ix (do_v (de_v (pv 0))) (do_v (de_int)))) (do_v (de_gc (by rfl) T.gc_WORDS)))))))) (dss_one (ds_ret (de_bl))) (dss_nil))
    (dss_cons (ds_set nd rfl (by first | exact Or.inl rfl | exact Or.inr rfl) (de_ix ix_seq ok_ix (do_v (de_v (pv 0))) (do_v (de_int))))
    (dss_cons (ds_if (dt_cmp (op_neD hu) ok_ne (do_v (de_callB call_len ok_len (by rfl) T.z_len (by decide +kernel) (da_c (do_v (de_v (pv 0))) (da_n)))) (do_v (de_kget2 (by rfl) T.kt_SIZES (de_v (pv 3)) (de_int) ⟨by rfl, by rfl, by rfl, by rfl⟩)) (nomark _)) (dss_one (ds_ret (de_bl))) (dss_nil))
    (dss_cons (ds_if (dt_w (dw_and (dt_cmp op_in_seq ok_in (do_v (de_v (pv 3))) (do_v (de_tup (da_c (do_v (de_str)) (da_c (do_v (de_str)) (da_n))) (la_c (la_c (la_n)))))) (dw_and1 (dt_not (dt_v (de_call G_is_integer (hr.mono (by decide)) (by rfl) T.g_is_integer D_is_integer.kp D_is_integer.bd .nil (fun _ => .nil) pass0 (da_c (do_v (de_ix ix_seq ok_ix (do_v (de_v (pv 0))) (do_v (de_int)))) (da_c (do_v (de_int)) (da_c (do_v (de_gc (by rfl) T.gc_MOST_AMOUNT)) (da_n)))))))))) (dss_one (ds_ret (de_bl))) (dss_nil))
    (dss_one (ds_ret (de_callB (cr_all rfl) ok_all (by rfl) T.z_all (by decide +kernel) (da_c (do_v (de_n (dn_lc (own := [("target", 4)]) rfl nd (di_tup (de_sl (do_v (de_v (pv 0))) (db_s (de_call G_targets_at (hr.mono (by decide)) (by rfl) T.g_targets_at D_targets_at.kp D_targets_at.bd .nil (fun _ => .nil) pass0 (da_c (do_v (de_v (pv 3))) (da_n)))) (db_n))) (blkOk_by (own := [("target", 4)]) (N := N_is_row) (sc := defScope s_is_row) (by decide +kernel)) (fun _ _ _ _ _ g => dg_n nd rfl (by first | exact Or.inl rfl | exact Or.inr rfl)) (fun _ _ _ _ _ g => dts_nil) (fun _ _ _ _ _ g => de_call G_is_integer (hr.mono (by decide)) (by rfl) T.g_is_integer D_is_integer.kp D_is_integer.bd .nil (fun _ => .nil) pass0 (da_c (do_v (de_v (pv 4))) (da_c (do_v (de_bin or_add ok_add (do_v (de_v (pv 1))) (do_v (de_int)))) (da_c (do_v (de_bin op_sub ok_sub (do_v (de_v (pv 2))) (do_v (de_int)))) (da_n))))) (by decide)))) (da_n))))))))
theorem ok_c_Program_init (T : Txt K w mg) {fd : FuncData} (W : Fd K "__init__" "Program.__init__" s_c_Program_init [] (He.ma K (He.ga K "Program") "__init__") fd)
    {fd_is_row : FuncData} (D_is_row : Done P w K mg base 2 (He.ga K "is_row") ["value", "index", "many"] (f_is_row) [] fd_is_row) :
    FnOk P w K mg base CX0 3 (He.ma K (He.ga K "Program") "__init__") fd ["self", "rows"] (spF ⟨K, w⟩ (f_c_Program_init (He.ga K "Program"))) := by
  have G_is_row := D_is_row.ok
  refine okD (k := 2) (N := N_c_Program_init) (ps := ["self", "rows"]) W sc_c_Program_init (by decide) (fun cdv A outer s H E g hr => ?_)
  have nd := sc_c_Program_init.nd
  have hu := hr.units
  exact dss_cons (ds_if (dt_w (dw_or (dt_not (dt_v (de_callB call_isiT (ok_isiT (fun C h => nomatch h)) (by rfl) T.z_isinstance (by decide +kernel) (da_c (do_v (de_v (pv 1))) (da_c (do_v (de_tup (da_c (do_v (de_bty (pe_bltn (by rfl) T.z_list (by decide +kernel) rfl))) (da_c (do_v (de_bty (pe_bltn (by rfl) T.z_tuple (by decide +kernel) rfl))) (da_n))) (la_c (la_c (la_n))))) (da_n)))))) (dw_or1 (dt_not (dt_chain ok_le ok_le (pt_chain op_le op_le (do_v (de_int)) (do_v (de_callB call_len ok_len (by rfl) T.z_len (by decide +kernel) (da_c (do_v (de_v (pv 1))) (da_n)))) (do_v (de_gc (by rfl) T.gc_MOST_ROWS)))))))) (dss_one (ds_no)) (dss_nil))
    (dss_cons (ds_for PassesOwn.never rfl (di_enum (by rfl) T.z_enumerate (da_c (do_v (de_v (pv 1))) (da_n))) (dg_tup rfl (dgs_cons (dg_n nd rfl (by first | exact Or.inl rfl | exact Or.inr rfl)) (dgs_cons (dg_n nd rfl (by first | exact Or.inl rfl | exact Or.inr rfl)) (dgs_nil)))) (dss_one (ds_if (dt_not (dt_v (de_call G_is_row (hr.mono (by decide)) (by rfl) T.g_is_row D_is_row.kp D_is_row.bd .nil (fun _ => .nil) pass0 (da_c (do_v (de_v (pv 3))) (da_c (do_v (de_v (pv 2))) (da_c (do_v (de_callB call_len ok_len (by rfl) T.z_len (by decide +kernel) (da_c (do_v (de_v (pv 1))) (da_n)))) (da_n))))))) (dss_one (ds_no)) (dss_nil))))
    (dss_cons (ds_if (dt_cmp op_notIn_seq ok_in (do_v (de_ix ix_seq ok_ix (do_v (de_ix ix_seq ok_ix (do_v (de_v (pv 1))) (do_v (de_un un_neg ok_neg (do_v (de_int)))))) (do_v (de_int)))) (do_v (de_gc (by rfl) T.gc_VERDICTS))) (dss_one (ds_no)) (dss_nil))
    (dss_one (ds_fld T.cl_Program T.n_Program_listed (ps_fld (pv 0) (de_callTy call_tuple_of ok_tuple (by rfl) T.z_tuple (by decide +kernel) (da_c (do_v (de_v (pv 1))) (da_n))) rfl)))))
theorem repm_c_Side_init (T : Txt K w mg) (F : Hp) : Reps ⟨K, w⟩ F [.int 0, .ref (kwdV K (He.ma K (He.ga K "Side") "__init__") "replies")] [.int 0, .ktp []] := .cons .int (.cons (kdR_ok T.t_c_Side_init_replies F) (.nil))
theorem ok_c_Side_init (T : Txt K w mg) {fd : FuncData} (W : FunD K "__init__" "Side.__init__" (defArgs s_c_Side_init) (defBody s_c_Side_init) (defScope s_c_Side_init) [] [("row", .int 0), ("hand", .str "open"), ("heard", .str ""), ("part", .int 0), ("told", .int 0), ("had", .int 0), ("replies", .ref (kwdV K (He.ma K (He.ga K "Side") "__init__") "replies"))] (He.ma K (He.ga K "Side") "__init__") fd) :
    FnOk P w K mg base CX0 1 (He.ma K (He.ga K "Side") "__init__") fd ["self", "listing", "row", "hand", "heard", "part", "told", "had", "replies"] (spF ⟨K, w⟩ (f_c_Side_init (He.ga K "Side"))) := by
  refine okD (k := 0) (N := N_c_Side_init) (ps := ["self", "listing", "row", "hand", "heard", "part", "told", "had", "replies"]) W sc_c_Side_init (by decide) (fun cdv A outer s H E g hr => ?_)
  have nd := sc_c_Side_init.nd
  have hu := hr.units
  exact dss_cons (ds_fld T.cl_Side T.n_Side_listing (ps_fld (pv 0) (de_v (pv 1)) rfl))
    (dss_cons (ds_fld T.cl_Side T.n_Side_row (ps_fld (pv 0) (de_v (pv 2)) rfl))
    (dss_cons (ds_fld T.cl_Side T.n_Side_hand (ps_fld (pv 0) (de_v (pv 3)) rfl))
    (dss_cons (ds_fld T.cl_Side T.n_Side_heard (ps_fld (pv 0) (de_v (pv 4)) rfl))
    (dss_cons (ds_fld T.cl_Side T.n_Side_part (ps_fld (pv 0) (de_v (pv 5)) rfl))
    (dss_cons (ds_fld T.cl_Side T.n_Side_told (ps_fld (pv 0) (de_v (pv 6)) rfl))
    (dss_cons (ds_fld T.cl_Side T.n_Side_had (ps_fld (pv 0) (de_v (pv 7)) rfl))
    (dss_one (ds_fld T.cl_Side T.n_Side_replies (ps_fld (pv 0) (de_v (pv 8)) rfl)))))))))
theorem ok_c_Program_rows (T : Txt K w mg) {fd : FuncData} (W : Fd K "rows" "Program.rows" s_c_Program_rows [] (recAd K (cmP K "Program" "rows") "property") fd) :
    FnOk P w K mg base CX0 1 (recAd K (cmP K "Program" "rows") "property") fd ["self"] (spF ⟨K, w⟩ (f_c_Program_rows (He.ga K "Program"))) := by
  refine okD (k := 0) (N := N_c_Program_rows) (ps := ["self"]) W sc_c_Program_rows (by decide) (fun cdv A outer s H E g hr => ?_)
  have nd := sc_c_Program_rows.nd
  have hu := hr.units
  exact dss_one (ds_ret (de_fld T.cl_Program T.n_Program_listed (pe_fld (do_v (de_v (pv 0))) rfl)))
theorem ok_sides_of (T : Txt K w mg) {fd : FuncData} (W : Fd K "sides_of" "sides_of" s_sides_of [] (He.ga K "sides_of") fd)
    {fd_c_Side_init : FuncData} (D_c_Side_init : DoneK P w K mg base 1 (He.ma K (He.ga K "Side") "__init__") ["self", "listing", "row", "hand", "heard", "part", "told", "had", "replies"] 2 ["row", "hand", "heard", "part", "told", "had", "replies"] (f_c_Side_init (He.ga K "Side")) [.int 0, .str "open", .str "", .int 0, .int 0, .int 0, .ref (kwdV K (He.ma K (He.ga K "Side") "__init__") "replies")] fd_c_Side_init)
    (M_c_Side_init : DoneM K ["self", "listing", "row", "hand", "heard", "part", "told", "had", "replies"] 2 ["row", "hand", "heard", "told", "had"] [true, true, true, false, true, true, false] [.int 0, .ref (kwdV K (He.ma K (He.ga K "Side") "__init__") "replies")] fd_c_Side_init)
    {fd_c_Program_rows : FuncData} (D_c_Program_rows : Done P w K mg base 1 (recAd K (cmP K "Program" "rows") "property") ["self"] (f_c_Program_rows (He.ga K "Program")) [] fd_c_Program_rows) :
    FnOk P w K mg base CX0 3 (He.ga K "sides_of") fd ["first", "second", "stand"] (spF ⟨K, w⟩ (f_sides_of (He.ga K "Program") (He.ga K "Side"))) := by
  have G_c_Side_init := D_c_Side_init.ok
  obtain ⟨mv_c_Side_init, km_c_Side_init⟩ := M_c_Side_init.kb
  have G_c_Program_rows := D_c_Program_rows.ok
  refine okD (k := 2) (N := N_sides_of) (ps := ["first", "second", "stand"]) W sc_sides_of (by decide) (fun cdv A outer s H E g hr => ?_)
  have nd := sc_sides_of.nd
  have hu := hr.units
  exact dss_cons (ds_own nd rfl (by first | exact Or.inl rfl | exact Or.inr rfl) (dn_lst (da_n) (la_n)))
    (dss_cons (ds_for PassesOwn.never rfl (di_tup (de_tup (da_c (do_v (de_tup (da_c (do_v (de_v (pv 0))) (da_c (do_v (de_ix ix_seq ok_ix (do_v (de_v (pv 2))) (do_v (de_int)))) (da_n))) (la_c (la_c (la_n))))) (da_c (do_v (de_tup (da_c (do_v (de_v (pv 1))) (da_c (do_v (de_ix ix_seq ok_ix (do_v (de_v (pv 2))) (do_v (de_int)))) (da_n))) (la_c (la_c (la_n))))) (da_n))) (la_c (la_c (la_n))))) (dg_tup rfl (dgs_cons (dg_n nd rfl (by first | exact Or.inl rfl | exact Or.inr rfl)) (dgs_cons (dg_n nd rfl (by first | exact Or.inl rfl | exact Or.inr rfl)) (dgs_nil)))) (dss_one (ds_app (pe_bm PySem.F.plainAttrs_list PySem.F.slot_list_append PySem.F.type_list_append mt_append (pv 3) (pa_cons (de_n (dn_makeK (E := E0) (n := 1) (m := 5) (pat := [true, true, true, false, true, true, false]) (dds := [.int 0, .ktp []]) (repm_c_Side_init T) (pe_makeK (CX := CX0) (k := 1) (ks := ["row", "hand", "heard", "told", "had"]) T.mk_Side G_c_Side_init (hr.mono (by decide)) (by rfl) T.g_Side km_c_Side_init pass0 (da_c (do_v (de_prop (fun _ => .nil) (pe_prop (do_v (de_v (pv 4))) T.cl_Program T.p_c_Program_rows G_c_Program_rows (hr.mono (by decide)) D_c_Program_rows.bd .nil pass0 (by rfl)))) (da_n)) (dk_c (do_v (de_ix ix_seq ok_ix (do_v (de_v (pv 5))) (do_v (de_int)))) (dk_c (do_v (de_ix ix_seq ok_ix (do_v (de_v (pv 5))) (do_v (de_int)))) (dk_c (do_v (de_ix ix_seq ok_ix (do_v (de_v (pv 5))) (do_v (de_int)))) (dk_c (do_v (de_ix ix_seq ok_ix (do_v (de_v (pv 5))) (do_v (de_int)))) (dk_c (do_v (de_ix ix_seq ok_ix (do_v (de_v (pv 5))) (do_v (de_int)))) (dk_n))))))) (la_c (la_n)))) pa_nil)))))
    (dss_one (ds_retO (pv 3))))
theorem ok_c_Side_has_ended (T : Txt K w mg) {fd : FuncData} (W : Fd K "has_ended" "Side.has_ended" s_c_Side_has_ended [] (He.ma K (He.ga K "Side") "has_ended") fd) :
    FnOk P w K mg base CX0 1 (He.ma K (He.ga K "Side") "has_ended") fd ["self"] (spF ⟨K, w⟩ (f_c_Side_has_ended (He.ga K "Side"))) := by
  refine okD (k := 0) (N := N_c_Side_has_ended) (ps := ["self"]) W sc_c_Side_has_ended (by decide) (fun cdv A outer s H E g hr => ?_)
  have nd := sc_c_Side_has_ended.nd
  have hu := hr.units
  exact dss_one (ds_ret (de_callB call_isi (ok_isi (fun C h => nomatch h)) (by rfl) T.z_isinstance (by decide +kernel) (da_c (do_v (de_fld T.cl_Side T.n_Side_row (pe_fld (do_v (de_v (pv 0))) rfl))) (da_c (do_v (de_bty (pe_bltn (by rfl) T.z_str (by decide +kernel) rfl))) (da_n)))))
theorem ok_c_Side_word (T : Txt K w mg) {fd : FuncData} (W : Fd K "word" "Side.word" s_c_Side_word [] (He.ma K (He.ga K "Side") "word") fd)
    {fd_c_Side_has_ended : FuncData} (D_c_Side_has_ended : Done P w K mg base 1 (He.ma K (He.ga K "Side") "has_ended") ["self"] (f_c_Side_has_ended (He.ga K "Side")) [] fd_c_Side_has_ended) :
    FnOk P w K mg base CX0 2 (He.ma K (He.ga K "Side") "word") fd ["self"] (spF ⟨K, w⟩ (f_c_Side_word (He.ga K "Side"))) := by
  have G_c_Side_has_ended := D_c_Side_has_ended.ok
  refine okD (k := 1) (N := N_c_Side_word) (ps := ["self"]) W sc_c_Side_word (by decide) (fun cdv A outer s H E g hr => ?_)
  have nd := sc_c_Side_word.nd
  have hu := hr.units
  exact dss_one (ds_ret (de_if (dt_v (de_meth (fun _ => .nil) (pe_me0 (pe_meth0 (do_v (de_v (pv 0))) T.cl_Side T.e_c_Side_has_ended G_c_Side_has_ended (hr.mono (by decide)) D_c_Side_has_ended.bd .nil pass0)))) (de_str) (de_ix ix_seq ok_ix (do_v (de_ix ix_seq ok_ix (do_v (de_fld T.cl_Side T.n_Side_listing (pe_fld (do_v (de_v (pv 0))) rfl))) (do_v (de_fld T.cl_Side T.n_Side_row (pe_fld (do_v (de_v (pv 0))) rfl))))) (do_v (de_int)))))
theorem ok_c_Side_after (T : Txt K w mg) {fd : FuncData} (W : Fd K "after" "Side.after" s_c_Side_after [] (He.ma K (He.ga K "Side") "after") fd)
    {fd_c_Side_init : FuncData} (D_c_Side_init : DoneK P w K mg base 1 (He.ma K (He.ga K "Side") "__init__") ["self", "listing", "row", "hand", "heard", "part", "told", "had", "replies"] 2 ["row", "hand", "heard", "part", "told", "had", "replies"] (f_c_Side_init (He.ga K "Side")) [.int 0, .str "open", .str "", .int 0, .int 0, .int 0, .ref (kwdV K (He.ma K (He.ga K "Side") "__init__") "replies")] fd_c_Side_init) :
    FnKw P w K mg base 3 "self" (He.ma K (He.ga K "Side") "after") (spF ⟨K, w⟩ (f_c_Side_after (He.ga K "Side"))) := by
  have G_c_Side_init := D_c_Side_init.ok
  refine fn_kw (k := 2) (p1 := (defArgs s_c_Side_after).args.headD { arg := "", annotation := none, pos := default }) (pd := (defArgs s_c_Side_after).kwarg.getD { arg := "", annotation := none, pos := default }) W sc_c_Side_after rfl rfl rfl rfl rfl (bodyD (x := "") (N := N_c_Side_after) (n := 2) (by decide) (fun cdv A outer s H E g hr => ?_))
  have nd := sc_c_Side_after.nd
  have hu := hr.units
  exact dss_cons (ds_set nd rfl (by first | exact Or.inl rfl | exact Or.inr rfl) (de_n (dn_dspM2 (pps_cons (pex fun g => de_str) (pex fun g => de_fld T.cl_Side T.n_Side_row (pe_fld (do_v (de_v (pv 0))) rfl)) (pps_cons (pex fun g => de_str) (pex fun g => de_fld T.cl_Side T.n_Side_hand (pe_fld (do_v (de_v (pv 0))) rfl)) (pps_cons (pex fun g => de_str) (pex fun g => de_fld T.cl_Side T.n_Side_heard (pe_fld (do_v (de_v (pv 0))) rfl)) (pps_cons (pex fun g => de_str) (pex fun g => de_fld T.cl_Side T.n_Side_part (pe_fld (do_v (de_v (pv 0))) rfl)) (pps_cons (pex fun g => de_str) (pex fun g => de_fld T.cl_Side T.n_Side_told (pe_fld (do_v (de_v (pv 0))) rfl)) (pps_cons (pex fun g => de_str) (pex fun g => de_fld T.cl_Side T.n_Side_had (pe_fld (do_v (de_v (pv 0))) rfl)) (pps_cons (pex fun g => de_str) (pex fun g => de_fld T.cl_Side T.n_Side_replies (pe_fld (do_v (de_v (pv 0))) rfl)) (pps_nil)))))))) (pex fun g => de_v (pv 1)) (by rfl) (by rfl) (by rfl) (by rfl) (by rfl) (by rfl) (by rfl))))
    (dss_one (ds_retN (dn_makeD (E := E0) (KwX.pe_makeD (ks := ["row", "hand", "heard", "part", "told", "had", "replies"]) T.mk_Side G_c_Side_init (hr.mono (by decide)) (by rfl) T.g_Side D_c_Side_init.kb pass0 (da_c (do_v (de_fld T.cl_Side T.n_Side_listing (pe_fld (do_v (de_v (pv 0))) rfl))) (da_n)) (do_v (de_v (pv 2)))) (la_c (la_n)))))
theorem ok_c_Side_passed (T : Txt K w mg) {fd : FuncData} (W : Fd K "passed" "Side.passed" s_c_Side_passed [] (He.ma K (He.ga K "Side") "passed") fd)
    {fd_c_Side_word : FuncData} (D_c_Side_word : Done P w K mg base 2 (He.ma K (He.ga K "Side") "word") ["self"] (f_c_Side_word (He.ga K "Side")) [] fd_c_Side_word)
    (D_c_Side_after : DoneD P w K mg base 3 "self" (He.ma K (He.ga K "Side") "after") (f_c_Side_after (He.ga K "Side"))) :
    FnOk P w K mg base CX0 4 (He.ma K (He.ga K "Side") "passed") fd ["self"] (spF ⟨K, w⟩ (f_c_Side_passed (He.ga K "Side"))) := by
  have G_c_Side_word := D_c_Side_word.ok
  have G_c_Side_after := D_c_Side_after.ok
  refine okD (k := 3) (N := N_c_Side_passed) (ps := ["self"]) W sc_c_Side_passed (by decide) (fun cdv A outer s H E g hr => ?_)
  have nd := sc_c_Side_passed.nd
  have hu := hr.units
  exact dss_cons (ds_set nd rfl (by first | exact Or.inl rfl | exact Or.inr rfl) (de_meth (fun _ => .nil) (pe_me0 (pe_meth0 (do_v (de_v (pv 0))) T.cl_Side T.e_c_Side_word G_c_Side_word (hr.mono (by decide)) D_c_Side_word.bd .nil pass0))))
    (dss_cons (ds_set nd rfl (by first | exact Or.inl rfl | exact Or.inr rfl) (de_if (dt_cmp op_in_seq ok_in (do_v (de_v (pv 1))) (do_v (de_gc (by rfl) T.gc_VERDICTS))) (de_v (pv 1)) (de_bin or_add ok_add (do_v (de_fld T.cl_Side T.n_Side_row (pe_fld (do_v (de_v (pv 0))) rfl))) (do_v (de_int)))))
    (dss_one (ds_ret (de_kw (E := E0) (pe_methK (ks := ["row", "hand"]) (de_v (pv 0)) T.cl_Side T.e_c_Side_after G_c_Side_after (hr.mono (by decide)) (dk_c (do_v (de_v (pv 2))) (dk_c (do_v (de_tget2 (hu_of hr) (by rfl) T.pt_HANDS (de_tup (da_c (do_v (de_v (pv 1))) (da_c (do_v (de_fld T.cl_Side T.n_Side_hand (pe_fld (do_v (de_v (pv 0))) rfl))) (da_n))) (la_c (la_c (la_n)))) (de_fld T.cl_Side T.n_Side_hand (pe_fld (do_v (de_v (pv 0))) rfl)) ⟨by rfl, by rfl, by rfl, by rfl⟩)) (dk_n))))))))
theorem ok_c_Side_has_given (T : Txt K w mg) {fd : FuncData} (W : Fd K "has_given" "Side.has_given" s_c_Side_has_given [] (He.ma K (He.ga K "Side") "has_given") fd) :
    FnOk P w K mg base CX0 1 (He.ma K (He.ga K "Side") "has_given") fd ["self"] (spF ⟨K, w⟩ (f_c_Side_has_given (He.ga K "Side"))) := by
  refine okD (k := 0) (N := N_c_Side_has_given) (ps := ["self"]) W sc_c_Side_has_given (by decide) (fun cdv A outer s H E g hr => ?_)
  have nd := sc_c_Side_has_given.nd
  have hu := hr.units
  exact dss_one (ds_ret (de_cmp op_in_seq ok_in (do_v (de_fld T.cl_Side T.n_Side_hand (pe_fld (do_v (de_v (pv 0))) rfl))) (do_v (de_gc (by rfl) T.gc_GIVEN))))
theorem ok_c_Side_answer (T : Txt K w mg) {fd : FuncData} (W : Fd K "answer" "Side.answer" s_c_Side_answer [] (He.ma K (He.ga K "Side") "answer") fd)
    {fd_c_Side_word : FuncData} (D_c_Side_word : Done P w K mg base 2 (He.ma K (He.ga K "Side") "word") ["self"] (f_c_Side_word (He.ga K "Side")) [] fd_c_Side_word)
    {fd_c_Side_has_given : FuncData} (D_c_Side_has_given : Done P w K mg base 1 (He.ma K (He.ga K "Side") "has_given") ["self"] (f_c_Side_has_given (He.ga K "Side")) [] fd_c_Side_has_given) :
    FnOk P w K mg base CX0 3 (He.ma K (He.ga K "Side") "answer") fd ["self", "is_over"] (spF ⟨K, w⟩ (f_c_Side_answer (He.ga K "Side"))) := by
  have G_c_Side_word := D_c_Side_word.ok
  have G_c_Side_has_given := D_c_Side_has_given.ok
  refine okD (k := 2) (N := N_c_Side_answer) (ps := ["self", "is_over"]) W sc_c_Side_answer (by decide) (fun cdv A outer s H E g hr => ?_)
  have nd := sc_c_Side_answer.nd
  have hu := hr.units
  exact dss_cons (ds_set nd rfl (by first | exact Or.inl rfl | exact Or.inr rfl) (de_cmp (op_eqD hu) ok_eq (do_v (de_meth (fun _ => .nil) (pe_me0 (pe_meth0 (do_v (de_v (pv 0))) T.cl_Side T.e_c_Side_word G_c_Side_word (hr.mono (by decide)) D_c_Side_word.bd .nil pass0)))) (do_v (de_str)) (nomark _)))
    (dss_cons (ds_if (dt_v (de_meth (fun _ => .nil) (pe_me0 (pe_meth0 (do_v (de_v (pv 0))) T.cl_Side T.e_c_Side_has_given G_c_Side_has_given (hr.mono (by decide)) D_c_Side_has_given.bd .nil pass0)))) (dss_one (ds_ret (de_str))) (dss_nil))
    (dss_cons (ds_if (dt_cmp (op_eqD hu) ok_eq (do_v (de_fld T.cl_Side T.n_Side_heard (pe_fld (do_v (de_v (pv 0))) rfl))) (do_v (de_str)) (nomark _)) (dss_one (ds_ret (de_str))) (dss_nil))
    (dss_cons (ds_if (dt_cmp (op_eqD hu) ok_eq (do_v (de_fld T.cl_Side T.n_Side_heard (pe_fld (do_v (de_v (pv 0))) rfl))) (do_v (de_str)) (nomark _)) (dss_one (ds_ret (de_if (dt_v (de_v (pv 2))) (de_str) (de_str)))) (dss_nil))
    (dss_cons (ds_if (dt_v (de_v (pv 2))) (dss_one (ds_ret (de_if (dt_cmp (op_eqD hu) ok_eq (do_v (de_fld T.cl_Side T.n_Side_hand (pe_fld (do_v (de_v (pv 0))) rfl))) (do_v (de_str)) (nomark _)) (de_str) (de_non)))) (dss_nil))
    (dss_one (ds_ret (de_if (dt_v (de_v (pv 1))) (de_str) (de_non))))))))
theorem ok_c_Side_answered (T : Txt K w mg) {fd : FuncData} (W : Fd K "answered" "Side.answered" s_c_Side_answered [] (He.ma K (He.ga K "Side") "answered") fd)
    (D_c_Side_after : DoneD P w K mg base 3 "self" (He.ma K (He.ga K "Side") "after") (f_c_Side_after (He.ga K "Side"))) :
    FnOk P w K mg base CX0 4 (He.ma K (He.ga K "Side") "answered") fd ["self", "answer"] (spF ⟨K, w⟩ (f_c_Side_answered (He.ga K "Side"))) := by
  have G_c_Side_after := D_c_Side_after.ok
  refine okD (k := 3) (N := N_c_Side_answered) (ps := ["self", "answer"]) W sc_c_Side_answered (by decide) (fun cdv A outer s H E g hr => ?_)
  have nd := sc_c_Side_answered.nd
  have hu := hr.units
  exact dss_cons (ds_set nd rfl (by first | exact Or.inl rfl | exact Or.inr rfl) (de_ix ix_seq ok_ix (do_v (de_fld T.cl_Side T.n_Side_listing (pe_fld (do_v (de_v (pv 0))) rfl))) (do_v (de_fld T.cl_Side T.n_Side_row (pe_fld (do_v (de_v (pv 0))) rfl)))))
    (dss_cons (ds_par3 (ps_par3 (by rfl) nd rfl rfl rfl (by decide) (by decide) (by decide) rfl rfl rfl (da_c (do_v (de_fld T.cl_Side T.n_Side_told (pe_fld (do_v (de_v (pv 0))) rfl))) (da_c (do_v (de_fld T.cl_Side T.n_Side_had (pe_fld (do_v (de_v (pv 0))) rfl))) (da_c (do_v (de_bin or_add ok_add (do_v (de_fld T.cl_Side T.n_Side_row (pe_fld (do_v (de_v (pv 0))) rfl))) (do_v (de_int)))) (da_n)))) (by rfl)))
    (dss_cons (ds_if (dt_w (dw_and (dt_cmp (op_eqD hu) ok_eq (do_v (de_ix ix_seq ok_ix (do_v (de_v (pv 2))) (do_v (de_int)))) (do_v (de_str)) (nomark _)) (dw_and1 (dt_cmp (op_eqD hu) ok_eq (do_v (de_v (pv 1))) (do_v (de_str)) (nomark _))))) (dss_one (ds_aug (ps_aug nd rfl (by first | exact Or.inl rfl | exact Or.inr rfl) (pex fun g => de_ix ix_seq ok_ix (do_v (de_v (pv 2))) (do_v (de_int))) ip_add))) (dss_nil))
    (dss_cons (ds_if (dt_w (dw_and (dt_cmp (op_neD hu) ok_ne (do_v (de_ix ix_seq ok_ix (do_v (de_v (pv 2))) (do_v (de_int)))) (do_v (de_str)) (nomark _)) (dw_and1 (dt_cmp op_in_seq ok_in (do_v (de_v (pv 1))) (do_v (de_tup (da_c (do_v (de_str)) (da_c (do_v (de_str)) (da_n))) (la_c (la_c (la_n))))))))) (dss_one (ds_aug (ps_aug nd rfl (by first | exact Or.inl rfl | exact Or.inr rfl) (pex fun g => de_fld T.cl_Side T.n_Side_part (pe_fld (do_v (de_v (pv 0))) rfl)) ip_add))) (dss_nil))
    (dss_cons (ds_if (dt_cmp op_in_seq ok_in (do_v (de_v (pv 1))) (do_v (de_tup (da_c (do_v (de_str)) (da_c (do_v (de_str)) (da_n))) (la_c (la_c (la_n)))))) (dss_one (ds_set nd rfl (by first | exact Or.inl rfl | exact Or.inr rfl) (de_ix ix_seq ok_ix (do_v (de_v (pv 2))) (do_v (de_un un_neg ok_neg (do_v (de_int))))))) (dss_one (ds_if (dt_w (dw_and (dt_cmp (op_eqD hu) ok_eq (do_v (de_v (pv 1))) (do_v (de_str)) (nomark _)) (dw_and1 (dt_cmp (op_eqD hu) ok_eq (do_v (de_ix ix_seq ok_ix (do_v (de_v (pv 2))) (do_v (de_int)))) (do_v (de_str)) (nomark _))))) (dss_one (ds_set nd rfl (by first | exact Or.inl rfl | exact Or.inr rfl) (de_ix ix_seq ok_ix (do_v (de_v (pv 2))) (do_v (de_int))))) (dss_nil))))
    (dss_cons (ds_set nd rfl (by first | exact Or.inl rfl | exact Or.inr rfl) (de_if (dt_cmp (op_eqD hu) ok_eq (do_v (de_v (pv 1))) (do_v (de_str)) (nomark _)) (de_str) (de_fld T.cl_Side T.n_Side_heard (pe_fld (do_v (de_v (pv 0))) rfl))))
    (dss_cons (ds_set nd rfl (by first | exact Or.inl rfl | exact Or.inr rfl) (de_tupS (da_s (de_fld T.cl_Side T.n_Side_replies (pe_fld (do_v (de_v (pv 0))) rfl)) (da_c (do_v (de_v (pv 1))) (da_n)))))
    (dss_one (ds_ret (de_kw (E := E0) (pe_methK (ks := ["row", "heard", "part", "told", "had", "replies"]) (de_v (pv 0)) T.cl_Side T.e_c_Side_after G_c_Side_after (hr.mono (by decide)) (dk_c (do_v (de_v (pv 5))) (dk_c (do_v (de_v (pv 6))) (dk_c (do_v (de_int)) (dk_c (do_v (de_v (pv 3))) (dk_c (do_v (de_v (pv 4))) (dk_c (do_v (de_v (pv 7))) (dk_n)))))))))))))))))
theorem ok_c_Side_gone (T : Txt K w mg) {fd : FuncData} (W : Fd K "gone" "Side.gone" s_c_Side_gone [] (He.ma K (He.ga K "Side") "gone") fd)
    {fd_c_Side_has_ended : FuncData} (D_c_Side_has_ended : Done P w K mg base 1 (He.ma K (He.ga K "Side") "has_ended") ["self"] (f_c_Side_has_ended (He.ga K "Side")) [] fd_c_Side_has_ended)
    {fd_c_Side_word : FuncData} (D_c_Side_word : Done P w K mg base 2 (He.ma K (He.ga K "Side") "word") ["self"] (f_c_Side_word (He.ga K "Side")) [] fd_c_Side_word)
    {fd_c_Side_passed : FuncData} (D_c_Side_passed : Done P w K mg base 4 (He.ma K (He.ga K "Side") "passed") ["self"] (f_c_Side_passed (He.ga K "Side")) [] fd_c_Side_passed)
    {fd_c_Side_answer : FuncData} (D_c_Side_answer : Done P w K mg base 3 (He.ma K (He.ga K "Side") "answer") ["self", "is_over"] (f_c_Side_answer (He.ga K "Side")) [] fd_c_Side_answer)
    {fd_c_Side_answered : FuncData} (D_c_Side_answered : Done P w K mg base 4 (He.ma K (He.ga K "Side") "answered") ["self", "answer"] (f_c_Side_answered (He.ga K "Side")) [] fd_c_Side_answered) :
    FnOk P w K mg base CX0 5 (He.ma K (He.ga K "Side") "gone") fd ["self", "is_over"] (spF ⟨K, w⟩ (f_c_Side_gone (He.ga K "Side"))) := by
  have G_c_Side_has_ended := D_c_Side_has_ended.ok
  have G_c_Side_word := D_c_Side_word.ok
  have G_c_Side_passed := D_c_Side_passed.ok
  have G_c_Side_answer := D_c_Side_answer.ok
  have G_c_Side_answered := D_c_Side_answered.ok
  refine okD (k := 4) (N := N_c_Side_gone) (ps := ["self", "is_over"]) W sc_c_Side_gone (by decide) (fun cdv A outer s H E g hr => ?_)
  have nd := sc_c_Side_gone.nd
  have hu := hr.units
  exact dss_cons (ds_if (dt_v (de_meth (fun _ => .nil) (pe_me0 (pe_meth0 (do_v (de_v (pv 0))) T.cl_Side T.e_c_Side_has_ended G_c_Side_has_ended (hr.mono (by decide)) D_c_Side_has_ended.bd .nil pass0)))) (dss_one (ds_ret (de_non))) (dss_nil))
    (dss_cons (ds_if (dt_cmp op_notIn_seq ok_in (do_v (de_meth (fun _ => .nil) (pe_me0 (pe_meth0 (do_v (de_v (pv 0))) T.cl_Side T.e_c_Side_word G_c_Side_word (hr.mono (by decide)) D_c_Side_word.bd .nil pass0)))) (do_v (de_gc (by rfl) T.gc_CALLS))) (dss_one (ds_ret (de_meth (fun _ => .nil) (pe_me0 (pe_meth0 (do_v (de_v (pv 0))) T.cl_Side T.e_c_Side_passed G_c_Side_passed (hr.mono (by decide)) D_c_Side_passed.bd .nil pass0))))) (dss_nil))
    (dss_cons (ds_set nd rfl (by first | exact Or.inl rfl | exact Or.inr rfl) (de_meth (fun _ => .nil) (pe_meth (do_v (de_v (pv 0))) T.cl_Side T.e_c_Side_answer G_c_Side_answer (hr.mono (by decide)) D_c_Side_answer.bd .nil pass0 (da_c (do_v (de_v (pv 1))) (da_n)))))
    (dss_one (ds_ret (de_if (dt_cmp op_isN ok_isN (do_v (de_v (pv 2))) (do_v (de_non)) (nomark _)) (de_non) (de_meth (fun _ => .nil) (pe_meth (do_v (de_v (pv 0))) T.cl_Side T.e_c_Side_answered G_c_Side_answered (hr.mono (by decide)) D_c_Side_answered.bd .nil pass0 (da_c (do_v (de_v (pv 2))) (da_n)))))))))
theorem ok_c_Side_is_free (T : Txt K w mg) {fd : FuncData} (W : Fd K "is_free" "Side.is_free" s_c_Side_is_free [] (He.ma K (He.ga K "Side") "is_free") fd)
    {fd_c_Side_word : FuncData} (D_c_Side_word : Done P w K mg base 2 (He.ma K (He.ga K "Side") "word") ["self"] (f_c_Side_word (He.ga K "Side")) [] fd_c_Side_word)
    {fd_c_Side_has_given : FuncData} (D_c_Side_has_given : Done P w K mg base 1 (He.ma K (He.ga K "Side") "has_given") ["self"] (f_c_Side_has_given (He.ga K "Side")) [] fd_c_Side_has_given) :
    FnOk P w K mg base CX0 3 (He.ma K (He.ga K "Side") "is_free") fd ["self", "words"] (spF ⟨K, w⟩ (f_c_Side_is_free (He.ga K "Side"))) := by
  have G_c_Side_word := D_c_Side_word.ok
  have G_c_Side_has_given := D_c_Side_has_given.ok
  refine okD (k := 2) (N := N_c_Side_is_free) (ps := ["self", "words"]) W sc_c_Side_is_free (by decide) (fun cdv A outer s H E g hr => ?_)
  have nd := sc_c_Side_is_free.nd
  have hu := hr.units
  exact dss_cons (ds_if (dt_w (dw_or (dt_cmp op_notIn_seq ok_in (do_v (de_meth (fun _ => .nil) (pe_me0 (pe_meth0 (do_v (de_v (pv 0))) T.cl_Side T.e_c_Side_word G_c_Side_word (hr.mono (by decide)) D_c_Side_word.bd .nil pass0)))) (do_v (de_v (pv 1)))) (dw_or (dt_v (de_meth (fun _ => .nil) (pe_me0 (pe_meth0 (do_v (de_v (pv 0))) T.cl_Side T.e_c_Side_has_given G_c_Side_has_given (hr.mono (by decide)) D_c_Side_has_given.bd .nil pass0)))) (dw_or1 (dt_cmp (op_neD hu) ok_ne (do_v (de_fld T.cl_Side T.n_Side_heard (pe_fld (do_v (de_v (pv 0))) rfl))) (do_v (de_str)) (nomark _)))))) (dss_one (ds_ret (de_bl))) (dss_nil))
    (dss_one (ds_ret (de_or (de_cmp (op_neD hu) ok_ne (do_v (de_meth (fun _ => .nil) (pe_me0 (pe_meth0 (do_v (de_v (pv 0))) T.cl_Side T.e_c_Side_word G_c_Side_word (hr.mono (by decide)) D_c_Side_word.bd .nil pass0)))) (do_v (de_str)) (nomark _)) (de_one (de_cmp (op_eqD hu) ok_eq (do_v (de_fld T.cl_Side T.n_Side_hand (pe_fld (do_v (de_v (pv 0))) rfl))) (do_v (de_str)) (nomark _))))))
theorem ok_c_Side_left (T : Txt K w mg) {fd : FuncData} (W : Fd K "left" "Side.left" s_c_Side_left [] (He.ma K (He.ga K "Side") "left") fd) :
    FnOk P w K mg base CX0 1 (He.ma K (He.ga K "Side") "left") fd ["self"] (spF ⟨K, w⟩ (f_c_Side_left (He.ga K "Side"))) := by
  refine okD (k := 0) (N := N_c_Side_left) (ps := ["self"]) W sc_c_Side_left (by decide) (fun cdv A outer s H E g hr => ?_)
  have nd := sc_c_Side_left.nd
  have hu := hr.units
  exact dss_cons (ds_set nd rfl (by first | exact Or.inl rfl | exact Or.inr rfl) (de_ix ix_seq ok_ix (do_v (de_fld T.cl_Side T.n_Side_listing (pe_fld (do_v (de_v (pv 0))) rfl))) (do_v (de_fld T.cl_Side T.n_Side_row (pe_fld (do_v (de_v (pv 0))) rfl)))))
    (dss_one (ds_ret (de_if (dt_cmp (op_eqD hu) ok_eq (do_v (de_ix ix_seq ok_ix (do_v (de_v (pv 1))) (do_v (de_int)))) (do_v (de_str)) (nomark _)) (de_non) (de_bin op_sub ok_sub (do_v (de_ix ix_seq ok_ix (do_v (de_v (pv 1))) (do_v (de_int)))) (do_v (de_fld T.cl_Side T.n_Side_part (pe_fld (do_v (de_v (pv 0))) rfl)))))))
theorem ok_most_read (T : Txt K w mg) {fd : FuncData} (W : Fd K "most_read" "most_read" s_most_read [] (He.ga K "most_read") fd)
    {fd_c_Side_is_free : FuncData} (D_c_Side_is_free : Done P w K mg base 3 (He.ma K (He.ga K "Side") "is_free") ["self", "words"] (f_c_Side_is_free (He.ga K "Side")) [] fd_c_Side_is_free)
    {fd_c_Side_left : FuncData} (D_c_Side_left : Done P w K mg base 1 (He.ma K (He.ga K "Side") "left") ["self"] (f_c_Side_left (He.ga K "Side")) [] fd_c_Side_left) :
    FnOk P w K mg base CX0 4 (He.ga K "most_read") fd ["side"] (spF ⟨K, w⟩ (f_most_read (He.ga K "Side"))) := by
  have G_c_Side_is_free := D_c_Side_is_free.ok
  have G_c_Side_left := D_c_Side_left.ok
  refine okD (k := 3) (N := N_most_read) (ps := ["side"]) W sc_most_read (by decide) (fun cdv A outer s H E g hr => ?_)
  have nd := sc_most_read.nd
  have hu := hr.units
  exact dss_cons (ds_if (dt_not (dt_v (de_meth (fun _ => .nil) (pe_meth (do_v (de_v (pv 0))) T.cl_Side T.e_c_Side_is_free G_c_Side_is_free (hr.mono (by decide)) D_c_Side_is_free.bd .nil pass0 (da_c (do_v (de_gc (by rfl) T.gc_READS)) (da_n)))))) (dss_one (ds_ret (de_fld T.cl_Side T.n_Side_had (pe_fld (do_v (de_v (pv 0))) rfl)))) (dss_nil))
    (dss_cons (ds_set nd rfl (by first | exact Or.inl rfl | exact Or.inr rfl) (de_meth (fun _ => .nil) (pe_me0 (pe_meth0 (do_v (de_v (pv 0))) T.cl_Side T.e_c_Side_left G_c_Side_left (hr.mono (by decide)) D_c_Side_left.bd .nil pass0))))
    (dss_one (ds_ret (de_if (dt_cmp op_isN ok_isN (do_v (de_v (pv 1))) (do_v (de_non)) (nomark _)) (de_non) (de_bin op_sub ok_sub (do_v (de_bin or_add ok_add (do_v (de_fld T.cl_Side T.n_Side_had (pe_fld (do_v (de_v (pv 0))) rfl))) (do_v (de_v (pv 1))))) (do_v (de_int)))))))
theorem ok_c_Side_moved (T : Txt K w mg) {fd : FuncData} (W : Fd K "moved" "Side.moved" s_c_Side_moved [] (He.ma K (He.ga K "Side") "moved") fd)
    (D_c_Side_after : DoneD P w K mg base 3 "self" (He.ma K (He.ga K "Side") "after") (f_c_Side_after (He.ga K "Side")))
    {fd_c_Side_left : FuncData} (D_c_Side_left : Done P w K mg base 1 (He.ma K (He.ga K "Side") "left") ["self"] (f_c_Side_left (He.ga K "Side")) [] fd_c_Side_left)
    {fd_c_Side_answered : FuncData} (D_c_Side_answered : Done P w K mg base 4 (He.ma K (He.ga K "Side") "answered") ["self", "answer"] (f_c_Side_answered (He.ga K "Side")) [] fd_c_Side_answered) :
    FnOk P w K mg base CX0 5 (He.ma K (He.ga K "Side") "moved") fd ["self", "many"] (spF ⟨K, w⟩ (f_c_Side_moved (He.ga K "Side"))) := by
  have G_c_Side_after := D_c_Side_after.ok
  have G_c_Side_left := D_c_Side_left.ok
  have G_c_Side_answered := D_c_Side_answered.ok
  refine okD (k := 4) (N := N_c_Side_moved) (ps := ["self", "many"]) W sc_c_Side_moved (by decide) (fun cdv A outer s H E g hr => ?_)
  have nd := sc_c_Side_moved.nd
  have hu := hr.units
  exact dss_cons (ds_set nd rfl (by first | exact Or.inl rfl | exact Or.inr rfl) (de_kw (E := E0) (pe_methK (ks := ["part"]) (de_v (pv 0)) T.cl_Side T.e_c_Side_after G_c_Side_after (hr.mono (by decide)) (dk_c (do_v (de_bin or_add ok_add (do_v (de_fld T.cl_Side T.n_Side_part (pe_fld (do_v (de_v (pv 0))) rfl))) (do_v (de_v (pv 1))))) (dk_n)))))
    (dss_one (ds_ret (de_if (dt_cmp (op_eqD hu) ok_eq (do_v (de_meth (fun _ => .nil) (pe_me0 (pe_meth0 (do_v (de_v (pv 2))) T.cl_Side T.e_c_Side_left G_c_Side_left (hr.mono (by decide)) D_c_Side_left.bd .nil pass0)))) (do_v (de_int)) (nomark _)) (de_meth (fun _ => .nil) (pe_meth (do_v (de_v (pv 2))) T.cl_Side T.e_c_Side_answered G_c_Side_answered (hr.mono (by decide)) D_c_Side_answered.bd .nil pass0 (da_c (do_v (de_str)) (da_n)))) (de_v (pv 2)))))
theorem ok_write_end (T : Txt K w mg) {fd : FuncData} (W : Fd K "write_end" "write_end" s_write_end [] (He.ga K "write_end") fd)
    {fd_most_read : FuncData} (D_most_read : Done P w K mg base 4 (He.ga K "most_read") ["side"] (f_most_read (He.ga K "Side")) [] fd_most_read)
    {fd_c_Side_left : FuncData} (D_c_Side_left : Done P w K mg base 1 (He.ma K (He.ga K "Side") "left") ["self"] (f_c_Side_left (He.ga K "Side")) [] fd_c_Side_left)
    {fd_c_Side_moved : FuncData} (D_c_Side_moved : Done P w K mg base 5 (He.ma K (He.ga K "Side") "moved") ["self", "many"] (f_c_Side_moved (He.ga K "Side")) [] fd_c_Side_moved) :
    FnOk P w K mg base CX0 6 (He.ga K "write_end") fd ["mine", "other"] (spF ⟨K, w⟩ (f_write_end (He.ga K "Side"))) := by
  have G_most_read := D_most_read.ok
  have G_c_Side_left := D_c_Side_left.ok
  have G_c_Side_moved := D_c_Side_moved.ok
  refine okD (k := 5) (N := N_write_end) (ps := ["mine", "other"]) W sc_write_end (by decide) (fun cdv A outer s H E g hr => ?_)
  have nd := sc_write_end.nd
  have hu := hr.units
  exact dss_cons (ds_set nd rfl (by first | exact Or.inl rfl | exact Or.inr rfl) (de_call G_most_read (hr.mono (by decide)) (by rfl) T.g_most_read D_most_read.kp D_most_read.bd .nil (fun _ => .nil) pass0 (da_c (do_v (de_v (pv 1))) (da_n))))
    (dss_cons (ds_set nd rfl (by first | exact Or.inl rfl | exact Or.inr rfl) (de_if (dt_cmp op_isN ok_isN (do_v (de_v (pv 2))) (do_v (de_non)) (nomark _)) (de_int) (de_callB (call_max2 rfl) ok_max2 (by rfl) T.z_max (by decide +kernel) (da_c (do_v (de_int)) (da_c (do_v (de_bin op_sub ok_sub (do_v (de_bin or_add ok_add (do_v (de_fld T.cl_Side T.n_Side_told (pe_fld (do_v (de_v (pv 0))) rfl))) (do_v (de_meth (fun _ => .nil) (pe_me0 (pe_meth0 (do_v (de_v (pv 0))) T.cl_Side T.e_c_Side_left G_c_Side_left (hr.mono (by decide)) D_c_Side_left.bd .nil pass0)))))) (do_v (de_v (pv 2))))) (da_n))))))
    (dss_one (ds_ret (de_tup (da_c (do_v (de_v (pv 3))) (da_c (do_v (de_str)) (da_c (do_v (de_meth (fun _ => .nil) (pe_meth (do_v (de_v (pv 0))) T.cl_Side T.e_c_Side_moved G_c_Side_moved (hr.mono (by decide)) D_c_Side_moved.bd .nil pass0 (da_c (do_v (de_meth (fun _ => .nil) (pe_me0 (pe_meth0 (do_v (de_v (pv 0))) T.cl_Side T.e_c_Side_left G_c_Side_left (hr.mono (by decide)) D_c_Side_left.bd .nil pass0)))) (da_n))))) (da_n)))) (la_c (la_c (la_c (la_n))))))))
theorem ok_most_written (T : Txt K w mg) {fd : FuncData} (W : Fd K "most_written" "most_written" s_most_written [] (He.ga K "most_written") fd)
    {fd_c_Side_is_free : FuncData} (D_c_Side_is_free : Done P w K mg base 3 (He.ma K (He.ga K "Side") "is_free") ["self", "words"] (f_c_Side_is_free (He.ga K "Side")) [] fd_c_Side_is_free)
    {fd_c_Side_left : FuncData} (D_c_Side_left : Done P w K mg base 1 (He.ma K (He.ga K "Side") "left") ["self"] (f_c_Side_left (He.ga K "Side")) [] fd_c_Side_left) :
    FnOk P w K mg base CX0 4 (He.ga K "most_written") fd ["side"] (spF ⟨K, w⟩ (f_most_written (He.ga K "Side"))) := by
  have G_c_Side_is_free := D_c_Side_is_free.ok
  have G_c_Side_left := D_c_Side_left.ok
  refine okD (k := 3) (N := N_most_written) (ps := ["side"]) W sc_most_written (by decide) (fun cdv A outer s H E g hr => ?_)
  have nd := sc_most_written.nd
  have hu := hr.units
  exact dss_one (ds_ret (de_if (dt_v (de_meth (fun _ => .nil) (pe_meth (do_v (de_v (pv 0))) T.cl_Side T.e_c_Side_is_free G_c_Side_is_free (hr.mono (by decide)) D_c_Side_is_free.bd .nil pass0 (da_c (do_v (de_tup (da_c (do_v (de_str)) (da_n)) (la_c (la_n)))) (da_n))))) (de_bin op_sub ok_sub (do_v (de_bin or_add ok_add (do_v (de_fld T.cl_Side T.n_Side_told (pe_fld (do_v (de_v (pv 0))) rfl))) (do_v (de_meth (fun _ => .nil) (pe_me0 (pe_meth0 (do_v (de_v (pv 0))) T.cl_Side T.e_c_Side_left G_c_Side_left (hr.mono (by decide)) D_c_Side_left.bd .nil pass0)))))) (do_v (de_int))) (de_fld T.cl_Side T.n_Side_told (pe_fld (do_v (de_v (pv 0))) rfl))))
theorem ok_read_ends (T : Txt K w mg) {fd : FuncData} (W : Fd K "read_ends" "read_ends" s_read_ends [] (He.ga K "read_ends") fd)
    {fd_c_Side_left : FuncData} (D_c_Side_left : Done P w K mg base 1 (He.ma K (He.ga K "Side") "left") ["self"] (f_c_Side_left (He.ga K "Side")) [] fd_c_Side_left)
    {fd_most_written : FuncData} (D_most_written : Done P w K mg base 4 (He.ga K "most_written") ["side"] (f_most_written (He.ga K "Side")) [] fd_most_written)
    {fd_c_Side_moved : FuncData} (D_c_Side_moved : Done P w K mg base 5 (He.ma K (He.ga K "Side") "moved") ["self", "many"] (f_c_Side_moved (He.ga K "Side")) [] fd_c_Side_moved)
    (D_c_Side_after : DoneD P w K mg base 3 "self" (He.ma K (He.ga K "Side") "after") (f_c_Side_after (He.ga K "Side")))
    {fd_c_Side_answered : FuncData} (D_c_Side_answered : Done P w K mg base 4 (He.ma K (He.ga K "Side") "answered") ["self", "answer"] (f_c_Side_answered (He.ga K "Side")) [] fd_c_Side_answered) :
    FnOk P w K mg base CX0 6 (He.ga K "read_ends") fd ["mine", "other"] (spF ⟨K, w⟩ (f_read_ends (He.ga K "Side"))) := by
  have G_c_Side_left := D_c_Side_left.ok
  have G_most_written := D_most_written.ok
  have G_c_Side_moved := D_c_Side_moved.ok
  have G_c_Side_after := D_c_Side_after.ok
  have G_c_Side_answered := D_c_Side_answered.ok
  refine okD (k := 5) (N := N_read_ends) (ps := ["mine", "other"]) W sc_read_ends (by decide) (fun cdv A outer s H E g hr => ?_)
  have nd := sc_read_ends.nd
  have hu := hr.units
  exact dss_cons (ds_own nd rfl (by first | exact Or.inl rfl | exact Or.inr rfl) (dn_lst (da_n) (la_n)))
    (dss_cons (ds_set nd rfl (by first | exact Or.inl rfl | exact Or.inr rfl) (de_meth (fun _ => .nil) (pe_me0 (pe_meth0 (do_v (de_v (pv 0))) T.cl_Side T.e_c_Side_left G_c_Side_left (hr.mono (by decide)) D_c_Side_left.bd .nil pass0))))
    (dss_cons (ds_if (dt_w (dw_and (dt_cmp op_notN ok_notN (do_v (de_v (pv 3))) (do_v (de_non)) (nomark _)) (dw_and1 (dt_cmp op_le ok_le (do_v (de_bin or_add ok_add (do_v (de_fld T.cl_Side T.n_Side_had (pe_fld (do_v (de_v (pv 0))) rfl))) (do_v (de_v (pv 3))))) (do_v (de_call G_most_written (hr.mono (by decide)) (by rfl) T.g_most_written D_most_written.kp D_most_written.bd .nil (fun _ => .nil) pass0 (da_c (do_v (de_v (pv 1))) (da_n)))) (nomark _))))) (dss_one (ds_app (pe_bm PySem.F.plainAttrs_list PySem.F.slot_list_append PySem.F.type_list_append mt_append (pv 2) (pa_cons (de_tup (da_c (do_v (de_int)) (da_c (do_v (de_str)) (da_c (do_v (de_meth (fun _ => .nil) (pe_meth (do_v (de_v (pv 0))) T.cl_Side T.e_c_Side_moved G_c_Side_moved (hr.mono (by decide)) D_c_Side_moved.bd .nil pass0 (da_c (do_v (de_v (pv 3))) (da_n))))) (da_n)))) (la_c (la_c (la_c (la_n))))) pa_nil)))) (dss_nil))
    (dss_cons (ds_if (dt_w (dw_and (dt_cmp op_in_seq ok_in (do_v (de_fld T.cl_Side T.n_Side_hand (pe_fld (do_v (de_v (pv 1))) rfl))) (do_v (de_gc (by rfl) T.gc_ENDED))) (dw_and1 (dt_w (dw_or (dt_cmp op_isN ok_isN (do_v (de_v (pv 3))) (do_v (de_non)) (nomark _)) (dw_or1 (dt_cmp op_lt ok_lt (do_v (de_fld T.cl_Side T.n_Side_told (pe_fld (do_v (de_v (pv 1))) rfl))) (do_v (de_bin or_add ok_add (do_v (de_fld T.cl_Side T.n_Side_had (pe_fld (do_v (de_v (pv 0))) rfl))) (do_v (de_v (pv 3))))) (nomark _)))))))) (dss_one (ds_app (pe_bm PySem.F.plainAttrs_list PySem.F.slot_list_append PySem.F.type_list_append mt_append (pv 2) (pa_cons (de_tup (da_c (do_v (de_int)) (da_c (do_v (de_str)) (da_c (do_v (de_meth (fun _ => .nil) (pe_meth (do_v (de_kw (E := E0) (pe_methK (ks := ["part"]) (de_v (pv 0)) T.cl_Side T.e_c_Side_after G_c_Side_after (hr.mono (by decide)) (dk_c (do_v (de_bin op_sub ok_sub (do_v (de_fld T.cl_Side T.n_Side_told (pe_fld (do_v (de_v (pv 1))) rfl))) (do_v (de_fld T.cl_Side T.n_Side_had (pe_fld (do_v (de_v (pv 0))) rfl))))) (dk_n))))) T.cl_Side T.e_c_Side_answered G_c_Side_answered (hr.mono (by decide)) D_c_Side_answered.bd .nil pass0 (da_c (do_v (de_str)) (da_n))))) (da_n)))) (la_c (la_c (la_c (la_n))))) pa_nil)))) (dss_nil))
    (dss_one (ds_retO (pv 2))))))
theorem ok_row_ends (T : Txt K w mg) {fd : FuncData} (W : Fd K "row_ends" "row_ends" s_row_ends [] (He.ga K "row_ends") fd)
    {fd_c_Side_has_ended : FuncData} (D_c_Side_has_ended : Done P w K mg base 1 (He.ma K (He.ga K "Side") "has_ended") ["self"] (f_c_Side_has_ended (He.ga K "Side")) [] fd_c_Side_has_ended)
    {fd_c_Side_gone : FuncData} (D_c_Side_gone : Done P w K mg base 5 (He.ma K (He.ga K "Side") "gone") ["self", "is_over"] (f_c_Side_gone (He.ga K "Side")) [] fd_c_Side_gone)
    {fd_c_Side_word : FuncData} (D_c_Side_word : Done P w K mg base 2 (He.ma K (He.ga K "Side") "word") ["self"] (f_c_Side_word (He.ga K "Side")) [] fd_c_Side_word)
    {fd_write_end : FuncData} (D_write_end : Done P w K mg base 6 (He.ga K "write_end") ["mine", "other"] (f_write_end (He.ga K "Side")) [] fd_write_end)
    {fd_read_ends : FuncData} (D_read_ends : Done P w K mg base 6 (He.ga K "read_ends") ["mine", "other"] (f_read_ends (He.ga K "Side")) [] fd_read_ends) :
    FnOk P w K mg base CX0 7 (He.ga K "row_ends") fd ["mine", "other"] (spF ⟨K, w⟩ (f_row_ends (He.ga K "Side"))) := by
  have G_c_Side_has_ended := D_c_Side_has_ended.ok
  have G_c_Side_gone := D_c_Side_gone.ok
  have G_c_Side_word := D_c_Side_word.ok
  have G_write_end := D_write_end.ok
  have G_read_ends := D_read_ends.ok
  refine okD (k := 6) (N := N_row_ends) (ps := ["mine", "other"]) W sc_row_ends (by decide) (fun cdv A outer s H E g hr => ?_)
  have nd := sc_row_ends.nd
  have hu := hr.units
  exact dss_cons (ds_if (dt_v (de_meth (fun _ => .nil) (pe_me0 (pe_meth0 (do_v (de_v (pv 0))) T.cl_Side T.e_c_Side_has_ended G_c_Side_has_ended (hr.mono (by decide)) D_c_Side_has_ended.bd .nil pass0)))) (dss_one (ds_retN (dn_lst (da_n) (la_n)))) (dss_nil))
    (dss_cons (ds_set nd rfl (by first | exact Or.inl rfl | exact Or.inr rfl) (de_meth (fun _ => .nil) (pe_meth (do_v (de_v (pv 0))) T.cl_Side T.e_c_Side_gone G_c_Side_gone (hr.mono (by decide)) D_c_Side_gone.bd .nil pass0 (da_c (do_v (de_bl)) (da_n)))))
    (dss_cons (ds_if (dt_cmp op_notN ok_notN (do_v (de_v (pv 2))) (do_v (de_non)) (nomark _)) (dss_one (ds_retN (dn_lst (da_c (do_v (de_tup (da_c (do_v (de_int)) (da_c (do_v (de_str)) (da_c (do_v (de_v (pv 2))) (da_n)))) (la_c (la_c (la_c (la_n)))))) (da_n)) (la_c (la_n))))) (dss_nil))
    (dss_one (ds_ret (de_if (dt_cmp (op_eqD hu) ok_eq (do_v (de_meth (fun _ => .nil) (pe_me0 (pe_meth0 (do_v (de_v (pv 0))) T.cl_Side T.e_c_Side_word G_c_Side_word (hr.mono (by decide)) D_c_Side_word.bd .nil pass0)))) (do_v (de_str)) (nomark _)) (de_n (dn_lst (da_c (do_v (de_call G_write_end (hr.mono (by decide)) (by rfl) T.g_write_end D_write_end.kp D_write_end.bd .nil (fun _ => .nil) pass0 (da_c (do_v (de_v (pv 0))) (da_c (do_v (de_v (pv 1))) (da_n))))) (da_n)) (la_c (la_n)))) (de_call G_read_ends (hr.mono (by decide)) (by rfl) T.g_read_ends D_read_ends.kp D_read_ends.bd .nil (fun _ => .nil) pass0 (da_c (do_v (de_v (pv 0))) (da_c (do_v (de_v (pv 1))) (da_n)))))))))
theorem ok_stand_of (T : Txt K w mg) {fd : FuncData} (W : Fd K "stand_of" "stand_of" s_stand_of [] (He.ga K "stand_of") fd) :
    FnOk P w K mg base CX0 1 (He.ga K "stand_of") fd ["sides", "fates"] (spF ⟨K, w⟩ (f_stand_of (He.ga K "Side"))) := by
  refine okD (k := 0) (N := N_stand_of) (ps := ["sides", "fates"]) W sc_stand_of (by decide) (fun cdv A outer s H E g hr => ?_)
  have nd := sc_stand_of.nd
  have hu := hr.units
  exact dss_cons (ds_setLc (own := [("side", 3), ("fate", 4)]) rfl nd rfl rfl (sw_true rfl rfl rfl (by decide +kernel)) (di_zip (by rfl) T.z_zip (da_c (do_v (de_v (pv 0))) (da_c (do_v (de_v (pv 1))) (da_n)))) (blkOk_by (own := [("side", 3), ("fate", 4)]) (N := N_stand_of) (sc := defScope s_stand_of) (by decide +kernel)) (fun _ _ _ _ _ g => dg_tup rfl (dgs_cons (dg_n nd rfl (by first | exact Or.inl rfl | exact Or.inr rfl)) (dgs_cons (dg_n nd rfl (by first | exact Or.inl rfl | exact Or.inr rfl)) (dgs_nil)))) (fun _ _ _ _ _ g => dts_nil) (fun _ _ _ _ _ g => de_tup (da_c (do_v (de_fld T.cl_Side T.n_Side_row (pe_fld (do_v (de_v (pv 3))) rfl))) (da_c (do_v (de_fld T.cl_Side T.n_Side_hand (pe_fld (do_v (de_v (pv 3))) rfl))) (da_c (do_v (de_fld T.cl_Side T.n_Side_heard (pe_fld (do_v (de_v (pv 3))) rfl))) (da_c (do_v (de_fld T.cl_Side T.n_Side_told (pe_fld (do_v (de_v (pv 3))) rfl))) (da_c (do_v (de_fld T.cl_Side T.n_Side_had (pe_fld (do_v (de_v (pv 3))) rfl))) (da_c (do_v (de_v (pv 4))) (da_n))))))) (la_c (la_c (la_c (la_c (la_c (la_c (la_n)))))))) (by decide))
    (dss_one (ds_ret (de_tup (da_c (do_v (de_ix ix_seq ok_ix (do_v (de_v (pv 2))) (do_v (de_int)))) (da_c (do_v (de_ix ix_seq ok_ix (do_v (de_v (pv 2))) (do_v (de_int)))) (da_n))) (la_c (la_c (la_n))))))
theorem ok_replaced (T : Txt K w mg) {fd : FuncData} (W : Fd K "replaced" "replaced" s_replaced [] (He.ga K "replaced") fd) :
    FnOk P w K mg base CX0 1 (He.ga K "replaced") fd ["pair", "index", "value"] (spF ⟨K, w⟩ (f_replaced)) := by
  refine okD (k := 0) (N := N_replaced) (ps := ["pair", "index", "value"]) W sc_replaced (by decide) (fun cdv A outer s H E g hr => ?_)
  have nd := sc_replaced.nd
  have hu := hr.units
  exact dss_one (ds_ret (de_tupS (da_s (de_sl (do_v (de_v (pv 0))) (db_n) (db_s (de_v (pv 1)))) (da_c (do_v (de_v (pv 2))) (da_s (de_sl (do_v (de_v (pv 0))) (db_s (de_bin or_add ok_add (do_v (de_v (pv 1))) (do_v (de_int)))) (db_n)) (da_n))))))
theorem ok_reset_fates (T : Txt K w mg) {fd : FuncData} (W : Fd K "reset_fates" "reset_fates" s_reset_fates [] (He.ga K "reset_fates") fd)
    {fd_c_Side_has_given : FuncData} (D_c_Side_has_given : Done P w K mg base 1 (He.ma K (He.ga K "Side") "has_given") ["self"] (f_c_Side_has_given (He.ga K "Side")) [] fd_c_Side_has_given)
    {fd_most_written : FuncData} (D_most_written : Done P w K mg base 4 (He.ga K "most_written") ["side"] (f_most_written (He.ga K "Side")) [] fd_most_written)
    {fd_most_read : FuncData} (D_most_read : Done P w K mg base 4 (He.ga K "most_read") ["side"] (f_most_read (He.ga K "Side")) [] fd_most_read) :
    FnOk P w K mg base CX0 5 (He.ga K "reset_fates") fd ["mine", "other"] (spF ⟨K, w⟩ (f_reset_fates (He.ga K "Side"))) := by
  have G_c_Side_has_given := D_c_Side_has_given.ok
  have G_most_written := D_most_written.ok
  have G_most_read := D_most_read.ok
  refine okD (k := 4) (N := N_reset_fates) (ps := ["mine", "other"]) W sc_reset_fates (by decide) (fun cdv A outer s H E g hr => ?_)
  have nd := sc_reset_fates.nd
  have hu := hr.units
  exact dss_cons (ds_if (dt_w (dw_or (dt_v (de_meth (fun _ => .nil) (pe_me0 (pe_meth0 (do_v (de_v (pv 0))) T.cl_Side T.e_c_Side_has_given G_c_Side_has_given (hr.mono (by decide)) D_c_Side_has_given.bd .nil pass0)))) (dw_or1 (dt_cmp (op_neD hu) ok_ne (do_v (de_fld T.cl_Side T.n_Side_heard (pe_fld (do_v (de_v (pv 0))) rfl))) (do_v (de_str)) (nomark _))))) (dss_one (ds_retN (dn_lst (da_n) (la_n)))) (dss_nil))
    (dss_cons (ds_if (dt_w (dw_and (dt_cmp op_notIn_seq ok_in (do_v (de_fld T.cl_Side T.n_Side_hand (pe_fld (do_v (de_v (pv 1))) rfl))) (do_v (de_gc (by rfl) T.gc_HARD))) (dw_and1 (dt_not (dt_w (dw_and (dt_cmp (op_eqD hu) ok_eq (do_v (de_fld T.cl_Side T.n_Side_hand (pe_fld (do_v (de_v (pv 1))) rfl))) (do_v (de_str)) (nomark _)) (dw_and1 (dt_cmp op_gt ok_gt (do_v (de_call G_most_written (hr.mono (by decide)) (by rfl) T.g_most_written D_most_written.kp D_most_written.bd .nil (fun _ => .nil) pass0 (da_c (do_v (de_v (pv 0))) (da_n)))) (do_v (de_fld T.cl_Side T.n_Side_had (pe_fld (do_v (de_v (pv 1))) rfl))) (nomark _))))))))) (dss_one (ds_retN (dn_lst (da_n) (la_n)))) (dss_nil))
    (dss_cons (ds_set nd rfl (by first | exact Or.inl rfl | exact Or.inr rfl) (de_call G_most_read (hr.mono (by decide)) (by rfl) T.g_most_read D_most_read.kp D_most_read.bd .nil (fun _ => .nil) pass0 (da_c (do_v (de_v (pv 0))) (da_n))))
    (dss_cons (ds_set nd rfl (by first | exact Or.inl rfl | exact Or.inr rfl) (de_if (dt_cmp op_gt ok_gt (do_v (de_fld T.cl_Side T.n_Side_told (pe_fld (do_v (de_v (pv 1))) rfl))) (do_v (de_fld T.cl_Side T.n_Side_had (pe_fld (do_v (de_v (pv 0))) rfl))) (nomark _)) (de_n (dn_lst (da_c (do_v (de_str)) (da_n)) (la_c (la_n)))) (de_n (dn_lst (da_n) (la_n)))))
    (dss_one (ds_ret (de_if (dt_w (dw_or (dt_cmp op_isN ok_isN (do_v (de_v (pv 2))) (do_v (de_non)) (nomark _)) (dw_or1 (dt_cmp op_le ok_le (do_v (de_fld T.cl_Side T.n_Side_told (pe_fld (do_v (de_v (pv 1))) rfl))) (do_v (de_v (pv 2))) (nomark _))))) (de_n (dn_lstS (da_s (de_v (pv 3)) (da_c (do_v (de_str)) (da_n))))) (de_v (pv 3))))))))
theorem ok_c_Side_reset (T : Txt K w mg) {fd : FuncData} (W : Fd K "reset" "Side.reset" s_c_Side_reset [] (He.ma K (He.ga K "Side") "reset") fd)
    (D_c_Side_after : DoneD P w K mg base 3 "self" (He.ma K (He.ga K "Side") "after") (f_c_Side_after (He.ga K "Side"))) :
    FnOk P w K mg base CX0 4 (He.ma K (He.ga K "Side") "reset") fd ["self"] (spF ⟨K, w⟩ (f_c_Side_reset (He.ga K "Side"))) := by
  have G_c_Side_after := D_c_Side_after.ok
  refine okD (k := 3) (N := N_c_Side_reset) (ps := ["self"]) W sc_c_Side_reset (by decide) (fun cdv A outer s H E g hr => ?_)
  have nd := sc_c_Side_reset.nd
  have hu := hr.units
  exact dss_one (ds_ret (de_kw (E := E0) (pe_methK (ks := ["heard"]) (de_v (pv 0)) T.cl_Side T.e_c_Side_after G_c_Side_after (hr.mono (by decide)) (dk_c (do_v (de_str)) (dk_n)))))
theorem ok_moves (T : Txt K w mg) {fd : FuncData} (W : Fd K "moves" "moves" s_moves [] (He.ga K "moves") fd)
    {fd_sides_of : FuncData} (D_sides_of : Done P w K mg base 3 (He.ga K "sides_of") ["first", "second", "stand"] (f_sides_of (He.ga K "Program") (He.ga K "Side")) [] fd_sides_of)
    {fd_row_ends : FuncData} (D_row_ends : Done P w K mg base 7 (He.ga K "row_ends") ["mine", "other"] (f_row_ends (He.ga K "Side")) [] fd_row_ends)
    {fd_stand_of : FuncData} (D_stand_of : Done P w K mg base 1 (He.ga K "stand_of") ["sides", "fates"] (f_stand_of (He.ga K "Side")) [] fd_stand_of)
    {fd_replaced : FuncData} (D_replaced : Done P w K mg base 1 (He.ga K "replaced") ["pair", "index", "value"] (f_replaced) [] fd_replaced)
    {fd_reset_fates : FuncData} (D_reset_fates : Done P w K mg base 5 (He.ga K "reset_fates") ["mine", "other"] (f_reset_fates (He.ga K "Side")) [] fd_reset_fates)
    {fd_c_Side_reset : FuncData} (D_c_Side_reset : Done P w K mg base 4 (He.ma K (He.ga K "Side") "reset") ["self"] (f_c_Side_reset (He.ga K "Side")) [] fd_c_Side_reset) :
    FnOk P w K mg base CX0 8 (He.ga K "moves") fd ["first", "second", "stand"] (spF ⟨K, w⟩ (f_moves (He.ga K "Program") (He.ga K "Side"))) := by
  have G_sides_of := D_sides_of.ok
  have G_row_ends := D_row_ends.ok
  have G_stand_of := D_stand_of.ok
  have G_replaced := D_replaced.ok
  have G_reset_fates := D_reset_fates.ok
  have G_c_Side_reset := D_c_Side_reset.ok
  refine okD (k := 7) (N := N_moves) (ps := ["first", "second", "stand"]) W sc_moves (by decide) (fun cdv A outer s H E g hr => ?_)
  have nd := sc_moves.nd
  have hu := hr.units
  exact dss_cons (ds_set nd rfl (by first | exact Or.inl rfl | exact Or.inr rfl) (de_call G_sides_of (hr.mono (by decide)) (by rfl) T.g_sides_of D_sides_of.kp D_sides_of.bd .nil (fun _ => .nil) pass0 (da_c (do_v (de_v (pv 0))) (da_c (do_v (de_v (pv 1))) (da_c (do_v (de_v (pv 2))) (da_n))))))
    (dss_cons (ds_set nd rfl (by first | exact Or.inl rfl | exact Or.inr rfl) (de_tup (da_c (do_v (de_ix ix_seq ok_ix (do_v (de_ix ix_seq ok_ix (do_v (de_v (pv 2))) (do_v (de_int)))) (do_v (de_int)))) (da_c (do_v (de_ix ix_seq ok_ix (do_v (de_ix ix_seq ok_ix (do_v (de_v (pv 2))) (do_v (de_int)))) (do_v (de_int)))) (da_n))) (la_c (la_c (la_n)))))
    (dss_cons (ds_own nd rfl (by first | exact Or.inl rfl | exact Or.inr rfl) (dn_lst (da_n) (la_n)))
    (dss_cons (ds_for PassesOwn.never rfl (di_tup (de_tup (da_c (do_v (de_int)) (da_c (do_v (de_int)) (da_n))) (la_c (la_c (la_n))))) (dg_n nd rfl (by first | exact Or.inl rfl | exact Or.inr rfl)) (dss_cons (ds_par (ps_par (by rfl) nd rfl rfl (by decide) rfl rfl (da_c (do_v (de_ix ix_seq ok_ix (do_v (de_v (pv 3))) (do_v (de_v (pv 6))))) (da_c (do_v (de_ix ix_seq ok_ix (do_v (de_v (pv 3))) (do_v (de_bin op_sub ok_sub (do_v (de_int)) (do_v (de_v (pv 6))))))) (da_n))) (by rfl)))
    (dss_cons (ds_for PassesOwn.never rfl (di_list (de_call G_row_ends (hr.mono (by decide)) (by rfl) T.g_row_ends D_row_ends.kp D_row_ends.bd .nil (fun _ => .nil) pass0 (da_c (do_v (de_v (pv 7))) (da_c (do_v (de_v (pv 8))) (da_n))))) (dg_tup rfl (dgs_cons (dg_n nd rfl (by first | exact Or.inl rfl | exact Or.inr rfl)) (dgs_cons (dg_n nd rfl (by first | exact Or.inl rfl | exact Or.inr rfl)) (dgs_cons (dg_n nd rfl (by first | exact Or.inl rfl | exact Or.inr rfl)) (dgs_nil))))) (dss_cons (ds_set nd rfl (by first | exact Or.inl rfl | exact Or.inr rfl) (de_if (dt_cmp (op_eqD hu) ok_eq (do_v (de_v (pv 6))) (do_v (de_int)) (nomark _)) (de_tup (da_c (do_v (de_v (pv 9))) (da_c (do_v (de_int)) (da_n))) (la_c (la_c (la_n)))) (de_tup (da_c (do_v (de_int)) (da_c (do_v (de_v (pv 9))) (da_n))) (la_c (la_c (la_n))))))
    (dss_one (ds_app (pe_bm PySem.F.plainAttrs_list PySem.F.slot_list_append PySem.F.type_list_append mt_append (pv 5) (pa_cons (de_tup (da_c (do_v (de_v (pv 12))) (da_c (do_v (de_v (pv 10))) (da_c (do_v (de_v (pv 6))) (da_c (do_v (de_call G_stand_of (hr.mono (by decide)) (by rfl) T.g_stand_of D_stand_of.kp D_stand_of.bd .nil (fun _ => .nil) pass0 (da_c (do_v (de_call G_replaced (hr.mono (by decide)) (by rfl) T.g_replaced D_replaced.kp D_replaced.bd .nil (fun _ => .nil) pass0 (da_c (do_v (de_v (pv 3))) (da_c (do_v (de_v (pv 6))) (da_c (do_v (de_v (pv 11))) (da_n)))))) (da_c (do_v (de_v (pv 4))) (da_n))))) (da_n))))) (la_c (la_c (la_c (la_c (la_n)))))) pa_nil))))))
    (dss_one (ds_for PassesOwn.never rfl (di_list (de_call G_reset_fates (hr.mono (by decide)) (by rfl) T.g_reset_fates D_reset_fates.kp D_reset_fates.bd .nil (fun _ => .nil) pass0 (da_c (do_v (de_v (pv 7))) (da_c (do_v (de_v (pv 8))) (da_n))))) (dg_n nd rfl (by first | exact Or.inl rfl | exact Or.inr rfl)) (dss_cons (ds_set nd rfl (by first | exact Or.inl rfl | exact Or.inr rfl) (de_call G_replaced (hr.mono (by decide)) (by rfl) T.g_replaced D_replaced.kp D_replaced.bd .nil (fun _ => .nil) pass0 (da_c (do_v (de_v (pv 4))) (da_c (do_v (de_bin op_sub ok_sub (do_v (de_int)) (do_v (de_v (pv 6))))) (da_c (do_v (de_v (pv 13))) (da_n))))))
    (dss_one (ds_app (pe_bm PySem.F.plainAttrs_list PySem.F.slot_list_append PySem.F.type_list_append mt_append (pv 5) (pa_cons (de_tup (da_c (do_v (de_tup (da_c (do_v (de_int)) (da_c (do_v (de_int)) (da_n))) (la_c (la_c (la_n))))) (da_c (do_v (de_v (pv 13))) (da_c (do_v (de_v (pv 6))) (da_c (do_v (de_call G_stand_of (hr.mono (by decide)) (by rfl) T.g_stand_of D_stand_of.kp D_stand_of.bd .nil (fun _ => .nil) pass0 (da_c (do_v (de_call G_replaced (hr.mono (by decide)) (by rfl) T.g_replaced D_replaced.kp D_replaced.bd .nil (fun _ => .nil) pass0 (da_c (do_v (de_v (pv 3))) (da_c (do_v (de_v (pv 6))) (da_c (do_v (de_meth (fun _ => .nil) (pe_me0 (pe_meth0 (do_v (de_v (pv 7))) T.cl_Side T.e_c_Side_reset G_c_Side_reset (hr.mono (by decide)) D_c_Side_reset.bd .nil pass0)))) (da_n)))))) (da_c (do_v (de_v (pv 14))) (da_n))))) (da_n))))) (la_c (la_c (la_c (la_c (la_n)))))) pa_nil))))))))))
    (dss_one (ds_retO (pv 5))))))
theorem ok_fits (T : Txt K w mg) {fd : FuncData} (W : Fd K "fits" "fits" s_fits [] (He.ga K "fits") fd) :
    FnOk P w K mg base CX0 1 (He.ga K "fits") fd ["least", "rooms"] (spF ⟨K, w⟩ (f_fits)) := by
  refine okD (k := 0) (N := N_fits) (ps := ["least", "rooms"]) W sc_fits (by decide) (fun cdv A outer s H E g hr => ?_)
  have nd := sc_fits.nd
  have hu := hr.units
  exact dss_one (ds_ret (de_callB (cr_all rfl) ok_all (by rfl) T.z_all (by decide +kernel) (da_c (do_v (de_n (dn_lc (own := [("need", 2), ("room", 3)]) rfl nd (di_zip (by rfl) T.z_zip (da_c (do_v (de_v (pv 0))) (da_c (do_v (de_v (pv 1))) (da_n)))) (blkOk_by (own := [("need", 2), ("room", 3)]) (N := N_fits) (sc := defScope s_fits) (by decide +kernel)) (fun _ _ _ _ _ g => dg_tup rfl (dgs_cons (dg_n nd rfl (by first | exact Or.inl rfl | exact Or.inr rfl)) (dgs_cons (dg_n nd rfl (by first | exact Or.inl rfl | exact Or.inr rfl)) (dgs_nil)))) (fun _ _ _ _ _ g => dts_nil) (fun _ _ _ _ _ g => de_or (de_cmp op_isN ok_isN (do_v (de_v (pv 3))) (do_v (de_non)) (nomark _)) (de_one (de_cmp op_ge ok_ge (do_v (de_v (pv 3))) (do_v (de_v (pv 2))) (nomark _)))) (by decide)))) (da_n))))
theorem ok_moves_at (T : Txt K w mg) {fd : FuncData} (W : Fd K "moves_at" "moves_at" s_moves_at [] (He.ga K "moves_at") fd)
    {fd_moves : FuncData} (D_moves : Done P w K mg base 8 (He.ga K "moves") ["first", "second", "stand"] (f_moves (He.ga K "Program") (He.ga K "Side")) [] fd_moves)
    {fd_fits : FuncData} (D_fits : Done P w K mg base 1 (He.ga K "fits") ["least", "rooms"] (f_fits) [] fd_fits) :
    FnOk P w K mg base CX0 9 (He.ga K "moves_at") fd ["first", "second", "rooms", "stand"] (spF ⟨K, w⟩ (f_moves_at (He.ga K "Program") (He.ga K "Side"))) := by
  have G_moves := D_moves.ok
  have G_fits := D_fits.ok
  refine okD (k := 8) (N := N_moves_at) (ps := ["first", "second", "rooms", "stand"]) W sc_moves_at (by decide) (fun cdv A outer s H E g hr => ?_)
  have nd := sc_moves_at.nd
  have hu := hr.units
  exact dss_one (ds_retN (dn_lc (own := [("move", 4)]) rfl nd (di_list (de_call G_moves (hr.mono (by decide)) (by rfl) T.g_moves D_moves.kp D_moves.bd .nil (fun _ => .nil) pass0 (da_c (do_v (de_v (pv 0))) (da_c (do_v (de_v (pv 1))) (da_c (do_v (de_v (pv 3))) (da_n)))))) (blkOk_by (own := [("move", 4)]) (N := N_moves_at) (sc := defScope s_moves_at) (by decide +kernel)) (fun _ _ _ _ _ g => dg_n nd rfl (by first | exact Or.inl rfl | exact Or.inr rfl)) (fun _ _ _ _ _ g => dts_one (dt_v (de_call G_fits (hr.mono (by decide)) (by rfl) T.g_fits D_fits.kp D_fits.bd .nil (fun _ => .nil) pass0 (da_c (do_v (de_ix ix_seq ok_ix (do_v (de_v (pv 4))) (do_v (de_int)))) (da_c (do_v (de_v (pv 2))) (da_n)))))) (fun _ _ _ _ _ g => de_sl (do_v (de_v (pv 4))) (db_s (de_int)) (db_n)) (by decide)))
theorem ok_next_stands (T : Txt K w mg) {fd : FuncData} (W : Fd K "next_stands" "next_stands" s_next_stands [] (He.ga K "next_stands") fd)
    {fd_moves_at : FuncData} (D_moves_at : Done P w K mg base 9 (He.ga K "moves_at") ["first", "second", "rooms", "stand"] (f_moves_at (He.ga K "Program") (He.ga K "Side")) [] fd_moves_at) :
    FnOk P w K mg base CX0 10 (He.ga K "next_stands") fd ["first", "second", "rooms", "stand"] (spF ⟨K, w⟩ (f_next_stands (He.ga K "Program") (He.ga K "Side"))) := by
  have G_moves_at := D_moves_at.ok
  refine okD (k := 9) (N := N_next_stands) (ps := ["first", "second", "rooms", "stand"]) W sc_next_stands (by decide) (fun cdv A outer s H E g hr => ?_)
  have nd := sc_next_stands.nd
  have hu := hr.units
  exact dss_cons (ds_setKc (own := [("kind", 5), ("side", 6), ("after", 7)]) (room9 hr) rfl nd rfl rfl (sw_trueD rfl rfl rfl (by decide +kernel)) (di_list (de_call G_moves_at (hr.mono (by decide)) (by rfl) T.g_moves_at D_moves_at.kp D_moves_at.bd .nil (fun _ => .nil) pass0 (da_c (do_v (de_v (pv 0))) (da_c (do_v (de_v (pv 1))) (da_c (do_v (de_v (pv 2))) (da_c (do_v (de_v (pv 3))) (da_n))))))) (blkOk_by (own := [("kind", 5), ("side", 6), ("after", 7)]) (N := N_next_stands) (sc := defScope s_next_stands) (by decide +kernel)) (fun _ _ _ _ _ g => dg_tup rfl (dgs_cons (dg_n nd rfl (by first | exact Or.inl rfl | exact Or.inr rfl)) (dgs_cons (dg_n nd rfl (by first | exact Or.inl rfl | exact Or.inr rfl)) (dgs_cons (dg_n nd rfl (by first | exact Or.inl rfl | exact Or.inr rfl)) (dgs_nil))))) (fun _ _ _ _ _ g => dts_nil) (fun _ _ _ _ _ g => de_v (pv 7)) (fun _ _ _ _ _ g => de_bl) (by decide))
    (dss_one (ds_retN (dn_callTy (cr_listX rfl) ok_listX (by rfl) T.z_list (by decide +kernel) (da_c (do_v (de_v (pv 4))) (da_n)))))
theorem ok_reached (T : Txt K w mg) {fd : FuncData} (W : Fd K "reached" "reached" s_reached [] (He.ga K "reached") fd)
    {fd_next_stands : FuncData} (D_next_stands : Done P w K mg base 10 (He.ga K "next_stands") ["first", "second", "rooms", "stand"] (f_next_stands (He.ga K "Program") (He.ga K "Side")) [] fd_next_stands) :
    FnOk P w K mg base CX0 11 (He.ga K "reached") fd ["first", "second", "rooms"] (spF ⟨K, w⟩ (f_reached (He.ga K "Program") (He.ga K "Side"))) := by
  have G_next_stands := D_next_stands.ok
  refine okD (k := 10) (N := N_reached) (ps := ["first", "second", "rooms"]) W sc_reached (by decide) (fun cdv A outer s H E g hr => ?_)
  have nd := sc_reached.nd
  have hu := hr.units
  exact dss_cons (ds_own nd rfl (by first | exact Or.inl rfl | exact Or.inr rfl) (dn_kdsp (room9 hr) (fun g => de_gc (by rfl) T.gc_FIRST) (fun g => de_bl)))
    (dss_cons (ds_own nd rfl (by first | exact Or.inl rfl | exact Or.inr rfl) (dn_lst (da_c (do_v (de_gc (by rfl) T.gc_FIRST)) (da_n)) (la_c (la_n))))
    (dss_cons (ds_while 16777216 PassesOwn.never (dt_cmp (op_neD hu) ok_ne (do_r (pv 4)) (do_v (de_n (dn_lst (da_n) (la_n)))) (nomark _)) (dss_one (ds_for PassesOwn.never rfl (di_list (de_call G_next_stands (hr.mono (by decide)) (by rfl) T.g_next_stands D_next_stands.kp D_next_stands.bd .nil (fun _ => .nil) pass0 (da_c (do_v (de_v (pv 0))) (da_c (do_v (de_v (pv 1))) (da_c (do_v (de_v (pv 2))) (da_c (do_v (de_popO (pe_bm0 PySem.F.plainAttrs_list PySem.F.slot_list_pop PySem.F.type_list_pop (mt_pop) (pv 4)))) (da_n))))))) (dg_n nd rfl (by first | exact Or.inl rfl | exact Or.inr rfl)) (dss_one (ds_if (dt_cmp (op_knotin (room9 hr)) ok_kin (do_v (de_v (pv 5))) (do_r (pv 3))) (dss_cons (ds_putE (ps_kput (room9 hr) (pv 3) (de_v (pv 5)) (de_bl) rfl))
    (dss_one (ds_app (pe_bm PySem.F.plainAttrs_list PySem.F.slot_list_append PySem.F.type_list_append mt_append (pv 4) (pa_cons (de_v (pv 5)) pa_nil))))) (dss_nil))))))
    (dss_one (ds_retN (dn_callTy (cr_listX rfl) ok_listX (by rfl) T.z_list (by decide +kernel) (da_c (do_r (pv 3)) (da_n)))))))
theorem ok_sure (T : Txt K w mg) {fd : FuncData} (W : Fd K "sure" "sure" s_sure [] (He.ga K "sure") fd)
    {fd_reached : FuncData} (D_reached : Done P w K mg base 11 (He.ga K "reached") ["first", "second", "rooms"] (f_reached (He.ga K "Program") (He.ga K "Side")) [] fd_reached) :
    FnOk P w K mg base CX0 12 (He.ga K "sure") fd ["first", "second", "side"] (spF ⟨K, w⟩ (f_sure (He.ga K "Program") (He.ga K "Side"))) := by
  have G_reached := D_reached.ok
  refine okD (k := 11) (N := N_sure) (ps := ["first", "second", "side"]) W sc_sure (by decide) (fun cdv A outer s H E g hr => ?_)
  have nd := sc_sure.nd
  have hu := hr.units
  exact dss_cons (ds_own nd rfl (by first | exact Or.inl rfl | exact Or.inr rfl) (dn_dnew))
    (dss_cons (ds_for PassesOwn.never rfl (di_list (de_call G_reached (hr.mono (by decide)) (by rfl) T.g_reached D_reached.kp D_reached.bd .nil (fun _ => .nil) pass0 (da_c (do_v (de_v (pv 0))) (da_c (do_v (de_v (pv 1))) (da_c (do_v (de_tup (da_c (do_v (de_non)) (da_c (do_v (de_non)) (da_n))) (la_c (la_c (la_n))))) (da_n)))))) (dg_n nd rfl (by first | exact Or.inl rfl | exact Or.inr rfl)) (dss_cons (ds_asg (de_tup (da_c (do_v (de_ix ix_seq ok_ix (do_v (de_ix ix_seq ok_ix (do_v (de_v (pv 4))) (do_v (de_v (pv 2))))) (do_v (de_int)))) (da_c (do_v (de_ix ix_seq ok_ix (do_v (de_ix ix_seq ok_ix (do_v (de_v (pv 4))) (do_v (de_v (pv 2))))) (do_v (de_int)))) (da_c (do_v (de_ix ix_seq ok_ix (do_v (de_ix ix_seq ok_ix (do_v (de_v (pv 4))) (do_v (de_v (pv 2))))) (do_v (de_int)))) (da_c (do_v (de_ix ix_seq ok_ix (do_v (de_ix ix_seq ok_ix (do_v (de_v (pv 4))) (do_v (de_bin op_sub ok_sub (do_v (de_int)) (do_v (de_v (pv 2))))))) (do_v (de_int)))) (da_n))))) (la_c (la_c (la_c (la_c (la_n)))))) (dg_tup rfl (dgs_cons (dg_n nd rfl (by first | exact Or.inl rfl | exact Or.inr rfl)) (dgs_cons (dg_n nd rfl (by first | exact Or.inl rfl | exact Or.inr rfl)) (dgs_cons (dg_n nd rfl (by first | exact Or.inl rfl | exact Or.inr rfl)) (dgs_cons (dg_n nd rfl (by first | exact Or.inl rfl | exact Or.inr rfl)) (dgs_nil)))))))
    (dss_one (ds_if (dt_not (dt_v (de_callB call_isi (ok_isi (fun C h => nomatch h)) (by rfl) T.z_isinstance (by decide +kernel) (da_c (do_v (de_v (pv 5))) (da_c (do_v (de_bty (pe_bltn (by rfl) T.z_str (by decide +kernel) rfl))) (da_n)))))) (dss_cons (ds_set nd rfl (by first | exact Or.inl rfl | exact Or.inr rfl) (de_or (de_cmp (op_eqD hu) ok_eq (do_v (de_v (pv 6))) (do_v (de_str)) (nomark _)) (de_one (de_and (de_cmp (op_eqD hu) ok_eq (do_v (de_v (pv 6))) (do_v (de_str)) (nomark _)) (de_one (de_cmp op_ge ok_ge (do_v (de_v (pv 8))) (do_v (de_v (pv 7))) (nomark _)))))))
    (dss_one (ds_putD (ps_dput (hu_of hr) (pv 3) (de_v (pv 5)) (de_and (de_dget2O (hu_of hr) (pv 3) (de_v (pv 5)) (de_bl) ⟨by rfl, by rfl, by rfl, by rfl⟩) (de_one (de_v (pv 9)))) rfl)))) (dss_nil)))))
    (dss_one (ds_retN (dn_lc (own := [("row", 5)]) rfl nd (di_list (de_n (dn_callB (cr_sortedA rfl) ok_sortedA (by rfl) T.z_sorted (by decide +kernel) (da_c (do_r (pv 3)) (da_n))))) (blkOk_by (own := [("row", 5)]) (N := N_sure) (sc := defScope s_sure) (by decide +kernel)) (fun _ _ _ _ _ g => dg_n nd rfl (by first | exact Or.inl rfl | exact Or.inr rfl)) (fun _ _ _ _ _ g => dts_one (dt_v (de_dget (pe_dget (hu_of hr) (do_r (pv 3)) (do_v (de_v (pv 5))) (fun _ _ => rfl))))) (fun _ _ _ _ _ g => de_v (pv 5)) (by decide)))))
theorem ok_w_both (T : Txt K w mg) {fd : FuncData} (W : Fd K "_law_both" "_law_both" s_w_both [] (He.ga K "_law_both") fd)
    {fd_c_Program_init : FuncData} (D_c_Program_init : Done P w K mg base 3 (He.ma K (He.ga K "Program") "__init__") ["self", "rows"] (f_c_Program_init (He.ga K "Program")) [] fd_c_Program_init)
    {fd_sure : FuncData} (D_sure : Done P w K mg base 12 (He.ga K "sure") ["first", "second", "side"] (f_sure (He.ga K "Program") (He.ga K "Side")) [] fd_sure) :
    FnOk P w K mg base CX0 13 (He.ga K "_law_both") fd ["_law_one", "_law_two"] (spF ⟨K, w⟩ (f_w_both (He.ga K "Program") (He.ga K "Side"))) := by
  have G_c_Program_init := D_c_Program_init.ok
  have G_sure := D_sure.ok
  refine okD (k := 12) (N := N_w_both) (ps := ["_law_one", "_law_two"]) W sc_w_both (by decide) (fun cdv A outer s H E g hr => ?_)
  have nd := sc_w_both.nd
  have hu := hr.units
  exact dss_cons (ds_set nd rfl (by first | exact Or.inl rfl | exact Or.inr rfl) (de_n (dn_lst (da_c (do_v (de_n (dn_make (fun _ => .nil) (pe_make T.mk_Program G_c_Program_init (hr.mono (by decide)) (by rfl) T.g_Program D_c_Program_init.bd .nil pass0 (da_c (do_v (de_v (pv 0))) (da_n)))))) (da_c (do_v (de_n (dn_make (fun _ => .nil) (pe_make T.mk_Program G_c_Program_init (hr.mono (by decide)) (by rfl) T.g_Program D_c_Program_init.bd .nil pass0 (da_c (do_v (de_v (pv 1))) (da_n)))))) (da_n))) (la_c (la_c (la_n))))))
    (dss_one (ds_retN (dn_lc (own := [("_law_side", 3)]) rfl nd (di_tup (de_tup (da_c (do_v (de_int)) (da_c (do_v (de_int)) (da_n))) (la_c (la_c (la_n))))) (blkOk_by (own := [("_law_side", 3)]) (N := N_w_both) (sc := defScope s_w_both) (by decide +kernel)) (fun _ _ _ _ _ g => dg_n nd rfl (by first | exact Or.inl rfl | exact Or.inr rfl)) (fun _ _ _ _ _ g => dts_nil) (fun _ _ _ _ _ g => de_call G_sure (hr.mono (by decide)) (by rfl) T.g_sure D_sure.kp D_sure.bd .nil (fun _ => .nil) pass0 (da_c (do_v (de_ix ix_seq ok_ix (do_v (de_v (pv 2))) (do_v (de_int)))) (da_c (do_v (de_ix ix_seq ok_ix (do_v (de_v (pv 2))) (do_v (de_int)))) (da_c (do_v (de_v (pv 3))) (da_n))))) (by decide))))
theorem ok_w_is_right (T : Txt K w mg) {fd : FuncData} (W : Fd K "_law_is_right" "_law_is_right" s_w_is_right [] (He.ga K "_law_is_right") fd)
    {fd_w_both : FuncData} (D_w_both : Done P w K mg base 13 (He.ga K "_law_both") ["_law_one", "_law_two"] (f_w_both (He.ga K "Program") (He.ga K "Side")) [] fd_w_both) :
    FnOk P w K mg base CX0 14 (He.ga K "_law_is_right") fd ["_law_n"] (spF ⟨K, w⟩ (f_w_is_right (He.ga K "Program") (He.ga K "Side"))) := by
  have G_w_both := D_w_both.ok
  refine okD (k := 13) (N := N_w_is_right) (ps := ["_law_n"]) W sc_w_is_right (by decide) (fun cdv A outer s H E g hr => ?_)
  have nd := sc_w_is_right.nd
  have hu := hr.units
  exact dss_cons (ds_set nd rfl (by first | exact Or.inl rfl | exact Or.inr rfl) (de_n (dn_lst (da_c (do_v (de_tup (da_c (do_v (de_str)) (da_c (do_v (de_bin op_mulW ok_mul (do_v (de_int)) (do_v (de_v (pv 0))))) (da_c (do_v (de_int)) (da_n)))) (la_c (la_c (la_c (la_n)))))) (da_c (do_v (de_tup (da_c (do_v (de_str)) (da_n)) (la_c (la_n)))) (da_c (do_v (de_tup (da_c (do_v (de_str)) (da_c (do_v (de_int)) (da_n))) (la_c (la_c (la_n))))) (da_c (do_v (de_tup (da_c (do_v (de_str)) (da_n)) (la_c (la_n)))) (da_c (do_v (de_tup (da_c (do_v (de_str)) (da_n)) (la_c (la_n)))) (da_n)))))) (la_c (la_c (la_c (la_c (la_c (la_n)))))))))
    (dss_cons (ds_set nd rfl (by first | exact Or.inl rfl | exact Or.inr rfl) (de_n (dn_lst (da_c (do_v (de_tup (da_c (do_v (de_str)) (da_c (do_v (de_bin op_mulW ok_mul (do_v (de_int)) (do_v (de_v (pv 0))))) (da_c (do_v (de_int)) (da_c (do_v (de_int)) (da_n))))) (la_c (la_c (la_c (la_c (la_n))))))) (da_c (do_v (de_tup (da_c (do_v (de_str)) (da_c (do_v (de_bin op_mulW ok_mul (do_v (de_int)) (do_v (de_v (pv 0))))) (da_c (do_v (de_int)) (da_n)))) (la_c (la_c (la_c (la_n)))))) (da_c (do_v (de_tup (da_c (do_v (de_str)) (da_n)) (la_c (la_n)))) (da_c (do_v (de_tup (da_c (do_v (de_str)) (da_n)) (la_c (la_n)))) (da_n))))) (la_c (la_c (la_c (la_c (la_n))))))))
    (dss_cons (ds_if (dt_cmp (op_neD hu) ok_ne (do_v (de_call G_w_both (hr.mono (by decide)) (by rfl) T.g_w_both D_w_both.kp D_w_both.bd .nil (fun _ => .nil) pass0 (da_c (do_v (de_v (pv 1))) (da_c (do_v (de_v (pv 2))) (da_n))))) (do_v (de_n (dn_lst (da_c (do_v (de_n (dn_lst (da_c (do_v (de_int)) (da_n)) (la_c (la_n))))) (da_c (do_v (de_n (dn_lst (da_c (do_v (de_int)) (da_c (do_v (de_int)) (da_n))) (la_c (la_c (la_n)))))) (da_n))) (la_c (la_c (la_n)))))) (nomark _)) (dss_one (ds_ret (de_bl))) (dss_nil))
    (dss_cons (ds_set nd rfl (by first | exact Or.inl rfl | exact Or.inr rfl) (de_n (dn_lst (da_c (do_v (de_tup (da_c (do_v (de_str)) (da_c (do_v (de_bin op_mulW ok_mul (do_v (de_int)) (do_v (de_v (pv 0))))) (da_c (do_v (de_int)) (da_c (do_v (de_int)) (da_n))))) (la_c (la_c (la_c (la_c (la_n))))))) (da_c (do_v (de_tup (da_c (do_v (de_str)) (da_c (do_v (de_int)) (da_n))) (la_c (la_c (la_n))))) (da_c (do_v (de_tup (da_c (do_v (de_str)) (da_c (do_v (de_bin op_mulW ok_mul (do_v (de_int)) (do_v (de_v (pv 0))))) (da_c (do_v (de_int)) (da_n)))) (la_c (la_c (la_c (la_n)))))) (da_c (do_v (de_tup (da_c (do_v (de_str)) (da_n)) (la_c (la_n)))) (da_c (do_v (de_tup (da_c (do_v (de_str)) (da_n)) (la_c (la_n)))) (da_n)))))) (la_c (la_c (la_c (la_c (la_c (la_n)))))))))
    (dss_cons (ds_if (dt_cmp (op_neD hu) ok_ne (do_v (de_call G_w_both (hr.mono (by decide)) (by rfl) T.g_w_both D_w_both.kp D_w_both.bd .nil (fun _ => .nil) pass0 (da_c (do_v (de_v (pv 1))) (da_c (do_v (de_v (pv 3))) (da_n))))) (do_v (de_n (dn_lst (da_c (do_v (de_n (dn_lst (da_c (do_v (de_int)) (da_c (do_v (de_int)) (da_n))) (la_c (la_c (la_n)))))) (da_c (do_v (de_n (dn_lst (da_c (do_v (de_int)) (da_c (do_v (de_int)) (da_c (do_v (de_int)) (da_n)))) (la_c (la_c (la_c (la_n))))))) (da_n))) (la_c (la_c (la_n)))))) (nomark _)) (dss_one (ds_ret (de_bl))) (dss_nil))
    (dss_cons (ds_set nd rfl (by first | exact Or.inl rfl | exact Or.inr rfl) (de_n (dn_lst (da_c (do_v (de_tup (da_c (do_v (de_str)) (da_c (do_v (de_bin op_mulW ok_mul (do_v (de_int)) (do_v (de_v (pv 0))))) (da_c (do_v (de_int)) (da_n)))) (la_c (la_c (la_c (la_n)))))) (da_c (do_v (de_tup (da_c (do_v (de_str)) (da_c (do_v (de_v (pv 0))) (da_c (do_v (de_int)) (da_c (do_v (de_int)) (da_n))))) (la_c (la_c (la_c (la_c (la_n))))))) (da_c (do_v (de_tup (da_c (do_v (de_str)) (da_n)) (la_c (la_n)))) (da_c (do_v (de_tup (da_c (do_v (de_str)) (da_n)) (la_c (la_n)))) (da_n))))) (la_c (la_c (la_c (la_c (la_n))))))))
    (dss_cons (ds_set nd rfl (by first | exact Or.inl rfl | exact Or.inr rfl) (de_n (dn_lst (da_c (do_v (de_tup (da_c (do_v (de_str)) (da_c (do_v (de_bin op_mulW ok_mul (do_v (de_int)) (do_v (de_v (pv 0))))) (da_c (do_v (de_int)) (da_c (do_v (de_int)) (da_n))))) (la_c (la_c (la_c (la_c (la_n))))))) (da_c (do_v (de_tup (da_c (do_v (de_str)) (da_c (do_v (de_v (pv 0))) (da_c (do_v (de_int)) (da_n)))) (la_c (la_c (la_c (la_n)))))) (da_c (do_v (de_tup (da_c (do_v (de_str)) (da_n)) (la_c (la_n)))) (da_c (do_v (de_tup (da_c (do_v (de_str)) (da_n)) (la_c (la_n)))) (da_n))))) (la_c (la_c (la_c (la_c (la_n))))))))
    (dss_cons (ds_if (dt_cmp (op_neD hu) ok_ne (do_v (de_call G_w_both (hr.mono (by decide)) (by rfl) T.g_w_both D_w_both.kp D_w_both.bd .nil (fun _ => .nil) pass0 (da_c (do_v (de_v (pv 4))) (da_c (do_v (de_v (pv 5))) (da_n))))) (do_v (de_n (dn_lst (da_c (do_v (de_n (dn_lst (da_c (do_v (de_int)) (da_c (do_v (de_int)) (da_n))) (la_c (la_c (la_n)))))) (da_c (do_v (de_n (dn_lst (da_c (do_v (de_int)) (da_c (do_v (de_int)) (da_n))) (la_c (la_c (la_n)))))) (da_n))) (la_c (la_c (la_n)))))) (nomark _)) (dss_one (ds_ret (de_bl))) (dss_nil))
    (dss_cons (ds_set nd rfl (by first | exact Or.inl rfl | exact Or.inr rfl) (de_n (dn_lst (da_c (do_v (de_tup (da_c (do_v (de_str)) (da_c (do_v (de_bin op_mulW ok_mul (do_v (de_int)) (do_v (de_v (pv 0))))) (da_c (do_v (de_int)) (da_n)))) (la_c (la_c (la_c (la_n)))))) (da_c (do_v (de_tup (da_c (do_v (de_str)) (da_n)) (la_c (la_n)))) (da_c (do_v (de_tup (da_c (do_v (de_str)) (da_n)) (la_c (la_n)))) (da_c (do_v (de_tup (da_c (do_v (de_str)) (da_n)) (la_c (la_n)))) (da_n))))) (la_c (la_c (la_c (la_c (la_n))))))))
    (dss_cons (ds_set nd rfl (by first | exact Or.inl rfl | exact Or.inr rfl) (de_n (dn_lst (da_c (do_v (de_tup (da_c (do_v (de_str)) (da_c (do_v (de_bin op_mulW ok_mul (do_v (de_int)) (do_v (de_v (pv 0))))) (da_c (do_v (de_int)) (da_c (do_v (de_int)) (da_n))))) (la_c (la_c (la_c (la_c (la_n))))))) (da_c (do_v (de_tup (da_c (do_v (de_str)) (da_n)) (la_c (la_n)))) (da_c (do_v (de_tup (da_c (do_v (de_str)) (da_n)) (la_c (la_n)))) (da_c (do_v (de_tup (da_c (do_v (de_str)) (da_n)) (la_c (la_n)))) (da_n))))) (la_c (la_c (la_c (la_c (la_n))))))))
    (dss_one (ds_ret (de_cmp (op_eqD hu) ok_eq (do_v (de_call G_w_both (hr.mono (by decide)) (by rfl) T.g_w_both D_w_both.kp D_w_both.bd .nil (fun _ => .nil) pass0 (da_c (do_v (de_v (pv 6))) (da_c (do_v (de_v (pv 7))) (da_n))))) (do_v (de_n (dn_lst (da_c (do_v (de_n (dn_lst (da_c (do_v (de_int)) (da_n)) (la_c (la_n))))) (da_c (do_v (de_n (dn_lst (da_c (do_v (de_int)) (da_c (do_v (de_int)) (da_c (do_v (de_int)) (da_n)))) (la_c (la_c (la_c (la_n))))))) (da_n))) (la_c (la_c (la_n)))))) (nomark _)))))))))))))
theorem ok_law (T : Txt K w mg) {fd : FuncData} (W : Fd K "law" "law" s_law [] (He.ga K "law") fd)
    {fd_w_is_right : FuncData} (D_w_is_right : Done P w K mg base 14 (He.ga K "_law_is_right") ["_law_n"] (f_w_is_right (He.ga K "Program") (He.ga K "Side")) [] fd_w_is_right) :
    FnOk P w K mg base CX0 15 (He.ga K "law") fd ["_law_script"] (spF ⟨K, w⟩ (f_law (He.ga K "Program") (He.ga K "Side"))) := by
  have G_w_is_right := D_w_is_right.ok
  refine okD (k := 14) (N := N_law) (ps := ["_law_script"]) W sc_law (by decide) (fun cdv A outer s H E g hr => ?_)
  have nd := sc_law.nd
  have hu := hr.units
  exact dss_cons (ds_set nd rfl (by first | exact Or.inl rfl | exact Or.inr rfl) (de_bin or_add ok_add (do_v (de_int)) (do_v (de_bin op_mod ok_mod (do_v (de_if (dt_cmp (op_neD hu) ok_neSc (do_v (de_v (pv 0))) (do_v (de_n (dn_lst (da_n) (la_n)))) (nomark _)) (de_callB call_abs ok_abs (by rfl) T.z_abs (by decide +kernel) (da_c (do_v (de_ix ix_seq ok_ix (do_v (de_v (pv 0))) (do_v (de_int)))) (da_n))) (de_int))) (do_v (de_bin op_powW ok_pow (do_v (de_int)) (do_v (de_int))))))))
    (dss_one (ds_ret (de_callB (cr_all rfl) ok_all (by rfl) T.z_all (by decide +kernel) (da_c (do_v (de_n (dn_lc (own := [("_law_many", 2)]) rfl nd (di_tup (de_tup (da_c (do_v (de_int)) (da_c (do_v (de_v (pv 1))) (da_n))) (la_c (la_c (la_n))))) (blkOk_by (own := [("_law_many", 2)]) (N := N_law) (sc := defScope s_law) (by decide +kernel)) (fun _ _ _ _ _ g => dg_n nd rfl (by first | exact Or.inl rfl | exact Or.inr rfl)) (fun _ _ _ _ _ g => dts_nil) (fun _ _ _ _ _ g => de_call G_w_is_right (hr.mono (by decide)) (by rfl) T.g_w_is_right D_w_is_right.kp D_w_is_right.bd .nil (fun _ => .nil) pass0 (da_c (do_v (de_v (pv 2))) (da_n))) (by decide)))) (da_n)))))
end
theorem txt_of {K : PySem.W.Frag} {w : World} {h : Heap} {mg : Str → Option Value} (X : K.In h) (G : h.Ns mainGlobals mg) (c : SaysE faL fxL fnL tbL w K) (cx : tab2 K (He.ga K "HANDS") = some (val2 w tabX)) : Txt K w mg :=
  ⟨He.free_ok X G (c.atA 0 (f := .free "isinstance") rfl),
    He.free_ok X G (c.atA 1 (f := .free "int") rfl),
    He.free_ok X G (c.atA 2 (f := .free "bool") rfl),
    He.free_ok X G (c.atA 3 (f := .free "tuple") rfl),
    He.free_ok X G (c.atA 4 (f := .free "len") rfl),
    He.free_ok X G (c.atA 5 (f := .free "str") rfl),
    gcB_ok X G (c.atX 0 (f := .bool (gcB "WORDS" (.ktp [.str "write", .str "read", .str "drain", .str "stop", .str "close", .str "abort", .str "done", .str "fail"]))) rfl),
    ktab_of (He.glo_ok X G (c.atA 62 (f := .glo "SIZES") rfl)) (c.tab 0 rfl) (c.atX 1 (f := .bool (ktB "SIZES" [("write", .int 3), ("read", .int 4), ("drain", .int 2)])) rfl),
    He.glo_ok X G (c.atA 6 (f := .glo "is_integer") rfl),
    gcB_ok X G (c.atX 2 (f := .bool (gcB "MOST_AMOUNT" (.int 1000000000000000000))) rfl),
    He.free_ok X G (c.atA 7 (f := .free "all") rfl),
    He.glo_ok X G (c.atA 8 (f := .glo "targets_at") rfl),
    He.free_ok X G (c.atA 9 (f := .free "list") rfl),
    gcB_ok X G (c.atX 3 (f := .bool (gcB "MOST_ROWS" (.int 24))) rfl),
    He.free_ok X G (c.atA 10 (f := .free "enumerate") rfl),
    He.glo_ok X G (c.atA 11 (f := .glo "is_row") rfl),
    gcB_ok X G (c.atX 4 (f := .bool (gcB "VERDICTS" (.ktp [.str "done", .str "fail"]))) rfl),
    He.cls_ok (c.atA 12 (f := .cls "Program") rfl),
    He.noat_ok (c.atA 13 (f := .noat "Program" "listed") rfl),
    He.cls_ok (c.atA 14 (f := .cls "Side") rfl),
    He.noat_ok (c.atA 15 (f := .noat "Side" "listing") rfl),
    He.noat_ok (c.atA 16 (f := .noat "Side" "row") rfl),
    He.noat_ok (c.atA 17 (f := .noat "Side" "hand") rfl),
    He.noat_ok (c.atA 18 (f := .noat "Side" "heard") rfl),
    He.noat_ok (c.atA 19 (f := .noat "Side" "part") rfl),
    He.noat_ok (c.atA 20 (f := .noat "Side" "told") rfl),
    He.noat_ok (c.atA 21 (f := .noat "Side" "had") rfl),
    He.noat_ok (c.atA 22 (f := .noat "Side" "replies") rfl),
    (c.atX 5 (f := .bool (fun K => kd K (.ref (kwdV K (He.ma K (He.ga K "Side") "__init__") "replies")) (.ktp []))) rfl),
    He.mkr_ok (c.atA 23 (f := .mkr "Side") rfl),
    He.glo_ok X G (c.atA 24 (f := .glo "Side") rfl),
    prp_ok (c.atX 6 (f := .prp "Program" "rows") rfl),
    He.meth_ok (c.atA 25 (f := .meth "Side" "has_ended") rfl),
    He.meth_ok (c.atA 26 (f := .meth "Side" "word") rfl),
    He.meth_ok (c.atA 27 (f := .meth "Side" "after") rfl),
    ⟨_, He.glo_ok X G (c.atA 28 (f := .glo "HANDS") rfl), cx⟩,
    gcB_ok X G (c.atX 7 (f := .bool (gcB "GIVEN" (.ktp [.str "closed", .str "aborted", .str "cut"]))) rfl),
    He.meth_ok (c.atA 29 (f := .meth "Side" "has_given") rfl),
    gcB_ok X G (c.atX 8 (f := .bool (gcB "CALLS" (.ktp [.str "write", .str "read", .str "drain"]))) rfl),
    He.meth_ok (c.atA 30 (f := .meth "Side" "passed") rfl),
    He.meth_ok (c.atA 31 (f := .meth "Side" "answer") rfl),
    He.meth_ok (c.atA 32 (f := .meth "Side" "answered") rfl),
    He.meth_ok (c.atA 33 (f := .meth "Side" "is_free") rfl),
    gcB_ok X G (c.atX 9 (f := .bool (gcB "READS" (.ktp [.str "read", .str "drain"]))) rfl),
    He.meth_ok (c.atA 34 (f := .meth "Side" "left") rfl),
    He.glo_ok X G (c.atA 35 (f := .glo "most_read") rfl),
    He.free_ok X G (c.atA 36 (f := .free "max") rfl),
    He.meth_ok (c.atA 37 (f := .meth "Side" "moved") rfl),
    He.glo_ok X G (c.atA 38 (f := .glo "most_written") rfl),
    gcB_ok X G (c.atX 10 (f := .bool (gcB "ENDED" (.ktp [.str "stopped", .str "closed", .str "cut"]))) rfl),
    He.meth_ok (c.atA 39 (f := .meth "Side" "gone") rfl),
    He.glo_ok X G (c.atA 40 (f := .glo "write_end") rfl),
    He.glo_ok X G (c.atA 41 (f := .glo "read_ends") rfl),
    He.free_ok X G (c.atA 42 (f := .free "zip") rfl),
    gcB_ok X G (c.atX 11 (f := .bool (gcB "HARD" (.ktp [.str "aborted", .str "cut"]))) rfl),
    He.glo_ok X G (c.atA 43 (f := .glo "sides_of") rfl),
    He.glo_ok X G (c.atA 44 (f := .glo "row_ends") rfl),
    He.glo_ok X G (c.atA 45 (f := .glo "stand_of") rfl),
    He.glo_ok X G (c.atA 46 (f := .glo "replaced") rfl),
    He.glo_ok X G (c.atA 47 (f := .glo "reset_fates") rfl),
    He.meth_ok (c.atA 48 (f := .meth "Side" "reset") rfl),
    He.glo_ok X G (c.atA 49 (f := .glo "moves") rfl),
    He.glo_ok X G (c.atA 50 (f := .glo "fits") rfl),
    He.glo_ok X G (c.atA 51 (f := .glo "moves_at") rfl),
    gcB_ok X G (c.atX 12 (f := .bool (gcB "FIRST" (.ktp [.ktp [.int 0, .str "open", .str "", .int 0, .int 0, .str ""], .ktp [.int 0, .str "open", .str "", .int 0, .int 0, .str ""]]))) rfl),
    He.glo_ok X G (c.atA 52 (f := .glo "next_stands") rfl),
    He.glo_ok X G (c.atA 53 (f := .glo "reached") rfl),
    He.free_ok X G (c.atA 54 (f := .free "sorted") rfl),
    He.mkr_ok (c.atA 55 (f := .mkr "Program") rfl),
    He.glo_ok X G (c.atA 56 (f := .glo "Program") rfl),
    He.glo_ok X G (c.atA 57 (f := .glo "sure") rfl),
    He.glo_ok X G (c.atA 58 (f := .glo "_law_both") rfl),
    He.free_ok X G (c.atA 59 (f := .free "abs") rfl),
    He.glo_ok X G (c.atA 60 (f := .glo "_law_is_right") rfl)⟩
theorem facts {P : Program} {w : World} {K : PySem.W.Frag} {h : Heap} {mg : Str → Option Value} {f : Addr} (X : K.In h) (G : h.Ns mainGlobals mg) (hfa : mg ("law" : Str) = some (.ref f)) (c : SaysE faL fxL fnL tbL w K) (cx : tab2 K (He.ga K "HANDS") = some (val2 w tabX)) :
    ∃ fd : FuncData, (∀ (s : Shared) (v : Value), BindsTo s fd ⟨[v], []⟩ [("_law_script", v)]) ∧ ∀ base : Heap, K.In base → base.Ns mainGlobals mg → FnOk P w K mg base CX0 15 f fd ["_law_script"] (spF ⟨K, w⟩ (f_law (He.ga K "Program") (He.ga K "Side"))) := by
  obtain ⟨fd_is_integer, W_is_integer⟩ := c.atF 0 rfl
  obtain ⟨fd_targets_at, W_targets_at⟩ := c.atF 1 rfl
  obtain ⟨fd_is_row, W_is_row⟩ := c.atF 2 rfl
  obtain ⟨fd_c_Program_init, W_c_Program_init⟩ := c.atF 3 rfl
  obtain ⟨fd_c_Side_init, W_c_Side_init⟩ := c.atF 4 rfl
  obtain ⟨fd_c_Program_rows, W_c_Program_rows⟩ := c.atF 5 rfl
  obtain ⟨fd_sides_of, W_sides_of⟩ := c.atF 6 rfl
  obtain ⟨fd_c_Side_has_ended, W_c_Side_has_ended⟩ := c.atF 7 rfl
  obtain ⟨fd_c_Side_word, W_c_Side_word⟩ := c.atF 8 rfl
  obtain ⟨fd_c_Side_after, W_c_Side_after⟩ := c.atF 9 rfl
  obtain ⟨fd_c_Side_passed, W_c_Side_passed⟩ := c.atF 10 rfl
  obtain ⟨fd_c_Side_has_given, W_c_Side_has_given⟩ := c.atF 11 rfl
  obtain ⟨fd_c_Side_answer, W_c_Side_answer⟩ := c.atF 12 rfl
  obtain ⟨fd_c_Side_answered, W_c_Side_answered⟩ := c.atF 13 rfl
  obtain ⟨fd_c_Side_gone, W_c_Side_gone⟩ := c.atF 14 rfl
  obtain ⟨fd_c_Side_is_free, W_c_Side_is_free⟩ := c.atF 15 rfl
  obtain ⟨fd_c_Side_left, W_c_Side_left⟩ := c.atF 16 rfl
  obtain ⟨fd_most_read, W_most_read⟩ := c.atF 17 rfl
  obtain ⟨fd_c_Side_moved, W_c_Side_moved⟩ := c.atF 18 rfl
  obtain ⟨fd_write_end, W_write_end⟩ := c.atF 19 rfl
  obtain ⟨fd_most_written, W_most_written⟩ := c.atF 20 rfl
  obtain ⟨fd_read_ends, W_read_ends⟩ := c.atF 21 rfl
  obtain ⟨fd_row_ends, W_row_ends⟩ := c.atF 22 rfl
  obtain ⟨fd_stand_of, W_stand_of⟩ := c.atF 23 rfl
  obtain ⟨fd_replaced, W_replaced⟩ := c.atF 24 rfl
  obtain ⟨fd_reset_fates, W_reset_fates⟩ := c.atF 25 rfl
  obtain ⟨fd_c_Side_reset, W_c_Side_reset⟩ := c.atF 26 rfl
  obtain ⟨fd_moves, W_moves⟩ := c.atF 27 rfl
  obtain ⟨fd_fits, W_fits⟩ := c.atF 28 rfl
  obtain ⟨fd_moves_at, W_moves_at⟩ := c.atF 29 rfl
  obtain ⟨fd_next_stands, W_next_stands⟩ := c.atF 30 rfl
  obtain ⟨fd_reached, W_reached⟩ := c.atF 31 rfl
  obtain ⟨fd_sure, W_sure⟩ := c.atF 32 rfl
  obtain ⟨fd_w_both, W_w_both⟩ := c.atF 33 rfl
  obtain ⟨fd_w_is_right, W_w_is_right⟩ := c.atF 34 rfl
  obtain ⟨fd_law, W_law⟩ := c.atF 35 rfl
  have T := txt_of X G c cx
  have e := hfa.symm.trans (He.glo_ok X G (c.atA 61 (f := .glo "law") rfl))
  cases e
  have b := FunD.bindsA (ps := ["_law_script"]) W_law fun _ _ _ _ _ _ us hl => match us, hl with | [_], _ => rfl
  refine ⟨fd_law, fun s v => b s [v] rfl, fun base _ _ => ?_⟩
  have D_is_integer : Done P w K mg base 1 (He.ga K "is_integer") ["value", "least", "most"] (f_is_integer) [] fd_is_integer := ⟨ok_is_integer T W_is_integer, W_is_integer.kp,
    (FunD.bindsN (ps := ["value", "least", "most"]) W_is_integer fun _ _ _ _ _ _ us hl => match us, hl with | [_, _, _], _ => rfl),
    ⟨[], .nil, FunD.bindsN (ps := ["value", "least", "most"]) W_is_integer fun _ _ _ _ _ _ us hl => match us, hl with | [_, _, _], _ => rfl⟩⟩
  have D_targets_at : Done P w K mg base 1 (He.ga K "targets_at") ["word"] (f_targets_at) [] fd_targets_at := ⟨ok_targets_at T W_targets_at, W_targets_at.kp,
    (FunD.bindsN (ps := ["word"]) W_targets_at fun _ _ _ _ _ _ us hl => match us, hl with | [_], _ => rfl),
    ⟨[], .nil, FunD.bindsN (ps := ["word"]) W_targets_at fun _ _ _ _ _ _ us hl => match us, hl with | [_], _ => rfl⟩⟩
  have D_is_row : Done P w K mg base 2 (He.ga K "is_row") ["value", "index", "many"] (f_is_row) [] fd_is_row := ⟨ok_is_row T W_is_row D_is_integer D_targets_at, W_is_row.kp,
    (FunD.bindsN (ps := ["value", "index", "many"]) W_is_row fun _ _ _ _ _ _ us hl => match us, hl with | [_, _, _], _ => rfl),
    ⟨[], .nil, FunD.bindsN (ps := ["value", "index", "many"]) W_is_row fun _ _ _ _ _ _ us hl => match us, hl with | [_, _, _], _ => rfl⟩⟩
  have D_c_Program_init : Done P w K mg base 3 (He.ma K (He.ga K "Program") "__init__") ["self", "rows"] (f_c_Program_init (He.ga K "Program")) [] fd_c_Program_init := ⟨ok_c_Program_init T W_c_Program_init D_is_row, W_c_Program_init.kp,
    (FunD.bindsN (ps := ["self", "rows"]) W_c_Program_init fun _ _ _ _ _ _ us hl => match us, hl with | [_, _], _ => rfl),
    ⟨[], .nil, FunD.bindsN (ps := ["self", "rows"]) W_c_Program_init fun _ _ _ _ _ _ us hl => match us, hl with | [_, _], _ => rfl⟩⟩
  have M_c_Side_init : DoneM K ["self", "listing", "row", "hand", "heard", "part", "told", "had", "replies"] 2 ["row", "hand", "heard", "told", "had"] [true, true, true, false, true, true, false] [.int 0, .ref (kwdV K (He.ma K (He.ga K "Side") "__init__") "replies")] fd_c_Side_init :=
    kbSub (ps := ["self", "listing", "row", "hand", "heard", "part", "told", "had", "replies"]) W_c_Side_init 2 _ _ [("part", .int 0), ("replies", .ref (kwdV K (He.ma K (He.ga K "Side") "__init__") "replies"))] (List.cons_ne_nil _ _) (fun q hq => by simp only [List.mem_cons, List.not_mem_nil, or_false] at hq; rcases hq with rfl | rfl; exact List.mem_of_getElem? (i := 3) rfl; exact List.mem_of_getElem? (i := 6) rfl) fun _ _ _ _ _ _ us mv ws hl hm hk => match us, hl, mv, hm, ws, hk with | [_, _], _, [_, _], _, [_, _, _, _, _], _ => ⟨_, _, _, _, _, _, rfl, rfl, ⟨_, _, _, _, _, _, rfl, rfl, rfl⟩⟩
  have D_c_Side_init : DoneK P w K mg base 1 (He.ma K (He.ga K "Side") "__init__") ["self", "listing", "row", "hand", "heard", "part", "told", "had", "replies"] 2 ["row", "hand", "heard", "part", "told", "had", "replies"] (f_c_Side_init (He.ga K "Side")) [.int 0, .str "open", .str "", .int 0, .int 0, .int 0, .ref (kwdV K (He.ma K (He.ga K "Side") "__init__") "replies")] fd_c_Side_init := ⟨ok_c_Side_init T W_c_Side_init, W_c_Side_init.kp,
    FunD.binds0 (ps := ["self", "listing", "row", "hand", "heard", "part", "told", "had", "replies"]) W_c_Side_init 2 (List.cons_ne_nil _ _) (by rfl) fun _ _ _ _ _ _ us ks hl hk => match us, hl, ks, hk with | [_, _], _, [_, _, _, _, _, _, _], _ => ⟨_, _, _, _, _, _, rfl, rfl, ⟨_, _, _, _, _, _, rfl, rfl, ⟨_, _, _, _, _, _, rfl, rfl, ⟨_, _, _, _, _, _, rfl, rfl, ⟨_, _, _, _, _, _, rfl, rfl, ⟨_, _, _, _, _, _, rfl, rfl, ⟨_, _, _, _, _, _, rfl, rfl, rfl⟩⟩⟩⟩⟩⟩⟩,
    kbAll (K := ⟨K, w⟩) (ps := ["self", "listing", "row", "hand", "heard", "part", "told", "had", "replies"]) W_c_Side_init 2 _ (List.cons_ne_nil _ _) fun _ _ _ _ _ _ us ws hl hk => match us, hl, ws, hk with | [_, _], _, [_, _, _, _, _, _, _], _ => rfl⟩
  have D_c_Program_rows : Done P w K mg base 1 (recAd K (cmP K "Program" "rows") "property") ["self"] (f_c_Program_rows (He.ga K "Program")) [] fd_c_Program_rows := ⟨ok_c_Program_rows T W_c_Program_rows, W_c_Program_rows.kp,
    (FunD.bindsN (ps := ["self"]) W_c_Program_rows fun _ _ _ _ _ _ us hl => match us, hl with | [_], _ => rfl),
    ⟨[], .nil, FunD.bindsN (ps := ["self"]) W_c_Program_rows fun _ _ _ _ _ _ us hl => match us, hl with | [_], _ => rfl⟩⟩
  have D_sides_of : Done P w K mg base 3 (He.ga K "sides_of") ["first", "second", "stand"] (f_sides_of (He.ga K "Program") (He.ga K "Side")) [] fd_sides_of := ⟨ok_sides_of T W_sides_of D_c_Side_init M_c_Side_init D_c_Program_rows, W_sides_of.kp,
    (FunD.bindsN (ps := ["first", "second", "stand"]) W_sides_of fun _ _ _ _ _ _ us hl => match us, hl with | [_, _, _], _ => rfl),
    ⟨[], .nil, FunD.bindsN (ps := ["first", "second", "stand"]) W_sides_of fun _ _ _ _ _ _ us hl => match us, hl with | [_, _, _], _ => rfl⟩⟩
  have D_c_Side_has_ended : Done P w K mg base 1 (He.ma K (He.ga K "Side") "has_ended") ["self"] (f_c_Side_has_ended (He.ga K "Side")) [] fd_c_Side_has_ended := ⟨ok_c_Side_has_ended T W_c_Side_has_ended, W_c_Side_has_ended.kp,
    (FunD.bindsN (ps := ["self"]) W_c_Side_has_ended fun _ _ _ _ _ _ us hl => match us, hl with | [_], _ => rfl),
    ⟨[], .nil, FunD.bindsN (ps := ["self"]) W_c_Side_has_ended fun _ _ _ _ _ _ us hl => match us, hl with | [_], _ => rfl⟩⟩
  have D_c_Side_word : Done P w K mg base 2 (He.ma K (He.ga K "Side") "word") ["self"] (f_c_Side_word (He.ga K "Side")) [] fd_c_Side_word := ⟨ok_c_Side_word T W_c_Side_word D_c_Side_has_ended, W_c_Side_word.kp,
    (FunD.bindsN (ps := ["self"]) W_c_Side_word fun _ _ _ _ _ _ us hl => match us, hl with | [_], _ => rfl),
    ⟨[], .nil, FunD.bindsN (ps := ["self"]) W_c_Side_word fun _ _ _ _ _ _ us hl => match us, hl with | [_], _ => rfl⟩⟩
  have D_c_Side_after : DoneD P w K mg base 3 "self" (He.ma K (He.ga K "Side") "after") (f_c_Side_after (He.ga K "Side")) := ⟨ok_c_Side_after T W_c_Side_after D_c_Side_init, W_c_Side_after.kp⟩
  have D_c_Side_passed : Done P w K mg base 4 (He.ma K (He.ga K "Side") "passed") ["self"] (f_c_Side_passed (He.ga K "Side")) [] fd_c_Side_passed := ⟨ok_c_Side_passed T W_c_Side_passed D_c_Side_word D_c_Side_after, W_c_Side_passed.kp,
    (FunD.bindsN (ps := ["self"]) W_c_Side_passed fun _ _ _ _ _ _ us hl => match us, hl with | [_], _ => rfl),
    ⟨[], .nil, FunD.bindsN (ps := ["self"]) W_c_Side_passed fun _ _ _ _ _ _ us hl => match us, hl with | [_], _ => rfl⟩⟩
  have D_c_Side_has_given : Done P w K mg base 1 (He.ma K (He.ga K "Side") "has_given") ["self"] (f_c_Side_has_given (He.ga K "Side")) [] fd_c_Side_has_given := ⟨ok_c_Side_has_given T W_c_Side_has_given, W_c_Side_has_given.kp,
    (FunD.bindsN (ps := ["self"]) W_c_Side_has_given fun _ _ _ _ _ _ us hl => match us, hl with | [_], _ => rfl),
    ⟨[], .nil, FunD.bindsN (ps := ["self"]) W_c_Side_has_given fun _ _ _ _ _ _ us hl => match us, hl with | [_], _ => rfl⟩⟩
  have D_c_Side_answer : Done P w K mg base 3 (He.ma K (He.ga K "Side") "answer") ["self", "is_over"] (f_c_Side_answer (He.ga K "Side")) [] fd_c_Side_answer := ⟨ok_c_Side_answer T W_c_Side_answer D_c_Side_word D_c_Side_has_given, W_c_Side_answer.kp,
    (FunD.bindsN (ps := ["self", "is_over"]) W_c_Side_answer fun _ _ _ _ _ _ us hl => match us, hl with | [_, _], _ => rfl),
    ⟨[], .nil, FunD.bindsN (ps := ["self", "is_over"]) W_c_Side_answer fun _ _ _ _ _ _ us hl => match us, hl with | [_, _], _ => rfl⟩⟩
  have D_c_Side_answered : Done P w K mg base 4 (He.ma K (He.ga K "Side") "answered") ["self", "answer"] (f_c_Side_answered (He.ga K "Side")) [] fd_c_Side_answered := ⟨ok_c_Side_answered T W_c_Side_answered D_c_Side_after, W_c_Side_answered.kp,
    (FunD.bindsN (ps := ["self", "answer"]) W_c_Side_answered fun _ _ _ _ _ _ us hl => match us, hl with | [_, _], _ => rfl),
    ⟨[], .nil, FunD.bindsN (ps := ["self", "answer"]) W_c_Side_answered fun _ _ _ _ _ _ us hl => match us, hl with | [_, _], _ => rfl⟩⟩
  have D_c_Side_gone : Done P w K mg base 5 (He.ma K (He.ga K "Side") "gone") ["self", "is_over"] (f_c_Side_gone (He.ga K "Side")) [] fd_c_Side_gone := ⟨ok_c_Side_gone T W_c_Side_gone D_c_Side_has_ended D_c_Side_word D_c_Side_passed D_c_Side_answer D_c_Side_answered, W_c_Side_gone.kp,
    (FunD.bindsN (ps := ["self", "is_over"]) W_c_Side_gone fun _ _ _ _ _ _ us hl => match us, hl with | [_, _], _ => rfl),
    ⟨[], .nil, FunD.bindsN (ps := ["self", "is_over"]) W_c_Side_gone fun _ _ _ _ _ _ us hl => match us, hl with | [_, _], _ => rfl⟩⟩
  have D_c_Side_is_free : Done P w K mg base 3 (He.ma K (He.ga K "Side") "is_free") ["self", "words"] (f_c_Side_is_free (He.ga K "Side")) [] fd_c_Side_is_free := ⟨ok_c_Side_is_free T W_c_Side_is_free D_c_Side_word D_c_Side_has_given, W_c_Side_is_free.kp,
    (FunD.bindsN (ps := ["self", "words"]) W_c_Side_is_free fun _ _ _ _ _ _ us hl => match us, hl with | [_, _], _ => rfl),
    ⟨[], .nil, FunD.bindsN (ps := ["self", "words"]) W_c_Side_is_free fun _ _ _ _ _ _ us hl => match us, hl with | [_, _], _ => rfl⟩⟩
  have D_c_Side_left : Done P w K mg base 1 (He.ma K (He.ga K "Side") "left") ["self"] (f_c_Side_left (He.ga K "Side")) [] fd_c_Side_left := ⟨ok_c_Side_left T W_c_Side_left, W_c_Side_left.kp,
    (FunD.bindsN (ps := ["self"]) W_c_Side_left fun _ _ _ _ _ _ us hl => match us, hl with | [_], _ => rfl),
    ⟨[], .nil, FunD.bindsN (ps := ["self"]) W_c_Side_left fun _ _ _ _ _ _ us hl => match us, hl with | [_], _ => rfl⟩⟩
  have D_most_read : Done P w K mg base 4 (He.ga K "most_read") ["side"] (f_most_read (He.ga K "Side")) [] fd_most_read := ⟨ok_most_read T W_most_read D_c_Side_is_free D_c_Side_left, W_most_read.kp,
    (FunD.bindsN (ps := ["side"]) W_most_read fun _ _ _ _ _ _ us hl => match us, hl with | [_], _ => rfl),
    ⟨[], .nil, FunD.bindsN (ps := ["side"]) W_most_read fun _ _ _ _ _ _ us hl => match us, hl with | [_], _ => rfl⟩⟩
  have D_c_Side_moved : Done P w K mg base 5 (He.ma K (He.ga K "Side") "moved") ["self", "many"] (f_c_Side_moved (He.ga K "Side")) [] fd_c_Side_moved := ⟨ok_c_Side_moved T W_c_Side_moved D_c_Side_after D_c_Side_left D_c_Side_answered, W_c_Side_moved.kp,
    (FunD.bindsN (ps := ["self", "many"]) W_c_Side_moved fun _ _ _ _ _ _ us hl => match us, hl with | [_, _], _ => rfl),
    ⟨[], .nil, FunD.bindsN (ps := ["self", "many"]) W_c_Side_moved fun _ _ _ _ _ _ us hl => match us, hl with | [_, _], _ => rfl⟩⟩
  have D_write_end : Done P w K mg base 6 (He.ga K "write_end") ["mine", "other"] (f_write_end (He.ga K "Side")) [] fd_write_end := ⟨ok_write_end T W_write_end D_most_read D_c_Side_left D_c_Side_moved, W_write_end.kp,
    (FunD.bindsN (ps := ["mine", "other"]) W_write_end fun _ _ _ _ _ _ us hl => match us, hl with | [_, _], _ => rfl),
    ⟨[], .nil, FunD.bindsN (ps := ["mine", "other"]) W_write_end fun _ _ _ _ _ _ us hl => match us, hl with | [_, _], _ => rfl⟩⟩
  have D_most_written : Done P w K mg base 4 (He.ga K "most_written") ["side"] (f_most_written (He.ga K "Side")) [] fd_most_written := ⟨ok_most_written T W_most_written D_c_Side_is_free D_c_Side_left, W_most_written.kp,
    (FunD.bindsN (ps := ["side"]) W_most_written fun _ _ _ _ _ _ us hl => match us, hl with | [_], _ => rfl),
    ⟨[], .nil, FunD.bindsN (ps := ["side"]) W_most_written fun _ _ _ _ _ _ us hl => match us, hl with | [_], _ => rfl⟩⟩
  have D_read_ends : Done P w K mg base 6 (He.ga K "read_ends") ["mine", "other"] (f_read_ends (He.ga K "Side")) [] fd_read_ends := ⟨ok_read_ends T W_read_ends D_c_Side_left D_most_written D_c_Side_moved D_c_Side_after D_c_Side_answered, W_read_ends.kp,
    (FunD.bindsN (ps := ["mine", "other"]) W_read_ends fun _ _ _ _ _ _ us hl => match us, hl with | [_, _], _ => rfl),
    ⟨[], .nil, FunD.bindsN (ps := ["mine", "other"]) W_read_ends fun _ _ _ _ _ _ us hl => match us, hl with | [_, _], _ => rfl⟩⟩
  have D_row_ends : Done P w K mg base 7 (He.ga K "row_ends") ["mine", "other"] (f_row_ends (He.ga K "Side")) [] fd_row_ends := ⟨ok_row_ends T W_row_ends D_c_Side_has_ended D_c_Side_gone D_c_Side_word D_write_end D_read_ends, W_row_ends.kp,
    (FunD.bindsN (ps := ["mine", "other"]) W_row_ends fun _ _ _ _ _ _ us hl => match us, hl with | [_, _], _ => rfl),
    ⟨[], .nil, FunD.bindsN (ps := ["mine", "other"]) W_row_ends fun _ _ _ _ _ _ us hl => match us, hl with | [_, _], _ => rfl⟩⟩
  have D_stand_of : Done P w K mg base 1 (He.ga K "stand_of") ["sides", "fates"] (f_stand_of (He.ga K "Side")) [] fd_stand_of := ⟨ok_stand_of T W_stand_of, W_stand_of.kp,
    (FunD.bindsN (ps := ["sides", "fates"]) W_stand_of fun _ _ _ _ _ _ us hl => match us, hl with | [_, _], _ => rfl),
    ⟨[], .nil, FunD.bindsN (ps := ["sides", "fates"]) W_stand_of fun _ _ _ _ _ _ us hl => match us, hl with | [_, _], _ => rfl⟩⟩
  have D_replaced : Done P w K mg base 1 (He.ga K "replaced") ["pair", "index", "value"] (f_replaced) [] fd_replaced := ⟨ok_replaced T W_replaced, W_replaced.kp,
    (FunD.bindsN (ps := ["pair", "index", "value"]) W_replaced fun _ _ _ _ _ _ us hl => match us, hl with | [_, _, _], _ => rfl),
    ⟨[], .nil, FunD.bindsN (ps := ["pair", "index", "value"]) W_replaced fun _ _ _ _ _ _ us hl => match us, hl with | [_, _, _], _ => rfl⟩⟩
  have D_reset_fates : Done P w K mg base 5 (He.ga K "reset_fates") ["mine", "other"] (f_reset_fates (He.ga K "Side")) [] fd_reset_fates := ⟨ok_reset_fates T W_reset_fates D_c_Side_has_given D_most_written D_most_read, W_reset_fates.kp,
    (FunD.bindsN (ps := ["mine", "other"]) W_reset_fates fun _ _ _ _ _ _ us hl => match us, hl with | [_, _], _ => rfl),
    ⟨[], .nil, FunD.bindsN (ps := ["mine", "other"]) W_reset_fates fun _ _ _ _ _ _ us hl => match us, hl with | [_, _], _ => rfl⟩⟩
  have D_c_Side_reset : Done P w K mg base 4 (He.ma K (He.ga K "Side") "reset") ["self"] (f_c_Side_reset (He.ga K "Side")) [] fd_c_Side_reset := ⟨ok_c_Side_reset T W_c_Side_reset D_c_Side_after, W_c_Side_reset.kp,
    (FunD.bindsN (ps := ["self"]) W_c_Side_reset fun _ _ _ _ _ _ us hl => match us, hl with | [_], _ => rfl),
    ⟨[], .nil, FunD.bindsN (ps := ["self"]) W_c_Side_reset fun _ _ _ _ _ _ us hl => match us, hl with | [_], _ => rfl⟩⟩
  have D_moves : Done P w K mg base 8 (He.ga K "moves") ["first", "second", "stand"] (f_moves (He.ga K "Program") (He.ga K "Side")) [] fd_moves := ⟨ok_moves T W_moves D_sides_of D_row_ends D_stand_of D_replaced D_reset_fates D_c_Side_reset, W_moves.kp,
    (FunD.bindsN (ps := ["first", "second", "stand"]) W_moves fun _ _ _ _ _ _ us hl => match us, hl with | [_, _, _], _ => rfl),
    ⟨[], .nil, FunD.bindsN (ps := ["first", "second", "stand"]) W_moves fun _ _ _ _ _ _ us hl => match us, hl with | [_, _, _], _ => rfl⟩⟩
  have D_fits : Done P w K mg base 1 (He.ga K "fits") ["least", "rooms"] (f_fits) [] fd_fits := ⟨ok_fits T W_fits, W_fits.kp,
    (FunD.bindsN (ps := ["least", "rooms"]) W_fits fun _ _ _ _ _ _ us hl => match us, hl with | [_, _], _ => rfl),
    ⟨[], .nil, FunD.bindsN (ps := ["least", "rooms"]) W_fits fun _ _ _ _ _ _ us hl => match us, hl with | [_, _], _ => rfl⟩⟩
  have D_moves_at : Done P w K mg base 9 (He.ga K "moves_at") ["first", "second", "rooms", "stand"] (f_moves_at (He.ga K "Program") (He.ga K "Side")) [] fd_moves_at := ⟨ok_moves_at T W_moves_at D_moves D_fits, W_moves_at.kp,
    (FunD.bindsN (ps := ["first", "second", "rooms", "stand"]) W_moves_at fun _ _ _ _ _ _ us hl => match us, hl with | [_, _, _, _], _ => rfl),
    ⟨[], .nil, FunD.bindsN (ps := ["first", "second", "rooms", "stand"]) W_moves_at fun _ _ _ _ _ _ us hl => match us, hl with | [_, _, _, _], _ => rfl⟩⟩
  have D_next_stands : Done P w K mg base 10 (He.ga K "next_stands") ["first", "second", "rooms", "stand"] (f_next_stands (He.ga K "Program") (He.ga K "Side")) [] fd_next_stands := ⟨ok_next_stands T W_next_stands D_moves_at, W_next_stands.kp,
    (FunD.bindsN (ps := ["first", "second", "rooms", "stand"]) W_next_stands fun _ _ _ _ _ _ us hl => match us, hl with | [_, _, _, _], _ => rfl),
    ⟨[], .nil, FunD.bindsN (ps := ["first", "second", "rooms", "stand"]) W_next_stands fun _ _ _ _ _ _ us hl => match us, hl with | [_, _, _, _], _ => rfl⟩⟩
  have D_reached : Done P w K mg base 11 (He.ga K "reached") ["first", "second", "rooms"] (f_reached (He.ga K "Program") (He.ga K "Side")) [] fd_reached := ⟨ok_reached T W_reached D_next_stands, W_reached.kp,
    (FunD.bindsN (ps := ["first", "second", "rooms"]) W_reached fun _ _ _ _ _ _ us hl => match us, hl with | [_, _, _], _ => rfl),
    ⟨[], .nil, FunD.bindsN (ps := ["first", "second", "rooms"]) W_reached fun _ _ _ _ _ _ us hl => match us, hl with | [_, _, _], _ => rfl⟩⟩
  have D_sure : Done P w K mg base 12 (He.ga K "sure") ["first", "second", "side"] (f_sure (He.ga K "Program") (He.ga K "Side")) [] fd_sure := ⟨ok_sure T W_sure D_reached, W_sure.kp,
    (FunD.bindsN (ps := ["first", "second", "side"]) W_sure fun _ _ _ _ _ _ us hl => match us, hl with | [_, _, _], _ => rfl),
    ⟨[], .nil, FunD.bindsN (ps := ["first", "second", "side"]) W_sure fun _ _ _ _ _ _ us hl => match us, hl with | [_, _, _], _ => rfl⟩⟩
  have D_w_both : Done P w K mg base 13 (He.ga K "_law_both") ["_law_one", "_law_two"] (f_w_both (He.ga K "Program") (He.ga K "Side")) [] fd_w_both := ⟨ok_w_both T W_w_both D_c_Program_init D_sure, W_w_both.kp,
    (FunD.bindsN (ps := ["_law_one", "_law_two"]) W_w_both fun _ _ _ _ _ _ us hl => match us, hl with | [_, _], _ => rfl),
    ⟨[], .nil, FunD.bindsN (ps := ["_law_one", "_law_two"]) W_w_both fun _ _ _ _ _ _ us hl => match us, hl with | [_, _], _ => rfl⟩⟩
  have D_w_is_right : Done P w K mg base 14 (He.ga K "_law_is_right") ["_law_n"] (f_w_is_right (He.ga K "Program") (He.ga K "Side")) [] fd_w_is_right := ⟨ok_w_is_right T W_w_is_right D_w_both, W_w_is_right.kp,
    (FunD.bindsN (ps := ["_law_n"]) W_w_is_right fun _ _ _ _ _ _ us hl => match us, hl with | [_], _ => rfl),
    ⟨[], .nil, FunD.bindsN (ps := ["_law_n"]) W_w_is_right fun _ _ _ _ _ _ us hl => match us, hl with | [_], _ => rfl⟩⟩
  exact ok_law T W_law D_w_is_right
end My
namespace My
open PySem L2 L3
local macro_rules
  | `(tactic| nofun) => `(tactic| simp only [↓x_eC, intD_i, datR_d, strD_s, ↓x_eV, ↓x_oV, ↓x_oR, ↓x_fin, ↓x_finN, ↓x_e1, ↓x_e2, ↓x_eL, ↓x_nL, ↓x_aN, ↓x_aC, ↓x_resAll, ↓x_valsOf, ↓x_tV, ↓x_tNt, ↓x_tAn, ↓x_tOr, ↓x_tYs, ↓x_eIf, ↓x_eAnd, ↓x_eOr, ↓x_eNot, ↓x_eTup, ↓x_nLst, ↓x_eChain,
      ↓x_sNx, ↓x_nDNew, ↓x_eDGet2O, ↓x_nMakeK, mrg_t, mrg_f, mrg_nil, ↓x_ePopO, ↓x_nKDsp, ↓x_sPutE, ↓x_nKc, ddD_d, ↓x_eKw, ↓x_eTGet, pair2_s, treIn, treNew, boxL, isBox, resT, ↓x_nDspM, ↓x_nMakeD, ↓x_sAug, ↓x_sPar3, three_3, dkOf_k, kwO_v, kStp3_t, lstD_l, ↓x_n2, anyItems_l, anyItems_t, anyItems_k, ↓x_sSeq, ↓x_sRet, ↓x_sRetN, ↓x_sRetO, ↓x_sIf, ↓x_sSet, ↓x_sSetN, ↓x_sOwn, ↓x_sAsg, ↓x_gN, ↓x_gTp, ↓x_gsN, ↓x_gsC, ↓x_sPar2, two_2, ↓x_sApp, ↓x_sPutD, ↓x_itV, ↓x_itT, ↓x_sFor, ↓x_nLc,
      ↓x_mkF, ↓x_callO, ↓x_eCall, ↓x_eMeth, ↓x_eProp, ↓x_nMake, ↓x_sFld, ↓x_loop_n, ↓x_loop_c, ↓x_dspN, ↓x_dspC, ↓x_kAddL, ↓x_kAddT, ↓x_eSl, ↓x_bN, ↓x_bS, ↓x_itZ, ↓x_itE, ↓x_eKGet, ↓x_aS, ↓x_eTupS, ↓x_nLstS, ↓x_valsApp, strO_s, dkD_k, seqItems_t, seqItems_kt, seqItems_l, ↓x_lcLoop_n, ↓x_lcLoop_c, ↓x_kMul, ↓x_kMod, ↓x_kPow,
      ex_some, ex_none, ex_bind, seqK_nx, seqK_br, seqK_ct, seqK_rt, seqK_rn, seqK_rr, brk_nx, brk_ct, brk_br, brk_rt, brk_rn, brk_rr, finR_d, finR_n, retO, dAt, ownAny, ownNew, ownL, ownK, ownIn, res_v, res_r, res_i, isVal_v, isVal_r, isVal_i, resAll_n, valsOf_n, int1, int2,
      wide_10, wide_2, kFld_hit, kSl_l, kSl_t, kIsi_ll, kIsi_tt, kIsN_n, kNotN_n, isN_n, isN_i, isN_s, isN_t, cutL_map, cutL_1, zipD_map, zipM_l, kList_l, kTuple_l, kTuple_t, isS, putFD_n, keyOf_i, keyOf_s, kSorted_k0, kSorted_dset, dset_len, tupItems_t, tupItems_kt, lstItems_l, lstItems_sc, lstOnly_l, oneOpd_1, resOf_rt, resOf_rn, resOf_nx, resL_n, resL_d, isNon_d, isCls_c, insOf_i, insOk_i, conts_v, conts_r, conts_i, strOk_s, blOk_b, lfo_l, lfo_k, lfo_i, kRev_l, kInX_t, kNotInX_t, kInX_p, kNotInX_p, kEq_pd, kNe_pd, kEq_pp, kNe_pp, kEq_i, kNe_i, kEq_b, kNe_b, kEq_pn, kEq_nn, kNe_nn, kNe_pn, kIx_p0, kIx_p1, tupItems_p, lf_pair, kAny_bls, kAll_bls, kSorted_pairs, kSorted_ints, lfs_ints, lfs_bls, lfs_pairs, kAdd_i, kSub_i, kLt_i, kLe_i, kGt_i, kGe_i, kNeg_i, kInt_i, kInt_b, kAbs_i, kMax_i, kMin_i, kLen_l, kLen_t, kLen_k, kLen_s, kIx_t, kIx_k, kIx_l, kIx_s, atI_0, atI_1, atI_2, atI_3, ixN_0, ixN_1, ixN_2, ixN_3, isOwn, allVal, lf, lfs, lff, lfk, wipeE, Nat.reduceBEq, entry, L3.collect, resD_d, resD_n, argsOf, putOuts, ios, okOs, hasRef, isRef,
      List.getElem?_cons_zero, List.getElem?_cons_succ, List.getElem?_nil, List.set_cons_zero, List.set_cons_succ, List.length_cons, List.length_nil, List.replicate_succ, List.replicate_zero, List.nil_append, List.cons_append, List.append_nil, List.map_cons, List.map_nil, List.any_cons, List.any_nil, List.all_cons, List.all_nil, List.nodup_cons, List.nodup_nil, List.not_mem_nil, List.contains_nil, List.contains_cons, List.take_succ_cons, List.take_zero, List.length_append, List.length_map,
      D.bl.injEq, Res.d.injEq, D.int.injEq, exists_eq_left', exists_eq_left, true_and, and_true, and_self, or_true, true_or, false_or, or_false, if_true, if_false, ite_true, ite_false, true_implies, false_implies, not_true_eq_false, not_false_eq_true, eq_self, beq_self_eq_true, Bool.true_beq, beq_true, Bool.false_beq, beq_false, Bool.not_not, decide_true, decide_false, decide_eq_true_eq, decide_eq_false_iff_not, Bool.and_true, Bool.true_and, Bool.and_self, Bool.not_true, Bool.not_false, Bool.or_self, Bool.false_or, Bool.or_false, Bool.true_or, Bool.or_true, Bool.and_false, Bool.false_and, Option.bind_some, Option.bind_none, Bool.false_eq_true, false_and, and_false, reduceCtorEq, Nat.reduceAdd, Nat.reduceSub, Nat.reduceLT, Nat.reduceLeDiff, Int.reduceLE, Int.reduceLT, Int.reduceNeg, Int.reduceToNat, Int.reducePow, Int.reduceMul, Int.reduceAdd, Int.reduceSub, reduceIte, forall_const, not_and, Bool.not_eq_true, Bool.not_eq_false])
section
def Src (n : Nat) (d : D) : Prop := ∃ g s t : Int, d = .lst [.int g, .int s, .int t] ∧ 0 ≤ g ∧ 0 ≤ s ∧ s < 2 ^ 64 ∧ 0 ≤ t ∧ t ≤ n
theorem Src.le {n m : Nat} {d : D} (h : Src n d) (l : n ≤ m) : Src m d := by
  obtain ⟨g, s, t, e, h1, h2, h3, h4, h5⟩ := h
  exact ⟨g, s, t, e, h1, h2, h3, h4, by omega⟩
theorem filterMap_some {α β : Type} (f : α → β) : ∀ l : List α, l.filterMap (fun x => some (f x)) = l.map f
  | [] => rfl
  | x :: l => by simp
inductive Wd where
  | stop | close | abort | done | fail
  deriving DecidableEq
def Wd.str : Wd → PySem.Str
  | .stop => "stop"
  | .close => "close"
  | .abort => "abort"
  | .done => "done"
  | .fail => "fail"
inductive Row where
  | write (a t : Int) | read (a e o : Int) | drain (t : Int) | one (w : Wd)
  deriving DecidableEq
def rowD : Row → D
  | .write a t => .tup [.str "write", .int a, .int t]
  | .read a e o => .tup [.str "read", .int a, .int e, .int o]
  | .drain t => .tup [.str "drain", .int t]
  | .one w => .tup [.str w.str]
def Row.word : Row → PySem.Str
  | .write _ _ => "write"
  | .read _ _ _ => "read"
  | .drain _ => "drain"
  | .one w => w.str
def Row.len : Row → Int
  | .write _ _ => 3
  | .read _ _ _ => 4
  | .drain _ => 2
  | .one _ => 1
def Row.amount : Row → Option Int
  | .write a _ => some a
  | .read a _ _ => some a
  | _ => none
def Row.targets : Row → List Int
  | .write _ t => [t]
  | .read _ e o => [e, o]
  | .drain t => [t]
  | .one _ => []
def Row.isDr : Row → Bool
  | .drain _ => true
  | _ => false
def Row.ends : Row → Bool
  | .one .done => true
  | .one .fail => true
  | _ => false
def Row.map (f : Int → Int) : Row → Row
  | .write a t => .write a (f t)
  | .read a e o => .read a (f e) (f o)
  | .drain t => .drain (f t)
  | .one w => .one w
theorem row_ix0 (r : Row) : kIx (rowD r) (.int 0) = some (.str r.word) := by cases r <;> rfl
theorem row_len (r : Row) : kLen [rowD r] = some (.int r.len) := by cases r <;> rfl
theorem row_words (r : Row) : kIn true (.str r.word) (.ktp [.str "write", .str "read", .str "drain", .str "stop", .str "close", .str "abort", .str "done", .str "fail"]) = some (.bl false) := by
  cases r with
  | one w => cases w <;> kernel_rfl
  | _ => kernel_rfl
theorem row_size (r : Row) : ((([("write", .int 3), ("read", .int 4), ("drain", .int 2)] : List (PySem.Str × D)).lookup r.word).getD (.int 1)) = .int r.len := by
  cases r with
  | one w => cases w <;> kernel_rfl
  | _ => kernel_rfl
theorem row_am (r : Row) : kIn false (.str r.word) (.tup [.str "write", .str "read"]) = some (.bl r.amount.isSome) := by
  cases r with
  | one w => cases w <;> kernel_rfl
  | _ => kernel_rfl
theorem row_dr (r : Row) : kEq (.str r.word) (.str "drain") = some (.bl r.isDr) := by
  cases r with
  | one w => cases w <;> kernel_rfl
  | _ => kernel_rfl
theorem row_end (r : Row) : kIn true (.str r.word) (.ktp [.str "done", .str "fail"]) = some (.bl (!r.ends)) := by
  cases r with
  | one w => cases w <;> kernel_rfl
  | _ => kernel_rfl
theorem row_ix1 {r : Row} {a : Int} (h : r.amount = some a) : kIx (rowD r) (.int 1) = some (.int a) := by
  cases r <;> first | (cases h; rfl) | cases h
def Row.tat (r : Row) : Int := if r.isDr then 1 else 2
theorem row_post (r : Row) : kSl (some r.tat) none (rowD r) = some (.tup (r.targets.map D.int)) := by cases r <;> rfl
theorem row_isi (r : Row) : kIsi [] [rowD r, .bty "tuple"] = some (.bl true) := by cases r <;> exact kIsi_tt
theorem kIsi_si {s : PySem.Str} : kIsi [] [.str s, .bty "str"] = some (.bl true) := kIsi_b (n := "str") rfl (by decide)
theorem kIsi_ii {i : Int} : kIsi [] [.int i, .bty "int"] = some (.bl true) := kIsi_b (n := "int") rfl (by decide)
theorem kIsi_ib {i : Int} : kIsi [] [.int i, .bty "bool"] = some (.bl false) := kIsi_b (n := "int") rfl (by decide)
theorem kIsiT_l {l : List D} : kIsiT [] [.lst l, .tup [.bty "list", .bty "tuple"]] = some (.bl true) := by
  unfold kIsiT
  show (if inCs [] (.inl "list") = true then (isiAny [] (.inl "list") [.bty "list", .bty "tuple"]).bind fun b => some (D.bl b) else none) = _
  rfl
theorem integer_ok {x l m : Int} {Q : Res × List D → Prop} (k : Q (.d (.bl (decide (l ≤ x) && decide (x ≤ m))), [])) : Ex (f_is_integer [.v (.int x), .v (.int l), .v (.int m)]) Q := by
  unfold f_is_integer B_is_integer
  nofun
  rw [kIsi_ii]
  nofun
  rw [kIsi_ib]
  nofun
  refine ⟨fun h => ?_, fun h => ?_⟩
  · rw [decide_eq_true h, Bool.true_and] at k
    exact k
  · rw [decide_eq_false h, Bool.false_and] at k
    exact k
theorem targets_ok {r : Row} {Q : Res × List D → Prop} (k : Q (.d (.int r.tat), [])) : Ex (f_targets_at [.v (.str r.word)]) Q := by
  unfold f_targets_at B_targets_at
  nofun
  rw [row_dr]
  nofun
  unfold Row.tat at k
  refine ⟨fun h => ?_, fun h => ?_⟩
  · rw [if_pos h] at k; exact k
  · rw [if_neg (by rw [h]; decide)] at k; exact k
/-- a right row of a program with n rows, at i -/
def RowOk (n i : Int) (r : Row) : Prop := (∀ t ∈ r.targets, i + 1 ≤ t ∧ t ≤ n - 1) ∧ ∀ a, r.amount = some a → 1 ≤ a ∧ a ≤ 1000000000000000000
theorem is_row_last {r : Row} {n i : Int} {Q : Res × List D → Prop} (h : RowOk n i r) (k : Q (.d (.bl true), [])) : Ex (B_is_row_4 [some (.d (rowD r)), some (.d (.int i)), some (.d (.int n)), some (.d (.str r.word)), none]) fun p => Ex (resOf p.1) fun r => Ex (some []) fun os => Q (r, os) := by
  unfold B_is_row_4
  nofun
  refine targets_ok ?_
  nofun
  rw [row_post]
  nofun
  refine ex_lcP r.targets D.int (fun _ => some true) D.bl rfl (by rw [List.length_map]; cases r <;> simp [Row.targets]) (fun t ht => ?_) fun ρ' hρ => ?_
  · have := h.1 t ht
    nofun
    refine integer_ok ?_
    rw [decide_eq_true this.1, decide_eq_true this.2]
    nofun
    exact ⟨_, rfl, rfl⟩
  · rw [putBack_wipe hρ, filterMap_some]
    simp only [putBack, keepD]
    nofun
    rw [show ((r.targets.map fun _ => true).all id) = true by rw [List.all_map, List.all_eq_true]; exact fun _ _ => rfl]
    exact k
theorem is_row_ok {r : Row} {n i : Int} {Q : Res × List D → Prop} (h : RowOk n i r) (k : Q (.d (.bl true), [])) : Ex (f_is_row [.v (rowD r), .v (.int i), .v (.int n)]) Q := by
  unfold f_is_row B_is_row B_is_row_1
  nofun
  rw [row_isi]
  nofun
  rw [row_len]
  have l0 : r.len ≠ 0 := by cases r <;> simp [Row.len]
  nofun
  refine ⟨fun e => absurd e l0, fun _ => ?_⟩
  rw [row_ix0]
  nofun
  rw [kIsi_si]
  nofun
  rw [row_ix0]
  nofun
  rw [row_words]
  unfold B_is_row_2
  nofun
  rw [row_ix0]
  nofun
  rw [row_len]
  nofun
  rw [row_size]
  nofun
  unfold B_is_row_3
  nofun
  rw [row_am]
  cases ha : r.amount with
  | none =>
    simp only [Option.isSome_none]
    nofun
    exact is_row_last h k
  | some a =>
    simp only [Option.isSome_some]
    nofun
    rw [row_ix1 ha]
    nofun
    refine integer_ok ?_
    rw [decide_eq_true (h.2 a ha).1, decide_eq_true (h.2 a ha).2]
    nofun
    exact is_row_last h k
def progD (C : Addr) (rs : List Row) : D := .ins C [("listed", .tup (rs.map rowD))]
structure ProgOk (rs : List Row) : Prop where
  l1 : 1 ≤ rs.length
  l2 : rs.length ≤ 24
  rows : ∀ (i : Nat) (r : Row), rs[i]? = some r → RowOk rs.length i r
  last : ∃ r, rs.getLast? = some r ∧ r.ends = true
theorem prog_init_ok {C : Addr} {rs : List Row} {Q : Res × List D → Prop} (h : ProgOk rs) (k : Q (.d .non, [progD C rs])) : Ex (f_c_Program_init C [.io (.ins C []), .v (.lst (rs.map rowD))]) Q := by
  unfold f_c_Program_init B_c_Program_init B_c_Program_init_1
  have l1 := h.l1
  have l2 := h.l2
  nofun
  rw [kIsiT_l]
  nofun
  refine ⟨fun _ => ?_, fun e => absurd (by omega) e⟩
  rw [show decide ((rs.length : Int) ≤ 24) = true from decide_eq_true (by omega)]
  unfold B_c_Program_init_2
  nofun
  refine ⟨_, rfl, ?_⟩
  refine ex_loop _ (fun _ ρ => ∃ a b, ρ = [some (S.own (some 0) (D.ins C [])), some (S.d (D.lst (List.map rowD rs))), a, b]) ⟨_, _, rfl⟩ ?_ ?_
  · rintro i x ρ hx ⟨a, b, rfl⟩
    have hi : i < rs.length := by
      have := (List.getElem?_eq_some_iff.mp hx).1
      rw [enumD_len, List.length_map] at this
      exact this
    rw [enumD_get (x := rowD rs[i]) (by rw [List.getElem?_map, List.getElem?_eq_getElem hi]; rfl)] at hx
    cases hx
    nofun
    refine is_row_ok (h.rows i rs[i] (List.getElem?_eq_getElem hi)) ?_
    nofun
    exact ⟨_, _, rfl⟩
  · rintro ρ ⟨a, b, rfl⟩
    nofun
    unfold B_c_Program_init_3
    nofun
    obtain ⟨r, hr, he⟩ := h.last
    refine ex_last hr ?_
    nofun
    rw [row_ix0]
    nofun
    rw [row_end, he]
    nofun
    exact k
theorem rows_ok {C : Addr} {rs : List Row} {Q : Res × List D → Prop} (k : Q (.d (.tup (rs.map rowD)), [])) : Ex (f_c_Program_rows C [.v (progD C rs)]) Q := by
  unfold f_c_Program_rows B_c_Program_rows progD
  nofun
  exact k
end
section
theorem fS_listing {C : Addr} {a b c d e f g h : D} : kFld C "listing" (.ins C [("listing", a), ("row", b), ("hand", c), ("heard", d), ("part", e), ("told", f), ("had", g), ("replies", h)]) = some a := by
  unfold kFld; dsimp only; rw [if_pos rfl]; rfl
theorem lS_listing {a b c d e f g h : D} : List.lookup (Str.ofString "listing") [((Str.ofString "listing"), a), ((Str.ofString "row"), b), ((Str.ofString "hand"), c), ((Str.ofString "heard"), d), ((Str.ofString "part"), e), ((Str.ofString "told"), f), ((Str.ofString "had"), g), ((Str.ofString "replies"), h)] = some a := rfl
theorem fS_row {C : Addr} {a b c d e f g h : D} : kFld C "row" (.ins C [("listing", a), ("row", b), ("hand", c), ("heard", d), ("part", e), ("told", f), ("had", g), ("replies", h)]) = some b := by
  unfold kFld; dsimp only; rw [if_pos rfl]; rfl
theorem lS_row {a b c d e f g h : D} : List.lookup (Str.ofString "row") [((Str.ofString "listing"), a), ((Str.ofString "row"), b), ((Str.ofString "hand"), c), ((Str.ofString "heard"), d), ((Str.ofString "part"), e), ((Str.ofString "told"), f), ((Str.ofString "had"), g), ((Str.ofString "replies"), h)] = some b := rfl
theorem fS_hand {C : Addr} {a b c d e f g h : D} : kFld C "hand" (.ins C [("listing", a), ("row", b), ("hand", c), ("heard", d), ("part", e), ("told", f), ("had", g), ("replies", h)]) = some c := by
  unfold kFld; dsimp only; rw [if_pos rfl]; rfl
theorem lS_hand {a b c d e f g h : D} : List.lookup (Str.ofString "hand") [((Str.ofString "listing"), a), ((Str.ofString "row"), b), ((Str.ofString "hand"), c), ((Str.ofString "heard"), d), ((Str.ofString "part"), e), ((Str.ofString "told"), f), ((Str.ofString "had"), g), ((Str.ofString "replies"), h)] = some c := rfl
theorem fS_heard {C : Addr} {a b c d e f g h : D} : kFld C "heard" (.ins C [("listing", a), ("row", b), ("hand", c), ("heard", d), ("part", e), ("told", f), ("had", g), ("replies", h)]) = some d := by
  unfold kFld; dsimp only; rw [if_pos rfl]; rfl
theorem lS_heard {a b c d e f g h : D} : List.lookup (Str.ofString "heard") [((Str.ofString "listing"), a), ((Str.ofString "row"), b), ((Str.ofString "hand"), c), ((Str.ofString "heard"), d), ((Str.ofString "part"), e), ((Str.ofString "told"), f), ((Str.ofString "had"), g), ((Str.ofString "replies"), h)] = some d := rfl
theorem fS_part {C : Addr} {a b c d e f g h : D} : kFld C "part" (.ins C [("listing", a), ("row", b), ("hand", c), ("heard", d), ("part", e), ("told", f), ("had", g), ("replies", h)]) = some e := by
  unfold kFld; dsimp only; rw [if_pos rfl]; rfl
theorem lS_part {a b c d e f g h : D} : List.lookup (Str.ofString "part") [((Str.ofString "listing"), a), ((Str.ofString "row"), b), ((Str.ofString "hand"), c), ((Str.ofString "heard"), d), ((Str.ofString "part"), e), ((Str.ofString "told"), f), ((Str.ofString "had"), g), ((Str.ofString "replies"), h)] = some e := rfl
theorem fS_told {C : Addr} {a b c d e f g h : D} : kFld C "told" (.ins C [("listing", a), ("row", b), ("hand", c), ("heard", d), ("part", e), ("told", f), ("had", g), ("replies", h)]) = some f := by
  unfold kFld; dsimp only; rw [if_pos rfl]; rfl
theorem lS_told {a b c d e f g h : D} : List.lookup (Str.ofString "told") [((Str.ofString "listing"), a), ((Str.ofString "row"), b), ((Str.ofString "hand"), c), ((Str.ofString "heard"), d), ((Str.ofString "part"), e), ((Str.ofString "told"), f), ((Str.ofString "had"), g), ((Str.ofString "replies"), h)] = some f := rfl
theorem fS_had {C : Addr} {a b c d e f g h : D} : kFld C "had" (.ins C [("listing", a), ("row", b), ("hand", c), ("heard", d), ("part", e), ("told", f), ("had", g), ("replies", h)]) = some g := by
  unfold kFld; dsimp only; rw [if_pos rfl]; rfl
theorem lS_had {a b c d e f g h : D} : List.lookup (Str.ofString "had") [((Str.ofString "listing"), a), ((Str.ofString "row"), b), ((Str.ofString "hand"), c), ((Str.ofString "heard"), d), ((Str.ofString "part"), e), ((Str.ofString "told"), f), ((Str.ofString "had"), g), ((Str.ofString "replies"), h)] = some g := rfl
theorem fS_replies {C : Addr} {a b c d e f g h : D} : kFld C "replies" (.ins C [("listing", a), ("row", b), ("hand", c), ("heard", d), ("part", e), ("told", f), ("had", g), ("replies", h)]) = some h := by
  unfold kFld; dsimp only; rw [if_pos rfl]; rfl
theorem lS_replies {a b c d e f g h : D} : List.lookup (Str.ofString "replies") [((Str.ofString "listing"), a), ((Str.ofString "row"), b), ((Str.ofString "hand"), c), ((Str.ofString "heard"), d), ((Str.ofString "part"), e), ((Str.ofString "told"), f), ((Str.ofString "had"), g), ((Str.ofString "replies"), h)] = some h := rfl
theorem nS_after {a b c d e f g h : D} : List.lookup (Str.ofString "after") [((Str.ofString "listing"), a), ((Str.ofString "row"), b), ((Str.ofString "hand"), c), ((Str.ofString "heard"), d), ((Str.ofString "part"), e), ((Str.ofString "told"), f), ((Str.ofString "had"), g), ((Str.ofString "replies"), h)] = none := rfl
theorem nS_has_ended {a b c d e f g h : D} : List.lookup (Str.ofString "has_ended") [((Str.ofString "listing"), a), ((Str.ofString "row"), b), ((Str.ofString "hand"), c), ((Str.ofString "heard"), d), ((Str.ofString "part"), e), ((Str.ofString "told"), f), ((Str.ofString "had"), g), ((Str.ofString "replies"), h)] = none := rfl
theorem nS_word {a b c d e f g h : D} : List.lookup (Str.ofString "word") [((Str.ofString "listing"), a), ((Str.ofString "row"), b), ((Str.ofString "hand"), c), ((Str.ofString "heard"), d), ((Str.ofString "part"), e), ((Str.ofString "told"), f), ((Str.ofString "had"), g), ((Str.ofString "replies"), h)] = none := rfl
theorem nS_has_given {a b c d e f g h : D} : List.lookup (Str.ofString "has_given") [((Str.ofString "listing"), a), ((Str.ofString "row"), b), ((Str.ofString "hand"), c), ((Str.ofString "heard"), d), ((Str.ofString "part"), e), ((Str.ofString "told"), f), ((Str.ofString "had"), g), ((Str.ofString "replies"), h)] = none := rfl
theorem nS_is_free {a b c d e f g h : D} : List.lookup (Str.ofString "is_free") [((Str.ofString "listing"), a), ((Str.ofString "row"), b), ((Str.ofString "hand"), c), ((Str.ofString "heard"), d), ((Str.ofString "part"), e), ((Str.ofString "told"), f), ((Str.ofString "had"), g), ((Str.ofString "replies"), h)] = none := rfl
theorem nS_left {a b c d e f g h : D} : List.lookup (Str.ofString "left") [((Str.ofString "listing"), a), ((Str.ofString "row"), b), ((Str.ofString "hand"), c), ((Str.ofString "heard"), d), ((Str.ofString "part"), e), ((Str.ofString "told"), f), ((Str.ofString "had"), g), ((Str.ofString "replies"), h)] = none := rfl
theorem nS_answered {a b c d e f g h : D} : List.lookup (Str.ofString "answered") [((Str.ofString "listing"), a), ((Str.ofString "row"), b), ((Str.ofString "hand"), c), ((Str.ofString "heard"), d), ((Str.ofString "part"), e), ((Str.ofString "told"), f), ((Str.ofString "had"), g), ((Str.ofString "replies"), h)] = none := rfl
theorem nS_moved {a b c d e f g h : D} : List.lookup (Str.ofString "moved") [((Str.ofString "listing"), a), ((Str.ofString "row"), b), ((Str.ofString "hand"), c), ((Str.ofString "heard"), d), ((Str.ofString "part"), e), ((Str.ofString "told"), f), ((Str.ofString "had"), g), ((Str.ofString "replies"), h)] = none := rfl
theorem nS_passed {a b c d e f g h : D} : List.lookup (Str.ofString "passed") [((Str.ofString "listing"), a), ((Str.ofString "row"), b), ((Str.ofString "hand"), c), ((Str.ofString "heard"), d), ((Str.ofString "part"), e), ((Str.ofString "told"), f), ((Str.ofString "had"), g), ((Str.ofString "replies"), h)] = none := rfl
theorem nS_answer {a b c d e f g h : D} : List.lookup (Str.ofString "answer") [((Str.ofString "listing"), a), ((Str.ofString "row"), b), ((Str.ofString "hand"), c), ((Str.ofString "heard"), d), ((Str.ofString "part"), e), ((Str.ofString "told"), f), ((Str.ofString "had"), g), ((Str.ofString "replies"), h)] = none := rfl
theorem nS_gone {a b c d e f g h : D} : List.lookup (Str.ofString "gone") [((Str.ofString "listing"), a), ((Str.ofString "row"), b), ((Str.ofString "hand"), c), ((Str.ofString "heard"), d), ((Str.ofString "part"), e), ((Str.ofString "told"), f), ((Str.ofString "had"), g), ((Str.ofString "replies"), h)] = none := rfl
theorem nS_reset {a b c d e f g h : D} : List.lookup (Str.ofString "reset") [((Str.ofString "listing"), a), ((Str.ofString "row"), b), ((Str.ofString "hand"), c), ((Str.ofString "heard"), d), ((Str.ofString "part"), e), ((Str.ofString "told"), f), ((Str.ofString "had"), g), ((Str.ofString "replies"), h)] = none := rfl
theorem fM_sides {C : Addr} {a b c d : D} : kFld C "sides" (.ins C [("sides", a), ("written", b), ("read", c), ("fates", d)]) = some a := by
  unfold kFld; dsimp only; rw [if_pos rfl]; rfl
theorem lM_sides {a b c d : D} : List.lookup (Str.ofString "sides") [((Str.ofString "sides"), a), ((Str.ofString "written"), b), ((Str.ofString "read"), c), ((Str.ofString "fates"), d)] = some a := rfl
theorem fM_written {C : Addr} {a b c d : D} : kFld C "written" (.ins C [("sides", a), ("written", b), ("read", c), ("fates", d)]) = some b := by
  unfold kFld; dsimp only; rw [if_pos rfl]; rfl
theorem lM_written {a b c d : D} : List.lookup (Str.ofString "written") [((Str.ofString "sides"), a), ((Str.ofString "written"), b), ((Str.ofString "read"), c), ((Str.ofString "fates"), d)] = some b := rfl
theorem fM_read {C : Addr} {a b c d : D} : kFld C "read" (.ins C [("sides", a), ("written", b), ("read", c), ("fates", d)]) = some c := by
  unfold kFld; dsimp only; rw [if_pos rfl]; rfl
theorem lM_read {a b c d : D} : List.lookup (Str.ofString "read") [((Str.ofString "sides"), a), ((Str.ofString "written"), b), ((Str.ofString "read"), c), ((Str.ofString "fates"), d)] = some c := rfl
theorem fM_fates {C : Addr} {a b c d : D} : kFld C "fates" (.ins C [("sides", a), ("written", b), ("read", c), ("fates", d)]) = some d := by
  unfold kFld; dsimp only; rw [if_pos rfl]; rfl
theorem lM_fates {a b c d : D} : List.lookup (Str.ofString "fates") [((Str.ofString "sides"), a), ((Str.ofString "written"), b), ((Str.ofString "read"), c), ((Str.ofString "fates"), d)] = some d := rfl
theorem nM_unread {a b c d : D} : List.lookup (Str.ofString "unread") [((Str.ofString "sides"), a), ((Str.ofString "written"), b), ((Str.ofString "read"), c), ((Str.ofString "fates"), d)] = none := rfl
theorem nM_most_written {a b c d : D} : List.lookup (Str.ofString "most_written") [((Str.ofString "sides"), a), ((Str.ofString "written"), b), ((Str.ofString "read"), c), ((Str.ofString "fates"), d)] = none := rfl
theorem nM_most_read {a b c d : D} : List.lookup (Str.ofString "most_read") [((Str.ofString "sides"), a), ((Str.ofString "written"), b), ((Str.ofString "read"), c), ((Str.ofString "fates"), d)] = none := rfl
theorem nM_most_flown {a b c d : D} : List.lookup (Str.ofString "most_flown") [((Str.ofString "sides"), a), ((Str.ofString "written"), b), ((Str.ofString "read"), c), ((Str.ofString "fates"), d)] = none := rfl
theorem nM_most {a b c d : D} : List.lookup (Str.ofString "most") [((Str.ofString "sides"), a), ((Str.ofString "written"), b), ((Str.ofString "read"), c), ((Str.ofString "fates"), d)] = none := rfl
theorem nM_moved {a b c d : D} : List.lookup (Str.ofString "moved") [((Str.ofString "sides"), a), ((Str.ofString "written"), b), ((Str.ofString "read"), c), ((Str.ofString "fates"), d)] = none := rfl
theorem nM_gone {a b c d : D} : List.lookup (Str.ofString "gone") [((Str.ofString "sides"), a), ((Str.ofString "written"), b), ((Str.ofString "read"), c), ((Str.ofString "fates"), d)] = none := rfl
theorem nM_reset {a b c d : D} : List.lookup (Str.ofString "reset") [((Str.ofString "sides"), a), ((Str.ofString "written"), b), ((Str.ofString "read"), c), ((Str.ofString "fates"), d)] = none := rfl
theorem nM_after {a b c d : D} : List.lookup (Str.ofString "after") [((Str.ofString "sides"), a), ((Str.ofString "written"), b), ((Str.ofString "read"), c), ((Str.ofString "fates"), d)] = none := rfl
theorem nM_steps {a b c d : D} : List.lookup (Str.ofString "steps") [((Str.ofString "sides"), a), ((Str.ofString "written"), b), ((Str.ofString "read"), c), ((Str.ofString "fates"), d)] = none := rfl
theorem nM_outcome {a b c d : D} : List.lookup (Str.ofString "outcome") [((Str.ofString "sides"), a), ((Str.ofString "written"), b), ((Str.ofString "read"), c), ((Str.ofString "fates"), d)] = none := rfl
theorem nM_stand {a b c d : D} : List.lookup (Str.ofString "stand") [((Str.ofString "sides"), a), ((Str.ofString "written"), b), ((Str.ofString "read"), c), ((Str.ofString "fates"), d)] = none := rfl
theorem fR_programs {C : Addr} {a b c d : D} : kFld C "programs" (.ins C [("programs", a), ("limits", b), ("moment", c), ("past", d)]) = some a := by
  unfold kFld; dsimp only; rw [if_pos rfl]; rfl
theorem lR_programs {a b c d : D} : List.lookup (Str.ofString "programs") [((Str.ofString "programs"), a), ((Str.ofString "limits"), b), ((Str.ofString "moment"), c), ((Str.ofString "past"), d)] = some a := rfl
theorem fR_limits {C : Addr} {a b c d : D} : kFld C "limits" (.ins C [("programs", a), ("limits", b), ("moment", c), ("past", d)]) = some b := by
  unfold kFld; dsimp only; rw [if_pos rfl]; rfl
theorem lR_limits {a b c d : D} : List.lookup (Str.ofString "limits") [((Str.ofString "programs"), a), ((Str.ofString "limits"), b), ((Str.ofString "moment"), c), ((Str.ofString "past"), d)] = some b := rfl
theorem fR_moment {C : Addr} {a b c d : D} : kFld C "moment" (.ins C [("programs", a), ("limits", b), ("moment", c), ("past", d)]) = some c := by
  unfold kFld; dsimp only; rw [if_pos rfl]; rfl
theorem lR_moment {a b c d : D} : List.lookup (Str.ofString "moment") [((Str.ofString "programs"), a), ((Str.ofString "limits"), b), ((Str.ofString "moment"), c), ((Str.ofString "past"), d)] = some c := rfl
theorem fR_past {C : Addr} {a b c d : D} : kFld C "past" (.ins C [("programs", a), ("limits", b), ("moment", c), ("past", d)]) = some d := by
  unfold kFld; dsimp only; rw [if_pos rfl]; rfl
theorem lR_past {a b c d : D} : List.lookup (Str.ofString "past") [((Str.ofString "programs"), a), ((Str.ofString "limits"), b), ((Str.ofString "moment"), c), ((Str.ofString "past"), d)] = some d := rfl
theorem nR_possible {a b c d : D} : List.lookup (Str.ofString "possible") [((Str.ofString "programs"), a), ((Str.ofString "limits"), b), ((Str.ofString "moment"), c), ((Str.ofString "past"), d)] = none := rfl
theorem nR_do {a b c d : D} : List.lookup (Str.ofString "do") [((Str.ofString "programs"), a), ((Str.ofString "limits"), b), ((Str.ofString "moment"), c), ((Str.ofString "past"), d)] = none := rfl
theorem nR_steps {a b c d : D} : List.lookup (Str.ofString "steps") [((Str.ofString "programs"), a), ((Str.ofString "limits"), b), ((Str.ofString "moment"), c), ((Str.ofString "past"), d)] = none := rfl
theorem nR_positions {a b c d : D} : List.lookup (Str.ofString "positions") [((Str.ofString "programs"), a), ((Str.ofString "limits"), b), ((Str.ofString "moment"), c), ((Str.ofString "past"), d)] = none := rfl
theorem nR_hands {a b c d : D} : List.lookup (Str.ofString "hands") [((Str.ofString "programs"), a), ((Str.ofString "limits"), b), ((Str.ofString "moment"), c), ((Str.ofString "past"), d)] = none := rfl
theorem nR_news {a b c d : D} : List.lookup (Str.ofString "news") [((Str.ofString "programs"), a), ((Str.ofString "limits"), b), ((Str.ofString "moment"), c), ((Str.ofString "past"), d)] = none := rfl
theorem nR_counts {a b c d : D} : List.lookup (Str.ofString "counts") [((Str.ofString "programs"), a), ((Str.ofString "limits"), b), ((Str.ofString "moment"), c), ((Str.ofString "past"), d)] = none := rfl
theorem nR_stand {a b c d : D} : List.lookup (Str.ofString "stand") [((Str.ofString "programs"), a), ((Str.ofString "limits"), b), ((Str.ofString "moment"), c), ((Str.ofString "past"), d)] = none := rfl
theorem nR_answers {a b c d : D} : List.lookup (Str.ofString "answers") [((Str.ofString "programs"), a), ((Str.ofString "limits"), b), ((Str.ofString "moment"), c), ((Str.ofString "past"), d)] = none := rfl
theorem nR_history {a b c d : D} : List.lookup (Str.ofString "history") [((Str.ofString "programs"), a), ((Str.ofString "limits"), b), ((Str.ofString "moment"), c), ((Str.ofString "past"), d)] = none := rfl
theorem nR_outcome {a b c d : D} : List.lookup (Str.ofString "outcome") [((Str.ofString "programs"), a), ((Str.ofString "limits"), b), ((Str.ofString "moment"), c), ((Str.ofString "past"), d)] = none := rfl
theorem nR_undo {a b c d : D} : List.lookup (Str.ofString "undo") [((Str.ofString "programs"), a), ((Str.ofString "limits"), b), ((Str.ofString "moment"), c), ((Str.ofString "past"), d)] = none := rfl
theorem nR_copy {a b c d : D} : List.lookup (Str.ofString "copy") [((Str.ofString "programs"), a), ((Str.ofString "limits"), b), ((Str.ofString "moment"), c), ((Str.ofString "past"), d)] = none := rfl
theorem nR_trial {a b c d : D} : List.lookup (Str.ofString "trial") [((Str.ofString "programs"), a), ((Str.ofString "limits"), b), ((Str.ofString "moment"), c), ((Str.ofString "past"), d)] = none := rfl
theorem nR_tried {a b c d : D} : List.lookup (Str.ofString "tried") [((Str.ofString "programs"), a), ((Str.ofString "limits"), b), ((Str.ofString "moment"), c), ((Str.ofString "past"), d)] = none := rfl
end
local macro_rules
  | `(tactic| nofun) => `(tactic| simp only [↓x_eC, intD_i, datR_d, strD_s, ↓x_eV, ↓x_oV, ↓x_oR, ↓x_fin, ↓x_finN, ↓x_e1, ↓x_e2, ↓x_eL, ↓x_nL, ↓x_aN, ↓x_aC, ↓x_resAll, ↓x_valsOf, ↓x_tV, ↓x_tNt, ↓x_tAn, ↓x_tOr, ↓x_tYs, ↓x_eIf, ↓x_eAnd, ↓x_eOr, ↓x_eNot, ↓x_eTup, ↓x_nLst, ↓x_eChain,
      ↓x_sNx, fS_listing, lS_listing, fS_row, lS_row, fS_hand, lS_hand, fS_heard, lS_heard, fS_part, lS_part, fS_told, lS_told, fS_had, lS_had, fS_replies, lS_replies, nS_after, nS_has_ended, nS_word, nS_has_given, nS_is_free, nS_left, nS_answered, nS_moved, nS_passed, nS_answer, nS_gone, nS_reset, fM_sides, lM_sides, fM_written, lM_written, fM_read, lM_read, fM_fates, lM_fates, nM_unread, nM_most_written, nM_most_read, nM_most_flown, nM_most, nM_moved, nM_gone, nM_reset, nM_after, nM_steps, nM_outcome, nM_stand, fR_programs, lR_programs, fR_limits, lR_limits, fR_moment, lR_moment, fR_past, lR_past, nR_possible, nR_do, nR_steps, nR_positions, nR_hands, nR_news, nR_counts, nR_stand, nR_answers, nR_history, nR_outcome, nR_undo, nR_copy, nR_trial, nR_tried, Option.isNone_none, ↓x_nDNew, ↓x_eDGet2O, ↓x_nMakeK, mrg_t, mrg_f, mrg_nil, ↓x_ePopO, ↓x_nKDsp, ↓x_sPutE, ↓x_nKc, ddD_d, ↓x_eKw, ↓x_eTGet, pair2_s, treIn, treNew, boxL, isBox, resT, ↓x_nDspM, ↓x_nMakeD, ↓x_sAug, ↓x_sPar3, three_3, dkOf_k, kwO_v, kStp3_t, lstD_l, ↓x_n2, anyItems_l, anyItems_t, anyItems_k, ↓x_sSeq, ↓x_sRet, ↓x_sRetN, ↓x_sRetO, ↓x_sIf, ↓x_sSet, ↓x_sSetN, ↓x_sOwn, ↓x_sAsg, ↓x_gN, ↓x_gTp, ↓x_gsN, ↓x_gsC, ↓x_sPar2, two_2, ↓x_sApp, ↓x_sPutD, ↓x_itV, ↓x_itT, ↓x_sFor, ↓x_nLc,
      ↓x_mkF, ↓x_callO, ↓x_eCall, ↓x_eMeth, ↓x_eProp, ↓x_nMake, ↓x_sFld, ↓x_loop_n, ↓x_loop_c, ↓x_dspN, ↓x_dspC, ↓x_kAddL, ↓x_kAddT, ↓x_eSl, ↓x_bN, ↓x_bS, ↓x_itZ, ↓x_itE, ↓x_eKGet, ↓x_aS, ↓x_eTupS, ↓x_nLstS, ↓x_valsApp, strO_s, dkD_k, seqItems_t, seqItems_kt, seqItems_l, ↓x_lcLoop_n, ↓x_lcLoop_c, ↓x_kMul, ↓x_kMod, ↓x_kPow,
      ex_some, ex_none, ex_bind, seqK_nx, seqK_br, seqK_ct, seqK_rt, seqK_rn, seqK_rr, brk_nx, brk_ct, brk_br, brk_rt, brk_rn, brk_rr, finR_d, finR_n, retO, dAt, ownAny, ownNew, ownL, ownK, ownIn, res_v, res_r, res_i, isVal_v, isVal_r, isVal_i, resAll_n, valsOf_n, int1, int2,
      wide_10, wide_2, kFld_hit, kSl_l, kSl_t, kIsi_ll, kIsi_tt, kIsN_n, kNotN_n, isN_n, isN_i, isN_s, isN_t, cutL_map, cutL_1, zipD_map, zipM_l, kList_l, kTuple_l, kTuple_t, isS, putFD_n, keyOf_i, keyOf_s, kSorted_k0, kSorted_dset, dset_len, tupItems_t, tupItems_kt, lstItems_l, lstItems_sc, lstOnly_l, oneOpd_1, resOf_rt, resOf_rn, resOf_nx, resL_n, resL_d, isNon_d, isCls_c, insOf_i, insOk_i, conts_v, conts_r, conts_i, strOk_s, blOk_b, lfo_l, lfo_k, lfo_i, kRev_l, kInX_t, kNotInX_t, kInX_p, kNotInX_p, kEq_pd, kNe_pd, kEq_pp, kNe_pp, kEq_i, kNe_i, kEq_b, kNe_b, kEq_pn, kEq_nn, kNe_nn, kNe_pn, kIx_p0, kIx_p1, tupItems_p, lf_pair, kAny_bls, kAll_bls, kSorted_pairs, kSorted_ints, lfs_ints, lfs_bls, lfs_pairs, kAdd_i, kSub_i, kLt_i, kLe_i, kGt_i, kGe_i, kNeg_i, kInt_i, kInt_b, kAbs_i, kMax_i, kMin_i, kLen_l, kLen_t, kLen_k, kLen_s, kIx_t, kIx_k, kIx_l, kIx_s, atI_0, atI_1, atI_2, atI_3, ixN_0, ixN_1, ixN_2, ixN_3, isOwn, allVal, lf, lfs, lff, lfk, wipeE, Nat.reduceBEq, entry, L3.collect, resD_d, resD_n, argsOf, putOuts, ios, okOs, hasRef, isRef,
      List.getElem?_cons_zero, List.getElem?_cons_succ, List.getElem?_nil, List.set_cons_zero, List.set_cons_succ, List.length_cons, List.length_nil, List.replicate_succ, List.replicate_zero, List.nil_append, List.cons_append, List.append_nil, List.map_cons, List.map_nil, List.any_cons, List.any_nil, List.all_cons, List.all_nil, List.nodup_cons, List.nodup_nil, List.not_mem_nil, List.contains_nil, List.contains_cons, List.take_succ_cons, List.take_zero, List.length_append, List.length_map,
      D.bl.injEq, Res.d.injEq, D.int.injEq, exists_eq_left', exists_eq_left, true_and, and_true, and_self, or_true, true_or, false_or, or_false, if_true, if_false, ite_true, ite_false, true_implies, false_implies, not_true_eq_false, not_false_eq_true, eq_self, beq_self_eq_true, Bool.true_beq, beq_true, Bool.false_beq, beq_false, Bool.not_not, decide_true, decide_false, decide_eq_true_eq, decide_eq_false_iff_not, Bool.and_true, Bool.true_and, Bool.and_self, Bool.not_true, Bool.not_false, Bool.or_self, Bool.false_or, Bool.or_false, Bool.true_or, Bool.or_true, Bool.and_false, Bool.false_and, Option.bind_some, Option.bind_none, Bool.false_eq_true, false_and, and_false, reduceCtorEq, Nat.reduceAdd, Nat.reduceSub, Nat.reduceLT, Nat.reduceLeDiff, Int.reduceLE, Int.reduceLT, Int.reduceNeg, Int.reduceToNat, Int.reducePow, Int.reduceMul, Int.reduceAdd, Int.reduceSub, reduceIte, forall_const, not_and, Bool.not_eq_true, Bool.not_eq_false])
section
inductive Hand where
  | opn | stopped | closed | aborted | cut
  deriving DecidableEq
def Hand.str : Hand → PySem.Str
  | .opn => "open"
  | .stopped => "stopped"
  | .closed => "closed"
  | .aborted => "aborted"
  | .cut => "cut"
inductive News where
  | no | reset | told
  deriving DecidableEq
def News.str : News → PySem.Str
  | .no => ""
  | .reset => "reset"
  | .told => "told"
inductive Ans where
  | taken | ends | reset | broken
  deriving DecidableEq
def Ans.str : Ans → PySem.Str
  | .taken => "taken"
  | .ends => "end"
  | .reset => "reset"
  | .broken => "broken"
inductive Fate where
  | no | wiped | whole
  deriving DecidableEq
def Fate.str : Fate → PySem.Str
  | .no => ""
  | .wiped => "wiped"
  | .whole => "whole"
inductive Pos where
  | at (i : Int) | over (w : Wd)
  deriving DecidableEq
def posD : Pos → D
  | .at i => .int i
  | .over w => .str w.str
def Pos.isOver : Pos → Bool
  | .at _ => false
  | .over _ => true
def Wd.isV : Wd → Bool
  | .done => true
  | .fail => true
  | _ => false
structure Sd where
  pos : Pos
  hand : Hand
  news : News
  part : Int
  told : Int
  had : Int
  rep : List Ans
  deriving DecidableEq
def repD : List Ans → D
  | [] => .ktp []
  | a :: l => .tup ((a :: l).map fun a => .str a.str)
def ansD : Option Ans → D
  | none => .non
  | some a => .str a.str
abbrev rowsD (rs : List Row) : D := .tup (rs.map rowD)
abbrev sideD (C : Addr) (rs : List Row) (s : Sd) : D := .ins C [("listing", rowsD rs), ("row", posD s.pos), ("hand", .str s.hand.str), ("heard", .str s.news.str), ("part", .int s.part), ("told", .int s.told), ("had", .int s.had), ("replies", repD s.rep)]
def Sd.first : Sd := ⟨.at 0, .opn, .no, 0, 0, 0, []⟩
/-- the row where a side is -/
def Sd.row (rs : List Row) (s : Sd) : Option Row := match s.pos with
  | .at i => rs[i.toNat]?
  | .over _ => none
def Sd.ok (rs : List Row) (s : Sd) : Prop := match s.pos with
  | .at i => 0 ≤ i ∧ i < rs.length ∧ s.rep.length ≤ i
  | .over w => w.isV = true ∧ s.rep.length ≤ rs.length
theorem Sd.split {rs : List Row} {s : Sd} (h : s.ok rs) : (∃ w, s.pos = .over w ∧ s.row rs = none ∧ w.isV = true ∧ s.rep.length ≤ rs.length) ∨ ∃ i r, s.pos = .at i ∧ s.row rs = some r ∧ atI (rs.map rowD) i = some (rowD r) ∧ 0 ≤ i ∧ i < rs.length ∧ rs[i.toNat]? = some r ∧ s.rep.length ≤ i := by
  unfold Sd.ok at h
  unfold Sd.row
  cases hp : s.pos with
  | over w => rw [hp] at h; exact .inl ⟨w, rfl, rfl, h⟩
  | «at» i =>
    rw [hp] at h
    have e : rs[i.toNat]? = some rs[i.toNat] := List.getElem?_eq_getElem (by omega)
    refine .inr ⟨i, rs[i.toNat]'(by omega), rfl, e, ?_, h.1, h.2.1, e, h.2.2⟩
    rw [atI_at h.1 (by rw [List.length_map]; exact h.2.1), List.getElem?_map, e]
    rfl
def Hand.given : Hand → Bool
  | .closed => true
  | .aborted => true
  | .cut => true
  | _ => false
def Hand.ended : Hand → Bool
  | .stopped => true
  | .closed => true
  | .cut => true
  | _ => false
def Hand.hard : Hand → Bool
  | .aborted => true
  | .cut => true
  | _ => false
def Row.isW : Row → Bool
  | .write _ _ => true
  | _ => false
def Row.isR : Row → Bool
  | .read _ _ _ => true
  | .drain _ => true
  | _ => false
def Row.isC : Row → Bool
  | .one _ => false
  | _ => true
def Sd.word (rs : List Row) (s : Sd) : PySem.Str := (s.row rs).elim "" Row.word
def Sd.isW (rs : List Row) (s : Sd) : Bool := (s.row rs).elim false Row.isW
def Sd.isR (rs : List Row) (s : Sd) : Bool := (s.row rs).elim false Row.isR
def Sd.isC (rs : List Row) (s : Sd) : Bool := (s.row rs).elim false Row.isC
def Sd.freeW (rs : List Row) (s : Sd) : Bool := s.isW rs && !s.hand.given && decide (s.news = .no) && decide (s.hand = .opn)
def Sd.freeR (rs : List Row) (s : Sd) : Bool := s.isR rs && !s.hand.given && decide (s.news = .no)
def Row.left (r : Row) (part : Int) : Option Int := match r with
  | .write a _ => some (a - part)
  | .read a _ _ => some (a - part)
  | _ => none
def Sd.left (rs : List Row) (s : Sd) : Option Int := (s.row rs).bind fun r => r.left s.part
def optI : Option Int → D
  | none => .non
  | some i => .int i
def Row.goal (r : Row) (i : Int) (a : Ans) : Int := match r, a with
  | .write _ t, .reset => t
  | .write _ t, .broken => t
  | .read _ _ o, .reset => o
  | .read _ _ o, .broken => o
  | .drain t, .reset => t
  | .drain t, .broken => t
  | .read _ e _, .ends => e
  | _, _ => i + 1
def Row.toldBy (r : Row) (a : Ans) (told : Int) : Int := match r, a with
  | .write n _, .taken => told + n
  | _, _ => told
def Row.hadBy (r : Row) (a : Ans) (part had : Int) : Int := match r, a with
  | .write _ _, _ => had
  | _, .taken => had + part
  | _, .ends => had + part
  | _, _ => had
def Sd.goal (rs : List Row) (a : Ans) (s : Sd) : Pos := match s.pos, s.row rs with
  | .at i, some r => .at (r.goal i a)
  | p, _ => p
def Sd.answered (rs : List Row) (a : Ans) (s : Sd) : Sd :=
  { s with pos := s.goal rs a, news := if a = .reset then .told else s.news, part := 0, told := (s.row rs).elim s.told (·.toldBy a s.told), had := (s.row rs).elim s.had (·.hadBy a s.part s.had), rep := s.rep ++ [a] }
def Sd.more (k : Int) (s : Sd) : Sd := { s with part := s.part + k }
def Sd.moved (rs : List Row) (k : Int) (s : Sd) : Sd := if (s.more k).left rs = some 0 then (s.more k).answered rs .taken else s.more k
def Hand.after (h : Hand) (w : Wd) : Hand := match w, h with
  | .stop, .opn => .stopped
  | .close, .opn => .closed
  | .close, .stopped => .closed
  | .abort, .opn => .aborted
  | .abort, .stopped => .cut
  | .done, .opn => .closed
  | .done, .stopped => .closed
  | .fail, .opn => .closed
  | .fail, .stopped => .closed
  | _, h => h
def Sd.passed (rs : List Row) (s : Sd) : Sd := match s.pos, s.row rs with
  | .at i, some (.one w) => { s with pos := if w.isV then .over w else .at (i + 1), hand := s.hand.after w }
  | _, _ => s
def Sd.answer (rs : List Row) (over : Bool) (s : Sd) : Option Ans :=
  if s.hand.given then some .broken else if s.news = .reset then some .reset else if s.news = .told then some (if s.isW rs then .broken else .ends)
  else if s.isW rs then (if s.hand = .stopped then some .broken else none) else if over then some .ends else none
def Sd.gone (rs : List Row) (over : Bool) (s : Sd) : Option Sd :=
  if s.pos.isOver then none else if s.isC rs then (s.answer rs over).map fun a => s.answered rs a else some (s.passed rs)
def Sd.reset (s : Sd) : Sd := { s with news := .reset }
theorem hand_given (h : Hand) : kIn false (.str h.str) (.ktp [.str "closed", .str "aborted", .str "cut"]) = some (.bl h.given) := by cases h <;> kernel_rfl
theorem hand_ended (h : Hand) : kIn false (.str h.str) (.ktp [.str "stopped", .str "closed", .str "cut"]) = some (.bl h.ended) := by cases h <;> kernel_rfl
theorem hand_hard (h : Hand) : kIn true (.str h.str) (.ktp [.str "aborted", .str "cut"]) = some (.bl <| !h.hard) := by cases h <;> kernel_rfl
theorem hand_open (h : Hand) : kEq (.str h.str) (.str "open") = some (.bl <| decide (h = .opn)) := by cases h <;> kernel_rfl
theorem hand_stopped (h : Hand) : kEq (.str h.str) (.str "stopped") = some (.bl <| decide (h = .stopped)) := by cases h <;> kernel_rfl
theorem hand_closed (h : Hand) : kEq (.str h.str) (.str "closed") = some (.bl <| decide (h = .closed)) := by cases h <;> kernel_rfl
theorem hand_tab (h : Hand) (w : Wd) : (L3.look2 tabX (w.str, h.str)).elim (.str h.str) D.str = .str (h.after w).str := by cases h <;> cases w <;> kernel_rfl
theorem news_no (n : News) : kNe (.str n.str) (.str "") = some (.bl <| !decide (n = .no)) := by cases n <;> kernel_rfl
theorem news_reset (n : News) : kEq (.str n.str) (.str "reset") = some (.bl <| decide (n = .reset)) := by cases n <;> kernel_rfl
theorem news_told (n : News) : kEq (.str n.str) (.str "told") = some (.bl <| decide (n = .told)) := by cases n <;> kernel_rfl
theorem ans_reset (a : Ans) : kEq (.str a.str) (.str "reset") = some (.bl (decide (a = .reset))) := by cases a <;> kernel_rfl
theorem ans_taken (a : Ans) : kEq (.str a.str) (.str "taken") = some (.bl (decide (a = .taken))) := by cases a <;> kernel_rfl
theorem ans_end (a : Ans) : kEq (.str a.str) (.str "end") = some (.bl (decide (a = .ends))) := by cases a <;> kernel_rfl
theorem ans_te (a : Ans) : kIn false (.str a.str) (.tup [.str "taken", .str "end"]) = some (.bl (decide (a = .taken) || decide (a = .ends))) := by cases a <;> kernel_rfl
theorem ans_rb (a : Ans) : kIn false (.str a.str) (.tup [.str "reset", .str "broken"]) = some (.bl (decide (a = .reset) || decide (a = .broken))) := by cases a <;> kernel_rfl
theorem row_isW (r : Row) : kEq (.str r.word) (.str "write") = some (.bl r.isW) := by
  cases r with
  | one w => cases w <;> kernel_rfl
  | _ => kernel_rfl
theorem row_isWn (r : Row) : kNe (.str r.word) (.str "write") = some (.bl <| !r.isW) := by
  cases r with
  | one w => cases w <;> kernel_rfl
  | _ => kernel_rfl
theorem row_isRd (r : Row) : kEq (.str r.word) (.str "read") = some (.bl (r.isR && !r.isDr)) := by
  cases r with
  | one w => cases w <;> kernel_rfl
  | _ => kernel_rfl
theorem row_inW (r : Row) : kIn true (.str r.word) (.tup [.str "write"]) = some (.bl <| !r.isW) := by
  cases r with
  | one w => cases w <;> kernel_rfl
  | _ => kernel_rfl
theorem row_inR (r : Row) : kIn true (.str r.word) (.ktp [.str "read", .str "drain"]) = some (.bl <| !r.isR) := by
  cases r with
  | one w => cases w <;> kernel_rfl
  | _ => kernel_rfl
theorem row_inC (r : Row) : kIn true (.str r.word) (.ktp [.str "write", .str "read", .str "drain"]) = some (.bl <| !r.isC) := by
  cases r with
  | one w => cases w <;> kernel_rfl
  | _ => kernel_rfl
theorem wd_verd (w : Wd) : kIn false (.str w.str) (.ktp [.str "done", .str "fail"]) = some (.bl w.isV) := by cases w <;> kernel_rfl
theorem sd_isW (rs : List Row) (s : Sd) : kEq (.str (s.word rs)) (.str "write") = some (.bl (s.isW rs)) := by
  unfold Sd.word Sd.isW
  cases s.row rs with
  | none => kernel_rfl
  | some r => exact row_isW r
theorem sd_isWn (rs : List Row) (s : Sd) : kNe (.str (s.word rs)) (.str "write") = some (.bl <| !(s.isW rs)) := by
  unfold Sd.word Sd.isW
  cases s.row rs with
  | none => kernel_rfl
  | some r => exact row_isWn r
theorem sd_inW (rs : List Row) (s : Sd) : kIn true (.str (s.word rs)) (.tup [.str "write"]) = some (.bl <| !(s.isW rs)) := by
  unfold Sd.word Sd.isW
  cases s.row rs with
  | none => kernel_rfl
  | some r => exact row_inW r
theorem sd_inR (rs : List Row) (s : Sd) : kIn true (.str (s.word rs)) (.ktp [.str "read", .str "drain"]) = some (.bl <| !(s.isR rs)) := by
  unfold Sd.word Sd.isR
  cases s.row rs with
  | none => kernel_rfl
  | some r => exact row_inR r
theorem sd_inC (rs : List Row) (s : Sd) : kIn true (.str (s.word rs)) (.ktp [.str "write", .str "read", .str "drain"]) = some (.bl <| !(s.isC rs)) := by
  unfold Sd.word Sd.isC
  cases s.row rs with
  | none => kernel_rfl
  | some r => exact row_inC r
theorem isi_pos (p : Pos) : kIsi [] [posD p, .bty "str"] = some (.bl p.isOver) := by
  cases p with
  | «at» i => exact kIsi_b (n := "int") rfl (by decide)
  | over w => exact kIsi_si
theorem row_w1 {a t : Int} : kIx (rowD (.write a t)) (.int 1) = some (.int a) := rfl
theorem row_wl {a t : Int} : kIx (rowD (.write a t)) (.int (-1)) = some (.int t) := rfl
theorem row_r1 {a e o : Int} : kIx (rowD (.read a e o)) (.int 1) = some (.int a) := rfl
theorem row_r2 {a e o : Int} : kIx (rowD (.read a e o)) (.int 2) = some (.int e) := rfl
theorem row_rl {a e o : Int} : kIx (rowD (.read a e o)) (.int (-1)) = some (.int o) := rfl
theorem row_dl {t : Int} : kIx (rowD (.drain t)) (.int (-1)) = some (.int t) := rfl
theorem rep_items (l : List Ans) : seqItems (repD l) = some (l.map fun a => .str a.str) := by cases l <;> rfl
theorem rep_snoc (l : List Ans) (a : Ans) : D.tup ((l.map fun a => .str a.str) ++ [.str a.str]) = repD (l ++ [a]) := by
  cases l with
  | nil => rfl
  | cons b l => simp only [List.cons_append, repD, List.map_cons, List.map_append, List.map_nil]
theorem posD_at {i : Int} : posD (.at i) = .int i := rfl
theorem posD_ov {w : Wd} : posD (.over w) = .str w.str := rfl
theorem kEq_ni {i : Int} : kEq .non (.int i) = some (.bl false) := by rw [kEq_sh (by unfold sh; rfl) (by unfold sh; rfl)]; rfl
theorem optI_n : optI none = .non := rfl
theorem optI_s {i : Int} : optI (some i) = .int i := rfl
theorem ansD_n : ansD none = .non := rfl
theorem ansD_s {a : Ans} : ansD (some a) = .str a.str := rfl
theorem lf_pos {p : Pos} : lf (posD p) = true := by cases p <;> rfl
theorem rW_w {a t : Int} : Row.isW (.write a t) = true := rfl
theorem rW_r {a e o : Int} : Row.isW (.read a e o) = false := rfl
theorem rW_d {t : Int} : Row.isW (.drain t) = false := rfl
theorem rW_o {w : Wd} : Row.isW (.one w) = false := rfl
theorem rR_w {a t : Int} : Row.isR (.write a t) = false := rfl
theorem rR_r {a e o : Int} : Row.isR (.read a e o) = true := rfl
theorem rR_d {t : Int} : Row.isR (.drain t) = true := rfl
theorem rR_o {w : Wd} : Row.isR (.one w) = false := rfl
theorem rC_w {a t : Int} : Row.isC (.write a t) = true := rfl
theorem rC_r {a e o : Int} : Row.isC (.read a e o) = true := rfl
theorem rC_d {t : Int} : Row.isC (.drain t) = true := rfl
theorem rC_o {w : Wd} : Row.isC (.one w) = false := rfl
theorem rDr_w {a t : Int} : Row.isDr (.write a t) = false := rfl
theorem rDr_r {a e o : Int} : Row.isDr (.read a e o) = false := rfl
theorem rDr_d {t : Int} : Row.isDr (.drain t) = true := rfl
theorem rDr_o {w : Wd} : Row.isDr (.one w) = false := rfl
theorem hg_opn : Hand.given .opn = false := rfl
theorem hg_stopped : Hand.given .stopped = false := rfl
theorem hg_closed : Hand.given .closed = true := rfl
theorem hg_aborted : Hand.given .aborted = true := rfl
theorem hg_cut : Hand.given .cut = true := rfl
theorem wv_stop : Wd.isV .stop = false := rfl
theorem wv_close : Wd.isV .close = false := rfl
theorem wv_abort : Wd.isV .abort = false := rfl
theorem wv_done : Wd.isV .done = true := rfl
theorem wv_fail : Wd.isV .fail = true := rfl
end
local macro_rules
  | `(tactic| nofun) => `(tactic| simp only [↓x_eC, intD_i, datR_d, strD_s, ↓x_eV, ↓x_oV, ↓x_oR, ↓x_fin, ↓x_finN, ↓x_e1, ↓x_e2, ↓x_eL, ↓x_nL, ↓x_aN, ↓x_aC, ↓x_resAll, ↓x_valsOf, ↓x_tV, ↓x_tNt, ↓x_tAn, ↓x_tOr, ↓x_tYs, ↓x_eIf, ↓x_eAnd, ↓x_eOr, ↓x_eNot, ↓x_eTup, ↓x_nLst, ↓x_eChain,
      ↓x_sNx, hand_given, hand_ended, hand_hard, hand_open, hand_stopped, hand_closed, news_no, news_reset, news_told, ans_reset, ans_taken, ans_end, ans_te, ans_rb, row_isW, row_isWn, row_isRd, row_dr, row_inW, row_inR, row_inC, wd_verd, sd_isW, sd_isWn, sd_inW, sd_inR, sd_inC, isi_pos, row_ix0, Bool.not_eq_true', Bool.not_eq_false', row_w1, row_wl, row_r1, row_r2, row_rl, row_dl, rep_items, rW_w, rW_r, rW_d, rW_o, rR_w, rR_r, rR_d, rR_o, rC_w, rC_r, rC_d, rC_o, rDr_w, rDr_r, rDr_d, rDr_o, hg_opn, hg_stopped, hg_closed, hg_aborted, hg_cut, wv_stop, wv_close, wv_abort, wv_done, wv_fail, posD_at, posD_ov, kEq_ni, optI_n, optI_s, ansD_n, ansD_s, lf_pos, fS_listing, lS_listing, fS_row, lS_row, fS_hand, lS_hand, fS_heard, lS_heard, fS_part, lS_part, fS_told, lS_told, fS_had, lS_had, fS_replies, lS_replies, nS_after, nS_has_ended, nS_word, nS_has_given, nS_is_free, nS_left, nS_answered, nS_moved, nS_passed, nS_answer, nS_gone, nS_reset, fM_sides, lM_sides, fM_written, lM_written, fM_read, lM_read, fM_fates, lM_fates, nM_unread, nM_most_written, nM_most_read, nM_most_flown, nM_most, nM_moved, nM_gone, nM_reset, nM_after, nM_steps, nM_outcome, nM_stand, fR_programs, lR_programs, fR_limits, lR_limits, fR_moment, lR_moment, fR_past, lR_past, nR_possible, nR_do, nR_steps, nR_positions, nR_hands, nR_news, nR_counts, nR_stand, nR_answers, nR_history, nR_outcome, nR_undo, nR_copy, nR_trial, nR_tried, Option.isNone_none, ↓x_nDNew, ↓x_eDGet2O, ↓x_nMakeK, mrg_t, mrg_f, mrg_nil, ↓x_ePopO, ↓x_nKDsp, ↓x_sPutE, ↓x_nKc, ddD_d, ↓x_eKw, ↓x_eTGet, pair2_s, treIn, treNew, boxL, isBox, resT, ↓x_nDspM, ↓x_nMakeD, ↓x_sAug, ↓x_sPar3, three_3, dkOf_k, kwO_v, kStp3_t, lstD_l, ↓x_n2, anyItems_l, anyItems_t, anyItems_k, ↓x_sSeq, ↓x_sRet, ↓x_sRetN, ↓x_sRetO, ↓x_sIf, ↓x_sSet, ↓x_sSetN, ↓x_sOwn, ↓x_sAsg, ↓x_gN, ↓x_gTp, ↓x_gsN, ↓x_gsC, ↓x_sPar2, two_2, ↓x_sApp, ↓x_sPutD, ↓x_itV, ↓x_itT, ↓x_sFor, ↓x_nLc,
      ↓x_mkF, ↓x_callO, ↓x_eCall, ↓x_eMeth, ↓x_eProp, ↓x_nMake, ↓x_sFld, ↓x_loop_n, ↓x_loop_c, ↓x_dspN, ↓x_dspC, ↓x_kAddL, ↓x_kAddT, ↓x_eSl, ↓x_bN, ↓x_bS, ↓x_itZ, ↓x_itE, ↓x_eKGet, ↓x_aS, ↓x_eTupS, ↓x_nLstS, ↓x_valsApp, strO_s, dkD_k, seqItems_t, seqItems_kt, seqItems_l, ↓x_lcLoop_n, ↓x_lcLoop_c, ↓x_kMul, ↓x_kMod, ↓x_kPow,
      ex_some, ex_none, ex_bind, seqK_nx, seqK_br, seqK_ct, seqK_rt, seqK_rn, seqK_rr, brk_nx, brk_ct, brk_br, brk_rt, brk_rn, brk_rr, finR_d, finR_n, retO, dAt, ownAny, ownNew, ownL, ownK, ownIn, res_v, res_r, res_i, isVal_v, isVal_r, isVal_i, resAll_n, valsOf_n, int1, int2,
      wide_10, wide_2, kFld_hit, kSl_l, kSl_t, kIsi_ll, kIsi_tt, kIsN_n, kNotN_n, isN_n, isN_i, isN_s, isN_t, cutL_map, cutL_1, zipD_map, zipM_l, kList_l, kTuple_l, kTuple_t, isS, putFD_n, keyOf_i, keyOf_s, kSorted_k0, kSorted_dset, dset_len, tupItems_t, tupItems_kt, lstItems_l, lstItems_sc, lstOnly_l, oneOpd_1, resOf_rt, resOf_rn, resOf_nx, resL_n, resL_d, isNon_d, isCls_c, insOf_i, insOk_i, conts_v, conts_r, conts_i, strOk_s, blOk_b, lfo_l, lfo_k, lfo_i, kRev_l, kInX_t, kNotInX_t, kInX_p, kNotInX_p, kEq_pd, kNe_pd, kEq_pp, kNe_pp, kEq_i, kNe_i, kEq_b, kNe_b, kEq_pn, kEq_nn, kNe_nn, kNe_pn, kIx_p0, kIx_p1, tupItems_p, lf_pair, kAny_bls, kAll_bls, kSorted_pairs, kSorted_ints, lfs_ints, lfs_bls, lfs_pairs, kAdd_i, kSub_i, kLt_i, kLe_i, kGt_i, kGe_i, kNeg_i, kInt_i, kInt_b, kAbs_i, kMax_i, kMin_i, kLen_l, kLen_t, kLen_k, kLen_s, kIx_t, kIx_k, kIx_l, kIx_s, atI_0, atI_1, atI_2, atI_3, ixN_0, ixN_1, ixN_2, ixN_3, isOwn, allVal, lf, lfs, lff, lfk, wipeE, Nat.reduceBEq, entry, L3.collect, resD_d, resD_n, argsOf, putOuts, ios, okOs, hasRef, isRef,
      List.getElem?_cons_zero, List.getElem?_cons_succ, List.getElem?_nil, List.set_cons_zero, List.set_cons_succ, List.length_cons, List.length_nil, List.replicate_succ, List.replicate_zero, List.nil_append, List.cons_append, List.append_nil, List.map_cons, List.map_nil, List.any_cons, List.any_nil, List.all_cons, List.all_nil, List.nodup_cons, List.nodup_nil, List.not_mem_nil, List.contains_nil, List.contains_cons, List.take_succ_cons, List.take_zero, List.length_append, List.length_map,
      D.bl.injEq, Res.d.injEq, D.int.injEq, exists_eq_left', exists_eq_left, true_and, and_true, and_self, or_true, true_or, false_or, or_false, if_true, if_false, ite_true, ite_false, true_implies, false_implies, not_true_eq_false, not_false_eq_true, eq_self, beq_self_eq_true, Bool.true_beq, beq_true, Bool.false_beq, beq_false, Bool.not_not, decide_true, decide_false, decide_eq_true_eq, decide_eq_false_iff_not, Bool.and_true, Bool.true_and, Bool.and_self, Bool.not_true, Bool.not_false, Bool.or_self, Bool.false_or, Bool.or_false, Bool.true_or, Bool.or_true, Bool.and_false, Bool.false_and, Option.bind_some, Option.bind_none, Bool.false_eq_true, false_and, and_false, reduceCtorEq, Nat.reduceAdd, Nat.reduceSub, Nat.reduceLT, Nat.reduceLeDiff, Int.reduceLE, Int.reduceLT, Int.reduceNeg, Int.reduceToNat, Int.reducePow, Int.reduceMul, Int.reduceAdd, Int.reduceSub, reduceIte, forall_const, not_and, Bool.not_eq_true, Bool.not_eq_false])
section
variable {C : Addr} {rs : List Row} {s : Sd} {Q : Res × List D → Prop}
theorem ended_ok (k : Q (.d (.bl s.pos.isOver), [])) : Ex (f_c_Side_has_ended C [.v (sideD C rs s)]) Q := by
  unfold f_c_Side_has_ended B_c_Side_has_ended
  nofun
  exact k
theorem word_ok (h : s.ok rs) (k : Q (.d (.str (s.word rs)), [])) : Ex (f_c_Side_word C [.v (sideD C rs s)]) Q := by
  unfold f_c_Side_word B_c_Side_word
  nofun
  refine ended_ok ?_
  nofun
  unfold Sd.word at k
  rcases Sd.split h with ⟨w, h1, h2, _⟩ | ⟨i, r, h1, h2, h3, _⟩
  · rw [h2] at k
    rw [h1]
    simp only [Pos.isOver]
    nofun
    exact k
  · rw [h2] at k
    rw [h1]
    simp only [Pos.isOver]
    nofun
    rw [h3]
    nofun
    exact k
theorem given_ok (k : Q (.d (.bl s.hand.given), [])) : Ex (f_c_Side_has_given C [.v (sideD C rs s)]) Q := by
  unfold f_c_Side_has_given B_c_Side_has_given
  nofun
  exact k
theorem freeW_ok (h : s.ok rs) (k : Q (.d (.bl (s.freeW rs)), [])) : Ex (f_c_Side_is_free C [.v (sideD C rs s), .v (.tup [.str "write"])]) Q := by
  unfold f_c_Side_is_free B_c_Side_is_free B_c_Side_is_free_1
  nofun
  refine word_ok h ?_
  unfold Sd.freeW at k
  nofun
  refine ⟨fun e => ?_, fun e => ?_⟩
  · rw [e] at k; exact k
  refine given_ok ?_
  nofun
  rw [e] at k
  cases hg : s.hand.given
  · nofun
    refine ⟨fun hn => ?_, fun hn => ?_⟩
    · rw [hg, decide_eq_false hn] at k
      exact k
    · rw [hg, decide_eq_true hn] at k
      refine word_ok h ?_
      nofun
      rw [e]
      nofun
      exact k
  · rw [hg] at k
    nofun
    exact k
theorem freeR_ok (h : s.ok rs) (k : Q (.d (.bl (s.freeR rs)), [])) : Ex (f_c_Side_is_free C [.v (sideD C rs s), .v (.ktp [.str "read", .str "drain"])]) Q := by
  unfold f_c_Side_is_free B_c_Side_is_free B_c_Side_is_free_1
  nofun
  refine word_ok h ?_
  unfold Sd.freeR at k
  nofun
  refine ⟨fun e => ?_, fun e => ?_⟩
  · rw [e] at k; exact k
  refine given_ok ?_
  nofun
  have hw : s.isW rs = false := by
    unfold Sd.isR at e
    unfold Sd.isW
    cases hr : s.row rs with
    | none => rfl
    | some r => rw [hr] at e; cases r <;> first | rfl | cases e
  rw [e] at k
  cases hg : s.hand.given
  · nofun
    refine ⟨fun hn => ?_, fun hn => ?_⟩
    · rw [hg, decide_eq_false hn] at k
      exact k
    · rw [hg, decide_eq_true hn] at k
      refine word_ok h ?_
      nofun
      rw [hw]
      nofun
      exact k
  · rw [hg] at k
    nofun
    exact k
theorem left_ok (h : s.ok rs) (hc : s.isC rs = true) (k : Q (.d (optI (s.left rs)), [])) : Ex (f_c_Side_left C [.v (sideD C rs s)]) Q := by
  unfold f_c_Side_left B_c_Side_left
  nofun
  unfold Sd.left at k
  unfold Sd.isC at hc
  rcases Sd.split h with ⟨w, h1, h2, _⟩ | ⟨i, r, h1, h2, h3, _⟩
  · rw [h2] at hc; cases hc
  · rw [h2] at k hc
    rw [h1]
    nofun
    rw [h3]
    nofun
    cases r with
    | one w => cases hc
    | drain t =>
      nofun
      exact k
    | write a t =>
      nofun
      exact k
    | read a e o =>
      nofun
      exact k
theorem side_init_ok {C : Addr} {L row hand heard part told had replies : D} {Q : Res × List D → Prop} (k : Q (.d .non, [.ins C [("listing", L), ("row", row), ("hand", hand), ("heard", heard), ("part", part), ("told", told), ("had", had), ("replies", replies)]])) : Ex (f_c_Side_init C [.io (.ins C []), .v L, .v row, .v hand, .v heard, .v part, .v told, .v had, .v replies]) Q := by
  unfold f_c_Side_init B_c_Side_init
  nofun
  exact ⟨of_decide_eq_true rfl, of_decide_eq_true rfl, of_decide_eq_true rfl, of_decide_eq_true rfl, of_decide_eq_true rfl, of_decide_eq_true rfl, k⟩
abbrev sevenK (row hand heard part told had replies : D) : List (L2.Key × D) := [(.inr "row", row), (.inr "hand", hand), (.inr "heard", heard), (.inr "part", part), (.inr "told", told), (.inr "had", had), (.inr "replies", replies)]
theorem seven_put {row hand heard part told had replies : D} : putD (putD (putD (putD (putD (putD (putD [] (Sum.inr (Str.ofString "row")) row) (Sum.inr (Str.ofString "hand")) hand) (Sum.inr (Str.ofString "heard")) heard) (Sum.inr (Str.ofString "part")) part) (Sum.inr (Str.ofString "told")) told) (Sum.inr (Str.ofString "had")) had) (Sum.inr (Str.ofString "replies")) replies = sevenK row hand heard part told had replies := rfl
theorem side_after_ok {C : Addr} {L row hand heard part told had replies row' hand' heard' part' told' had' replies' : D} {l : List (L2.Key × D)} {Q : Res × List D → Prop} (hl : l.length ≤ 100)
    (hm : mergeD (sevenK row hand heard part told had replies) l = sevenK row' hand' heard' part' told' had' replies') (k : Q (.n (.ins C [("listing", L), ("row", row'), ("hand", hand'), ("heard", heard'), ("part", part'), ("told", told'), ("had", had'), ("replies", replies')]), [])) :
    Ex (f_c_Side_after C [.v (.ins C [("listing", L), ("row", row), ("hand", hand), ("heard", heard), ("part", part), ("told", told), ("had", had), ("replies", replies)]), .v (.dk l)]) Q := by
  unfold f_c_Side_after B_c_Side_after
  nofun
  rw [seven_put]
  refine ⟨hl, ?_⟩
  rw [hm]
  nofun
  try (refine ⟨rfl, ?_⟩)
  refine side_init_ok ?_
  nofun
  exact k
variable {C : Addr} {rs : List Row} {s : Sd} {Q : Res × List D → Prop}
theorem answered1_ok {a : Ans} {r : Row} {t d : Int} {S0 S5 S6 S7 : Option S} {QS : Out × L3.Env → Prop} (hc : r.isC = true) (k : QS (.nx, [S0, some (.d (.str a.str)), some (.d (rowD r)), some (.d (.int (r.toldBy a t))), some (.d (.int d)), S5, S6, S7])) :
    Ex (B_c_Side_answered_1 [S0, some (.d (.str a.str)), some (.d (rowD r)), some (.d (.int t)), some (.d (.int d)), S5, S6, S7]) QS := by
  unfold B_c_Side_answered_1
  cases r with
  | one w => cases hc
  | write n o => cases a <;> · nofun; exact k
  | _ => nofun; exact k
theorem answered2_ok {a : Ans} {r : Row} {t d : Int} {S5 S6 S7 : Option S} {QS : Out × L3.Env → Prop} (hc : r.isC = true) (k : QS (.nx, [some (.d (sideD C rs s)), some (.d (.str a.str)), some (.d (rowD r)), some (.d (.int t)), some (.d (.int (r.hadBy a s.part d))), S5, S6, S7])) :
    Ex (B_c_Side_answered_2 C [some (.d (sideD C rs s)), some (.d (.str a.str)), some (.d (rowD r)), some (.d (.int t)), some (.d (.int d)), S5, S6, S7]) QS := by
  unfold B_c_Side_answered_2
  cases r with
  | one w => cases hc
  | write n o => nofun; exact k
  | _ => cases a <;> · nofun; exact k
theorem answered3_ok {a : Ans} {r : Row} {i : Int} {S0 S3 S4 S6 S7 : Option S} {QS : Out × L3.Env → Prop} (hc : r.isC = true) (k : QS (.nx, [S0, some (.d (.str a.str)), some (.d (rowD r)), S3, S4, some (.d (.int (r.goal i a))), S6, S7])) :
    Ex (B_c_Side_answered_3 [S0, some (.d (.str a.str)), some (.d (rowD r)), S3, S4, some (.d (.int (i + 1))), S6, S7]) QS := by
  unfold B_c_Side_answered_3
  cases r with
  | one w => cases hc
  | _ => cases a <;> · nofun; exact k
theorem answered_ok {a : Ans} (h : s.ok rs) (hp : ProgOk rs) (hc : s.isC rs = true) (k : Q (.d (sideD C rs (s.answered rs a)), [])) : Ex (f_c_Side_answered C [.v (sideD C rs s), .v (.str a.str)]) Q := by
  unfold f_c_Side_answered B_c_Side_answered
  unfold Sd.isC at hc
  rcases Sd.split h with ⟨w, h1, h2, _⟩ | ⟨i, r, h1, h2, h3, h4, h5, h6, h7⟩
  · rw [h2] at hc; cases hc
  · rw [h2] at hc
    unfold Sd.answered Sd.goal at k
    rw [h1, h2] at k
    have hb := hp.l2
    obtain ⟨pos, hand, news, part, told, had, rep⟩ := s
    cases h1
    nofun
    rw [h3]
    nofun
    refine answered1_ok hc ?_
    nofun
    refine answered2_ok hc ?_
    nofun
    refine answered3_ok hc ?_
    nofun
    have e1 : rep.length ≤ 999 := by have : (rep.length : Int) ≤ i := h7; omega
    refine ⟨fun e => ?_, fun e => ?_⟩
    · refine ⟨e1, ?_⟩
      rw [rep_snoc]
      refine side_after_ok (Nat.le_of_ble_eq_true rfl) rfl ?_
      rw [if_pos e] at k
      nofun
      exact k
    · refine ⟨e1, ?_⟩
      rw [rep_snoc]
      refine side_after_ok (Nat.le_of_ble_eq_true rfl) rfl ?_
      rw [if_neg e] at k
      nofun
      exact k
theorem moved_ok {n : Int} (h : s.ok rs) (hp : ProgOk rs) (hc : s.isC rs = true) (k : Q (.d (sideD C rs (s.moved rs n)), [])) : Ex (f_c_Side_moved C [.v (sideD C rs s), .v (.int n)]) Q := by
  unfold f_c_Side_moved B_c_Side_moved
  nofun
  refine side_after_ok (Nat.le_of_ble_eq_true rfl) rfl ?_
  nofun
  refine left_ok (s := s.more n) h hc ?_
  unfold Sd.moved at k
  cases hl : (s.more n).left rs with
  | none =>
    rw [hl, if_neg (by intro e; cases e)] at k
    nofun
    exact k
  | some l =>
    rw [hl] at k
    nofun
    refine ⟨fun e => ?_, fun e => ?_⟩
    · rw [e, if_pos rfl] at k
      refine answered_ok (a := .taken) (s := s.more n) h hp hc ?_
      nofun
      exact k
    · rw [if_neg (by intro z; cases z; exact e rfl)] at k
      exact k
theorem passed_ok (h : s.ok rs) (ho : s.pos.isOver = false) (hc : s.isC rs = false) (k : Q (.d (sideD C rs (s.passed rs)), [])) : Ex (f_c_Side_passed C [.v (sideD C rs s)]) Q := by
  unfold f_c_Side_passed B_c_Side_passed
  nofun
  refine word_ok h ?_
  unfold Sd.passed at k
  unfold Sd.isC at hc
  unfold Sd.word
  rcases Sd.split h with ⟨w, h1, h2, _⟩ | ⟨i, r, h1, h2, h3, h4, h5, h6, h7⟩
  · rw [h1] at ho; cases ho
  · rw [h2] at hc ⊢
    rw [h1, h2] at k
    obtain ⟨pos, hand, news, part, told, had, rep⟩ := s
    cases h1
    cases r with
    | one w =>
      simp only [Option.elim, Row.word]
      nofun
      rw [hand_tab]
      refine ⟨fun e => ?_, fun e => ?_⟩
      · refine side_after_ok (Nat.le_of_ble_eq_true rfl) rfl ?_
        simp only [e, if_true] at k
        nofun
        exact k
      · refine side_after_ok (Nat.le_of_ble_eq_true rfl) rfl ?_
        simp only [e, Bool.false_eq_true, if_false] at k
        nofun
        exact k
    | _ => cases hc
theorem answer_ok {over : Bool} (h : s.ok rs) (k : Q (.d (ansD (s.answer rs over)), [])) : Ex (f_c_Side_answer C [.v (sideD C rs s), .v (.bl over)]) Q := by
  unfold f_c_Side_answer B_c_Side_answer
  nofun
  refine word_ok h ?_
  nofun
  refine given_ok ?_
  nofun
  unfold Sd.answer at k
  refine ⟨fun e => ?_, fun e => ?_⟩
  · rw [if_pos e] at k; exact k
  rw [if_neg (by rw [e]; decide)] at k
  refine ⟨fun e => ?_, fun e => ?_⟩
  · rw [if_pos e] at k; exact k
  rw [if_neg e] at k
  refine ⟨fun e => ?_, fun e => ?_⟩
  · rw [if_pos e] at k
    refine ⟨fun e2 => ?_, fun e2 => ?_⟩
    · rw [if_pos e2] at k; exact k
    · rw [if_neg (by rw [e2]; decide)] at k; exact k
  rw [if_neg e] at k
  refine ⟨fun e2 => ?_, fun e2 => ?_⟩
  · rw [if_pos e2] at k
    refine ⟨fun e3 => ?_, fun e3 => ?_⟩
    · rw [if_pos e3] at k; exact k
    · rw [if_neg e3] at k; exact k
  · rw [if_neg (by rw [e2]; decide)] at k
    refine ⟨fun e3 => ?_, fun e3 => ?_⟩
    · rw [if_pos e3] at k; exact k
    · rw [if_neg (by rw [e3]; decide)] at k; exact k
def sideO (C : Addr) (rs : List Row) : Option Sd → D
  | none => .non
  | some s => sideD C rs s
theorem gone_ok {over : Bool} (h : s.ok rs) (hp : ProgOk rs) (k : Q (.d (sideO C rs (s.gone rs over)), [])) : Ex (f_c_Side_gone C [.v (sideD C rs s), .v (.bl over)]) Q := by
  unfold f_c_Side_gone B_c_Side_gone B_c_Side_gone_1
  nofun
  refine ended_ok ?_
  nofun
  unfold Sd.gone at k
  refine ⟨fun e => ?_, fun e => ?_⟩
  · rw [if_pos e] at k; exact k
  rw [if_neg (by rw [e]; decide)] at k
  refine word_ok h ?_
  nofun
  refine ⟨fun e2 => ?_, fun e2 => ?_⟩
  · rw [if_neg (by rw [e2]; decide)] at k
    refine passed_ok h e e2 ?_
    nofun
    exact k
  · rw [if_pos e2] at k
    refine answer_ok h ?_
    cases ha : s.answer rs over with
    | none =>
      rw [ha] at k
      nofun
      exact k
    | some a =>
      rw [ha] at k
      nofun
      refine answered_ok h hp e2 ?_
      nofun
      exact k
theorem sreset_ok (k : Q (.d (sideD C rs s.reset), [])) : Ex (f_c_Side_reset C [.v (sideD C rs s)]) Q := by
  unfold f_c_Side_reset B_c_Side_reset
  nofun
  refine side_after_ok (Nat.le_of_ble_eq_true rfl) rfl ?_
  nofun
  exact k
end
section
structure Two (α : Type) where
  a : α
  b : α
  deriving DecidableEq
def Two.get {α : Type} (p : Two α) : Bool → α
  | false => p.a
  | true => p.b
def Two.put {α : Type} (p : Two α) (s : Bool) (v : α) : Two α := match s with
  | false => ⟨v, p.b⟩
  | true => ⟨p.a, v⟩
def sI : Bool → Int
  | false => 0
  | true => 1
def twD (t : Bool) (x y : D) : D := if t then .tup [x, y] else .ktp [x, y]
theorem one_sub (s : Bool) : 1 - sI s = sI (!s) := by cases s <;> rfl
theorem at_side {C : Addr} {r : Two (List Row)} {p : Two Sd} {s : Bool} : atI [sideD C r.a p.a, sideD C r.b p.b] (sI s) = some (sideD C (r.get s) (p.get s)) := by cases s <;> rfl
def putD2 (x y : D) (s : Bool) (z : D) : D := match s with
  | false => .tup [z, y]
  | true => .tup [x, z]
theorem replaced_ok {t : Bool} {x y z : D} {s : Bool} {Q : Res × List D → Prop} (k : Q (.d (putD2 x y s z), [])) : Ex (f_replaced [.v (twD t x y), .v (.int (sI s)), .v z]) Q := by
  unfold f_replaced B_replaced
  have e1 : kSl none (some (sI s)) (twD t x y) = some (.tup (if s then [x] else [])) := by cases s <;> cases t <;> rfl
  have e2 : kSl (some (sI s + 1)) none (twD t x y) = some (.tup (if s then [] else [y])) := by cases s <;> cases t <;> rfl
  nofun
  rw [e1]
  nofun
  rw [e2]
  nofun
  cases s
  · exact ⟨Nat.le_of_ble_eq_true rfl, k⟩
  · exact ⟨Nat.le_of_ble_eq_true rfl, k⟩
theorem put_side {C : Addr} {r : Two (List Row)} {p : Two Sd} {s : Bool} {x : Sd} : putD2 (sideD C r.a p.a) (sideD C r.b p.b) s (sideD C (r.get s) x) = .tup [sideD C r.a (p.put s x).a, sideD C r.b (p.put s x).b] := by cases s <;> rfl
theorem put_fate {p : Two Fate} {s : Bool} {x : Fate} : putD2 (.str p.a.str) (.str p.b.str) s (.str x.str) = twD true (.str (p.put s x).a.str) (.str (p.put s x).b.str) := by cases s <;> rfl
theorem freeW_left {rs : List Row} {s : Sd} (h : s.freeW rs = true) : s.isC rs = true ∧ ∃ l, s.left rs = some l := by
  unfold Sd.freeW Sd.isW at h
  unfold Sd.isC Sd.left
  cases hr : s.row rs with
  | none => rw [hr] at h; simp at h
  | some r =>
    rw [hr] at h
    cases r with
    | write a t => exact ⟨rfl, _, rfl⟩
    | _ => simp [Row.isW] at h
theorem freeR_call {rs : List Row} {s : Sd} (h : s.freeR rs = true) : s.isC rs = true := by
  unfold Sd.freeR Sd.isR at h
  unfold Sd.isC
  cases hr : s.row rs with
  | none => rw [hr] at h; simp at h
  | some r =>
    rw [hr] at h
    cases r with
    | read a e o => rfl
    | drain t => rfl
    | _ => simp [Row.isR] at h
theorem Two.get_put {α : Type} {p : Two α} {s : Bool} {v : α} : (p.put s v).get s = v := by cases s <;> rfl
theorem Two.get_put' {α : Type} {p : Two α} {s : Bool} {v : α} : (p.put s v).get (!s) = p.get (!s) := by cases s <;> rfl
theorem isN_ins {C : Addr} {fs : List (Str × D)} : isN (.ins C fs) = false := rfl
theorem prog_last {rs : List Row} {i : Int} {r : Row} (hp : ProgOk rs) (h0 : 0 ≤ i) (h1 : i < rs.length) (hr : rs[i.toNat]? = some r) (he : r.ends = false) : i + 1 < rs.length := by
  obtain ⟨z, hz, hz2⟩ := hp.last
  by_cases c : i + 1 < rs.length
  · exact c
  · have e : i.toNat = rs.length - 1 := by omega
    rw [List.getLast?_eq_getElem?, ← e, hr] at hz
    cases hz
    rw [he] at hz2
    cases hz2
theorem goal_bd {rs : List Row} {i : Int} {r : Row} {a : Ans} (hp : ProgOk rs) (h0 : 0 ≤ i) (h1 : i < rs.length) (hr : rs[i.toNat]? = some r) (hc : r.isC = true) : i + 1 ≤ r.goal i a ∧ r.goal i a < rs.length := by
  have l := prog_last hp h0 h1 hr (by cases r <;> first | rfl | cases hc)
  have q := (hp.rows i.toNat r hr).1
  rw [show ((i.toNat : Nat) : Int) = i by omega] at q
  cases r with
  | one w => cases hc
  | write n t =>
    have := q t (by simp [Row.targets])
    cases a <;> simp only [Row.goal] <;> omega
  | read n e o =>
    have := q e (by simp [Row.targets])
    have := q o (by simp [Row.targets])
    cases a <;> simp only [Row.goal] <;> omega
  | drain t =>
    have := q t (by simp [Row.targets])
    cases a <;> simp only [Row.goal] <;> omega
theorem answered_valid {rs : List Row} {s : Sd} {a : Ans} (h : s.ok rs) (hp : ProgOk rs) (hc : s.isC rs = true) : (s.answered rs a).ok rs := by
  unfold Sd.isC at hc
  rcases Sd.split h with ⟨w, h1, h2, _⟩ | ⟨i, r, h1, h2, h3, h4, h5, h6, h7⟩
  · rw [h2] at hc; cases hc
  · rw [h2] at hc
    have b := goal_bd (a := a) hp h4 h5 h6 hc
    have e : (s.answered rs a).pos = .at (r.goal i a) := by unfold Sd.answered Sd.goal; rw [h1, h2]
    unfold Sd.ok
    rw [e]
    refine ⟨by omega, b.2, ?_⟩
    show ((s.rep ++ [a]).length : Int) ≤ _
    rw [List.length_append, List.length_cons, List.length_nil]
    omega
theorem moved_valid {rs : List Row} {s : Sd} {k : Int} (h : s.ok rs) (hp : ProgOk rs) (hc : s.isC rs = true) : (s.moved rs k).ok rs := by
  unfold Sd.moved
  split
  · exact answered_valid (s := s.more k) h hp hc
  · exact h
theorem passed_valid {rs : List Row} {s : Sd} (h : s.ok rs) (hp : ProgOk rs) (hc : s.isC rs = false) : (s.passed rs).ok rs := by
  unfold Sd.isC at hc
  unfold Sd.passed
  rcases Sd.split h with ⟨w, h1, h2, _⟩ | ⟨i, r, h1, h2, h3, h4, h5, h6, h7⟩
  · rw [h1, h2]; exact h
  · rw [h2] at hc
    rw [h1, h2]
    cases r with
    | one w =>
      unfold Sd.ok
      dsimp only
      cases hw : w.isV with
      | true =>
        rw [if_pos rfl]
        exact ⟨hw, by omega⟩
      | false =>
        rw [if_neg (by decide)]
        have l := prog_last hp h4 h5 h6 (by cases w <;> first | rfl | cases hw)
        exact ⟨by omega, l, by omega⟩
    | _ => cases hc
theorem gone_valid {rs : List Row} {s s' : Sd} {over : Bool} (h : s.ok rs) (hp : ProgOk rs) (e : s.gone rs over = some s') : s'.ok rs := by
  unfold Sd.gone at e
  split at e
  · cases e
  · split at e
    · rename_i hc
      cases ha : s.answer rs over with
      | none => rw [ha] at e; cases e
      | some a => rw [ha] at e; cases e; exact answered_valid h hp hc
    · rename_i hc
      cases e
      exact passed_valid h hp (by simpa using hc)
structure Std where
  sd : Two Sd
  ft : Two Fate
abbrev ptL (s : Sd) (f : Fate) : List D := [posD s.pos, .str s.hand.str, .str s.news.str, .int s.told, .int s.had, .str f.str]
def ptK (t : Bool) (s : Sd) (f : Fate) : D := if t then .tup (ptL s f) else .ktp (ptL s f)
def stK (t : Bool) (fl : Two Bool) (st : Std) : D := twD t (ptK fl.a st.sd.a st.ft.a) (ptK fl.b st.sd.b st.ft.b)
theorem pt_0 {t : Bool} {s : Sd} {f : Fate} : kIx (ptK t s f) (.int 0) = some (posD s.pos) := by cases t <;> rfl
theorem pt_1 {t : Bool} {s : Sd} {f : Fate} : kIx (ptK t s f) (.int 1) = some (.str s.hand.str) := by cases t <;> rfl
theorem pt_2 {t : Bool} {s : Sd} {f : Fate} : kIx (ptK t s f) (.int 2) = some (.str s.news.str) := by cases t <;> rfl
theorem pt_3 {t : Bool} {s : Sd} {f : Fate} : kIx (ptK t s f) (.int 3) = some (.int s.told) := by cases t <;> rfl
theorem pt_4 {t : Bool} {s : Sd} {f : Fate} : kIx (ptK t s f) (.int 4) = some (.int s.had) := by cases t <;> rfl
theorem pt_5 {t : Bool} {s : Sd} {f : Fate} : kIx (ptK t s f) (.int 5) = some (.str f.str) := by cases t <;> rfl
theorem pt_T {t : Bool} {s : Sd} {f : Fate} : tupItems (ptK t s f) = some (ptL s f) := by cases t <;> rfl
theorem pt_c3 {t : Bool} {s : Sd} {f : Fate} : kSl none (some 3) (ptK t s f) = some (.tup [posD s.pos, .str s.hand.str, .str s.news.str]) := by cases t <;> rfl
theorem pt_d3 {t : Bool} {s : Sd} {f : Fate} : kSl (some 3) none (ptK t s f) = some (.tup [.int s.told, .int s.had, .str f.str]) := by cases t <;> rfl
theorem pt_c2 {t : Bool} {s : Sd} {f : Fate} : kSl none (some 2) (ptK t s f) = some (.tup [posD s.pos, .str s.hand.str]) := by cases t <;> rfl
theorem pt_c5 {t : Bool} {s : Sd} {f : Fate} : kSl none (some 5) (ptK t s f) = some (.tup [posD s.pos, .str s.hand.str, .str s.news.str, .int s.told, .int s.had]) := by cases t <;> rfl
theorem st_0 {t : Bool} {fl : Two Bool} {st : Std} : kIx (stK t fl st) (.int 0) = some (ptK fl.a st.sd.a st.ft.a) := by cases t <;> rfl
theorem st_1 {t : Bool} {fl : Two Bool} {st : Std} : kIx (stK t fl st) (.int 1) = some (ptK fl.b st.sd.b st.ft.b) := by cases t <;> rfl
theorem st_s {t : Bool} {fl : Two Bool} {st : Std} {s : Bool} : kIx (stK t fl st) (.int (sI s)) = some (ptK (fl.get s) (st.sd.get s) (st.ft.get s)) := by cases s <;> cases t <;> rfl
def Sd.bare (s : Sd) : Sd := { s with rep := [] }
/-- how much a side has written at most, its present call not being answered -/
def Sd.mW (rs : List Row) (s : Sd) : Int := if s.freeW rs then s.told + (s.left rs).getD 0 - 1 else s.told
/-- how much it has read at most, none without a limit -/
def Sd.mR (rs : List Row) (s : Sd) : Option Int := if s.freeR rs then (s.left rs).map fun l => s.had + l - 1 else some s.had
def Sd.need (rm ro : List Row) (s o : Sd) : Int := match o.mR ro with
  | none => 1
  | some m => if s.told + (s.left rm).getD 0 - m > 1 then s.told + (s.left rm).getD 0 - m else 1
abbrev EndT := Int × PySem.Str × Sd
def readsT (rm ro : List Row) (s o : Sd) : List EndT :=
  ((match s.left rm with
    | some l => if s.had + l ≤ o.mW ro then [(1, "read", s.moved rm l)] else []
    | none => []) : List EndT) ++
  ((if o.hand.ended && (match s.left rm with
    | none => true
    | some l => decide (o.told < s.had + l)) then [(1, "end", ({ s with part := o.told - s.had }).answered rm .ends)] else []) : List EndT)
def endsT (rm ro : List Row) (s o : Sd) : List EndT :=
  if s.pos.isOver then [] else match s.gone rm false with
    | some l => [(1, "go", l)]
    | none => if s.isW rm then [(s.need rm ro o, "write", s.moved rm ((s.left rm).getD 0))] else readsT rm ro s o
def fatesT (rm : List Row) (s o : Sd) : List Fate :=
  if s.hand.given || !decide (s.news = .no) then [] else if !o.hand.hard && !(decide (o.hand = .closed) && decide (o.had < s.mW rm)) then [] else
    (if s.had < o.told then [.wiped] else []) ++ match s.mR rm with
      | none => [.whole]
      | some m => if o.told ≤ m then [.whole] else []
structure It where
  least : Two Int
  kind : PySem.Str
  side : Bool
  fl : Two Bool
  st : Std
def leastT (s : Bool) (n : Int) : Two Int := if s then ⟨1, n⟩ else ⟨n, 1⟩
def itEnd (fl : Two Bool) (st : Std) (s : Bool) (e : EndT) : It := ⟨leastT s e.1, e.2.1, s, fl.put s true, ⟨st.sd.put s e.2.2.bare, st.ft⟩⟩
def itFate (st : Std) (s : Bool) (f : Fate) : It := ⟨⟨1, 1⟩, f.str, s, ⟨true, true⟩, ⟨st.sd.put s (st.sd.get s).reset.bare, st.ft.put (!s) f⟩⟩
def sideT (rs : Two (List Row)) (fl : Two Bool) (st : Std) (s : Bool) : List It :=
  (endsT (rs.get s) (rs.get !s) (st.sd.get s) (st.sd.get !s)).map (itEnd fl st s) ++ (fatesT (rs.get s) (st.sd.get s) (st.sd.get !s)).map (itFate st s)
def movesT (rs : Two (List Row)) (fl : Two Bool) (st : Std) : List It := sideT rs fl st false ++ sideT rs fl st true
def fitT (r : Option Int) (n : Int) : Bool := match r with
  | none => true
  | some r => decide (n ≤ r)
def It.fits (rooms : Two (Option Int)) (i : It) : Bool := fitT rooms.a i.least.a && fitT rooms.b i.least.b
def nextT (rs : Two (List Row)) (rooms : Two (Option Int)) (fl : Two Bool) (st : Std) : List It := (movesT rs fl st).filter (It.fits rooms)
abbrev roomsD (r : Two (Option Int)) : D := .tup [optI r.a, optI r.b]
abbrev endD (C : Addr) (rm : List Row) (e : EndT) : D := .tup [.int e.1, .str e.2.1, sideD C rm e.2.2]
def itD (i : It) : D := .tup [.tup [.int i.least.a, .int i.least.b], .str i.kind, .int (sI i.side), stK true ⟨true, true⟩ i.st]
def itD2 (i : It) : D := .tup [.str i.kind, .int (sI i.side), stK true ⟨true, true⟩ i.st]
theorem endsT_len {rm ro : List Row} {s o : Sd} : (endsT rm ro s o).length ≤ 2 := by
  unfold endsT readsT
  repeat' split
  all_goals simp
theorem fatesT_len {rm : List Row} {s o : Sd} : (fatesT rm s o).length ≤ 2 := by
  unfold fatesT
  repeat' split
  all_goals simp
theorem sideT_len {rs : Two (List Row)} {fl : Two Bool} {st : Std} {s : Bool} : (sideT rs fl st s).length ≤ 4 := by
  unfold sideT
  rw [List.length_append, List.length_map, List.length_map]
  have := endsT_len (rm := rs.get s) (ro := rs.get !s) (s := st.sd.get s) (o := st.sd.get !s)
  have := fatesT_len (rm := rs.get s) (s := st.sd.get s) (o := st.sd.get !s)
  omega
theorem movesT_len {rs : Two (List Row)} {fl : Two Bool} {st : Std} : (movesT rs fl st).length ≤ 8 := by
  unfold movesT
  rw [List.length_append]
  have := sideT_len (rs := rs) (fl := fl) (st := st) (s := false)
  have := sideT_len (rs := rs) (fl := fl) (st := st) (s := true)
  omega
theorem nextT_len {rs : Two (List Row)} {rooms : Two (Option Int)} {fl : Two Bool} {st : Std} : (nextT rs rooms fl st).length ≤ 8 := Nat.le_trans (List.length_filter_le _ _) movesT_len
/-- a side as it stands between steps: so much told and read at most -/
structure OkS (B : Int) (rs : List Row) (s : Sd) : Prop where
  ok : s.ok rs
  p : s.part = 0
  r : s.rep = []
  t0 : 0 ≤ s.told
  t1 : s.told ≤ B
  h0 : 0 ≤ s.had
  h1 : s.had ≤ B
structure OkT (B : Int) (rs : Two (List Row)) (st : Std) : Prop where
  a : OkS B rs.a st.sd.a
  b : OkS B rs.b st.sd.b
theorem OkT.get {B : Int} {rs : Two (List Row)} {st : Std} (h : OkT B rs st) : ∀ s, OkS B (rs.get s) (st.sd.get s)
  | false => h.a
  | true => h.b
end
local macro_rules
  | `(tactic| nofun) => `(tactic| simp only [↓x_eC, intD_i, datR_d, strD_s, ↓x_eV, ↓x_oV, ↓x_oR, ↓x_fin, ↓x_finN, ↓x_e1, ↓x_e2, ↓x_eL, ↓x_nL, ↓x_aN, ↓x_aC, ↓x_resAll, ↓x_valsOf, ↓x_tV, ↓x_tNt, ↓x_tAn, ↓x_tOr, ↓x_tYs, ↓x_eIf, ↓x_eAnd, ↓x_eOr, ↓x_eNot, ↓x_eTup, ↓x_nLst, ↓x_eChain,
      ↓x_sNx, pt_0, pt_1, pt_2, pt_3, pt_4, pt_5, pt_T, pt_c3, pt_d3, pt_c2, pt_c5, st_0, st_1, st_s, one_sub, hand_given, hand_ended, hand_hard, hand_open, hand_stopped, hand_closed, news_no, news_reset, news_told, ans_reset, ans_taken, ans_end, ans_te, ans_rb, row_isW, row_isWn, row_isRd, row_dr, row_inW, row_inR, row_inC, wd_verd, sd_isW, sd_isWn, sd_inW, sd_inR, sd_inC, isi_pos, row_ix0, Bool.not_eq_true', Bool.not_eq_false', row_w1, row_wl, row_r1, row_r2, row_rl, row_dl, rep_items, rW_w, rW_r, rW_d, rW_o, rR_w, rR_r, rR_d, rR_o, rC_w, rC_r, rC_d, rC_o, rDr_w, rDr_r, rDr_d, rDr_o, hg_opn, hg_stopped, hg_closed, hg_aborted, hg_cut, wv_stop, wv_close, wv_abort, wv_done, wv_fail, posD_at, posD_ov, kEq_ni, optI_n, optI_s, ansD_n, ansD_s, lf_pos, fS_listing, lS_listing, fS_row, lS_row, fS_hand, lS_hand, fS_heard, lS_heard, fS_part, lS_part, fS_told, lS_told, fS_had, lS_had, fS_replies, lS_replies, nS_after, nS_has_ended, nS_word, nS_has_given, nS_is_free, nS_left, nS_answered, nS_moved, nS_passed, nS_answer, nS_gone, nS_reset, fM_sides, lM_sides, fM_written, lM_written, fM_read, lM_read, fM_fates, lM_fates, nM_unread, nM_most_written, nM_most_read, nM_most_flown, nM_most, nM_moved, nM_gone, nM_reset, nM_after, nM_steps, nM_outcome, nM_stand, fR_programs, lR_programs, fR_limits, lR_limits, fR_moment, lR_moment, fR_past, lR_past, nR_possible, nR_do, nR_steps, nR_positions, nR_hands, nR_news, nR_counts, nR_stand, nR_answers, nR_history, nR_outcome, nR_undo, nR_copy, nR_trial, nR_tried, Option.isNone_none, ↓x_nDNew, ↓x_eDGet2O, ↓x_nMakeK, mrg_t, mrg_f, mrg_nil, ↓x_ePopO, ↓x_nKDsp, ↓x_sPutE, ↓x_nKc, ddD_d, ↓x_eKw, ↓x_eTGet, pair2_s, treIn, treNew, boxL, isBox, resT, ↓x_nDspM, ↓x_nMakeD, ↓x_sAug, ↓x_sPar3, three_3, dkOf_k, kwO_v, kStp3_t, lstD_l, ↓x_n2, anyItems_l, anyItems_t, anyItems_k, ↓x_sSeq, ↓x_sRet, ↓x_sRetN, ↓x_sRetO, ↓x_sIf, ↓x_sSet, ↓x_sSetN, ↓x_sOwn, ↓x_sAsg, ↓x_gN, ↓x_gTp, ↓x_gsN, ↓x_gsC, ↓x_sPar2, two_2, ↓x_sApp, ↓x_sPutD, ↓x_itV, ↓x_itT, ↓x_sFor, ↓x_nLc,
      ↓x_mkF, ↓x_callO, ↓x_eCall, ↓x_eMeth, ↓x_eProp, ↓x_nMake, ↓x_sFld, ↓x_loop_n, ↓x_loop_c, ↓x_dspN, ↓x_dspC, ↓x_kAddL, ↓x_kAddT, ↓x_eSl, ↓x_bN, ↓x_bS, ↓x_itZ, ↓x_itE, ↓x_eKGet, ↓x_aS, ↓x_eTupS, ↓x_nLstS, ↓x_valsApp, strO_s, dkD_k, seqItems_t, seqItems_kt, seqItems_l, ↓x_lcLoop_n, ↓x_lcLoop_c, ↓x_kMul, ↓x_kMod, ↓x_kPow,
      ex_some, ex_none, ex_bind, seqK_nx, seqK_br, seqK_ct, seqK_rt, seqK_rn, seqK_rr, brk_nx, brk_ct, brk_br, brk_rt, brk_rn, brk_rr, finR_d, finR_n, retO, dAt, ownAny, ownNew, ownL, ownK, ownIn, res_v, res_r, res_i, isVal_v, isVal_r, isVal_i, resAll_n, valsOf_n, int1, int2,
      wide_10, wide_2, kFld_hit, kSl_l, kSl_t, kIsi_ll, kIsi_tt, kIsN_n, kNotN_n, isN_n, isN_i, isN_s, isN_t, cutL_map, cutL_1, zipD_map, zipM_l, kList_l, kTuple_l, kTuple_t, isS, putFD_n, keyOf_i, keyOf_s, kSorted_k0, kSorted_dset, dset_len, tupItems_t, tupItems_kt, lstItems_l, lstItems_sc, lstOnly_l, oneOpd_1, resOf_rt, resOf_rn, resOf_nx, resL_n, resL_d, isNon_d, isCls_c, insOf_i, insOk_i, conts_v, conts_r, conts_i, strOk_s, blOk_b, lfo_l, lfo_k, lfo_i, kRev_l, kInX_t, kNotInX_t, kInX_p, kNotInX_p, kEq_pd, kNe_pd, kEq_pp, kNe_pp, kEq_i, kNe_i, kEq_b, kNe_b, kEq_pn, kEq_nn, kNe_nn, kNe_pn, kIx_p0, kIx_p1, tupItems_p, lf_pair, kAny_bls, kAll_bls, kSorted_pairs, kSorted_ints, lfs_ints, lfs_bls, lfs_pairs, kAdd_i, kSub_i, kLt_i, kLe_i, kGt_i, kGe_i, kNeg_i, kInt_i, kInt_b, kAbs_i, kMax_i, kMin_i, kLen_l, kLen_t, kLen_k, kLen_s, kIx_t, kIx_k, kIx_l, kIx_s, atI_0, atI_1, atI_2, atI_3, ixN_0, ixN_1, ixN_2, ixN_3, isOwn, allVal, lf, lfs, lff, lfk, wipeE, Nat.reduceBEq, entry, L3.collect, resD_d, resD_n, argsOf, putOuts, ios, okOs, hasRef, isRef,
      List.getElem?_cons_zero, List.getElem?_cons_succ, List.getElem?_nil, List.set_cons_zero, List.set_cons_succ, List.length_cons, List.length_nil, List.replicate_succ, List.replicate_zero, List.nil_append, List.cons_append, List.append_nil, List.map_cons, List.map_nil, List.any_cons, List.any_nil, List.all_cons, List.all_nil, List.nodup_cons, List.nodup_nil, List.not_mem_nil, List.contains_nil, List.contains_cons, List.take_succ_cons, List.take_zero, List.length_append, List.length_map,
      D.bl.injEq, Res.d.injEq, D.int.injEq, exists_eq_left', exists_eq_left, true_and, and_true, and_self, or_true, true_or, false_or, or_false, if_true, if_false, ite_true, ite_false, true_implies, false_implies, not_true_eq_false, not_false_eq_true, eq_self, beq_self_eq_true, Bool.true_beq, beq_true, Bool.false_beq, beq_false, Bool.not_not, decide_true, decide_false, decide_eq_true_eq, decide_eq_false_iff_not, Bool.and_true, Bool.true_and, Bool.and_self, Bool.not_true, Bool.not_false, Bool.or_self, Bool.false_or, Bool.or_false, Bool.true_or, Bool.or_true, Bool.and_false, Bool.false_and, Option.bind_some, Option.bind_none, Bool.false_eq_true, false_and, and_false, reduceCtorEq, Nat.reduceAdd, Nat.reduceSub, Nat.reduceLT, Nat.reduceLeDiff, Int.reduceLE, Int.reduceLT, Int.reduceNeg, Int.reduceToNat, Int.reducePow, Int.reduceMul, Int.reduceAdd, Int.reduceSub, reduceIte, forall_const, not_and, Bool.not_eq_true, Bool.not_eq_false])
section
section
variable {C CP : Addr} {rs ro : List Row} {s o : Sd} {Q : Res × List D → Prop}
theorem zipM_t {l m : List D} : zipM [.val (.tup l), .val (.tup m)] = some (zipD l m) := rfl
theorem smostW_ok (h : s.ok rs) (k : Q (.d (.int (s.mW rs)), [])) : Ex (f_most_written C [.v (sideD C rs s)]) Q := by
  unfold f_most_written B_most_written
  unfold Sd.mW at k
  nofun
  refine freeW_ok h ?_
  nofun
  refine ⟨fun e => ?_, fun e => ?_⟩
  · obtain ⟨hc, l, hl⟩ := freeW_left e
    rw [if_pos e, hl] at k
    refine left_ok h hc ?_
    rw [hl]
    nofun
    exact k
  · rw [if_neg (by rw [e]; decide)] at k
    exact k
theorem smostR_ok (h : s.ok rs) (k : Q (.d (optI (s.mR rs)), [])) : Ex (f_most_read C [.v (sideD C rs s)]) Q := by
  unfold f_most_read B_most_read B_most_read_1
  unfold Sd.mR at k
  nofun
  refine freeR_ok h ?_
  nofun
  refine ⟨fun e => ?_, fun e => ?_⟩
  · rw [if_neg (by rw [e]; decide)] at k
    exact k
  · rw [if_pos e] at k
    refine left_ok h (freeR_call e) ?_
    cases hl : s.left rs with
    | none =>
      rw [hl] at k
      nofun
      exact k
    | some l =>
      rw [hl] at k
      nofun
      exact k
theorem write_end_ok (h : s.ok rs) (hp : ProgOk rs) (ho : o.ok ro) (hf : s.freeW rs = true) (k : Q (.d (endD C rs (s.need rs ro o, "write", s.moved rs ((s.left rs).getD 0))), [])) : Ex (f_write_end C [.v (sideD C rs s), .v (sideD C ro o)]) Q := by
  unfold f_write_end B_write_end
  nofun
  refine smostR_ok ho ?_
  obtain ⟨hc, l, hl⟩ := freeW_left hf
  unfold Sd.need at k
  rw [hl] at k
  cases hm : o.mR ro with
  | none =>
    rw [hm] at k
    nofun
    refine left_ok h hc ?_
    rw [hl]
    nofun
    refine moved_ok h hp hc ?_
    nofun
    exact k
  | some m =>
    rw [hm] at k
    nofun
    refine left_ok h hc ?_
    rw [hl]
    nofun
    refine left_ok h hc ?_
    rw [hl]
    nofun
    refine moved_ok h hp hc ?_
    nofun
    exact k
theorem read_ends1_ok {xs : List D} (h : s.ok rs) (hp : ProgOk rs) (ho : o.ok ro) (hc : s.isC rs = true) (hx : xs.length ≤ 2) {QS : Out × L3.Env → Prop}
    (k : QS (.nx, [some (.d (sideD C rs s)), some (.d (sideD C ro o)), some (.own none (.lst (xs ++ (match s.left rs with
      | some l => if s.had + l ≤ o.mW ro then [((1, "read", s.moved rs l) : EndT)] else []
      | none => []).map (endD C rs)))), some (.d (optI (s.left rs)))])) :
    Ex (B_read_ends_1 C [some (.d (sideD C rs s)), some (.d (sideD C ro o)), some (.own none (.lst xs)), some (.d (optI (s.left rs)))]) QS := by
  unfold B_read_ends_1
  cases hl : s.left rs with
  | none =>
    rw [hl] at k
    dsimp only at k
    rw [List.map_nil, List.append_nil] at k
    nofun
    exact k
  | some l =>
    rw [hl] at k
    dsimp only at k
    nofun
    refine smostW_ok ho ?_
    nofun
    refine ⟨fun e => ?_, fun e => ?_⟩
    · rw [if_pos e] at k
      refine moved_ok h hp hc ?_
      nofun
      exact ⟨by omega, k⟩
    · rw [if_neg e, List.map_nil, List.append_nil] at k
      exact k
theorem read_ends2_ok {xs : List D} (h : s.ok rs) (hp : ProgOk rs) (hc : s.isC rs = true) (hx : xs.length ≤ 2) {QS : Out × L3.Env → Prop}
    (k : QS (.nx, [some (.d (sideD C rs s)), some (.d (sideD C ro o)), some (.own none (.lst (xs ++ (if o.hand.ended && (match s.left rs with
      | none => true
      | some l => decide (o.told < s.had + l)) then [((1, "end", ({ s with part := o.told - s.had }).answered rs .ends) : EndT)] else []).map (endD C rs)))), some (.d (optI (s.left rs)))])) :
    Ex (B_read_ends_2 C [some (.d (sideD C rs s)), some (.d (sideD C ro o)), some (.own none (.lst xs)), some (.d (optI (s.left rs)))]) QS := by
  unfold B_read_ends_2
  cases he : o.hand.ended with
  | false =>
    rw [he, Bool.false_and, if_neg (by decide), List.map_nil, List.append_nil] at k
    nofun
    rw [he]
    nofun
    exact k
  | true =>
    rw [he, Bool.true_and] at k
    cases hl : s.left rs with
    | none =>
      rw [hl] at k
      dsimp only at k
      rw [if_pos rfl] at k
      nofun
      rw [he]
      nofun
      refine side_after_ok (Nat.le_of_ble_eq_true rfl) rfl ?_
      nofun
      refine answered_ok (a := .ends) (s := { s with part := o.told - s.had }) h hp hc ?_
      nofun
      exact ⟨by omega, k⟩
    | some l =>
      rw [hl] at k
      dsimp only at k
      nofun
      rw [he]
      nofun
      refine ⟨fun e => ?_, fun e => ?_⟩
      · rw [if_pos (decide_eq_true e)] at k
        refine side_after_ok (Nat.le_of_ble_eq_true rfl) rfl ?_
        nofun
        refine answered_ok (a := .ends) (s := { s with part := o.told - s.had }) h hp hc ?_
        nofun
        exact ⟨by omega, k⟩
      · rw [if_neg (by rw [decide_eq_false e]; decide), List.map_nil, List.append_nil] at k
        exact k
theorem read_ends_ok (h : s.ok rs) (hp : ProgOk rs) (ho : o.ok ro) (hc : s.isC rs = true) (k : Q (.n (.lst ((readsT rs ro s o).map (endD C rs))), [])) : Ex (f_read_ends C [.v (sideD C rs s), .v (sideD C ro o)]) Q := by
  unfold f_read_ends B_read_ends
  nofun
  refine left_ok h hc ?_
  nofun
  refine read_ends1_ok (xs := []) h hp ho hc (by decide) ?_
  nofun
  refine read_ends2_ok h hp hc ?_ ?_
  · split <;> simp
    split <;> simp
  · nofun
    unfold readsT at k
    rw [List.map_append] at k
    exact k
theorem row_ends_ok (h : s.ok rs) (hp : ProgOk rs) (ho : o.ok ro) (k : ∀ r, (r = .d (.lst ((endsT rs ro s o).map (endD C rs))) ∨ r = .n (.lst ((endsT rs ro s o).map (endD C rs)))) → Q (r, [])) : Ex (f_row_ends C [.v (sideD C rs s), .v (sideD C ro o)]) Q := by
  unfold f_row_ends B_row_ends B_row_ends_1
  unfold endsT at k
  nofun
  refine ended_ok ?_
  nofun
  refine ⟨fun e => ?_, fun e => ?_⟩
  · rw [if_pos e] at k
    exact k _ (.inr rfl)
  rw [if_neg (by rw [e]; decide)] at k
  refine gone_ok h hp ?_
  cases hg : s.gone rs false with
  | some l =>
    rw [hg] at k
    simp only [sideO] at k ⊢
    nofun
    first
      | exact k _ (.inr rfl)
      | (rw [isN_ins]; nofun; exact k _ (.inr rfl))
  | none =>
    rw [hg] at k
    simp only [sideO] at k ⊢
    nofun
    refine word_ok h ?_
    nofun
    have hc : s.isC rs = true := by
      unfold Sd.gone at hg
      rw [if_neg (by rw [e]; decide)] at hg
      cases hc : s.isC rs with
      | true => rfl
      | false => rw [if_neg (by rw [hc]; decide)] at hg; cases hg
    have ha : s.answer rs false = none := by
      unfold Sd.gone at hg
      rw [if_neg (by rw [e]; decide), if_pos hc] at hg
      cases hx : s.answer rs false with
      | none => rfl
      | some a => rw [hx] at hg; cases hg
    refine ⟨fun e2 => ?_, fun e2 => ?_⟩
    · rw [if_pos e2] at k
      have hf : s.freeW rs = true := by
        unfold Sd.answer at ha
        unfold Sd.freeW
        rw [e2] at ha ⊢
        cases hh : s.hand <;> rw [hh] at ha <;> cases hn : s.news <;> rw [hn] at ha <;> first | rfl | (simp [Hand.given] at ha)
      refine write_end_ok h hp ho hf ?_
      nofun
      exact k _ (.inl rfl)
    · rw [if_neg (by rw [e2]; decide)] at k
      refine read_ends_ok h hp ho hc ?_
      nofun
      exact k _ (.inl rfl)
theorem fates_ok (h : s.ok rs) (k : ∀ r, (r = .d (.lst ((fatesT rs s o).map fun f => .str f.str)) ∨ r = .n (.lst ((fatesT rs s o).map fun f => .str f.str))) → Q (r, [])) : Ex (f_reset_fates C [.v (sideD C rs s), .v (sideD C ro o)]) Q := by
  unfold f_reset_fates B_reset_fates B_reset_fates_1 B_reset_fates_2
  unfold fatesT at k
  nofun
  refine given_ok ?_
  nofun
  refine ⟨fun e => ?_, fun e => ?_⟩
  · rw [e, Bool.true_or, if_pos rfl] at k
    exact k _ (.inr rfl)
  rw [e, Bool.false_or] at k
  refine ⟨fun e2 => ?_, fun e2 => ?_⟩
  · rw [decide_eq_false e2] at k
    exact k _ (.inr rfl)
  rw [decide_eq_true e2] at k
  simp only [Bool.not_true, Bool.false_eq_true, if_false] at k
  refine ⟨fun hh => ?_, fun hh => ?_⟩
  · rw [hh, Bool.not_false, Bool.true_and] at k
    refine ⟨fun hc => ?_, fun hc => ?_⟩
    · rw [decide_eq_true hc, Bool.true_and] at k
      refine smostW_ok h ?_
      nofun
      refine ⟨fun e3 => ?_, fun e3 => ?_⟩
      · rw [decide_eq_false (show ¬ o.had < s.mW rs by omega), if_pos (by decide)] at k
        exact k _ (.inr rfl)
      · rw [decide_eq_true (show o.had < s.mW rs by omega), if_neg (by decide)] at k
        refine smostR_ok h ?_
        cases hm : s.mR rs with
        | none =>
          rw [hm] at k
          dsimp only at k
          nofun
          refine ⟨fun e3 => ?_, fun e3 => ?_⟩
          · rw [if_pos (show s.had < o.told by omega)] at k
            exact k _ (.inl rfl)
          · rw [if_neg (show ¬ s.had < o.told by omega)] at k
            exact k _ (.inl rfl)
        | some m =>
          rw [hm] at k
          dsimp only at k
          nofun
          refine ⟨fun e3 => ?_, fun e3 => ?_⟩
          · rw [if_pos (show s.had < o.told by omega)] at k
            refine ⟨fun e4 => ?_, fun e4 => ?_⟩
            · rw [if_pos e4] at k
              exact k _ (.inl rfl)
            · rw [if_neg e4] at k
              exact k _ (.inl rfl)
          · rw [if_neg (show ¬ s.had < o.told by omega)] at k
            refine ⟨fun e4 => ?_, fun e4 => ?_⟩
            · rw [if_pos e4] at k
              exact k _ (.inl rfl)
            · rw [if_neg e4] at k
              exact k _ (.inl rfl)
    · rw [decide_eq_false hc, Bool.false_and, Bool.not_false, if_pos rfl] at k
      exact k _ (.inr rfl)
  · rw [hh, Bool.not_true, Bool.false_and, if_neg (by decide)] at k
    refine smostR_ok h ?_
    cases hm : s.mR rs with
    | none =>
      rw [hm] at k
      dsimp only at k
      nofun
      refine ⟨fun e3 => ?_, fun e3 => ?_⟩
      · rw [if_pos (show s.had < o.told by omega)] at k
        exact k _ (.inl rfl)
      · rw [if_neg (show ¬ s.had < o.told by omega)] at k
        exact k _ (.inl rfl)
    | some m =>
      rw [hm] at k
      dsimp only at k
      nofun
      refine ⟨fun e3 => ?_, fun e3 => ?_⟩
      · rw [if_pos (show s.had < o.told by omega)] at k
        refine ⟨fun e4 => ?_, fun e4 => ?_⟩
        · rw [if_pos e4] at k
          exact k _ (.inl rfl)
        · rw [if_neg e4] at k
          exact k _ (.inl rfl)
      · rw [if_neg (show ¬ s.had < o.told by omega)] at k
        refine ⟨fun e4 => ?_, fun e4 => ?_⟩
        · rw [if_pos e4] at k
          exact k _ (.inl rfl)
        · rw [if_neg e4] at k
          exact k _ (.inl rfl)
theorem stand_of_ok {ra rb : List Row} {a b : Sd} {f g : Fate} (k : Q (.d (stK true ⟨true, true⟩ ⟨⟨a, b⟩, ⟨f, g⟩⟩), [])) : Ex (f_stand_of C [.v (.tup [sideD C ra a, sideD C rb b]), .v (.tup [.str f.str, .str g.str])]) Q := by
  unfold f_stand_of B_stand_of
  nofun
  rw [zipM_t]
  unfold zipD
  nofun
  simp only [List.zip_cons_cons, List.zip_nil_left, List.map_cons, List.map_nil]
  nofun
  simp only [putBack, keepD]
  nofun
  exact k
end
end
section
section
variable {C CP : Addr} {rs : Two (List Row)} {fl : Two Bool} {st : Std} {B : Int} {Q : Res × List D → Prop}
abbrev sidesD (C : Addr) (rs : Two (List Row)) (p : Two Sd) : D := .lst [sideD C rs.a p.a, sideD C rs.b p.b]
abbrev ftD (p : Two Fate) : D := .tup [.str p.a.str, .str p.b.str]
theorem OkS.at0 {rs : List Row} {s : Sd} (h : OkS B rs s) {C : Addr} : D.ins C [("listing", rowsD rs), ("row", posD s.pos), ("hand", .str s.hand.str), ("heard", .str s.news.str), ("part", .int 0), ("told", .int s.told), ("had", .int s.had), ("replies", .ktp [])] = sideD C rs s := by
  have e : repD s.rep = .ktp [] := by rw [h.r]; rfl
  rw [sideD, h.p, e]
theorem sides_of_ok {t : Bool} (h : OkT B rs st) (k : Q (.n (sidesD C rs st.sd), [])) : Ex (f_sides_of CP C [.v (progD CP rs.a), .v (progD CP rs.b), .v (stK t fl st)]) Q := by
  unfold f_sides_of B_sides_of B_sides_of_2 B_sides_of_1
  nofun
  refine ⟨by simp [insOf, progD], rows_ok ?_⟩
  nofun
  refine side_init_ok ?_
  nofun
  refine ⟨by simp [insOf, progD], rows_ok ?_⟩
  nofun
  refine side_init_ok ?_
  nofun
  rw [h.a.at0, h.b.at0]
  exact k
theorem replacedL_ok {x y z : D} {s : Bool} (k : Q (.d (putD2 x y s z), [])) : Ex (f_replaced [.v (.lst [x, y]), .v (.int (sI s)), .v z]) Q := by
  unfold f_replaced B_replaced
  have e1 : cutL [x, y] none (some (sI s)) = if s then [x] else [] := by cases s <;> rfl
  have e2 : cutL [x, y] (some (sI s + 1)) none = if s then [] else [y] := by cases s <;> rfl
  nofun
  rw [e1, e2]
  cases s
  · exact ⟨Nat.le_of_ble_eq_true rfl, k⟩
  · exact ⟨Nat.le_of_ble_eq_true rfl, k⟩
theorem st_bare {t : Bool} {fl : Two Bool} {p : Two Sd} {q : Two Fate} {s : Bool} {x : Sd} : stK t fl ⟨p.put s x.bare, q⟩ = stK t fl ⟨p.put s x, q⟩ := by cases s <;> rfl
theorem stand_of2 {s : Bool} {x : Sd} {p : Two Sd} {q : Two Fate} (k : Q (.d (stK true ⟨true, true⟩ ⟨p.put s x, q⟩), [])) : Ex (f_stand_of C [.v (putD2 (sideD C rs.a p.a) (sideD C rs.b p.b) s (sideD C (rs.get s) x)), .v (ftD q)]) Q := by
  rw [put_side]
  exact stand_of_ok k
theorem moves1_ok {s : Bool} {e : EndT} {xs : List D} {S0 S1 S2 S7 S8 S12 S13 S14 : Option S} {QS : Out × L3.Env → Prop} (hx : xs.length ≤ 100)
    (k : ∀ S12, QS (.nx, [S0, S1, S2, some (.d (sidesD C rs st.sd)), some (.d (ftD st.ft)), some (.own none (.lst (xs ++ [itD (itEnd fl st s e)]))), some (.d (.int (sI s))), S7, S8, some (.d (.int e.1)), some (.d (.str e.2.1)), some (.d (sideD C (rs.get s) e.2.2)), S12, S13, S14])) :
    Ex (B_moves_1 C [S0, S1, S2, some (.d (sidesD C rs st.sd)), some (.d (ftD st.ft)), some (.own none (.lst xs)), some (.d (.int (sI s))), S7, S8, some (.d (.int e.1)), some (.d (.str e.2.1)), some (.d (sideD C (rs.get s) e.2.2)), S12, S13, S14]) QS := by
  unfold B_moves_1
  have hb : itD (itEnd fl st s e) = .tup [.tup [.int (leastT s e.1).a, .int (leastT s e.1).b], .str e.2.1, .int (sI s), stK true ⟨true, true⟩ ⟨st.sd.put s e.2.2, st.ft⟩] := by
    unfold itD itEnd
    rw [st_bare]
  rw [hb] at k
  cases s
  · nofun
    refine ⟨fun _ => ?_, fun e0 => absurd rfl e0⟩
    refine replacedL_ok (s := false) ?_
    nofun
    refine stand_of2 ?_
    nofun
    exact ⟨by omega, k _⟩
  · nofun
    refine ⟨fun e0 => absurd e0 (by decide), fun _ => ?_⟩
    refine replacedL_ok (s := true) ?_
    nofun
    refine stand_of2 ?_
    nofun
    exact ⟨by omega, k _⟩
theorem moves2_ok {s : Bool} {xs : List D} {S0 S1 S2 S9 S10 S11 S12 S13 S14 : Option S} {QS : Out × L3.Env → Prop} (hx : xs.length ≤ 50) (h : OkT B rs st) (hp : ∀ s, ProgOk (rs.get s))
    (k : ∀ S9 S10 S11 S12, QS (.nx, [S0, S1, S2, some (.d (sidesD C rs st.sd)), some (.d (ftD st.ft)), some (.own none (.lst (xs ++ ((endsT (rs.get s) (rs.get !s) (st.sd.get s) (st.sd.get !s)).map (itEnd fl st s)).map itD))), some (.d (.int (sI s))), some (.d (sideD C (rs.get s) (st.sd.get s))), some (.d (sideD C (rs.get !s) (st.sd.get !s))), S9, S10, S11, S12, S13, S14])) :
    Ex (B_moves_2 C [S0, S1, S2, some (.d (sidesD C rs st.sd)), some (.d (ftD st.ft)), some (.own none (.lst xs)), some (.d (.int (sI s))), some (.d (sideD C (rs.get s) (st.sd.get s))), some (.d (sideD C (rs.get !s) (st.sd.get !s))), S9, S10, S11, S12, S13, S14]) QS := by
  unfold B_moves_2
  nofun
  refine row_ends_ok (h.get s).ok (hp s) (h.get !s).ok fun r hr => ?_
  have l2 := endsT_len (rm := rs.get s) (ro := rs.get !s) (s := st.sd.get s) (o := st.sd.get !s)
  generalize endsT (rs.get s) (rs.get !s) (st.sd.get s) (st.sd.get !s) = es at hr k l2
  have fin : Ex (loop (gTp 3 (gsCons (gN 9) (gsCons (gN 10) (gsCons (gN 11) (gsNil))))) (B_moves_1 C) (es.map (endD C (rs.get s))) [S0, S1, S2, some (.d (sidesD C rs st.sd)), some (.d (ftD st.ft)), some (.own none (.lst xs)), some (.d (.int (sI s))), some (.d (sideD C (rs.get s) (st.sd.get s))), some (.d (sideD C (rs.get !s) (st.sd.get !s))), S9, S10, S11, S12, S13, S14]) QS := by
    refine ex_loop _ (fun i ρ => ∃ ys S9 S10 S11 S12, ys = xs ++ ((es.take i).map (itEnd fl st s)).map itD ∧ ρ = [S0, S1, S2, some (.d (sidesD C rs st.sd)), some (.d (ftD st.ft)), some (.own none (.lst ys)), some (.d (.int (sI s))), some (.d (sideD C (rs.get s) (st.sd.get s))), some (.d (sideD C (rs.get !s) (st.sd.get !s))), S9, S10, S11, S12, S13, S14]) ⟨_, _, _, _, _, by rw [List.take_zero, List.map_nil, List.map_nil, List.append_nil], rfl⟩ ?_ ?_
    · rintro i x ρ hxi ⟨ys, T9, T10, T11, T12, hy, rfl⟩
      rw [List.getElem?_map] at hxi
      cases he : es[i]? with
      | none => rw [he] at hxi; cases hxi
      | some e =>
        rw [he] at hxi
        cases hxi
        nofun
        refine moves1_ok (fl := fl) (e := e) ?_ fun S12 => ?_
        · rw [hy, List.length_append, List.length_map, List.length_map, List.length_take]; omega
        · refine ⟨_, _, _, _, _, ?_, rfl⟩
          rw [hy, List.take_add_one, he, Option.toList_some, List.map_append, List.map_append, List.append_assoc]
          rfl
    · rintro ρ ⟨ys, T9, T10, T11, T12, hy, rfl⟩
      rw [List.length_map, List.take_length] at hy
      rw [hy]
      exact k _ _ _ _
  rcases hr with rfl | rfl
  · nofun
    exact fin
  · nofun
    exact fin
theorem moves3_ok {s : Bool} {f : Fate} {xs : List D} {S0 S1 S2 S8 S9 S10 S11 S12 S14 : Option S} {QS : Out × L3.Env → Prop} (hx : xs.length ≤ 100)
    (k : ∀ S14, QS (.nx, [S0, S1, S2, some (.d (sidesD C rs st.sd)), some (.d (ftD st.ft)), some (.own none (.lst (xs ++ [itD (itFate st s f)]))), some (.d (.int (sI s))), some (.d (sideD C (rs.get s) (st.sd.get s))), S8, S9, S10, S11, S12, some (.d (.str f.str)), S14])) :
    Ex (B_moves_3 C [S0, S1, S2, some (.d (sidesD C rs st.sd)), some (.d (ftD st.ft)), some (.own none (.lst xs)), some (.d (.int (sI s))), some (.d (sideD C (rs.get s) (st.sd.get s))), S8, S9, S10, S11, S12, some (.d (.str f.str)), S14]) QS := by
  unfold B_moves_3
  have hb : itD (itFate st s f) = .tup [.tup [.int 1, .int 1], .str f.str, .int (sI s), stK true ⟨true, true⟩ ⟨st.sd.put s (st.sd.get s).reset, st.ft.put (!s) f⟩] := by
    unfold itD itFate
    rw [st_bare]
  rw [hb] at k
  nofun
  refine replaced_ok (t := true) ?_
  nofun
  rw [put_fate]
  refine sreset_ok ?_
  nofun
  refine replacedL_ok ?_
  nofun
  refine stand_of2 (q := st.ft.put (!s) f) ?_
  nofun
  exact ⟨by omega, k _⟩
theorem moves4_ok {s : Bool} {xs : List D} {S0 S1 S2 S7 S8 S9 S10 S11 S12 S13 S14 : Option S} {QS : Out × L3.Env → Prop} (hx : xs.length ≤ 20) (h : OkT B rs st) (hp : ∀ s, ProgOk (rs.get s))
    (k : ∀ S7 S8 S9 S10 S11 S12 S13 S14, QS (.nx, [S0, S1, S2, some (.d (sidesD C rs st.sd)), some (.d (ftD st.ft)), some (.own none (.lst (xs ++ (sideT rs fl st s).map itD))), some (.d (.int (sI s))), S7, S8, S9, S10, S11, S12, S13, S14])) :
    Ex (B_moves_4 C [S0, S1, S2, some (.d (sidesD C rs st.sd)), some (.d (ftD st.ft)), some (.own none (.lst xs)), some (.d (.int (sI s))), S7, S8, S9, S10, S11, S12, S13, S14]) QS := by
  unfold B_moves_4
  nofun
  rw [at_side]
  nofun
  rw [at_side]
  nofun
  refine moves2_ok (fl := fl) (by omega) h hp fun T9 T10 T11 T12 => ?_
  have l2 := endsT_len (rm := rs.get s) (ro := rs.get !s) (s := st.sd.get s) (o := st.sd.get !s)
  have l3 := fatesT_len (rm := rs.get s) (s := st.sd.get s) (o := st.sd.get !s)
  unfold sideT at k
  rw [List.map_append, ← List.append_assoc] at k
  generalize hz : xs ++ List.map itD (List.map (itEnd fl st s) (endsT (rs.get s) (rs.get !s) (st.sd.get s) (st.sd.get !s))) = zs at k
  have lz : zs.length ≤ 50 := by rw [← hz, List.length_append, List.length_map, List.length_map]; omega
  nofun
  refine fates_ok (h.get s).ok fun r hr => ?_
  generalize fatesT (rs.get s) (st.sd.get s) (st.sd.get !s) = es at hr k l3
  have fin : ∀ {S14 : Option S}, Ex (loop (gN 13) (B_moves_3 C) (es.map fun f => .str f.str) [S0, S1, S2, some (.d (sidesD C rs st.sd)), some (.d (ftD st.ft)), some (.own none (.lst zs)), some (.d (.int (sI s))), some (.d (sideD C (rs.get s) (st.sd.get s))), some (.d (sideD C (rs.get !s) (st.sd.get !s))), T9, T10, T11, T12, S13, S14]) QS := by
    intro S14
    refine ex_loop _ (fun i ρ => ∃ ys S13 S14, ys = zs ++ ((es.take i).map (itFate st s)).map itD ∧ ρ = [S0, S1, S2, some (.d (sidesD C rs st.sd)), some (.d (ftD st.ft)), some (.own none (.lst ys)), some (.d (.int (sI s))), some (.d (sideD C (rs.get s) (st.sd.get s))), some (.d (sideD C (rs.get !s) (st.sd.get !s))), T9, T10, T11, T12, S13, S14]) ⟨_, _, _, by rw [List.take_zero, List.map_nil, List.map_nil, List.append_nil], rfl⟩ ?_ ?_
    · rintro i x ρ hxi ⟨ys, T13, T14, hy, rfl⟩
      rw [List.getElem?_map] at hxi
      cases he : es[i]? with
      | none => rw [he] at hxi; cases hxi
      | some e =>
        rw [he] at hxi
        cases hxi
        nofun
        refine moves3_ok (f := e) ?_ fun S12 => ?_
        · rw [hy, List.length_append, List.length_map, List.length_map, List.length_take]; omega
        · refine ⟨_, _, _, ?_, rfl⟩
          rw [hy, List.take_add_one, he, Option.toList_some, List.map_append, List.map_append, List.append_assoc]
          rfl
    · rintro ρ ⟨ys, T13, T14, hy, rfl⟩
      rw [List.length_map, List.take_length] at hy
      rw [hy]
      exact k _ _ _ _ _ _ _ _
  rcases hr with rfl | rfl
  · nofun
    exact fin
  · nofun
    exact fin
theorem smoves_ok {t : Bool} (h : OkT B rs st) (hp : ∀ s, ProgOk (rs.get s)) (k : Q (.n (.lst ((movesT rs fl st).map itD)), [])) : Ex (f_moves CP C [.v (progD CP rs.a), .v (progD CP rs.b), .v (stK t fl st)]) Q := by
  unfold f_moves B_moves
  nofun
  refine sides_of_ok h ?_
  nofun
  refine moves4_ok (s := false) (xs := []) (fl := fl) (st := st) (by decide) h hp fun T7 T8 T9 T10 T11 T12 T13 T14 => ?_
  nofun
  refine moves4_ok (s := true) (fl := fl) (st := st) ?_ h hp fun T7 T8 T9 T10 T11 T12 T13 T14 => ?_
  · rw [List.length_map]
    have := sideT_len (rs := rs) (fl := fl) (st := st) (s := false)
    omega
  nofun
  unfold movesT at k
  rw [List.map_append] at k
  exact k
end
end
section
section
variable {rs ro : List Row} {s o : Sd} {f g : Fate} {t u : Bool} {B : Int} {Q : Res × List D → Prop}
theorem hand_givenT (h : Hand) : kIn false (.str h.str) (.tup [.str "closed", .str "aborted", .str "cut"]) = some (.bl h.given) := by cases h <;> kernel_rfl
theorem hand_givenN (h : Hand) : kIn true (.str h.str) (.tup [.str "closed", .str "aborted", .str "cut"]) = some (.bl (!h.given)) := by cases h <;> kernel_rfl
theorem hand_givenO (h : Hand) : kIn true (.str h.str) (.tup [.str "open", .str "stopped"]) = some (.bl h.given) := by cases h <;> kernel_rfl
theorem hand_endedT (h : Hand) : kIn false (.str h.str) (.tup [.str "stopped", .str "closed", .str "cut"]) = some (.bl h.ended) := by cases h <;> kernel_rfl
theorem row_inRT (r : Row) : kIn false (.str r.word) (.tup [.str "read", .str "drain"]) = some (.bl r.isR) := by
  cases r with
  | one w => cases w <;> kernel_rfl
  | _ => kernel_rfl
def rowO : Option Row → D
  | none => .non
  | some r => rowD r
/-- the row of a side if it is a free call -/
def Sd.frow (rs : List Row) (s : Sd) : Option Row := if s.freeW rs || s.freeR rs then s.row rs else none
theorem frow_W (h : s.freeW rs = true) : ∃ a b, s.row rs = some (.write a b) ∧ s.frow rs = some (.write a b) ∧ s.left rs = some (a - s.part) := by
  have hf : s.frow rs = s.row rs := by unfold Sd.frow; rw [h, Bool.true_or, if_pos rfl]
  unfold Sd.freeW Sd.isW at h
  unfold Sd.left
  rw [hf]
  cases hr : s.row rs with
  | none => rw [hr] at h; simp at h
  | some r =>
    rw [hr] at h
    cases r with
    | write a b => exact ⟨a, b, rfl, rfl, rfl⟩
    | _ => simp [Row.isW] at h
theorem frow_R (h : s.freeR rs = true) : (∃ a e b, s.row rs = some (.read a e b) ∧ s.frow rs = some (.read a e b) ∧ s.left rs = some (a - s.part)) ∨ ∃ b, s.row rs = some (.drain b) ∧ s.frow rs = some (.drain b) ∧ s.left rs = none := by
  have hf : s.frow rs = s.row rs := by unfold Sd.frow; rw [h, Bool.or_true, if_pos rfl]
  unfold Sd.freeR Sd.isR at h
  unfold Sd.left
  rw [hf]
  cases hr : s.row rs with
  | none => rw [hr] at h; simp at h
  | some r =>
    rw [hr] at h
    cases r with
    | read a e b => exact .inl ⟨a, e, b, rfl, rfl, rfl⟩
    | drain b => exact .inr ⟨b, rfl, rfl, rfl⟩
    | _ => simp [Row.isR] at h
theorem rowO_n : rowO none = .non := rfl
theorem rowO_w {a b : Int} : rowO (some (.write a b)) = rowD (.write a b) := rfl
theorem rowO_r {a e b : Int} : rowO (some (.read a e b)) = rowD (.read a e b) := rfl
theorem rowO_d {b : Int} : rowO (some (.drain b)) = rowD (.drain b) := rfl
theorem isN_row {r : Row} : isN (rowD r) = false := by cases r <;> rfl
theorem gone_kept {x : Sd} (h : OkS B rs s) (e : s.gone rs false = some x) : x.told = s.told ∧ x.had = s.had ∧ x.part = 0 := by
  unfold Sd.gone at e
  split at e
  · cases e
  split at e
  · cases ha : s.answer rs false with
    | none => rw [ha] at e; cases e
    | some a =>
      rw [ha] at e
      cases e
      have hn : a ≠ .taken := by
        unfold Sd.answer at ha
        intro hz
        subst hz
        cases hg : s.hand.given <;> cases hn : s.news <;> cases hw : s.isW rs <;> simp only [hg, hn, hw, if_true, if_false, reduceCtorEq, Bool.false_eq_true] at ha <;> first | cases ha | (split at ha <;> cases ha)
      unfold Sd.answered
      dsimp only
      rw [h.p]
      cases s.row rs with
      | none => exact ⟨rfl, rfl, rfl⟩
      | some r =>
        refine ⟨?_, ?_, rfl⟩
        · cases r <;> cases a <;> first | rfl | exact absurd rfl hn
        · cases r <;> cases a <;> first | rfl | exact absurd rfl hn | exact Int.add_zero _
  · cases e
    unfold Sd.passed
    split
    · exact ⟨rfl, rfl, h.p⟩
    · exact ⟨rfl, rfl, h.p⟩
end
end
local macro_rules
  | `(tactic| nofun) => `(tactic| simp only [↓x_eC, intD_i, datR_d, strD_s, ↓x_eV, ↓x_oV, ↓x_oR, ↓x_fin, ↓x_finN, ↓x_e1, ↓x_e2, ↓x_eL, ↓x_nL, ↓x_aN, ↓x_aC, ↓x_resAll, ↓x_valsOf, ↓x_tV, ↓x_tNt, ↓x_tAn, ↓x_tOr, ↓x_tYs, ↓x_eIf, ↓x_eAnd, ↓x_eOr, ↓x_eNot, ↓x_eTup, ↓x_nLst, ↓x_eChain,
      ↓x_sNx, hand_givenT, hand_givenN, hand_givenO, hand_endedT, row_inRT, rowO_n, rowO_w, rowO_r, rowO_d, isN_row, pt_0, pt_1, pt_2, pt_3, pt_4, pt_5, pt_T, pt_c3, pt_d3, pt_c2, pt_c5, st_0, st_1, st_s, one_sub, hand_given, hand_ended, hand_hard, hand_open, hand_stopped, hand_closed, news_no, news_reset, news_told, ans_reset, ans_taken, ans_end, ans_te, ans_rb, row_isW, row_isWn, row_isRd, row_dr, row_inW, row_inR, row_inC, wd_verd, sd_isW, sd_isWn, sd_inW, sd_inR, sd_inC, isi_pos, row_ix0, Bool.not_eq_true', Bool.not_eq_false', row_w1, row_wl, row_r1, row_r2, row_rl, row_dl, rep_items, rW_w, rW_r, rW_d, rW_o, rR_w, rR_r, rR_d, rR_o, rC_w, rC_r, rC_d, rC_o, rDr_w, rDr_r, rDr_d, rDr_o, hg_opn, hg_stopped, hg_closed, hg_aborted, hg_cut, wv_stop, wv_close, wv_abort, wv_done, wv_fail, posD_at, posD_ov, kEq_ni, optI_n, optI_s, ansD_n, ansD_s, lf_pos, fS_listing, lS_listing, fS_row, lS_row, fS_hand, lS_hand, fS_heard, lS_heard, fS_part, lS_part, fS_told, lS_told, fS_had, lS_had, fS_replies, lS_replies, nS_after, nS_has_ended, nS_word, nS_has_given, nS_is_free, nS_left, nS_answered, nS_moved, nS_passed, nS_answer, nS_gone, nS_reset, fM_sides, lM_sides, fM_written, lM_written, fM_read, lM_read, fM_fates, lM_fates, nM_unread, nM_most_written, nM_most_read, nM_most_flown, nM_most, nM_moved, nM_gone, nM_reset, nM_after, nM_steps, nM_outcome, nM_stand, fR_programs, lR_programs, fR_limits, lR_limits, fR_moment, lR_moment, fR_past, lR_past, nR_possible, nR_do, nR_steps, nR_positions, nR_hands, nR_news, nR_counts, nR_stand, nR_answers, nR_history, nR_outcome, nR_undo, nR_copy, nR_trial, nR_tried, Option.isNone_none, ↓x_nDNew, ↓x_eDGet2O, ↓x_nMakeK, mrg_t, mrg_f, mrg_nil, ↓x_ePopO, ↓x_nKDsp, ↓x_sPutE, ↓x_nKc, ddD_d, ↓x_eKw, ↓x_eTGet, pair2_s, treIn, treNew, boxL, isBox, resT, ↓x_nDspM, ↓x_nMakeD, ↓x_sAug, ↓x_sPar3, three_3, dkOf_k, kwO_v, kStp3_t, lstD_l, ↓x_n2, anyItems_l, anyItems_t, anyItems_k, ↓x_sSeq, ↓x_sRet, ↓x_sRetN, ↓x_sRetO, ↓x_sIf, ↓x_sSet, ↓x_sSetN, ↓x_sOwn, ↓x_sAsg, ↓x_gN, ↓x_gTp, ↓x_gsN, ↓x_gsC, ↓x_sPar2, two_2, ↓x_sApp, ↓x_sPutD, ↓x_itV, ↓x_itT, ↓x_sFor, ↓x_nLc,
      ↓x_mkF, ↓x_callO, ↓x_eCall, ↓x_eMeth, ↓x_eProp, ↓x_nMake, ↓x_sFld, ↓x_loop_n, ↓x_loop_c, ↓x_dspN, ↓x_dspC, ↓x_kAddL, ↓x_kAddT, ↓x_eSl, ↓x_bN, ↓x_bS, ↓x_itZ, ↓x_itE, ↓x_eKGet, ↓x_aS, ↓x_eTupS, ↓x_nLstS, ↓x_valsApp, strO_s, dkD_k, seqItems_t, seqItems_kt, seqItems_l, ↓x_lcLoop_n, ↓x_lcLoop_c, ↓x_kMul, ↓x_kMod, ↓x_kPow,
      ex_some, ex_none, ex_bind, seqK_nx, seqK_br, seqK_ct, seqK_rt, seqK_rn, seqK_rr, brk_nx, brk_ct, brk_br, brk_rt, brk_rn, brk_rr, finR_d, finR_n, retO, dAt, ownAny, ownNew, ownL, ownK, ownIn, res_v, res_r, res_i, isVal_v, isVal_r, isVal_i, resAll_n, valsOf_n, int1, int2,
      wide_10, wide_2, kFld_hit, kSl_l, kSl_t, kIsi_ll, kIsi_tt, kIsN_n, kNotN_n, isN_n, isN_i, isN_s, isN_t, cutL_map, cutL_1, zipD_map, zipM_l, kList_l, kTuple_l, kTuple_t, isS, putFD_n, keyOf_i, keyOf_s, kSorted_k0, kSorted_dset, dset_len, tupItems_t, tupItems_kt, lstItems_l, lstItems_sc, lstOnly_l, oneOpd_1, resOf_rt, resOf_rn, resOf_nx, resL_n, resL_d, isNon_d, isCls_c, insOf_i, insOk_i, conts_v, conts_r, conts_i, strOk_s, blOk_b, lfo_l, lfo_k, lfo_i, kRev_l, kInX_t, kNotInX_t, kInX_p, kNotInX_p, kEq_pd, kNe_pd, kEq_pp, kNe_pp, kEq_i, kNe_i, kEq_b, kNe_b, kEq_pn, kEq_nn, kNe_nn, kNe_pn, kIx_p0, kIx_p1, tupItems_p, lf_pair, kAny_bls, kAll_bls, kSorted_pairs, kSorted_ints, lfs_ints, lfs_bls, lfs_pairs, kAdd_i, kSub_i, kLt_i, kLe_i, kGt_i, kGe_i, kNeg_i, kInt_i, kInt_b, kAbs_i, kMax_i, kMin_i, kLen_l, kLen_t, kLen_k, kLen_s, kIx_t, kIx_k, kIx_l, kIx_s, atI_0, atI_1, atI_2, atI_3, ixN_0, ixN_1, ixN_2, ixN_3, isOwn, allVal, lf, lfs, lff, lfk, wipeE, Nat.reduceBEq, entry, L3.collect, resD_d, resD_n, argsOf, putOuts, ios, okOs, hasRef, isRef,
      List.getElem?_cons_zero, List.getElem?_cons_succ, List.getElem?_nil, List.set_cons_zero, List.set_cons_succ, List.length_cons, List.length_nil, List.replicate_succ, List.replicate_zero, List.nil_append, List.cons_append, List.append_nil, List.map_cons, List.map_nil, List.any_cons, List.any_nil, List.all_cons, List.all_nil, List.nodup_cons, List.nodup_nil, List.not_mem_nil, List.contains_nil, List.contains_cons, List.take_succ_cons, List.take_zero, List.length_append, List.length_map,
      D.bl.injEq, Res.d.injEq, D.int.injEq, exists_eq_left', exists_eq_left, true_and, and_true, and_self, or_true, true_or, false_or, or_false, if_true, if_false, ite_true, ite_false, true_implies, false_implies, not_true_eq_false, not_false_eq_true, eq_self, beq_self_eq_true, Bool.true_beq, beq_true, Bool.false_beq, beq_false, Bool.not_not, decide_true, decide_false, decide_eq_true_eq, decide_eq_false_iff_not, Bool.and_true, Bool.true_and, Bool.and_self, Bool.not_true, Bool.not_false, Bool.or_self, Bool.false_or, Bool.or_false, Bool.true_or, Bool.or_true, Bool.and_false, Bool.false_and, Option.bind_some, Option.bind_none, Bool.false_eq_true, false_and, and_false, reduceCtorEq, Nat.reduceAdd, Nat.reduceSub, Nat.reduceLT, Nat.reduceLeDiff, Int.reduceLE, Int.reduceLT, Int.reduceNeg, Int.reduceToNat, Int.reducePow, Int.reduceMul, Int.reduceAdd, Int.reduceSub, reduceIte, forall_const, not_and, Bool.not_eq_true, Bool.not_eq_false])
section
section
variable {rs ro : List Row} {s o : Sd} {f g : Fate} {t u : Bool} {B : Int} {Q : Res × List D → Prop}
theorem mv_W {i a b : Int} (hp : s.pos = .at i) (h0 : s.part = 0) (hr : s.row rs = some (.write a b)) : s.moved rs ((s.left rs).getD 0) = { s with pos := .at (i + 1), told := s.told + a, rep := s.rep ++ [.taken] } := by
  obtain ⟨pos, hand, news, part, told, had, rep⟩ := s
  cases hp
  dsimp only at h0
  subst h0
  have hr' : ∀ p, Sd.row rs ⟨.at i, hand, news, p, told, had, rep⟩ = some (.write a b) := fun _ => hr
  unfold Sd.moved Sd.left Sd.more
  simp only [hr', Option.bind_some, Row.left, Int.sub_zero, Option.getD_some, Int.zero_add, Int.sub_self, if_true]
  unfold Sd.answered Sd.goal
  simp only [hr', Option.elim, Row.goal, Row.toldBy, Row.hadBy, reduceCtorEq, if_false]
theorem mv_R {i a e b : Int} (hp : s.pos = .at i) (h0 : s.part = 0) (hr : s.row rs = some (.read a e b)) : s.moved rs a = { s with pos := .at (i + 1), had := s.had + a, rep := s.rep ++ [.taken] } := by
  obtain ⟨pos, hand, news, part, told, had, rep⟩ := s
  cases hp
  dsimp only at h0
  subst h0
  have hr' : ∀ p, Sd.row rs ⟨.at i, hand, news, p, told, had, rep⟩ = some (.read a e b) := fun _ => hr
  unfold Sd.moved Sd.left Sd.more
  simp only [hr', Option.bind_some, Row.left, Int.sub_zero, Option.getD_some, Int.zero_add, Int.sub_self, if_true]
  unfold Sd.answered Sd.goal
  simp only [hr', Option.elim, Row.goal, Row.toldBy, Row.hadBy, reduceCtorEq, if_false]
theorem en_R {i a e b m : Int} (hp : s.pos = .at i) (hr : s.row rs = some (.read a e b)) : ({ s with part := m - s.had }).answered rs .ends = { s with pos := .at e, part := 0, had := m, rep := s.rep ++ [.ends] } := by
  obtain ⟨pos, hand, news, part, told, had, rep⟩ := s
  cases hp
  have hr' : ∀ p, Sd.row rs ⟨.at i, hand, news, p, told, had, rep⟩ = some (.read a e b) := fun _ => hr
  unfold Sd.answered Sd.goal
  simp only [hr', Option.elim, Row.goal, Row.toldBy, Row.hadBy, reduceCtorEq, if_false]
  rw [show had + (m - had) = m by omega]
theorem en_D {i b m : Int} (hp : s.pos = .at i) (hr : s.row rs = some (.drain b)) : ({ s with part := m - s.had }).answered rs .ends = { s with pos := .at (i + 1), part := 0, had := m, rep := s.rep ++ [.ends] } := by
  obtain ⟨pos, hand, news, part, told, had, rep⟩ := s
  cases hp
  have hr' : ∀ p, Sd.row rs ⟨.at i, hand, news, p, told, had, rep⟩ = some (.drain b) := fun _ => hr
  unfold Sd.answered Sd.goal
  simp only [hr', Option.elim, Row.goal, Row.toldBy, Row.hadBy, reduceCtorEq, if_false]
  rw [show had + (m - had) = m by omega]
theorem pos_row {r : Row} (hr : s.row rs = some r) : ∃ i, s.pos = .at i ∧ s.pos.isOver = false := by
  unfold Sd.row at hr
  cases hp : s.pos with
  | «at» i => exact ⟨i, rfl, rfl⟩
  | over w => rw [hp] at hr; cases hr
theorem free_gone (h : s.freeW rs = true ∨ s.freeR rs = true) : s.gone rs false = none := by
  unfold Sd.gone
  split
  · rfl
  split
  · have : s.answer rs false = none := by
      unfold Sd.answer
      rcases h with h | h
      · unfold Sd.freeW at h
        simp only [Bool.and_eq_true, Bool.not_eq_true', decide_eq_true_eq] at h
        obtain ⟨⟨⟨h1, h2⟩, h3⟩, h4⟩ := h
        rw [h2, h3, h1, h4]
        rfl
      · unfold Sd.freeR at h
        simp only [Bool.and_eq_true, Bool.not_eq_true', decide_eq_true_eq] at h
        obtain ⟨⟨h1, h2⟩, h3⟩ := h
        have hw : s.isW rs = false := by
          unfold Sd.isR at h1
          unfold Sd.isW
          cases hr : s.row rs with
          | none => rfl
          | some r => rw [hr] at h1; cases r <;> first | rfl | cases h1
        rw [h2, h3, hw]
        rfl
    rw [this]
    rfl
  · rename_i hc
    exfalso
    apply hc
    rcases h with h | h
    · obtain ⟨a, b, hr, _⟩ := frow_W h
      unfold Sd.isC
      rw [hr]
      rfl
    · rcases frow_R h with ⟨a, e, b, hr, _⟩ | ⟨b, hr, _⟩ <;> · unfold Sd.isC; rw [hr]; rfl
theorem bound_gone (ho : s.pos.isOver = false) (h : s.ok rs) (h1 : s.freeW rs = false) (h2 : s.freeR rs = false) : ∃ x, s.gone rs false = some x := by
  unfold Sd.gone
  rw [ho, if_neg (by decide)]
  split
  · rename_i hc
    cases ha : s.answer rs false with
    | some a => exact ⟨_, rfl⟩
    | none =>
      exfalso
      unfold Sd.answer at ha
      unfold Sd.freeW at h1
      unfold Sd.freeR at h2
      rcases Sd.split h with ⟨w, e1, e2, _⟩ | ⟨i, r, e1, e2, e3, _⟩
      · rw [e1] at ho; cases ho
      · unfold Sd.isC at hc
        unfold Sd.isW at h1 ha
        unfold Sd.isR at h2
        rw [e2] at hc h1 h2 ha
        simp only [Option.elim] at hc h1 h2 ha
        cases r with
        | one w => cases hc
        | write a b =>
          cases hh : s.hand <;> rw [hh] at ha h1 <;> cases hn : s.news <;> rw [hn] at ha h1 <;> simp [Hand.given, Row.isW] at ha h1
        | read a e b =>
          cases hh : s.hand <;> rw [hh] at ha h2 <;> cases hn : s.news <;> rw [hn] at ha h2 <;> simp [Hand.given, Row.isW, Row.isR] at ha h2
        | drain b =>
          cases hh : s.hand <;> rw [hh] at ha h2 <;> cases hn : s.news <;> rw [hn] at ha h2 <;> simp [Hand.given, Row.isW, Row.isR] at ha h2
  · exact ⟨_, rfl⟩
end
end
section
section
variable {rs : Two (List Row)} {rooms : Two (Option Int)} {st : Std} {fl : Two Bool} {f g : Fate} {t u s : Bool} {B : Int} {Q : Res × List D → Prop}
def RoomsOk (rooms : Two (Option Int)) : Prop := ∀ s r, rooms.get s = some r → 1 ≤ r
theorem fit1 {r : Option Int} (h : ∀ x, r = some x → 1 ≤ x) : fitT r 1 = true := by
  cases r with
  | none => rfl
  | some x => exact decide_eq_true (h x rfl)
theorem row_am1 {rs : List Row} {s : Sd} {r : Row} {a : Int} (hp : ProgOk rs) (hr : s.row rs = some r) (ha : r.amount = some a) : 1 ≤ a ∧ a ≤ 1000000000000000000 := by
  unfold Sd.row at hr
  cases hs : s.pos with
  | over w => rw [hs] at hr; cases hr
  | «at» i => rw [hs] at hr; exact (hp.rows _ _ hr).2 a ha
end
end
section
section
variable {C CP : Addr} {rs : Two (List Row)} {rooms : Two (Option Int)} {fl : Two Bool} {st : Std} {B : Int} {t : Bool} {Q : Res × List D → Prop}
theorem fits_ok {a b : Int} (k : Q (.d (.bl (fitT rooms.a a && fitT rooms.b b)), [])) : Ex (f_fits [.v (.tup [.int a, .int b]), .v (roomsD rooms)]) Q := by
  unfold f_fits B_fits
  obtain ⟨ra, rb⟩ := rooms
  have all2 : ∀ x y : Bool, kAll [.lst [.bl x, .bl y]] = some (.bl (x && y)) := fun x y => by
    have := kAll_bls [x, y]
    simp only [List.map_cons, List.map_nil, List.all_cons, List.all_nil, id, Bool.and_true] at this
    exact this
  nofun
  rw [zipM_t]
  unfold zipD
  simp only [List.zip_cons_cons, List.zip_nil_left, List.map_cons, List.map_nil]
  cases ra with
  | none =>
    cases rb with
    | none =>
      nofun
      simp only [putBack, keepD]
      nofun
      rw [all2]
      nofun
      first | exact k | (simp only [fitT, Bool.and_true, Bool.true_and, Bool.and_self] at k; exact k)
    | some y =>
      nofun
      simp only [putBack, keepD]
      nofun
      rw [all2]
      nofun
      first | exact k | (simp only [fitT, Bool.and_true, Bool.true_and, Bool.and_self] at k; exact k)
  | some x =>
    cases rb with
    | none =>
      nofun
      simp only [putBack, keepD]
      nofun
      rw [all2]
      nofun
      first | exact k | (simp only [fitT, Bool.and_true, Bool.true_and, Bool.and_self] at k; exact k)
    | some y =>
      nofun
      simp only [putBack, keepD]
      nofun
      rw [all2]
      nofun
      first | exact k | (simp only [fitT, Bool.and_true, Bool.true_and, Bool.and_self] at k; exact k)
theorem filterMap_if {α : Type} (p : α → Bool) : ∀ l : List α, l.filterMap (fun x => if p x then some x else none) = l.filter p
  | [] => rfl
  | x :: l => by
    rw [List.filterMap_cons, List.filter_cons, filterMap_if p l]
    cases p x <;> rfl
theorem moves_at_ok (h : OkT B rs st) (hp : ∀ s, ProgOk (rs.get s)) (k : Q (.n (.lst ((nextT rs rooms fl st).map itD2)), [])) : Ex (f_moves_at CP C [.v (progD CP rs.a), .v (progD CP rs.b), .v (roomsD rooms), .v (stK t fl st)]) Q := by
  unfold f_moves_at B_moves_at
  nofun
  refine smoves_ok h hp ?_
  nofun
  have l8 := movesT_len (rs := rs) (fl := fl) (st := st)
  refine ex_lcP (movesT rs fl st) itD (fun i => if i.fits rooms then some i else none) itD2 rfl (by rw [List.length_map]; omega) (fun i hi => ?_) fun ρ' hρ => ?_
  · nofun
    rw [show kIx (itD i) (.int 0) = some (.tup [.int i.least.a, .int i.least.b]) from rfl]
    nofun
    refine fits_ok ?_
    nofun
    rw [show kSl (some 1) none (itD i) = some (itD2 i) from rfl]
    nofun
    refine ⟨fun e => ?_, fun e => ?_⟩
    · refine ⟨i, ?_, rfl⟩
      unfold It.fits
      rw [e]; rfl
    · unfold It.fits
      rw [e]; rfl
  · rw [filterMap_if]
    nofun
    exact k
def nkPos : Pos → NestedKey
  | .at i => .num i
  | .over w => .text w.str
def nkP (s : Sd) (f : Fate) : NestedKey := .tup [nkPos s.pos, .text s.hand.str, .text s.news.str, .num s.told, .num s.had, .text f.str]
def nkS (st : Std) : NestedKey := .tup [nkP st.sd.a st.ft.a, nkP st.sd.b st.ft.b]
theorem nkD_pt {s : Sd} {f : Fate} : nkD (ptK t s f) = some (nkP s f) := by
  obtain ⟨pos, hand, news, part, told, had, rep⟩ := s
  cases t <;> cases pos <;> simp only [ptK, ptL, nkP, nkPos, posD, if_true, if_false, Bool.false_eq_true, nkD, nkDs, Option.bind_some, Option.map_some]
theorem nkD_st : nkD (stK t fl st) = some (nkS st) := by
  cases t <;> simp only [stK, twD, nkS, if_true, if_false, Bool.false_eq_true, nkD, nkDs, nkD_pt, Option.bind_some, Option.map_some]
theorem nk_depth : (nkS st).depth ≤ 8 := by
  unfold nkS nkP nkPos
  cases st.sd.a.pos <;> cases st.sd.b.pos <;> exact Nat.le_of_ble_eq_true rfl
theorem nkT_st : nkT (stK t fl st) = some (nkS st) := by
  unfold nkT
  rw [nkD_st]
  show (if (nkS st).depth ≤ 8 then some (nkS st) else none) = _
  rw [if_pos nk_depth]
/-- what a dict whose keys are stands is like, however their tuples are made -/
def sg (p : D × D) : Option PyData × Option NestedKey × D := (toPy p.1, nkT p.1, p.2)
theorem getE_any {ds : List (D × D)} {n : NestedKey} : (getE ds n).isSome = (ds.map sg).any fun q => decide (q.2.1 = some n) := by
  unfold getE
  rw [Option.isSome_map]
  induction ds with
  | nil => rfl
  | cons p ds ih =>
    rw [List.find?_cons, List.map_cons, List.any_cons, ← ih]
    show _ = (decide (nkT p.1 = some n) || _)
    cases decide (nkT p.1 = some n) <;> rfl
def putS (ds : List (D × D)) (d : D) : List (D × D) := putE ds d ((nkT d).getD (.tup [])) (.bl true)
def dedS (l : List D) : List (D × D) := l.foldl putS []
theorem dedS_snoc {l : List D} {d : D} : dedS (l ++ [d]) = putS (dedS l) d := by unfold dedS; rw [List.foldl_append]; rfl
theorem putE_len {ds : List (D × D)} {d v : D} {n : NestedKey} : (putE ds d n v).length ≤ ds.length + 1 := by
  unfold putE
  split
  · rw [List.length_map]; omega
  · rw [List.length_append]; exact Nat.le_refl _
theorem dedS_len (l : List D) : (dedS l).length ≤ l.length := by
  suffices H : ∀ (l : List D) (acc : List (D × D)), (l.foldl putS acc).length ≤ acc.length + l.length by
    have := H l []
    rw [List.length_nil, Nat.zero_add] at this
    exact this
  intro l
  induction l with
  | nil => intro acc; simp
  | cons d l ih =>
    intro acc
    rw [List.foldl_cons, List.length_cons]
    have := ih (putS acc d)
    have h2 : (putS acc d).length ≤ acc.length + 1 := putE_len
    omega
abbrev stP (i : It) : D := stK true ⟨true, true⟩ i.st
theorem next_stands_ok (h : OkT B rs st) (hp : ∀ s, ProgOk (rs.get s)) (k : Q (.n (.lst ((dedS ((nextT rs rooms fl st).map stP)).map (·.1))), [])) : Ex (f_next_stands CP C [.v (progD CP rs.a), .v (progD CP rs.b), .v (roomsD rooms), .v (stK t fl st)]) Q := by
  unfold f_next_stands B_next_stands
  nofun
  refine moves_at_ok h hp ?_
  nofun
  have l8 := nextT_len (rs := rs) (rooms := rooms) (fl := fl) (st := st)
  generalize nextT rs rooms fl st = is at k l8
  refine ex_kcI _ (fun i acc ρ => acc = dedS ((is.take i).map stP) ∧ ρ = [some (.d (progD CP rs.a)), some (.d (progD CP rs.b)), some (.d (roomsD rooms)), some (.d (stK t fl st)), none, none, none, none]) ⟨rfl, rfl⟩ ?_ ?_
  · rintro i x acc ρ hx ⟨hacc, rfl⟩
    rw [List.getElem?_map] at hx
    cases he : is[i]? with
    | none => rw [he] at hx; cases hx
    | some e =>
      rw [he] at hx
      cases hx
      unfold itD2
      nofun
      rw [nkT_st]
      nofun
      have l2 := dedS_len ((is.take i).map stP)
      rw [List.length_map, List.length_take] at l2
      refine ⟨by rw [hacc]; omega, ?_⟩
      rw [hacc, List.take_add_one, he, Option.toList_some, List.map_append, List.map_cons, List.map_nil, dedS_snoc]
      unfold putS
      rw [nkT_st]
      rfl
  · rintro acc ρ' ⟨hacc, hρ⟩
    rw [List.length_map, List.take_length] at hacc
    subst hacc
    rw [putBack_wipe (ρ := ρ') (ρ' := [some (.d (progD CP rs.a)), some (.d (progD CP rs.b)), some (.d (roomsD rooms)), some (.d (stK t fl st)), none, none, none, none]) (by rw [hρ]; rfl)]
    simp only [putBack, keepD]
    nofun
    rw [show kListX [.dd (dedS (is.map stP))] = some (.lst ((dedS (is.map stP)).map (·.1))) from rfl]
    nofun
    exact k
end
end
section
section
variable {rs : Two (List Row)} {rooms : Two (Option Int)} {fl : Two Bool} {st : Std} {B : Int} {t : Bool}
theorem bare_ok {rs : List Row} {s : Sd} (h : s.ok rs) : s.bare.ok rs := by
  unfold Sd.ok Sd.bare at *
  dsimp only
  cases hp : s.pos with
  | «at» i => rw [hp] at h; exact ⟨h.1, h.2.1, by have : 0 ≤ i := h.1; simpa using this⟩
  | over w => rw [hp] at h; exact ⟨h.1, by simp⟩
theorem ends_okS {rm ro : List Row} {s o : Sd} (h : OkS B rm s) (ho : OkS B ro o) (hp : ProgOk rm) : ∀ e ∈ endsT rm ro s o, OkS (B + 1000000000000000000) rm e.2.2.bare := by
  have b0 := h.t0
  have b1 := h.t1
  have b2 := h.h0
  have b3 := h.h1
  have b4 := ho.t0
  have b5 := ho.t1
  intro e he
  unfold endsT at he
  split at he
  · cases he
  rename_i hov
  have hov' : s.pos.isOver = false := by cases hc : s.pos.isOver <;> first | rfl | exact absurd hc hov
  cases hw : s.freeW rm with
  | true =>
    obtain ⟨a, b, e1, e2, e3⟩ := frow_W hw
    obtain ⟨i, hi, _⟩ := pos_row e1
    have ha := row_am1 hp e1 (a := a) rfl
    have hc := (freeW_left hw).1
    rw [free_gone (.inl hw)] at he
    dsimp only at he
    rw [if_pos (by unfold Sd.isW; rw [e1]; rfl)] at he
    rw [List.mem_singleton.mp he]
    have hv := moved_valid (k := (s.left rm).getD 0) h.ok hp hc
    rw [mv_W hi h.p e1] at hv ⊢
    exact ⟨bare_ok hv, h.p, rfl, by show 0 ≤ s.told + a; omega, by show s.told + a ≤ _; omega, b2, by show s.had ≤ _; omega⟩
  | false =>
    cases hf : s.freeR rm with
    | false =>
      obtain ⟨x, hx⟩ := bound_gone hov' h.ok hw hf
      obtain ⟨g1, g2, g3⟩ := gone_kept h hx
      rw [hx] at he
      dsimp only at he
      rw [List.mem_singleton.mp he]
      exact ⟨bare_ok (gone_valid h.ok hp hx), g3, rfl, by show 0 ≤ x.told; omega, by show x.told ≤ _; omega, by show 0 ≤ x.had; omega, by show x.had ≤ _; omega⟩
    | true =>
      have hc := freeR_call hf
      have hnw : ¬ s.isW rm = true := by
        unfold Sd.isW
        rcases frow_R hf with ⟨a, e, b, e1, _⟩ | ⟨b, e1, _⟩ <;> rw [e1] <;> exact Bool.false_ne_true
      rw [free_gone (.inr hf)] at he
      dsimp only at he
      rw [if_neg hnw] at he
      have hA := answered_valid (s := { s with part := o.told - s.had }) (a := .ends) h.ok hp hc
      unfold readsT at he
      rcases frow_R hf with ⟨a, e, b, e1, e2, e3⟩ | ⟨b, e1, e2, e3⟩
      · obtain ⟨i, hi, _⟩ := pos_row e1
        have ha := row_am1 hp e1 (a := a) rfl
        rw [h.p, Int.sub_zero] at e3
        rw [e3] at he
        dsimp only at he
        have hv := moved_valid (k := a) h.ok hp hc
        rw [mv_R hi h.p e1] at hv he
        rw [en_R hi e1] at hA he
        rw [List.mem_append] at he
        rcases he with he | he
        · split at he
          · rw [List.mem_singleton.mp he]
            exact ⟨bare_ok hv, h.p, rfl, b0, by show s.told ≤ _; omega, by show 0 ≤ s.had + a; omega, by show s.had + a ≤ _; omega⟩
          · cases he
        · split at he
          · rw [List.mem_singleton.mp he]
            exact ⟨bare_ok hA, rfl, rfl, b0, by show s.told ≤ _; omega, b4, by show o.told ≤ _; omega⟩
          · cases he
      · obtain ⟨i, hi, _⟩ := pos_row e1
        rw [e3] at he
        dsimp only at he
        rw [en_D hi e1] at hA he
        rw [List.nil_append] at he
        split at he
        · rw [List.mem_singleton.mp he]
          exact ⟨bare_ok hA, rfl, rfl, b0, by show s.told ≤ _; omega, b4, by show o.told ≤ _; omega⟩
        · cases he
theorem OkS.le {B C : Int} {rs : List Row} {s : Sd} (h : OkS B rs s) (l : B ≤ C) : OkS C rs s := ⟨h.ok, h.p, h.r, h.t0, Int.le_trans h.t1 l, h.h0, Int.le_trans h.h1 l⟩
theorem OkT.put {s : Bool} {x : Sd} {q : Two Fate} (h : OkT B rs st) (hx : OkS (B + 1000000000000000000) (rs.get s) x) : OkT (B + 1000000000000000000) rs ⟨st.sd.put s x, q⟩ := by
  cases s
  · exact ⟨hx, h.b.le (by omega)⟩
  · exact ⟨h.a.le (by omega), hx⟩
end
def wdL : List PySem.Str := ["open", "stopped", "closed", "aborted", "cut", "", "reset", "told", "wiped", "whole", "done", "fail", "stop", "close", "abort"]
end
section
structure Tr where
  s : Sd
  en : Bool
/-- one step of a side by itself: b tells whether a free read ends -/
def Tr.step (rs : List Row) (b : Bool) (x : Tr) : Option Tr := match x.s.gone rs false with
  | some s => some ⟨s.bare, x.en⟩
  | none => if x.s.isW rs then some ⟨(x.s.moved rs ((x.s.left rs).getD 0)).bare, x.en⟩ else if b then some ⟨(x.s.answered rs .ends).bare, true⟩ else some ⟨(x.s.moved rs ((x.s.left rs).getD 0)).bare, x.en⟩
def Tr.run (rs : List Row) (b : Bool) : Nat → Tr → Option Tr
  | 0, x => some x
  | n + 1, x => (Tr.run rs b n x).bind (Tr.step rs b)
def Tr.first : Tr := ⟨.first, false⟩
def Tr.reset (x : Tr) : Tr := ⟨x.s.reset, x.en⟩
def codeN (rs : List Row) (p : Nat × Nat) : Option Tr := (Tr.run rs false p.1 .first).bind (Tr.run rs true p.2)
def codeR (rs : List Row) (p : Nat × Nat × Nat) : Option Tr := (codeN rs (p.1, p.2.1)).bind fun y => Tr.run rs true p.2.2 y.reset
def idx2 : List (Nat × Nat) := (List.range 25).flatMap fun j => (List.range (25 - j)).map fun k => (j, k)
def idx3 : List (Nat × Nat × Nat) := (List.range 25).flatMap fun j => (List.range (25 - j)).flatMap fun k => (List.range (25 - j - k)).map fun m => (j, k, m)
theorem idx2_len : idx2.length = 325 := by decide +kernel
theorem idx3_len : idx3.length = 2925 := by decide +kernel
theorem idx2_mem {j k : Nat} (h : j + k ≤ 24) : (j, k) ∈ idx2 := by
  unfold idx2
  rw [List.mem_flatMap]
  exact ⟨j, List.mem_range.mpr (by omega), List.mem_map.mpr ⟨k, List.mem_range.mpr (by omega), rfl⟩⟩
theorem idx3_mem {j k m : Nat} (h : j + k + m ≤ 24) : (j, k, m) ∈ idx3 := by
  unfold idx3
  rw [List.mem_flatMap]
  refine ⟨j, List.mem_range.mpr (by omega), ?_⟩
  rw [List.mem_flatMap]
  exact ⟨k, List.mem_range.mpr (by omega), List.mem_map.mpr ⟨m, List.mem_range.mpr (by omega), rfl⟩⟩
def listN (rs : List Row) : List Tr := idx2.filterMap (codeN rs)
def listR (rs : List Row) : List Tr := idx3.filterMap (codeR rs)
theorem listN_len (rs : List Row) : (listN rs).length ≤ 325 := Nat.le_trans (List.length_filterMap_le ..) (Nat.le_of_eq idx2_len)
theorem listR_len (rs : List Row) : (listR rs).length ≤ 2925 := Nat.le_trans (List.length_filterMap_le ..) (Nat.le_of_eq idx3_len)
/-- the side that x tells, the other one having told so much -/
def Tr.sd (x : Tr) (told : Int) : Sd := { x.s with had := if x.en then told else x.s.had }
def pairT (f g : Fate) (x y : Tr) : Std := ⟨⟨x.sd y.s.told, y.sd x.s.told⟩, ⟨f, g⟩⟩
def prodT (f g : Fate) (l m : List Tr) : List Std := l.flatMap fun x => m.map fun y => pairT f g x y
theorem prodT_len (f g : Fate) (l m : List Tr) : (prodT f g l m).length = l.length * m.length := by
  unfold prodT
  induction l with
  | nil => simp
  | cons x l ih => rw [List.flatMap_cons, List.length_append, List.length_map, ih, List.length_cons, Nat.succ_mul, Nat.add_comm]
theorem prodT_mem {f g : Fate} {l m : List Tr} {x y : Tr} (hx : x ∈ l) (hy : y ∈ m) : pairT f g x y ∈ prodT f g l m := by
  unfold prodT
  rw [List.mem_flatMap]
  exact ⟨x, hx, List.mem_map.mpr ⟨y, hy, rfl⟩⟩
def allT (rs : Two (List Row)) : List Std :=
  prodT .no .no (listN rs.a) (listN rs.b) ++ (prodT .no .wiped (listR rs.a) (listN rs.b) ++ prodT .no .whole (listR rs.a) (listN rs.b)) ++ (prodT .wiped .no (listN rs.a) (listR rs.b) ++ prodT .whole .no (listN rs.a) (listR rs.b))
theorem mul_le {a b c d : Nat} (h : a ≤ c) (h2 : b ≤ d) : a * b ≤ c * d := Nat.mul_le_mul h h2
theorem allT_len (rs : Two (List Row)) : (allT rs).length ≤ 4000000 := by
  unfold allT
  simp only [List.length_append, prodT_len]
  have a1 := mul_le (listN_len rs.a) (listN_len rs.b)
  have a2 := mul_le (listR_len rs.a) (listN_len rs.b)
  have a3 := mul_le (listN_len rs.a) (listR_len rs.b)
  omega
/-- what a side was on its way, before any reset -/
def preL (rs : List Row) (p : Nat × Nat) : List Tr := (List.range (p.1 + 1)).filterMap (fun i => codeN rs (i, 0)) ++ (List.range (p.2 + 1)).filterMap fun i => codeN rs (p.1, i)
theorem preL_cur {rs : List Row} {j k : Nat} {x : Tr} (h : codeN rs (j, k) = some x) : x ∈ preL rs (j, k) := List.mem_append_right _ (List.mem_filterMap.mpr ⟨k, List.mem_range.mpr (by omega), h⟩)
theorem preL_k {rs : List Row} {j k : Nat} {u : Tr} (h : u ∈ preL rs (j, k)) : u ∈ preL rs (j, k + 1) := by
  unfold preL at h ⊢
  rcases List.mem_append.mp h with h | h
  · exact List.mem_append_left _ h
  · obtain ⟨i, hi, e⟩ := List.mem_filterMap.mp h
    have := List.mem_range.mp hi
    exact List.mem_append_right _ (List.mem_filterMap.mpr ⟨i, List.mem_range.mpr (by dsimp only at this ⊢; omega), e⟩)
theorem preL_j {rs : List Row} {j : Nat} {u : Tr} (h : u ∈ preL rs (j, 0)) : u ∈ preL rs (j + 1, 0) := by
  unfold preL at h ⊢
  refine List.mem_append_left _ ?_
  rcases List.mem_append.mp h with h | h
  · obtain ⟨i, hi, e⟩ := List.mem_filterMap.mp h
    have := List.mem_range.mp hi
    exact List.mem_filterMap.mpr ⟨i, List.mem_range.mpr (by dsimp only at this ⊢; omega), e⟩
  · obtain ⟨i, hi, e⟩ := List.mem_filterMap.mp h
    have := List.mem_range.mp hi
    have i0 : i = 0 := by dsimp only at this; omega
    subst i0
    exact List.mem_filterMap.mpr ⟨j, List.mem_range.mpr (by dsimp only; omega), e⟩
def InN (rs : List Row) (V : Tr → Prop) (n : Nat) (x : Tr) : Prop := ∃ j k, j + k = n ∧ (x.en = false → k = 0) ∧ codeN rs (j, k) = some x ∧ (∀ k' < k, ∀ y, codeN rs (j, k') = some y → y.s.pos.isOver = false) ∧ ∀ u, V u → u ∈ preL rs (j, k)
def InR (rs : List Row) (V : Tr → Prop) (n : Nat) (x : Tr) : Prop := ∃ j k m, j + k + m = n ∧ codeR rs (j, k, m) = some x ∧ (∀ m' < m, ∀ y, codeR rs (j, k, m') = some y → y.s.pos.isOver = false) ∧ ∀ u, V u → u ∈ preL rs (j, k)
theorem InN.cur {rs : List Row} {V : Tr → Prop} {n : Nat} {x : Tr} (h : InN rs V n x) : InN rs (fun u => V u ∨ u = x) n x := by
  obtain ⟨j, k, e, hk, hc, hb, hv⟩ := h
  exact ⟨j, k, e, hk, hc, hb, fun u hu => hu.elim (hv u) fun q => by rw [q]; exact preL_cur hc⟩
theorem InN.sub {rs : List Row} {V U : Tr → Prop} {n : Nat} {x : Tr} (hs : ∀ u, U u → V u) (h : InN rs V n x) : InN rs U n x := by
  obtain ⟨j, k, e, hk, hc, hb, hv⟩ := h
  exact ⟨j, k, e, hk, hc, hb, fun u hu => hv u (hs u hu)⟩
theorem InR.sub {rs : List Row} {V U : Tr → Prop} {n : Nat} {x : Tr} (hs : ∀ u, U u → V u) (h : InR rs V n x) : InR rs U n x := by
  obtain ⟨j, k, m, e, hc, hb, hv⟩ := h
  exact ⟨j, k, m, e, hc, hb, fun u hu => hv u (hs u hu)⟩
theorem run_snoc {rs : List Row} {b : Bool} {n : Nat} {x y z : Tr} (h : Tr.run rs b n x = some y) (h2 : Tr.step rs b y = some z) : Tr.run rs b (n + 1) x = some z := by
  show (Tr.run rs b n x).bind _ = _
  rw [h]
  exact h2
theorem InN.stepF {rs : List Row} {V : Tr → Prop} {n : Nat} {x y : Tr} (h : InN rs V n x) (he : x.en = false) (hs : Tr.step rs false x = some y) : InN rs V (n + 1) y := by
  obtain ⟨j, k, e, hk, hc, _, hv⟩ := h
  have k0 := hk he
  subst k0
  unfold codeN at hc
  cases hr : Tr.run rs false j .first with
  | none => rw [hr] at hc; cases hc
  | some z =>
    rw [hr] at hc
    cases hc
    refine ⟨j + 1, 0, by omega, fun _ => rfl, ?_, fun k' hk' => absurd hk' (by omega), fun u hu => preL_j (hv u hu)⟩
    unfold codeN
    dsimp only
    rw [run_snoc hr hs]
    rfl
theorem InN.stepT {rs : List Row} {V : Tr → Prop} {n : Nat} {x y : Tr} (h : InN rs V n x) (hy : y.en = true) (ho : x.s.pos.isOver = false) (hs : Tr.step rs true x = some y) : InN rs V (n + 1) y := by
  obtain ⟨j, k, e, _, hc, hb, hv⟩ := h
  have hc0 := hc
  unfold codeN at hc
  cases hr : Tr.run rs false j .first with
  | none => rw [hr] at hc; cases hc
  | some z =>
    rw [hr] at hc
    refine ⟨j, k + 1, by omega, (fun e => absurd (hy.symm.trans e) (by decide)), ?_, fun k' hk' y' hy' => ?_, fun u hu => preL_k (hv u hu)⟩
    · unfold codeN
      dsimp only
      rw [hr]
      exact run_snoc hc hs
    · by_cases c : k' < k
      · exact hb k' c y' hy'
      · have e2 : k' = k := by omega
        rw [e2, hc0] at hy'
        rw [← Option.some.inj hy']
        exact ho
theorem InN.reset {rs : List Row} {V : Tr → Prop} {n : Nat} {x : Tr} (h : InN rs V n x) : InR rs V n x.reset := by
  obtain ⟨j, k, e, _, hc, _, hv⟩ := h
  refine ⟨j, k, 0, by omega, ?_, fun m' hm' => absurd hm' (by omega), hv⟩
  unfold codeR
  dsimp only
  rw [hc]
  rfl
theorem InR.step {rs : List Row} {V : Tr → Prop} {n : Nat} {x y : Tr} (h : InR rs V n x) (ho : x.s.pos.isOver = false) (hs : Tr.step rs true x = some y) : InR rs V (n + 1) y := by
  obtain ⟨j, k, m, e, hc, hb, hv⟩ := h
  have hc0 := hc
  unfold codeR at hc
  dsimp only at hc
  cases hr : codeN rs (j, k) with
  | none => rw [hr] at hc; cases hc
  | some z =>
    rw [hr] at hc
    refine ⟨j, k, m + 1, by omega, ?_, fun k' hk' y' hy' => ?_, hv⟩
    · unfold codeR
      dsimp only
      rw [hr]
      exact run_snoc hc hs
    · by_cases c : k' < m
      · exact hb k' c y' hy'
      · have e2 : k' = m := by omega
        rw [e2, hc0] at hy'
        rw [← Option.some.inj hy']
        exact ho
theorem InN.mem {rs : List Row} {V : Tr → Prop} {n : Nat} {x : Tr} (h : InN rs V n x) (hn : n ≤ 24) : x ∈ listN rs := by
  obtain ⟨j, k, e, _, hc, _⟩ := h
  exact List.mem_filterMap.mpr ⟨(j, k), idx2_mem (by omega), hc⟩
theorem InR.mem {rs : List Row} {V : Tr → Prop} {n : Nat} {x : Tr} (h : InR rs V n x) (hn : n ≤ 24) : x ∈ listR rs := by
  obtain ⟨j, k, m, e, hc, _⟩ := h
  exact List.mem_filterMap.mpr ⟨(j, k, m), idx3_mem (by omega), hc⟩
theorem gone_had {rs : List Row} {s x : Sd} {h : Int} (h0 : s.part = 0) (e : Sd.gone rs false { s with had := h } = some x) : ∃ y, s.gone rs false = some y ∧ x = { y with had := h } ∧ y.had = s.had := by
  obtain ⟨pos, hand, news, part, told, had, rep⟩ := s
  dsimp only at h0 e
  subst h0
  unfold Sd.gone at e ⊢
  have hr : ∀ p t h rp, Sd.row rs ⟨pos, hand, news, p, t, h, rp⟩ = Sd.row rs ⟨pos, hand, news, 0, told, had, rep⟩ := fun _ _ _ _ => rfl
  have hc : Sd.isC rs ⟨pos, hand, news, 0, told, h, rep⟩ = Sd.isC rs ⟨pos, hand, news, 0, told, had, rep⟩ := rfl
  have ha : Sd.answer rs false ⟨pos, hand, news, 0, told, h, rep⟩ = Sd.answer rs false ⟨pos, hand, news, 0, told, had, rep⟩ := rfl
  rw [hc, ha] at e
  dsimp only at e ⊢
  split at e
  · cases e
  rename_i ho
  rw [if_neg ho]
  split at e
  · rename_i hcc
    rw [if_pos hcc]
    cases hz : Sd.answer rs false ⟨pos, hand, news, 0, told, had, rep⟩ with
    | none => rw [hz] at e; cases e
    | some a =>
      rw [hz] at e
      cases e
      refine ⟨_, rfl, ?_⟩
      unfold Sd.answered Sd.goal
      dsimp only
      rw [hr 0 told h rep]
      cases Sd.row rs ⟨pos, hand, news, 0, told, had, rep⟩ with
      | none => exact ⟨rfl, rfl⟩
      | some r => cases r <;> cases a <;> simp [Row.hadBy]
  · rename_i hcc
    rw [if_neg hcc]
    cases e
    refine ⟨_, rfl, ?_⟩
    unfold Sd.passed
    dsimp only
    rw [hr 0 told h rep]
    split <;> exact ⟨rfl, rfl⟩
theorem an_R {rs : List Row} {s : Sd} {i a e b : Int} (hp : s.pos = .at i) (h0 : s.part = 0) (hr : s.row rs = some (.read a e b)) : (s.answered rs .ends).bare = { s with pos := .at e, rep := [] } := by
  obtain ⟨pos, hand, news, part, told, had, rep⟩ := s
  cases hp
  dsimp only at h0
  subst h0
  unfold Sd.answered Sd.goal Sd.bare
  simp only [hr, Option.elim, Row.goal, Row.toldBy, Row.hadBy, reduceCtorEq, if_false, Int.add_zero]
theorem an_D {rs : List Row} {s : Sd} {i b : Int} (hp : s.pos = .at i) (h0 : s.part = 0) (hr : s.row rs = some (.drain b)) : (s.answered rs .ends).bare = { s with pos := .at (i + 1), rep := [] } := by
  obtain ⟨pos, hand, news, part, told, had, rep⟩ := s
  cases hp
  dsimp only at h0
  subst h0
  unfold Sd.answered Sd.goal Sd.bare
  simp only [hr, Option.elim, Row.goal, Row.toldBy, Row.hadBy, reduceCtorEq, if_false, Int.add_zero]
/-- each end of a row is a step of the side by itself -/
theorem ends_tr {rm ro : List Row} {s o : Sd} {x : Tr} {B : Int} (h : OkS B rm s) (hp : ProgOk rm) (hx : s = x.sd o.told) (hen : x.en = true → o.hand.ended = true) : ∀ e ∈ endsT rm ro s o, ∃ x' b, Tr.step rm b x = some x' ∧ e.2.2.bare = x'.sd o.told ∧ (x'.en = true → o.hand.ended = true) ∧ (b = false → x.en = false) ∧ (b = true → x'.en = true) ∧ (x.s.told ≤ x'.s.told ∧ x'.s.told ≤ x.s.told + 1000000000000000000) ∧ x'.s.had ≤ x.s.had + 1000000000000000000 ∧ x'.s.news = e.2.2.news := by
  intro e he
  obtain ⟨xs, en⟩ := x
  have xp : xs.part = 0 := by have := h.p; rw [hx] at this; exact this
  have bb : ∀ {b : Bool}, (b = false → en = false) ∨ True := fun {_} => .inr trivial
  unfold endsT at he
  split at he
  · cases he
  rename_i hov
  have hov' : s.pos.isOver = false := by cases hc : s.pos.isOver <;> first | rfl | exact absurd hc hov
  have fW : xs.freeW rm = s.freeW rm := by rw [hx]; rfl
  have fR : xs.freeR rm = s.freeR rm := by rw [hx]; rfl
  have rw' : xs.row rm = s.row rm := by rw [hx]; rfl
  have ps : xs.pos = s.pos := by rw [hx]; rfl
  have iw : xs.isW rm = s.isW rm := by rw [hx]; rfl
  cases hw : s.freeW rm with
  | true =>
    obtain ⟨a, b, e1, e2, e3⟩ := frow_W hw
    obtain ⟨i, hi, _⟩ := pos_row e1
    have ha := row_am1 hp e1 (a := a) rfl
    have hW : s.isW rm = true := by unfold Sd.isW; rw [e1]; rfl
    rw [free_gone (.inl hw)] at he
    dsimp only at he
    rw [if_pos hW] at he
    rw [List.mem_singleton.mp he]
    have m1 := mv_W hi h.p e1
    have m2 := mv_W (ps.trans hi) xp (rw'.trans e1)
    refine ⟨⟨(xs.moved rm ((xs.left rm).getD 0)).bare, en⟩, en, ?_, ?_, hen, id, id, ?_, ?_, ?_⟩
    · unfold Tr.step
      dsimp only
      rw [free_gone (.inl (fW.trans hw))]
      dsimp only
      rw [if_pos (iw.trans hW)]
    · dsimp only
      rw [m1, m2, hx]
      rfl
    · dsimp only
      rw [m2]
      exact ⟨by show xs.told ≤ xs.told + a; omega, by show xs.told + a ≤ _; omega⟩
    · dsimp only
      rw [m2]
      show xs.had ≤ _
      omega
    · dsimp only
      rw [m1, m2, hx]
      rfl
  | false =>
    cases hf : s.freeR rm with
    | false =>
      obtain ⟨z, hz⟩ := bound_gone hov' h.ok hw hf
      obtain ⟨g1, g2, g3⟩ := gone_kept h hz
      rw [hz] at he
      dsimp only at he
      rw [List.mem_singleton.mp he]
      rw [hx] at hz
      obtain ⟨y, hy, hzy, hyh⟩ := gone_had (s := xs) xp hz
      refine ⟨⟨y.bare, en⟩, en, ?_, ?_, hen, id, id, ?_, ?_, ?_⟩
      · unfold Tr.step
        dsimp only
        rw [hy]
      · dsimp only
        rw [hzy]
        cases en
        · show _ = ({ y.bare with had := y.bare.had } : Sd)
          rw [show y.bare.had = xs.had from hyh]
          rfl
        · rfl
      · have : y.told = xs.told := by rw [hzy, hx] at g1; exact g1
        exact ⟨by show xs.told ≤ y.told; omega, by show y.told ≤ xs.told + _; omega⟩
      · show y.had ≤ xs.had + _
        omega
      · dsimp only
        rw [hzy]
        rfl
    | true =>
      have hnw : ¬ s.isW rm = true := by
        unfold Sd.isW
        rcases frow_R hf with ⟨a, e, b, e1, _⟩ | ⟨b, e1, _⟩ <;> rw [e1] <;> exact Bool.false_ne_true
      rw [free_gone (.inr hf)] at he
      dsimp only at he
      rw [if_neg hnw] at he
      have gx : xs.gone rm false = none := free_gone (.inr (fR.trans hf))
      have nx : ¬ xs.isW rm = true := by rw [iw]; exact hnw
      unfold readsT at he
      rcases frow_R hf with ⟨a, e, b, e1, e2, e3⟩ | ⟨b, e1, e2, e3⟩
      · obtain ⟨i, hi, _⟩ := pos_row e1
        have ha := row_am1 hp e1 (a := a) rfl
        have ex1 := rw'.trans e1
        have exl : xs.left rm = some a := by unfold Sd.left; rw [ex1, xp]; exact congrArg some (Int.sub_zero a)
        rw [h.p, Int.sub_zero] at e3
        rw [e3] at he
        dsimp only at he
        have m1 := mv_R hi h.p e1
        have m2 := mv_R (ps.trans hi) xp ex1
        rw [List.mem_append] at he
        rcases he with he | he
        · split at he
          · rename_i hle
            rw [List.mem_singleton.mp he]
            have en0 : en = false := by
              cases en with
              | false => rfl
              | true =>
                exfalso
                have oe := hen rfl
                have sh : s.had = o.told := by rw [hx]; rfl
                have nf : o.freeW ro = false := by
                  unfold Sd.freeW
                  cases hh : o.hand <;> rw [hh] at oe <;> first | (simp; done) | cases oe
                unfold Sd.mW at hle
                rw [nf, if_neg (by decide)] at hle
                omega
            subst en0
            refine ⟨⟨(xs.moved rm ((xs.left rm).getD 0)).bare, false⟩, false, ?_, ?_, hen, fun _ => rfl, (fun e => by cases e), ?_, ?_, ?_⟩
            · unfold Tr.step
              dsimp only
              rw [gx]
              dsimp only
              rw [if_neg nx, if_neg (by decide)]
            · dsimp only
              rw [exl, Option.getD_some, m1, m2, hx]
              rfl
            · dsimp only
              rw [exl, Option.getD_some, m2]
              exact ⟨Int.le_refl _, by show xs.told ≤ xs.told + _; omega⟩
            · dsimp only
              rw [exl, Option.getD_some, m2]
              show xs.had + a ≤ xs.had + _
              omega
            · dsimp only
              rw [exl, Option.getD_some, m1, m2, hx]
              rfl
          · cases he
        · split at he
          · rename_i hle
            rw [Bool.and_eq_true] at hle
            rw [List.mem_singleton.mp he]
            have m3 := an_R (ps.trans hi) xp ex1
            have m4 := en_R (m := o.told) hi e1
            refine ⟨⟨(xs.answered rm .ends).bare, true⟩, true, ?_, ?_, fun _ => hle.1, (fun e => by cases e), fun _ => rfl, ?_, ?_, ?_⟩
            · unfold Tr.step
              dsimp only
              rw [gx]
              dsimp only
              rw [if_neg nx, if_pos rfl]
            · dsimp only
              rw [m3, m4, hx, ← xp]
              rfl
            · dsimp only
              rw [m3]
              exact ⟨Int.le_refl _, by show xs.told ≤ xs.told + _; omega⟩
            · dsimp only
              rw [m3]
              show xs.had ≤ xs.had + _
              omega
            · dsimp only
              rw [m3, m4, hx]
              rfl
          · cases he
      · obtain ⟨i, hi, _⟩ := pos_row e1
        have ex1 := rw'.trans e1
        rw [e3] at he
        dsimp only at he
        rw [List.nil_append] at he
        split at he
        · rename_i hle
          rw [Bool.and_eq_true] at hle
          rw [List.mem_singleton.mp he]
          have m3 := an_D (ps.trans hi) xp ex1
          have m4 := en_D (m := o.told) hi e1
          refine ⟨⟨(xs.answered rm .ends).bare, true⟩, true, ?_, ?_, fun _ => hle.1, (fun e => by cases e), fun _ => rfl, ?_, ?_, ?_⟩
          · unfold Tr.step
            dsimp only
            rw [gx]
            dsimp only
            rw [if_neg nx, if_pos rfl]
          · dsimp only
            rw [m3, m4, hx, ← xp]
            rfl
          · dsimp only
            rw [m3]
            exact ⟨Int.le_refl _, by show xs.told ≤ xs.told + _; omega⟩
          · dsimp only
            rw [m3]
            show xs.had ≤ xs.had + _
            omega
          · dsimp only
            rw [m3, m4, hx]
            rfl
        · cases he
def PosLe (rs : List Row) (p : Pos) (n : Nat) : Prop := match p with
  | .at i => (n : Int) ≤ i
  | .over _ => n ≤ rs.length
def InS (rs : List Row) (V : Tr → Prop) (s : Sd) (n : Nat) (x : Tr) : Prop := if s.news = .no then InN rs V n x else InR rs V n x
structure Way (rs : List Row) (V : Tr → Prop) (s o : Sd) (n : Nat) (x : Tr) : Prop where
  sd : s = x.sd o.told
  en : x.en = true → o.hand.ended = true
  i : InS rs V s n x
  p : PosLe rs s.pos n
  t : x.s.told ≤ 1000000000000000000 * n
  h : x.s.had ≤ 1000000000000000000 * n
/-- a stand that may be met, V holding of what its sides were on some way to it -/
structure MetV (rs : Two (List Row)) (V : Bool → Tr → Prop) (st : Std) : Prop where
  ok : OkT 24000000000000000000 rs st
  w : ∀ s, ∃ n x, Way (rs.get s) (V s) (st.sd.get s) (st.sd.get !s) n x
  r : ∀ s, (st.sd.get s).news ≠ .no → (st.sd.get !s).hand.given = true ∧ (st.sd.get !s).news = .no ∧ st.ft.get (!s) ≠ .no
  f : ∀ s, (st.sd.get s).news = .no → st.ft.get (!s) = .no
abbrev noV : Bool → Tr → Prop := fun _ _ => False
abbrev Met (rs : Two (List Row)) (st : Std) : Prop := MetV rs noV st
theorem Way.sub {rs : List Row} {V U : Tr → Prop} {s o : Sd} {n : Nat} {x : Tr} (hs : ∀ u, U u → V u) (h : Way rs V s o n x) : Way rs U s o n x := by
  refine ⟨h.sd, h.en, ?_, h.p, h.t, h.h⟩
  have hi := h.i
  unfold InS at hi ⊢
  by_cases c : s.news = .no
  · rw [if_pos c] at hi ⊢; exact hi.sub hs
  · rw [if_neg c] at hi ⊢; exact hi.sub hs
theorem MetV.sub {rs : Two (List Row)} {V U : Bool → Tr → Prop} {st : Std} (hs : ∀ s u, U s u → V s u) (h : MetV rs V st) : MetV rs U st := ⟨h.ok, fun s => by obtain ⟨n, x, w⟩ := h.w s; exact ⟨n, x, w.sub (hs s)⟩, h.r, h.f⟩
theorem MetV.met {rs : Two (List Row)} {V : Bool → Tr → Prop} {st : Std} (h : MetV rs V st) : Met rs st := h.sub fun _ _ q => q.elim
theorem pos_24 {rs : List Row} {s : Sd} {n : Nat} (hp : ProgOk rs) (h : s.ok rs) (hn : PosLe rs s.pos n) : n ≤ 24 := by
  have := hp.l2
  unfold PosLe at hn
  unfold Sd.ok at h
  cases hs : s.pos with
  | «at» i => rw [hs] at hn h; obtain ⟨_, h2, _⟩ := h; dsimp only at hn; omega
  | over w => rw [hs] at hn; dsimp only at hn; omega
theorem InS.memN {rs : List Row} {V : Tr → Prop} {s : Sd} {n : Nat} {x : Tr} (h : InS rs V s n x) (hn : n ≤ 24) (e : s.news = .no) : x ∈ listN rs := by
  unfold InS at h
  rw [if_pos e] at h
  exact h.mem hn
theorem InS.memR {rs : List Row} {V : Tr → Prop} {s : Sd} {n : Nat} {x : Tr} (h : InS rs V s n x) (hn : n ≤ 24) (e : s.news ≠ .no) : x ∈ listR rs := by
  unfold InS at h
  rw [if_neg e] at h
  exact h.mem hn
theorem met_all {rs : Two (List Row)} {st : Std} (h : Met rs st) (hp : ∀ s, ProgOk (rs.get s)) : st ∈ allT rs := by
  obtain ⟨n, x, wx⟩ := h.w false
  obtain ⟨m, y, wy⟩ := h.w true
  have n24 := pos_24 (hp false) h.ok.a.ok wx.p
  have m24 := pos_24 (hp true) h.ok.b.ok wy.p
  have e1 : st.sd.a = x.sd st.sd.b.told := wx.sd
  have e2 : st.sd.b = y.sd st.sd.a.told := wy.sd
  have t1 : st.sd.a.told = x.s.told := by rw [e1]; rfl
  have t2 : st.sd.b.told = y.s.told := by rw [e2]; rfl
  have es : st = pairT st.ft.a st.ft.b x y := by
    obtain ⟨⟨a, b⟩, ⟨f, g⟩⟩ := st
    unfold pairT
    dsimp only at e1 e2 t1 t2 ⊢
    rw [← t2, ← t1, ← e1, ← e2]
  have fN : st.sd.a.news = .no → st.ft.b = .no := h.f false
  have gN : st.sd.b.news = .no → st.ft.a = .no := h.f true
  have rA : st.sd.a.news ≠ .no → st.sd.b.hand.given = true ∧ st.sd.b.news = .no ∧ st.ft.b ≠ .no := h.r false
  have rB : st.sd.b.news ≠ .no → st.sd.a.hand.given = true ∧ st.sd.a.news = .no ∧ st.ft.a ≠ .no := h.r true
  rw [es]
  unfold allT
  simp only [List.mem_append]
  by_cases ca : st.sd.a.news = .no
  · by_cases cb : st.sd.b.news = .no
    · rw [fN ca, gN cb]
      exact .inl (.inl (prodT_mem (wx.i.memN n24 ca) (wy.i.memN m24 cb)))
    · rw [fN ca]
      have := (rB cb).2.2
      cases hf : st.ft.a with
      | no => exact absurd hf this
      | wiped => exact .inr (.inl (prodT_mem (wx.i.memN n24 ca) (wy.i.memR m24 cb)))
      | whole => exact .inr (.inr (prodT_mem (wx.i.memN n24 ca) (wy.i.memR m24 cb)))
  · have q := rA ca
    rw [gN q.2.1]
    cases hf : st.ft.b with
    | no => exact absurd hf q.2.2
    | wiped => exact .inl (.inr (.inl (prodT_mem (wx.i.memR n24 ca) (wy.i.memN m24 q.2.1))))
    | whole => exact .inl (.inr (.inr (prodT_mem (wx.i.memR n24 ca) (wy.i.memN m24 q.2.1))))
theorem first_okT0 {rs : Two (List Row)} (hp : ∀ s, ProgOk (rs.get s)) : OkT 0 rs ⟨⟨.first, .first⟩, ⟨.no, .no⟩⟩ := by
  have one : ∀ l, ProgOk l → OkS 0 l .first := fun l h => ⟨by have := h.l1; exact ⟨by decide, by show (0 : Int) < l.length; omega, by decide⟩, rfl, rfl, by decide, by decide, by decide, by decide⟩
  exact ⟨one _ (hp false), one _ (hp true)⟩
theorem met_first {rs : Two (List Row)} (hp : ∀ s, ProgOk (rs.get s)) : Met rs ⟨⟨.first, .first⟩, ⟨.no, .no⟩⟩ := by
  refine ⟨⟨(first_okT0 hp).a.le (by decide), (first_okT0 hp).b.le (by decide)⟩, fun s => ⟨0, .first, ?_⟩, fun s e => ?_, fun s _ => by cases s <;> rfl⟩
  · have : ∀ l, InN l (fun _ => False) 0 .first := fun l => ⟨0, 0, rfl, fun _ => rfl, rfl, fun k' hk' => absurd hk' (by omega), fun u hu => hu.elim⟩
    cases s
    · exact ⟨rfl, (fun e => by cases e), by unfold InS; exact (if_pos rfl).mpr (this _), by unfold PosLe; exact Int.le_refl _, by decide, by decide⟩
    · exact ⟨rfl, (fun e => by cases e), by unfold InS; exact (if_pos rfl).mpr (this _), by unfold PosLe; exact Int.le_refl _, by decide, by decide⟩
  · cases s <;> exact absurd rfl e
theorem gone_facts {rm : List Row} {s y : Sd} {n : Nat} (h : s.ok rm) (hp : ProgOk rm) (hn : PosLe rm s.pos n) (e : s.gone rm false = some y) : (y.news = .no ↔ s.news = .no) ∧ PosLe rm y.pos (n + 1) ∧ (s.hand.ended = true → y.hand.ended = true) ∧ (s.hand.given = true → y.hand.given = true) := by
  unfold Sd.gone at e
  split at e
  · cases e
  rename_i ho
  rcases Sd.split h with ⟨w, h1, _⟩ | ⟨i, r, h1, h2, h3, h4, h5, h6, _⟩
  · rw [h1] at ho; exact absurd rfl ho
  rw [h1] at hn
  unfold PosLe at hn
  dsimp only at hn
  split at e
  · rename_i hc
    have hrc : r.isC = true := by unfold Sd.isC at hc; rw [h2] at hc; exact hc
    cases ha : s.answer rm false with
    | none => rw [ha] at e; cases e
    | some a =>
      rw [ha] at e
      cases e
      have gb := goal_bd (a := a) hp h4 h5 h6 hrc
      refine ⟨?_, ?_, id, id⟩
      · unfold Sd.answered
        dsimp only
        split
        · rename_i hz
          subst hz
          unfold Sd.answer at ha
          constructor
          · intro q; cases q
          · intro q
            rw [q] at ha
            cases hg : s.hand.given <;> cases hw : s.isW rm <;> simp only [hg, hw, if_true, if_false, reduceCtorEq, Bool.false_eq_true] at ha <;> first | cases ha | (split at ha <;> cases ha)
        · exact Iff.rfl
      · unfold Sd.answered Sd.goal
        rw [h2, h1]
        show ((n + 1 : Nat) : Int) ≤ r.goal i a
        have := gb.1
        omega
  · rename_i hcc
    cases e
    unfold Sd.passed
    rw [h1, h2]
    cases r with
    | one w =>
      refine ⟨Iff.rfl, ?_, ?_, ?_⟩
      · dsimp only
        cases w.isV
        · show ((n + 1 : Nat) : Int) ≤ i + 1
          omega
        · show n + 1 ≤ rm.length
          omega
      · dsimp only
        cases s.hand <;> cases w <;> intro q <;> first | rfl | cases q
      · dsimp only
        cases s.hand <;> cases w <;> intro q <;> first | rfl | cases q
    | _ => exact absurd (show s.isC rm = true by unfold Sd.isC; rw [h2]; rfl) hcc
theorem ends_facts {rm ro : List Row} {s o : Sd} {n : Nat} {B : Int} (h : OkS B rm s) (hp : ProgOk rm) (hn : PosLe rm s.pos n) : ∀ e ∈ endsT rm ro s o, (e.2.2.news = .no ↔ s.news = .no) ∧ PosLe rm e.2.2.pos (n + 1) ∧ (s.hand.ended = true → e.2.2.hand.ended = true ∧ e.2.2.told = s.told) ∧ (s.hand.given = true → e.2.2.hand.given = true) := by
  intro e he
  unfold endsT at he
  split at he
  · cases he
  rename_i hov
  have hov' : s.pos.isOver = false := by cases hc : s.pos.isOver <;> first | rfl | exact absurd hc hov
  cases hw : s.freeW rm with
  | true =>
    obtain ⟨a, b, e1, e2, e3⟩ := frow_W hw
    obtain ⟨i, hi, _⟩ := pos_row e1
    have hW : s.isW rm = true := by unfold Sd.isW; rw [e1]; rfl
    rw [free_gone (.inl hw)] at he
    dsimp only at he
    rw [if_pos hW] at he
    rw [List.mem_singleton.mp he]
    have ho : s.hand = .opn := by
      unfold Sd.freeW at hw
      simp only [Bool.and_eq_true, decide_eq_true_eq] at hw
      exact hw.2
    rw [hi] at hn
    unfold PosLe at hn
    dsimp only at hn
    rw [mv_W hi h.p e1]
    refine ⟨Iff.rfl, ?_, ?_, ?_⟩
    · show ((n + 1 : Nat) : Int) ≤ i + 1
      omega
    · intro q; rw [ho] at q; cases q
    · intro q; rw [ho] at q; cases q
  | false =>
    cases hf : s.freeR rm with
    | false =>
      obtain ⟨z, hz⟩ := bound_gone hov' h.ok hw hf
      obtain ⟨g1, _, _⟩ := gone_kept h hz
      obtain ⟨f1, f2, f3, f4⟩ := gone_facts h.ok hp hn hz
      rw [hz] at he
      dsimp only at he
      rw [List.mem_singleton.mp he]
      exact ⟨f1, f2, fun q => ⟨f3 q, g1⟩, f4⟩
    | true =>
      have hnw : ¬ s.isW rm = true := by
        unfold Sd.isW
        rcases frow_R hf with ⟨a, e, b, e1, _⟩ | ⟨b, e1, _⟩ <;> rw [e1] <;> exact Bool.false_ne_true
      rw [free_gone (.inr hf)] at he
      dsimp only at he
      rw [if_neg hnw] at he
      unfold readsT at he
      rcases frow_R hf with ⟨a, e, b, e1, e2, e3⟩ | ⟨b, e1, e2, e3⟩
      · obtain ⟨i, hi, _⟩ := pos_row e1
        have gb : i + 1 ≤ e := by
          rcases Sd.split h.ok with ⟨w, h1, _⟩ | ⟨i', r, h1, h2, h3, h4, h5, h6, _⟩
          · rw [hi] at h1; cases h1
          · rw [hi] at h1; cases h1
            rw [e1] at h2; cases h2
            exact (goal_bd (a := .ends) hp h4 h5 h6 rfl).1
        rw [hi] at hn
        unfold PosLe at hn
        dsimp only at hn
        rw [h.p, Int.sub_zero] at e3
        rw [e3] at he
        dsimp only at he
        rw [List.mem_append] at he
        rcases he with he | he
        · split at he
          · rw [List.mem_singleton.mp he, mv_R hi h.p e1]
            exact ⟨Iff.rfl, by show ((n + 1 : Nat) : Int) ≤ i + 1; omega, fun q => ⟨q, rfl⟩, id⟩
          · cases he
        · split at he
          · rw [List.mem_singleton.mp he, en_R hi e1]
            exact ⟨Iff.rfl, by show ((n + 1 : Nat) : Int) ≤ e; omega, fun q => ⟨q, rfl⟩, id⟩
          · cases he
      · obtain ⟨i, hi, _⟩ := pos_row e1
        rw [hi] at hn
        unfold PosLe at hn
        dsimp only at hn
        rw [e3] at he
        dsimp only at he
        rw [List.nil_append] at he
        split at he
        · rw [List.mem_singleton.mp he, en_D hi e1]
          exact ⟨Iff.rfl, by show ((n + 1 : Nat) : Int) ≤ i + 1; omega, fun q => ⟨q, rfl⟩, id⟩
        · cases he
theorem step_any {rm : List Row} {b : Bool} {x x' : Tr} (h : x.s.ok rm) (hn : x.s.news ≠ .no) (e : Tr.step rm b x = some x') (ho : x.s.pos.isOver = false) : Tr.step rm true x = some x' := by
  have w : x.s.freeW rm = false := by unfold Sd.freeW; rw [decide_eq_false hn, Bool.and_false, Bool.false_and]
  have r : x.s.freeR rm = false := by unfold Sd.freeR; rw [decide_eq_false hn, Bool.and_false]
  obtain ⟨y, hy⟩ := bound_gone ho h w r
  unfold Tr.step at e ⊢
  rw [hy] at e ⊢
  exact e
theorem bool_or (s t : Bool) : t = s ∨ t = !s := by cases s <;> cases t <;> simp
theorem met_end {rs : Two (List Row)} {V : Bool → Tr → Prop} {fl : Two Bool} {st : Std} {s : Bool} (h : MetV rs V st) (hp : ∀ s, ProgOk (rs.get s)) : ∀ e ∈ endsT (rs.get s) (rs.get !s) (st.sd.get s) (st.sd.get !s), MetV rs V (itEnd fl st s e).st := by
  intro e he
  obtain ⟨n, x, wx⟩ := h.w s
  obtain ⟨m, y, wy⟩ := h.w (!s)
  rw [Bool.not_not] at wy
  have oks := h.ok.get s
  have oko := h.ok.get !s
  obtain ⟨x', b, t1, t2, t3, t4, t5, t6, t7, t8⟩ := ends_tr oks (hp s) wx.sd wx.en e he
  obtain ⟨f1, f2, f3, f4⟩ := ends_facts (n := n) oks (hp s) wx.p e he
  have ok1 := ends_okS oks oko (hp s) e he
  have n24 : n + 1 ≤ 24 := pos_24 (hp s) ok1.ok f2
  have xo : x.s.ok (rs.get s) := by have := oks.ok; rw [wx.sd] at this; exact this
  have ov : x.s.pos.isOver = false := by
    have e0 : x.s.pos = (st.sd.get s).pos := by rw [wx.sd]; rfl
    rw [e0]
    unfold endsT at he
    split at he
    · cases he
    · rename_i q; cases hc : (st.sd.get s).pos.isOver <;> first | rfl | exact absurd hc q
  have xn : x.s.news = (st.sd.get s).news := by rw [wx.sd]; rfl
  have told' : e.2.2.bare.told = x'.s.told := by rw [t2]; rfl
  have okS : OkS 24000000000000000000 (rs.get s) e.2.2.bare := by
    refine ⟨ok1.ok, ok1.p, ok1.r, ok1.t0, ?_, ok1.h0, ?_⟩
    · rw [told']
      have := wx.t
      omega
    · rw [t2]
      show (if x'.en then (st.sd.get !s).told else x'.s.had) ≤ _
      have := wx.h
      have := oko.t1
      split <;> omega
  have inew : InS (rs.get s) (V s) e.2.2.bare (n + 1) x' := by
    have hi := wx.i
    unfold InS at hi ⊢
    by_cases c : (st.sd.get s).news = .no
    · rw [if_pos c] at hi
      rw [if_pos (show e.2.2.bare.news = .no from f1.mpr c)]
      cases b with
      | false => exact hi.stepF (t4 rfl) t1
      | true => exact hi.stepT (t5 rfl) ov t1
    · rw [if_neg c] at hi
      rw [if_neg (show ¬ e.2.2.bare.news = .no from fun q => c (f1.mp q))]
      exact hi.step ov (step_any xo (by rw [xn]; exact c) t1 ov)
  have wnew : Way (rs.get s) (V s) e.2.2.bare (st.sd.get !s) (n + 1) x' := ⟨t2, t3, inew, f2, by have := wx.t; omega, by have := wx.h; omega⟩
  have wold : Way (rs.get !s) (V !s) (st.sd.get !s) e.2.2.bare m y := by
    refine ⟨?_, fun q => (f3 (wy.en q)).1, wy.i, wy.p, wy.t, wy.h⟩
    cases hy : y.en with
    | false =>
      have := wy.sd
      unfold Tr.sd at this ⊢
      rw [hy] at this ⊢
      exact this
    | true =>
      have := (f3 (wy.en hy)).2
      have e0 : e.2.2.bare.told = (st.sd.get s).told := this
      rw [e0]
      exact wy.sd
  have g1 : ∀ z : Two Fate, ((⟨st.sd.put s e.2.2.bare, z⟩ : Std).sd.get s) = e.2.2.bare := fun _ => Two.get_put
  have g2 : ∀ z : Two Fate, ((⟨st.sd.put s e.2.2.bare, z⟩ : Std).sd.get !s) = st.sd.get !s := fun _ => Two.get_put'
  unfold itEnd
  dsimp only
  refine ⟨?_, fun t => ?_, fun t c => ?_, fun t c => ?_⟩
  · cases s
    · exact ⟨okS, h.ok.b⟩
    · exact ⟨h.ok.a, okS⟩
  · rcases bool_or s t with rfl | rfl
    · exact ⟨n + 1, x', by rw [g1, g2]; exact wnew⟩
    · exact ⟨m, y, by rw [Bool.not_not, g1, g2]; exact wold⟩
  · rcases bool_or s t with rfl | rfl
    · rw [g1] at c
      rw [g2]
      exact h.r t fun q => c (f1.mpr q)
    · rw [g2] at c
      have q := h.r (!s) c
      rw [Bool.not_not] at q ⊢
      rw [g1]
      exact ⟨f4 q.1, f1.mpr q.2.1, q.2.2⟩
  · rcases bool_or s t with rfl | rfl
    · rw [g1] at c
      exact h.f t (f1.mp c)
    · rw [g2] at c
      exact h.f (!s) c
theorem met_fate {rs : Two (List Row)} {V : Bool → Tr → Prop} {st : Std} {s : Bool} (h : MetV rs V st) : ∀ f ∈ fatesT (rs.get s) (st.sd.get s) (st.sd.get !s), MetV rs V (itFate st s f).st := by
  intro f hf
  unfold fatesT at hf
  split at hf
  · cases hf
  rename_i c1
  simp only [Bool.or_eq_true, Bool.not_eq_true', decide_eq_false_iff_not, not_or, Decidable.not_not, Bool.not_eq_true] at c1
  obtain ⟨hg, hn⟩ := c1
  split at hf
  · cases hf
  rename_i c2
  have og : (st.sd.get !s).hand.given = true := by
    cases hh : (st.sd.get !s).hand <;> rw [hh] at c2 <;> first | rfl | exact absurd rfl c2
  have fn : f ≠ .no := by
    rw [List.mem_append] at hf
    rcases hf with hf | hf
    · split at hf
      · rw [List.mem_singleton.mp hf]; decide
      · cases hf
    · split at hf
      · rw [List.mem_singleton.mp hf]; decide
      · split at hf
        · rw [List.mem_singleton.mp hf]; decide
        · cases hf
  have on : (st.sd.get !s).news = .no := by
    by_cases c : (st.sd.get !s).news = .no
    · exact c
    · have := (h.r (!s) c).1
      rw [Bool.not_not, hg] at this
      cases this
  obtain ⟨n, x, wx⟩ := h.w s
  obtain ⟨m, y, wy⟩ := h.w (!s)
  rw [Bool.not_not] at wy
  have oks := h.ok.get s
  have okS : OkS 24000000000000000000 (rs.get s) (st.sd.get s).reset.bare := ⟨bare_ok oks.ok, oks.p, rfl, oks.t0, oks.t1, oks.h0, oks.h1⟩
  have g1 : ∀ z : Two Fate, ((⟨st.sd.put s (st.sd.get s).reset.bare, z⟩ : Std).sd.get s) = (st.sd.get s).reset.bare := fun _ => Two.get_put
  have g2 : ∀ z : Two Fate, ((⟨st.sd.put s (st.sd.get s).reset.bare, z⟩ : Std).sd.get !s) = st.sd.get !s := fun _ => Two.get_put'
  have wnew : Way (rs.get s) (V s) (st.sd.get s).reset.bare (st.sd.get !s) n x.reset := by
    refine ⟨?_, wx.en, ?_, wx.p, wx.t, wx.h⟩
    · have hr := oks.r
      have e0 := wx.sd
      have xr : x.s.rep = [] := by rw [e0] at hr; exact hr
      obtain ⟨⟨pos, hand, news, part, told, had, rep⟩, en⟩ := x
      dsimp only at xr
      subst xr
      rw [e0]
      rfl
    · have hi := wx.i
      unfold InS at hi ⊢
      rw [if_pos hn] at hi
      exact (if_neg (fun q => by cases q)).mpr hi.reset
  have wold : Way (rs.get !s) (V !s) (st.sd.get !s) (st.sd.get s).reset.bare m y := ⟨wy.sd, wy.en, wy.i, wy.p, wy.t, wy.h⟩
  unfold itFate
  dsimp only
  refine ⟨?_, fun t => ?_, fun t c => ?_, fun t c => ?_⟩
  · cases s
    · exact ⟨okS, h.ok.b⟩
    · exact ⟨h.ok.a, okS⟩
  · rcases bool_or s t with rfl | rfl
    · exact ⟨n, x.reset, by rw [g1, g2]; exact wnew⟩
    · exact ⟨m, y, by rw [Bool.not_not, g1, g2]; exact wold⟩
  · rcases bool_or s t with rfl | rfl
    · rw [g2]
      refine ⟨og, on, ?_⟩
      rw [Two.get_put]
      exact fn
    · rw [g2] at c
      exact absurd on c
  · rcases bool_or s t with rfl | rfl
    · rw [g1] at c
      cases c
    · have q := h.f (!s) on
      rw [Bool.not_not] at q ⊢
      cases s <;> exact q
theorem met_next {rs : Two (List Row)} {V : Bool → Tr → Prop} {rooms : Two (Option Int)} {fl : Two Bool} {st : Std} (h : MetV rs V st) (hp : ∀ s, ProgOk (rs.get s)) : ∀ i ∈ nextT rs rooms fl st, MetV rs V i.st := by
  have side : ∀ s, ∀ i ∈ sideT rs fl st s, MetV rs V i.st := by
    intro s i hi
    unfold sideT at hi
    rw [List.mem_append] at hi
    rcases hi with hi | hi
    · obtain ⟨e, he, rfl⟩ := List.mem_map.mp hi
      exact met_end h hp e he
    · obtain ⟨f, hf, rfl⟩ := List.mem_map.mp hi
      exact met_fate h f hf
  intro i hi
  unfold nextT at hi
  have hi := (List.mem_filter.mp hi).1
  unfold movesT at hi
  rw [List.mem_append] at hi
  rcases hi with hi | hi
  · exact side _ i hi
  · exact side _ i hi
section
variable {α : Type} {d : α → D} {key : α → NestedKey}
abbrev entD (d : α → D) (x : α) : D × D := (d x, .bl true)
theorem getE_gen (hk : ∀ x, nkT (d x) = some (key x)) {l : List α} {n : NestedKey} : (getE (l.map (entD d)) n).isSome = true ↔ n ∈ l.map key := by
  rw [getE_any, List.any_eq_true]
  constructor
  · rintro ⟨q, hq, e⟩
    rw [List.map_map] at hq
    obtain ⟨x, hx, rfl⟩ := List.mem_map.mp hq
    have e2 := of_decide_eq_true e
    have e3 : nkT (d x) = some n := e2
    rw [hk] at e3
    cases e3
    exact List.mem_map_of_mem hx
  · intro h
    obtain ⟨x, hx, rfl⟩ := List.mem_map.mp h
    exact ⟨sg (entD d x), List.mem_map_of_mem (List.mem_map_of_mem hx), decide_eq_true (hk x)⟩
theorem putE_in (hk : ∀ x, nkT (d x) = some (key x)) {l : List α} {n : NestedKey} {d' : D} (h : n ∈ l.map key) : putE (l.map (entD d)) d' n (.bl true) = l.map (entD d) := by
  unfold putE
  rw [if_pos ((getE_gen hk).mpr h), List.map_map]
  apply List.map_congr_left
  intro x _
  show (if nkT (d x) = some n then _ else _) = _
  split <;> rfl
theorem putE_new (hk : ∀ x, nkT (d x) = some (key x)) {l : List α} {n : NestedKey} {d' : D} (h : n ∉ l.map key) : putE (l.map (entD d)) d' n (.bl true) = l.map (entD d) ++ [(d', .bl true)] := by
  unfold putE
  rw [if_neg fun e => h ((getE_gen hk).mp e)]
/-- the dict of a list: the same things, each key once -/
theorem dedS_gen (hk : ∀ x, nkT (d x) = some (key x)) : ∀ l : List α, ∃ l' : List α, dedS (l.map d) = l'.map (entD d) ∧ (∀ x ∈ l', x ∈ l) ∧ ∀ x ∈ l, key x ∈ l'.map key := by
  suffices H : ∀ l a : List α, ∃ l' : List α, (l.map d).foldl putS (a.map (entD d)) = l'.map (entD d) ∧ (∀ x ∈ l', x ∈ l ∨ x ∈ a) ∧ (∀ x ∈ l, key x ∈ l'.map key) ∧ ∀ x ∈ a, key x ∈ l'.map key by
    intro l
    obtain ⟨l', h1, h2, h3, _⟩ := H l []
    exact ⟨l', h1, fun x hx => (h2 x hx).elim id fun z => (by cases z), h3⟩
  intro l
  induction l with
  | nil => intro a; exact ⟨a, rfl, fun x hx => .inr hx, fun x hx => (by cases hx), fun x hx => List.mem_map_of_mem hx⟩
  | cons x l ih =>
    intro a
    rw [List.map_cons, List.foldl_cons]
    have e : putS (a.map (entD d)) (d x) = putE (a.map (entD d)) (d x) (key x) (.bl true) := by
      unfold putS
      rw [hk]
      rfl
    rw [e]
    by_cases c : key x ∈ a.map key
    · rw [putE_in hk c]
      obtain ⟨l', h1, h2, h3, h4⟩ := ih a
      refine ⟨l', h1, fun y hy => (h2 y hy).imp (List.mem_cons_of_mem _) id, fun y hy => ?_, h4⟩
      rcases List.mem_cons.mp hy with rfl | hy
      · obtain ⟨z, hz, e⟩ := List.mem_map.mp c
        rw [← e]
        exact h4 z hz
      · exact h3 y hy
    · rw [putE_new hk c]
      have e2 : a.map (entD d) ++ [(d x, .bl true)] = (a ++ [x]).map (entD d) := by rw [List.map_append]; rfl
      rw [e2]
      obtain ⟨l', h1, h2, h3, h4⟩ := ih (a ++ [x])
      refine ⟨l', h1, fun y hy => ?_, fun y hy => ?_, fun y hy => h4 y (List.mem_append_left _ hy)⟩
      · rcases h2 y hy with q | q
        · exact .inl (List.mem_cons_of_mem _ q)
        · rw [List.mem_append] at q
          rcases q with q | q
          · exact .inr q
          · rw [List.mem_singleton.mp q]; exact .inl List.mem_cons_self
      · rcases List.mem_cons.mp hy with rfl | hy
        · exact h4 y (List.mem_append_right _ List.mem_cons_self)
        · exact h3 y hy
end
theorem nodup_sub {α : Type} [DecidableEq α] : ∀ (l m : List α), l.Nodup → (∀ x ∈ l, x ∈ m) → l.length ≤ m.length
  | [], _, _, _ => Nat.zero_le _
  | x :: l, m, h, hs => by
    have hx := hs x List.mem_cons_self
    have hn := List.nodup_cons.mp h
    have := nodup_sub l (m.erase x) hn.2 fun y hy => (List.mem_erase_of_ne (fun e => hn.1 (by rw [← e]; exact hy))).mpr (hs y (List.mem_cons_of_mem _ hy))
    rw [List.length_erase_of_mem hx] at this
    have := List.length_pos_of_mem hx
    rw [List.length_cons]
    omega
section
variable {C CP : Addr} {rs : Two (List Row)} {rooms : Two (Option Int)} {fl : Two Bool} {st : Std} {t : Bool} {Q : Res × List D → Prop}
theorem sh_wd : ∀ x ∈ wdL, ∀ k, sh k (.str x) = true := fun x hx k => by
  have : ∀ x ∈ wdL, PyData.strOk x = true := by decide +kernel
  exact shS (this x hx)
theorem sh_pos (p : Pos) (k : Nat) : sh k (posD p) = true := by
  cases p with
  | «at» i => simp [posD, sh]
  | over w => cases w <;> exact sh_wd _ (by decide +kernel) _
theorem sh_pt {s : Sd} {f : Fate} : sh 62 (ptK t s f) = true := by
  have : (ptL s f).all (sh 61) = true := by
    rw [List.all_eq_true]
    intro d hd
    simp only [ptL, List.mem_cons, List.not_mem_nil, or_false] at hd
    rcases hd with rfl | rfl | rfl | rfl | rfl | rfl
    · exact sh_pos _ _
    · cases s.hand <;> exact sh_wd _ (by decide +kernel) _
    · cases s.news <;> exact sh_wd _ (by decide +kernel) _
    · simp [sh]
    · simp [sh]
    · cases f <;> exact sh_wd _ (by decide +kernel) _
  cases t <;> exact this
theorem sh_st : sh 63 (stK t fl st) = true := by
  have : [ptK fl.a st.sd.a st.ft.a, ptK fl.b st.sd.b st.ft.b].all (sh 62) = true := by simp [sh_pt]
  cases t <;> exact this
/-- a stand with what its tuples are like -/
structure Stq where
  t : Bool
  fl : Two Bool
  st : Std
abbrev stqD (p : Stq) : D := stK p.t p.fl p.st
abbrev stqK (p : Stq) : NestedKey := nkS p.st
theorem stq_hk (p : Stq) : nkT (stqD p) = some (stqK p) := nkT_st
theorem kNe_stE {l : List Stq} : kNe (.lst (l.map stqD)) (.lst []) = some (.bl (!l.isEmpty)) := by
  rw [kNe_sh (by unfold sh; rw [List.all_map, List.all_eq_true]; exact fun i _ => sh_st) (by unfold sh; rfl)]
  cases l <;> rfl
def It.plain (i : It) : It := { i with fl := ⟨true, true⟩ }
theorem nextT_fl {fl' : Two Bool} : (nextT rs rooms fl st).map It.plain = (nextT rs rooms fl' st).map It.plain := by
  have side : ∀ s, (sideT rs fl st s).map It.plain = (sideT rs fl' st s).map It.plain := fun s => by
    unfold sideT
    rw [List.map_append, List.map_append, List.map_map, List.map_map, List.map_map]
    rfl
  have mv : (movesT rs fl st).map It.plain = (movesT rs fl' st).map It.plain := by
    unfold movesT
    rw [List.map_append, List.map_append, side, side]
  unfold nextT
  have e : ∀ l : List It, (l.filter (It.fits rooms)).map It.plain = (l.map It.plain).filter (It.fits rooms) := fun l => by
    rw [List.filter_map]
    rfl
  rw [e, e, mv]
theorem nextT_st {fl' : Two Bool} {i : It} (h : i ∈ nextT rs rooms fl st) : ∃ j ∈ nextT rs rooms fl' st, j.st = i.st := by
  have := List.mem_map_of_mem (f := It.plain) h
  rw [nextT_fl (fl' := fl')] at this
  obtain ⟨j, hj, e⟩ := List.mem_map.mp this
  exact ⟨j, hj, by have := congrArg It.st e; exact this⟩
/-- the stands that are reached at rooms -/
inductive Rch (rs : Two (List Row)) (rooms : Two (Option Int)) : Std → Prop where
  | first : Rch rs rooms ⟨⟨.first, .first⟩, ⟨.no, .no⟩⟩
  | next {st : Std} {fl : Two Bool} {i : It} : Rch rs rooms st → i ∈ nextT rs rooms fl st → Rch rs rooms i.st
theorem Rch.met (hp : ∀ s, ProgOk (rs.get s)) : Rch rs rooms st → Met rs st := by
  intro h
  induction h with
  | first => exact met_first hp
  | next _ hi ih => exact met_next ih hp _ hi
/-- a list of just these stands, each once -/
structure RchL (rs : Two (List Row)) (rooms : Two (Option Int)) (l : List Stq) : Prop where
  nd : (l.map stqK).Nodup
  all : ∀ p ∈ l, Rch rs rooms p.st
  fst : nkS ⟨⟨.first, .first⟩, ⟨.no, .no⟩⟩ ∈ l.map stqK
theorem RchL.len {l : List Stq} (h : RchL rs rooms l) (hp : ∀ s, ProgOk (rs.get s)) : l.length ≤ 4000000 := by
  have := nodup_sub (l.map stqK) ((allT rs).map nkS) h.nd fun k hk => by
    obtain ⟨p, hp', rfl⟩ := List.mem_map.mp hk
    exact List.mem_map_of_mem (met_all ((h.all p hp').met hp) hp)
  rw [List.length_map, List.length_map] at this
  exact Nat.le_trans this (allT_len rs)
def Closed (rs : Two (List Row)) (rooms : Two (Option Int)) (l : List Stq) (p : Stq) : Prop := ∀ fl, ∀ i ∈ nextT rs rooms fl p.st, nkS i.st ∈ l.map stqK
end
end
section
theorem ex_whl {t : TM} {b : SM} {Q : Out × L3.Env → Prop} (I : Nat → L3.Env → Prop)
    (step : ∀ n ρ, I n ρ → Ex (t ρ) fun p => (p.1 = true → Ex (b p.2) fun q => brkK (fun ρ' => ∃ n', n' < n ∧ I n' ρ') Q q.1 q.2) ∧ (p.1 = false → Q (.nx, p.2))) :
    ∀ N n ρ, n < N → I n ρ → Ex (whl t b N ρ) Q := by
  intro N
  induction N with
  | zero => intro n ρ h; omega
  | succ N ih =>
    intro n ρ h hI
    obtain ⟨p, e1, k1, k2⟩ := step n ρ hI
    obtain ⟨c, ρ1⟩ := p
    unfold whl
    rw [e1, Option.bind_some]
    cases c with
    | false => exact ⟨_, rfl, k2 rfl⟩
    | true =>
      obtain ⟨q, e2, k⟩ := k1 rfl
      obtain ⟨o, ρ2⟩ := q
      dsimp only
      rw [if_pos rfl, e2, Option.bind_some]
      cases o with
      | nx => obtain ⟨n', h', hI'⟩ := k; exact ih n' ρ2 (by omega) hI'
      | ct => obtain ⟨n', h', hI'⟩ := k; exact ih n' ρ2 (by omega) hI'
      | br => exact ⟨_, rfl, k⟩
      | rt d => exact ⟨_, rfl, k⟩
      | rn d => exact ⟨_, rfl, k⟩
      | rr d => exact ⟨_, rfl, k⟩
section
variable {C CP : Addr} {rs : Two (List Row)} {rooms : Two (Option Int)} {Q : Res × List D → Prop}
theorem ddSlot3 {S0 S1 S2 S4 S5 : Option S} {o : Option Nat} {ds : List (D × D)} : ddSlot [S0, S1, S2, some (.own o (.dd ds)), S4, S5] 3 = some (o, ds) := rfl
theorem lf_pt {t : Bool} {s : Sd} {f : Fate} : lf (ptK t s f) = true := by cases t <;> simp [ptK, ptL, lf, lfs, lf_pos]
theorem lf_st {t : Bool} {fl : Two Bool} {st : Std} : lf (stK t fl st) = true := by cases t <;> simp [stK, twD, lf, lfs, lf_pt]
theorem lfs_st : ∀ l : List Stq, lfs (l.map stqD) = true
  | [] => by simp [lfs]
  | p :: l => by
    rw [List.map_cons]
    simp only [lfs, lf_st, lfs_st l, Bool.and_self]
def stq0 : Stq := ⟨false, ⟨false, false⟩, ⟨⟨.first, .first⟩, ⟨.no, .no⟩⟩⟩
theorem isEmpty_concat {α : Type} (l : List α) : l.isEmpty = false → ∃ ws p, l = ws ++ [p] := fun h => by
  rcases List.eq_nil_or_concat l with rfl | ⟨ws, p, rfl⟩
  · cases h
  · exact ⟨ws, p, by rw [List.concat_eq_append]⟩
theorem reached_ok (hp : ∀ s, ProgOk (rs.get s)) (k : ∀ l : List Stq, RchL rs rooms l → (∀ p ∈ l, Closed rs rooms l p) → Q (.n (.lst (l.map stqD)), [])) :
    Ex (f_reached CP C [.v (progD CP rs.a), .v (progD CP rs.b), .v (roomsD rooms)]) Q := by
  unfold f_reached B_reached
  have e0 : nkT (.ktp [.ktp [.int 0, .str "open", .str "", .int 0, .int 0, .str ""], .ktp [.int 0, .str "open", .str "", .int 0, .int 0, .str ""]]) = some (stqK stq0) := stq_hk stq0
  nofun
  rw [e0]
  nofun
  refine ex_whl (fun n ρ => ∃ l w S5, RchL rs rooms l ∧ (∀ p ∈ w, p ∈ l) ∧ w.length ≤ l.length ∧ (∀ p ∈ l, p ∈ w ∨ Closed rs rooms l p) ∧ n + l.length = 4000000 + w.length ∧ ρ = [some (.d (progD CP rs.a)), some (.d (progD CP rs.b)), some (.d (roomsD rooms)), some (.own none (.dd (l.map (entD stqD)))), some (.own none (.lst (w.map stqD))), S5]) ?_ 16777216 4000000 _ (by decide)
    ⟨[stq0], [stq0], _, ⟨by simp, fun p hp' => by rw [List.mem_singleton.mp hp']; exact .first, by simp [stq0]⟩, fun _ h => h, Nat.le_refl _, fun _ h => .inl h, rfl, rfl⟩
  rintro n ρ ⟨l, w, S5, h1, h2, h2l, h3, h4, rfl⟩
  nofun
  rw [kNe_stE]
  nofun
  refine ⟨fun he => ?_, fun he => ?_⟩
  · obtain ⟨ws, p, rfl⟩ := isEmpty_concat w he
    have hpl := h2 p (List.mem_append_right _ List.mem_cons_self)
    have ll := h1.len hp
    rw [List.length_append, List.length_singleton] at h4 h2l
    unfold B_reached_1
    nofun
    rw [show ((ws ++ [p]).map stqD)[ws.length + 1 - 1]? = some (stqD p) by rw [List.getElem?_map, Nat.add_sub_cancel, List.getElem?_concat_length]; rfl]
    nofun
    refine next_stands_ok ((h1.all p hpl).met hp).ok hp ?_
    nofun
    have hd : ((ws ++ [p]).map stqD).dropLast = ws.map stqD := by rw [List.map_append, List.map_cons, List.map_nil, List.dropLast_concat]
    rw [hd]
    obtain ⟨is, i1, i2, i3⟩ := dedS_gen (d := stP) (key := fun i => nkS i.st) (fun i => nkT_st) (nextT rs rooms p.fl p.st)
    have i4 : (dedS ((nextT rs rooms p.fl p.st).map stP)).map (·.1) = is.map stP := by rw [i1, List.map_map]; rfl
    rw [i4]
    refine ex_loop _ (fun j ρ => ∃ nw S5, RchL rs rooms (l ++ nw) ∧ (∀ i ∈ is.take j, nkS i.st ∈ (l ++ nw).map stqK) ∧ ρ = [some (.d (progD CP rs.a)), some (.d (progD CP rs.b)), some (.d (roomsD rooms)), some (.own none (.dd ((l ++ nw).map (entD stqD)))), some (.own none (.lst ((ws ++ nw).map stqD))), S5])
      ⟨[], _, by rw [List.append_nil]; exact h1, (fun i hi => (by rw [List.take_zero] at hi; cases hi)), by rw [List.append_nil, List.append_nil]⟩ ?_ ?_
    · rintro j x ρ hx ⟨nw, T5, q1, q2, rfl⟩
      rw [List.getElem?_map] at hx
      cases he2 : is[j]? with
      | none => rw [he2] at hx; cases hx
      | some e =>
        rw [he2] at hx
        cases hx
        have hin : e ∈ nextT rs rooms p.fl p.st := i2 e (List.mem_of_getElem? he2)
        have hlen := q1.len hp
        rw [List.length_append] at hlen
        have htk : ∀ m : List Stq, (∀ i ∈ is.take j, nkS i.st ∈ m.map stqK) → nkS e.st ∈ m.map stqK → ∀ i ∈ is.take (j + 1), nkS i.st ∈ m.map stqK := fun m a b i hi => by
          rw [List.take_add_one, he2, Option.toList_some, List.mem_append] at hi
          rcases hi with hi | hi
          · exact a i hi
          · rw [List.mem_singleton.mp hi]; exact b
        nofun
        rw [kKIn_d, nkT_st]
        nofun
        by_cases c : nkS e.st ∈ (l ++ nw).map stqK
        · rw [(getE_gen stq_hk).mpr c]
          nofun
          exact ⟨nw, _, q1, htk _ q2 c, rfl⟩
        · have cf : (getE ((l ++ nw).map (entD stqD)) (nkS e.st)).isSome = false := by
            cases hz : (getE ((l ++ nw).map (entD stqD)) (nkS e.st)).isSome with
            | false => rfl
            | true => exact absurd ((getE_gen stq_hk).mp hz) c
          rw [cf]
          nofun
          rw [ddSlot3]
          nofun
          rw [nkT_st]
          nofun
          refine ⟨by omega, by omega, ?_⟩
          have eD : putE ((l ++ nw).map (entD stqD)) (stP e) (nkS e.st) (.bl true) = (l ++ (nw ++ [(⟨true, ⟨true, true⟩, e.st⟩ : Stq)])).map (entD stqD) := by
            rw [putE_new stq_hk c, ← List.append_assoc, List.map_append (l₂ := [_])]
            rfl
          have eW : (ws ++ nw).map stqD ++ [stP e] = (ws ++ (nw ++ [(⟨true, ⟨true, true⟩, e.st⟩ : Stq)])).map stqD := by
            rw [← List.append_assoc, List.map_append (l₂ := [_])]
            rfl
          have kin : nkS e.st ∈ (l ++ (nw ++ [(⟨true, ⟨true, true⟩, e.st⟩ : Stq)])).map stqK := List.mem_map_of_mem (f := stqK) (List.mem_append_right _ (List.mem_append_right _ (List.mem_singleton.mpr rfl)))
          refine ⟨nw ++ [⟨true, ⟨true, true⟩, e.st⟩], _, ⟨?_, ?_, ?_⟩, htk _ (fun i hi => ?_) kin, by rw [eD, eW]⟩
          · rw [← List.append_assoc, List.map_append, List.map_cons, List.map_nil]
            rw [List.nodup_append]
            refine ⟨q1.nd, by simp, fun a ha b hb => ?_⟩
            rw [List.mem_singleton.mp hb]
            intro e
            rw [e] at ha
            exact c ha
          · intro q hq
            rw [← List.append_assoc, List.mem_append] at hq
            rcases hq with hq | hq
            · exact q1.all q hq
            · rw [List.mem_singleton.mp hq]
              exact .next (h1.all p hpl) hin
          · rw [← List.append_assoc, List.map_append]
            exact List.mem_append_left _ q1.fst
          · rw [← List.append_assoc, List.map_append]
            exact List.mem_append_left _ (q2 i hi)
    · rintro ρ ⟨nw, T5, q1, q2, rfl⟩
      rw [List.length_map, List.take_length] at q2
      refine ⟨n - 1, by omega, l ++ nw, ws ++ nw, _, q1, fun q hq => ?_, ?_, fun q hq => ?_, ?_, rfl⟩
      · rw [List.mem_append] at hq ⊢
        exact hq.imp (fun z => h2 q (List.mem_append_left _ z)) id
      · rw [List.length_append, List.length_append]; omega
      · rw [List.mem_append] at hq
        rcases hq with hq | hq
        · rcases h3 q hq with z | z
          · rw [List.mem_append] at z
            rcases z with z | z
            · exact .inl (List.mem_append_left _ z)
            · rw [List.mem_singleton.mp z]
              refine .inr fun fl i hi => ?_
              obtain ⟨j, hj, ej⟩ := nextT_st (fl' := p.fl) hi
              rw [← ej]
              obtain ⟨i', hi', ei⟩ := List.mem_map.mp (i3 j hj)
              have := q2 i' hi'
              rwa [show nkS i'.st = nkS j.st from ei] at this
          · refine .inr fun fl i hi => ?_
            rw [List.map_append]
            exact List.mem_append_left _ (z fl i hi)
        · exact .inl (List.mem_append_right _ hq)
      · rw [List.length_append, List.length_append]; omega
  · have we : w = [] := by cases w with | nil => rfl | cons a b => cases he
    subst we
    rw [show kListX [.dd (l.map (entD stqD))] = some (.lst (l.map stqD)) by show some (D.lst ((l.map (entD stqD)).map (·.1))) = _; rw [List.map_map]; rfl]
    nofun
    exact ⟨lfs_st l, k l h1 fun q hq => (h3 q hq).elim (fun z => by cases z) id⟩
end
end
section
theorem hand_inj {a b : Hand} (h : a.str = b.str) : a = b := by
  cases a <;> cases b <;> first | rfl | exact absurd h (by decide +kernel)
theorem news_inj {a b : News} (h : a.str = b.str) : a = b := by
  cases a <;> cases b <;> first | rfl | exact absurd h (by decide +kernel)
theorem fate_inj {a b : Fate} (h : a.str = b.str) : a = b := by
  cases a <;> cases b <;> first | rfl | exact absurd h (by decide +kernel)
theorem wd_inj {a b : Wd} (h : a.str = b.str) : a = b := by
  cases a <;> cases b <;> first | rfl | exact absurd h (by decide +kernel)
theorem pos_inj {a b : Pos} (h : nkPos a = nkPos b) : a = b := by
  cases a with
  | «at» i => cases b with
    | «at» j => unfold nkPos at h; dsimp only at h; rw [NestedKey.num.inj h]
    | over w => cases h
  | over w => cases b with
    | «at» j => cases h
    | over v => unfold nkPos at h; dsimp only at h; rw [wd_inj (NestedKey.text.inj h)]
theorem nkP_inj {B C : Int} {r r' : List Row} {s s' : Sd} {f f' : Fate} (h : OkS B r s) (h' : OkS C r' s') (e : nkP s f = nkP s' f') : s = s' ∧ f = f' := by
  unfold nkP at e
  have e := NestedKey.tup.inj e
  simp only [List.cons.injEq, and_true] at e
  obtain ⟨e1, e2, e3, e4, e5, e6⟩ := e
  have p := h.p
  have p' := h'.p
  have q := h.r
  have q' := h'.r
  obtain ⟨pos, hand, news, part, told, had, rep⟩ := s
  obtain ⟨pos', hand', news', part', told', had', rep'⟩ := s'
  dsimp only at *
  subst p p' q q'
  rw [pos_inj e1, hand_inj (NestedKey.text.inj e2), news_inj (NestedKey.text.inj e3), NestedKey.num.inj e4, NestedKey.num.inj e5, fate_inj (NestedKey.text.inj e6)]
  exact ⟨rfl, rfl⟩
theorem nkS_inj {B C : Int} {rs rs' : Two (List Row)} {st st' : Std} (h : OkT B rs st) (h' : OkT C rs' st') (e : nkS st = nkS st') : st = st' := by
  unfold nkS at e
  have e := NestedKey.tup.inj e
  simp only [List.cons.injEq, and_true] at e
  obtain ⟨⟨a, b⟩, ⟨f, g⟩⟩ := st
  obtain ⟨⟨a', b'⟩, ⟨f', g'⟩⟩ := st'
  obtain ⟨e1, e2⟩ := nkP_inj h.a h'.a e.1
  obtain ⟨e3, e4⟩ := nkP_inj h.b h'.b e.2
  dsimp only at e1 e2 e3 e4
  rw [e1, e2, e3, e4]
section
variable {rs : Two (List Row)} {rooms rooms' : Two (Option Int)} {fl : Two Bool} {st : Std}
theorem rch_mem {l : List Stq} (hp : ∀ s, ProgOk (rs.get s)) (h : RchL rs rooms l) (hc : ∀ p ∈ l, Closed rs rooms l p) : Rch rs rooms st → nkS st ∈ l.map stqK := by
  intro hr
  induction hr with
  | first => exact h.fst
  | @next st fl i hr hi ih =>
    obtain ⟨p, hp', e⟩ := List.mem_map.mp ih
    have : p.st = st := nkS_inj ((h.all p hp').met hp).ok (hr.met hp).ok e
    exact hc p hp' fl i (by rw [this]; exact hi)
theorem rch_st {l : List Stq} (hp : ∀ s, ProgOk (rs.get s)) (h : RchL rs rooms l) (hc : ∀ p ∈ l, Closed rs rooms l p) : st ∈ l.map Stq.st ↔ Rch rs rooms st := by
  constructor
  · intro hs
    obtain ⟨p, hp', rfl⟩ := List.mem_map.mp hs
    exact h.all p hp'
  · intro hr
    obtain ⟨p, hp', e⟩ := List.mem_map.mp (rch_mem hp h hc hr)
    have : p.st = st := nkS_inj ((h.all p hp').met hp).ok (hr.met hp).ok e
    exact List.mem_map.mpr ⟨p, hp', this⟩
end
end
section
section
variable {rm ro : List Row} {s o x : Sd} {B C : Int}
theorem eT_B (ho : s.pos.isOver = false) (h : s.gone rm false = some x) : endsT rm ro s o = [((1 : Int), ("go" : PySem.Str), x)] := by
  unfold endsT
  rw [ho, if_neg (by decide), h]
theorem eT_W {i a b : Int} (hf : s.freeW rm = true) (hi : s.pos = .at i) (h0 : s.part = 0) (hr : s.row rm = some (.write a b)) :
    endsT rm ro s o = [(s.need rm ro o, ("write" : PySem.Str), ({ s with pos := .at (i + 1), told := s.told + a, rep := s.rep ++ [.taken] } : Sd))] := by
  unfold endsT
  rw [hi, if_neg (show ¬ (Pos.at i).isOver = true from Bool.false_ne_true), free_gone (.inl hf)]
  dsimp only
  rw [if_pos (by unfold Sd.isW; rw [hr]; rfl), mv_W hi h0 hr]
theorem eT_R {i a e b : Int} (hf : s.freeR rm = true) (hi : s.pos = .at i) (h0 : s.part = 0) (hr : s.row rm = some (.read a e b)) (hl : s.left rm = some a) :
    endsT rm ro s o = (if s.had + a ≤ o.mW ro then [((1 : Int), ("read" : PySem.Str), ({ s with pos := .at (i + 1), had := s.had + a, rep := s.rep ++ [.taken] } : Sd))] else []) ++
      (if (o.hand.ended && decide (o.told < s.had + a)) = true then [((1 : Int), ("end" : PySem.Str), ({ s with pos := .at e, part := 0, had := o.told, rep := s.rep ++ [.ends] } : Sd))] else []) := by
  unfold endsT
  rw [hi, if_neg (show ¬ (Pos.at i).isOver = true from Bool.false_ne_true), free_gone (.inr hf)]
  dsimp only
  rw [if_neg (by unfold Sd.isW; rw [hr]; exact Bool.false_ne_true)]
  unfold readsT
  rw [hl]
  dsimp only
  rw [mv_R hi h0 hr, en_R hi hr]
theorem eT_D {i b : Int} (hf : s.freeR rm = true) (hi : s.pos = .at i) (hr : s.row rm = some (.drain b)) (hl : s.left rm = none) :
    endsT rm ro s o = (if o.hand.ended = true then [((1 : Int), ("end" : PySem.Str), ({ s with pos := .at (i + 1), part := 0, had := o.told, rep := s.rep ++ [.ends] } : Sd))] else []) := by
  unfold endsT
  rw [hi, if_neg (show ¬ (Pos.at i).isOver = true from Bool.false_ne_true), free_gone (.inr hf)]
  dsimp only
  rw [if_neg (by unfold Sd.isW; rw [hr]; exact Bool.false_ne_true)]
  unfold readsT
  rw [hl]
  dsimp only
  rw [List.nil_append, Bool.and_true, en_D hi hr]
/-- what a side can be at -/
inductive Knd (rm : List Row) (s : Sd) : Prop where
  | ov : s.pos.isOver = true → Knd rm s
  | bd (x : Sd) : s.pos.isOver = false → s.freeW rm = false → s.freeR rm = false → s.gone rm false = some x → Knd rm s
  | wr (i a b : Int) : s.freeW rm = true → s.freeR rm = false → s.pos = .at i → s.row rm = some (.write a b) → 1 ≤ a → s.left rm = some a → Knd rm s
  | rd (i a e b : Int) : s.freeR rm = true → s.freeW rm = false → s.pos = .at i → s.row rm = some (.read a e b) → 1 ≤ a → s.left rm = some a → Knd rm s
  | dr (i b : Int) : s.freeR rm = true → s.freeW rm = false → s.pos = .at i → s.row rm = some (.drain b) → s.left rm = none → Knd rm s
theorem knd (h : OkS B rm s) (hp : ProgOk rm) : Knd rm s := by
  cases ho : s.pos.isOver with
  | true => exact .ov ho
  | false =>
    cases hw : s.freeW rm with
    | true =>
      obtain ⟨a, b, e1, e2, e3⟩ := frow_W hw
      obtain ⟨i, hi, _⟩ := pos_row e1
      rw [h.p, Int.sub_zero] at e3
      refine .wr i a b hw ?_ hi e1 (row_am1 hp e1 (a := a) rfl).1 e3
      unfold Sd.freeR Sd.isR
      rw [e1]
      rfl
    | false =>
      cases hf : s.freeR rm with
      | false =>
        obtain ⟨x, hx⟩ := bound_gone ho h.ok hw hf
        exact .bd x ho hw hf hx
      | true =>
        rcases frow_R hf with ⟨a, e, b, e1, e2, e3⟩ | ⟨b, e1, e2, e3⟩
        · obtain ⟨i, hi, _⟩ := pos_row e1
          rw [h.p, Int.sub_zero] at e3
          exact .rd i a e b hf hw hi e1 (row_am1 hp e1 (a := a) rfl).1 e3
        · obtain ⟨i, hi, _⟩ := pos_row e1
          exact .dr i b hf hw hi e1 e3
end
abbrev firstT : Std := ⟨⟨.first, .first⟩, ⟨.no, .no⟩⟩
section
variable {rs : Two (List Row)} {rooms : Two (Option Int)} {fl : Two Bool} {st : Std}
theorem two_put {α : Type} {t : Two α} {s : Bool} {x : α} : (t.put s x).get s = x := by cases s <;> rfl
theorem two_put_o {α : Type} {t : Two α} {s : Bool} {x : α} : (t.put s x).get (!s) = t.get (!s) := by cases s <;> rfl
theorem next_side {i : It} (h : i ∈ nextT rs rooms fl st) : ∃ s, i ∈ sideT rs fl st s ∧ i.fits rooms = true := by
  unfold nextT at h
  obtain ⟨h1, h2⟩ := List.mem_filter.mp h
  unfold movesT at h1
  rcases List.mem_append.mp h1 with h1 | h1
  · exact ⟨false, h1, h2⟩
  · exact ⟨true, h1, h2⟩
theorem side_next {s : Bool} {i : It} (h : i ∈ sideT rs fl st s) (hf : i.fits rooms = true) : i ∈ nextT rs rooms fl st := by
  unfold nextT movesT
  refine List.mem_filter.mpr ⟨List.mem_append.mpr ?_, hf⟩
  cases s
  · exact .inl h
  · exact .inr h
theorem side_cases {s : Bool} {i : It} (h : i ∈ sideT rs fl st s) : (∃ e ∈ endsT (rs.get s) (rs.get !s) (st.sd.get s) (st.sd.get !s), i = itEnd fl st s e) ∨ ∃ f ∈ fatesT (rs.get s) (st.sd.get s) (st.sd.get !s), i = itFate st s f := by
  unfold sideT at h
  rcases List.mem_append.mp h with h | h
  · obtain ⟨e, he, rfl⟩ := List.mem_map.mp h
    exact .inl ⟨e, he, rfl⟩
  · obtain ⟨f, hf, rfl⟩ := List.mem_map.mp h
    exact .inr ⟨f, hf, rfl⟩
theorem fits1 {i : It} (hr : RoomsOk rooms) (h : i.least = ⟨1, 1⟩) : i.fits rooms = true := by
  unfold It.fits
  rw [h, show fitT rooms.a (⟨1, 1⟩ : Two Int).a = true from fit1 (hr false), show fitT rooms.b (⟨1, 1⟩ : Two Int).b = true from fit1 (hr true)]
  rfl
end
end
section
section
variable {rm ro : List Row} {s s' o o' x : Sd} {c d B : Int}
def Row.tms (c : Int) : Row → Row
  | .write a t => .write (a * c) t
  | .read a e t => .read (a * c) e t
  | r => r
def tmsR (c : Int) (rs : List Row) : List Row := rs.map (Row.tms c)
/-- the same but for the bytes, of which there are so many times the same -/
structure Sca (c d : Int) (s s' : Sd) : Prop where
  pos : s.pos = s'.pos
  hand : s.hand = s'.hand
  news : s.news = s'.news
  rep : s.rep = [] ∧ s'.rep = []
  by' : ∃ t h, s.told = t * c ∧ s'.told = t * d ∧ s.had = h * c ∧ s'.had = h * d
theorem row_tms : s.row (tmsR c rm) = (s.row rm).map (Row.tms c) := by
  unfold Sd.row tmsR
  cases s.pos with
  | «at» i => simp only [List.getElem?_map]
  | over w => rfl
theorem sca_row (h : Sca c d s s') : s'.row rm = s.row rm := by unfold Sd.row; rw [h.pos]
theorem isW_tms : s.isW (tmsR c rm) = s.isW rm := by
  unfold Sd.isW
  rw [row_tms]
  cases s.row rm with
  | none => rfl
  | some r => cases r <;> rfl
theorem isR_tms : s.isR (tmsR c rm) = s.isR rm := by
  unfold Sd.isR
  rw [row_tms]
  cases s.row rm with
  | none => rfl
  | some r => cases r <;> rfl
theorem isC_tms : s.isC (tmsR c rm) = s.isC rm := by
  unfold Sd.isC
  rw [row_tms]
  cases s.row rm with
  | none => rfl
  | some r => cases r <;> rfl
theorem isW_sca (h : Sca c d s s') : s'.isW (tmsR d rm) = s.isW (tmsR c rm) := by
  rw [isW_tms, isW_tms]
  unfold Sd.isW
  rw [sca_row h]
theorem isR_sca (h : Sca c d s s') : s'.isR (tmsR d rm) = s.isR (tmsR c rm) := by
  rw [isR_tms, isR_tms]
  unfold Sd.isR
  rw [sca_row h]
theorem isC_sca (h : Sca c d s s') : s'.isC (tmsR d rm) = s.isC (tmsR c rm) := by
  rw [isC_tms, isC_tms]
  unfold Sd.isC
  rw [sca_row h]
theorem freeW_sca (h : Sca c d s s') : s'.freeW (tmsR d rm) = s.freeW (tmsR c rm) := by
  unfold Sd.freeW
  rw [isW_sca h, h.hand, h.news]
theorem freeR_sca (h : Sca c d s s') : s'.freeR (tmsR d rm) = s.freeR (tmsR c rm) := by
  unfold Sd.freeR
  rw [isR_sca h, h.hand, h.news]
theorem answer_sca (h : Sca c d s s') : s'.answer (tmsR d rm) false = s.answer (tmsR c rm) false := by
  unfold Sd.answer
  rw [isW_sca h, h.hand, h.news]
theorem goal_tms {r : Row} {i : Int} {a : Ans} : (r.tms c).goal i a = r.goal i a := by
  cases r <;> cases a <;> rfl
theorem gone_sca (h : Sca c d s s') (hs : OkS B (tmsR c rm) s) {C : Int} (hs' : OkS C (tmsR d rm) s') (e : s.gone (tmsR c rm) false = some x) : ∃ x', s'.gone (tmsR d rm) false = some x' ∧ Sca c d x.bare x'.bare := by
  have hx : ∃ x', s'.gone (tmsR d rm) false = some x' ∧ x.pos = x'.pos ∧ x.hand = x'.hand ∧ x.news = x'.news := by
    unfold Sd.gone at e ⊢
    rw [← h.pos]
    split at e
    · cases e
    rename_i ho
    rw [if_neg ho, isC_sca h, answer_sca h]
    split at e
    · rename_i hc
      rw [if_pos hc]
      cases ha : s.answer (tmsR c rm) false with
      | none => rw [ha] at e; cases e
      | some a =>
        rw [ha] at e
        have e := (Option.some.inj e).symm
        subst e
        refine ⟨_, rfl, ?_, h.hand, ?_⟩
        · show s.goal (tmsR c rm) a = s'.goal (tmsR d rm) a
          unfold Sd.goal
          rw [row_tms, row_tms, sca_row h, h.pos]
          cases s.row rm with
          | none => rfl
          | some r =>
            cases s'.pos with
            | «at» i => simp only [Option.map_some, goal_tms]
            | over w => rfl
        · show (if a = .reset then News.told else s.news) = if a = .reset then News.told else s'.news
          rw [h.news]
    · rename_i hc
      rw [if_neg hc]
      have e := (Option.some.inj e).symm
      subst e
      refine ⟨_, rfl, ?_⟩
      unfold Sd.passed
      rw [row_tms, row_tms, sca_row h, h.pos]
      cases s.row rm with
      | none =>
        cases hp : s'.pos <;> exact ⟨h.pos, h.hand, h.news⟩
      | some r =>
        cases hp : s'.pos with
        | over w => exact ⟨h.pos, h.hand, h.news⟩
        | «at» i =>
          cases r with
          | one w => exact ⟨rfl, by show s.hand.after w = s'.hand.after w; rw [h.hand], h.news⟩
          | _ => exact ⟨by show s.pos = s'.pos; rw [h.pos], h.hand, h.news⟩
  obtain ⟨x', e', h1, h2, h3⟩ := hx
  obtain ⟨k1, k2, _⟩ := gone_kept hs e
  obtain ⟨l1, l2, _⟩ := gone_kept hs' e'
  obtain ⟨t, u, b1, b2, b3, b4⟩ := h.by'
  exact ⟨x', e', h1, h2, h3, ⟨rfl, rfl⟩, t, u, by show x.told = _; rw [k1, b1], by show x'.told = _; rw [l1, b2], by show x.had = _; rw [k2, b3], by show x'.had = _; rw [l2, b4]⟩
theorem mul_le_iff {a b c : Int} (hc : 1 ≤ c) : a * c ≤ b * c ↔ a ≤ b := ⟨fun h => Int.le_of_mul_le_mul_right h (by omega), fun h => Int.mul_le_mul_of_nonneg_right h (by omega)⟩
theorem mul_lt_iff {a b c : Int} (hc : 1 ≤ c) : a * c < b * c ↔ a < b := by
  rw [← Int.not_le, ← Int.not_le, mul_le_iff hc]
/-- how much is written at most, by units: up to there, or just below -/
inductive Mst (c d : Int) (p q : Int) : Prop where
  | at (u : Int) : p = u * c → q = u * d → Mst c d p q
  | below (u : Int) : p = u * c - 1 → q = u * d - 1 → Mst c d p q
theorem mst_le {p q x y u : Int} (hc : 1 ≤ c) (hd : 1 ≤ d) (h : Mst c d p q) (hx : x = u * c) (hy : y = u * d) : x ≤ p ↔ y ≤ q := by
  subst hx hy
  rcases h with ⟨v, rfl, rfl⟩ | ⟨v, rfl, rfl⟩
  · rw [mul_le_iff hc, mul_le_iff hd]
  · have h1 := mul_lt_iff (a := u) (b := v) hc
    have h2 := mul_lt_iff (a := u) (b := v) hd
    exact ⟨fun h => by have := h2.mpr (h1.mp (by omega)); omega, fun h => by have := h1.mpr (h2.mp (by omega)); omega⟩
theorem mst_lt {p q x y u : Int} (hc : 2 ≤ c) (hd : 2 ≤ d) (h : Mst c d p q) (hx : x = u * c) (hy : y = u * d) : x < p ↔ y < q := by
  subst hx hy
  rcases h with ⟨v, rfl, rfl⟩ | ⟨v, rfl, rfl⟩
  · rw [mul_lt_iff (by omega), mul_lt_iff (by omega)]
  · have h1 := mul_lt_iff (a := u) (b := v) (c := c) (by omega)
    have h2 := mul_lt_iff (a := u) (b := v) (c := d) (by omega)
    have k : ∀ e : Int, 2 ≤ e → u < v → u * e < v * e - 1 := fun e he huv => by
      have : (u + 1) * e ≤ v * e := (mul_le_iff (by omega)).mpr (by omega)
      rw [Int.add_mul, Int.one_mul] at this
      omega
    exact ⟨fun h => k d hd (h1.mp (by omega)), fun h => k c hc (h2.mp (by omega))⟩
theorem mW_sca (h : Sca c d s s') (h0 : s.part = 0) (h0' : s'.part = 0) : Mst c d (s.mW (tmsR c rm)) (s'.mW (tmsR d rm)) := by
  obtain ⟨t, u, b1, b2, b3, b4⟩ := h.by'
  unfold Sd.mW
  rw [freeW_sca h]
  cases hf : s.freeW (tmsR c rm) with
  | false => exact .at t (by rw [if_neg (by decide), b1]) (by rw [if_neg (by decide), b2])
  | true =>
    rw [if_pos rfl, if_pos rfl]
    have hw : s.isW rm = true := by
      rw [← isW_tms (c := c)]
      unfold Sd.freeW at hf
      simp only [Bool.and_eq_true] at hf
      exact hf.1.1.1
    unfold Sd.isW at hw
    cases hr : s.row rm with
    | none => rw [hr] at hw; cases hw
    | some r =>
      rw [hr] at hw
      cases r with
      | write a b =>
        refine .below (t + a) ?_ ?_
        · unfold Sd.left; rw [row_tms, hr, b1]; show t * c + (a * c - s.part) - 1 = _; rw [h0, Int.add_mul]; omega
        · unfold Sd.left; rw [row_tms, sca_row h, hr, b2]; show t * d + (a * d - s'.part) - 1 = _; rw [h0', Int.add_mul]; omega
      | _ => cases hw
theorem mR_sca (h : Sca c d s s') (h0 : s.part = 0) (h0' : s'.part = 0) : (s.mR (tmsR c rm) = none ∧ s'.mR (tmsR d rm) = none) ∨ ∃ p q, s.mR (tmsR c rm) = some p ∧ s'.mR (tmsR d rm) = some q ∧ Mst c d p q := by
  obtain ⟨t, u, b1, b2, b3, b4⟩ := h.by'
  unfold Sd.mR
  rw [freeR_sca h]
  cases hf : s.freeR (tmsR c rm) with
  | false => exact .inr ⟨_, _, rfl, rfl, .at u (by rw [b3]) (by rw [b4])⟩
  | true =>
    rw [if_pos rfl, if_pos rfl]
    have hw : s.isR rm = true := by
      rw [← isR_tms (c := c)]
      unfold Sd.freeR at hf
      simp only [Bool.and_eq_true] at hf
      exact hf.1.1
    unfold Sd.isR at hw
    cases hr : s.row rm with
    | none => rw [hr] at hw; cases hw
    | some r =>
      rw [hr] at hw
      cases r with
      | read a e b =>
        refine .inr ⟨_, _, by unfold Sd.left; rw [row_tms, hr]; rfl, by unfold Sd.left; rw [row_tms, sca_row h, hr]; rfl, .below (u + a) ?_ ?_⟩
        · show s.had + (a * c - s.part) - 1 = _; rw [h0, b3, Int.add_mul]; omega
        · show s'.had + (a * d - s'.part) - 1 = _; rw [h0', b4, Int.add_mul]; omega
      | drain b =>
        exact .inl ⟨by unfold Sd.left; rw [row_tms, hr]; rfl, by unfold Sd.left; rw [row_tms, sca_row h, hr]; rfl⟩
      | _ => cases hw
theorem fates_sca (hc : 2 ≤ c) (hd : 2 ≤ d) (h : Sca c d s s') (ho : Sca c d o o') (h0 : s.part = 0) (h0' : s'.part = 0) : fatesT (tmsR c rm) s o = fatesT (tmsR d rm) s' o' := by
  obtain ⟨t, u, b1, b2, b3, b4⟩ := h.by'
  obtain ⟨t2, u2, c1, c2, c3, c4⟩ := ho.by'
  unfold fatesT
  rw [← h.hand, ← h.news, ← ho.hand]
  have e1 := mst_lt hc hd (mW_sca (rm := rm) h h0 h0') c3 c4
  have e2 : (s.had < o.told) ↔ (s'.had < o'.told) := by rw [b3, c1, b4, c2, mul_lt_iff (by omega), mul_lt_iff (by omega)]
  simp only [e1, e2]
  rcases mR_sca (rm := rm) h h0 h0' with ⟨q1, q2⟩ | ⟨p, q, q1, q2, q3⟩
  · rw [q1, q2]
  · rw [q1, q2]
    simp only [mst_le (show 1 ≤ c by omega) (show 1 ≤ d by omega) q3 c1 c2]
end
section
variable {rm ro : List Row} {s s' o o' x : Sd} {c d B C : Int}
/-- how much room a write asks, at so many times the same -/
theorem need_sca (hc : 2 ≤ c) (hd : 2 ≤ d) (h : Sca c d s s') (ho : Sca c d o o') (h0 : o.part = 0) (h0' : o'.part = 0) {a : Int} (hl : s.left (tmsR c rm) = some (a * c)) (hl' : s'.left (tmsR d rm) = some (a * d)) {A : Int} (hA : 1 ≤ A) :
    s.need (tmsR c rm) (tmsR c ro) o ≤ A * c ↔ s'.need (tmsR d rm) (tmsR d ro) o' ≤ A * d := by
  obtain ⟨t, u, b1, b2, b3, b4⟩ := h.by'
  have p1 : 1 ≤ A * c := by have := (mul_le_iff (a := 1) (b := A) (c := c) (by omega)).mpr hA; omega
  have p2 : 1 ≤ A * d := by have := (mul_le_iff (a := 1) (b := A) (c := d) (by omega)).mpr hA; omega
  unfold Sd.need
  rw [hl, hl']
  rcases mR_sca (rm := ro) ho h0 h0' with ⟨q1, q2⟩ | ⟨p, q, q1, q2, q3⟩
  · rw [q1, q2]
    dsimp only
    exact ⟨fun _ => p2, fun _ => p1⟩
  · rw [q1, q2]
    dsimp only [Option.getD_some]
    have k1 : (if s.told + a * c - p > 1 then s.told + a * c - p else 1) ≤ A * c ↔ s.told + a * c - p ≤ A * c := by split <;> omega
    have k2 : (if s'.told + a * d - q > 1 then s'.told + a * d - q else 1) ≤ A * d ↔ s'.told + a * d - q ≤ A * d := by split <;> omega
    rw [k1, k2]
    have e1 : (t + a - A) * c ≤ p ↔ (t + a - A) * d ≤ q := mst_le (by omega) (by omega) q3 rfl rfl
    rw [Int.sub_mul, Int.sub_mul, Int.add_mul, Int.add_mul] at e1
    rw [b1, b2]
    omega
/-- a row ends in the one as in the other -/
theorem ends_sca (hc : 2 ≤ c) (hd : 2 ≤ d) (hp : ProgOk (tmsR c rm)) (hs : OkS B (tmsR c rm) s) (hs' : OkS C (tmsR d rm) s') (h0 : o.part = 0) (h0' : o'.part = 0) (h : Sca c d s s') (ho : Sca c d o o') {A : Option Int} (hA : ∀ y, A = some y → 1 ≤ y)
    {e : EndT} (he : e ∈ endsT (tmsR c rm) (tmsR c ro) s o) (hf : fitT (A.map (· * c)) e.1 = true) : ∃ e' ∈ endsT (tmsR d rm) (tmsR d ro) s' o', Sca c d e.2.2.bare e'.2.2.bare ∧ fitT (A.map (· * d)) e'.1 = true := by
  have fit1d : fitT (A.map (· * d)) 1 = true := fit1 fun y hy => by
    cases A with
    | none => cases hy
    | some z =>
      cases hy
      have := (mul_le_iff (a := 1) (b := z) (c := d) (by omega)).mpr (hA z rfl)
      show 1 ≤ z * d
      omega
  obtain ⟨t, u, b1, b2, b3, b4⟩ := h.by'
  obtain ⟨t2, u2, c1, c2, c3, c4⟩ := ho.by'
  rcases knd hs hp with k | ⟨x, k1, k2, k3, k4⟩ | ⟨i, a, b, k1, k2, k3, k4, k5, k6⟩ | ⟨i, a, e0, b, k1, k2, k3, k4, k5, k6⟩ | ⟨i, b, k1, k2, k3, k4, k5⟩
  · unfold endsT at he
    rw [if_pos k] at he
    cases he
  · rw [eT_B k1 k4, List.mem_singleton] at he
    subst he
    obtain ⟨x', e', sc⟩ := gone_sca h hs hs' k4
    refine ⟨(1, "go", x'), ?_, sc, fit1d⟩
    rw [eT_B (by rw [← h.pos]; exact k1) e']
    exact List.mem_singleton.mpr rfl
  · -- a write
    have hr : ∃ a0, s.row rm = some (.write a0 b) ∧ a = a0 * c := by
      rw [row_tms] at k4
      cases hr : s.row rm with
      | none => rw [hr] at k4; cases k4
      | some r => rw [hr] at k4; cases r <;> cases k4; exact ⟨_, rfl, rfl⟩
    obtain ⟨a0, hr, rfl⟩ := hr
    have hr' : s'.row (tmsR d rm) = some (.write (a0 * d) b) := by rw [row_tms, sca_row h, hr]; rfl
    have hl' : s'.left (tmsR d rm) = some (a0 * d) := by
      unfold Sd.left; rw [hr']; show some (a0 * d - s'.part) = _; rw [hs'.p, Int.sub_zero]
    rw [eT_W k1 k3 hs.p k4, List.mem_singleton] at he
    subst he
    refine ⟨_, by rw [eT_W (by rw [freeW_sca h]; exact k1) (by rw [← h.pos]; exact k3) hs'.p hr']; exact List.mem_singleton.mpr rfl, ?_, ?_⟩
    · exact ⟨rfl, h.hand, h.news, ⟨rfl, rfl⟩, t + a0, u, by show s.told + a0 * c = _; rw [b1, Int.add_mul], by show s'.told + a0 * d = _; rw [b2, Int.add_mul], b3, b4⟩
    · cases A with
      | none => rfl
      | some z =>
        have hf : s.need (tmsR c rm) (tmsR c ro) o ≤ z * c := of_decide_eq_true hf
        exact decide_eq_true ((need_sca hc hd h ho h0 h0' k6 hl' (hA z rfl)).mp hf)
  · -- a read
    have hr : ∃ a0, s.row rm = some (.read a0 e0 b) ∧ a = a0 * c := by
      rw [row_tms] at k4
      cases hr : s.row rm with
      | none => rw [hr] at k4; cases k4
      | some r => rw [hr] at k4; cases r <;> cases k4; exact ⟨_, rfl, rfl⟩
    obtain ⟨a0, hr, rfl⟩ := hr
    have hr' : s'.row (tmsR d rm) = some (.read (a0 * d) e0 b) := by rw [row_tms, sca_row h, hr]; rfl
    have hl' : s'.left (tmsR d rm) = some (a0 * d) := by
      unfold Sd.left; rw [hr']; show some (a0 * d - s'.part) = _; rw [hs'.p, Int.sub_zero]
    have q1 : s.had + a0 * c ≤ o.mW (tmsR c ro) ↔ s'.had + a0 * d ≤ o'.mW (tmsR d ro) :=
      mst_le (u := u + a0) (by omega) (by omega) (mW_sca ho h0 h0') (by rw [b3, Int.add_mul]) (by rw [b4, Int.add_mul])
    have q2 : o.told < s.had + a0 * c ↔ o'.told < s'.had + a0 * d := by
      rw [b3, b4, c1, c2, ← Int.add_mul, ← Int.add_mul, mul_lt_iff (by omega), mul_lt_iff (by omega)]
    rw [eT_R k1 k3 hs.p k4 k6, List.mem_append] at he
    rw [eT_R (by rw [freeR_sca h]; exact k1) (by rw [← h.pos]; exact k3) hs'.p hr' hl']
    rcases he with he | he
    · split at he
      · rename_i hc1
        rw [List.mem_singleton] at he
        subst he
        refine ⟨_, List.mem_append_left _ (by rw [if_pos (q1.mp hc1)]; exact List.mem_singleton.mpr rfl), ?_, fit1d⟩
        exact ⟨rfl, h.hand, h.news, ⟨rfl, rfl⟩, t, u + a0, b1, b2, by show s.had + a0 * c = _; rw [b3, Int.add_mul], by show s'.had + a0 * d = _; rw [b4, Int.add_mul]⟩
      · cases he
    · split at he
      · rename_i hc1
        rw [Bool.and_eq_true, decide_eq_true_eq] at hc1
        rw [List.mem_singleton] at he
        subst he
        refine ⟨_, List.mem_append_right _ (by rw [if_pos (by rw [← ho.hand, hc1.1, decide_eq_true (q2.mp hc1.2)]; rfl)]; exact List.mem_singleton.mpr rfl), ?_, fit1d⟩
        exact ⟨rfl, h.hand, h.news, ⟨rfl, rfl⟩, t, t2, b1, b2, c1, c2⟩
      · cases he
  · -- a drain
    have hr : s.row rm = some (.drain b) := by
      rw [row_tms] at k4
      cases hr : s.row rm with
      | none => rw [hr] at k4; cases k4
      | some r => rw [hr] at k4; cases r <;> cases k4; rfl
    have hr' : s'.row (tmsR d rm) = some (.drain b) := by rw [row_tms, sca_row h, hr]; rfl
    have hl' : s'.left (tmsR d rm) = none := by unfold Sd.left; rw [hr']; rfl
    rw [eT_D k1 k3 k4 k5] at he
    rw [eT_D (by rw [freeR_sca h]; exact k1) (by rw [← h.pos]; exact k3) hr' hl']
    split at he
    · rename_i hc1
      rw [List.mem_singleton] at he
      subst he
      refine ⟨_, by rw [if_pos (by rw [← ho.hand]; exact hc1)]; exact List.mem_singleton.mpr rfl, ?_, fit1d⟩
      exact ⟨rfl, h.hand, h.news, ⟨rfl, rfl⟩, t, t2, b1, b2, c1, c2⟩
    · cases he
end
section
variable {rs : Two (List Row)} {rooms : Two (Option Int)} {st st' : Std} {c d : Int}
def tmsT (c : Int) (rs : Two (List Row)) : Two (List Row) := ⟨tmsR c rs.a, tmsR c rs.b⟩
def tmsM (c : Int) (r : Two (Option Int)) : Two (Option Int) := ⟨r.a.map (· * c), r.b.map (· * c)⟩
theorem tmsT_get {s : Bool} : (tmsT c rs).get s = tmsR c (rs.get s) := by cases s <;> rfl
structure ScaT (c d : Int) (st st' : Std) : Prop where
  sd : ∀ s, Sca c d (st.sd.get s) (st'.sd.get s)
  ft : st.ft = st'.ft
theorem fits_iff {rooms : Two (Option Int)} {s : Bool} {n : Int} (hr : RoomsOk rooms) : (fitT rooms.a (leastT s n).a && fitT rooms.b (leastT s n).b) = true ↔ fitT (rooms.get s) n = true := by
  have h1 := fit1 (hr false)
  have h2 := fit1 (hr true)
  cases s
  · show (fitT rooms.a n && fitT rooms.b 1) = true ↔ fitT rooms.a n = true
    rw [show fitT rooms.b 1 = true from h2, Bool.and_true]
  · show (fitT rooms.a 1 && fitT rooms.b n) = true ↔ fitT rooms.b n = true
    rw [show fitT rooms.a 1 = true from h1, Bool.true_and]
theorem tmsM_get {s : Bool} : (tmsM c rooms).get s = (rooms.get s).map (· * c) := by cases s <;> rfl
theorem rms_tms (hc : 1 ≤ c) (hr : RoomsOk rooms) : RoomsOk (tmsM c rooms) := by
  intro s x hx
  rw [tmsM_get] at hx
  cases h : rooms.get s with
  | none => rw [h] at hx; cases hx
  | some z =>
    rw [h] at hx
    cases hx
    have := (mul_le_iff (a := 1) (b := z) hc).mpr (hr s z h)
    dsimp only
    omega
theorem next_sca {B C : Int} (hc : 2 ≤ c) (hd : 2 ≤ d) (hp : ∀ s, ProgOk ((tmsT c rs).get s)) (hr : RoomsOk rooms) (h : ScaT c d st st') (hs : OkT B (tmsT c rs) st) (hs' : OkT C (tmsT d rs) st') {fl : Two Bool} {i : It} (hi : i ∈ nextT (tmsT c rs) (tmsM c rooms) fl st) :
    ∃ i' ∈ nextT (tmsT d rs) (tmsM d rooms) fl st', ScaT c d i.st i'.st := by
  obtain ⟨s, h1, h2⟩ := next_side hi
  have hs1 := hs.get s
  have hs1' := hs'.get s
  have hp1 := hp s
  rw [tmsT_get] at hs1 hs1' hp1
  have o0 := (hs.get !s).p
  have o0' := (hs'.get !s).p
  have put : ∀ {x x' : Sd} {f f' : Two Fate}, Sca c d x x' → f = f' → ScaT c d ⟨st.sd.put s x, f⟩ ⟨st'.sd.put s x', f'⟩ := fun {x x' f f'} hx hf => ⟨fun z => by
    by_cases q : z = s
    · subst q; show Sca c d ((st.sd.put z x).get z) ((st'.sd.put z x').get z); rw [two_put, two_put]; exact hx
    · have : z = !s := by cases z <;> cases s <;> first | rfl | exact absurd rfl q
      subst this
      show Sca c d ((st.sd.put s x).get !s) ((st'.sd.put s x').get !s)
      rw [two_put_o, two_put_o]
      exact h.sd _, hf⟩
  rcases side_cases h1 with ⟨e, he, rfl⟩ | ⟨f, hf, rfl⟩
  · have hfit : fitT ((tmsM c rooms).get s) e.1 = true := (fits_iff (rms_tms (by omega) hr)).mp h2
    rw [tmsM_get] at hfit
    rw [tmsT_get, tmsT_get] at he
    obtain ⟨e', he', sc, fit'⟩ := ends_sca hc hd hp1 hs1 hs1' o0 o0' (h.sd s) (h.sd !s) (hr s) he hfit
    refine ⟨itEnd fl st' s e', side_next (s := s) ?_ ?_, put sc h.ft⟩
    · unfold sideT
      rw [tmsT_get, tmsT_get]
      exact List.mem_append_left _ (List.mem_map_of_mem he')
    · have := (fits_iff (s := s) (n := e'.1) (rms_tms (c := d) (by omega) hr)).mpr (by rw [tmsM_get]; exact fit')
      exact this
  · rw [tmsT_get] at hf
    rw [fates_sca hc hd (h.sd s) (h.sd !s) hs1.p hs1'.p] at hf
    refine ⟨itFate st' s f, side_next (s := s) ?_ (fits1 (rms_tms (by omega) hr) rfl), put ?_ (by rw [h.ft])⟩
    · unfold sideT
      rw [tmsT_get]
      exact List.mem_append_right _ (List.mem_map_of_mem hf)
    · have q := h.sd s
      exact ⟨q.pos, q.hand, rfl, ⟨rfl, rfl⟩, q.by'⟩
theorem first_sca : ScaT c d firstT firstT := ⟨fun s => by
  cases s <;> exact ⟨rfl, rfl, rfl, ⟨rfl, rfl⟩, 0, 0, by rw [Int.zero_mul]; rfl, by rw [Int.zero_mul]; rfl, by rw [Int.zero_mul]; rfl, by rw [Int.zero_mul]; rfl⟩, rfl⟩
/-- the stands that are reached are so many times the same -/
theorem rch_sca (hc : 2 ≤ c) (hd : 2 ≤ d) (hp : ∀ s, ProgOk ((tmsT c rs).get s)) (hpd : ∀ s, ProgOk ((tmsT d rs).get s)) (hr : RoomsOk rooms) (h : Rch (tmsT c rs) (tmsM c rooms) st) : ∃ st', Rch (tmsT d rs) (tmsM d rooms) st' ∧ ScaT c d st st' := by
  induction h with
  | first => exact ⟨firstT, .first, first_sca⟩
  | next hq hi ih =>
    obtain ⟨st', h1, h2⟩ := ih
    obtain ⟨i', h3, h4⟩ := next_sca hc hd hp hr h2 (hq.met hp).ok (h1.met hpd).ok hi
    exact ⟨i'.st, .next h1 h3, h4⟩
end
end
section
section
def AtR (s : Bool) (i : Int) (st : Std) : Prop := (st.sd.get s).pos = .at i
def goodS (s : Bool) (st : Std) : Bool := decide (st.ft.get s = .whole) || (decide (st.ft.get s = .no) && decide ((st.sd.get s).told ≤ (st.sd.get !s).had))
def dsetB (m : List (Int × Bool)) : List (Key × D) := m.map fun p => (.inl p.1, .bl p.2)
def upB (m : List (Int × Bool)) (i : Int) (b : Bool) : List (Int × Bool) := if i ∈ m.map (·.1) then m.map fun p => if p.1 = i then (i, p.2 && b) else p else m ++ [(i, b)]
def getB (m : List (Int × Bool)) (i : Int) : Option Bool := (m.find? fun p => decide (p.1 = i)).map (·.2)
theorem valD_dsetB (m : List (Int × Bool)) (i : Int) : valD (dsetB m) (.inl i) = (getB m i).map D.bl := by
  induction m with
  | nil => rfl
  | cons p m ih =>
    unfold valD getB dsetB at *
    rw [List.map_cons, List.find?_cons, List.find?_cons]
    by_cases h : p.1 = i
    · rw [decide_eq_true h, decide_eq_true (show (Sum.inl p.1 : Key) = Sum.inl i by rw [h])]
      rfl
    · rw [decide_eq_false h, decide_eq_false (show ¬ (Sum.inl p.1 : Key) = Sum.inl i from fun e => h (Sum.inl.inj e))]
      exact ih
theorem getB_mem {m : List (Int × Bool)} {i : Int} {b : Bool} (h : getB m i = some b) : (i, b) ∈ m := by
  unfold getB at h
  cases hf : m.find? (fun p => decide (p.1 = i)) with
  | none => rw [hf] at h; cases h
  | some p =>
    rw [hf] at h
    have h1 := List.mem_of_find?_eq_some hf
    have h2 : p.1 = i := by
      have := List.find?_some (p := fun p : Int × Bool => decide (p.1 = i)) hf
      exact of_decide_eq_true this
    have h3 := Option.some.inj h
    rw [← h2, ← h3]
    exact h1
theorem getB_none {m : List (Int × Bool)} {i : Int} : getB m i = none ↔ i ∉ m.map (·.1) := by
  unfold getB
  rw [Option.map_eq_none_iff, List.find?_eq_none]
  constructor
  · intro h hm
    obtain ⟨p, hp, rfl⟩ := List.mem_map.mp hm
    exact h p hp (decide_eq_true rfl)
  · intro h p hp e
    exact h (List.mem_map.mpr ⟨p, hp, of_decide_eq_true e⟩)
theorem getB_of {m : List (Int × Bool)} (hn : (m.map (·.1)).Nodup) {i : Int} {b : Bool} (h : (i, b) ∈ m) : getB m i = some b := by
  cases hg : getB m i with
  | none => exact absurd (List.mem_map_of_mem (f := (·.1)) h) (getB_none.mp hg)
  | some c =>
    have h2 := getB_mem hg
    have : ∀ l : List (Int × Bool), (l.map (·.1)).Nodup → (i, b) ∈ l → (i, c) ∈ l → b = c := by
      intro l
      induction l with
      | nil => intro _ h _; cases h
      | cons p l ih =>
        intro hn h1 h2
        rw [List.map_cons, List.nodup_cons] at hn
        rcases List.mem_cons.mp h1 with e1 | h1
        · rcases List.mem_cons.mp h2 with e2 | h2
          · rw [← e1] at e2
            exact (Prod.mk.inj e2).2.symm
          · exact absurd (List.mem_map_of_mem (f := (·.1)) h2) (by rw [← e1] at hn; exact hn.1)
        · rcases List.mem_cons.mp h2 with e2 | h2
          · exact absurd (List.mem_map_of_mem (f := (·.1)) h1) (by rw [← e2] at hn; exact hn.1)
          · exact ih hn.2 h1 h2
    rw [this m hn h h2]
theorem upB_keys (m : List (Int × Bool)) (i : Int) (b : Bool) : (upB m i b).map (·.1) = if i ∈ m.map (·.1) then m.map (·.1) else m.map (·.1) ++ [i] := by
  unfold upB
  split
  · rw [List.map_map]
    apply List.map_congr_left
    intro p _
    show (if p.1 = i then (i, p.2 && b) else p).1 = p.1
    split
    · rename_i h; exact h.symm
    · rfl
  · rw [List.map_append]; rfl
theorem putD_dsetB (m : List (Int × Bool)) (hn : (m.map (·.1)).Nodup) (i : Int) (b : Bool) : putD (dsetB m) (.inl i) (.bl ((getB m i).getD true && b)) = dsetB (upB m i b) := by
  have hm : (dsetB m).any (fun x => decide (x.1 = .inl i)) = decide (i ∈ m.map (·.1)) := by
    rw [Bool.eq_iff_iff, List.any_eq_true, decide_eq_true_eq]
    constructor
    · rintro ⟨x, hx, e⟩
      obtain ⟨y, hy, rfl⟩ := List.mem_map.mp hx
      have := of_decide_eq_true e
      exact List.mem_map.mpr ⟨y, hy, Sum.inl.inj this⟩
    · intro h
      obtain ⟨y, hy, rfl⟩ := List.mem_map.mp h
      exact ⟨_, List.mem_map_of_mem hy, decide_eq_true rfl⟩
  unfold putD
  by_cases h : i ∈ m.map (·.1)
  · rw [if_pos (by rw [hm]; exact decide_eq_true h)]
    unfold upB
    rw [if_pos h]
    unfold dsetB
    rw [List.map_map, List.map_map]
    apply List.map_congr_left
    intro p hp
    show (if (Sum.inl p.1 : Key) = Sum.inl i then ((Sum.inl p.1 : Key), D.bl ((getB m i).getD true && b)) else (Sum.inl p.1, D.bl p.2)) = _
    by_cases e : p.1 = i
    · rw [if_pos (by rw [e])]
      have hg : getB m i = some p.2 := getB_of hn (by rw [← e]; exact hp)
      rw [hg]
      show _ = ((Sum.inl (if p.1 = i then (i, p.2 && b) else p).1 : Key), D.bl (if p.1 = i then (i, p.2 && b) else p).2)
      rw [if_pos e, e]
      rfl
    · rw [if_neg fun q => e (Sum.inl.inj q)]
      show _ = ((Sum.inl (if p.1 = i then (i, p.2 && b) else p).1 : Key), D.bl (if p.1 = i then (i, p.2 && b) else p).2)
      rw [if_neg e]
  · rw [if_neg (by rw [hm, decide_eq_false h]; decide)]
    unfold upB
    rw [if_neg h, getB_none.mpr h]
    unfold dsetB
    rw [List.map_append]
    rfl
/-- what the dict knows of the stands L -/
structure SurI (s : Bool) (L : List Std) (m : List (Int × Bool)) : Prop where
  nd : (m.map (·.1)).Nodup
  ks : ∀ i, i ∈ m.map (·.1) ↔ ∃ st ∈ L, AtR s i st
  vs : ∀ i b, (i, b) ∈ m → (b = true ↔ ∀ st ∈ L, AtR s i st → goodS s st = true)
theorem suri_nil (s : Bool) : SurI s [] [] := ⟨List.nodup_nil, fun i => ⟨fun h => (by cases h), fun ⟨_, h, _⟩ => (by cases h)⟩, fun i b h => (by cases h)⟩
theorem suri_over {s : Bool} {L : List Std} {m : List (Int × Bool)} {st : Std} (h : SurI s L m) (ho : ∀ i, ¬ AtR s i st) : SurI s (L ++ [st]) m := by
  refine ⟨h.nd, fun i => ?_, fun i b hb => ?_⟩
  · rw [h.ks]
    constructor
    · rintro ⟨x, hx, e⟩; exact ⟨x, List.mem_append_left _ hx, e⟩
    · rintro ⟨x, hx, e⟩
      rcases List.mem_append.mp hx with hx | hx
      · exact ⟨x, hx, e⟩
      · rw [List.mem_singleton.mp hx] at e; exact absurd e (ho i)
  · rw [h.vs i b hb]
    constructor
    · intro q x hx e
      rcases List.mem_append.mp hx with hx | hx
      · exact q x hx e
      · rw [List.mem_singleton.mp hx] at e; exact absurd e (ho i)
    · intro q x hx e
      exact q x (List.mem_append_left _ hx) e
theorem suri_at {s : Bool} {L : List Std} {m : List (Int × Bool)} {st : Std} {j : Int} (h : SurI s L m) (ha : AtR s j st) : SurI s (L ++ [st]) (upB m j (goodS s st)) := by
  have one : ∀ {i}, AtR s i st → i = j := fun {i} e => by
    unfold AtR at ha e
    rw [ha] at e
    exact (Pos.at.inj e).symm
  have hks : ∀ i, i ∈ (upB m j (goodS s st)).map (·.1) ↔ i ∈ m.map (·.1) ∨ i = j := fun i => by
    rw [upB_keys]
    split
    · rename_i hm
      exact ⟨.inl, fun q => q.elim id fun e => by rw [e]; exact hm⟩
    · rw [List.mem_append, List.mem_singleton]
  refine ⟨?_, fun i => ?_, fun i b hb => ?_⟩
  · rw [upB_keys]
    split
    · exact h.nd
    · rename_i hm
      rw [List.nodup_append]
      refine ⟨h.nd, by simp, fun a ha b hb q => ?_⟩
      rw [List.mem_singleton.mp hb] at q
      rw [q] at ha
      exact hm ha
  · rw [hks, h.ks]
    constructor
    · rintro (⟨x, hx, e⟩ | rfl)
      · exact ⟨x, List.mem_append_left _ hx, e⟩
      · exact ⟨st, List.mem_append_right _ List.mem_cons_self, ha⟩
    · rintro ⟨x, hx, e⟩
      rcases List.mem_append.mp hx with hx | hx
      · exact .inl ⟨x, hx, e⟩
      · rw [List.mem_singleton.mp hx] at e; exact .inr (one e)
  · have key : (i ≠ j ∧ (i, b) ∈ m) ∨ (i = j ∧ ((∃ c, (j, c) ∈ m ∧ b = (c && goodS s st)) ∨ (j ∉ m.map (·.1) ∧ b = goodS s st))) := by
      unfold upB at hb
      split at hb
      · obtain ⟨p, hp, e⟩ := List.mem_map.mp hb
        by_cases hpj : p.1 = j
        · rw [if_pos hpj] at e
          obtain ⟨e1, e2⟩ := Prod.mk.inj e
          exact .inr ⟨e1.symm, .inl ⟨p.2, by rw [← hpj]; exact hp, e2.symm⟩⟩
        · rw [if_neg hpj] at e
          rw [e] at hp hpj
          exact .inl ⟨hpj, hp⟩
      · rename_i hm
        rcases List.mem_append.mp hb with hb | hb
        · exact .inl ⟨fun e => hm (by rw [← e]; exact List.mem_map_of_mem (f := (·.1)) hb), hb⟩
        · obtain ⟨e1, e2⟩ := Prod.mk.inj (List.mem_singleton.mp hb)
          exact .inr ⟨e1, .inr ⟨hm, e2⟩⟩
    rcases key with ⟨hne, hm⟩ | ⟨rfl, ⟨c, hc, rfl⟩ | ⟨hm, rfl⟩⟩
    · rw [h.vs i b hm]
      constructor
      · intro q x hx e
        rcases List.mem_append.mp hx with hx | hx
        · exact q x hx e
        · rw [List.mem_singleton.mp hx] at e; exact absurd (one e) hne
      · intro q x hx e
        exact q x (List.mem_append_left _ hx) e
    · rw [Bool.and_eq_true, h.vs i c hc]
      constructor
      · rintro ⟨q, g⟩ x hx e
        rcases List.mem_append.mp hx with hx | hx
        · exact q x hx e
        · rw [List.mem_singleton.mp hx]; exact g
      · intro q
        exact ⟨fun x hx e => q x (List.mem_append_left _ hx) e, q st (List.mem_append_right _ List.mem_cons_self) ha⟩
    · constructor
      · intro g x hx e
        rcases List.mem_append.mp hx with hx | hx
        · exact absurd ((h.ks i).mpr ⟨x, hx, e⟩) hm
        · rw [List.mem_singleton.mp hx]; exact g
      · intro q
        exact q st (List.mem_append_right _ List.mem_cons_self) ha
/-- the sure rows: sorted, each once -/
def IsSur (s : Bool) (L : List Std) (R : List Int) : Prop := R.Pairwise (· < ·) ∧ ∀ i, i ∈ R ↔ (∃ st ∈ L, AtR s i st) ∧ ∀ st ∈ L, AtR s i st → goodS s st = true
theorem sur_of {s : Bool} {L : List Std} {m : List (Int × Bool)} (h : SurI s L m) : IsSur s L ((isort (m.map (·.1))).filter fun i => (getB m i).getD false) := by
  refine ⟨List.Pairwise.filter _ ?_, fun i => ?_⟩
  · have h1 := isort_sorted (m.map (·.1))
    have h2 : (isort (m.map (·.1))).Nodup := (sortBy_perm _).nodup_iff.mpr h.nd
    exact (h1.and h2).imp fun {a b} q => by have := q.1; have := q.2; omega
  · rw [List.mem_filter, isort_mem, h.ks]
    constructor
    · rintro ⟨h1, h2⟩
      refine ⟨h1, ?_⟩
      cases hg : getB m i with
      | none => rw [hg] at h2; cases h2
      | some b =>
        rw [hg] at h2
        exact (h.vs i b (getB_mem hg)).mp h2
    · rintro ⟨h1, h2⟩
      refine ⟨h1, ?_⟩
      cases hg : getB m i with
      | none => exact absurd ((h.ks i).mpr h1) (getB_none.mp hg)
      | some b => exact (h.vs i b (getB_mem hg)).mpr h2
end
section
variable {C CP : Addr} {rs : Two (List Row)} {Q : Res × List D → Prop}
abbrev noR : Two (Option Int) := ⟨none, none⟩
theorem fate_wholeK (f : Fate) : kEq (.str f.str) (.str "whole") = some (.bl (decide (f = .whole))) := by cases f <;> kernel_rfl
theorem fate_noK (f : Fate) : kEq (.str f.str) (.str "") = some (.bl (decide (f = .no))) := by cases f <;> kernel_rfl
theorem keyInts_dsetB : ∀ m : List (Int × Bool), keyInts (dsetB m) = some (m.map (·.1))
  | [] => rfl
  | p :: m => by
    show (keyInts (dsetB m)).bind (fun is => some (p.1 :: is)) = _
    rw [keyInts_dsetB m]
    rfl
theorem fm_filter (q : Int → Bool) : ∀ l : List Int, l.filterMap (fun i => if q i = true then some i else none) = l.filter q
  | [] => rfl
  | x :: l => by
    rw [List.filterMap_cons, List.filter_cons, fm_filter q l]
    cases q x <;> rfl
theorem kSortedA_dsetB (m : List (Int × Bool)) : kSortedA [.dk (dsetB m)] = some (.lst ((isort (m.map (·.1))).map D.int)) := by
  show kSorted [.dk (dsetB m)] = _
  unfold kSorted
  dsimp only
  rw [keyInts_dsetB]
  rfl
theorem kGet_dsetB {m : List (Int × Bool)} {i : Int} {b : Bool} (h : getB m i = some b) : kGet (.dk (dsetB m)) (.int i) = some (.bl b) := by
  have := valD_dsetB m i
  rw [h] at this
  show valD (dsetB m) (.inl i) = _
  rw [this]
  rfl
theorem sure2_ok {s : Bool} {p : Stq} {L : List Std} {m : List (Int × Bool)} (h : SurI s L m) (hl : m.length < 16777216) {S0 S1 S5 S6 S7 S8 S9 : Option S} {QS : Out × L3.Env → Prop}
    (k : ∀ m' S5 S6 S7 S8 S9, SurI s (L ++ [p.st]) m' → m'.length ≤ m.length + 1 → QS (.nx, [S0, S1, some (.d (.int (sI s))), some (.own none (.dk (dsetB m'))), some (.d (stqD p)), S5, S6, S7, S8, S9])) :
    Ex (B_sure_2 [S0, S1, some (.d (.int (sI s))), some (.own none (.dk (dsetB m))), some (.d (stqD p)), S5, S6, S7, S8, S9]) QS := by
  unfold B_sure_2 B_sure_1
  cases hp : (p.st.sd.get s).pos with
  | over w =>
    nofun
    rw [hp]
    simp only [Pos.isOver]
    nofun
    exact k m _ _ _ _ _ (suri_over h fun i e => by unfold AtR at e; rw [hp] at e; cases e) (by omega)
  | «at» j =>
    have ha : AtR s j p.st := hp
    have hv : (valD (dsetB m) (.inl j)).getD (.bl true) = .bl ((getB m j).getD true) := by rw [valD_dsetB]; cases getB m j <;> rfl
    have hu : ∀ g, (upB m j g).length ≤ m.length + 1 := fun g => by unfold upB; split <;> simp
    have hd : (dsetB m).length < 16777216 := by unfold dsetB; rw [List.length_map]; exact hl
    have fin : ∀ g (S6 S7 S8 : Option S), g = goodS s p.st → ∃ b, (valD (dsetB m) (.inl j)).getD (.bl true) = .bl b ∧
        (b = true → (dsetB m).length < 16777216 ∧ QS (.nx, [S0, S1, some (.d (.int (sI s))), some (.own none (.dk (putD (dsetB m) (.inl j) (.bl g)))), some (.d (stqD p)), some (.d (.int j)), S6, S7, S8, some (.d (.bl g))])) ∧
        (b = false → (dsetB m).length < 16777216 ∧ QS (.nx, [S0, S1, some (.d (.int (sI s))), some (.own none (.dk (putD (dsetB m) (.inl j) (.bl false)))), some (.d (stqD p)), some (.d (.int j)), S6, S7, S8, some (.d (.bl g))])) := by
      intro g S6 S7 S8 hg
      have hp2 := putD_dsetB m h.nd j g
      refine ⟨(getB m j).getD true, hv, fun hb => ⟨hd, ?_⟩, fun hb => ⟨hd, ?_⟩⟩
      · rw [hb, Bool.true_and] at hp2
        rw [hp2]
        exact k _ _ _ _ _ _ (by rw [hg]; exact suri_at h ha) (hu g)
      · rw [hb, Bool.false_and] at hp2
        rw [hp2]
        exact k _ _ _ _ _ _ (by rw [hg]; exact suri_at h ha) (hu g)
    have g1 : p.st.ft.get s = .whole → true = goodS s p.st := fun e => by unfold goodS; rw [e]; rfl
    have g2 : ¬ p.st.ft.get s = .whole → ¬ p.st.ft.get s = .no → false = goodS s p.st := fun e e2 => by
      unfold goodS; rw [decide_eq_false e, decide_eq_false e2]; rfl
    have g3 : ¬ p.st.ft.get s = .whole → p.st.ft.get s = .no → decide ((p.st.sd.get s).told ≤ (p.st.sd.get !s).had) = goodS s p.st := fun e e2 => by
      unfold goodS; rw [decide_eq_false e, e2]; rfl
    nofun
    rw [hp]
    simp only [Pos.isOver]
    nofun
    rw [fate_wholeK]
    nofun
    refine ⟨fun e => fin _ _ _ _ (g1 e), fun e => ?_⟩
    rw [fate_noK]
    nofun
    exact ⟨fun e2 => fin _ _ _ _ (g3 e e2), fun e2 => fin _ _ _ _ (g2 e e2)⟩
theorem sure_ok {s : Bool} (hp : ∀ s, ProgOk (rs.get s)) (k : ∀ (l : List Stq) (R : List Int), RchL rs noR l → (∀ p ∈ l, Closed rs noR l p) → IsSur s (l.map Stq.st) R → Q (.n (.lst (R.map D.int)), [])) :
    Ex (f_sure CP C [.v (progD CP rs.a), .v (progD CP rs.b), .v (.int (sI s))]) Q := by
  unfold f_sure B_sure B_sure_3
  nofun
  refine reached_ok (rooms := noR) hp fun l h1 h2 => ?_
  nofun
  have hlen := h1.len hp
  refine ex_loop _ (fun j ρ => ∃ m S4 S5 S6 S7 S8 S9, SurI s ((l.take j).map Stq.st) m ∧ m.length ≤ j ∧ ρ = [some (.d (progD CP rs.a)), some (.d (progD CP rs.b)), some (.d (.int (sI s))), some (.own none (.dk (dsetB m))), S4, S5, S6, S7, S8, S9])
    ⟨[], _, _, _, _, _, _, by rw [List.take_zero]; exact suri_nil s, Nat.le_refl _, rfl⟩ ?_ ?_
  · rintro j x ρ hx ⟨m, T4, T5, T6, T7, T8, T9, g1, g2, rfl⟩
    rw [List.getElem?_map] at hx
    cases he : l[j]? with
    | none => rw [he] at hx; cases hx
    | some p =>
      rw [he] at hx
      cases hx
      have hj := (List.getElem?_eq_some_iff.mp he).1
      nofun
      refine sure2_ok g1 (by omega) fun m' S5 S6 S7 S8 S9 v1 v2 => ?_
      refine ⟨m', _, _, _, _, _, _, ?_, by omega, rfl⟩
      rw [List.take_add_one, he, Option.toList_some, List.map_append]
      exact v1
  · rintro ρ ⟨m, T4, T5, T6, T7, T8, T9, g1, g2, rfl⟩
    rw [List.length_map] at g2
    rw [List.length_map, List.take_length] at g1
    nofun
    rw [kSortedA_dsetB]
    have hk : (isort (m.map (·.1))).length = m.length := by rw [show (isort (m.map (·.1))).length = (m.map (·.1)).length from (sortBy_perm _).length_eq, List.length_map]
    nofun
    refine ex_lcP (isort (m.map (·.1))) D.int (fun i => if (getB m i).getD false then some i else none) D.int rfl (by rw [List.length_map]; omega) (fun i hi => ?_) fun ρ' hρ => ?_
    · have hm := isort_mem.mp hi
      cases hg : getB m i with
      | none => exact absurd hm (getB_none.mp hg)
      | some b =>
        nofun
        rw [kGet_dsetB hg]
        nofun
        cases b
        · exact ⟨fun e => (by cases e), fun _ => rfl⟩
        · exact ⟨fun _ => ⟨i, rfl, rfl⟩, fun e => (by cases e)⟩
    · rw [fm_filter]
      nofun
      exact k l _ h1 h2 (sur_of g1)
end
end
section
section
variable {rs : Two (List Row)} {rooms : Two (Option Int)}
def eqStd (x y : Std) : Bool := decide (x.sd.a = y.sd.a) && decide (x.sd.b = y.sd.b) && decide (x.ft.a = y.ft.a) && decide (x.ft.b = y.ft.b)
theorem eqStd_iff {x y : Std} : eqStd x y = true ↔ x = y := by
  unfold eqStd
  simp only [Bool.and_eq_true, decide_eq_true_eq]
  constructor
  · rintro ⟨⟨⟨h1, h2⟩, h3⟩, h4⟩
    obtain ⟨⟨a, b⟩, ⟨c, d⟩⟩ := x
    obtain ⟨⟨e, f⟩, ⟨g, h⟩⟩ := y
    dsimp only at h1 h2 h3 h4
    rw [h1, h2, h3, h4]
  · rintro rfl
    exact ⟨⟨⟨rfl, rfl⟩, rfl⟩, rfl⟩
def stepL (rs : Two (List Row)) (rooms : Two (Option Int)) (st : Std) : List Std := (nextT rs rooms ⟨true, true⟩ st).map It.st
def insW (p : List Std × List Std) (x : Std) : List Std × List Std := if p.1.any (eqStd x) then p else (x :: p.1, x :: p.2)
def bfs (rs : Two (List Row)) (rooms : Two (Option Int)) : Nat → List Std → List Std → List Std
  | 0, f, _ => f
  | _ + 1, f, [] => f
  | n + 1, f, st :: w => bfs rs rooms n ((stepL rs rooms st).foldl insW (f, w)).1 ((stepL rs rooms st).foldl insW (f, w)).2
theorem insW_ok {P : Std → Prop} : ∀ (l : List Std) (p : List Std × List Std), (∀ x ∈ l, P x) → (∀ x ∈ p.1, P x) → (∀ x ∈ p.2, P x) → (∀ x ∈ (l.foldl insW p).1, P x) ∧ ∀ x ∈ (l.foldl insW p).2, P x
  | [], p, _, h1, h2 => ⟨h1, h2⟩
  | a :: l, p, h, h1, h2 => by
    rw [List.foldl_cons]
    have ha := h a List.mem_cons_self
    refine insW_ok l _ (fun x hx => h x (List.mem_cons_of_mem _ hx)) ?_ ?_ <;> (
      unfold insW
      split
      · assumption
      · intro x hx
        rcases List.mem_cons.mp hx with rfl | hx
        · exact ha
        · first | exact h1 x hx | exact h2 x hx)
theorem bfs_rch : ∀ (n : Nat) (f w : List Std), (∀ x ∈ f, Rch rs rooms x) → (∀ x ∈ w, Rch rs rooms x) → ∀ x ∈ bfs rs rooms n f w, Rch rs rooms x
  | 0, f, _, h, _ => h
  | _ + 1, f, [], h, _ => h
  | n + 1, f, st :: w, h, hw => by
    have hs : ∀ x ∈ stepL rs rooms st, Rch rs rooms x := fun x hx => by
      obtain ⟨i, hi, rfl⟩ := List.mem_map.mp hx
      exact .next (hw st List.mem_cons_self) hi
    obtain ⟨a, b⟩ := insW_ok (P := Rch rs rooms) (stepL rs rooms st) (f, w) hs h (fun x hx => hw x (List.mem_cons_of_mem _ hx))
    exact bfs_rch n _ _ a b
def allL (rs : Two (List Row)) (rooms : Two (Option Int)) : List Std := bfs rs rooms 3000 [firstT] [firstT]
def closedB (rs : Two (List Row)) (rooms : Two (Option Int)) (L : List Std) : Bool := L.any (eqStd firstT) && L.all fun st => (stepL rs rooms st).all fun x => L.any (eqStd x)
theorem any_std {L : List Std} {x : Std} : L.any (eqStd x) = true ↔ x ∈ L := by
  rw [List.any_eq_true]
  constructor
  · rintro ⟨y, hy, h⟩
    rw [eqStd_iff.mp h]
    exact hy
  · exact fun h => ⟨x, h, eqStd_iff.mpr rfl⟩
theorem all_rch {L : List Std} (hL : ∀ x ∈ L, Rch rs rooms x) (h : closedB rs rooms L = true) {st : Std} : st ∈ L ↔ Rch rs rooms st := by
  unfold closedB at h
  rw [Bool.and_eq_true] at h
  refine ⟨hL st, fun hr => ?_⟩
  induction hr with
  | first => exact any_std.mp h.1
  | next _ hi ih =>
    obtain ⟨j, hj, e⟩ := nextT_st (fl' := ⟨true, true⟩) hi
    rw [← e]
    exact any_std.mp (List.all_eq_true.mp (List.all_eq_true.mp h.2 _ ih) _ (List.mem_map_of_mem hj))
theorem allL_rch (h : closedB rs rooms (allL rs rooms) = true) {st : Std} : st ∈ allL rs rooms ↔ Rch rs rooms st :=
  all_rch (bfs_rch _ _ _ (fun x hx => by rw [List.mem_singleton.mp hx]; exact .first) (fun x hx => by rw [List.mem_singleton.mp hx]; exact .first)) h
def atB (s : Bool) (i : Int) (st : Std) : Bool := decide ((st.sd.get s).pos = .at i)
def rowS (s : Bool) (st : Std) : Option Int := match (st.sd.get s).pos with
  | .at i => some i
  | _ => none
def surB (s : Bool) (L : List Std) (R : List Int) : Bool :=
  (R.all fun i => L.any (atB s i) && L.all fun st => !atB s i st || goodS s st) &&
  L.all fun st => match rowS s st with
    | none => true
    | some i => R.any (fun j => decide (j = i)) || L.any fun x => atB s i x && !goodS s x
/-- the rows of a side that are sure, by all stands reached -/
def SurP (rs : Two (List Row)) (s : Bool) (R : List Int) : Prop := ∀ i, i ∈ R ↔ (∃ st, Rch rs ⟨none, none⟩ st ∧ AtR s i st) ∧ ∀ st, Rch rs ⟨none, none⟩ st → AtR s i st → goodS s st = true
theorem sur_counted {s : Bool} {R : List Int} (h : closedB rs ⟨none, none⟩ (allL rs ⟨none, none⟩) = true) (hs : surB s (allL rs ⟨none, none⟩) R = true) : SurP rs s R := by
  have hm := fun st => allL_rch h (st := st)
  generalize allL rs ⟨none, none⟩ = L at hs hm
  unfold surB at hs
  rw [Bool.and_eq_true, List.all_eq_true, List.all_eq_true] at hs
  obtain ⟨h1, h2⟩ := hs
  intro i
  constructor
  · intro hi
    have := h1 i hi
    rw [Bool.and_eq_true, List.any_eq_true, List.all_eq_true] at this
    obtain ⟨⟨st, q1, q2⟩, q3⟩ := this
    refine ⟨⟨st, (hm st).mp q1, show (st.sd.get s).pos = .at i from of_decide_eq_true q2⟩, fun x hx ha => ?_⟩
    have := q3 x ((hm x).mpr hx)
    unfold atB at this
    rw [show decide ((x.sd.get s).pos = .at i) = true from decide_eq_true ha] at this
    exact this
  · rintro ⟨⟨st, q1, q2⟩, q3⟩
    have := h2 st ((hm st).mpr q1)
    unfold rowS at this
    rw [show (st.sd.get s).pos = .at i from q2] at this
    dsimp only at this
    rw [Bool.or_eq_true, List.any_eq_true, List.any_eq_true] at this
    rcases this with ⟨j, hj, e⟩ | ⟨x, hx, e⟩
    · rw [← of_decide_eq_true e]; exact hj
    · rw [Bool.and_eq_true] at e
      have := q3 x ((hm x).mp hx) (show (x.sd.get s).pos = .at i from of_decide_eq_true e.1)
      rw [this] at e
      cases e.2
theorem good_sca {c d : Int} (hc : 1 ≤ c) (hd : 1 ≤ d) {st st' : Std} (h : ScaT c d st st') (s : Bool) : goodS s st = goodS s st' := by
  unfold goodS
  obtain ⟨t, u, b1, b2, b3, b4⟩ := (h.sd s).by'
  obtain ⟨t2, u2, c1, c2, c3, c4⟩ := (h.sd !s).by'
  rw [h.ft]
  have : (st.sd.get s).told ≤ (st.sd.get !s).had ↔ (st'.sd.get s).told ≤ (st'.sd.get !s).had := by
    rw [b1, b2, c3, c4, mul_le_iff hc, mul_le_iff hd]
  simp only [this]
theorem sur_sca {c d : Int} (hc : 2 ≤ c) (hd : 2 ≤ d) {s : Bool} {R : List Int} (hp : ∀ s, ProgOk ((tmsT c rs).get s)) (hpd : ∀ s, ProgOk ((tmsT d rs).get s)) (h : SurP (tmsT c rs) s R) : SurP (tmsT d rs) s R := by
  have hr : RoomsOk (⟨none, none⟩ : Two (Option Int)) := fun s x hx => by cases s <;> cases hx
  intro i
  rw [h i]
  have to : ∀ {c d : Int}, 2 ≤ c → 2 ≤ d → (∀ s, ProgOk ((tmsT c rs).get s)) → (∀ s, ProgOk ((tmsT d rs).get s)) → ∀ st, Rch (tmsT c rs) ⟨none, none⟩ st → ∃ st', Rch (tmsT d rs) ⟨none, none⟩ st' ∧ ScaT c d st st' := fun hc hd hp hpd st h => rch_sca (rooms := ⟨none, none⟩) hc hd hp hpd hr h
  constructor
  · rintro ⟨⟨st, q1, q2⟩, q3⟩
    obtain ⟨st', k1, k2⟩ := to hc hd hp hpd st q1
    refine ⟨⟨st', k1, show (st'.sd.get s).pos = .at i by rw [← (k2.sd s).pos]; exact q2⟩, fun x hx ha => ?_⟩
    obtain ⟨y, y1, y2⟩ := to hd hc hpd hp x hx
    rw [good_sca (by omega) (by omega) y2]
    exact q3 y y1 (show (y.sd.get s).pos = .at i by rw [← (y2.sd s).pos]; exact ha)
  · rintro ⟨⟨st, q1, q2⟩, q3⟩
    obtain ⟨st', k1, k2⟩ := to hd hc hpd hp st q1
    refine ⟨⟨st', k1, show (st'.sd.get s).pos = .at i by rw [← (k2.sd s).pos]; exact q2⟩, fun x hx ha => ?_⟩
    obtain ⟨y, y1, y2⟩ := to hc hd hp hpd x hx
    rw [good_sca (by omega) (by omega) y2]
    exact q3 y y1 (show (y.sd.get s).pos = .at i by rw [← (y2.sd s).pos]; exact ha)
theorem sorted_uniq : ∀ {l m : List Int}, l.Pairwise (· < ·) → m.Pairwise (· < ·) → (∀ i, i ∈ l ↔ i ∈ m) → l = m := by
  intro l m hl hm h
  have nd : ∀ {l : List Int}, l.Pairwise (· < ·) → l.Nodup := fun h => h.imp fun {a b} q e => by omega
  have P : l.Perm m := (List.perm_ext_iff_of_nodup (nd hl) (nd hm)).mpr h
  exact List.Perm.eq_of_pairwise (fun a b _ _ h1 h2 => absurd h1 (by omega)) hl hm P
theorem sur_uniq {s : Bool} {L : List Std} {R R' : List Int} (hL : ∀ st, st ∈ L ↔ Rch rs ⟨none, none⟩ st) (h : IsSur s L R) (h' : SurP rs s R') (hs : R'.Pairwise (· < ·)) : R = R' := by
  refine sorted_uniq h.1 hs fun i => ?_
  rw [h.2 i, h' i]
  constructor
  · rintro ⟨⟨st, q1, q2⟩, q3⟩
    exact ⟨⟨st, (hL st).mp q1, q2⟩, fun x hx ha => q3 x ((hL x).mpr hx) ha⟩
  · rintro ⟨⟨st, q1, q2⟩, q3⟩
    exact ⟨⟨st, (hL st).mpr q1, q2⟩, fun x hx ha => q3 x ((hL x).mp hx) ha⟩
end
end
section
section
variable {C CP : Addr} {Q : Res × List D → Prop} {n : Int}
def rsA : Two (List Row) := ⟨[.write 100 4, .one .stop, .drain 4, .one .done, .one .fail], [.read 10 3 3, .write 50 3, .one .close, .one .done]⟩
def rsB : Two (List Row) := ⟨[.write 100 4, .one .stop, .drain 4, .one .done, .one .fail], [.read 10 4 4, .drain 4, .write 50 4, .one .close, .one .done]⟩
def rsC : Two (List Row) := ⟨[.write 8 3, .read 1 3 3, .one .done, .one .fail], [.read 8 3 3, .write 1 3, .one .done, .one .fail]⟩
def rsD : Two (List Row) := ⟨[.write 5 2, .one .abort, .one .done, .one .fail], [.read 5 2 2, .one .done, .one .fail, .one .done]⟩
def okH (rs : Two (List Row)) (c : Int) (R1 R2 : List Int) : Bool :=
  closedB (tmsT c rs) ⟨none, none⟩ (allL (tmsT c rs) ⟨none, none⟩) && surB false (allL (tmsT c rs) ⟨none, none⟩) R1 && surB true (allL (tmsT c rs) ⟨none, none⟩) R2
theorem okA1 : okH rsA 1 [0] [0, 1] = true := by decide +kernel
theorem okA2 : okH rsA 2 [0] [0, 1] = true := by decide +kernel
theorem okB1 : okH rsB 1 [0, 3] [0, 1, 2] = true := by decide +kernel
theorem okB2 : okH rsB 2 [0, 3] [0, 1, 2] = true := by decide +kernel
theorem okC1 : okH rsC 1 [0, 2] [0, 1] = true := by decide +kernel
theorem okC2 : okH rsC 2 [0, 2] [0, 1] = true := by decide +kernel
theorem okD1 : okH rsD 1 [0] [0, 1, 2] = true := by decide +kernel
theorem okD2 : okH rsD 2 [0] [0, 1, 2] = true := by decide +kernel
theorem progX {l : List Row} {q c : Int} (h1 : 1 ≤ l.length) (h2 : l.length ≤ 24) (hr : ∀ (i : Nat) (r : Row), l[i]? = some r → RowOk l.length i r ∧ ∀ a, r.amount = some a → a ≤ q) (hl : ∃ r, l.getLast? = some r ∧ r.ends = true) (hc : 1 ≤ c) (hq : q * c ≤ 1000000000000000000) : ProgOk (tmsR c l) := by
  refine ⟨by unfold tmsR; rw [List.length_map]; exact h1, by unfold tmsR; rw [List.length_map]; exact h2, fun i r hr' => ?_, ?_⟩
  · unfold tmsR at hr' ⊢
    rw [List.getElem?_map] at hr'
    rw [List.length_map]
    cases e : l[i]? with
    | none => rw [e] at hr'; cases hr'
    | some z =>
      rw [e] at hr'
      cases hr'
      obtain ⟨hk, ham⟩ := hr i z e
      have bd : ∀ x, 1 ≤ x → x ≤ q → 1 ≤ x * c ∧ x * c ≤ 1000000000000000000 := fun x g1 g2 => by
        have : 1 * c ≤ x * c := Int.mul_le_mul_of_nonneg_right g1 (by omega)
        have : x * c ≤ q * c := Int.mul_le_mul_of_nonneg_right g2 (by omega)
        omega
      cases z with
      | write x y => exact ⟨hk.1, fun z hz => by cases hz; exact bd x (hk.2 x rfl).1 (ham x rfl)⟩
      | read x y w => exact ⟨hk.1, fun z hz => by cases hz; exact bd x (hk.2 x rfl).1 (ham x rfl)⟩
      | drain y => exact hk
      | one w => exact hk
  · obtain ⟨r, h1, h2⟩ := hl
    refine ⟨r.tms c, by unfold tmsR; rw [List.getLast?_map, h1]; rfl, ?_⟩
    cases r with
    | one w => exact h2
    | _ => cases h2
def rowB (n i : Int) (q : Int) (r : Row) : Bool := (r.targets.all fun t => decide (i + 1 ≤ t ∧ t ≤ n - 1)) && match r.amount with
  | none => true
  | some a => decide (1 ≤ a ∧ a ≤ q)
def progB (l : List Row) (q : Int) : Bool := (List.range l.length).all fun i => match l[i]? with
  | none => true
  | some r => rowB l.length i q r
theorem progB_ok {l : List Row} {q c : Int} (h : progB l q = true) (h1 : 1 ≤ l.length) (h2 : l.length ≤ 24) (hl : ∃ r, l.getLast? = some r ∧ r.ends = true) (hc : 1 ≤ c) (hq : q * c ≤ 1000000000000000000) (hq1 : q ≤ 1000000000000000000) : ProgOk (tmsR c l) := by
  refine progX h1 h2 (fun i r hr => ?_) hl hc hq
  unfold progB at h
  rw [List.all_eq_true] at h
  have := h i (List.mem_range.mpr (List.getElem?_eq_some_iff.mp hr).1)
  rw [hr] at this
  unfold rowB at this
  dsimp only at this
  rw [Bool.and_eq_true, List.all_eq_true] at this
  obtain ⟨g1, g2⟩ := this
  refine ⟨⟨fun t ht => of_decide_eq_true (g1 t ht), fun a ha => ?_⟩, fun a ha => ?_⟩
  · rw [ha] at g2
    have := of_decide_eq_true g2
    exact ⟨this.1, by omega⟩
  · rw [ha] at g2
    exact (of_decide_eq_true g2).2
theorem progH (l : List Row) (h : progB l 100 = true) (h1 : 1 ≤ l.length) (h2 : l.length ≤ 24) (hl : ∃ r, l.getLast? = some r ∧ r.ends = true) (hn : 1 ≤ n) (hn2 : n ≤ 1000000000000000) : ProgOk (tmsR n l) :=
  progB_ok h h1 h2 hl hn (by omega) (by decide)
theorem sur_any {rs : Two (List Row)} {R1 R2 : List Int} (k1 : okH rs 1 R1 R2 = true) (k2 : okH rs 2 R1 R2 = true) (hp : ∀ c, 1 ≤ c → c ≤ 1000000000000000 → ∀ s, ProgOk ((tmsT c rs).get s)) (hn : 1 ≤ n) (hn2 : n ≤ 1000000000000000) (s : Bool) : SurP (tmsT n rs) s (if s = true then R2 else R1) := by
  unfold okH at k1 k2
  rw [Bool.and_eq_true, Bool.and_eq_true] at k1 k2
  have get : ∀ {c : Int}, closedB (tmsT c rs) ⟨none, none⟩ (allL (tmsT c rs) ⟨none, none⟩) = true → surB false (allL (tmsT c rs) ⟨none, none⟩) R1 = true → surB true (allL (tmsT c rs) ⟨none, none⟩) R2 = true → SurP (tmsT c rs) s (if s = true then R2 else R1) := fun h a b => by
    cases s
    · exact sur_counted h a
    · exact sur_counted h b
  by_cases h1 : n = 1
  · subst h1
    exact get k1.1.1 k1.1.2 k1.2
  · exact sur_sca (by decide) (by omega) (hp 2 (by decide) (by decide)) (hp n hn hn2) (get k2.1.1 k2.1.2 k2.2)
theorem both_ok {rs : Two (List Row)} {R1 R2 : List Int} (hp : ∀ s, ProgOk ((tmsT n rs).get s)) (hs : ∀ s, SurP (tmsT n rs) s (if s = true then R2 else R1)) (h1 : R1.Pairwise (· < ·)) (h2 : R2.Pairwise (· < ·))
    (k : Q (.n (.lst [.lst (R1.map D.int), .lst (R2.map D.int)]), [])) : Ex (f_w_both CP C [.v (.lst ((tmsR n rs.a).map rowD)), .v (.lst ((tmsR n rs.b).map rowD))]) Q := by
  unfold f_w_both B_w_both
  nofun
  refine prog_init_ok (hp false) ?_
  nofun
  refine prog_init_ok (hp true) ?_
  nofun
  refine sure_ok (rs := tmsT n rs) (s := false) hp fun l R g1 g2 g3 => ?_
  have e1 : R = R1 := sur_uniq (fun st => rch_st hp g1 g2) g3 (hs false) h1
  subst e1
  nofun
  refine sure_ok (rs := tmsT n rs) (s := true) hp fun l' R' g1' g2' g3' => ?_
  have e2 : R' = R2 := sur_uniq (fun st => rch_st hp g1' g2') g3' (hs true) h2
  subst e2
  nofun
  exact k
theorem pOk {rs : Two (List Row)} (ha : progB rs.a 100 = true) (hb : progB rs.b 100 = true) (a1 : 1 ≤ rs.a.length) (a2 : rs.a.length ≤ 24) (b1 : 1 ≤ rs.b.length) (b2 : rs.b.length ≤ 24) (la : ∃ r, rs.a.getLast? = some r ∧ r.ends = true) (lb : ∃ r, rs.b.getLast? = some r ∧ r.ends = true) :
    ∀ c, 1 ≤ c → c ≤ 1000000000000000 → ∀ s, ProgOk ((tmsT c rs).get s) := fun c h1 h2 s => by
  cases s
  · exact progH rs.a ha a1 a2 la h1 h2
  · exact progH rs.b hb b1 b2 lb h1 h2
theorem pA : ∀ c, 1 ≤ c → c ≤ 1000000000000000 → ∀ s, ProgOk ((tmsT c rsA).get s) := pOk (rs := rsA) (by decide) (by decide) (by decide) (by decide) (by decide) (by decide) ⟨_, rfl, rfl⟩ ⟨_, rfl, rfl⟩
theorem pB : ∀ c, 1 ≤ c → c ≤ 1000000000000000 → ∀ s, ProgOk ((tmsT c rsB).get s) := pOk (rs := rsB) (by decide) (by decide) (by decide) (by decide) (by decide) (by decide) ⟨_, rfl, rfl⟩ ⟨_, rfl, rfl⟩
theorem pC : ∀ c, 1 ≤ c → c ≤ 1000000000000000 → ∀ s, ProgOk ((tmsT c rsC).get s) := pOk (rs := rsC) (by decide) (by decide) (by decide) (by decide) (by decide) (by decide) ⟨_, rfl, rfl⟩ ⟨_, rfl, rfl⟩
theorem pD : ∀ c, 1 ≤ c → c ≤ 1000000000000000 → ∀ s, ProgOk ((tmsT c rsD).get s) := pOk (rs := rsD) (by decide) (by decide) (by decide) (by decide) (by decide) (by decide) ⟨_, rfl, rfl⟩ ⟨_, rfl, rfl⟩
theorem right_ok (hn : 1 ≤ n) (hn2 : n ≤ 1000000000000000) (k : Q (.d (.bl true), [])) : Ex (f_w_is_right CP C [.v (.int n)]) Q := by
  unfold f_w_is_right B_w_is_right B_w_is_right_1 B_w_is_right_2 B_w_is_right_3
  have wn : wide n = true := decide_eq_true ⟨by omega, by omega⟩
  have w1 : wide 100 = true := by decide
  have w2 : wide 50 = true := by decide
  have w3 : wide 10 = true := by decide
  have w4 : wide 8 = true := by decide
  have w5 : wide 5 = true := by decide
  have sA := fun s => sur_any (n := n) okA1 okA2 pA hn hn2 s
  have sB := fun s => sur_any (n := n) okB1 okB2 pB hn hn2 s
  have sC := fun s => sur_any (n := n) okC1 okC2 pC hn hn2 s
  have sD := fun s => sur_any (n := n) okD1 okD2 pD hn hn2 s
  nofun
  simp only [wn, w1, w2, w3, w4, w5, true_and]
  refine both_ok (rs := rsA) (n := n) (pA n hn hn2) sA (by decide) (by decide) ?_
  nofun
  rw [kNe_refl (show sh 64 (D.lst [D.lst [D.int 0], D.lst [D.int 0, D.int 1]]) = true from rfl)]
  nofun
  simp only [wn, w1, w2, w3, w4, w5, true_and]
  refine both_ok (rs := rsB) (n := n) (pB n hn hn2) sB (by decide) (by decide) ?_
  nofun
  rw [kNe_refl (show sh 64 (D.lst [D.lst [D.int 0, D.int 3], D.lst [D.int 0, D.int 1, D.int 2]]) = true from rfl)]
  nofun
  simp only [wn, w1, w2, w3, w4, w5, true_and]
  have eC1 : D.lst [D.tup [.str "write", .int (8 * n), .int 3], .tup [.str "read", .int n, .int 3, .int 3], .tup [.str "done"], .tup [.str "fail"]] = .lst ((tmsR n rsC.a).map rowD) := by
    show _ = D.lst [D.tup [.str "write", .int (8 * n), .int 3], .tup [.str "read", .int (1 * n), .int 3, .int 3], .tup [.str "done"], .tup [.str "fail"]]
    rw [Int.one_mul]
  have eC2 : D.lst [D.tup [.str "read", .int (8 * n), .int 3, .int 3], .tup [.str "write", .int n, .int 3], .tup [.str "done"], .tup [.str "fail"]] = .lst ((tmsR n rsC.b).map rowD) := by
    show _ = D.lst [D.tup [.str "read", .int (8 * n), .int 3, .int 3], .tup [.str "write", .int (1 * n), .int 3], .tup [.str "done"], .tup [.str "fail"]]
    rw [Int.one_mul]
  rw [eC1, eC2]
  refine both_ok (rs := rsC) (n := n) (pC n hn hn2) sC (by decide) (by decide) ?_
  nofun
  rw [kNe_refl (show sh 64 (D.lst [D.lst [D.int 0, D.int 2], D.lst [D.int 0, D.int 1]]) = true from rfl)]
  nofun
  simp only [wn, w1, w2, w3, w4, w5, true_and]
  refine both_ok (rs := rsD) (n := n) (pD n hn hn2) sD (by decide) (by decide) ?_
  nofun
  rw [kEq_refl (show sh 64 (D.lst [D.lst [D.int 0], D.lst [D.int 0, D.int 1, D.int 2]]) = true from rfl)]
  nofun
  exact k
theorem law_ok (ns : List Int) (hl : ns.length ≤ 63) (CP C : Addr) : Ex (f_law CP C [.v (.scr ns)]) fun r => r = (.d (.bl true), []) := by
  unfold f_law B_law
  have hsc : kNeSc (.scr ns) (.lst []) = some (.bl (!ns.isEmpty)) := by
    unfold kNeSc
    dsimp only
    rw [if_pos]
    show (ns.map D.int).all (sh 63) = true
    rw [List.all_map, List.all_eq_true]
    exact fun _ _ => rfl
  nofun
  rw [hsc]
  nofun
  cases ns with
  | nil =>
    refine ⟨fun q => (by cases q), fun _ => ?_⟩
    refine right_ok (by decide) (by decide) ?_
    nofun
    refine right_ok (by decide) (by decide) ?_
    nofun
    rw [show kAll [D.lst [D.bl true, D.bl true]] = some (.bl true) from rfl]
    simp only [putBack, keepD]
    nofun
  | cons x ns =>
    refine ⟨fun _ => ?_, fun q => by cases q⟩
    rw [show atI (x :: ns) 0 = some x by rw [atI_at (by decide) (by simp)]; rfl]
    nofun
    have b0 := Int.emod_nonneg (if x < 0 then -x else x) (show (1000000000000000 : Int) ≠ 0 by decide)
    have b1 := Int.emod_lt_of_pos (if x < 0 then -x else x) (show (0 : Int) < 1000000000000000 by decide)
    refine right_ok (by decide) (by decide) ?_
    nofun
    refine right_ok (by omega) (by omega) ?_
    nofun
    rw [show kAll [D.lst [D.bl true, D.bl true]] = some (.bl true) from rfl]
    simp only [putBack, keepD]
    nofun
theorem law_true (ns : List Int) (hl : ns.length ≤ 63) (CP C : Addr) : f_law CP C [.v (.scr ns)] = some (.d (.bl true), []) := (law_ok ns hl CP C).to
end
end
end My
open PySem PySem.W PySem.Calls PyProof.Rows in
set_option maxRecDepth 100000 in
set_option maxHeartbeats 0 in
theorem PySem.Challenge.cw_lastbytes_k64_sure_rows_by_hand_holds : PySem.Challenge.rw_lastbytes_k64_sure_rows_by_hand.Holds := by
  w_on
  refine My.hLaw fun said => ?_
  refine HX.headX (r := My.R) (q := My.qv) (H := My.hk) (ob := My.ob) (M := My.MM) (k := 19) (loose := My.loose) (d := HandSHeadRun.topDef My.R.prog 43) (kwd := []) (x := "HANDS") (tab := My.tabX) My.ob_eq
    (by kernel_rfl) (fun s => by kernel_rfl) My.hq (by decide) (by decide) (by decide +kernel) My.hE1 My.hE2 My.hE3 My.hE4 My.hns My.hE5 (by kernel_rfl) (by kernel_rfl) (by kernel_rfl) (by rfl) (by first | assumption | decide +kernel) My.hOk My.hBare ?hw ?hc
  case hw => w_witness2
  case hc =>
    refine L2.walk_ofE (l := PySem.Challenge.rw_lastbytes_k64_sure_rows_by_hand) (n := 63) (k := 15) (x := "_law_script") (CX := L2.CX0) rfl (by decide) (by kernel_rfl) ⟨rfl, by decide, by decide⟩ ?F (fun _ _ _ _ z => z)
    intro w mg fa h Y G hmg0
    obtain ⟨K, KX, c, cx⟩ := Y
    have hmg : mg ("law" : PySem.Str) = some (.ref fa) := by
      have e : (HandSHeadRun.topDef My.R.prog 43).name = ("law" : PySem.Str) := by kernel_rfl
      rw [← e]
      exact hmg0
    obtain ⟨fd, hb, hF⟩ := My.facts (P := (PySem.Challenge.rw_lastbytes_k64_sure_rows_by_hand).prog) (w := w) KX G hmg c cx
    exact ⟨K, fd, L3.spF ⟨K, w⟩ (My.f_law (He.ga K "Program") (He.ga K "Side")), KX, hb, fun H a ns hl _ hS => L3.law_end hS (My.law_true ns hl (He.ga K "Program") (He.ga K "Side")), hF⟩
