import PyProof.Rows.All
import Wide.All
import OpenK.AllK
import Wide.FinOn
import HandS.ForMost
import HandS.ForExc
import HandS.Lambda
import HandS.HeadHook4
import HandS.TupAny
import HandS.Style
import HandS.Deep
import HandS.TupMul
import HandS.Text
import HandS.ExcInit
import HandS.Zip
import HandS.Walk
import KE.GoesMore
import HandS.DictComp
import HandS.Flow
import HandS.IsInst
import HandS.TupLen
import HandS.WordsDict
import KE.KTupSum
import KE.KIndexOf
import KE.DataMinMax
import PyProof.ReprRoads
import PyProof.CallFns
import PyProof.FitsInt
import PyProof.StrLawsRepr
import HandS.Conv
import PyProof.Rows.SortWalk
import HandS.Defaults
import HandS.EndBits
import HandS.Head0
import HandS.Head1
import HandS.Head2
import HandS.HeadEnd
import HandS.HeadHook1
import HandS.HeadHook2
import KE.SortData
import HandS.Small
import KE.KDictSum
import HandS.More
import PyProof.Transfer
import HandS.Codes
import HandS.Wide
import KE.GoesZip
import HandS.SetFor
import PyProof.Rows.RuleB_bool
import HandS.ExcIs
import HandS.ExcOwn
import HandS.TryOnly
import HandS.ExcField
import KE.KDflt
import HandS.Replace
import PyProof.StrWalks
import PyProof.StrBlock2
import PyProof.ReprLen
import Open.Row
import PySem.Challenge.RW_stripturns_k33_whole_papers_of_level_wor
set_option Elab.async false
set_option linter.all false
set_option maxRecDepth 100000
set_option maxHeartbeats 4000000
/-! PL0: plain data D, how it lies in the abstract heap, and how it stays. -/
namespace PL
open PySem PySem.Spec PyProof.Rows L2

inductive D where
  | non | bl (b : Bool) | int (i : Int) | str (x : Str)
  | tup (nd : Bool) (xs : List D) | lst (xs : List D)
  | rol (xs : List D)
  | dic (kvs : List (D × D)) | dct (kvs : List (D × D))
  | ins (c : Str) (fs : List (Str × D))
  | glb (x : Str)
  | ty (n : String)
  | exn (a : Addr) (dx : Option Addr) (fs : List (Str × D))
  deriving Inhabited

def isMut : D → Bool
  | .lst _ => true
  | .dic _ => true
  | .dct _ => true
  | .ins _ _ => true
  | _ => false

/-- the key of a dict as plain data -/
def keyD : Key → D
  | .inl i => .int i
  | .inr x => .str x

abbrev Zs := Addr → Prop
/-- a tuple; nd: it is known to have no dict -/
def TupH (nd : Bool) (H : Hp) (a : Addr) (xs : List V) : Prop := if nd = true then ∃ o : Obj, H a = some (.frz o (.tup xs)) ∧ o.dict = none else Rd H a (.tup xs)
def KL (K : PySem.W.Frag) (a : Addr) (xs : List V) : Prop :=
  ∃ (o : Obj) (its : Array Value) (n : Nat), K.lookup a = some o ∧ o.cls = .type "list" ∧ o.dict = none ∧ o.data = .seq its n ∧ its.size ≤ sizeLine ∧ Vals xs its.toList

mutual
/-- v is the datum d in the heap H; nothing tracked below its top lies in Z; nor its top, where t -/
inductive RepP (K : PySem.W.Frag) (mg : Str → Option Value) (Z : Zs) (H : Hp) : Bool → D → V → Prop
  | non {t} : RepP K mg Z H t .non .non
  | bl {t} (b : Bool) : RepP K mg Z H t (.bl b) (.bl b)
  | int {t} (i : Int) : RepP K mg Z H t (.int i) (.int i)
  | str {t} (x : Str) : RepP K mg Z H t (.str x) (.str x)
  | tup {t} {nd : Bool} {a : Addr} {xs : List V} {ds : List D} : TupH nd H a xs → ¬ Z a → RepL K mg Z H ds xs → RepP K mg Z H t (.tup nd ds) (.ref a)
  | lst {t} {a : Addr} {xs : List V} {ds : List D} : H a = some (.lst xs) → (t = true → ¬ Z a) → RepL K mg Z H ds xs → RepP K mg Z H t (.lst ds) (.ref a)
  | rol {t} {a : Addr} {xs : List V} {ds : List D} : (Rd H a (.lst xs) ∧ ¬ Z a) ∨ KL K a xs → RepL K mg Z H ds xs → RepP K mg Z H t (.rol ds) (.ref a)
  | dicK {t} {a : Addr} {ks : List (Key × V)} {kvs : List (D × D)} : H a = some (.dK ks) → (t = true → ¬ Z a) → RepK K mg Z H kvs ks → RepP K mg Z H t (.dic kvs) (.ref a)
  | dicT {t} {a : Addr} {ks : List (List Key × V)} {kvs : List (D × D)} : H a = some (.dT ks) → (t = true → ¬ Z a) → RepT K mg Z H kvs ks → RepP K mg Z H t (.dct kvs) (.ref a)
  | ins {t} {a C dx : Addr} {c : Str} {fs : List (Str × D)} {fv : List (Str × V)} : mg c = some (.ref C) → H a = some (.ins C dx fv) → (t = true → ¬ Z a) → RepF K mg Z H fs fv → RepP K mg Z H t (.ins c fs) (.ref a)
  | glb {t} {x : Str} {a : Addr} : mg x = some (.ref a) → RepP K mg Z H t (.glb x) (.ref a)
  | ty {t} (n : String) : RepP K mg Z H t (.ty n) (.ty n)
  | exn {t} {a : Addr} {fs : List (Str × D)} : RepP K mg Z H t (.exn a none fs) (.ref a)
  | exnF {t} {a x : Addr} {fs : List (Str × D)} {fv : List (Str × V)} : H x = some (.xd fv) → ¬ Z x → RepF K mg Z H fs fv → RepP K mg Z H t (.exn a (some x) fs) (.ref a)
inductive RepL (K : PySem.W.Frag) (mg : Str → Option Value) (Z : Zs) (H : Hp) : List D → List V → Prop
  | nil : RepL K mg Z H [] []
  | cons {d : D} {v : V} {ds : List D} {vs : List V} : RepP K mg Z H true d v → RepL K mg Z H ds vs → RepL K mg Z H (d :: ds) (v :: vs)
inductive RepF (K : PySem.W.Frag) (mg : Str → Option Value) (Z : Zs) (H : Hp) : List (Str × D) → List (Str × V) → Prop
  | nil : RepF K mg Z H [] []
  | cons {x : Str} {d : D} {v : V} {fs : List (Str × D)} {fv : List (Str × V)} : RepP K mg Z H true d v → RepF K mg Z H fs fv → RepF K mg Z H ((x, d) :: fs) ((x, v) :: fv)
inductive RepK (K : PySem.W.Frag) (mg : Str → Option Value) (Z : Zs) (H : Hp) : List (D × D) → List (Key × V) → Prop
  | nil : RepK K mg Z H [] []
  | cons {k : Key} {d : D} {v : V} {ds : List (D × D)} {ks : List (Key × V)} : RepP K mg Z H true d v → RepK K mg Z H ds ks → RepK K mg Z H ((keyD k, d) :: ds) ((k, v) :: ks)
inductive RepT (K : PySem.W.Frag) (mg : Str → Option Value) (Z : Zs) (H : Hp) : List (D × D) → List (List Key × V) → Prop
  | nil : RepT K mg Z H [] []
  | cons {k : List Key} {d : D} {v : V} {ds : List (D × D)} {ks : List (List Key × V)} : RepP K mg Z H true d v → RepT K mg Z H ds ks → RepT K mg Z H ((.tup false (k.map keyD), d) :: ds) ((k, v) :: ks)
end
/-- a value that may be handed on -/
abbrev Rep (K : PySem.W.Frag) (mg : Str → Option Value) (Z : Zs) (H : Hp) (d : D) (v : V) : Prop := RepP K mg Z H true d v
/-- a value that is looked at -/
abbrev Peek (K : PySem.W.Frag) (mg : Str → Option Value) (Z : Zs) (H : Hp) (d : D) (v : V) : Prop := RepP K mg Z H false d v

/-! ### tables of code objects -/
/-- no table -/
def NT : HO → Prop
  | .tbl _ => False
  | _ => True
/-- neither a table nor a thing by what is true of it -/
def NTE : HO → Prop
  | .tbl _ => False
  | .ext _ => False
  | _ => True
def lawPre (x : Str) : Bool := decide (x.cps.toList.take 4 = [95, 108, 97, 119]) || decide (x.cps.toList = [108, 97, 119])
/-- a def of the law: its code object, that one's table, the name of lambdas in it -/
def lamTab (K : PySem.W.Frag) (o : Obj) : Option (Addr × Addr × Str) := match o.data with
  | .func fd => if lawPre fd.name = true then (match fd.code with
    | .ref c => some (c, He.tabOf K c, fd.qualname ++ ".<locals>." ++ "<lambda>")
    | _ => none) else none
  | _ => none
def lamTabs (K : PySem.W.Frag) : List (Addr × Addr × Str) := K.filterMap fun p => lamTab K p.2
def tabsL (K : PySem.W.Frag) : List (Addr × Str) := (lamTabs K).map fun p => (p.2.1, p.2.2)
abbrev TabsK (K : PySem.W.Frag) (H : Hp) : Prop := LamX.Tabs (tabsL K) H
theorem TabsK.keep {K : PySem.W.Frag} {H H' : Hp} (t : TabsK K H) (k : ∀ b o, H b = some o → ¬ NTE o → H' b = some o) : TabsK K H' := fun p hp => by
  obtain ⟨ps, h1, h2, h3⟩ := t p hp
  refine ⟨ps, k _ _ h1 id, h2, fun pos cv hc => ?_⟩
  obtain ⟨c, e1, e2⟩ := h3 pos cv hc
  exact ⟨c, e1, k _ _ e2 (by unfold LamX.CodeO; exact id)⟩
theorem TabsK.ext {K : PySem.W.Frag} {H H' : Hp} (t : TabsK K H) (k : ∀ b o, H b = some o → H' b = some o) : TabsK K H' := LamX.Tabs.ext t k
/-- all stays but the object at a, which is neither -/
theorem TabsK.poke {K : PySem.W.Frag} {H H' : Hp} {a : Addr} {o : HO} (t : TabsK K H) (ha : H a = some o) (n : NTE o) (k : ∀ b u, b ≠ a → H b = some u → H' b = some u) : TabsK K H' :=
  t.keep fun b u e z => k b u (fun q => z (by rw [q, ha] at e; cases e; exact n)) e

/-! ### what keeps it -/
/-- from (Z, H) to (Z', H'): what is tracked outside of Z stands, and is outside of Z' -/
def Keeps (Z Z' : Zs) (H H' : Hp) : Prop := ∀ b o, ¬ Z b → H b = some o → NT o → H' b = some o ∧ ¬ Z' b
section
variable {K : PySem.W.Frag} {mg : Str → Option Value} {Z Z' Z'' : Zs} {H H' H'' : Hp} {t : Bool}
theorem Keeps.rd (k : Keeps Z Z' H H') {a : Addr} {u : HO} (nz : ¬ Z a) (h : Rd H a u) (n : NT u := by trivial) : Rd H' a u ∧ ¬ Z' a := by
  rcases h with h | ⟨o, h⟩
  · exact ⟨.inl (k _ _ nz h n).1, (k _ _ nz h n).2⟩
  · exact ⟨.inr ⟨o, (k _ _ nz h trivial).1⟩, (k _ _ nz h trivial).2⟩
theorem TupH.keep {nd : Bool} {a : Addr} {xs : List V} (h : TupH nd H a xs) (k : Keeps Z Z' H H') (nz : ¬ Z a) : TupH nd H' a xs ∧ ¬ Z' a := by
  unfold TupH at h ⊢
  split at h
  · rename_i e
    rw [if_pos e]
    obtain ⟨o, h, d⟩ := h
    exact ⟨⟨o, (k _ _ nz h trivial).1, d⟩, (k _ _ nz h trivial).2⟩
  · rename_i e
    rw [if_neg e]
    exact k.rd nz h
theorem TupH.rd {nd : Bool} {a : Addr} {xs : List V} (h : TupH nd H a xs) : Rd H a (.tup xs) := by
  unfold TupH at h
  split at h
  · obtain ⟨o, h, _⟩ := h; exact .inr ⟨o, h⟩
  · exact h
theorem TupH.sq {nd : Bool} {a : Addr} {xs : List V} (h : TupH nd H a xs) : SqT K H a xs := .inl h.rd
theorem TupH.of {a : Addr} {xs : List V} (h : H a = some (.tup xs)) : TupH false H a xs := .inl h
theorem Keeps.trans (k : Keeps Z Z' H H') (k' : Keeps Z' Z'' H' H'') : Keeps Z Z'' H H'' := fun b o nz e n => k' b o (k b o nz e n).2 (k b o nz e n).1 n
theorem Keeps.refl : Keeps Z Z H H := fun b o nz e _ => ⟨e, nz⟩
/-- fewer forbidden -/
theorem Keeps.sub (h : ∀ a, Z' a → Z a) : Keeps Z Z' H H := fun b o nz e _ => ⟨e, fun z => nz (h b z)⟩
mutual
theorem RepP.mono (k : Keeps Z Z' H H') : ∀ {d : D} {v : V}, RepP K mg Z H true d v → RepP K mg Z' H' true d v
  | _, _, .non => .non
  | _, _, .bl b => .bl b
  | _, _, .int i => .int i
  | _, _, .str x => .str x
  | _, _, .ty x => .ty x
  | _, _, .tup h nz r => .tup (h.keep k nz).1 (h.keep k nz).2 (RepL.mono k r)
  | _, _, .lst h nz r => .lst (k _ _ (nz rfl) h trivial).1 (fun _ => (k _ _ (nz rfl) h trivial).2) (RepL.mono k r)
  | _, _, .rol (.inl h) r => .rol (.inl (k.rd h.2 h.1)) (RepL.mono k r)
  | _, _, .rol (.inr h) r => .rol (.inr h) (RepL.mono k r)
  | _, _, .dicK h nz r => .dicK (k _ _ (nz rfl) h trivial).1 (fun _ => (k _ _ (nz rfl) h trivial).2) (RepK.mono k r)
  | _, _, .dicT h nz r => .dicT (k _ _ (nz rfl) h trivial).1 (fun _ => (k _ _ (nz rfl) h trivial).2) (RepT.mono k r)
  | _, _, .ins c h nz r => .ins c (k _ _ (nz rfl) h trivial).1 (fun _ => (k _ _ (nz rfl) h trivial).2) (RepF.mono k r)
  | _, _, .glb m => .glb m
  | _, _, .exn => .exn
  | _, _, .exnF h nz r => .exnF (k _ _ nz h trivial).1 (k _ _ nz h trivial).2 (RepF.mono k r)
theorem RepL.mono (k : Keeps Z Z' H H') : ∀ {ds : List D} {vs : List V}, RepL K mg Z H ds vs → RepL K mg Z' H' ds vs
  | _, _, .nil => .nil
  | _, _, .cons h t => .cons (RepP.mono k h) (RepL.mono k t)
theorem RepF.mono (k : Keeps Z Z' H H') : ∀ {ds : List (Str × D)} {vs : List (Str × V)}, RepF K mg Z H ds vs → RepF K mg Z' H' ds vs
  | _, _, .nil => .nil
  | _, _, .cons h t => .cons (RepP.mono k h) (RepF.mono k t)
theorem RepK.mono (k : Keeps Z Z' H H') : ∀ {ds : List (D × D)} {vs : List (Key × V)}, RepK K mg Z H ds vs → RepK K mg Z' H' ds vs
  | _, _, .nil => .nil
  | _, _, .cons h t => .cons (RepP.mono k h) (RepK.mono k t)
theorem RepT.mono (k : Keeps Z Z' H H') : ∀ {ds : List (D × D)} {vs : List (List Key × V)}, RepT K mg Z H ds vs → RepT K mg Z' H' ds vs
  | _, _, .nil => .nil
  | _, _, .cons h t => .cons (RepP.mono k h) (RepT.mono k t)
end
/-- a value whose top stands, whatever Z says of it -/
theorem RepP.top (k : Keeps Z Z' H H') {d : D} {v : V} (h : RepP K mg Z H false d v) (ht : ∀ a o, v = .ref a → H a = some o → NT o → H' a = some o) : RepP K mg Z' H' false d v := by
  cases h with
  | non => exact .non
  | bl b => exact .bl b
  | int i => exact .int i
  | str x => exact .str x
  | ty x => exact .ty x
  | tup h nz r => exact .tup (h.keep k nz).1 (h.keep k nz).2 (r.mono k)
  | lst h nz r => exact .lst (ht _ _ rfl h trivial) (fun e => by cases e) (r.mono k)
  | rol h r =>
    rcases h with h | h
    · exact .rol (.inl (k.rd h.2 h.1)) (r.mono k)
    · exact .rol (.inr h) (r.mono k)
  | dicK h nz r => exact .dicK (ht _ _ rfl h trivial) (fun e => by cases e) (r.mono k)
  | dicT h nz r => exact .dicT (ht _ _ rfl h trivial) (fun e => by cases e) (r.mono k)
  | ins c h nz r => exact .ins c (ht _ _ rfl h trivial) (fun e => by cases e) (r.mono k)
  | glb m => exact .glb m
  | exn => exact .exn
  | exnF h nz r => exact .exnF (k _ _ nz h trivial).1 (k _ _ nz h trivial).2 (r.mono k)
/-- a top that is known to be outside -/
theorem RepP.up {d : D} {v : V} (h : RepP K mg Z H false d v) (nz : ∀ a, v = .ref a → ¬ Z a) : RepP K mg Z H true d v := by
  cases h with
  | non => exact .non
  | bl b => exact .bl b
  | int i => exact .int i
  | str x => exact .str x
  | ty x => exact .ty x
  | tup h n1 r => exact .tup h n1 r
  | lst h _ r => exact .lst h (fun _ => nz _ rfl) r
  | rol h r => exact .rol h r
  | dicK h _ r => exact .dicK h (fun _ => nz _ rfl) r
  | dicT h _ r => exact .dicT h (fun _ => nz _ rfl) r
  | ins c h _ r => exact .ins c h (fun _ => nz _ rfl) r
  | glb m => exact .glb m
  | exn => exact .exn
  | exnF h n1 r => exact .exnF h n1 r
theorem RepP.down {d : D} {v : V} (h : RepP K mg Z H true d v) : RepP K mg Z H false d v := by
  cases h with
  | non => exact .non
  | bl b => exact .bl b
  | int i => exact .int i
  | str x => exact .str x
  | ty x => exact .ty x
  | tup h nz r => exact .tup h nz r
  | lst h _ r => exact .lst h (fun e => by cases e) r
  | rol h r => exact .rol h r
  | dicK h _ r => exact .dicK h (fun e => by cases e) r
  | dicT h _ r => exact .dicT h (fun e => by cases e) r
  | ins c h _ r => exact .ins c h (fun e => by cases e) r
  | glb m => exact .glb m
  | exn => exact .exn
  | exnF h nz r => exact .exnF h nz r

theorem RepP.up' {d : D} {v : V} (h : RepP K mg Z H t d v) (m : isMut d = false) : RepP K mg Z H true d v := by
  cases h with
  | non => exact .non
  | bl b => exact .bl b
  | int i => exact .int i
  | str x => exact .str x
  | ty x => exact .ty x
  | tup h nz r => exact .tup h nz r
  | rol h r => exact .rol h r
  | glb q => exact .glb q
  | exn => exact .exn
  | exnF h nz r => exact .exnF h nz r
  | lst h _ r => cases m
  | dicK h _ r => cases m
  | dicT h _ r => cases m
  | ins c h _ r => cases m

/-! ### lists -/
theorem RepL.length : ∀ {ds : List D} {vs : List V}, RepL K mg Z H ds vs → ds.length = vs.length
  | _, _, .nil => rfl
  | _, _, .cons _ t => by simp [RepL.length t]
theorem RepL.append : ∀ {ds es : List D} {vs ws : List V}, RepL K mg Z H ds vs → RepL K mg Z H es ws → RepL K mg Z H (ds ++ es) (vs ++ ws)
  | _, _, _, _, .nil, q => q
  | _, _, _, _, .cons h t, q => .cons h (RepL.append t q)
theorem RepL.get : ∀ {ds : List D} {vs : List V} {i : Nat} {d : D}, RepL K mg Z H ds vs → ds[i]? = some d → ∃ v, vs[i]? = some v ∧ Rep K mg Z H d v
  | _, _, _, _, .nil, e => by simp at e
  | _, _, 0, _, .cons h t, e => by
    simp at e; subst e; exact ⟨_, rfl, h⟩
  | _, _, i + 1, d, .cons h t, e => by
    obtain ⟨v, h1, h2⟩ := RepL.get (i := i) (d := d) t (by simpa using e)
    exact ⟨v, by simpa using h1, h2⟩
theorem RepL.take : ∀ {ds : List D} {vs : List V} (n : Nat), RepL K mg Z H ds vs → RepL K mg Z H (ds.take n) (vs.take n)
  | _, _, 0, _ => by simp; exact .nil
  | _, _, _ + 1, .nil => .nil
  | _, _, n + 1, .cons h t => .cons h (RepL.take n t)
theorem RepL.drop : ∀ {ds : List D} {vs : List V} (n : Nat), RepL K mg Z H ds vs → RepL K mg Z H (ds.drop n) (vs.drop n)
  | _, _, 0, h => h
  | _, _, _ + 1, .nil => .nil
  | _, _, n + 1, .cons h t => RepL.drop n t
theorem RepL.set : ∀ {ds : List D} {vs : List V} (n : Nat) {d : D} {v : V}, RepL K mg Z H ds vs → Rep K mg Z H d v → RepL K mg Z H (ds.set n d) (vs.set n v)
  | _, _, _, _, _, .nil, _ => .nil
  | _, _, 0, _, _, .cons h t, q => .cons q t
  | _, _, n + 1, _, _, .cons h t, q => .cons h (RepL.set n t q)
theorem RepL.reverse : ∀ {ds : List D} {vs : List V}, RepL K mg Z H ds vs → RepL K mg Z H ds.reverse vs.reverse
  | _, _, .nil => .nil
  | _, _, .cons h t => by
    simp only [List.reverse_cons]
    exact (RepL.reverse t).append (.cons h .nil)
theorem RepL.eraseIdx : ∀ {ds : List D} {vs : List V} (n : Nat), RepL K mg Z H ds vs → RepL K mg Z H (ds.eraseIdx n) (vs.eraseIdx n)
  | _, _, _, .nil => by simp; exact .nil
  | _, _, 0, .cons h t => by simpa using t
  | _, _, n + 1, .cons h t => by simpa using .cons h (RepL.eraseIdx n t)
end
end PL
set_option Elab.async false
set_option linter.all false
set_option maxRecDepth 100000
set_option maxHeartbeats 4000000
set_option autoImplicit false
/-! PL1: the slots as plain data, what an expression's denotation is, and when it stands for the model's run. -/
namespace PL
open PySem PySem.Spec PyProof.Rows L2

/-- the slots: none, or a datum with the mark «this name alone holds it» -/
abbrev DSt := List (Option (Bool × D))
inductive Out (α : Type) where
  | ok (a : α) (st : DSt)
  | exc (c : Str) (fs : List (Str × D)) (st : DSt)
  | stuck
abbrev M (α : Type) := DSt → Out α
def M.bind {α β : Type} (m : M α) (f : α → M β) : M β := fun st => match m st with
  | .ok a st' => f a st'
  | .exc c fs st' => .exc c fs st'
  | .stuck => .stuck
def M.pure {α : Type} (a : α) : M α := fun st => .ok a st
def M.stop {α : Type} : M α := fun _ => .stuck
def M.lift {α : Type} : Option α → M α
  | some a => M.pure a
  | none => M.stop

/-- what holds of an outcome: stuck is never good -/
def Out.post {α : Type} (o : Out α) (k : α → DSt → Prop) (x : Str → List (Str × D) → DSt → Prop) : Prop := match o with
  | .ok a st => k a st
  | .exc c fs st => x c fs st
  | .stuck => False
section
variable {α β : Type} {m : M α} {f : α → M β} {st : DSt} {k : β → DSt → Prop} {x : Str → List (Str × D) → DSt → Prop}
theorem post_bind : (M.bind m f st).post k x ↔ (m st).post (fun a st' => (f a st').post k x) x := by
  unfold M.bind
  cases m st <;> exact Iff.rfl
theorem post_pure {a : β} : (M.pure a st).post k x ↔ k a st := Iff.rfl
theorem post_stop : ¬ ((M.stop : M β) st).post k x := id
theorem post_lift {o : Option β} : (M.lift o st).post k x ↔ ∃ a, o = some a ∧ k a st := by
  cases o with
  | none => exact ⟨fun h => h.elim, fun ⟨a, e, _⟩ => by cases e⟩
  | some b => exact ⟨fun h => ⟨b, rfl, h⟩, fun ⟨a, e, h⟩ => by cases e; exact h⟩
theorem Out.post.mono {o : Out β} {k' : β → DSt → Prop} {x' : Str → List (Str × D) → DSt → Prop} (h : o.post k x) (hk : ∀ a st, k a st → k' a st) (hx : ∀ c fs st, x c fs st → x' c fs st) : o.post k' x' := by
  cases o with
  | ok a st => exact hk _ _ h
  | exc c fs st => exact hx _ _ _ h
  | stuck => exact h
end

/-- what others hold, and the object that the first parameter is to stay -/
structure Zp where
  z : Zs
  pin : Option Addr
def Zp.add (Z : Zp) (a : Addr) : Zp := ⟨fun b => Z.z b ∨ b = a, Z.pin⟩
def OwnAt (st : DSt) (σ : L2.St) (a : Addr) : Prop := ∃ (i : Nat) (d : D), st[i]? = some (some (true, d)) ∧ σ[i]? = some (some (V.ref a))
def ZZ (Z₀ : Zp) (st : DSt) (σ : L2.St) : Zs := fun a => Z₀.z a ∨ OwnAt st σ a
def Zadd (Z : Zs) (a : Addr) : Zs := fun b => Z b ∨ b = a

structure Sim (K : PySem.W.Frag) (mg : Str → Option Value) (Z₀ : Zp) (st : DSt) (σ : L2.St) (H : Hp) : Prop where
  len : st.length = σ.length
  val : ∀ (i : Nat) (b : Bool) (d : D), st[i]? = some (some (b, d)) → ∃ v, σ[i]? = some (some v) ∧ RepP K mg (ZZ Z₀ st σ) H (!b) d v ∧ (b = true → isMut d = true)
  inj : ∀ (i j : Nat) (d d' : D) (a : Addr), st[i]? = some (some (true, d)) → st[j]? = some (some (true, d')) → σ[i]? = some (some (V.ref a)) → σ[j]? = some (some (V.ref a)) → i = j
  apart : ∀ a, OwnAt st σ a → ¬ Z₀.z a
  dom : ∀ a, Z₀.z a → H a ≠ none
  pin : ∀ a, Z₀.pin = some a → σ[0]? = some (some (V.ref a))
  tabs : TabsK K H

/-- from one stand to a later one -/
structure Grow (st : DSt) (σ : L2.St) (H : Hp) (st' : DSt) (σ' : L2.St) (H' : Hp) : Prop where
  keep : ∀ b o, H b = some o → ¬ OwnAt st σ b → NT o → H' b = some o
  own : ∀ b, OwnAt st' σ' b → OwnAt st σ b ∨ H b = none
  dom : ∀ b, H b ≠ none → H' b ≠ none

section
variable {K : PySem.W.Frag} {mg : Str → Option Value} {Z Z' : Zs} {Z₀ : Zp} {H H' H'' : Hp} {st st' st'' : DSt} {σ σ' σ'' : L2.St} {d : D} {v : V} {a : Addr} {i : Nat} {b : Bool}

theorem RepP.mut_ref {t : Bool} (h : RepP K mg Z H t d v) (m : isMut d = true) : ∃ a o, v = .ref a ∧ H a = some o := by
  cases h <;> first | (cases m; done) | skip
  · rename_i h _ _; exact ⟨_, _, rfl, h⟩
  · rename_i h _ _; exact ⟨_, _, rfl, h⟩
  · rename_i h _ _; exact ⟨_, _, rfl, h⟩
  · rename_i _ h _ _; exact ⟨_, _, rfl, h⟩
theorem RepP.mut_ref' {t : Bool} (h : RepP K mg Z H t d v) (m : isMut d = true) : ∃ a o, v = .ref a ∧ H a = some o ∧ NTE o := by
  cases h <;> first | (cases m; done) | skip
  · rename_i h _ _; exact ⟨_, _, rfl, h, trivial⟩
  · rename_i h _ _; exact ⟨_, _, rfl, h, trivial⟩
  · rename_i h _ _; exact ⟨_, _, rfl, h, trivial⟩
  · rename_i _ h _ _; exact ⟨_, _, rfl, h, trivial⟩
theorem Sim.own_dom (S : Sim K mg Z₀ st σ H) (h : OwnAt st σ a) : H a ≠ none := by
  obtain ⟨i, d, h1, h2⟩ := h
  obtain ⟨v, e, r, m⟩ := S.val i _ d h1
  rw [h2] at e
  cases e
  obtain ⟨b, o, e, q⟩ := r.mut_ref (m rfl)
  cases e
  rw [q]
  simp
theorem Sim.zdom (S : Sim K mg Z₀ st σ H) : ∀ a, ZZ Z₀ st σ a → H a ≠ none := fun a h => h.elim (S.dom a) S.own_dom
theorem Grow.refl : Grow st σ H st σ H := ⟨fun _ _ h _ _ => h, fun _ h => .inl h, fun _ h => h⟩
theorem Grow.trans (g : Grow st σ H st' σ' H') (g' : Grow st' σ' H' st'' σ'' H'') : Grow st σ H st'' σ'' H'' where
  keep := fun b o h n nt => g'.keep b o (g.keep b o h n nt) (fun z => (g.own b z).elim n fun z => by rw [z] at h; cases h) nt
  own := fun b h => by
    rcases g'.own b h with h | h
    · exact g.own b h
    · refine .inr ?_
      cases q : H b with
      | none => rfl
      | some o => exact absurd h (g.dom b (by rw [q]; simp))
  dom := fun b h => g'.dom b (g.dom b h)
theorem Grow.keeps (g : Grow st σ H st' σ' H') : Keeps (ZZ Z₀ st σ) (ZZ Z₀ st' σ') H H' := fun b o nz e nt => by
  refine ⟨g.keep b o e (fun z => nz (.inr z)) nt, fun z => ?_⟩
  rcases z with z | z
  · exact nz (.inl z)
  · rcases g.own b z with z | z
    · exact nz (.inr z)
    · rw [z] at e; cases e
theorem Grow.rep (g : Grow st σ H st' σ' H') (h : Rep K mg (ZZ Z₀ st σ) H d v) : Rep K mg (ZZ Z₀ st' σ') H' d v := h.mono g.keeps

/-- the heap grows, tables may be written -/
structure Ext (K : PySem.W.Frag) (H H' : Hp) : Prop where
  k : ∀ b o, H b = some o → NT o → H' b = some o
  dom : ∀ b, H b ≠ none → H' b ≠ none
  tabs : TabsK K H'
theorem Ext.of (t : TabsK K H) (k : ∀ b o, H b = some o → H' b = some o) : Ext K H H' :=
  ⟨fun b o e _ => k b o e, fun b h => by
    cases q : H b with
    | none => exact absurd q h
    | some o => rw [k b o q]; simp, t.ext k⟩
theorem Sim.extN (S : Sim K mg Z₀ st σ H) (x : Ext K H H') : Sim K mg Z₀ st σ H' where
  len := S.len
  val := fun i b d h => by
    obtain ⟨v, e, r, m⟩ := S.val i b d h
    have kk : Keeps (ZZ Z₀ st σ) (ZZ Z₀ st σ) H H' := fun b o nz q n => ⟨x.k b o q n, nz⟩
    refine ⟨v, e, ?_, m⟩
    cases b with
    | true => exact RepP.top kk r fun a o _ q n => x.k a o q n
    | false => exact r.mono kk
  inj := S.inj
  apart := S.apart
  dom := fun a h => x.dom a (S.dom a h)
  pin := S.pin
  tabs := x.tabs
theorem Sim.ext1N (S : Sim K mg Z₀ st σ H) (x : Ext K H H') (hn : H a = none) (hs : H' a ≠ none) : Sim K mg (Z₀.add a) st σ H' where
  len := S.len
  val := fun i b d h => by
    obtain ⟨v, e, r, m⟩ := S.val i b d h
    have kk : Keeps (ZZ Z₀ st σ) (ZZ (Z₀.add a) st σ) H H' := fun b o nz q n => ⟨x.k b o q n, fun z => by
      rcases z with (z | z) | z
      · exact nz (.inl z)
      · subst z; rw [hn] at q; cases q
      · exact nz (.inr z)⟩
    refine ⟨v, e, ?_, m⟩
    cases b with
    | true => exact RepP.top kk r fun a o _ q n => x.k a o q n
    | false => exact r.mono kk
  inj := S.inj
  apart := fun b h z => by
    rcases z with z | z
    · exact S.apart b h z
    · subst z; exact S.own_dom h hn
  dom := fun b h => by
    rcases h with h | h
    · exact x.dom b (S.dom b h)
    · subst h; exact hs
  pin := S.pin
  tabs := x.tabs
theorem Grow.extN (x : Ext K H H') : Grow st σ H st σ H' := ⟨fun b o h _ n => x.k b o h n, fun _ h => .inl h, x.dom⟩
/-- the slots stay, the heap grows -/
theorem Sim.ext (S : Sim K mg Z₀ st σ H) (k : ∀ b o, H b = some o → H' b = some o) : Sim K mg Z₀ st σ H' where
  len := S.len
  val := fun i b d h => by
    obtain ⟨v, e, r, m⟩ := S.val i b d h
    have kk : Keeps (ZZ Z₀ st σ) (ZZ Z₀ st σ) H H' := fun b o nz q _ => ⟨k b o q, nz⟩
    refine ⟨v, e, ?_, m⟩
    cases b with
    | true => exact RepP.top kk r fun a o _ q _ => k a o q
    | false => exact r.mono kk
  inj := S.inj
  apart := S.apart
  dom := fun a h => by
    cases q : H a with
    | none => exact absurd q (S.dom a h)
    | some o => rw [k a o q]; simp
  pin := S.pin
  tabs := S.tabs.ext k
/-- .. by a new object that nobody else may hold -/
theorem Sim.ext1 (S : Sim K mg Z₀ st σ H) (k : ∀ b o, H b = some o → H' b = some o) (hn : H a = none) (hs : H' a ≠ none) : Sim K mg (Z₀.add a) st σ H' where
  len := S.len
  val := fun i b d h => by
    obtain ⟨v, e, r, m⟩ := S.val i b d h
    have kk : Keeps (ZZ Z₀ st σ) (ZZ (Z₀.add a) st σ) H H' := fun b o nz q _ => ⟨k b o q, fun z => by
      rcases z with (z | z) | z
      · exact nz (.inl z)
      · subst z; rw [hn] at q; cases q
      · exact nz (.inr z)⟩
    refine ⟨v, e, ?_, m⟩
    cases b with
    | true => exact RepP.top kk r fun a o _ q _ => k a o q
    | false => exact r.mono kk
  inj := S.inj
  apart := fun b h z => by
    rcases z with z | z
    · exact S.apart b h z
    · subst z; exact S.own_dom h hn
  dom := fun b h => by
    rcases h with h | h
    · cases q : H b with
      | none => exact absurd q (S.dom b h)
      | some o => rw [k b o q]; simp
    · subst h; exact hs
  pin := S.pin
  tabs := S.tabs.ext k
/-- less is held by others -/
theorem Sim.sub {Z1 : Zp} (S : Sim K mg Z1 st σ H) (h : ∀ a, Z₀.z a → Z1.z a) (hp : Z₀.pin = Z1.pin) : Sim K mg Z₀ st σ H where
  len := S.len
  val := fun i b d e => by
    obtain ⟨v, e, r, m⟩ := S.val i b d e
    have kk : Keeps (ZZ Z1 st σ) (ZZ Z₀ st σ) H H := Keeps.sub fun a z => z.imp (h a) id
    refine ⟨v, e, ?_, m⟩
    cases b with
    | true => exact RepP.top kk r fun _ _ _ q _ => q
    | false => exact r.mono kk
  inj := S.inj
  apart := fun a o z => S.apart a o (h a z)
  dom := fun a z => S.dom a (h a z)
  pin := fun a e => S.pin a (hp ▸ e)
  tabs := S.tabs
theorem Grow.ext (k : ∀ b o, H b = some o → H' b = some o) : Grow st σ H st σ H' where
  keep := fun b o h _ _ => k b o h
  own := fun _ h => .inl h
  dom := fun b h => by
    cases q : H b with
    | none => exact absurd q h
    | some o => rw [k b o q]; simp

/-! ### a name handed on is held by it alone no more -/
def frozen (st : DSt) (i : Nat) (b : Bool) (d : D) : DSt := if b then st.set i (some (false, d)) else st
theorem own_frozen (h : st[i]? = some (some (b, d))) : ∀ a, OwnAt (frozen st i b d) σ a → OwnAt st σ a := fun a ⟨j, e, h1, h2⟩ => by
  unfold frozen at h1
  split at h1
  · by_cases hj : i = j
    · subst hj
      have : i < st.length := (List.getElem?_eq_some_iff.mp h).1
      rw [List.getElem?_set_self this] at h1
      cases h1
    · rw [List.getElem?_set_ne hj] at h1
      exact ⟨j, e, h1, h2⟩
  · exact ⟨j, e, h1, h2⟩
theorem Sim.freeze (S : Sim K mg Z₀ st σ H) (h : st[i]? = some (some (b, d))) (hv : σ[i]? = some (some v)) : Sim K mg Z₀ (frozen st i b d) σ H ∧ Rep K mg (ZZ Z₀ (frozen st i b d) σ) H d v := by
  obtain ⟨v', e, r, m⟩ := S.val i b d h
  rw [hv] at e
  cases e
  cases b with
  | false => exact ⟨S, r⟩
  | true =>
    have sub : ∀ a, ZZ Z₀ (frozen st i true d) σ a → ZZ Z₀ st σ a := fun a z => z.imp id (own_frozen h a)
    have hi : i < st.length := (List.getElem?_eq_some_iff.mp h).1
    obtain ⟨a, o, rfl, ha⟩ := r.mut_ref (m rfl)
    have na : ¬ ZZ Z₀ (frozen st i true d) σ a := fun z => by
      rcases z with z | ⟨j, e, h1, h2⟩
      · exact S.apart a ⟨i, d, h, hv⟩ z
      · have hj : j = i := by
          by_cases hj : i = j
          · exact hj.symm
          · have h1' : st[j]? = some (some (true, e)) := by
              unfold frozen at h1
              rw [if_pos rfl, List.getElem?_set_ne hj] at h1
              exact h1
            exact S.inj j i e d a h1' h h2 hv
        subst hj
        unfold frozen at h1
        rw [if_pos rfl, List.getElem?_set_self hi] at h1
        cases h1
    have kk : Keeps (ZZ Z₀ st σ) (ZZ Z₀ (frozen st i true d) σ) H H := Keeps.sub sub
    have rep : Rep K mg (ZZ Z₀ (frozen st i true d) σ) H d (.ref a) := (RepP.top kk r fun _ _ _ q _ => q).up fun b e => by cases e; exact na
    refine ⟨⟨?_, fun j b e hj => ?_, fun j j' e e' b h1 h2 => ?_, fun b z => S.apart b (own_frozen h b z), S.dom, S.pin, S.tabs⟩, rep⟩
    · unfold frozen
      rw [if_pos rfl, List.length_set]
      exact S.len
    · by_cases hij : i = j
      · subst hij
        unfold frozen at hj
        rw [if_pos rfl, List.getElem?_set_self hi] at hj
        cases hj
        exact ⟨_, hv, rep, by simp⟩
      · have hj' : st[j]? = some (some (b, e)) := by
          unfold frozen at hj
          rw [if_pos rfl, List.getElem?_set_ne hij] at hj
          exact hj
        obtain ⟨w, e1, r1, m1⟩ := S.val j b e hj'
        refine ⟨w, e1, ?_, m1⟩
        cases b with
        | true => exact RepP.top kk r1 fun _ _ _ q _ => q
        | false => exact r1.mono kk
    · have un : ∀ {j e}, (frozen st i true d)[j]? = some (some (true, e)) → st[j]? = some (some (true, e)) := fun {j e} h1 => by
        by_cases hij : i = j
        · subst hij
          unfold frozen at h1
          rw [if_pos rfl, List.getElem?_set_self hi] at h1
          cases h1
        · unfold frozen at h1
          rw [if_pos rfl, List.getElem?_set_ne hij] at h1
          exact h1
      exact S.inj j j' e e' b (un h1) (un h2)
theorem Grow.freeze (h : st[i]? = some (some (b, d))) : Grow st σ H (frozen st i b d) σ H :=
  ⟨fun _ _ q _ _ => q, fun a z => .inl (own_frozen h a z), fun _ q => q⟩
end

/-! ### readings -/
/-- the value of an expression: new and held by nobody, or one that may be handed on -/
def Fin (K : PySem.W.Frag) (mg : Str → Option Value) (Z₀ : Zp) (st : DSt) (σ : L2.St) (H H' : Hp) (fr : Bool) (d : D) (v : V) : Prop :=
  if fr = true then ∃ a, v = .ref a ∧ H a = none ∧ ¬ ZZ Z₀ st σ a ∧ isMut d = true ∧ Sim K mg (Z₀.add a) st σ H' ∧ RepP K mg (ZZ (Z₀.add a) st σ) H' false d (.ref a)
  else Sim K mg Z₀ st σ H' ∧ Rep K mg (ZZ Z₀ st σ) H' d v
/-- the fields of an exception -/
def RepX (K : PySem.W.Frag) (mg : Str → Option Value) (Z : Zs) (H : Hp) (fs : List (Str × D)) (dx : Option Addr) : Prop :=
  (fs = [] ∧ dx = none) ∨ (fs ≠ [] ∧ ∃ a fv, dx = some a ∧ H a = some (.xd fv) ∧ RepF K mg Z H fs fv ∧ ¬ Z a)
section
variable (K : PySem.W.Frag) (mg : Str → Option Value) (W : WX)
def XEnd (Z₀ : Zp) (st : DSt) (σ : L2.St) (H : Hp) (c : Str) (fs : List (Str × D)) (st' : DSt) : Prop :=
  ∀ C dx H', Grow st σ H st' σ H' → Sim K mg Z₀ st' σ H' → RepX K mg (ZZ Z₀ st' σ) H' fs dx → mg c = some (.ref C) → W (.ref C) dx σ H'
def tD (m : M (Bool × D)) : TE := fun σ H Q => ∃ Z₀ st, Sim K mg Z₀ st σ H ∧
  (m st).post (fun p st' => ∀ v H', Grow st σ H st' σ H' → Fin K mg Z₀ st' σ H H' p.1 p.2 v → Q v H') (XEnd K mg W Z₀ st σ H)
/-- a test -/
def tDT (m : M Bool) : TT := fun σ H Q => ∃ Z₀ st, Sim K mg Z₀ st σ H ∧
  (m st).post (fun b st' => ∀ H', Grow st σ H st' σ H' → Sim K mg Z₀ st' σ H' → Q b H') (XEnd K mg W Z₀ st σ H)
end
def Pe (X : Cx) (W : WX) (e : Expr) (m : M (Bool × D)) : Prop := PE X e (tD X.K X.mg W m)
def Pt (X : Cx) (W : WX) (e : Expr) (m : M Bool) : Prop := PT X e (tDT X.K X.mg W m)
theorem pe_imp {X : Cx} {e : Expr} {t t' : TE} (h : PE X e t) (k : ∀ σ H Q, t' σ H Q → t σ H Q) : PE X e t' := ⟨fun pins s σ H Q I q => h.run pins s σ H Q I (k σ H Q q)⟩
theorem pt_imp {X : Cx} {e : Expr} {t t' : TT} (h : PT X e t) (k : ∀ σ H Q, t' σ H Q → t σ H Q) : PT X e t' := ⟨fun pins s σ H Q I q => h.run pins s σ H Q I (k σ H Q q)⟩
theorem ps_imp {X : Cx} {e : Stmt} {t t' : TS} (h : PS X e t) (k : ∀ D σ H, t' D σ H → t D σ H) : PS X e t' := ⟨fun pins s σ H D I q => h.run pins s σ H D I (k D σ H q)⟩
theorem pss_imp {X : Cx} {e : List Stmt} {t t' : TS} (h : PSs X e t) (k : ∀ D σ H, t' D σ H → t D σ H) : PSs X e t' := ⟨fun pins s σ H D I q => h.run pins s σ H D I (k D σ H q)⟩

section
variable {K : PySem.W.Frag} {mg : Str → Option Value} {Z Z' : Zs} {Z₀ : Zp} {H H' H'' : Hp} {st st' st'' : DSt} {σ σ' : L2.St} {d : D} {v : V} {fr : Bool}
/-- a new value becomes one that may be handed on -/
theorem Fin.sim (h : Fin K mg Z₀ st σ H H' fr d v) : Sim K mg Z₀ st σ H' := by
  unfold Fin at h
  split at h
  · obtain ⟨a, rfl, _, nz, _, S, r⟩ := h
    exact S.sub (fun b z => .inl z) rfl
  · exact h.1
theorem Fin.rep (h : Fin K mg Z₀ st σ H H' fr d v) : Rep K mg (ZZ Z₀ st σ) H' d v := by
  unfold Fin at h
  split at h
  · obtain ⟨a, rfl, _, nz, _, S, r⟩ := h
    exact (RepP.top (Keeps.sub fun b z => z.imp .inl id) r fun _ _ _ q _ => q).up fun b e => by cases e; exact nz
  · exact h.2
theorem Fin.old (S : Sim K mg Z₀ st σ H') (h : Rep K mg (ZZ Z₀ st σ) H' d v) : Fin K mg Z₀ st σ H H' false d v := by unfold Fin; rw [if_neg (by simp)]; exact ⟨S, h⟩
theorem Fin.back {H0 : Hp} (h : Fin K mg Z₀ st σ H H' fr d v) (dom : ∀ b, H0 b ≠ none → H b ≠ none) : Fin K mg Z₀ st σ H0 H' fr d v := by
  unfold Fin at h ⊢
  split at h
  · rename_i hf
    rw [if_pos hf]
    obtain ⟨a, rfl, hn, r⟩ := h
    refine ⟨a, rfl, ?_, r⟩
    cases e0 : H0 a with
    | none => rfl
    | some o => exact absurd hn (dom a (by rw [e0]; simp))
  · rename_i hf
    rw [if_neg hf]
    exact h
/-- the value of an operation that only makes new objects -/
def Res (K : PySem.W.Frag) (mg : Str → Option Value) (Z : Zs) (H H' : Hp) (fr : Bool) (d : D) (v : V) : Prop :=
  if fr = true then ∃ a, v = .ref a ∧ H a = none ∧ isMut d = true ∧ RepP K mg (Zadd Z a) H' false d (.ref a) else Rep K mg Z H' d v
theorem Res.old (h : Rep K mg Z H' d v) : Res K mg Z H H' false d v := by unfold Res; rw [if_neg (by simp)]; exact h
theorem Res.finN (h : Res K mg (ZZ Z₀ st σ) H H' fr d v) (S : Sim K mg Z₀ st σ H) (x : Ext K H H') : Fin K mg Z₀ st σ H H' fr d v := by
  unfold Res at h
  unfold Fin
  split at h
  · rename_i hf
    rw [if_pos hf]
    obtain ⟨a, rfl, hn, m, r⟩ := h
    obtain ⟨a', o, e, ha⟩ := r.mut_ref m
    cases e
    refine ⟨a, rfl, hn, fun z => S.zdom a z hn, m, S.ext1N x hn (by rw [ha]; simp), RepP.top (Keeps.sub fun b z => ?_) r fun _ _ _ q _ => q⟩
    rcases z with (z | z) | z
    · exact .inl (.inl z)
    · exact .inr z
    · exact .inl (.inr z)
  · rename_i hf
    rw [if_neg hf]
    exact ⟨S.extN x, h⟩
theorem Res.fin (h : Res K mg (ZZ Z₀ st σ) H H' fr d v) (S : Sim K mg Z₀ st σ H) (k : ∀ b o, H b = some o → H' b = some o) : Fin K mg Z₀ st σ H H' fr d v := by
  unfold Res at h
  unfold Fin
  split at h
  · rename_i hf
    rw [if_pos hf]
    obtain ⟨a, rfl, hn, m, r⟩ := h
    obtain ⟨a', o, e, ha⟩ := r.mut_ref m
    cases e
    refine ⟨a, rfl, hn, fun z => S.zdom a z hn, m, S.ext1 k hn (by rw [ha]; simp), RepP.top (Keeps.sub fun b z => ?_) r fun _ _ _ q _ => q⟩
    rcases z with (z | z) | z
    · exact .inl (.inl z)
    · exact .inr z
    · exact .inl (.inr z)
  · rename_i hf
    rw [if_neg hf]
    exact ⟨S.ext k, h⟩
theorem RepX.later {fs : List (Str × D)} {dx : Option Addr} (r : RepX K mg Z H fs dx) (k : Keeps Z Z' H H') : RepX K mg Z' H' fs dx := by
  rcases r with r | ⟨ne, a, fv, e, h, r, nz⟩
  · exact .inl r
  · exact .inr ⟨ne, a, fv, e, (k _ _ nz h trivial).1, r.mono k, (k _ _ nz h trivial).2⟩
theorem XEnd.from {W : WX} {c : Str} {fs : List (Str × D)} (x : XEnd K mg W Z₀ st σ H c fs st'') (g : Grow st σ H st' σ H') : XEnd K mg W Z₀ st' σ H' c fs st'' :=
  fun C dx H'' g' S r m => x C dx H'' (g.trans g') S r m
end

/-! ### operands: names that are looked at last, other expressions -/
inductive Opd where
  | nm (i : Nat)
  | ex (m : M (Bool × D))
def peekAt (i : Nat) : M D := fun st => match st[i]? with
  | some (some (_, d)) => .ok d st
  | _ => .stuck
def runOps : List Opd → M (List D)
  | [] => M.pure []
  | .nm i :: r => (peekAt i).bind fun _ => (runOps r).bind fun ds => (peekAt i).bind fun d => M.pure (d :: ds)
  | .ex m :: r => m.bind fun x => (runOps r).bind fun ds => M.pure (x.2 :: ds)
def mOps (ops : List Opd) (op : List D → Option (Bool × D)) : M (Bool × D) := (runOps ops).bind fun ds => M.lift (op ds)
inductive PeekL (K : PySem.W.Frag) (mg : Str → Option Value) (Z : Zs) (H : Hp) : List D → List V → Prop
  | nil : PeekL K mg Z H [] []
  | cons {d : D} {v : V} {ds : List D} {vs : List V} : Peek K mg Z H d v → PeekL K mg Z H ds vs → PeekL K mg Z H (d :: ds) (v :: vs)
section
variable (K : PySem.W.Frag) (mg : Str → Option Value) (W : WX)
def opdT : Opd → TE
  | .nm i => tVar i
  | .ex m => tD K mg W m
def argT : List Opd → TA
  | [] => tNil
  | o :: r => tCons (opdT K mg W o) (argT r)
def tOps (ops : List Opd) : TA := fun σ H Q => ∃ Z₀ st, Sim K mg Z₀ st σ H ∧
  (runOps ops st).post (fun ds st' => ∀ vs H', Grow st σ H st' σ H' → Sim K mg Z₀ st' σ H' → PeekL K mg (ZZ Z₀ st' σ) H' ds vs → Q vs H') (XEnd K mg W Z₀ st σ H)
end
section
variable {K : PySem.W.Frag} {mg : Str → Option Value} {W : WX}
theorem post_peek {i : Nat} {st : DSt} {k : D → DSt → Prop} {x : Str → List (Str × D) → DSt → Prop} : (peekAt i st).post k x ↔ ∃ b d, st[i]? = some (some (b, d)) ∧ k d st := by
  unfold peekAt
  constructor
  · intro h
    split at h
    · rename_i b d e
      exact ⟨b, d, e, h⟩
    · exact h.elim
  · rintro ⟨b, d, e, h⟩
    rw [e]
    exact h
theorem ops_sound : ∀ (ops : List Opd) (σ : L2.St) (H : Hp) (Q : List V → Hp → Prop), tOps K mg W ops σ H Q → argT K mg W ops σ H Q
  | [], σ, H, Q, ⟨Z₀, st, S, h⟩ => h [] H Grow.refl S .nil
  | .nm i :: r, σ, H, Q, ⟨Z₀, st, S, h⟩ => by
    rw [runOps, post_bind, post_peek] at h
    obtain ⟨b, d, e, h⟩ := h
    obtain ⟨v, hv, _, _⟩ := S.val i b d e
    refine ⟨v, hv, ops_sound r σ H _ ⟨Z₀, st, S, ?_⟩⟩
    rw [post_bind] at h
    refine h.mono (fun ds st' h vs H' g S' pl => ?_) fun _ _ _ h => h
    rw [post_bind, post_peek] at h
    obtain ⟨b', d', e', h⟩ := h
    obtain ⟨v', hv', r', _⟩ := S'.val i b' d' e'
    rw [hv] at hv'
    cases hv'
    refine h (v :: vs) H' g S' (.cons ?_ pl)
    cases b' with
    | true => exact r'
    | false => exact r'.down
  | .ex m :: r, σ, H, Q, ⟨Z₀, st, S, h⟩ => by
    refine ⟨Z₀, st, S, ?_⟩
    rw [runOps, post_bind] at h
    refine h.mono (fun p st1 h v H1 g1 r1 => ?_) fun _ _ _ h => h
    refine ops_sound r σ H1 _ ⟨Z₀, st1, r1.sim, ?_⟩
    rw [post_bind] at h
    refine h.mono (fun ds st2 h vs H2 g2 S2 pl => ?_) fun _ _ _ h => XEnd.from h g1
    exact h (v :: vs) H2 (g1.trans g2) S2 (.cons (g2.rep r1.rep).down pl)

/-- an operation by values: what it asks (r), what it gives (op) -/
def BSpec (K : PySem.W.Frag) (mg : Str → Option Value) (r : List V → Hp → VK → Prop) (op : List D → Option (Bool × D)) : Prop :=
  ∀ (Z : Zs) (H : Hp) (vs : List V) (ds : List D) (fr : Bool) (d : D) (Q : VK), (∀ a, Z a → H a ≠ none) → PeekL K mg Z H ds vs → op ds = some (fr, d) →
    (∀ v H', (∀ b o, H b = some o → H' b = some o) → Res K mg Z H H' fr d v → Q v H') → r vs H Q
theorem mOps_sound {ops : List Opd} {op : List D → Option (Bool × D)} {r : List V → Hp → VK → Prop} (B : BSpec K mg r op) {σ : L2.St} {H : Hp} {Q : VK} (h : tD K mg W (mOps ops op) σ H Q) :
    argT K mg W ops σ H fun vs H1 => r vs H1 Q := by
  obtain ⟨Z₀, st, S, h⟩ := h
  refine ops_sound ops σ H _ ⟨Z₀, st, S, ?_⟩
  rw [mOps, post_bind] at h
  refine h.mono (fun ds st' h vs H1 g S1 pl => ?_) fun _ _ _ h => h
  rw [post_lift] at h
  obtain ⟨⟨fr, d⟩, e, h⟩ := h
  exact B _ H1 vs ds fr d Q S1.zdom pl e fun v H2 k r2 => h v H2 (g.trans (Grow.ext k)) ((r2.fin S1 k).back g.dom)
end

/-! ### names, constants -/
def mName (i : Nat) : M (Bool × D) := fun st => match st[i]? with
  | some (some (b, d)) => .ok (false, d) (frozen st i b d)
  | _ => .stuck
def mC (d : D) : M (Bool × D) := M.pure (false, d)
section
variable {X : Cx} {W : WX} {pos : Pos}
theorem post_name {i : Nat} {st : DSt} {k : Bool × D → DSt → Prop} {x : Str → List (Str × D) → DSt → Prop} : (mName i st).post k x ↔ ∃ b d, st[i]? = some (some (b, d)) ∧ k (false, d) (frozen st i b d) := by
  unfold mName
  constructor
  · intro h
    split at h
    · rename_i b d e
      exact ⟨b, d, e, h⟩
    · exact h.elim
  · rintro ⟨b, d, e, h⟩
    rw [e]
    exact h
theorem name_sound {K : PySem.W.Frag} {mg : Str → Option Value} {W : WX} {i : Nat} {σ : L2.St} {H : Hp} {Q : VK} (h : tD K mg W (mName i) σ H Q) : tVar i σ H Q := by
  obtain ⟨Z₀, st, S, h⟩ := h
  rw [post_name] at h
  obtain ⟨b, d, e, h⟩ := h
  obtain ⟨v, hv, _, _⟩ := S.val i b d e
  obtain ⟨S', r⟩ := S.freeze e hv
  exact ⟨v, hv, h v H (Grow.freeze e) (.old S' r)⟩
theorem Pe.name {i : Nat} {x : Str} (hN : X.N[i]? = some x) (hv : Vis X.env.scope x) (hd : (x == ("__debug__" : Str)) = false) (hcd : (x == ("__classdict__" : Str)) = false) : Pe X W (.Name x pos) (mName i) :=
  pe_imp (pe_var hN hv hd hcd) fun σ H Q h => name_sound h
theorem const_sound {K : PySem.W.Frag} {mg : Str → Option Value} {W : WX} {v : V} {d : D} (r : ∀ Z H, Rep K mg Z H d v) {σ : L2.St} {H : Hp} {Q : VK} (h : tD K mg W (mC d) σ H Q) : tC v σ H Q := by
  obtain ⟨Z₀, st, S, h⟩ := h
  exact h v H Grow.refl (.old S (r _ _))
theorem Pe.int {i : Int} {j : Nat} : Pe X W (.Constant (.int i) j pos) (mC (.int i)) := pe_imp pe_int fun σ H Q h => const_sound (fun _ _ => .int i) h
theorem Pe.bl {b : Bool} {j : Nat} : Pe X W (.Constant (.bool b) j pos) (mC (.bl b)) := pe_imp pe_bl fun σ H Q h => const_sound (fun _ _ => .bl b) h
theorem Pe.non {j : Nat} : Pe X W (.Constant .none j pos) (mC .non) := pe_imp pe_non fun σ H Q h => const_sound (fun _ _ => .non) h
theorem Pe.str {x : Str} {j : Nat} : Pe X W (.Constant (.str x) j pos) (mC (.str x)) := pe_imp pe_str fun σ H Q h => const_sound (fun _ _ => .str x) h
/-- a global's value -/
theorem Pe.glob {x : Str} {u : Value} {v : V} {d : D} (hg : Gl X x) (hm : X.mg x = some u) (r : RelV v u) (q : ∀ Z H, Rep X.K X.mg Z H d v) (hd : (x == ("__debug__" : Str)) = false) : Pe X W (.Name x pos) (mC d) :=
  pe_imp (pe_glob hg hm r hd) fun σ H Q h => const_sound q h
end
end PL
set_option Elab.async false
set_option linter.all false
set_option maxRecDepth 100000
set_option maxHeartbeats 4000000
set_option autoImplicit false
/-! PL2: operators, comparisons, built-ins by values. -/
namespace PL
open PySem PySem.Spec PyProof.Rows L2

def r2L (r : R2) : List V → Hp → VK → Prop := fun vs H Q => match vs with
  | [x, y] => r x y H Q
  | _ => False
def r1L (r : V → Hp → VK → Prop) : List V → Hp → VK → Prop := fun vs H Q => match vs with
  | [x] => r x H Q
  | _ => False
def fl (d : D) : Option (Bool × D) := some (false, d)
def nw (d : D) : Option (Bool × D) := some (true, d)

section
variable {K : PySem.W.Frag} {mg : Str → Option Value} {Z : Zs} {H H' : Hp} {d d' : D} {v : V} {Q : VK} {fr' : Bool} {t : Bool}
theorem nz_new {p : Addr} (dom : ∀ a, Z a → H a ≠ none) (hp : H p = none) : ¬ Z p := fun z => dom p z hp
theorem ext_new {p : Addr} {o : HO} (hp : H p = none) : ∀ b u, H b = some u → upd H p o b = some u := fun b u e => by rw [upd_ne (ne_of_none e hp)]; exact e
theorem keeps_new {p : Addr} {o : HO} (hp : H p = none) : Keeps Z Z H (upd H p o) := fun b u nz e _ => ⟨ext_new hp b u e, nz⟩
theorem keeps_add {p : Addr} {o : HO} (hp : H p = none) : Keeps Z (Zadd Z p) H (upd H p o) := fun b u nz e _ => ⟨ext_new hp b u e, fun z => z.elim nz (ne_of_none e hp)⟩
/-- a new list, tuple -/
theorem res_lst {p : Addr} {xs : List V} {ds : List D} (dom : ∀ a, Z a → H a ≠ none) (hp : H p = none) (r : RepL K mg Z H ds xs) : Res K mg Z H (upd H p (.lst xs)) true (.lst ds) (.ref p) := by
  unfold Res
  rw [if_pos rfl]
  exact ⟨p, rfl, hp, rfl, .lst upd_same (fun e => by cases e) (r.mono (keeps_add hp))⟩
theorem res_tup {p : Addr} {xs : List V} {ds : List D} (dom : ∀ a, Z a → H a ≠ none) (hp : H p = none) (r : RepL K mg Z H ds xs) : Res K mg Z H (upd H p (.tup xs)) false (.tup false ds) (.ref p) :=
  .old (.tup (TupH.of upd_same) (nz_new dom hp) (r.mono (keeps_new hp)))
theorem fin0 (e : fl d = some (fr', d')) (r : Rep K mg Z H d v) (k : ∀ v H', (∀ b o, H b = some o → H' b = some o) → Res K mg Z H H' fr' d' v → Q v H') : Q v H := by
  cases e
  exact k v H (fun _ _ h => h) (.old r)
theorem finL (e : nw d = some (fr', d')) {H1 : Hp} (r : Res K mg Z H H1 true d v) (x : ∀ b o, H b = some o → H1 b = some o) (k : ∀ v H', (∀ b o, H b = some o → H' b = some o) → Res K mg Z H H' fr' d' v → Q v H') : Q v H1 := by
  cases e
  exact k v H1 x r
theorem finT (e : fl d = some (fr', d')) {H1 : Hp} (r : Res K mg Z H H1 false d v) (x : ∀ b o, H b = some o → H1 b = some o) (k : ∀ v H', (∀ b o, H b = some o → H' b = some o) → Res K mg Z H H' fr' d' v → Q v H') : Q v H1 := by
  cases e
  exact k v H1 x r
theorem pl1 {a : D} {vs : List V} (h : PeekL K mg Z H [a] vs) : ∃ x, vs = [x] ∧ Peek K mg Z H a x := by
  cases h with
  | cons h t => cases t; exact ⟨_, rfl, h⟩
theorem pl2 {a b : D} {vs : List V} (h : PeekL K mg Z H [a, b] vs) : ∃ x y, vs = [x, y] ∧ Peek K mg Z H a x ∧ Peek K mg Z H b y := by
  cases h with
  | cons h t =>
    obtain ⟨y, rfl, h2⟩ := pl1 t
    exact ⟨_, _, rfl, h, h2⟩
theorem pk_int {i : Int} (h : RepP K mg Z H t (.int i) v) : v = .int i := by cases h; rfl
theorem pk_bl {i : Bool} (h : RepP K mg Z H t (.bl i) v) : v = .bl i := by cases h; rfl
theorem pk_str {i : Str} (h : RepP K mg Z H t (.str i) v) : v = .str i := by cases h; rfl
theorem pk_non (h : RepP K mg Z H t .non v) : v = .non := by cases h; rfl
theorem pk_ty {n : String} (h : RepP K mg Z H t (.ty n) v) : v = .ty n := by cases h; rfl
theorem pk_lst {ds : List D} (h : RepP K mg Z H t (.lst ds) v) : ∃ a xs, v = .ref a ∧ H a = some (.lst xs) ∧ RepL K mg Z H ds xs := by
  cases h with
  | lst h _ r => exact ⟨_, _, rfl, h, r⟩
theorem pk_tup' {nd : Bool} {ds : List D} (h : RepP K mg Z H t (.tup nd ds) v) : ∃ a xs, v = .ref a ∧ TupH nd H a xs ∧ ¬ Z a ∧ RepL K mg Z H ds xs := by
  cases h
  exact ⟨_, _, rfl, ‹_›, ‹_›, ‹_›⟩
theorem RepP.weak {nd : Bool} {ds : List D} (h : RepP K mg Z H t (.tup nd ds) v) : RepP K mg Z H t (.tup false ds) v := by
  obtain ⟨a, xs, rfl, h, nz, r⟩ := pk_tup' h
  exact .tup (nd := false) h.rd nz r
theorem pk_tup {nd : Bool} {ds : List D} (h : RepP K mg Z H t (.tup nd ds) v) : ∃ a xs, v = .ref a ∧ SqT K H a xs ∧ RepL K mg Z H ds xs := by
  obtain ⟨a, xs, e, h, _, r⟩ := pk_tup' h
  exact ⟨a, xs, e, h.sq, r⟩
theorem pk_rol {ds : List D} (h : RepP K mg Z H t (.rol ds) v) : ∃ a xs, v = .ref a ∧ SqL K H a xs ∧ RepL K mg Z H ds xs := by
  cases h with
  | rol h r =>
    refine ⟨_, _, rfl, ?_, r⟩
    rcases h with h | h
    · exact .inl h.1
    · exact .inr h
theorem RepL.nil_iff {ds : List D} {xs : List V} (r : RepL K mg Z H ds xs) : ds = [] ↔ xs = [] := by
  cases r <;> simp

/-! ### + - * // % ** -/
def dAdd : List D → Option (Bool × D)
  | [.int i, .int j] => fl (.int (i + j))
  | [.str a, .str b] => if a.length + b.length ≤ sizeLine then fl (.str (a ++ b)) else none
  | [.lst a, .lst b] => if a.length + b.length ≤ sizeLine then nw (.lst (a ++ b)) else none
  | [.tup _ a, .tup _ b] => if a.length + b.length ≤ sizeLine then fl (.tup false (a ++ b)) else none
  | _ => none
def rAddI : R2 := rI0 fun i j => .int (i + j)
def rAddS : R2 := fun x y H Q => ∃ i j, x = .str i ∧ y = .str j ∧ i.length + j.length ≤ sizeLine ∧ Q (.str (i ++ j)) H
def rAddAll (K : PySem.W.Frag) : R2 := fun x y H Q => (rAddI x y H Q ∨ rAddS x y H Q) ∨ (rCat x y H Q ∨ rCatA K x y H Q)
theorem or_add {X : Cx} : OpR X (binaryOp .Add) (rAddAll X.K) := OpR.or (OpR.or op_add op_add_str) (OpR.or op_cat op_catA)
theorem b_add : BSpec K mg (r2L (rAddAll K)) dAdd := by
  intro Z H vs ds fr d Q dom pl e k
  unfold dAdd at e
  split at e
  · obtain ⟨x, y, rfl, h1, h2⟩ := pl2 pl
    cases pk_int h1; cases pk_int h2
    exact .inl (.inl ⟨_, _, rfl, rfl, fin0 e (.int _) k⟩)
  · obtain ⟨x, y, rfl, h1, h2⟩ := pl2 pl
    cases pk_str h1; cases pk_str h2
    split at e
    · rename_i hl
      exact .inl (.inr ⟨_, _, rfl, rfl, hl, fin0 e (.str _) k⟩)
    · cases e
  · obtain ⟨x, y, rfl, h1, h2⟩ := pl2 pl
    obtain ⟨a1, xs, rfl, q1, r1⟩ := pk_lst h1
    obtain ⟨a2, ys, rfl, q2, r2⟩ := pk_lst h2
    split at e
    · rename_i hl
      exact .inr (.inl ⟨_, _, xs, ys, rfl, rfl, q1, q2, by rw [← r1.length, ← r2.length]; exact hl, fun p hp => finL e (res_lst dom hp (r1.append r2)) (ext_new hp) k⟩)
    · cases e
  · obtain ⟨x, y, rfl, h1, h2⟩ := pl2 pl
    obtain ⟨a1, xs, rfl, q1, r1⟩ := pk_tup h1
    obtain ⟨a2, ys, rfl, q2, r2⟩ := pk_tup h2
    split at e
    · rename_i da db hl
      refine .inr (.inr ⟨_, _, xs, ys, rfl, rfl, q1, q2, by rw [← r1.length, ← r2.length]; exact hl, fun n1 => ?_, fun n1 n2 => ?_, fun n1 n2 p hp => ?_⟩)
      · have := r1.nil_iff.mpr n1
        subst this
        rw [List.nil_append] at e
        exact fin0 e (h2.weak.up' rfl) k
      · have := r2.nil_iff.mpr n2
        subst this
        rw [List.append_nil] at e
        exact fin0 e (h1.weak.up' rfl) k
      · exact finT e (res_tup dom hp (r1.append r2)) (ext_new hp) k
    · cases e
  · cases e

def dSub : List D → Option (Bool × D)
  | [.int i, .int j] => fl (.int (i - j))
  | _ => none
theorem b_sub : BSpec K mg (r2L (rI0 fun i j => .int (i - j))) dSub := by
  intro Z H vs ds fr d Q dom pl e k
  unfold dSub at e
  split at e
  · obtain ⟨x, y, rfl, h1, h2⟩ := pl2 pl
    cases pk_int h1; cases pk_int h2
    exact ⟨_, _, rfl, rfl, fin0 e (.int _) k⟩
  · cases e
def bigOk (i j : Int) : Bool := (decide (-(2 ^ 64) < i) && decide (i < 2 ^ 64)) || (decide (-(2 ^ 64) < j) && decide (j < 2 ^ 64))
theorem bigOk.ok {i j : Int} (h : bigOk i j = true) : CMul i j := by
  unfold bigOk at h
  simp only [Bool.or_eq_true, Bool.and_eq_true, decide_eq_true_eq] at h
  exact h
def dMul : List D → Option (Bool × D)
  | [.int i, .int j] => if bigOk i j = true then fl (.int (i * j)) else none
  | [.lst xs, .int k] => if decide (-(2 ^ 63) ≤ k) && decide (k < 2 ^ 63) && decide (xs.length * k.toNat ≤ sizeLine) then nw (.lst (List.replicate k.toNat xs).flatten) else none
  | [.tup _ xs, .int k] => if decide (2 ≤ k) && decide (k ≤ 1000) && decide (xs.length ≤ 1000) && !xs.isEmpty then fl (.tup false (List.replicate k.toNat xs).flatten) else none
  | _ => none
theorem RepL.reps {ds : List D} {xs : List V} (r : RepL K mg Z H ds xs) : ∀ n : Nat, RepL K mg Z H (List.replicate n ds).flatten (List.replicate n xs).flatten
  | 0 => .nil
  | n + 1 => by
    rw [List.replicate_succ, List.replicate_succ, List.flatten_cons, List.flatten_cons]
    exact r.append (RepL.reps r n)
def rMulAll (K : PySem.W.Frag) : R2 := fun x y H Q => (rI CMul (fun i j => .int (i * j)) x y H Q ∨ rRep x y H Q) ∨ rRepT K x y H Q
theorem or_mul {X : Cx} : OpR X (binaryOp .Mult) (rMulAll X.K) := OpR.or (OpR.or op_mul op_rep) op_repT
theorem b_mul : BSpec K mg (r2L (rMulAll K)) dMul := by
  intro Z H vs ds fr d Q dom pl e k
  unfold dMul at e
  split at e
  · obtain ⟨x, y, rfl, h1, h2⟩ := pl2 pl
    cases pk_int h1; cases pk_int h2
    split at e
    · rename_i h
      exact .inl (.inl ⟨_, _, rfl, rfl, bigOk.ok h, fin0 e (.int _) k⟩)
    · cases e
  · obtain ⟨x, y, rfl, h1, h2⟩ := pl2 pl
    cases pk_int h2
    obtain ⟨a1, xs, rfl, q1, r1⟩ := pk_lst h1
    split at e
    · rename_i h
      simp only [Bool.and_eq_true, decide_eq_true_eq] at h
      exact .inl (.inr ⟨_, _, xs, rfl, rfl, q1, h.1.1, h.1.2, by rw [← r1.length]; exact h.2, fun p hp => finL e (res_lst dom hp (r1.reps _)) (ext_new hp) k⟩)
    · cases e
  · obtain ⟨x, y, rfl, h1, h2⟩ := pl2 pl
    cases pk_int h2
    obtain ⟨a1, xs, rfl, q1, r1⟩ := pk_tup h1
    split at e
    · rename_i h
      simp only [Bool.and_eq_true, decide_eq_true_eq, Bool.not_eq_true'] at h
      refine .inr ⟨_, _, xs, rfl, rfl, q1, fun n => ?_, h.1.1.1, h.1.1.2, by rw [← r1.length]; exact h.1.2, fun p hp => finT e (res_tup dom hp (r1.reps _)) (ext_new hp) k⟩
      have := r1.nil_iff.mpr n
      rw [this] at h
      simp at h
    · cases e
  · cases e
def dFdiv : List D → Option (Bool × D)
  | [.int i, .int j] => if decide (0 < j) && decide (j < 1073741824) then fl (.int (i / j)) else none
  | _ => none
theorem b_fdiv : BSpec K mg (r2L (rI CDiv fun i j => .int (i / j))) dFdiv := by
  intro Z H vs ds fr d Q dom pl e k
  unfold dFdiv at e
  split at e
  · obtain ⟨x, y, rfl, h1, h2⟩ := pl2 pl
    cases pk_int h1; cases pk_int h2
    split at e
    · rename_i h
      simp only [Bool.and_eq_true, decide_eq_true_eq] at h
      exact ⟨_, _, rfl, rfl, h, fin0 e (.int _) k⟩
    · cases e
  · cases e
def dMod : List D → Option (Bool × D)
  | [.int i, .int j] => if decide (0 < j) then fl (.int (i % j)) else none
  | _ => none
theorem b_mod : BSpec K mg (r2L (rI (fun _ j => 0 < j) fun i j => .int (i % j))) dMod := by
  intro Z H vs ds fr d Q dom pl e k
  unfold dMod at e
  split at e
  · obtain ⟨x, y, rfl, h1, h2⟩ := pl2 pl
    cases pk_int h1; cases pk_int h2
    split at e
    · rename_i h
      exact ⟨_, _, rfl, rfl, of_decide_eq_true h, fin0 e (.int _) k⟩
    · cases e
  · cases e
def dPow : List D → Option (Bool × D)
  | [.int i, .int j] => if decide (0 ≤ j) && decide (j ≤ 1000000) && decide (i.natAbs < 2 ^ 64) then fl (.int (i ^ j.toNat)) else none
  | _ => none
theorem b_pow : BSpec K mg (r2L (rI CPow fun i j => .int (i ^ j.toNat))) dPow := by
  intro Z H vs ds fr d Q dom pl e k
  unfold dPow at e
  split at e
  · obtain ⟨x, y, rfl, h1, h2⟩ := pl2 pl
    cases pk_int h1; cases pk_int h2
    split at e
    · rename_i h
      simp only [Bool.and_eq_true, decide_eq_true_eq] at h
      exact ⟨_, _, rfl, rfl, ⟨h.1.1, h.1.2, h.2⟩, fin0 e (.int _) k⟩
    · cases e
  · cases e
def dNeg : List D → Option (Bool × D)
  | [.int i] => fl (.int (-i))
  | _ => none
theorem b_neg : BSpec K mg (r1L (rU fun i => .int (-i))) dNeg := by
  intro Z H vs ds fr d Q dom pl e k
  unfold dNeg at e
  split at e
  · obtain ⟨x, rfl, h1⟩ := pl1 pl
    cases pk_int h1
    exact ⟨_, rfl, fin0 e (.int _) k⟩
  · cases e

/-! ### data as a whole: ==, != -/
mutual
def toPD : D → Option PyData
  | .non => some .none
  | .bl b => some (.bool b)
  | .int i => some (.int i)
  | .str x => some (.str x)
  | .tup _ xs => (toPDL xs).map .tuple
  | .lst xs => (toPDL xs).map .list
  | .rol xs => (toPDL xs).map .list
  | _ => none
def toPDL : List D → Option (List PyData)
  | [] => some []
  | d :: ds => match toPD d, toPDL ds with
    | some p, some ps => some (p :: ps)
    | _, _ => none
end
mutual
theorem RepP.dp : ∀ {d : D} {v : V} {t : Bool} {p : PyData}, RepP K mg Z H t d v → toPD d = some p → Dp K H v p
  | .non, _, _, _, h, e => by cases h; cases e; exact .non
  | .bl b, _, _, _, h, e => by cases h; cases e; exact .bl b
  | .int i, _, _, _, h, e => by cases h; cases e; exact .int i
  | .str x, _, _, _, h, e => by cases h; cases e; exact .str x
  | .tup _ xs, _, _, _, h, e => by
    obtain ⟨a, vs, rfl, hs, r⟩ := pk_tup h
    rw [toPD, Option.map_eq_some_iff] at e
    obtain ⟨ps, e, rfl⟩ := e
    exact .tup hs (RepL.dp r e)
  | .lst xs, _, _, _, h, e => by
    obtain ⟨a, vs, rfl, hs, r⟩ := pk_lst h
    rw [toPD, Option.map_eq_some_iff] at e
    obtain ⟨ps, e, rfl⟩ := e
    exact .lst (SqL.of hs) (RepL.dp r e)
  | .rol xs, _, _, _, h, e => by
    obtain ⟨a, vs, rfl, hs, r⟩ := pk_rol h
    rw [toPD, Option.map_eq_some_iff] at e
    obtain ⟨ps, e, rfl⟩ := e
    exact .lst hs (RepL.dp r e)
  | .dic _, _, _, _, _, e => by cases e
  | .dct _, _, _, _, _, e => by cases e
  | .ins _ _, _, _, _, _, e => by cases e
  | .glb _, _, _, _, _, e => by cases e
  | .ty _, _, _, _, _, e => by cases e
theorem RepL.dp : ∀ {ds : List D} {vs : List V} {ps : List PyData}, RepL K mg Z H ds vs → toPDL ds = some ps → DpAll K H vs ps
  | [], _, _, h, e => by cases h; cases e; exact .nil
  | d :: ds, _, _, h, e => by
    cases h with
    | cons h t =>
      rw [toPDL] at e
      split at e
      · rename_i p ps e1 e2
        cases e
        exact .cons (RepP.dp h e1) (RepL.dp t e2)
      · cases e
end
def eqPD (a b : D) : Option Bool := match toPD a, toPD b with
  | some p, some q => if SeqAt.shaped p && SeqAt.shaped q then some (PyData.eqv p q) else none
  | _, _ => none
def dEq : List D → Option (Bool × D)
  | [a, b] => (eqPD a b).bind fun k => fl (.bl k)
  | _ => none
def dNe : List D → Option (Bool × D)
  | [a, b] => (eqPD a b).bind fun k => fl (.bl (!k))
  | _ => none
theorem eqPD_of {a b : D} {c : Bool} (e : eqPD a b = some c) : ∃ p q, toPD a = some p ∧ toPD b = some q ∧ SeqAt.shaped p = true ∧ SeqAt.shaped q = true ∧ c = PyData.eqv p q := by
  unfold eqPD at e
  split at e
  · rename_i p q e1 e2
    split at e
    · rename_i h
      cases e
      rw [Bool.and_eq_true] at h
      exact ⟨p, q, e1, e2, h.1, h.2, rfl⟩
    · cases e
  · cases e
theorem b_eq : BSpec K mg (r2L (rEqD K)) dEq := by
  intro Z H vs ds fr d Q dom pl e k
  unfold dEq at e
  split at e
  · obtain ⟨x, y, rfl, h1, h2⟩ := pl2 pl
    obtain ⟨c, e1, e⟩ := Option.bind_eq_some_iff.mp e
    obtain ⟨p, q, ep, eq, sp, sq, rfl⟩ := eqPD_of e1
    exact ⟨p, q, h1.dp ep, h2.dp eq, sp, sq, fin0 e (.bl _) k⟩
  · cases e
theorem b_ne : BSpec K mg (r2L (rNeD K)) dNe := by
  intro Z H vs ds fr d Q dom pl e k
  unfold dNe at e
  split at e
  · obtain ⟨x, y, rfl, h1, h2⟩ := pl2 pl
    obtain ⟨c, e1, e⟩ := Option.bind_eq_some_iff.mp e
    obtain ⟨p, q, ep, eq, sp, sq, rfl⟩ := eqPD_of e1
    exact ⟨p, q, h1.dp ep, h2.dp eq, sp, sq, fin0 e (.bl _) k⟩
  · cases e

/-! ### < <= > >= -/
def intsOf : List D → Option (List Int)
  | [] => some []
  | .int i :: r => (intsOf r).map (i :: ·)
  | _ :: _ => none
theorem RepL.ints : ∀ {ds : List D} {xs : List V} {ns : List Int}, RepL K mg Z H ds xs → intsOf ds = some ns → xs = ns.map V.int
  | [], _, _, h, e => by cases h; cases e; rfl
  | d :: ds, _, _, h, e => by
    cases h with
    | cons h t =>
      cases d <;> simp [intsOf] at e
      obtain ⟨ms, e, rfl⟩ := e
      rw [RepL.ints t e, pk_int h]
      rfl
def dCmp (f : Int → Int → Bool) (g : Str → Str → Option Bool) (h : List Int → List Int → Option Bool) : List D → Option (Bool × D)
  | [.int i, .int j] => fl (.bl (f i j))
  | [.str a, .str b] => (g a b).bind fun k => fl (.bl k)
  | [.tup _ xs, .tup _ ys] => (intsOf xs).bind fun ns => (intsOf ys).bind fun ms => (h ns ms).bind fun k => fl (.bl k)
  | _ => none
def dLt : List D → Option (Bool × D) := dCmp (fun i j => decide (i < j)) (fun a b => some (decide (a.cps.toList < b.cps.toList))) (fun ns ms => some (HT.lexLt ns ms))
def dLe : List D → Option (Bool × D) := dCmp (fun i j => decide (i ≤ j)) (fun a b => some (!decide (b.cps.toList < a.cps.toList))) (fun _ _ => none)
def dGt : List D → Option (Bool × D) := dCmp (fun i j => decide (j < i)) (fun a b => some (decide (b.cps.toList < a.cps.toList))) (fun _ _ => none)
def dGe : List D → Option (Bool × D) := dCmp (fun i j => decide (j ≤ i)) (fun a b => some (!decide (a.cps.toList < b.cps.toList))) (fun _ _ => none)
def rCmpS (g : Str → Str → Bool) : R2 := fun x y H Q => ∃ i j, x = .str i ∧ y = .str j ∧ Q (.bl (g i j)) H
def rLtAll (K : PySem.W.Frag) : R2 := fun x y H Q => (rI0 (fun i j => .bl (decide (i < j))) x y H Q ∨ rCmpS (fun i j => decide (i.cps.toList < j.cps.toList)) x y H Q) ∨ rLtT K x y H Q
theorem or_lt {X : Cx} (hu : X.A.units < cLine) : OpR X (compareOp .Lt) (rLtAll X.K) := OpR.or (OpR.or op_lt op_lt_str) (op_ltT hu)
theorem b_lt : BSpec K mg (r2L (rLtAll K)) dLt := by
  intro Z H vs ds fr d Q dom pl e k
  unfold dLt dCmp at e
  split at e
  · obtain ⟨x, y, rfl, h1, h2⟩ := pl2 pl
    cases pk_int h1; cases pk_int h2
    exact .inl (.inl ⟨_, _, rfl, rfl, fin0 e (.bl _) k⟩)
  · obtain ⟨x, y, rfl, h1, h2⟩ := pl2 pl
    cases pk_str h1; cases pk_str h2
    exact .inl (.inr ⟨_, _, rfl, rfl, fin0 e (.bl _) k⟩)
  · obtain ⟨x, y, rfl, h1, h2⟩ := pl2 pl
    obtain ⟨a1, xs, rfl, q1, r1⟩ := pk_tup h1
    obtain ⟨a2, ys, rfl, q2, r2⟩ := pk_tup h2
    obtain ⟨ns, e1, e⟩ := Option.bind_eq_some_iff.mp e
    obtain ⟨ms, e2, e⟩ := Option.bind_eq_some_iff.mp e
    rw [r1.ints e1] at q1
    rw [r2.ints e2] at q2
    exact .inr ⟨_, _, ns, ms, rfl, rfl, q1, q2, fin0 e (.bl _) k⟩
  · cases e
theorem b_cmp2 {f : Int → Int → Bool} {g : Str → Str → Bool} : BSpec K mg (r2L fun x y H Q => rI0 (fun i j => .bl (f i j)) x y H Q ∨ rCmpS g x y H Q) (dCmp f (fun a b => some (g a b)) fun _ _ => none) := by
  intro Z H vs ds fr d Q dom pl e k
  unfold dCmp at e
  split at e
  · obtain ⟨x, y, rfl, h1, h2⟩ := pl2 pl
    cases pk_int h1; cases pk_int h2
    exact .inl ⟨_, _, rfl, rfl, fin0 e (.bl _) k⟩
  · obtain ⟨x, y, rfl, h1, h2⟩ := pl2 pl
    cases pk_str h1; cases pk_str h2
    exact .inr ⟨_, _, rfl, rfl, fin0 e (.bl _) k⟩
  · obtain ⟨ns, e1, e⟩ := Option.bind_eq_some_iff.mp e
    obtain ⟨ms, e2, e⟩ := Option.bind_eq_some_iff.mp e
    cases e
  · cases e

/-! ### is, is not: None and flags -/
def isNonD : D → Bool
  | .non => true
  | _ => false
def dIs : List D → Option (Bool × D)
  | [.bl a, .bl b] => fl (.bl (decide (a = b)))
  | [d, .non] => fl (.bl (isNonD d))
  | _ => none
def rIsN : R2 := fun x y H Q => y = .non ∧ Q (.bl (decide (x = .non))) H
theorem pk_isN {d : D} {v : V} (h : RepP K mg Z H t d v) : decide (v = .non) = isNonD d := by
  cases h <;> first | rfl | simp
theorem b_is : BSpec K mg (r2L fun x y H Q => rIsB x y H Q ∨ rIsN x y H Q) dIs := by
  intro Z H vs ds fr d Q dom pl e k
  unfold dIs at e
  split at e
  · obtain ⟨x, y, rfl, h1, h2⟩ := pl2 pl
    cases pk_bl h1; cases pk_bl h2
    exact .inl ⟨_, _, rfl, rfl, fin0 e (.bl _) k⟩
  · obtain ⟨x, y, rfl, h1, h2⟩ := pl2 pl
    cases pk_non h2
    refine .inr ⟨rfl, ?_⟩
    rw [pk_isN h1]
    exact fin0 e (.bl _) k
  · cases e
/-! ### x[i], x[a:b] -/
def dIx : List D → Option (Bool × D)
  | [.lst xs, .int i] => (atI xs i).bind fl
  | [.tup _ xs, .int i] => (atI xs i).bind fl
  | [.str z, .int i] => if z.length ≤ sizeLine then (atI z.cps.toList i).bind fun c => fl (.str ⟨#[c]⟩) else none
  | _ => none
theorem RepL.atI {ds : List D} {xs : List V} {i : Int} {d : D} (r : RepL K mg Z H ds xs) (e : L2.atI ds i = some d) : ∃ v, L2.atI xs i = some v ∧ Rep K mg Z H d v := by
  unfold L2.atI at e ⊢
  rw [← r.length]
  obtain ⟨j, e1, e2⟩ := Option.bind_eq_some_iff.mp e
  obtain ⟨v, h1, h2⟩ := r.get e2
  exact ⟨v, by rw [e1]; exact h1, h2⟩
theorem b_ix : BSpec K mg (r2L (rIx K)) dIx := by
  intro Z H vs ds fr d Q dom pl e k
  unfold dIx at e
  split at e
  · obtain ⟨x, y, rfl, h1, h2⟩ := pl2 pl
    cases pk_int h2
    obtain ⟨a1, xs, rfl, q1, r1⟩ := pk_lst h1
    obtain ⟨d0, e1, e⟩ := Option.bind_eq_some_iff.mp e
    obtain ⟨v, e2, r⟩ := r1.atI e1
    exact .inl ⟨_, xs, _, v, rfl, rfl, SqL.of q1, e2, fin0 e r k⟩
  · obtain ⟨x, y, rfl, h1, h2⟩ := pl2 pl
    cases pk_int h2
    obtain ⟨a1, xs, rfl, q1, r1⟩ := pk_tup h1
    obtain ⟨d0, e1, e⟩ := Option.bind_eq_some_iff.mp e
    obtain ⟨v, e2, r⟩ := r1.atI e1
    exact .inr (.inl ⟨_, xs, _, v, rfl, rfl, q1, e2, fin0 e r k⟩)
  · obtain ⟨x, y, rfl, h1, h2⟩ := pl2 pl
    cases pk_str h1; cases pk_int h2
    split at e
    · rename_i hz
      obtain ⟨c, e1, e⟩ := Option.bind_eq_some_iff.mp e
      exact .inr (.inr ⟨_, _, c, rfl, rfl, hz, e1, fin0 e (.str _) k⟩)
    · cases e
  · cases e
end
end PL
set_option Elab.async false
set_option linter.all false
set_option maxRecDepth 100000
set_option maxHeartbeats 4000000
set_option autoImplicit false
/-! PL3: statements. -/
namespace PL
open PySem PySem.Spec PyProof.Rows L2

inductive OutS where
  | next (st : DSt) | brk (st : DSt) | cont (st : DSt)
  | ret (fr : Bool) (d : D) (st : DSt)
  | exc (c : Str) (fs : List (Str × D)) (st : DSt)
  | stuck
abbrev MS := DSt → OutS
/-- what is wanted behind a statement -/
structure PEnds where
  nx : DSt → Prop
  bk : DSt → Prop
  ct : DSt → Prop
  rt : Bool → D → DSt → Prop
  ex : Str → List (Str × D) → DSt → Prop
def OutS.post (o : OutS) (P : PEnds) : Prop := match o with
  | .next st => P.nx st
  | .brk st => P.bk st
  | .cont st => P.ct st
  | .ret fr d st => P.rt fr d st
  | .exc c fs st => P.ex c fs st
  | .stuck => False
theorem OutS.post.mono {o : OutS} {P P' : PEnds} (h : o.post P) (h1 : ∀ st, P.nx st → P'.nx st) (h2 : ∀ st, P.bk st → P'.bk st) (h3 : ∀ st, P.ct st → P'.ct st) (h4 : ∀ fr d st, P.rt fr d st → P'.rt fr d st) (h5 : ∀ c fs st, P.ex c fs st → P'.ex c fs st) : o.post P' := by
  cases o with
  | next st => exact h1 _ h
  | brk st => exact h2 _ h
  | cont st => exact h3 _ h
  | ret fr d st => exact h4 _ _ _ h
  | exc c fs st => exact h5 _ _ _ h
  | stuck => exact h
/-- the value given back -/
def FinR (K : PySem.W.Frag) (mg : Str → Option Value) (Z₀ : Zp) (st : DSt) (σ : L2.St) (H : Hp) (st' : DSt) (σ' : L2.St) (H' : Hp) (fr : Bool) (d : D) (v : V) : Prop :=
  if fr = true then ∃ a, v = .ref a ∧ (OwnAt st σ a ∨ H a = none) ∧ ¬ ZZ Z₀ st' σ' a ∧ isMut d = true ∧ Sim K mg (Z₀.add a) st' σ' H' ∧ RepP K mg (ZZ (Z₀.add a) st' σ') H' false d (.ref a)
  else Sim K mg Z₀ st' σ' H' ∧ Rep K mg (ZZ Z₀ st' σ') H' d v
section
variable (K : PySem.W.Frag) (mg : Str → Option Value) (W : WX)
def pends (Z₀ : Zp) (st : DSt) (σ : L2.St) (H : Hp) (D : Ends) : PEnds where
  nx := fun st' => ∀ σ' H', Grow st σ H st' σ' H' → Sim K mg Z₀ st' σ' H' → D.nx σ' H'
  bk := fun st' => ∀ σ' H', Grow st σ H st' σ' H' → Sim K mg Z₀ st' σ' H' → D.bk σ' H'
  ct := fun st' => ∀ σ' H', Grow st σ H st' σ' H' → Sim K mg Z₀ st' σ' H' → D.ct σ' H'
  rt := fun fr d st' => ∀ v σ' H', Grow st σ H st' σ' H' → FinR K mg Z₀ st σ H st' σ' H' fr d v → D.rt v H'
  ex := fun c fs st' => ∀ C dx σ' H', Grow st σ H st' σ' H' → Sim K mg Z₀ st' σ' H' → RepX K mg (ZZ Z₀ st' σ') H' fs dx → mg c = some (.ref C) → W (.ref C) dx σ' H'
def tDs (io : Bool) (m : MS) : TS := fun D σ H => ∃ Z₀ st, Z₀.pin.isSome = io ∧ Sim K mg Z₀ st σ H ∧ (m st).post (pends K mg W Z₀ st σ H D)
end
def Ps (X : Cx) (W : WX) (io : Bool) (s : Stmt) (m : MS) : Prop := PS X s (tDs X.K X.mg W io m)
def Pss (X : Cx) (W : WX) (io : Bool) (s : List Stmt) (m : MS) : Prop := PSs X s (tDs X.K X.mg W io m)

section
variable {K : PySem.W.Frag} {mg : Str → Option Value} {W : WX} {Z₀ : Zp} {H H' H0 : Hp} {st st' st0 : DSt} {σ σ' σ0 : L2.St} {d : D} {v : V} {fr : Bool} {i : Nat} {io : Bool}
theorem FinR.from {fr : Bool} (g : Grow st0 σ0 H0 st σ H) (h : FinR K mg Z₀ st σ H st' σ' H' fr d v) : FinR K mg Z₀ st0 σ0 H0 st' σ' H' fr d v := by
  unfold FinR at h ⊢
  split at h
  · rename_i hf
    rw [if_pos hf]
    obtain ⟨a, rfl, ho, r⟩ := h
    refine ⟨a, rfl, ?_, r⟩
    rcases ho with ho | ho
    · exact g.own a ho
    · refine .inr ?_
      cases e0 : H0 a with
      | none => rfl
      | some o => exact absurd ho (g.dom a (by rw [e0]; simp))
  · rename_i hf
    rw [if_neg hf]
    exact h
/-- from a later stand -/
theorem pends_from {D : Ends} {o : OutS} (g : Grow st0 σ0 H0 st σ H) (h : o.post (pends K mg W Z₀ st0 σ0 H0 D)) : o.post (pends K mg W Z₀ st σ H D) :=
  h.mono (fun _ h σ' H' g' => h σ' H' (g.trans g')) (fun _ h σ' H' g' => h σ' H' (g.trans g')) (fun _ h σ' H' g' => h σ' H' (g.trans g')) (fun _ _ _ h v σ' H' g' r => h v σ' H' (g.trans g') (r.from g))
    fun _ _ _ h C dx σ' H' g' => h C dx σ' H' (g.trans g')

def seqS (a b : MS) : MS := fun st => match a st with
  | .next st' => b st'
  | o => o
def nextS : MS := fun st => .next st
theorem post_seq {a b : MS} {P : PEnds} : (seqS a b st).post P ↔ (a st).post { P with nx := fun st' => (b st').post P } := by
  unfold seqS
  cases a st <;> exact Iff.rfl
theorem Pss.nil {X : Cx} : Pss X W io [] nextS := pss_imp pss_nil fun D σ H ⟨Z₀, st, _, S, h⟩ => h σ H Grow.refl S
theorem Pss.cons {X : Cx} {s : Stmt} {r : List Stmt} {a b : MS} (h1 : Ps X W io s a) (h2 : Pss X W io r b) : Pss X W io (s :: r) (seqS a b) :=
  pss_imp (pss_cons h1 h2) fun D σ H ⟨Z₀, st, hp, S, h⟩ => by
    rw [post_seq] at h
    exact ⟨Z₀, st, hp, S, h.mono (fun st1 h σ1 H1 g S1 => ⟨Z₀, st1, hp, S1, pends_from g h⟩) (fun _ h => h) (fun _ h => h) (fun _ _ _ h => h) fun _ _ _ h => h⟩

/-- a statement made of an expression -/
def withS (m : M (Bool × D)) (f : Bool → D → MS) : MS := fun st => match m st with
  | .ok (fr, d) st' => f fr d st'
  | .exc c fs st' => .exc c fs st'
  | .stuck => .stuck
def dropS (m : M (Bool × D)) : MS := withS m fun _ _ st => .next st
def retS (m : M (Bool × D)) : MS := withS m fun fr d st => .ret fr d st
def setS (i : Nat) (m : M (Bool × D)) : MS := withS m fun fr d st => if i < st.length then .next (st.set i (some (fr, d))) else .stuck
theorem post_with {m : M (Bool × D)} {f : Bool → D → MS} {P : PEnds} : (withS m f st).post P ↔ (m st).post (fun p st' => (f p.1 p.2 st').post P) P.ex := by
  unfold withS
  cases m st with
  | ok p st' => obtain ⟨fr, d⟩ := p; exact Iff.rfl
  | exc c fs st' => exact Iff.rfl
  | stuck => exact Iff.rfl
/-- an expression's reading from a statement's -/
theorem with_sound {m : M (Bool × D)} {f : Bool → D → MS} {D : Ends} (h : tDs K mg W io (withS m f) D σ H) :
    tD K mg W m σ H fun v H1 => ∃ Z₀ st0 st fr d, Z₀.pin.isSome = io ∧ Grow st0 σ H st σ H1 ∧ Fin K mg Z₀ st σ H H1 fr d v ∧ (f fr d st).post (pends K mg W Z₀ st0 σ H D) := by
  obtain ⟨Z₀, st, hp, S, h⟩ := h
  rw [post_with] at h
  exact ⟨Z₀, st, S, h.mono (fun p st1 h v H1 g r => ⟨Z₀, st, st1, p.1, p.2, hp, g, r, h⟩) fun c fs st' h C dx H' g S' r m => h C dx σ H' g S' r m⟩
theorem Ps.drop {X : Cx} {e : Expr} {m : M (Bool × D)} {pos : Pos} (he : Pe X W e m) (hs : swapsWith e none pos.line X.env = pure false) : Ps X W io (.Expr e pos) (dropS m) :=
  ps_imp (ps_expr he hs) fun D σ H h => by
    obtain ⟨Z₀, st, S, h⟩ := with_sound h
    refine ⟨Z₀, st, S, h.mono (fun p st1 h v H1 g r => ?_) fun _ _ _ h => h⟩
    obtain ⟨Z₁, st0, st2, fr, d, hp, g2, r2, h2⟩ := h v H1 g r
    exact h2 σ H1 g2 r2.sim
theorem Ps.ret {X : Cx} {e : Expr} {m : M (Bool × D)} {pos : Pos} (he : Pe X W e m) : Ps X W io (.Return (some e) pos) (retS m) :=
  ps_imp (ps_ret he) fun D σ H h => by
    obtain ⟨Z₀, st, S, h⟩ := with_sound h
    refine ⟨Z₀, st, S, h.mono (fun p st1 h v H1 g r => ?_) fun _ _ _ h => h⟩
    obtain ⟨Z₁, st0, st2, fr, d, hp, g2, r2, h2⟩ := h v H1 g r
    refine h2 v σ H1 g2 ?_
    unfold Fin at r2
    unfold FinR
    split at r2
    · rename_i hf
      rw [if_pos hf]
      obtain ⟨a, rfl, hn, r⟩ := r2
      exact ⟨a, rfl, .inr hn, r⟩
    · rename_i hf
      rw [if_neg hf]
      exact r2
def retN : MS := fun st => .ret false .non st
theorem Ps.retN {X : Cx} {pos : Pos} : Ps X W io (.Return none pos) retN :=
  ps_imp ps_retN fun D σ H ⟨Z₀, st, _, S, h⟩ => h .non σ H Grow.refl (by unfold FinR; rw [if_neg (by simp)]; exact ⟨S, .non⟩)

/-- a name is given back: the one who holds it alone hands that on -/
def backS (i : Nat) : MS := fun st => match st[i]? with
  | some (some (b, d)) => .ret b d (if b then st.set i none else st)
  | _ => .stuck
theorem own_set_none {a : Addr} (h : OwnAt (st.set i none) σ a) : OwnAt st σ a ∧ ∀ d, ¬ (st[i]? = some (some (true, d)) ∧ σ[i]? = some (some (V.ref a)) ∧ ∀ (j : Nat) (e : D), st[j]? = some (some (true, e)) → σ[j]? = some (some (V.ref a)) → j = i) := by
  obtain ⟨j, e, h1, h2⟩ := h
  have hj : i ≠ j := fun hj => by
    subst hj
    have hl : i < (st.set i none).length := (List.getElem?_eq_some_iff.mp h1).1
    rw [List.getElem?_set_self (by simpa using hl)] at h1
    cases h1
  rw [List.getElem?_set_ne hj] at h1
  exact ⟨⟨j, e, h1, h2⟩, fun d ⟨_, _, q⟩ => hj (q j e h1 h2).symm⟩
theorem Ps.back {X : Cx} {i : Nat} {x : Str} {p pos : Pos} (hN : X.N[i]? = some x) (hv : Vis X.env.scope x) (hd : (x == ("__debug__" : Str)) = false) (hcd : (x == ("__classdict__" : Str)) = false) : Ps X W io (.Return (some (.Name x p)) pos) (backS i) :=
  ps_imp (ps_ret (pe_var hN hv hd hcd)) fun D σ H ⟨Z₀, st, hp, S, h⟩ => by
    unfold backS at h
    split at h
    · rename_i b d e
      obtain ⟨v, hv, r, m⟩ := S.val i b d e
      refine ⟨v, hv, ?_⟩
      cases b with
      | false => exact h v σ H Grow.refl (by unfold FinR; rw [if_neg (by simp)]; exact ⟨S, r⟩)
      | true =>
        obtain ⟨a, o, rfl, ha⟩ := r.mut_ref (m rfl)
        rw [if_pos rfl] at h
        have own : OwnAt st σ a := ⟨i, d, e, hv⟩
        have sub : ∀ b, OwnAt (st.set i none) σ b → OwnAt st σ b := fun b z => (own_set_none z).1
        have nown : ¬ OwnAt (st.set i none) σ a := fun z => (own_set_none z).2 d ⟨e, hv, fun j e' h1 h2 => S.inj j i e' d a h1 e h2 hv⟩
        have zs : ∀ b, ZZ (Z₀.add a) (st.set i none) σ b → ZZ Z₀ st σ b := fun b z => by
          rcases z with (z | z) | z
          · exact .inl z
          · subst z; exact .inr own
          · exact .inr (sub b z)
        have kk : Keeps (ZZ Z₀ st σ) (ZZ (Z₀.add a) (st.set i none) σ) H H := Keeps.sub zs
        refine h (.ref a) σ H ⟨fun _ _ q _ _ => q, fun b z => .inl (sub b z), fun _ q => q⟩ ?_
        unfold FinR
        rw [if_pos rfl]
        refine ⟨a, rfl, .inl own, fun z => z.elim (S.apart a own) nown, m rfl, ?_, RepP.top kk r fun _ _ _ q _ => q⟩
        have un : ∀ {j : Nat} {b : Bool} {e' : PL.D}, (st.set i none)[j]? = some (some (b, e')) → st[j]? = some (some (b, e')) := fun {j b e'} h1 => by
          by_cases hj : i = j
          · subst hj
            have hl : i < (st.set i none).length := (List.getElem?_eq_some_iff.mp h1).1
            rw [List.getElem?_set_self (by simpa using hl)] at h1
            cases h1
          · rw [List.getElem?_set_ne hj] at h1
            exact h1
        refine ⟨by rw [List.length_set]; exact S.len, fun j b e' hj => ?_, fun j j' e1 e2 b h1 h2 => S.inj j j' e1 e2 b (un h1) (un h2), fun b z q => ?_, fun b z => ?_, S.pin, S.tabs⟩
        · obtain ⟨w, e1, r1, m1⟩ := S.val j b e' (un hj)
          refine ⟨w, e1, ?_, m1⟩
          cases b with
          | true => exact RepP.top kk r1 fun _ _ _ q _ => q
          | false => exact r1.mono kk
        · rcases q with q | q
          · exact S.apart b (sub b z) q
          · subst q; exact nown z
        · rcases z with z | z
          · exact S.dom b z
          · subst z; rw [ha]; simp
    · exact h.elim

/-! ### a slot is set -/
theorem own_set {w : V} {a : Addr} (h : OwnAt (st.set i (some (fr, d))) (σ.set i (some w)) a) : (∃ (j : Nat) (e : D), i ≠ j ∧ st[j]? = some (some (true, e)) ∧ σ[j]? = some (some (V.ref a))) ∨ (fr = true ∧ w = .ref a) := by
  obtain ⟨j, e, h1, h2⟩ := h
  by_cases hj : i = j
  · subst hj
    have hl : i < (st.set i (some (fr, d))).length := (List.getElem?_eq_some_iff.mp h1).1
    have hl2 : i < (σ.set i (some w)).length := (List.getElem?_eq_some_iff.mp h2).1
    rw [List.getElem?_set_self (by simpa using hl)] at h1
    rw [List.getElem?_set_self (by simpa using hl2)] at h2
    cases h1; cases h2
    exact .inr ⟨rfl, rfl⟩
  · rw [List.getElem?_set_ne hj] at h1 h2
    exact .inl ⟨j, e, hj, h1, h2⟩
theorem Sim.set (hF : Fin K mg Z₀ st σ H0 H fr d v) (hi : i < st.length) (hpin : Z₀.pin = none ∨ i ≠ 0) :
    Sim K mg Z₀ (st.set i (some (fr, d))) (σ.set i (some v)) H ∧ ∀ a, OwnAt (st.set i (some (fr, d))) (σ.set i (some v)) a → OwnAt st σ a ∨ H0 a = none := by
  have S := hF.sim
  have hiσ : i < σ.length := by rw [← S.len]; exact hi
  -- what the others hold, the new one among it
  obtain ⟨Z₁, S1, r1, h01, hm, hnew⟩ : ∃ Z₁ : Zp, Sim K mg Z₁ st σ H ∧ RepP K mg (ZZ Z₁ st σ) H (!fr) d v ∧ (∀ a, Z₀.z a → Z₁.z a) ∧ (fr = true → isMut d = true) ∧ ∀ a, fr = true → v = .ref a → Z₁.z a ∧ ¬ ZZ Z₀ st σ a ∧ H0 a = none := by
    unfold Fin at hF
    split at hF
    · rename_i hf
      obtain ⟨a, rfl, hn, nz, m, S', r⟩ := hF
      subst hf
      exact ⟨Z₀.add a, S', r, fun b z => .inl z, fun _ => m, fun b _ e => by cases e; exact ⟨.inr rfl, nz, hn⟩⟩
    · rename_i hf
      have hf : fr = false := by simpa using hf
      subst hf
      exact ⟨Z₀, hF.1, hF.2, fun _ z => z, fun q => Bool.noConfusion q, fun b q => Bool.noConfusion q⟩
  have sub : ∀ b, ZZ Z₀ (st.set i (some (fr, d))) (σ.set i (some v)) b → ZZ Z₁ st σ b := fun b z => by
    rcases z with z | z
    · exact .inl (h01 b z)
    · rcases own_set z with ⟨j, e, _, h1, h2⟩ | ⟨h1, h2⟩
      · exact .inr ⟨j, e, h1, h2⟩
      · exact .inl (hnew b h1 h2).1
  have kk : Keeps (ZZ Z₁ st σ) (ZZ Z₀ (st.set i (some (fr, d))) (σ.set i (some v))) H H := Keeps.sub sub
  have up : ∀ {b : Bool} {e : D} {w : V}, RepP K mg (ZZ Z₁ st σ) H (!b) e w → RepP K mg (ZZ Z₀ (st.set i (some (fr, d))) (σ.set i (some v))) H (!b) e w := fun {b e w} r => by
    cases b with
    | true => exact RepP.top kk r fun _ _ _ q _ => q
    | false => exact r.mono kk
  refine ⟨⟨by rw [List.length_set, List.length_set]; exact S.len, fun j b e hj => ?_, fun j j' e e' a h1 h2 h3 h4 => ?_, fun a z q => ?_, S.dom, fun a e => ?_, S.tabs⟩, fun a z => ?_⟩
  · by_cases hij : i = j
    · subst hij
      rw [List.getElem?_set_self hi] at hj
      cases hj
      exact ⟨v, by rw [List.getElem?_set_self hiσ], up r1, hm⟩
    · rw [List.getElem?_set_ne hij] at hj
      obtain ⟨w, e1, r, m⟩ := S1.val j b e hj
      exact ⟨w, by rw [List.getElem?_set_ne hij]; exact e1, up r, m⟩
  · by_cases hij : i = j
    · by_cases hij' : i = j'
      · omega
      · subst hij
        rw [List.getElem?_set_self hi] at h1
        rw [List.getElem?_set_self hiσ] at h3
        cases h1; cases h3
        rw [List.getElem?_set_ne hij'] at h2 h4
        exact absurd (.inr ⟨j', e', h2, h4⟩) (hnew a rfl rfl).2.1
    · by_cases hij' : i = j'
      · subst hij'
        rw [List.getElem?_set_self hi] at h2
        rw [List.getElem?_set_self hiσ] at h4
        cases h2; cases h4
        rw [List.getElem?_set_ne hij] at h1 h3
        exact absurd (.inr ⟨j, e, h1, h3⟩) (hnew a rfl rfl).2.1
      · rw [List.getElem?_set_ne hij] at h1 h3
        rw [List.getElem?_set_ne hij'] at h2 h4
        exact S.inj j j' e e' a h1 h2 h3 h4
  · rcases own_set z with ⟨j, e, _, h1, h2⟩ | ⟨h1, h2⟩
    · exact S.apart a ⟨j, e, h1, h2⟩ q
    · exact (hnew a h1 h2).2.1 (.inl q)
  · rcases hpin with z | z
    · rw [z] at e; cases e
    · rw [List.getElem?_set_ne z]; exact S.pin a e
  · rcases own_set z with ⟨j, e, _, h1, h2⟩ | ⟨h1, h2⟩
    · exact .inl ⟨j, e, h1, h2⟩
    · exact .inr (hnew a h1 h2).2.2
/-- behind a store -/
theorem set_step (g : Grow st0 σ H0 st σ H) (hF : Fin K mg Z₀ st σ H0 H fr d v) (hi : i < st.length) (hpin : Z₀.pin = none ∨ i ≠ 0) :
    Grow st0 σ H0 (st.set i (some (fr, d))) (σ.set i (some v)) H ∧ Sim K mg Z₀ (st.set i (some (fr, d))) (σ.set i (some v)) H := by
  obtain ⟨S, own⟩ := Sim.set hF hi hpin
  exact ⟨⟨g.keep, fun a z => (own a z).elim (g.own a) .inr, g.dom⟩, S⟩
theorem pin_of (hp : Z₀.pin.isSome = io) (h : io = false ∨ i ≠ 0) : Z₀.pin = none ∨ i ≠ 0 := by
  rcases h with h | h
  · refine .inl ?_
    rw [h] at hp
    cases e : Z₀.pin with
    | none => rfl
    | some a => rw [e] at hp; cases hp
  · exact .inr h
theorem Ps.set {X : Cx} {i : Nat} {x : Str} {e : Expr} {m : M (Bool × D)} {p pos : Pos} (hN : X.N.Nodup) (hi : X.N[i]? = some x) (hx : Loc X.env.scope x) (he : Pe X W e m) (hs : swapsWith e (some (.Name x p)) pos.line X.env = pure false)
    (hf : X.fn x = true ∨ X.env.scope.names.lookup x = some .local) (hio : io = false ∨ i ≠ 0) : Ps X W io (.Assign [.Name x p] e pos) (setS i m) :=
  ps_imp (ps_set hN hi hx he hs hf) fun D σ H h => by
    obtain ⟨Z₀, st, S, h⟩ := with_sound h
    refine ⟨Z₀, st, S, h.mono (fun p st1 h v H1 g r => ?_) fun _ _ _ h => h⟩
    obtain ⟨Z₁, st0, st2, fr, d, hp, g2, r2, h2⟩ := h v H1 g r
    split at h2
    · rename_i hl
      obtain ⟨g3, S3⟩ := set_step g2 r2 hl (pin_of hp hio)
      exact h2 _ H1 g3 S3
    · exact h2.elim

/-! ### if -/
def ifS (c : M Bool) (a b : MS) : MS := fun st => match c st with
  | .ok k st' => if k then a st' else b st'
  | .exc c fs st' => .exc c fs st'
  | .stuck => .stuck
theorem post_if {c : M Bool} {a b : MS} {P : PEnds} : (ifS c a b st).post P ↔ (c st).post (fun k st' => (if k then a st' else b st').post P) P.ex := by
  unfold ifS
  cases c st <;> exact Iff.rfl
theorem Ps.ifs {X : Cx} {c : Expr} {p q : List Stmt} {pos : Pos} {mc : M Bool} {a b : MS} (hc : Pt X W c mc) (ha : Pss X W io p a) (hb : Pss X W io q b) : Ps X W io (.If c p q pos) (ifS mc a b) :=
  ps_imp (ps_if hc ha hb) fun D σ H ⟨Z₀, st, hp, S, h⟩ => by
    rw [post_if] at h
    refine ⟨Z₀, st, S, h.mono (fun k st1 h H1 g S1 => ?_) fun c fs st' h C dx H' g S' r m => h C dx σ H' g S' r m⟩
    cases k with
    | true => rw [if_pos rfl]; exact ⟨Z₀, st1, hp, S1, pends_from g h⟩
    | false => rw [if_neg Bool.false_ne_true]; exact ⟨Z₀, st1, hp, S1, pends_from g h⟩
def brkS : MS := fun st => .brk st
def contS : MS := fun st => .cont st
theorem Ps.brk {X : Cx} {pos : Pos} : Ps X W io (.Break pos) brkS := ps_imp ps_break fun D σ H ⟨Z₀, st, _, S, h⟩ => h σ H Grow.refl S
theorem Ps.cont {X : Cx} {pos : Pos} : Ps X W io (.Continue pos) contS := ps_imp ps_continue fun D σ H ⟨Z₀, st, _, S, h⟩ => h σ H Grow.refl S
theorem Ps.doc {X : Cx} {x : Str} {j : Nat} {p pos : Pos} : Ps X W io (.Expr (.Constant (.str x) j p) pos) nextS := ps_imp ps_doc fun D σ H ⟨Z₀, st, _, S, h⟩ => h σ H Grow.refl S

/-! ### while -/
/-- behind a turn of a loop -/
def turnS (k : MS) : OutS → OutS
  | .next st => k st
  | .cont st => k st
  | .brk st => .next st
  | o => o
theorem post_turn {k : MS} {o : OutS} {P : PEnds} : (turnS k o).post P ↔ o.post { P with nx := fun st => (k st).post P, ct := fun st => (k st).post P, bk := P.nx } := by
  cases o <;> exact Iff.rfl
end
end PL
set_option Elab.async false
set_option linter.all false
set_option maxRecDepth 100000
set_option maxHeartbeats 4000000
set_option autoImplicit false
/-! PL4: what a def is worth, its body's rule, its call. -/
namespace PL
open PySem PySem.Spec PyProof.Rows L2

/-- what a call gives: a datum (new and held by nobody, or not), what the first argument then is where the def changes it -/
inductive FOut where
  | ok (fr : Bool) (d : D) (io : Option D)
  | exc (c : Str) (fs : List (Str × D)) (io : Option D)
  | stuck
abbrev FDen := List D → FOut

def Zof (Z : Zs) (oa : Option Addr) : Zs := fun b => Z b ∨ oa = some b
/-- the arguments; where io, the first one is an object that the def may change -/
def CallIn (K : PySem.W.Frag) (mg : Str → Option Value) (io : Bool) (Z : Zs) (H : Hp) (ds : List D) (vs : List V) (oa : Option Addr) : Prop :=
  (TabsK K H ∧ ∀ a, Z a → H a ≠ none) ∧ if io = true then ∃ a d ds' vs', oa = some a ∧ ds = d :: ds' ∧ vs = .ref a :: vs' ∧ ¬ Z a ∧ isMut d = true ∧ RepP K mg (Zof Z oa) H false d (.ref a) ∧ RepL K mg (Zof Z oa) H ds' vs'
    else oa = none ∧ RepL K mg Z H ds vs
def Chg (oa : Option Addr) (H H' : Hp) : Prop := (∀ b u, oa ≠ some b → H b = some u → NT u → H' b = some u) ∧ ∀ b, H b ≠ none → H' b ≠ none
def IoRep (K : PySem.W.Frag) (mg : Str → Option Value) (Zx : Zs) (H' : Hp) : Option Addr → Option D → Prop
  | some a, some d => TabsK K H' ∧ isMut d = true ∧ RepP K mg Zx H' false d (.ref a)
  | none, none => TabsK K H'
  | _, _ => False
/-- what is wanted behind the call -/
def CallOut (K : PySem.W.Frag) (mg : Str → Option Value) (Z : Zs) (oa : Option Addr) (H : Hp) (o : FOut) (Q : VK) (E : XK) : Prop := match o with
  | .ok fr d od => ∀ v H', Chg oa H H' → IoRep K mg (fun b => Zof Z oa b ∨ (fr = true ∧ v = .ref b)) H' oa od → RepP K mg (fun b => Zof Z oa b ∨ (fr = true ∧ v = .ref b)) H' (!fr) d v → (fr = true → isMut d = true ∧ ∃ a, v = .ref a ∧ H a = none) → Q v H'
  | .exc c fs od => ∀ C dx H', Chg oa H H' → IoRep K mg (Zof Z oa) H' oa od → RepX K mg (Zof Z oa) H' fs dx → mg c = some (.ref C) → E (.ref C) dx H'
  | .stuck => False

structure FOk (P : Program) (w : World) (K : PySem.W.Frag) (mg : Str → Option Value) (base : Heap) (k : Nat) (f : Addr) (fd : FuncData) (ps : List Str) (io : Bool) (m : FDen) : Prop where
  run : ∀ (A : Around) (outer : List Env) (s : Shared) (H : Hp) (args : Args) (us : List Value) (vs : List V) (Z : Zs) (ds : List D) (oa : Option Addr) (Q : VK) (E : XK), Room k A → A.guards = some [] → Env0 P w K mg base A outer s H →
    BindsTo s fd args (ps.zip us) → Vals vs us → vs.length = ps.length → CallIn K mg io Z H ds vs oa → CallOut K mg Z oa H (m ds) Q E → codeAny (model P w) A (.call (.ref f) args) (CR (L2.CX P w) outer P w H s Q E) s
theorem FOk.mono {P : Program} {w : World} {K : PySem.W.Frag} {mg : Str → Option Value} {base : Heap} {j k : Nat} {f : Addr} {fd : FuncData} {ps : List Str} {io : Bool} {m : FDen} (F : FOk P w K mg base j f fd ps io m) (h : j ≤ k) : FOk P w K mg base k f fd ps io m :=
  ⟨fun A outer s H args us vs Z ds oa Q E hr => F.run A outer s H args us vs Z ds oa Q E (hr.mono h)⟩

/-! ### a body -/
def startSt (io : Bool) (n : Nat) : List D → DSt
  | [] => List.replicate n none
  | d :: ds => some (io, d) :: (ds.map (fun d => some (false, d)) ++ List.replicate (n - (ds.length + 1)) none)
def finIo (io : Bool) (st : DSt) (k : Option D → FOut) : FOut :=
  if io then (match st[0]? with | some (some (true, d)) => k (some d) | _ => .stuck) else k none
def fden (io : Bool) (np n : Nat) (mb : MS) : FDen := fun ds =>
  if ds.length = np then (match mb (startSt io n ds) with
    | .next st => finIo io st (.ok false .non)
    | .ret fr d st => finIo io st (.ok fr d)
    | .exc c fs st => finIo io st (.exc c fs)
    | _ => .stuck) else .stuck

section
variable {K : PySem.W.Frag} {mg : Str → Option Value} {W : WX} {Z : Zs} {Z₀ : Zp} {H H' H0 : Hp} {st st' st0 : DSt} {σ σ' σ0 : L2.St} {d : D} {v : V} {fr : Bool} {i : Nat} {io : Bool} {oa : Option Addr} {ds : List D} {vs : List V}
theorem start_get {N : List Str} : ∀ {i : Nat} {b : Bool} {d : D}, (startSt io N.length ds)[i]? = some (some (b, d)) → ds[i]? = some d ∧ b = (io && decide (i = 0)) := by
  intro i b d h
  cases ds with
  | nil =>
    rw [startSt, List.getElem?_replicate] at h
    split at h <;> cases h
  | cons d0 ds =>
    rw [startSt] at h
    cases i with
    | zero =>
      simp at h
      simp [h]
    | succ i =>
      rw [List.getElem?_cons_succ] at h ⊢
      by_cases hi : i < ds.length
      · rw [List.getElem?_append_left (by simpa using hi), List.getElem?_map] at h
        cases e : ds[i]? with
        | none => rw [e] at h; cases h
        | some x =>
          rw [e] at h
          simp at h
          simp [h]
      · rw [List.getElem?_append_right (by simpa using hi), List.getElem?_replicate] at h
        split at h <;> cases h
theorem start_len {N : List Str} (h : ds.length ≤ N.length) (hl : vs.length = ds.length) : (startSt io N.length ds).length = (L2.start N vs).length := by
  unfold L2.start
  cases ds with
  | nil =>
    have : vs = [] := List.eq_nil_of_length_eq_zero (by simpa using hl)
    subst this
    simp [startSt]
  | cons d0 ds =>
    simp [startSt] at h ⊢
    simp at hl
    omega
theorem startV_get {N : List Str} {i : Nat} {v : V} (h : vs[i]? = some v) : (L2.start N vs)[i]? = some (some v) := by
  unfold L2.start
  have hi : i < vs.length := (List.getElem?_eq_some_iff.mp h).1
  rw [List.getElem?_append_left (by simpa using hi), List.getElem?_map, h]
  rfl
/-- the slots at a def's entry -/
theorem Sim.start {N : List Str} (h : CallIn K mg io Z H ds vs oa) (hl : ds.length ≤ N.length) : ds.length = vs.length ∧ (Zp.mk Z oa).pin.isSome = io ∧ Sim K mg ⟨Z, oa⟩ (startSt io N.length ds) (L2.start N vs) H ∧ ∀ b, OwnAt (startSt io N.length ds) (L2.start N vs) b ↔ oa = some b := by
  obtain ⟨⟨tb, dom⟩, h⟩ := h
  cases io with
  | false =>
    obtain ⟨rfl, r⟩ := h
    have own : ∀ b, ¬ OwnAt (startSt false N.length ds) (L2.start N vs) b := fun b ⟨i, d, h1, _⟩ => by
      have := (start_get h1).2
      simp at this
    have zz : ∀ b, ZZ ⟨Z, none⟩ (startSt false N.length ds) (L2.start N vs) b → Z b := fun b z => z.elim id fun z => (own b z).elim
    refine ⟨r.length, rfl, ⟨start_len hl r.length.symm, fun i b d e => ?_, fun i j d d' a h1 => absurd (start_get h1).2 (by simp), fun a z => (own a z).elim, dom, (fun a e => by cases e), tb⟩, fun b => ⟨fun z => (own b z).elim, fun z => by cases z⟩⟩
    obtain ⟨e1, rfl⟩ := start_get e
    obtain ⟨v, e2, q⟩ := r.get e1
    exact ⟨v, startV_get e2, q.mono (Keeps.sub zz), by simp⟩
  | true =>
    obtain ⟨a, d0, ds', vs', rfl, rfl, rfl, nz, m, r0, r⟩ := h
    have hlen : (d0 :: ds').length = (V.ref a :: vs').length := by simp [r.length]
    have own : ∀ b, OwnAt (startSt true N.length (d0 :: ds')) (L2.start N (V.ref a :: vs')) b ↔ some a = some b := fun b => by
      constructor
      · rintro ⟨i, d, h1, h2⟩
        have h3 := (start_get h1).2
        have h3 : i = 0 := by simpa using h3
        subst h3
        rw [startV_get (v := .ref a) (by simp)] at h2
        cases h2
        rfl
      · intro e
        cases e
        exact ⟨0, d0, by simp [startSt], startV_get (by simp)⟩
    have zz : ∀ b, ZZ ⟨Z, some a⟩ (startSt true N.length (d0 :: ds')) (L2.start N (V.ref a :: vs')) b → Zof Z (some a) b := fun b z => z.imp id fun z => (own b).mp z
    refine ⟨hlen, rfl, ⟨start_len hl hlen.symm, fun i b d e => ?_, fun i j d d' b h1 h2 _ _ => ?_, fun b z q => ?_, dom, (fun b e => by cases e; exact startV_get (by simp)), tb⟩, fun b => ⟨fun z => (own b).mp z, fun z => (own b).mpr z⟩⟩
    · obtain ⟨e1, rfl⟩ := start_get e
      cases i with
      | zero =>
        simp at e1
        subst e1
        exact ⟨_, startV_get (by simp), RepP.top (Keeps.sub zz) r0 fun _ _ _ q _ => q, fun _ => m⟩
      | succ i =>
        obtain ⟨v, e2, q⟩ := r.get (i := i) (by simpa using e1)
        exact ⟨v, startV_get (by simpa using e2), by simpa using q.mono (Keeps.sub zz), by simp⟩
    · have h3 : i = 0 := by simpa using (start_get h1).2
      have h4 : j = 0 := by simpa using (start_get h2).2
      omega
    · cases (own b).mp z
      exact nz q

/-- behind the body -/
theorem out_of {N : List Str} {mb : MS} {np : Nat} {Q : VK} {E : XK} (hin : CallIn K mg io Z H ds vs oa) (hnp : ds.length = np) (hl : ds.length ≤ N.length) (h : CallOut K mg Z oa H (fden io np N.length mb ds) Q E) :
    tDs K mg (fun cls dx _ H' => E cls dx H') io mb { nx := fun _ H' => Q .non H', rt := Q } (L2.start N vs) H := by
  obtain ⟨hlen, hp, S, own⟩ := Sim.start hin hl
  refine ⟨_, _, hp, S, ?_⟩
  unfold fden at h
  rw [if_pos hnp] at h
  -- what the slots say of the first parameter
  have chg : ∀ {st' : DSt} {σ' : L2.St} {H' : Hp}, Grow (startSt io N.length ds) (L2.start N vs) H st' σ' H' → Chg oa H H' := fun g => ⟨fun b u n e nt => g.keep b u e (fun z => n ((own b).mp z)) nt, g.dom⟩
  have io_of : ∀ {st' : DSt} {σ' : L2.St} {H' : Hp} {Z₁ : Zp} {k : Option D → FOut} {o : FOut}, finIo io st' k = o → o ≠ .stuck → Sim K mg Z₁ st' σ' H' → Z₁.pin = oa → (∀ b, Zof Z oa b → Z₁.z b ∨ oa = some b) →
      ∃ od, o = k od ∧ ∀ Zx : Zs, (∀ b, Zx b → ZZ Z₁ st' σ' b) → IoRep K mg Zx H' oa od ∧ (∀ b, oa = some b → OwnAt st' σ' b) := fun {st' σ' H' Z₁ k o} e ns S' hpin hz => by
    cases io with
    | false =>
      obtain ⟨rfl, _⟩ := hin.2
      exact ⟨none, e.symm, fun Zx _ => ⟨S'.tabs, fun b z => by cases z⟩⟩
    | true =>
      obtain ⟨a, d0, ds', vs', rfl, _⟩ := hin.2
      unfold finIo at e
      rw [if_pos rfl] at e
      split at e
      · rename_i d1 e1
        refine ⟨some d1, e.symm, fun Zx hx => ?_⟩
        obtain ⟨v, e2, r, m⟩ := S'.val 0 true d1 e1
        have e3 := S'.pin a hpin
        rw [e2] at e3
        cases e3
        exact ⟨⟨S'.tabs, m rfl, RepP.top (Keeps.sub hx) r fun _ _ _ q _ => q⟩, fun b z => by cases z; exact ⟨0, d1, e1, e2⟩⟩
      · exact absurd e.symm ns
  cases em : mb (startSt io N.length ds) with
  | stuck => rw [em] at h; exact h
  | brk st' => rw [em] at h; exact (show False from h).elim
  | cont st' => rw [em] at h; exact (show False from h).elim
  | next st' =>
    rw [em] at h
    intro σ' H' g S'
    have h : CallOut K mg Z oa H (finIo io st' (.ok false .non)) Q E := h
    obtain ⟨od, e, hio⟩ := io_of rfl (fun q => by rw [q] at h; exact h) S' rfl fun b z => z
    rw [e] at h
    refine h .non H' (chg g) (hio _ fun b z => ?_).1 .non (by simp)
    rcases z with (z | z) | ⟨z, _⟩
    · exact .inl z
    · exact .inr ((hio (fun _ => False) fun _ q => q.elim).2 b z)
    · cases z
  | exc c fs st' =>
    rw [em] at h
    intro C dx σ' H' g S' r m
    have h : CallOut K mg Z oa H (finIo io st' (.exc c fs)) Q E := h
    obtain ⟨od, e, hio⟩ := io_of rfl (fun q => by rw [q] at h; exact h) S' rfl fun b z => z
    rw [e] at h
    have sub : ∀ b, Zof Z oa b → ZZ ⟨Z, oa⟩ st' σ' b := fun b z => z.imp id fun z => (hio (fun _ => False) fun _ q => q.elim).2 b z
    exact h C dx H' (chg g) (hio _ sub).1 (r.later (Keeps.sub sub)) m
  | ret fr d st' =>
    rw [em] at h
    intro v σ' H' g r
    have h : CallOut K mg Z oa H (finIo io st' (.ok fr d)) Q E := h
    cases fr with
    | false =>
      have r' : Sim K mg ⟨Z, oa⟩ st' σ' H' ∧ Rep K mg (ZZ ⟨Z, oa⟩ st' σ') H' d v := by
        unfold FinR at r
        rw [if_neg (by simp)] at r
        exact r
      obtain ⟨od, e, hio⟩ := io_of rfl (fun q => by rw [q] at h; exact h) r'.1 rfl fun b z => z
      rw [e] at h
      have sub : ∀ b, Zof Z oa b ∨ (false = true ∧ v = V.ref b) → ZZ ⟨Z, oa⟩ st' σ' b := fun b z => by
        rcases z with (z | z) | ⟨z, _⟩
        · exact .inl z
        · exact .inr ((hio (fun _ => False) fun _ q => q.elim).2 b z)
        · cases z
      exact h v H' (chg g) (hio _ sub).1 (r'.2.mono (Keeps.sub sub)) (by simp)
    | true =>
      unfold FinR at r
      rw [if_pos rfl] at r
      obtain ⟨a, rfl, ho, nz, m, S', r⟩ := r
      obtain ⟨od, e, hio⟩ := io_of rfl (fun q => by rw [q] at h; exact h) S' rfl fun b z => z.imp .inl id
      rw [e] at h
      have own' := (hio (fun _ => False) fun _ q => q.elim).2
      have sub : ∀ b, Zof Z oa b ∨ (true = true ∧ V.ref a = V.ref b) → ZZ ((Zp.mk Z oa).add a) st' σ' b := fun b z => by
        rcases z with (z | z) | ⟨_, z⟩
        · exact .inl (.inl z)
        · exact .inr (own' b z)
        · cases z; exact .inl (.inr rfl)
      refine h (.ref a) H' (chg g) (hio _ sub).1 (RepP.top (Keeps.sub sub) r fun _ _ _ q _ => q) fun _ => ⟨m, a, rfl, ?_⟩
      rcases ho with ho | ho
      · exact absurd (.inr (own' a ((own a).mp ho))) nz
      · exact ho
end

section
variable {P : Program} {w : World} {K : PySem.W.Frag} {mg : Str → Option Value} {base : Heap}
/-- THE RULE for a def -/
theorem FOk.ofC {C : Value → Prop} {x qual : Str} {sd : Stmt} {f : Addr} {fd : FuncData} {N ps : List Str} {k : Nat} {io : Bool} {mb : MS} (F : Fun K x qual sd f fd) (S : FnScope N ps (defScope sd))
    (hC : ∀ (oc : Value) (od : Option Addr) (kV doc pm : Value) (an : Option Addr) (cdv ct : Value) (osl : Array (Option Value)), K.lookup f = some ⟨oc, od, .func (PySem.W.fnOf x qual (defArgs sd) (defBody sd) (defScope sd) .none kV doc pm an cdv ct), osl⟩ → PySem.W.codeIn K cdv qual = true → C cdv)
    (hbody : ∀ (cdv : Value), C cdv → ∀ (A : Around) (outer : List Env) (s : Shared) (H : Hp) (E : XK), Room k (A.deeper (envOfC qual (defScope sd) s.heap.objs.size f cdv)) → A.guards = some [] →
      Pss (cxOf (L2.CX P w) P w K mg base N qual (defScope sd) f cdv A outer s H E) (fun cls dx _ H' => E cls dx H') io (defBody sd) mb) :
    FOk P w K mg base (k + 1) f fd ps io (fden io ps.length N.length mb) := by
  obtain ⟨oc, od, kV, doc, pm, an, cdv, ct, osl, rfl, lk, hcd⟩ := F.ex
  refine ⟨fun A outer s H args us vs Z ds oa Q E hr hg e0 hb rv hlv hin hout => ?_⟩
  have hN : ps.length ≤ N.length := by have := congrArg List.length S.pre; rw [List.length_take] at this; omega
  have hdv : ds.length = vs.length := by
    have q := hin.2
    cases io with
    | false => exact q.2.length
    | true => obtain ⟨a, d0, ds', vs', _, rfl, rfl, _, _, _, r⟩ := q; simp [r.length]
  have hq := out_of (N := N) hin (hdv.trans hlv) (by omega) hout
  have KX : K.In s.heap := e0.mod.kin.keeps fun b o e => (e0.bs b o e).1
  have lim : s.heap.NoLimit := e0.mod.nolimit.keeps fun b o e => (e0.bs b o e).1
  refine codeAny_call_function hr.depth (KX _ _ lk) rfl S.co S.gen rfl (PySem.W.codeRec_of KX hcd) (hb _ _ _ _ ?_)
  refine wpAny_newFunctionEnv_cells S.kind (fun y hy => ?_) fun env he s1 x => ?_
  · rcases S.par y.1 (List.of_mem_zip (show (y.1, y.2) ∈ ps.zip us from hy)).1 with q | q
    · exact .inl q
    · exact .inr ⟨q, PySem.W.cellsFrom_some _ _ _ (.inl q)⟩
  subst he
  refine ⟨lim.keeps x.toInCall.keep, codeAny_func ?_⟩
  have I := inv_start (CX := L2.CX P w) (E := E) S hr.hd e0 hlv rv x
  refine wpAny_mono ((hbody cdv (hC _ _ _ _ _ _ _ _ _ lk hcd) A outer s H E (hr.deeper _) hg).run [] s1 (L2.start N vs) H _ I hq) (fun fl s' hs => ?_) fun _ _ hs => hs
  cases fl with
  | brk => obtain ⟨_, _, _, q⟩ := hs; exact q.elim
  | cont => obtain ⟨_, _, _, q⟩ := hs; exact q.elim
  | ret u =>
    obtain ⟨v, σ', H', J, rv, q⟩ := hs
    exact ⟨v, H', J.os, J.bare, J.base, J.hok, rv, q⟩
  | next =>
    obtain ⟨σ', H', J, q⟩ := hs
    exact ⟨V.non, H', J.os, J.bare, J.base, J.hok, rfl, q⟩
theorem FOk.of {x qual : Str} {sd : Stmt} {f : Addr} {fd : FuncData} {N ps : List Str} {k : Nat} {io : Bool} {mb : MS} (F : Fun K x qual sd f fd) (S : FnScope N ps (defScope sd))
    (hbody : ∀ (cdv : Value) (A : Around) (outer : List Env) (s : Shared) (H : Hp) (E : XK), Room k (A.deeper (envOfC qual (defScope sd) s.heap.objs.size f cdv)) → A.guards = some [] →
      Pss (cxOf (L2.CX P w) P w K mg base N qual (defScope sd) f cdv A outer s H E) (fun cls dx _ H' => E cls dx H') io (defBody sd) mb) :
    FOk P w K mg base (k + 1) f fd ps io (fden io ps.length N.length mb) := FOk.ofC (C := fun _ => True) F S (fun _ _ _ _ _ _ _ _ _ _ _ => trivial) fun cdv _ => hbody cdv
end
end PL
set_option Elab.async false
set_option linter.all false
set_option maxRecDepth 100000
set_option maxHeartbeats 4000000
set_option autoImplicit false
/-! PL5: calls of defs, changes of what a name alone holds, raise. -/
namespace PL
open PySem PySem.Spec PyProof.Rows L2

section
variable {K : PySem.W.Frag} {mg : Str → Option Value} {W : WX} {Z Z' : Zs} {Z₀ Z₁ : Zp} {H H' H0 : Hp} {st st' st0 : DSt} {σ σ' : L2.St} {d d' : D} {v : V} {fr : Bool} {i : Nat} {a : Addr} {ds : List D} {vs : List V}

/-! ### arguments that are handed on -/
def runExs : List (M (Bool × D)) → M (List D)
  | [] => M.pure []
  | m :: r => m.bind fun x => (runExs r).bind fun ds => M.pure (x.2 :: ds)
def exT (K : PySem.W.Frag) (mg : Str → Option Value) (W : WX) : List (M (Bool × D)) → TA
  | [] => tNil
  | m :: r => tCons (tD K mg W m) (exT K mg W r)
def tExs (K : PySem.W.Frag) (mg : Str → Option Value) (W : WX) (ms : List (M (Bool × D))) : TA := fun σ H Q => ∃ Z₀ st, Sim K mg Z₀ st σ H ∧
  (runExs ms st).post (fun ds st' => ∀ vs H', Grow st σ H st' σ H' → Sim K mg Z₀ st' σ H' → RepL K mg (ZZ Z₀ st' σ) H' ds vs → Q vs H') (XEnd K mg W Z₀ st σ H)
theorem exs_len {k : List D → DSt → Prop} {x : Str → List (Str × D) → DSt → Prop} : ∀ {ms : List (M (Bool × D))} {st : DSt}, (runExs ms st).post k x → (runExs ms st).post (fun ds st' => ds.length = ms.length ∧ k ds st') x
  | [], st, h => ⟨rfl, h⟩
  | m :: r, st, h => by
    rw [runExs, post_bind] at h ⊢
    refine h.mono (fun p st1 h => ?_) fun _ _ _ h => h
    rw [post_bind] at h ⊢
    exact (exs_len h).mono (fun ds st2 h => ⟨by show ds.length + 1 = r.length + 1; rw [h.1], h.2⟩) fun _ _ _ h => h
theorem exs_sound : ∀ (ms : List (M (Bool × D))) (σ : L2.St) (H : Hp) (Q : List V → Hp → Prop), tExs K mg W ms σ H Q → exT K mg W ms σ H Q
  | [], σ, H, Q, ⟨Z₀, st, S, h⟩ => h [] H Grow.refl S .nil
  | m :: r, σ, H, Q, ⟨Z₀, st, S, h⟩ => by
    refine ⟨Z₀, st, S, ?_⟩
    rw [runExs, post_bind] at h
    refine h.mono (fun p st1 h v H1 g1 r1 => ?_) fun _ _ _ h => h
    refine exs_sound r σ H1 _ ⟨Z₀, st1, r1.sim, ?_⟩
    rw [post_bind] at h
    refine h.mono (fun ds st2 h vs H2 g2 S2 pl => ?_) fun _ _ _ h => XEnd.from h g1
    exact h (v :: vs) H2 (g1.trans g2) S2 (.cons (g2.rep r1.rep) pl)

/-! ### an object that a name alone holds is changed -/
theorem own_poke (hi : st[i]? = some (some (true, d))) : ∀ b, OwnAt (st.set i (some (true, d'))) σ b ↔ OwnAt st σ b := fun b => by
  have hl : i < st.length := (List.getElem?_eq_some_iff.mp hi).1
  constructor
  · rintro ⟨j, e, h1, h2⟩
    by_cases hj : i = j
    · subst hj; exact ⟨i, d, hi, h2⟩
    · rw [List.getElem?_set_ne hj] at h1; exact ⟨j, e, h1, h2⟩
  · rintro ⟨j, e, h1, h2⟩
    by_cases hj : i = j
    · subst hj; exact ⟨i, d', by rw [List.getElem?_set_self hl], h2⟩
    · exact ⟨j, e, by rw [List.getElem?_set_ne hj]; exact h1, h2⟩
/-- others that are new may be held besides (Z₁) -/
theorem Sim.pokeN (S : Sim K mg Z₀ st σ H) (hi : st[i]? = some (some (true, d))) (hv : σ[i]? = some (some (V.ref a))) (k : ∀ b u, b ≠ a → H b = some u → NT u → H' b = some u) (dom : ∀ b, H b ≠ none → H' b ≠ none) (tb : TabsK K H')
    (hz : ∀ b, Z₁.z b → Z₀.z b ∨ (H b = none ∧ H' b ≠ none)) (hp : Z₁.pin = Z₀.pin) (m : isMut d' = true) (r : RepP K mg (ZZ Z₁ st σ) H' false d' (.ref a)) :
    Sim K mg Z₁ (st.set i (some (true, d'))) σ H' ∧ Grow st σ H (st.set i (some (true, d'))) σ H' := by
  have own := own_poke (σ := σ) (d' := d') hi
  have oa : OwnAt st σ a := ⟨i, d, hi, hv⟩
  have hl : i < st.length := (List.getElem?_eq_some_iff.mp hi).1
  have zz : ∀ b, ZZ Z₁ (st.set i (some (true, d'))) σ b → ZZ Z₁ st σ b := fun b z => z.imp id (own b).mp
  have kk : Keeps (ZZ Z₀ st σ) (ZZ Z₁ (st.set i (some (true, d'))) σ) H H' := fun b u nz e nt => by
    refine ⟨k b u (fun z => nz (z ▸ .inr oa)) e nt, fun z => ?_⟩
    rcases zz b z with z | z
    · rcases hz b z with z | ⟨z, _⟩
      · exact nz (.inl z)
      · rw [z] at e; cases e
    · exact nz (.inr z)
  refine ⟨⟨by rw [List.length_set]; exact S.len, fun j b e hj => ?_, fun j j' e e' b h1 h2 h3 h4 => ?_, fun b z q => ?_, fun b z => ?_, fun b e => S.pin b (hp ▸ e), tb⟩, ⟨fun b u e n nt => k b u (fun z => n (z ▸ oa)) e nt, fun b z => .inl ((own b).mp z), dom⟩⟩
  · by_cases hij : i = j
    · subst hij
      rw [List.getElem?_set_self hl] at hj
      cases hj
      exact ⟨_, hv, RepP.top (Keeps.sub zz) r fun _ _ _ q _ => q, fun _ => m⟩
    · rw [List.getElem?_set_ne hij] at hj
      obtain ⟨w, e1, r1, m1⟩ := S.val j b e hj
      refine ⟨w, e1, ?_, m1⟩
      cases b with
      | false => exact r1.mono kk
      | true =>
        refine RepP.top kk r1 fun c u ec q nt => ?_
        subst ec
        exact k c u (fun z => hij (S.inj i j d e a hi hj hv (z ▸ e1))) q nt
  · have un : ∀ {j e}, (st.set i (some (true, d')))[j]? = some (some (true, e)) → ∃ e, st[j]? = some (some (true, e)) := fun {j e} h1 => by
      by_cases hij : i = j
      · subst hij; exact ⟨d, hi⟩
      · rw [List.getElem?_set_ne hij] at h1; exact ⟨e, h1⟩
    obtain ⟨f, h1⟩ := un h1
    obtain ⟨f', h2⟩ := un h2
    exact S.inj j j' f f' b h1 h2 h3 h4
  · rcases hz b q with q | ⟨q, _⟩
    · exact S.apart b ((own b).mp z) q
    · exact S.own_dom ((own b).mp z) q
  · rcases hz b z with z | ⟨_, z⟩
    · exact dom b (S.dom b z)
    · exact z

theorem Sim.poke (S : Sim K mg Z₀ st σ H) (hi : st[i]? = some (some (true, d))) (hv : σ[i]? = some (some (V.ref a))) (k : ∀ b u, b ≠ a → H b = some u → H' b = some u) (ka : H' a ≠ none)
    (hz : ∀ b, Z₁.z b → Z₀.z b ∨ (H b = none ∧ H' b ≠ none)) (hp : Z₁.pin = Z₀.pin) (m : isMut d' = true) (r : RepP K mg (ZZ Z₁ st σ) H' false d' (.ref a)) :
    Sim K mg Z₁ (st.set i (some (true, d'))) σ H' ∧ Grow st σ H (st.set i (some (true, d'))) σ H' := by
  obtain ⟨v, e1, r1, m1⟩ := S.val i true d hi
  rw [hv] at e1
  cases e1
  obtain ⟨a', o, e, ha, nt⟩ := r1.mut_ref' (m1 rfl)
  cases e
  exact Sim.pokeN S hi hv (fun b u n e _ => k b u n e) (fun b n => by
    by_cases hb : b = a
    · subst hb; exact ka
    · cases q : H b with
      | none => exact absurd q n
      | some u => rw [k b u hb q]; simp) (S.tabs.poke ha nt k) hz hp m r

/-! ### a call -/
def fromF (o : FOut) (st : DSt) : Out (Bool × D) := match o with
  | .ok fr d none => .ok (fr, d) st
  | .exc c fs none => .exc c fs st
  | _ => .stuck
def mCall (m : FDen) (ms : List (M (Bool × D))) : M (Bool × D) := (runExs ms).bind fun ds => fromF (m ds)
def ownAtS (i : Nat) : M D := fun st => match st[i]? with
  | some (some (true, d)) => .ok d st
  | _ => .stuck
theorem post_own {k : D → DSt → Prop} {x : Str → List (Str × D) → DSt → Prop} : (ownAtS i st).post k x ↔ ∃ d, st[i]? = some (some (true, d)) ∧ k d st := by
  unfold ownAtS
  constructor
  · intro h
    split at h
    · rename_i d e
      exact ⟨d, e, h⟩
    · exact h.elim
  · rintro ⟨d, e, h⟩
    rw [e]
    exact h
def fromFio (i : Nat) (o : FOut) (st : DSt) : Out (Bool × D) := match o with
  | .ok fr d (some d') => .ok (fr, d) (st.set i (some (true, d')))
  | .exc c fs (some d') => .exc c fs (st.set i (some (true, d')))
  | _ => .stuck
def mCallIo (m : FDen) (i : Nat) (ms : List (M (Bool × D))) : M (Bool × D) := (ownAtS i).bind fun _ => (runExs ms).bind fun ds => (ownAtS i).bind fun d => fromFio i (m (d :: ds))

theorem call_sound {m : FDen} {ms : List (M (Bool × D))} {σ : L2.St} {H : Hp} {Q : VK} (h : tD K mg W (mCall m ms) σ H Q) :
    exT K mg W ms σ H fun vs H1 => ∃ Z ds, vs.length = ms.length ∧ CallIn K mg false Z H1 ds vs none ∧ CallOut K mg Z none H1 (m ds) Q (fun cls dx H' => W cls dx σ H') := by
  obtain ⟨Z₀, st, S, h⟩ := h
  refine exs_sound ms σ H _ ⟨Z₀, st, S, ?_⟩
  rw [mCall, post_bind] at h
  refine (exs_len h).mono (fun ds st1 ⟨hlen, h⟩ vs H1 g1 S1 rl => ?_) fun _ _ _ h => h
  refine ⟨ZZ Z₀ st1 σ, ds, rl.length.symm.trans hlen, ⟨⟨S1.tabs, S1.zdom⟩, by rw [if_neg (by simp)]; exact ⟨rfl, rl⟩⟩, ?_⟩
  cases e : m ds with
  | stuck => rw [e] at h; exact h.elim
  | exc c fs od =>
    rw [e] at h
    cases od with
    | some _ => exact h.elim
    | none =>
      intro C dx H' ch ior r mc
      have kp : Ext K H1 H' := ⟨fun b u e n => ch.1 b u (by simp) e n, ch.2, ior⟩
      exact h C dx H' (g1.trans (Grow.extN kp)) (S1.extN kp) (r.later (Keeps.sub fun b z => .inl z)) mc
  | ok fr d od =>
    rw [e] at h
    cases od with
    | some _ => exact h.elim
    | none =>
      intro v H' ch ior r hn
      have kp : Ext K H1 H' := ⟨fun b u e n => ch.1 b u (by simp) e n, ch.2, ior⟩
      refine h v H' (g1.trans (Grow.extN kp)) (Fin.back (Res.finN ?_ S1 kp) g1.dom)
      unfold Res
      cases fr with
      | true =>
        rw [if_pos rfl]
        obtain ⟨m, a, rfl, hna⟩ := hn rfl
        refine ⟨a, rfl, hna, m, RepP.top (Keeps.sub fun b z => ?_) r fun _ _ _ q _ => q⟩
        rcases z with z | z
        · exact .inl (.inl z)
        · subst z; exact .inr ⟨rfl, rfl⟩
      | false =>
        rw [if_neg (by simp)]
        exact r.mono (Keeps.sub fun b z => .inl (.inl z))
theorem callIo_sound {m : FDen} {ms : List (M (Bool × D))} {σ : L2.St} {H : Hp} {Q : VK} (h : tD K mg W (mCallIo m i ms) σ H Q) :
    tVar i σ H fun v0 H0 => exT K mg W ms σ H0 fun vs H1 => ∃ Z ds a, vs.length = ms.length ∧ CallIn K mg true Z H1 ds (v0 :: vs) (some a) ∧ CallOut K mg Z (some a) H1 (m ds) Q (fun cls dx H' => W cls dx σ H') := by
  obtain ⟨Z₀, st, S, h⟩ := h
  rw [mCallIo, post_bind, post_own] at h
  obtain ⟨d0, e0, h⟩ := h
  obtain ⟨v0, hv, r0, m0⟩ := S.val i true d0 e0
  refine ⟨v0, hv, exs_sound ms σ H _ ⟨Z₀, st, S, ?_⟩⟩
  rw [post_bind] at h
  refine (exs_len h).mono (fun ds st1 ⟨hlen, h⟩ vs H1 g1 S1 rl => ?_) fun _ _ _ h => h
  rw [post_bind, post_own] at h
  obtain ⟨d, hi, h⟩ := h
  obtain ⟨v1, hv1, r1, m1⟩ := S1.val i true d hi
  rw [hv] at hv1
  cases hv1
  obtain ⟨a, o, rfl, ha⟩ := r1.mut_ref (m1 rfl)
  have own : OwnAt st1 σ a := ⟨i, d, hi, hv⟩
  have zof : ∀ b, Zof (fun b => ZZ Z₀ st1 σ b ∧ b ≠ a) (some a) b → ZZ Z₀ st1 σ b := fun b z => by
    rcases z with z | z
    · exact z.1
    · cases z; exact .inr own
  have fo : ∀ b, ZZ Z₀ st1 σ b → Zof (fun b => ZZ Z₀ st1 σ b ∧ b ≠ a) (some a) b := fun b z => by
    by_cases hb : b = a
    · subst hb; exact .inr rfl
    · exact .inl ⟨z, hb⟩
  refine ⟨fun b => ZZ Z₀ st1 σ b ∧ b ≠ a, d :: ds, a, rl.length.symm.trans hlen, ⟨⟨S1.tabs, fun b z => S1.zdom b z.1⟩, ?_⟩, ?_⟩
  · rw [if_pos rfl]
    exact ⟨a, d, ds, vs, rfl, rfl, rfl, fun z => z.2 rfl, m1 rfl, RepP.top (Keeps.sub zof) r1 fun _ _ _ q _ => q, rl.mono (Keeps.sub zof)⟩
  cases e : m (d :: ds) with
  | stuck => rw [e] at h; exact h.elim
  | exc c fs od =>
    rw [e] at h
    cases od with
    | none => exact h.elim
    | some d' =>
      intro C dx H' ch ior r mc
      obtain ⟨tb, m2, r2⟩ := ior
      obtain ⟨S2, g2⟩ := Sim.pokeN (Z₁ := Z₀) S1 hi hv (fun b u n e nt => ch.1 b u (fun q => n (Option.some.inj q).symm) e nt) ch.2 tb (fun b z => .inl z) rfl m2 (RepP.top (Keeps.sub fo) r2 fun _ _ _ q _ => q)
      exact h C dx H' (g1.trans g2) S2 (r.later (Keeps.sub fun b z => fo b (z.imp id (own_poke hi b).mp))) mc
  | ok fr d2 od =>
    rw [e] at h
    cases od with
    | none => exact h.elim
    | some d' =>
      intro v H' ch ior r hn
      obtain ⟨tb, m2, r2⟩ := ior
      have kp : ∀ b u, b ≠ a → H1 b = some u → NT u → H' b = some u := fun b u n e nt => ch.1 b u (fun q => n (Option.some.inj q).symm) e nt
      cases fr with
      | false =>
        obtain ⟨S2, g2⟩ := Sim.pokeN (Z₁ := Z₀) S1 hi hv kp ch.2 tb (fun b z => .inl z) rfl m2 (RepP.top (Keeps.sub fun b z => .inl (fo b z)) r2 fun _ _ _ q _ => q)
        exact h v H' (g1.trans g2) (.old S2 (r.mono (Keeps.sub fun b z => .inl (fo b (z.imp id (own_poke hi b).mp)))))
      | true =>
        obtain ⟨m3, a3, rfl, hn3⟩ := hn rfl
        obtain ⟨b3, o3, e3, h3⟩ := r.mut_ref m3
        cases e3
        have sub : ∀ b, ZZ (Z₀.add a3) st1 σ b → Zof (fun b => ZZ Z₀ st1 σ b ∧ b ≠ a) (some a) b ∨ (true = true ∧ V.ref a3 = V.ref b) := fun b z => by
          rcases z with (z | z) | z
          · exact .inl (fo b (.inl z))
          · subst z; exact .inr ⟨rfl, rfl⟩
          · exact .inl (fo b (.inr z))
        obtain ⟨S2, g2⟩ := Sim.pokeN (Z₁ := Z₀.add a3) S1 hi hv kp ch.2 tb (fun b z => z.imp id fun z => by subst z; exact ⟨hn3, by rw [h3]; simp⟩) rfl m2 (RepP.top (Keeps.sub sub) r2 fun _ _ _ q _ => q)
        refine h (.ref a3) H' (g1.trans g2) ?_
        unfold Fin
        rw [if_pos rfl]
        refine ⟨a3, rfl, ?_, fun z => S1.zdom a3 (z.imp id (own_poke hi a3).mp) hn3, m3, S2, RepP.top (Keeps.sub fun b z => sub b (z.imp id (own_poke hi b).mp)) r fun _ _ _ q _ => q⟩
        cases q : H a3 with
        | none => rfl
        | some u => exact absurd hn3 (g1.dom a3 (by rw [q]; simp))
end

/-! ### the calls' rules -/
section
variable {X : Cx} {W : WX} {k : Nat} {f : Addr} {fd : FuncData} {ps : List Str} {io : Bool} {m : FDen} {x : Str} {p pos : Pos} {e : Expr} {es : List Expr}
/-- the callee runs -/
theorem run_fok {pins : List (Addr × Obj)} {σ : L2.St} {H : Hp} {s : Shared} {Q : VK} {us : List Value} {vs : List V} {Z : Zs} {ds : List D} {oa : Option Addr} (F : FOk X.prog X.w X.K X.mg X.base k f fd ps io m) (hr : Room k X.A) (hgd : X.A.guards = some [])
    (hb : Binds X.K fd ps []) (tk : Takes X W) (I : Inv X pins σ H s) (r : Vals vs us) (hl : vs.length = ps.length) (hin : CallIn X.K X.mg io Z H ds vs oa) (hout : CallOut X.K X.mg Z oa H (m ds) Q (fun cls dx H' => W cls dx σ H')) :
    wpAny (model X.prog X.w) X.A (call (.ref f) us) (EP X pins σ Q) X.xe s := by
  have b := hb s us I.kIn (by rw [List.append_nil, ← r.length]; exact hl)
  rw [List.append_nil] at b
  refine wpAny_call (codeAny_mono (F.run X.A X.stack s H ⟨us, []⟩ us vs Z ds oa Q _ hr hgd I.env0 b r hl hin hout) fun o s' hq => ?_)
  cases o with
  | error e => exact passAt tk σ pins H s e s' I hq
  | ok fl => cases fl <;> first | exact I.after hq | exact False.elim hq
theorem pe_fcall {t : TA} (F : FOk X.prog X.w X.K X.mg X.base k f fd ps io m) (hr : Room k X.A) (hgd : X.A.guards = some []) (hg : Gl X x) (hm : X.mg x = some (.ref f)) (hk : PySem.W.keepIn X.K (.ref f) = true) (hb : Binds X.K fd ps []) (tk : Takes X W)
    (ha : PA X (e :: es) t) (hdb : (x == ("__debug__" : Str)) = false) (he : starEach (e :: es) X.env = (false, eval e X.env) :: starEach es X.env) (hpl : (backTo pos (starEach es X.env)).any (·.1) = false) :
    PE X (.Call (.Name x p) (e :: es) [] pos) (fun σ H Q => t σ H fun vs H1 => ∃ Z ds oa, vs.length = ps.length ∧ CallIn X.K X.mg io Z H1 ds vs oa ∧ CallOut X.K X.mg Z oa H1 (m ds) Q (fun cls dx H' => W cls dx σ H')) := by
  refine ⟨fun pins s σ H Q I h => ?_⟩
  refine wpAny_Call_Name_kw (ld_glob I hg hm ?_ hdb)
  refine PySem.W.callWith_K (h₀ := X.base) I.ok.mod.kin hk (thn (ha.run pos pins s σ H _ I h) fun us s1 ⟨vs, H1, I1, r, Z, ds, oa, hl, hin, hout⟩ => ⟨I1.kIn, ?_⟩) he hpl
  exact run_fok F hr hgd hb tk I1 r hl hin hout
/-- an argument list's reading is monotone -/
theorem exT_mono {K : PySem.W.Frag} {mg : Str → Option Value} {W : WX} : ∀ {ms : List (M (Bool × D))} {σ : L2.St} {H : Hp} {Q Q' : List V → Hp → Prop}, exT K mg W ms σ H Q → (∀ vs H, Q vs H → Q' vs H) → exT K mg W ms σ H Q'
  | [], _, _, _, _, h, k => k _ _ h
  | m :: r, σ, H, Q, Q', ⟨Z₀, st, S, h⟩, k => ⟨Z₀, st, S, h.mono (fun p st1 h v H1 g1 r1 => exT_mono (h v H1 g1 r1) fun vs H2 q => k _ _ q) fun _ _ _ h => h⟩
theorem Pe.call {ms : List (M (Bool × D))} (F : FOk X.prog X.w X.K X.mg X.base k f fd ps false m) (hr : Room k X.A) (hgd : X.A.guards = some []) (hg : Gl X x) (hm : X.mg x = some (.ref f)) (hk : PySem.W.keepIn X.K (.ref f) = true) (hb : Binds X.K fd ps []) (tk : Takes X W)
    (ha : PA X (e :: es) (exT X.K X.mg W ms)) (hn : ms.length = ps.length) (hdb : (x == ("__debug__" : Str)) = false) (he : starEach (e :: es) X.env = (false, eval e X.env) :: starEach es X.env) (hpl : (backTo pos (starEach es X.env)).any (·.1) = false) :
    Pe X W (.Call (.Name x p) (e :: es) [] pos) (mCall m ms) :=
  pe_imp (pe_fcall F hr hgd hg hm hk hb tk ha hdb he hpl) fun σ H Q h => exT_mono (call_sound h) fun vs H1 ⟨Z, ds, hl, hin, hout⟩ => ⟨Z, ds, none, hl.trans hn, hin, hout⟩
theorem Pe.callIo {i : Nat} {y : Str} {q : Pos} {ms : List (M (Bool × D))} (F : FOk X.prog X.w X.K X.mg X.base k f fd ps true m) (hr : Room k X.A) (hgd : X.A.guards = some []) (hg : Gl X x) (hm : X.mg x = some (.ref f)) (hk : PySem.W.keepIn X.K (.ref f) = true) (hb : Binds X.K fd ps []) (tk : Takes X W)
    (h0 : PE X (.Name y q) (tVar i)) (ha : PA X es (exT X.K X.mg W ms)) (hn : ms.length + 1 = ps.length) (hdb : (x == ("__debug__" : Str)) = false)
    (hpl : (backTo pos (starEach es X.env)).any (·.1) = false) :
    Pe X W (.Call (.Name x p) (.Name y q :: es) [] pos) (mCallIo m i ms) :=
  pe_imp (pe_fcall F hr hgd hg hm hk hb tk (pa_cons h0 ha rfl) hdb rfl hpl) fun σ H Q h => by
    obtain ⟨v0, hv, h⟩ := callIo_sound h
    exact ⟨v0, hv, exT_mono h fun vs H1 ⟨Z, ds, a, hl, hin, hout⟩ => ⟨Z, ds, some a, by show vs.length + 1 = _; rw [hl, hn], hin, hout⟩⟩
end
end PL
set_option Elab.async false
set_option linter.all false
set_option maxRecDepth 100000
set_option maxHeartbeats 4000000
set_option autoImplicit false
/-! PE0: enumerate over a tuple. -/
namespace PL
open PySem PySem.Spec PyProof.Rows L2
open Sem (wp)
open AutoSeq1 (wpAny_loadPart')

section
variable {prog : Program} {w : World} {A : Around} {E : Value → Shared → Prop} {s : Shared}
end

theorem walk_zipT {K : PySem.W.Frag} {a b : Addr} {xs ys : List V} {n : Nat} (hn : n = min xs.length ys.length) : Walk (RZ.ItzT K a b) n (fun H => SqT K H a xs ∧ SqT K H b ys) (YPair (fun i => xs[i]?) (fun i => ys[i]?)) := by
  subst hn
  refine ⟨fun i _ hi q => ?_, fun _ q => ⟨xs, ys, q.1, q.2, by omega⟩, fun i H v H' _ q y => ?_⟩
  · have l1 : i < xs.length := by omega
    have l2 : i < ys.length := by omega
    exact ⟨xs, ys, xs[i], ys[i], q.1, q.2, by simp [l1], by simp [l2]⟩
  · obtain ⟨T, x, z, e1, e2, e3, e4, e5⟩ := y
    exact ⟨T, x, z, e1, e2, e3, e4 xs q.1, e5 ys q.2⟩
end PL
set_option Elab.async false
set_option linter.all false
set_option maxRecDepth 100000
set_option maxHeartbeats 4000000
set_option autoImplicit false
/-! PL6: what is walked, for. -/
namespace PL
open PySem PySem.Spec PyProof.Rows L2

/-- the items ds are walked by J: what it leans on stands as long as it is outside of what is changed -/
def WOk (K : PySem.W.Frag) (mg : Str → Option Value) (J : It) (ds : List D) (Z : Zs) (H : Hp) : Prop :=
  ∃ Src : Zs → Hp → Prop, Src Z H ∧ (∀ Z Z' H H', Keeps Z Z' H H' → Src Z H → Src Z' H') ∧
    ∀ Z H i, (∀ a, Z a → H a ≠ none) → Src Z H → (i < ds.length → J.go i H) ∧ (i = ds.length → J.stop i H) ∧
      ∀ d x H', ds[i]? = some d → J.yld i H x H' → (∀ b o, H b = some o → H' b = some o) ∧ Rep K mg Z H' d x
section
variable {K : PySem.W.Frag} {mg : Str → Option Value} {W : WX} {Z Z' : Zs} {Z₀ Z₁ : Zp} {H H' H0 : Hp} {st st' st0 : DSt} {σ σ' σ0 : L2.St} {d d' : D} {v : V} {fr : Bool} {i : Nat} {a : Addr} {ds : List D} {vs : List V} {J : It}
theorem WOk.mono (h : WOk K mg J ds Z H) (k : Keeps Z Z' H H') : WOk K mg J ds Z' H' := by
  obtain ⟨S, h1, h2, h3⟩ := h
  exact ⟨S, h2 _ _ _ _ k h1, h2, h3⟩
theorem WOk.go (h : WOk K mg J ds Z H) (dom : ∀ a, Z a → H a ≠ none) (hi : i < ds.length) : J.go i H := by
  obtain ⟨S, h1, h2, h3⟩ := h
  exact (h3 Z H i dom h1).1 hi
theorem WOk.stop (h : WOk K mg J ds Z H) (dom : ∀ a, Z a → H a ≠ none) (hi : i = ds.length) : J.stop i H := by
  obtain ⟨S, h1, h2, h3⟩ := h
  exact (h3 Z H i dom h1).2.1 hi
theorem WOk.yld (h : WOk K mg J ds Z H) (dom : ∀ a, Z a → H a ≠ none) {x : V} (hd : ds[i]? = some d) (hy : J.yld i H x H') : (∀ b o, H b = some o → H' b = some o) ∧ Rep K mg Z H' d x := by
  obtain ⟨S, h1, h2, h3⟩ := h
  exact (h3 Z H i dom h1).2.2 d x H' hd hy
/-- from the library's walks -/
theorem WOk.of {n : Nat} {G : Hp → Prop} {Y : Nat → Hp → V → Hp → Prop} (w : Walk J n G Y) (hn : n = ds.length) (Src : Zs → Hp → Prop) (h1 : Src Z H) (h2 : ∀ Z Z' H H', Keeps Z Z' H H' → Src Z H → Src Z' H') (hg : ∀ Z H, Src Z H → G H)
    (hy : ∀ Z H i d x H', (∀ a, Z a → H a ≠ none) → Src Z H → ds[i]? = some d → Y i H x H' → (∀ b o, H b = some o → H' b = some o) ∧ Rep K mg Z H' d x) : WOk K mg J ds Z H :=
  ⟨Src, h1, h2, fun Z H i dom s => ⟨fun hi => w.goes i H (hn ▸ hi) (hg Z H s), fun hi => by rw [hi, ← hn]; exact w.stops H (hg Z H s), fun d x H' hd y =>
    hy Z H i d x H' dom s hd (w.yields i H x H' (by rw [hn]; exact (List.getElem?_eq_some_iff.mp hd).1) (hg Z H s) y)⟩⟩
/-- a new pair -/
theorem pair_new {T : Addr} {x y : V} {a b : D} (dom : ∀ a, Z a → H a ≠ none) (hT : H T = none) (ra : Rep K mg Z H a x) (rb : Rep K mg Z H b y) :
    (∀ b o, H b = some o → upd H T (.tup [x, y]) b = some o) ∧ Rep K mg Z (upd H T (.tup [x, y])) (.tup false [a, b]) (.ref T) :=
  ⟨ext_new hT, .tup (TupH.of upd_same) (nz_new dom hT) (.cons (ra.mono (keeps_new hT)) (.cons (rb.mono (keeps_new hT)) .nil))⟩
/-- the items of a thing -/
def itemsOf : D → Option (List D)
  | .lst ds => some ds
  | .tup _ ds => some ds
  | .rol ds => some ds
  | .str z => some (z.cps.toList.map fun c => .str ⟨#[c]⟩)
  | _ => none
theorem wok_lst {xs : List V} (h : H a = some (.lst xs)) (nz : ¬ Z a) (r : RepL K mg Z H ds xs) : WOk K mg (Itl K a) ds Z H :=
  .of walk_list r.length.symm (fun Z H => H a = some (.lst xs) ∧ ¬ Z a ∧ RepL K mg Z H ds xs) ⟨h, nz, r⟩ (fun Z Z' H H' k ⟨q1, q2, q3⟩ => ⟨(k _ _ q2 q1 trivial).1, (k _ _ q2 q1 trivial).2, q3.mono k⟩) (fun Z H q => SqL.of q.1)
    fun Z H i d x H' dom ⟨q1, q2, q3⟩ hd ⟨e, hx⟩ => by
      subst e
      obtain ⟨y, e1, r⟩ := q3.get hd
      rw [hx] at e1
      cases e1
      exact ⟨fun _ _ h => h, r⟩
theorem wok_rol {xs : List V} (h : (Rd H a (.lst xs) ∧ ¬ Z a) ∨ KL K a xs) (r : RepL K mg Z H ds xs) : WOk K mg (Itl K a) ds Z H :=
  .of walk_list r.length.symm (fun Z H => ((Rd H a (.lst xs) ∧ ¬ Z a) ∨ KL K a xs) ∧ RepL K mg Z H ds xs) ⟨h, r⟩ (fun Z Z' H H' k ⟨q1, q3⟩ => ⟨q1.imp (fun q => k.rd q.2 q.1) id, q3.mono k⟩) (fun Z H q => q.1.elim (fun q => .inl q.1) .inr)
    fun Z H i d x H' dom ⟨q1, q3⟩ hd ⟨e, hx⟩ => by
      subst e
      obtain ⟨y, e1, r⟩ := q3.get hd
      rw [hx] at e1
      cases e1
      exact ⟨fun _ _ h => h, r⟩
/-- what a tuple leans on -/
def TupS (K : PySem.W.Frag) (mg : Str → Option Value) (a : Addr) (xs : List V) (ds : List D) (Z : Zs) (H : Hp) : Prop := (Rd H a (.tup xs) ∧ ¬ Z a) ∧ RepL K mg Z H ds xs
theorem TupS.mono {xs : List V} (h : TupS K mg a xs ds Z H) (k : Keeps Z Z' H H') : TupS K mg a xs ds Z' H' := ⟨k.rd h.1.2 h.1.1, h.2.mono k⟩
theorem TupS.sq {xs : List V} (h : TupS K mg a xs ds Z H) : SqT K H a xs := Or.inl h.1.1
theorem wok_tup {xs : List V} (h : TupS K mg a xs ds Z H) : WOk K mg (Itt K a) ds Z H :=
  .of walk_tup h.2.length.symm (TupS K mg a xs ds) h (fun Z Z' H H' k q => q.mono k) (fun Z H q => q.sq)
    fun Z H i d x H' dom q hd ⟨e, hx⟩ => by
      subst e
      obtain ⟨y, e1, r⟩ := q.2.get hd
      rw [hx] at e1
      cases e1
      exact ⟨fun _ _ h => h, r⟩
def rangeD (lo c : Int) (n : Nat) : List D := (List.range n).map fun i => .int (lo + (i : Nat) * c)
theorem rangeD_len {lo c : Int} {n : Nat} : (rangeD lo c n).length = n := by simp [rangeD]
theorem rangeD_get {lo c : Int} {n i : Nat} (h : (rangeD lo c n)[i]? = some d) : d = .int (lo + (i : Nat) * c) := by
  unfold rangeD at h
  rw [List.getElem?_map] at h
  cases e : (List.range n)[i]? with
  | none => rw [e] at h; cases h
  | some j =>
    rw [e] at h
    obtain ⟨h1, h2⟩ := List.getElem?_eq_some_iff.mp e
    simp at h2
    subst h2
    exact (Option.some.inj h).symm
theorem wok_range {lo : Int} {n : Nat} : WOk K mg (Itr lo n) (rangeD lo 1 n) Z H :=
  .of walk_range rangeD_len.symm (fun _ _ => True) trivial (fun _ _ _ _ _ q => q) (fun _ _ _ => trivial) fun Z H i d x H' dom _ hd ⟨e, hx⟩ => by
    subst e hx
    rw [rangeD_get hd, Int.mul_one]
    exact ⟨fun _ _ h => h, .int _⟩
theorem wok_str {z : Str} : WOk K mg (Its z) (z.cps.toList.map fun c => .str ⟨#[c]⟩) Z H :=
  .of walk_str (by simp) (fun _ _ => True) trivial (fun _ _ _ _ _ q => q) (fun _ _ _ => trivial) fun Z H i d x H' dom _ hd ⟨e, c, hc, hx⟩ => by
    subst e hx
    rw [List.getElem?_map] at hd
    have : z.cps.toList[i]? = some c := by simpa using hc
    rw [this] at hd
    cases hd
    exact ⟨fun _ _ h => h, .str _⟩
def enumD : Nat → List D → List D
  | _, [] => []
  | i, d :: r => .tup false [.int (i : Nat), d] :: enumD (i + 1) r
def zipD : List D → List D → List D
  | a :: r, b :: s => .tup false [a, b] :: zipD r s
  | _, _ => []
theorem zipD_len : ∀ {as bs : List D}, (zipD as bs).length = min as.length bs.length
  | [], bs => by simp [zipD]
  | a :: r, [] => by simp [zipD]
  | a :: r, b :: s => by simp [zipD, zipD_len (as := r) (bs := s)]
theorem zipD_get : ∀ {as bs : List D} {i : Nat} {d : D}, (zipD as bs)[i]? = some d → ∃ a b, as[i]? = some a ∧ bs[i]? = some b ∧ d = .tup false [a, b]
  | [], _, _, _, h => by simp [zipD] at h
  | a :: r, [], _, _, h => by simp [zipD] at h
  | a :: r, b :: s, 0, d, h => by simp [zipD] at h; exact ⟨a, b, rfl, rfl, h.symm⟩
  | a :: r, b :: s, i + 1, d, h => by
    rw [zipD, List.getElem?_cons_succ] at h
    obtain ⟨x, y, h1, h2, h3⟩ := zipD_get h
    exact ⟨x, y, by simpa using h1, by simpa using h2, h3⟩
theorem wok_zipT {b : Addr} {es : List D} {xs ys : List V} (h : TupS K mg a xs ds Z H) (h' : TupS K mg b ys es Z H) : WOk K mg (RZ.ItzT K a b) (zipD ds es) Z H :=
  .of (walk_zipT rfl) (by rw [zipD_len, h.2.length, h'.2.length]) (fun Z H => TupS K mg a xs ds Z H ∧ TupS K mg b ys es Z H) ⟨h, h'⟩ (fun Z Z' H H' k q => ⟨q.1.mono k, q.2.mono k⟩) (fun Z H q => ⟨q.1.sq, q.2.sq⟩)
    fun Z H i d x H' dom q hd ⟨T, y, z, e1, e2, e3, e4, e5⟩ => by
      obtain ⟨a', b', h1, h2, rfl⟩ := zipD_get hd
      obtain ⟨y', g1, ry⟩ := q.1.2.get h1
      obtain ⟨z', g2, rz⟩ := q.2.2.get h2
      have e4 : xs[i]? = some y := e4
      have e5 : ys[i]? = some z := e5
      rw [e4] at g1
      rw [e5] at g2
      cases g1; cases g2; subst e1 e3
      exact pair_new dom e2 ry rz
theorem wok_zip {b : Addr} {es : List D} {xs ys : List V} (h : H a = some (.lst xs)) (nz : ¬ Z a) (r : RepL K mg Z H ds xs) (h' : H b = some (.lst ys)) (nz' : ¬ Z b) (r' : RepL K mg Z H es ys) : WOk K mg (Itz K a b) (zipD ds es) Z H :=
  .of (walk_zip rfl) (by rw [zipD_len, r.length, r'.length]) (fun Z H => (H a = some (.lst xs) ∧ ¬ Z a ∧ RepL K mg Z H ds xs) ∧ H b = some (.lst ys) ∧ ¬ Z b ∧ RepL K mg Z H es ys) ⟨⟨h, nz, r⟩, h', nz', r'⟩
    (fun Z Z' H H' k ⟨⟨q1, q2, q3⟩, p1, p2, p3⟩ => ⟨⟨(k _ _ q2 q1 trivial).1, (k _ _ q2 q1 trivial).2, q3.mono k⟩, (k _ _ p2 p1 trivial).1, (k _ _ p2 p1 trivial).2, p3.mono k⟩) (fun Z H q => ⟨SqL.of q.1.1, SqL.of q.2.1⟩)
    fun Z H i d x H' dom q hd ⟨T, y, z, e1, e2, e3, e4, e5⟩ => by
      obtain ⟨a', b', h1, h2, rfl⟩ := zipD_get hd
      obtain ⟨y', g1, ry⟩ := q.1.2.2.get h1
      obtain ⟨z', g2, rz⟩ := q.2.2.2.get h2
      have e4 : xs[i]? = some y := e4
      have e5 : ys[i]? = some z := e5
      rw [e4] at g1
      rw [e5] at g2
      cases g1; cases g2; subst e1 e3
      exact pair_new dom e2 ry rz

/-! ### what a for or a comprehension walks -/
def tIt (K : PySem.W.Frag) (mg : Str → Option Value) (W : WX) (m : M (List D)) : TI := fun σ H R => ∃ Z₀ st, Sim K mg Z₀ st σ H ∧
  (m st).post (fun ds st' => ∀ J H', Grow st σ H st' σ H' → Sim K mg Z₀ st' σ H' → WOk K mg J ds (ZZ Z₀ st' σ) H' → R J H') (XEnd K mg W Z₀ st σ H)
def mItems (m : M (Bool × D)) : M (List D) := m.bind fun p => M.lift (itemsOf p.2)
end
def Pi (X : Cx) (W : WX) (tg e : Expr) (m : M (List D)) : Prop := PI X tg e (tIt X.K X.mg W m)
theorem pi_imp {X : Cx} {tg e : Expr} {w w' : TI} (h : PI X tg e w) (k : ∀ σ H R, w' σ H R → w σ H R) : PI X tg e w' := ⟨fun pins s σ H R I q => h.run pins s σ H R I (k σ H R q)⟩
theorem pi_or {X : Cx} {tg e : Expr} {w w' : TI} (h : PI X tg e w) (h' : PI X tg e w') : PI X tg e (fun σ H R => w σ H R ∨ w' σ H R) := ⟨fun pins s σ H R I q => q.elim (h.run pins s σ H R I) (h'.run pins s σ H R I)⟩
section
variable {X : Cx} {W : WX} {tg e : Expr} {m : M (Bool × D)}
/-- a list, a tuple, a text -/
theorem Pi.items (he : Pe X W e m) : Pi X W tg e (mItems m) :=
  pi_imp (pi_or (pi_or (pi_list he) (pi_tup he)) (pi_str he)) fun σ H R ⟨Z₀, st, S, h⟩ => by
    rw [mItems, post_bind] at h
    cases em : m st with
    | stuck => rw [em] at h; exact h.elim
    | exc c fs st' =>
      rw [em] at h
      exact .inl (.inl ⟨Z₀, st, S, by rw [em]; exact h⟩)
    | ok p st1 =>
      obtain ⟨fr, d⟩ := p
      rw [em] at h
      have h : (M.lift (itemsOf d) st1).post _ _ := h
      rw [post_lift] at h
      obtain ⟨ds, e1, h⟩ := h
      unfold itemsOf at e1
      split at e1
      · cases e1
        refine .inl (.inl ⟨Z₀, st, S, ?_⟩)
        rw [em]
        intro v H1 g r
        have r1 := r.rep
        cases r1 with
        | lst ha nz rl => exact ⟨_, rfl, ⟨_, SqL.of ha⟩, h _ H1 g r.sim (wok_lst ha (nz rfl) rl)⟩
      · cases e1
        refine .inl (.inr ⟨Z₀, st, S, ?_⟩)
        rw [em]
        intro v H1 g r
        have r1 := r.rep
        cases r1 with
        | tup ha n1 rl => exact ⟨_, rfl, ⟨_, TupS.sq ⟨⟨ha.rd, n1⟩, rl⟩⟩, h _ H1 g r.sim (wok_tup ⟨⟨ha.rd, n1⟩, rl⟩)⟩
      · cases e1
        refine .inl (.inl ⟨Z₀, st, S, ?_⟩)
        rw [em]
        intro v H1 g r
        have r1 := r.rep
        cases r1 with
        | rol ha rl => exact ⟨_, rfl, ⟨_, ha.elim (fun q => .inl q.1) .inr⟩, h _ H1 g r.sim (wok_rol ha rl)⟩
      · cases e1
        refine .inr ⟨Z₀, st, S, ?_⟩
        rw [em]
        intro v H1 g r
        have r1 := r.rep
        cases r1 with
        | str => exact ⟨_, rfl, h _ H1 g r.sim wok_str⟩
      · cases e1
end
end PL
set_option Elab.async false
set_option linter.all false
set_option maxRecDepth 100000
set_option maxHeartbeats 4000000
set_option autoImplicit false
/-! PL7: targets, for, comprehensions. -/
namespace PL
open PySem PySem.Spec PyProof.Rows L2

/-- a target: a slot, or several in a tuple -/
inductive Tg where
  | nm (i : Nat)
  | tup (ts : List Tg)
mutual
def bindT : Tg → D → DSt → Option DSt
  | .nm i, d, st => if i < st.length then some (st.set i (some (false, d))) else none
  | .tup ts, .tup _ ds, st => bindTs ts ds st
  | .tup _, _, _ => none
def bindTs : List Tg → List D → DSt → Option DSt
  | [], [], st => some st
  | t :: ts, d :: ds, st => (bindT t d st).bind (bindTs ts ds)
  | _, _, _ => none
end
mutual
/-- the slots of a target -/
def Tg.slots : Tg → List Nat
  | .nm i => [i]
  | .tup ts => Tg.slotsL ts
def Tg.slotsL : List Tg → List Nat
  | [] => []
  | t :: ts => t.slots ++ Tg.slotsL ts
end
section
variable (K : PySem.W.Frag) (mg : Str → Option Value)
/-- ok: the slots that may be set where a first parameter is to stay -/
def gD (t : Tg) : TG := fun v σ H Q => ∃ Z₀ st d, (Z₀.pin = none ∨ ∀ i ∈ t.slots, i ≠ 0) ∧ Sim K mg Z₀ st σ H ∧ Rep K mg (ZZ Z₀ st σ) H d v ∧
  ∃ st', bindT t d st = some st' ∧ ∀ σ', Grow st σ H st' σ' H → Sim K mg Z₀ st' σ' H → (∀ i, i ∉ t.slots → σ'[i]? = σ[i]? ∧ st'[i]? = st[i]?) → σ'.length = σ.length → Q σ' H
def gDs (ts : List Tg) : TGs := fun vs σ H Q => ∃ Z₀ st ds, (Z₀.pin = none ∨ ∀ i ∈ Tg.slotsL ts, i ≠ 0) ∧ Sim K mg Z₀ st σ H ∧ RepL K mg (ZZ Z₀ st σ) H ds vs ∧
  ∃ st', bindTs ts ds st = some st' ∧ ∀ σ', Grow st σ H st' σ' H → Sim K mg Z₀ st' σ' H → (∀ i, i ∉ Tg.slotsL ts → σ'[i]? = σ[i]? ∧ st'[i]? = st[i]?) → σ'.length = σ.length → Q σ' H
end
def Pg (X : Cx) (e : Expr) (t : Tg) : Prop := PG X e (gD X.K X.mg t)
def Pgs (X : Cx) (es : List Expr) (ts : List Tg) : Prop := PGs X es (gDs X.K X.mg ts)
theorem pg_imp {X : Cx} {e : Expr} {g g' : TG} (h : PG X e g) (k : ∀ v σ H Q, g' v σ H Q → g v σ H Q) : PG X e g' := ⟨fun pins s σ H v u Q I r q => h.run pins s σ H v u Q I r (k v σ H Q q)⟩
theorem pgs_imp {X : Cx} {e : List Expr} {g g' : TGs} (h : PGs X e g) (k : ∀ v σ H Q, g' v σ H Q → g v σ H Q) : PGs X e g' := ⟨fun pins s σ H v u Q I r q => h.run pins s σ H v u Q I r (k v σ H Q q)⟩
section
variable {X : Cx} {pos : Pos}
theorem Pg.name {i : Nat} {x : Str} (hN : X.N.Nodup) (hi : X.N[i]? = some x) (hx : Loc X.env.scope x) (hf : X.fn x = true ∨ X.env.scope.names.lookup x = some .local) : Pg X (.Name x pos) (.nm i) :=
  pg_imp (pg_name hN hi hx hf) fun v σ H Q ⟨Z₀, st, d, hp, S, r, st', e, h⟩ => by
    rw [bindT] at e
    split at e
    · rename_i hl
      cases e
      obtain ⟨g, S'⟩ := set_step (i := i) Grow.refl (Fin.old S r) hl (hp.imp id fun q => q i (by simp [Tg.slots]))
      exact h _ g S' (fun j hj => by
        have hj : i ≠ j := fun z => hj (by simp [Tg.slots, z])
        rw [List.getElem?_set_ne hj, List.getElem?_set_ne hj]
        exact ⟨rfl, rfl⟩) (by rw [List.length_set])
    · cases e
theorem Pgs.nil : Pgs X [] [] :=
  pgs_imp pgs_nil fun vs σ H Q ⟨Z₀, st, ds, hp, S, r, st', e, h⟩ => by
    cases ds with
    | cons d ds => cases e
    | nil =>
      cases r
      cases e
      exact ⟨rfl, h σ Grow.refl S (fun _ _ => ⟨rfl, rfl⟩) rfl⟩
theorem Pgs.cons {e : Expr} {es : List Expr} {t : Tg} {ts : List Tg} (h1 : Pg X e t) (h2 : Pgs X es ts) (hs : (assignEach (e :: es) X.env).map (·.2) = assign e X.env :: (assignEach es X.env).map (·.2)) : Pgs X (e :: es) (t :: ts) :=
  pgs_imp (pgs_cons h1 h2 hs) fun vs σ H Q ⟨Z₀, st, ds, hp, S, r, st', e, h⟩ => by
    cases ds with
    | nil => cases e
    | cons d ds =>
      cases r with
      | cons r1 r2 =>
        rw [bindTs] at e
        obtain ⟨st1, e1, e2⟩ := Option.bind_eq_some_iff.mp e
        refine ⟨_, _, rfl, Z₀, st, d, hp.imp id fun q i hi => q i (by simp [Tg.slotsL, hi]), S, r1, st1, e1, fun σ1 g1 S1 k1 l1 => ?_⟩
        refine ⟨Z₀, st1, ds, hp.imp id fun q i hi => q i (by simp [Tg.slotsL, hi]), S1, r2.mono g1.keeps, st', e2, fun σ2 g2 S2 k2 l2 => ?_⟩
        refine h σ2 (g1.trans g2) S2 (fun i hi => ?_) (l2.trans l1)
        have hi : i ∉ t.slots ∧ i ∉ Tg.slotsL ts := by simpa [Tg.slotsL] using hi
        exact ⟨(k2 i hi.2).1.trans (k1 i hi.1).1, (k2 i hi.2).2.trans (k1 i hi.1).2⟩
theorem Pg.tup {es : List Expr} {k : Nat} {ts : List Tg} (hc : X.calm = true) (h : Pgs X es ts) (hn : (assignEach es X.env).length = ts.length) (hst : (assignEach es X.env).findIdx? (·.1) = none) : Pg X (.Tuple es k pos) (.tup ts) :=
  pg_imp (pg_tup hc h hn hst) fun v σ H Q ⟨Z₀, st, d, hp, S, r, st', e, h⟩ => by
    cases d <;> first | (cases e; done) | skip
    rename_i ds
    rw [bindT] at e
    obtain ⟨a, xs, rfl, hs, rl⟩ := pk_tup r
    refine ⟨a, xs, rfl, hs, ?_, Z₀, st, ds, hp, S, rl, st', e, fun σ' g S' k l => h σ' g S' k l⟩
    have len : ∀ {ts : List Tg} {ds : List D} {st st' : DSt}, bindTs ts ds st = some st' → ds.length = ts.length := fun {ts} => by
      induction ts with
      | nil => intro ds st st' e; cases ds <;> first | rfl | cases e
      | cons t ts ih =>
        intro ds st st' e
        cases ds with
        | nil => cases e
        | cons d ds =>
          rw [bindTs] at e
          obtain ⟨st1, e1, e2⟩ := Option.bind_eq_some_iff.mp e
          simp [ih e2]
    rw [← rl.length, len e]
/-- x = e with any target -/
def bindS (t : Tg) (d : D) (k : MS) : MS := fun st => match bindT t d st with
  | some st' => k st'
  | none => .stuck
theorem post_bindS {t : Tg} {d : D} {k : MS} {st : DSt} {P : PEnds} : (bindS t d k st).post P ↔ ∃ st', bindT t d st = some st' ∧ (k st').post P := by
  unfold bindS
  cases bindT t d st with
  | none => exact ⟨fun h => h.elim, fun ⟨_, e, _⟩ => by cases e⟩
  | some st' => exact ⟨fun h => ⟨st', rfl, h⟩, fun ⟨_, e, h⟩ => by cases e; exact h⟩
def asgS (t : Tg) (m : M (Bool × D)) : MS := withS m fun _ d => bindS t d nextS
variable {W : WX} {io : Bool}
theorem pins_of {Z₀ : Zp} {io : Bool} {l : List Nat} (hp : Z₀.pin.isSome = io) (h : io = false ∨ 0 ∉ l) : Z₀.pin = none ∨ ∀ i ∈ l, i ≠ 0 := by
  rcases h with h | h
  · exact (pin_of (i := 0) hp (.inl h)).imp id fun h => absurd rfl h
  · exact .inr fun i hi z => h (z ▸ hi)
theorem Ps.asg {tg e : Expr} {m : M (Bool × D)} {t : Tg} (he : Pe X W e m) (hg : Pg X tg t) (hs : swapsWithSole [tg] e pos.line X.env = pure false) (hw : swappedStores [tg] e X.env = pure none)
    (h1 : (assignEach [tg] X.env).map (·.2) = [assign tg X.env]) (hio : io = false ∨ 0 ∉ t.slots) : Ps X W io (.Assign [tg] e pos) (asgS t m) :=
  ps_imp (ps_asg he hg hs hw h1) fun D σ H h => by
    obtain ⟨Z₀, st, S, h⟩ := with_sound h
    refine ⟨Z₀, st, S, h.mono (fun p st1 h v H1 g r => ?_) fun _ _ _ h => h⟩
    obtain ⟨Z₁, st0, st2, fr, d, hp, g2, r2, h2⟩ := h v H1 g r
    obtain ⟨st3, eb, h2⟩ := post_bindS.mp h2
    exact ⟨Z₁, st2, d, pins_of hp hio, r2.sim, r2.rep, st3, eb, fun σ' g' S' _ _ => h2 σ' H1 (g2.trans g') S'⟩

/-! ### for -/
def forL (t : Tg) (b : MS) : List D → MS
  | [] => nextS
  | d :: r => bindS t d fun st => turnS (forL t b r) (b st)
def forS (m : M (List D)) (t : Tg) (b : MS) : MS := fun st => match m st with
  | .ok ds st' => forL t b ds st'
  | .exc c fs st' => .exc c fs st'
  | .stuck => .stuck
theorem post_for {m : M (List D)} {t : Tg} {b : MS} {st : DSt} {P : PEnds} : (forS m t b st).post P ↔ (m st).post (fun ds st' => (forL t b ds st').post P) P.ex := by
  unfold forS
  cases m st <;> exact Iff.rfl
theorem Ps.fors {tg it : Expr} {body : List Stmt} {m : M (List D)} {t : Tg} {b : MS} (hp : PassesOwn (model X.prog X.w) X.A X.env X.xe) (hc : X.calm = true) (hi : Pi X W tg it m) (hg : Pg X tg t) (hb : Pss X W io body b)
    (hs : ∀ x, foldedSetIterable it X.env x = pure x) (hio : io = false ∨ 0 ∉ t.slots) : Ps X W io (.For tg it body [] pos) (forS m t b) :=
  ps_imp (ps_for hp hc hi hg hb hs) fun D σ H ⟨Z₀, st, hp, S, h⟩ => by
    rw [post_for] at h
    refine ⟨Z₀, st, S, h.mono (fun ds st1 h J H1 g1 S1 w1 => ?_) fun c fs st' h C dx H' g S' r m => h C dx σ H' g S' r m⟩
    refine ⟨fun i m σ' H' => m = ds.length - i ∧ i ≤ ds.length ∧ ∃ st', Grow st σ H st' σ' H' ∧ Sim X.K X.mg Z₀ st' σ' H' ∧ WOk X.K X.mg J ds (ZZ Z₀ st' σ') H' ∧ (forL t b (ds.drop i) st').post (pends X.K X.mg W Z₀ st σ H D),
      ⟨ds.length, by simp, Nat.zero_le _, st1, g1, S1, w1, by simpa using h⟩, ?_⟩
    rintro i m σ2 H2 ⟨rfl, hi, st2, g2, S2, w2, h2⟩
    by_cases hl : i < ds.length
    · obtain ⟨d, hd⟩ : ∃ d, ds[i]? = some d := ⟨ds[i], by simp [hl]⟩
      have ed : ds.drop i = d :: ds.drop (i + 1) := by
        rw [List.drop_eq_getElem_cons hl]
        simp [hl] at hd
        rw [hd]
      rw [ed] at h2
      refine .inr ⟨w2.go S2.zdom hl, fun σ' H' => ∃ st', Grow st σ H st' σ' H' ∧ Sim X.K X.mg Z₀ st' σ' H' ∧ WOk X.K X.mg J ds (ZZ Z₀ st' σ') H' ∧ (forL t b (ds.drop (i + 1)) st').post (pends X.K X.mg W Z₀ st σ H D),
        fun σ' H' ⟨st', q⟩ => ⟨ds.length - (i + 1), by omega, rfl, hl, st', q⟩, fun x H3 y => ?_⟩
      obtain ⟨kp, rx⟩ := w2.yld S2.zdom hd y
      have S3 := S2.ext kp
      have g3 : Grow st2 σ2 H2 st2 σ2 H3 := Grow.ext kp
      have w3 := w2.mono (g3.keeps (Z₀ := Z₀))
      rw [forL, post_bindS] at h2
      obtain ⟨st4, eb, h2⟩ := h2
      rw [post_turn] at h2
      refine ⟨Z₀, st2, d, pins_of hp hio, S3, rx, st4, eb, fun σ4 g4 S4 _ _ => ?_⟩
      have gg := ((g2.trans g3).trans g4)
      have w4 := w3.mono (g4.keeps (Z₀ := Z₀))
      refine ⟨Z₀, st4, hp, S4, ?_⟩
      -- the walked thing stands through the body
      refine h2.mono (fun st' h σ' H' g' S' => ⟨st', gg.trans g', S', w4.mono g'.keeps, h⟩) (fun st' h σ' H' g' S' => h σ' H' (gg.trans g') S') (fun st' h σ' H' g' S' => ⟨st', gg.trans g', S', w4.mono g'.keeps, h⟩)
          (fun fr d st' h v σ' H' g' r => h v σ' H' (gg.trans g') (r.from gg)) fun c fs st' h C dx σ' H' g' => h C dx σ' H' (gg.trans g')
    · have e : i = ds.length := by omega
      subst e
      rw [List.drop_length] at h2
      exact .inl ⟨w2.stop S2.zdom rfl, h2 σ2 H2 g2 S2⟩
end
end PL
set_option Elab.async false
set_option linter.all false
set_option maxRecDepth 100000
set_option maxHeartbeats 4000000
set_option autoImplicit false
/-! PL8: comprehensions. -/
namespace PL
open PySem PySem.Spec PyProof.Rows L2

def wipeD (st : DSt) : List Nat → DSt
  | [] => st
  | v :: vs => (wipeD st vs).set v none
/-- the slots vs as in old -/
def putBack (old st : DSt) : List Nat → DSt
  | [] => st
  | v :: vs => (putBack old st vs).set v (match old[v]? with | some x => x | none => none)
/-- nobody alone holds what stands in these slots -/
def hid (vs : List Nat) (st : DSt) : Bool := vs.all fun i => match st[i]? with
  | some (some (true, _)) => false
  | _ => true
def noX {α : Type} (m : M α) : M α := fun st => match m st with
  | .exc _ _ _ => .stuck
  | o => o
def bindM (t : Tg) (d : D) : M Unit := fun st => match bindT t d st with
  | some st' => .ok () st'
  | none => .stuck
def wipeM (vs : List Nat) : M Unit := fun st => if hid vs st = true then .ok () (wipeD st vs) else .stuck
def lcL (vs : List Nat) (t : Tg) (test : M Bool) (elt : M (Bool × D)) : List D → List D → M (List D)
  | [], acc => M.pure acc
  | d :: r, acc => (bindM t d).bind fun _ => (noX test).bind fun k => if k = true then (noX elt).bind fun p => (wipeM vs).bind fun _ => lcL vs t test elt r (acc ++ [p.2]) else (wipeM vs).bind fun _ => lcL vs t test elt r acc
/-- a block of its own: its slots are wiped, then as before -/
def inBlock {α : Type} (vs : List Nat) (m : M α) : M α := fun st => if hid vs st = true then (match m (wipeD st vs) with
  | .ok a st' => .ok a (putBack st st' vs)
  | _ => .stuck) else .stuck
def mLc (mi : M (List D)) (vs : List Nat) (t : Tg) (test : M Bool) (elt : M (Bool × D)) : M (Bool × D) :=
  mi.bind fun ds => if ds.length ≤ sizeLine then (inBlock vs (lcL vs t test elt ds [])).bind fun acc => M.pure (true, .lst acc) else M.stop

section
variable {α β : Type} {m : M α} {st : DSt} {k : α → DSt → Prop} {x : Str → List (Str × D) → DSt → Prop} {vs : List Nat}
theorem post_noX : ((noX m) st).post k x ↔ (m st).post k fun _ _ _ => False := by
  unfold noX
  cases m st <;> exact Iff.rfl
theorem post_bindM {t : Tg} {d : D} {k : Unit → DSt → Prop} : (bindM t d st).post k x ↔ ∃ st', bindT t d st = some st' ∧ k () st' := by
  unfold bindM
  cases bindT t d st with
  | none => exact ⟨fun h => h.elim, fun ⟨_, e, _⟩ => by cases e⟩
  | some st' => exact ⟨fun h => ⟨st', rfl, h⟩, fun ⟨_, e, h⟩ => by cases e; exact h⟩
theorem post_wipeM {k : Unit → DSt → Prop} : (wipeM vs st).post k x ↔ hid vs st = true ∧ k () (wipeD st vs) := by
  unfold wipeM
  by_cases h : hid vs st = true
  · rw [if_pos h]; exact ⟨fun q => ⟨h, q⟩, fun q => q.2⟩
  · rw [if_neg h]; exact ⟨fun q => q.elim, fun q => h q.1⟩
theorem post_block : (inBlock vs m st).post k x ↔ hid vs st = true ∧ (m (wipeD st vs)).post (fun a st' => k a (putBack st st' vs)) fun _ _ _ => False := by
  unfold inBlock
  by_cases h : hid vs st = true
  · rw [if_pos h]
    cases m (wipeD st vs) with
    | ok a st' => exact ⟨fun q => ⟨h, q⟩, fun q => q.2⟩
    | exc c fs st' => exact ⟨fun q => q.elim, fun q => q.2.elim⟩
    | stuck => exact ⟨fun q => q.elim, fun q => q.2.elim⟩
  · rw [if_neg h]; exact ⟨fun q => q.elim, fun q => h q.1⟩
theorem post_ite {c : Prop} [Decidable c] {a b : M α} : ((if c then a else b : M α) st).post k x ↔ if c then (a st).post k x else (b st).post k x := by
  split <;> exact Iff.rfl
end

section
variable {st old : DSt} {σ : L2.St} {i : Nat} {y : Bool × D}
theorem wipeD_len : ∀ {vs : List Nat}, (wipeD st vs).length = st.length
  | [] => rfl
  | v :: vs => by rw [wipeD, List.length_set, wipeD_len]
theorem wipeD_out : ∀ {vs : List Nat}, i ∉ vs → (wipeD st vs)[i]? = st[i]?
  | [], _ => rfl
  | v :: vs, h => by
    simp at h
    rw [wipeD, List.getElem?_set_ne (fun e => h.1 e.symm), wipeD_out h.2]
theorem wipeD_in : ∀ {vs : List Nat}, i ∈ vs → ∀ y, (wipeD st vs)[i]? ≠ some (some y)
  | v :: vs, h, y, e => by
    rw [wipeD] at e
    by_cases hv : v = i
    · subst hv
      have hl := (List.getElem?_eq_some_iff.mp e).1
      rw [List.getElem?_set_self (by simpa using hl)] at e
      cases e
    · rw [List.getElem?_set_ne hv] at e
      rcases List.mem_cons.mp h with z | z
      · exact hv z.symm
      · exact wipeD_in z y e
theorem wipe_out : ∀ {vs : List Nat}, i ∉ vs → (wipe σ vs)[i]? = σ[i]?
  | [], _ => rfl
  | v :: vs, h => by
    simp at h
    rw [wipe, List.getElem?_set_ne (fun e => h.1 e.symm), wipe_out h.2]
theorem wipe_in : ∀ {vs : List Nat}, i ∈ vs → i < σ.length → (wipe σ vs)[i]? = some none
  | v :: vs, h, hl => by
    rw [wipe]
    by_cases hv : v = i
    · subst hv
      rw [List.getElem?_set_self (by rw [wipe_length]; exact hl)]
    · rw [List.getElem?_set_ne hv]
      rcases List.mem_cons.mp h with z | z
      · exact absurd z.symm hv
      · exact wipe_in z hl
theorem wipe_eq {σ2 : L2.St} {vs : List Nat} (h : ∀ i, i ∉ vs → σ2[i]? = (wipe σ vs)[i]?) (hl : σ2.length = (wipe σ vs).length) : wipe σ2 vs = wipe σ vs := by
  refine List.ext_getElem? fun i => ?_
  have hl' : σ2.length = σ.length := hl.trans (wipe_length σ vs)
  by_cases hi : i ∈ vs
  · by_cases hlt : i < σ.length
    · rw [wipe_in hi (by omega), wipe_in hi hlt]
    · rw [List.getElem?_eq_none (by rw [wipe_length]; omega), List.getElem?_eq_none (by rw [wipe_length]; omega)]
  · rw [wipe_out hi, h i hi]
theorem putBack_len : ∀ {vs : List Nat}, (putBack old st vs).length = st.length
  | [] => rfl
  | v :: vs => by rw [putBack, List.length_set, putBack_len]
theorem putBack_out : ∀ {vs : List Nat}, i ∉ vs → (putBack old st vs)[i]? = st[i]?
  | [], _ => rfl
  | v :: vs, h => by
    simp at h
    rw [putBack, List.getElem?_set_ne (fun e => h.1 e.symm), putBack_out h.2]
theorem putBack_in : ∀ {vs : List Nat}, i ∈ vs → (putBack old st vs)[i]? = some (some y) → old[i]? = some (some y)
  | v :: vs, h, e => by
    rw [putBack] at e
    by_cases hv : v = i
    · subst hv
      have hl := (List.getElem?_eq_some_iff.mp e).1
      rw [List.getElem?_set_self (by simpa using hl)] at e
      split at e
      · rename_i x hx
        cases e
        exact hx
      · cases e
    · rw [List.getElem?_set_ne hv] at e
      rcases List.mem_cons.mp h with z | z
      · exact absurd z.symm hv
      · exact putBack_in z e
theorem hid_of {vs : List Nat} (h : hid vs st = true) (hi : i ∈ vs) {d : D} : st[i]? ≠ some (some (true, d)) := fun e => by
  have q := List.all_eq_true.mp h i hi
  rw [e] at q
  cases q
end

section
variable {K : PySem.W.Frag} {mg : Str → Option Value} {W : WX} {Z₀ Z₁ : Zp} {H H' H0 : Hp} {st st' st0 : DSt} {σ σ' σ0 : L2.St} {d d' : D} {v : V} {a : Addr} {vs : List Nat}
/-- the block's slots wiped, an object more that others hold -/
theorem own_wipe (h : hid vs st = true) : OwnAt (wipeD st vs) (wipe σ vs) a ↔ OwnAt st σ a := by
  constructor
  · rintro ⟨i, d, h1, h2⟩
    have hi : i ∉ vs := fun hi => wipeD_in hi _ h1
    rw [wipeD_out hi] at h1
    rw [wipe_out hi] at h2
    exact ⟨i, d, h1, h2⟩
  · rintro ⟨i, d, h1, h2⟩
    have hi : i ∉ vs := fun hi => hid_of h hi h1
    exact ⟨i, d, by rw [wipeD_out hi]; exact h1, by rw [wipe_out hi]; exact h2⟩
theorem Sim.wipe (S : Sim K mg Z₀ st σ H) (h : hid vs st = true) (hz : Z₁.z = Z₀.z) (hp : Z₁.pin = none) : Sim K mg Z₁ (wipeD st vs) (L2.wipe σ vs) H := by
  have zz : ∀ b, ZZ Z₁ (wipeD st vs) (L2.wipe σ vs) b → ZZ Z₀ st σ b := fun b z => z.imp (fun z => hz ▸ z) (own_wipe h).mp
  have kk : Keeps (ZZ Z₀ st σ) (ZZ Z₁ (wipeD st vs) (L2.wipe σ vs)) H H := Keeps.sub zz
  refine ⟨by rw [wipeD_len, wipe_length]; exact S.len, fun i b d e => ?_, fun i j d d' a h1 h2 h3 h4 => ?_, fun a z => hz ▸ S.apart a ((own_wipe h).mp z), fun a z => S.dom a (hz ▸ z), (fun a e => by rw [hp] at e; cases e), S.tabs⟩
  · have hi : i ∉ vs := fun hi => wipeD_in hi _ e
    rw [wipeD_out hi] at e
    obtain ⟨v, e1, r, m⟩ := S.val i b d e
    refine ⟨v, by rw [wipe_out hi]; exact e1, ?_, m⟩
    cases b with
    | true => exact RepP.top kk r fun _ _ _ q _ => q
    | false => exact r.mono kk
  · have hi : i ∉ vs := fun hi => wipeD_in hi _ h1
    have hj : j ∉ vs := fun hi => wipeD_in hi _ h2
    rw [wipeD_out hi] at h1
    rw [wipeD_out hj] at h2
    rw [wipe_out hi] at h3
    rw [wipe_out hj] at h4
    exact S.inj i j d d' a h1 h2 h3 h4
/-- an object that others hold is changed -/
theorem Sim.chg (S : Sim K mg Z₀ st σ H) {o u : HO} (hu : H a = some u) (nt : NTE u) (ha : Z₀.z a) : Sim K mg Z₀ st σ (upd H a o) := by
  have kk : Keeps (ZZ Z₀ st σ) (ZZ Z₀ st σ) H (upd H a o) := fun b u nz e _ => ⟨by rw [upd_ne (fun z : b = a => nz (.inl (by rw [z]; exact ha)))]; exact e, nz⟩
  refine ⟨S.len, fun i b d e => ?_, S.inj, S.apart, fun b z => ?_, S.pin, S.tabs.poke hu nt fun b v n e => (upd_ne n).trans e⟩
  · obtain ⟨v, e1, r, m⟩ := S.val i b d e
    refine ⟨v, e1, ?_, m⟩
    cases b with
    | false => exact r.mono kk
    | true =>
      refine RepP.top kk r fun c u ec q _ => ?_
      subst ec
      rw [upd_ne (fun z : c = a => S.apart c ⟨i, d, e, e1⟩ (by rw [z]; exact ha))]
      exact q
  · by_cases hb : b = a
    · subst hb; rw [upd_same]; simp
    · rw [upd_ne hb]; exact S.dom b z
theorem own_back (h : hid vs st0 = true) (hw : ∀ i ∈ vs, ∀ y, st'[i]? ≠ some (some y)) : OwnAt (putBack st0 st' vs) σ a ↔ OwnAt st' (L2.wipe σ vs) a := by
  constructor
  · rintro ⟨i, d, h1, h2⟩
    have hi : i ∉ vs := fun hi => hid_of h hi (putBack_in hi h1)
    rw [putBack_out hi] at h1
    exact ⟨i, d, h1, by rw [wipe_out hi]; exact h2⟩
  · rintro ⟨i, d, h1, h2⟩
    have hi : i ∉ vs := fun hi => hw i hi _ h1
    rw [wipe_out hi] at h2
    exact ⟨i, d, by rw [putBack_out hi]; exact h1, h2⟩
/-- behind a block: L is the object it has made (others held it within) -/
theorem block_back {L : Addr} (S0 : Sim K mg Z₀ st0 σ H0) (hh : hid vs st0 = true) (hL : H0 L = none)
    (g : Grow (wipeD st0 vs) (L2.wipe σ vs) H0 st' (L2.wipe σ vs) H') (S : Sim K mg ⟨(Z₀.add L).z, none⟩ st' (L2.wipe σ vs) H') (hw : ∀ i ∈ vs, ∀ y, st'[i]? ≠ some (some y)) :
    Grow st0 σ H0 (putBack st0 st' vs) σ H' ∧ Sim K mg (Z₀.add L) (putBack st0 st' vs) σ H' ∧ (∀ b, ZZ (Z₀.add L) (putBack st0 st' vs) σ b → ZZ ⟨(Z₀.add L).z, none⟩ st' (L2.wipe σ vs) b) ∧ ¬ ZZ Z₀ (putBack st0 st' vs) σ L := by
  have own : ∀ b, OwnAt (putBack st0 st' vs) σ b ↔ OwnAt st' (L2.wipe σ vs) b := fun b => own_back hh hw
  have G : Grow st0 σ H0 (putBack st0 st' vs) σ H' := by
    refine ⟨fun b o e n nt => g.keep b o e (fun z => n ((own_wipe hh).mp z)) nt, fun b z => ?_, g.dom⟩
    rcases g.own b ((own b).mp z) with z | z
    · exact .inl ((own_wipe hh).mp z)
    · exact .inr z
  have zz : ∀ b, ZZ (Z₀.add L) (putBack st0 st' vs) σ b → ZZ ⟨(Z₀.add L).z, none⟩ st' (L2.wipe σ vs) b := fun b z => z.imp id (own b).mp
  have kk : Keeps (ZZ ⟨(Z₀.add L).z, none⟩ st' (L2.wipe σ vs)) (ZZ (Z₀.add L) (putBack st0 st' vs) σ) H' H' := Keeps.sub zz
  have k0 : Keeps (ZZ Z₀ st0 σ) (ZZ (Z₀.add L) (putBack st0 st' vs) σ) H0 H' := fun b o nz e nt => by
    refine ⟨G.keep b o e (fun z => nz (.inr z)) nt, fun z => ?_⟩
    rcases z with (z | z) | z
    · exact nz (.inl z)
    · subst z; rw [hL] at e; cases e
    · rcases G.own b z with z | z
      · exact nz (.inr z)
      · rw [z] at e; cases e
  refine ⟨G, ⟨?_, fun i b d e => ?_, fun i j d d' a h1 h2 h3 h4 => ?_, fun b z => S.apart b ((own b).mp z), S.dom, S0.pin, S.tabs⟩, zz, fun z => ?_⟩
  · rw [putBack_len, S.len, wipe_length]
  · by_cases hi : i ∈ vs
    · have e0 := putBack_in hi e
      obtain ⟨v, e1, r, m⟩ := S0.val i b d e0
      cases b with
      | true => exact absurd e0 (hid_of hh hi)
      | false => exact ⟨v, e1, r.mono k0, m⟩
    · rw [putBack_out hi] at e
      obtain ⟨v, e1, r, m⟩ := S.val i b d e
      rw [wipe_out hi] at e1
      refine ⟨v, e1, ?_, m⟩
      cases b with
      | true => exact RepP.top kk r fun _ _ _ q _ => q
      | false => exact r.mono kk
  · have un : ∀ {i d}, (putBack st0 st' vs)[i]? = some (some (true, d)) → i ∉ vs ∧ st'[i]? = some (some (true, d)) := fun {i d} h1 => by
      have hi : i ∉ vs := fun hi => hid_of hh hi (putBack_in hi h1)
      rw [putBack_out hi] at h1
      exact ⟨hi, h1⟩
    obtain ⟨n1, h1⟩ := un h1
    obtain ⟨n2, h2⟩ := un h2
    exact S.inj i j d d' a h1 h2 (by rw [wipe_out n1]; exact h3) (by rw [wipe_out n2]; exact h4)
  · rcases z with z | z
    · exact S0.dom L z hL
    · exact S.apart L ((own L).mp z) (.inr rfl)

abbrev W0 : WX := fun _ _ _ _ => False
theorem lc_sound {mi : M (List D)} {t : Tg} {test : M Bool} {elt : M (Bool × D)} (hsub : ∀ i ∈ t.slots, i ∈ vs) {Q : VK} (h : tD K mg W (mLc mi vs t test elt) σ H Q) :
    tLc (tIt K mg W mi) (gD K mg t) (tDT K mg W0 test) (tD K mg W0 elt) vs σ H Q := by
  obtain ⟨Z₀, st, S, h⟩ := h
  rw [mLc, post_bind] at h
  refine ⟨Z₀, st, S, h.mono (fun ds st1 h J H1 g1 S1 w1 L hL => ?_) fun _ _ _ h => h⟩
  rw [post_ite] at h
  by_cases hsz : ds.length ≤ sizeLine
  case neg => rw [if_neg hsz] at h; exact h.elim
  rw [if_pos hsz, post_bind, post_block] at h
  obtain ⟨hh, h⟩ := h
  -- the new list, the block's slots
  have kw : ∀ b o, H1 b = some o → upd H1 L (.lst []) b = some o := ext_new hL
  have S1L : Sim K mg (Z₀.add L) st1 σ (upd H1 L (.lst [])) := S1.ext1 kw hL (by rw [upd_same]; simp)
  have Sw : Sim K mg ⟨(Z₀.add L).z, none⟩ (wipeD st1 vs) (L2.wipe σ vs) (upd H1 L (.lst [])) := S1L.wipe hh rfl rfl
  have kw1 : Keeps (ZZ Z₀ st1 σ) (ZZ ⟨(Z₀.add L).z, none⟩ (wipeD st1 vs) (L2.wipe σ vs)) H1 (upd H1 L (.lst [])) := fun b o nz e _ => ⟨kw b o e, fun z => by
    rcases z with (z | z) | z
    · exact nz (.inl z)
    · subst z; rw [hL] at e; cases e
    · exact nz (.inr ((own_wipe hh).mp z))⟩
  have hdom : ∀ {H' : Hp}, (∀ b, H1 b ≠ none → H' b ≠ none) → ∀ b, H1 b ≠ none → H' b ≠ none := fun h => h
  refine ⟨fun i m H' => m = ds.length - i ∧ i ≤ ds.length ∧ ∃ st' acc accV, Grow (wipeD st1 vs) (L2.wipe σ vs) H1 st' (L2.wipe σ vs) H' ∧ Sim K mg ⟨(Z₀.add L).z, none⟩ st' (L2.wipe σ vs) H' ∧ WOk K mg J ds (ZZ ⟨(Z₀.add L).z, none⟩ st' (L2.wipe σ vs)) H' ∧
      H' L = some (.lst accV) ∧ RepL K mg (ZZ ⟨(Z₀.add L).z, none⟩ st' (L2.wipe σ vs)) H' acc accV ∧ acc.length ≤ i ∧ (∀ j ∈ vs, ∀ y, st'[j]? ≠ some (some y)) ∧
      (lcL vs t test elt (ds.drop i) acc st').post (fun a st'' => (M.pure (true, D.lst a) (putBack st1 st'' vs)).post (fun p st' => ∀ v H', Grow st σ H st' σ H' → Fin K mg Z₀ st' σ H H' p.1 p.2 v → Q v H') (XEnd K mg W Z₀ st σ H)) fun _ _ _ => False,
    ⟨ds.length, by simp, Nat.zero_le _, wipeD st1 vs, [], [], ⟨fun b o e _ _ => kw b o e, fun b z => .inl z, fun b n => by
      cases q : H1 b with
      | none => exact absurd q n
      | some o => rw [kw b o q]; simp⟩, Sw, w1.mono kw1, upd_same, .nil, Nat.le_refl _, fun j hj y => wipeD_in hj y, by simpa using h⟩, ?_⟩
  rintro i m H2 ⟨rfl, hi, st2, acc, accV, g2, S2, w2, hLv, rl, hacc, hw2, h2⟩
  by_cases hl : i < ds.length
  · obtain ⟨d, hd⟩ : ∃ d, ds[i]? = some d := ⟨ds[i], by simp [hl]⟩
    have ed : ds.drop i = d :: ds.drop (i + 1) := by
      rw [List.drop_eq_getElem_cons hl]
      simp [hl] at hd
      rw [hd]
    rw [ed, lcL, post_bind, post_bindM] at h2
    obtain ⟨st3, eb, h2⟩ := h2
    refine .inr ⟨w2.go S2.zdom hl, _, fun H' q => ⟨ds.length - (i + 1), by omega, rfl, hl, q⟩, fun x H3 y => ?_⟩
    obtain ⟨kp, rx⟩ := w2.yld S2.zdom hd y
    have S3 := S2.ext kp
    have g3 : Grow st2 (L2.wipe σ vs) H2 st2 (L2.wipe σ vs) H3 := Grow.ext kp
    refine ⟨_, st2, d, .inl rfl, S3, rx, st3, eb, fun σ4 g4 S4 off l4 => ⟨wipe_eq (fun j hj => (off j fun z => hj (hsub j z)).1) l4, ?_⟩⟩
    have ew : L2.wipe σ4 vs = L2.wipe σ vs := wipe_eq (fun j hj => (off j fun z => hj (hsub j z)).1) l4
    rw [post_bind, post_noX] at h2
    refine ⟨_, st3, S4, h2.mono (fun b st5 h5 H5 g5 S5 => ?_) fun c fs st' h _ _ _ _ _ _ _ => h.elim⟩
    have gg5 := (g3.trans g4).trans g5
    have keepL : ∀ {st6 : DSt} {H6 : Hp}, Grow st2 (L2.wipe σ vs) H2 st6 σ4 H6 → H6 L = some (.lst accV) := fun g6 => g6.keep L _ hLv (fun z => S2.apart L z (.inr rfl)) trivial
    -- the slots wiped again
    have gw : ∀ {st6 : DSt} {H6 : Hp}, hid vs st6 = true → Grow st6 σ4 H6 (wipeD st6 vs) (L2.wipe σ vs) H6 := fun {st6 H6} h6 => ⟨fun _ _ e _ _ => e, fun b z => .inl (by rw [← ew] at z; exact (own_wipe h6).mp z), fun _ z => z⟩
    have Sw6 : ∀ {st6 : DSt} {H6 : Hp}, hid vs st6 = true → Sim K mg ⟨(Z₀.add L).z, none⟩ st6 σ4 H6 → Sim K mg ⟨(Z₀.add L).z, none⟩ (wipeD st6 vs) (L2.wipe σ vs) H6 := fun {st6 H6} h6 S6 => by
      rw [← ew]
      exact S6.wipe h6 rfl rfl
    cases b with
    | false =>
      rw [if_neg (by simp), post_bind, post_wipeM] at h5
      refine iteF ?_
      obtain ⟨h6, h5⟩ := h5
      have gg := gg5.trans (gw h6)
      exact ⟨wipeD st5 vs, acc, accV, g2.trans gg, Sw6 h6 S5, w2.mono gg.keeps, keepL gg5, rl.mono gg.keeps, by omega, fun j hj y => wipeD_in hj y, h5⟩
    | true =>
      rw [if_pos rfl, post_bind, post_noX] at h5
      refine iteT ?_
      refine ⟨_, st5, S5, h5.mono (fun p st6 h6 y6 H6 g6 f6 => ?_) fun c fs st' h _ _ _ _ _ _ _ => h.elim⟩
      rw [post_bind, post_wipeM] at h6
      obtain ⟨h7, h6⟩ := h6
      have gg6 := gg5.trans g6
      have gg := gg6.trans (gw h7)
      have gt := g2.trans gg
      have S6 := Sw6 h7 f6.sim
      have hL6 := keepL gg6
      have kk : Keeps (ZZ ⟨(Z₀.add L).z, none⟩ (wipeD st6 vs) (L2.wipe σ vs)) (ZZ ⟨(Z₀.add L).z, none⟩ (wipeD st6 vs) (L2.wipe σ vs)) H6 (upd H6 L (.lst (accV ++ [y6]))) := fun b u nz e _ => ⟨by rw [upd_ne (fun z => nz (.inl (.inr z)))]; exact e, nz⟩
      have rl6 := (rl.mono (gg.keeps (Z₀ := ⟨(Z₀.add L).z, none⟩))).append (.cons ((gw h7).rep f6.rep) .nil)
      refine ⟨accV, hL6, by rw [← rl.length]; omega, wipeD st6 vs, acc ++ [p.2], accV ++ [y6], ⟨fun b o e n nt => ?_, gt.own, fun b n => ?_⟩, S6.chg hL6 trivial (.inr rfl), (w2.mono gg.keeps).mono kk, upd_same, rl6.mono kk, by simp; omega, fun j hj y => wipeD_in hj y, h6⟩
      · rw [upd_ne (fun z => by subst z; rw [hL] at e; cases e)]
        exact gt.keep b o e n nt
      · by_cases hb : b = L
        · subst hb; rw [upd_same]; simp
        · rw [upd_ne hb]; exact gt.dom b n
  · have e : i = ds.length := by omega
    subst e
    rw [List.drop_length] at h2
    obtain ⟨G, SB, zz, nz⟩ := block_back S1 hh hL g2 S2 hw2
    refine .inl ⟨w2.stop S2.zdom rfl, h2 (.ref L) H2 (g1.trans G) ?_⟩
    show Fin K mg Z₀ _ σ H H2 true (.lst acc) (.ref L)
    unfold Fin
    rw [if_pos rfl]
    refine ⟨L, rfl, ?_, nz, rfl, SB, .lst hLv (fun e => by cases e) (rl.mono (Keeps.sub zz))⟩
    cases q : H L with
    | none => rfl
    | some o => exact absurd hL (g1.dom L (by rw [q]; simp))
end
end PL
set_option Elab.async false
set_option linter.all false
set_option maxRecDepth 100000
set_option maxHeartbeats 4000000
set_option autoImplicit false
/-! PL9: operands, operations, tests, displays, slices, calls of built-ins. -/
namespace PL
open PySem PySem.Spec PyProof.Rows L2

def Po (X : Cx) (W : WX) (e : Expr) (o : Opd) : Prop := PE X e (opdT X.K X.mg W o)
def Pas (X : Cx) (W : WX) (es : List Expr) (os : List Opd) : Prop := PA X es (argT X.K X.mg W os)
def Pxs (X : Cx) (W : WX) (es : List Expr) (ms : List (M (Bool × D))) : Prop := PA X es (exT X.K X.mg W ms)
def Pw (X : Cx) (W : WX) (e : Expr) (m : M Bool) : Prop := PW X e (tDT X.K X.mg W m)
theorem pw_imp {X : Cx} {e : Expr} {t t' : TT} (h : PW X e t) (k : ∀ σ H Q, t' σ H Q → t σ H Q) : PW X e t' := ⟨fun wh pins s σ H Q I q => h.run wh pins s σ H Q I (k σ H Q q)⟩

def mT (m : M (Bool × D)) : M Bool := m.bind fun p => match p.2 with
  | .bl b => M.pure b
  | _ => M.stop
def truD : D → Option Bool
  | .non => some false
  | .bl b => some b
  | .int i => some (i != 0)
  | .str x => if x.length ≤ sizeLine then some ((x.length : Int) != 0) else none
  | .lst ds => some (!ds.isEmpty)
  | .rol ds => some (!ds.isEmpty)
  | .tup _ ds => some (!ds.isEmpty)
  | _ => none
def dTru : List D → Option (Bool × D)
  | [d] => (truD d).bind fun b => fl (.bl b)
  | _ => none
def dNot : List D → Option (Bool × D)
  | [d] => (truD d).bind fun b => fl (.bl (!b))
  | _ => none
def mNotT (m : M Bool) : M Bool := m.bind fun b => M.pure (!b)
def mAndT (a b : M Bool) : M Bool := a.bind fun k => if k = true then b else M.pure false
def mOrT (a b : M Bool) : M Bool := a.bind fun k => if k = true then M.pure true else b
def mIf {α : Type} (c : M Bool) (a b : M α) : M α := c.bind fun k => if k = true then a else b
def mAndV (a b : M (Bool × D)) : M (Bool × D) := (mT a).bind fun k => if k = true then b else M.pure (false, .bl false)
def mOrV (a b : M (Bool × D)) : M (Bool × D) := (mT a).bind fun k => if k = true then M.pure (false, .bl true) else b
def peekO : Opd → M D
  | .nm i => peekAt i
  | .ex m => m.bind fun p => M.pure p.2
def intM (o : Opd) : M Int := (peekO o).bind fun d => match d with
  | .int i => M.pure i
  | _ => M.stop
def mChain (f g : Int → Int → Bool) (o1 o2 o3 : Opd) : M (Bool × D) := (intM o1).bind fun i => (intM o2).bind fun j => if f i j = true then (intM o3).bind fun k => M.pure (false, .bl (g j k)) else M.pure (false, .bl false)
def mTup (ms : List (M (Bool × D))) : M (Bool × D) := (runExs ms).bind fun ds => if ds.length ≤ sizeLine then M.pure (false, .tup false ds) else M.stop
def mLst (ms : List (M (Bool × D))) : M (Bool × D) := (runExs ms).bind fun ds => if ds.length ≤ sizeLine then M.pure (true, .lst ds) else M.stop

section
variable {K : PySem.W.Frag} {mg : Str → Option Value} {W : WX} {Z Z' : Zs} {Z₀ : Zp} {H H' : Hp} {st st' : DSt} {σ σ' : L2.St} {d : D} {v : V} {t : Bool}
theorem mT_sound {m : M (Bool × D)} {te : TE} (hm : ∀ σ H Q, tD K mg W m σ H Q → te σ H Q) {Q : Bool → Hp → Prop} (h : tDT K mg W (mT m) σ H Q) : tTest te σ H Q := by
  obtain ⟨Z₀, st, S, h⟩ := h
  rw [mT, post_bind] at h
  refine hm σ H _ ⟨Z₀, st, S, h.mono (fun p st1 hp v H1 g f => ?_) fun _ _ _ h => h⟩
  obtain ⟨fr, d⟩ := p
  cases d <;> first | exact hp.elim | skip
  rename_i b
  have r := f.rep
  have e := pk_bl r
  subst e
  exact ⟨b, rfl, hp H1 g f.sim⟩
theorem bind_sound {m : M Bool} {f : Bool → M (Bool × D)} {Q : VK} (h : tD K mg W (m.bind f) σ H Q) : tDT K mg W m σ H fun b H1 => tD K mg W (f b) σ H1 Q := by
  obtain ⟨Z₀, st, S, h⟩ := h
  rw [post_bind] at h
  refine ⟨Z₀, st, S, h.mono (fun b st1 hb H1 g S1 => ⟨Z₀, st1, S1, hb.mono (fun p st2 h v H2 g2 f2 => h v H2 (g.trans g2) (f2.back g.dom)) fun _ _ _ h => XEnd.from h g⟩) fun _ _ _ h => h⟩
theorem bindT_sound {m : M Bool} {f : Bool → M Bool} {Q : Bool → Hp → Prop} (h : tDT K mg W (m.bind f) σ H Q) : tDT K mg W m σ H fun b H1 => tDT K mg W (f b) σ H1 Q := by
  obtain ⟨Z₀, st, S, h⟩ := h
  rw [post_bind] at h
  refine ⟨Z₀, st, S, h.mono (fun b st1 hb H1 g S1 => ⟨Z₀, st1, S1, hb.mono (fun p st2 h H2 g2 f2 => h H2 (g.trans g2) f2) fun _ _ _ h => XEnd.from h g⟩) fun _ _ _ h => h⟩
theorem pureT_sound {b : Bool} {Q : Bool → Hp → Prop} (h : tDT K mg W (M.pure b) σ H Q) : Q b H := by
  obtain ⟨Z₀, st, S, h⟩ := h
  exact h H Grow.refl S
theorem pureB_sound {b : Bool} {Q : VK} (h : tD K mg W (M.pure (false, .bl b)) σ H Q) : Q (.bl b) H := by
  obtain ⟨Z₀, st, S, h⟩ := h
  exact h _ H Grow.refl (.old S (.bl b))
theorem RepL.isEmpty {ds : List D} {xs : List V} (r : RepL K mg Z H ds xs) : xs.isEmpty = ds.isEmpty := by cases r <;> rfl
theorem tru_rep {b : Bool} (r : RepP K mg Z H t d v) (e : truD d = some b) : TruV K v H b := by
  cases d <;> simp only [truD, reduceCtorEq, Option.some.injEq, Option.ite_none_right_eq_some] at e
  · rw [pk_non r]; exact e.symm
  · rw [pk_bl r]; exact e.symm
  · rw [pk_int r]; exact e.symm
  · rw [pk_str r]; exact ⟨e.1, e.2.symm⟩
  · obtain ⟨a, xs, rfl, q, r1⟩ := pk_tup r; exact .inr (.inl ⟨xs, q, by rw [r1.isEmpty]; exact e.symm⟩)
  · obtain ⟨a, xs, rfl, q, r1⟩ := pk_lst r; exact .inl ⟨xs, SqL.of q, by rw [r1.isEmpty]; exact e.symm⟩
  · obtain ⟨a, xs, rfl, q, r1⟩ := pk_rol r; exact .inl ⟨xs, q, by rw [r1.isEmpty]; exact e.symm⟩
def rTru (K : PySem.W.Frag) : List V → Hp → VK → Prop := fun vs H Q => ∃ x k, vs = [x] ∧ TruV K x H k ∧ Q (.bl k) H
def rNotR (K : PySem.W.Frag) : List V → Hp → VK → Prop := fun vs H Q => ∃ x k, vs = [x] ∧ TruV K x H k ∧ Q (.bl (!k)) H
theorem b_tru : BSpec K mg (rTru K) dTru := fun Z H vs ds fr d Q dom pl e k => by
  match ds, pl, e with
  | [d1], pl, e =>
    obtain ⟨x, rfl, h1⟩ := pl1 pl
    obtain ⟨b, e1, e2⟩ := Option.bind_eq_some_iff.mp e
    exact ⟨x, b, rfl, tru_rep h1 e1, fin0 e2 (.bl b) k⟩
theorem b_not : BSpec K mg (rNotR K) dNot := fun Z H vs ds fr d Q dom pl e k => by
  match ds, pl, e with
  | [d1], pl, e =>
    obtain ⟨x, rfl, h1⟩ := pl1 pl
    obtain ⟨b, e1, e2⟩ := Option.bind_eq_some_iff.mp e
    exact ⟨x, b, rfl, tru_rep h1 e1, fin0 e2 (.bl _) k⟩
theorem intM_sound {o : Opd} {Q : VK} (h : ∃ Z₀ st, Sim K mg Z₀ st σ H ∧ (intM o st).post (fun i st' => ∀ H', Grow st σ H st' σ H' → Sim K mg Z₀ st' σ H' → Q (.int i) H') (XEnd K mg W Z₀ st σ H)) : opdT K mg W o σ H Q := by
  obtain ⟨Z₀, st, S, h⟩ := h
  rw [intM, post_bind] at h
  cases o with
  | nm i =>
    rw [peekO, post_peek] at h
    obtain ⟨b, d, e, h⟩ := h
    obtain ⟨v, hv, r, _⟩ := S.val i b d e
    refine ⟨v, hv, ?_⟩
    cases d <;> first | exact h.elim | skip
    rw [pk_int r]
    exact h H Grow.refl S
  | ex m =>
    rw [peekO, post_bind] at h
    refine ⟨Z₀, st, S, h.mono (fun p st1 h v H1 g f => ?_) fun _ _ _ h => h⟩
    obtain ⟨fr, d⟩ := p
    cases d <;> first | exact h.elim | skip
    rw [pk_int f.rep]
    exact h H1 g f.sim
theorem chain_sound {f g : Int → Int → Bool} {o1 o2 o3 : Opd} {Q : VK} (h : tD K mg W (mChain f g o1 o2 o3) σ H Q) :
    tChain (rI0 fun i j => .bl (f i j)) (rI0 fun i j => .bl (g i j)) (opdT K mg W o1) (opdT K mg W o2) (opdT K mg W o3) σ H Q := by
  obtain ⟨Z₀, st, S, h⟩ := h
  rw [mChain, post_bind] at h
  refine intM_sound ⟨Z₀, st, S, h.mono (fun i st1 h H1 g1 S1 => ?_) fun _ _ _ h => h⟩
  rw [post_bind] at h
  refine intM_sound ⟨Z₀, st1, S1, h.mono (fun j st2 h H2 g2 S2 => ?_) fun _ _ _ h => XEnd.from h g1⟩
  refine ⟨i, j, rfl, rfl, f i j, rfl, ?_⟩
  cases hf : f i j with
  | true =>
    rw [hf, if_pos rfl, post_bind] at h
    rw [if_pos rfl]
    refine intM_sound ⟨Z₀, st2, S2, h.mono (fun k st3 h H3 g3 S3 => ?_) fun _ _ _ h => XEnd.from h (g1.trans g2)⟩
    exact ⟨j, k, rfl, rfl, h _ H3 ((g1.trans g2).trans g3) (.old S3 (.bl _))⟩
  | false =>
    rw [hf, if_neg (by simp)] at h
    rw [if_neg (by simp)]
    exact h _ H2 (g1.trans g2) (.old S2 (.bl _))
theorem tup_sound {ms : List (M (Bool × D))} {Q : VK} (h : tD K mg W (mTup ms) σ H Q) : tTup (exT K mg W ms) σ H Q := by
  obtain ⟨Z₀, st, S, h⟩ := h
  rw [mTup, post_bind] at h
  refine exs_sound ms σ H _ ⟨Z₀, st, S, h.mono (fun ds st1 h vs H1 g S1 rl => ?_) fun _ _ _ h => h⟩
  by_cases hz : ds.length ≤ sizeLine
  case neg => rw [if_neg hz] at h; exact h.elim
  rw [if_pos hz] at h
  exact ⟨by rw [← rl.length]; exact hz, fun p hp => h _ _ (g.trans (Grow.ext (ext_new hp))) (Fin.back (Res.fin (res_tup S1.zdom hp rl) S1 (ext_new hp)) g.dom)⟩
theorem lst_sound {ms : List (M (Bool × D))} {Q : VK} (h : tD K mg W (mLst ms) σ H Q) : tLst (exT K mg W ms) σ H Q := by
  obtain ⟨Z₀, st, S, h⟩ := h
  rw [mLst, post_bind] at h
  refine exs_sound ms σ H _ ⟨Z₀, st, S, h.mono (fun ds st1 h vs H1 g S1 rl => ?_) fun _ _ _ h => h⟩
  by_cases hz : ds.length ≤ sizeLine
  case neg => rw [if_neg hz] at h; exact h.elim
  rw [if_pos hz] at h
  exact ⟨by rw [← rl.length]; exact hz, fun p hp => h _ _ (g.trans (Grow.ext (ext_new hp))) (Fin.back (Res.fin (res_lst S1.zdom hp rl) S1 (ext_new hp)) g.dom)⟩
end

section
variable {X : Cx} {W : WX} {a b c e : Expr} {es rest : List Expr} {o o1 o2 o3 : Opd} {os : List Opd} {m m1 m2 : M (Bool × D)} {ms : List (M (Bool × D))} {ta tb : M Bool} {pos p : Pos}
theorem Po.nm {i : Nat} {x : Str} (hN : X.N[i]? = some x) (hv : Vis X.env.scope x) (hd : (x == ("__debug__" : Str)) = false) (hcd : (x == ("__classdict__" : Str)) = false) : Po X W (.Name x pos) (.nm i) := pe_var hN hv hd hcd
theorem Po.ex (h : Pe X W e m) : Po X W e (.ex m) := h
theorem Pas.nil : Pas X W [] [] := pa_nil
theorem Pas.cons (h : Po X W e o) (hr : Pas X W es os) (hs : starEach (e :: es) X.env = (false, eval e X.env) :: starEach es X.env := by rfl) : Pas X W (e :: es) (o :: os) := pa_cons h hr hs
theorem Pxs.nil : Pxs X W [] [] := pa_nil
theorem Pxs.cons (h : Pe X W e m) (hr : Pxs X W es ms) (hs : starEach (e :: es) X.env = (false, eval e X.env) :: starEach es X.env := by rfl) : Pxs X W (e :: es) (m :: ms) := pa_cons h hr hs
theorem Pe.bin {op : Operator} {r : R2} {f : List D → Option (Bool × D)} (ho : OpR X (binaryOp op) r) (B : BSpec X.K X.mg (r2L r) f) (h1 : Po X W a o1) (h2 : Po X W b o2) : Pe X W (.BinOp a op b pos) (mOps [o1, o2] f) :=
  pe_imp (pe_op ho h1 h2) fun σ H Q h => mOps_sound B h
theorem Pe.un {op : UnaryOp} {r : V → Hp → VK → Prop} {f : List D → Option (Bool × D)} (ho : UnR X (unaryOp op) r) (B : BSpec X.K X.mg (r1L r) f) (h1 : Po X W a o1) : Pe X W (.UnaryOp op a pos) (mOps [o1] f) :=
  pe_imp (pe_un ho h1) fun σ H Q h => mOps_sound B h
theorem Pe.cmp {op : CmpOp} {r : R2} {f : List D → Option (Bool × D)} (ho : OpR X (compareOp op) r) (B : BSpec X.K X.mg (r2L r) f) (h1 : Po X W a o1) (h2 : Po X W b o2) (hm : behindInMarks op b = false := by first | exact nomark _ | with_unfolding_all rfl) : Pe X W (.Compare a [op] [b] pos) (mOps [o1, o2] f) :=
  pe_imp (pe_cmpR ho h1 h2 hm) fun σ H Q h => mOps_sound B h
theorem Pt.cmp {op : CmpOp} {r : R2} {f : List D → Option (Bool × D)} (ho : OpR X (compareOp op) r) (B : BSpec X.K X.mg (r2L r) f) (h1 : Po X W a o1) (h2 : Po X W b o2) (hm : behindInMarks op b = false := by first | exact nomark _ | with_unfolding_all rfl) : Pt X W (.Compare a [op] [b] pos) (mT (mOps [o1, o2] f)) :=
  pt_imp (pt_cmpR ho h1 h2 hm) fun σ H Q h => mT_sound (fun σ H Q h => mOps_sound B h) h
theorem Pe.chain {op op' : CmpOp} {f g : Int → Int → Bool} (ho : OpR X (compareOp op) (rI0 fun i j => .bl (f i j))) (ho' : OpR X (compareOp op') (rI0 fun i j => .bl (g i j))) (h1 : Po X W a o1) (h2 : Po X W b o2) (h3 : Po X W c o3)
    (hm : lastMarks [op, op'] [b, c] = false := by with_unfolding_all rfl) : Pe X W (.Compare a [op, op'] [b, c] pos) (mChain f g o1 o2 o3) :=
  pe_imp (pe_chain ho ho' h1 h2 h3 hm) fun σ H Q h => chain_sound h
theorem Pt.chain {op op' : CmpOp} {f g : Int → Int → Bool} (ho : OpR X (compareOp op) (rI0 fun i j => .bl (f i j))) (ho' : OpR X (compareOp op') (rI0 fun i j => .bl (g i j))) (h1 : Po X W a o1) (h2 : Po X W b o2) (h3 : Po X W c o3)
    (hm : lastMarks [op, op'] [b, c] = false := by with_unfolding_all rfl) : Pt X W (.Compare a [op, op'] [b, c] pos) (mT (mChain f g o1 o2 o3)) :=
  pt_imp (pt_chain ho ho' h1 h2 h3 hm) fun σ H Q h => mT_sound (fun σ H Q h => chain_sound h) h
theorem Pt.tru (h1 : Po X W a o1) (he : ∀ whole, isTrue a X.env whole = (do let v ← whole; standAt a.pos; holding [v] (truthy v)) := by intro _; rfl) : Pt X W a (mT (mOps [o1] dTru)) :=
  pt_imp (pt_truth h1 he) fun σ H Q h => by
    have := mT_sound (te := fun σ H Q => argT X.K X.mg W [o1] σ H fun vs H1 => rTru X.K vs H1 Q) (fun σ H Q h => mOps_sound b_tru h) h
    refine opd_imp this fun x H1 ⟨y, k, e, tv, k', e', q⟩ => ?_
    cases e
    cases e'
    exact ⟨k, tv, q⟩
where
  opd_imp {o : Opd} {σ : L2.St} {H : Hp} {Q Q' : VK} (h : opdT X.K X.mg W o σ H Q) (k : ∀ v H, Q v H → Q' v H) : opdT X.K X.mg W o σ H Q' := by
    cases o with
    | nm i => obtain ⟨v, hv, q⟩ := h; exact ⟨v, hv, k _ _ q⟩
    | ex m =>
      obtain ⟨Z₀, st, S, h⟩ := h
      exact ⟨Z₀, st, S, h.mono (fun p st1 h v H1 g f => k _ _ (h v H1 g f)) fun _ _ _ h => h⟩
theorem Pe.notV (h1 : Po X W a o1) : Pe X W (.UnaryOp .Not a pos) (mOps [o1] dNot) :=
  pe_imp (pe_notT h1) fun σ H Q h => Pt.tru.opd_imp (mOps_sound b_not h) fun x H1 ⟨y, k, e, tv, q⟩ => by cases e; exact ⟨k, tv, q⟩
theorem Pt.not (h : Pt X W a ta) : Pt X W (.UnaryOp .Not a pos) (mNotT ta) :=
  pt_imp (pt_not h) fun σ H Q h => by
    obtain ⟨Z₀, st, S, h⟩ := h
    rw [mNotT, post_bind] at h
    exact ⟨Z₀, st, S, h⟩
theorem Pw.and1 (h : Pt X W a ta) : Pw X W (.BoolOp .And [a] pos) ta := pw_and1 h
theorem Pw.or1 (h : Pt X W a ta) : Pw X W (.BoolOp .Or [a] pos) ta := pw_or1 h
theorem tDT_mono {K : PySem.W.Frag} {mg : Str → Option Value} {σ : L2.St} {H : Hp} {Q Q' : Bool → Hp → Prop} (h : tDT K mg W ta σ H Q) (k : ∀ b H, Q b H → Q' b H) : tDT K mg W ta σ H Q' := by
  obtain ⟨Z₀, st, S, h⟩ := h
  exact ⟨Z₀, st, S, h.mono (fun p st1 h H1 g f => k _ _ (h H1 g f)) fun _ _ _ h => h⟩
theorem tD_mono {K : PySem.W.Frag} {mg : Str → Option Value} {σ : L2.St} {H : Hp} {Q Q' : VK} (h : tD K mg W m σ H Q) (k : ∀ b H, Q b H → Q' b H) : tD K mg W m σ H Q' := by
  obtain ⟨Z₀, st, S, h⟩ := h
  exact ⟨Z₀, st, S, h.mono (fun p st1 h v H1 g f => k _ _ (h v H1 g f)) fun _ _ _ h => h⟩
theorem Pw.and (h : Pt X W a ta) (hr : Pw X W (.BoolOp .And (b :: rest) pos) tb) : Pw X W (.BoolOp .And (a :: b :: rest) pos) (mAndT ta tb) :=
  pw_imp (pw_and h hr) fun σ H Q h => tDT_mono (bindT_sound h) fun k H1 q => by cases k <;> first | exact q | exact pureT_sound q
theorem Pw.or (h : Pt X W a ta) (hr : Pw X W (.BoolOp .Or (b :: rest) pos) tb) : Pw X W (.BoolOp .Or (a :: b :: rest) pos) (mOrT ta tb) :=
  pw_imp (pw_or h hr) fun σ H Q h => tDT_mono (bindT_sound h) fun k H1 q => by cases k <;> first | exact q | exact pureT_sound q
theorem Pt.bool (h : Pw X W e ta) : Pt X W e ta := h.pt
theorem mTB_sound {K : PySem.W.Frag} {mg : Str → Option Value} {f : Bool → M (Bool × D)} {σ : L2.St} {H : Hp} {Q : VK} (h : tD K mg W ((mT m).bind f) σ H Q) : tD K mg W m σ H fun x H1 => ∃ c, x = .bl c ∧ tD K mg W (f c) σ H1 Q :=
  mT_sound (te := tD K mg W m) (fun _ _ _ h => h) (bind_sound h)
theorem Pe.one {op : BoolOp} (h : Pe X W a m) : Pe X W (.BoolOp op [a] pos) m := pe_one h
theorem Pe.and (h : Pe X W a m1) (hr : Pe X W (.BoolOp .And (b :: rest) pos) m2) : Pe X W (.BoolOp .And (a :: b :: rest) pos) (mAndV m1 m2) :=
  pe_imp (pe_and h hr) fun σ H Q h => tD_mono (mTB_sound h) fun x H1 ⟨c, e, q⟩ => ⟨c, e, by cases c <;> first | exact q | exact pureB_sound q⟩
theorem Pe.or (h : Pe X W a m1) (hr : Pe X W (.BoolOp .Or (b :: rest) pos) m2) : Pe X W (.BoolOp .Or (a :: b :: rest) pos) (mOrV m1 m2) :=
  pe_imp (pe_or h hr) fun σ H Q h => tD_mono (mTB_sound h) fun x H1 ⟨c, e, q⟩ => ⟨c, e, by cases c <;> first | exact q | exact pureB_sound q⟩
theorem Pe.ifExp (hc : Pt X W c ta) (h1 : Pe X W a m1) (h2 : Pe X W b m2) : Pe X W (.IfExp c a b pos) (mIf ta m1 m2) :=
  pe_imp (pe_ifExp hc h1 h2) fun σ H Q h => tDT_mono (bind_sound h) fun k H1 q => by cases k <;> exact q
theorem Pe.tup {k : Nat} (h : Pxs X W es ms) : Pe X W (.Tuple es k pos) (mTup ms) := pe_imp (pe_tup h) fun σ H Q h => tup_sound h
theorem Pe.lst (h : Pxs X W es ms) : Pe X W (.List es pos) (mLst ms) := pe_imp (pe_lst h) fun σ H Q h => lst_sound h
/-- a call of a built-in -/
theorem Pe.callB {x : Str} {id : String} {r : List V → Hp → VK → Prop} {f : List D → Option (Bool × D)} (hc : CallR X (.builtin id) r) (B : BSpec X.K X.mg r f) (hg : Gl X x) (hm : X.mg x = none) (hv : bootBuiltins x = some (.builtin id)) (ha : Pas X W (e :: es) os)
    (hn : x ≠ "__name__" := by decide) (hdb : (x == ("__debug__" : Str)) = false := by decide)
    (he : starEach (e :: es) X.env = (false, eval e X.env) :: starEach es X.env := by rfl) (hpl : (backTo pos (starEach es X.env)).any (·.1) = false := by rfl) : Pe X W (.Call (.Name x p) (e :: es) [] pos) (mOps os f) :=
  pe_imp (pe_callB hc hg hm hv ha hn hdb he hpl) fun σ H Q h => mOps_sound B h
theorem Pe.callTy {x : Str} {T : String} {r : List V → Hp → VK → Prop} {f : List D → Option (Bool × D)} (hc : CallR X (.type T) r) (B : BSpec X.K X.mg r f) (hg : Gl X x) (hm : X.mg x = none) (hv : bootBuiltins x = some (.type T)) (ha : Pas X W (e :: es) os)
    (hn : x ≠ "__name__" := by decide) (hdb : (x == ("__debug__" : Str)) = false := by decide)
    (he : starEach (e :: es) X.env = (false, eval e X.env) :: starEach es X.env := by rfl) (hpl : (backTo pos (starEach es X.env)).any (·.1) = false := by rfl) : Pe X W (.Call (.Name x p) (e :: es) [] pos) (mOps os f) :=
  pe_imp (pe_callTy hc hg hm hv ha hn hdb he hpl) fun σ H Q h => mOps_sound B h
theorem Pe.ix (h1 : Po X W a o1) (h2 : Po X W b o2) (hs : PlainIx b := by intro _ _; rfl) : Pe X W (.Subscript a b pos) (mOps [o1, o2] dIx) :=
  pe_imp (pe_ix ix_seq h1 h2 hs) fun σ H Q h => mOps_sound b_ix h
theorem Pe.bltn {x : Str} {T : String} (hg : Gl X x) (hm : X.mg x = none) (hv : bootBuiltins x = some (.type T)) (hn : x ≠ "__name__" := by decide) (hd : (x == ("__debug__" : Str)) = false := by decide) : Pe X W (.Name x pos) (mC (.ty T)) :=
  pe_imp (pe_bltn hg hm hv (v := .ty T) rfl hn hd) fun σ H Q h => const_sound (fun _ _ => .ty T) h
end
end PL
set_option Elab.async false
set_option linter.all false
set_option maxRecDepth 100000
set_option maxHeartbeats 4000000
set_option autoImplicit false
/-! PL10: slices, built-ins, changes of lists. -/
namespace PL
open PySem PySem.Spec PyProof.Rows L2

/-! ### slices -/
def oM : Option Opd → M (Option Int)
  | none => M.pure none
  | some o => (intM o).bind fun i => M.pure (some i)
def toT (K : PySem.W.Frag) (mg : Str → Option Value) (W : WX) : Option Opd → TO
  | none => tNoPart
  | some o => tPart (opdT K mg W o)
def mSl (f : D → Option Int → Option Int → Option (Bool × D)) (o : Opd) (lo hi : Option Opd) : M (Bool × D) := match o with
  | .nm i => (peekAt i).bind fun _ => (oM lo).bind fun l => (oM hi).bind fun h => (peekAt i).bind fun d => M.lift (f d l h)
  | .ex m => m.bind fun p => (oM lo).bind fun l => (oM hi).bind fun h => M.lift (f p.2 l h)
def SlSpec (K : PySem.W.Frag) (mg : Str → Option Value) (r : V → Option Int → Option Int → Hp → VK → Prop) (f : D → Option Int → Option Int → Option (Bool × D)) : Prop :=
  ∀ (Z : Zs) (H : Hp) (v : V) (d : D) (lo hi : Option Int) (fr : Bool) (d' : D) (Q : VK), (∀ a, Z a → H a ≠ none) → Peek K mg Z H d v → f d lo hi = some (fr, d') →
    (∀ v H', (∀ b o, H b = some o → H' b = some o) → Res K mg Z H H' fr d' v → Q v H') → r v lo hi H Q
section
variable {K : PySem.W.Frag} {mg : Str → Option Value} {W : WX} {Z Z' : Zs} {Z₀ : Zp} {H H' : Hp} {st st' : DSt} {σ σ' : L2.St} {d : D} {v : V} {t : Bool}
theorem oM_sound {lo : Option Opd} {Q : Option Int → Hp → Prop} (h : ∃ Z₀ st, Sim K mg Z₀ st σ H ∧ (oM lo st).post (fun i st' => ∀ H', Grow st σ H st' σ H' → Sim K mg Z₀ st' σ H' → Q i H') (XEnd K mg W Z₀ st σ H)) : toT K mg W lo σ H Q := by
  obtain ⟨Z₀, st, S, h⟩ := h
  cases lo with
  | none => exact h H Grow.refl S
  | some o =>
    rw [oM, post_bind] at h
    exact intM_sound ⟨Z₀, st, S, h.mono (fun i st1 h H1 g S1 => ⟨i, rfl, h H1 g S1⟩) fun _ _ _ h => h⟩
theorem sl_sound {r : V → Option Int → Option Int → Hp → VK → Prop} {f : D → Option Int → Option Int → Option (Bool × D)} (B : SlSpec K mg r f) {o : Opd} {lo hi : Option Opd} {Q : VK} (h : tD K mg W (mSl f o lo hi) σ H Q) :
    tSl r (opdT K mg W o) (toT K mg W lo) (toT K mg W hi) σ H Q := by
  obtain ⟨Z₀, st, S, h⟩ := h
  cases o with
  | nm i =>
    rw [mSl, post_bind, post_peek] at h
    obtain ⟨b, d, e, h⟩ := h
    obtain ⟨v, hv, _, _⟩ := S.val i b d e
    refine ⟨v, hv, ?_⟩
    rw [post_bind] at h
    refine oM_sound ⟨Z₀, st, S, h.mono (fun l st1 h H1 g1 S1 => ?_) fun _ _ _ h => h⟩
    rw [post_bind] at h
    refine oM_sound ⟨Z₀, st1, S1, h.mono (fun u st2 h H2 g2 S2 => ?_) fun _ _ _ h => XEnd.from h g1⟩
    rw [post_bind, post_peek] at h
    obtain ⟨b', d', e', h⟩ := h
    rw [post_lift] at h
    obtain ⟨⟨fr, d2⟩, ef, h⟩ := h
    obtain ⟨v', hv', r', _⟩ := S2.val i b' d' e'
    rw [hv] at hv'
    cases hv'
    have pk : Peek K mg (ZZ Z₀ st2 σ) H2 d' v := by
      cases b' with
      | true => exact r'
      | false => exact r'.down
    exact B _ H2 v d' l u fr d2 Q S2.zdom pk ef fun w H3 k rr => h w H3 ((g1.trans g2).trans (Grow.ext k)) ((rr.fin S2 k).back (g1.trans g2).dom)
  | ex m =>
    rw [mSl, post_bind] at h
    refine ⟨Z₀, st, S, h.mono (fun p st0 h v H0 g0 r0 => ?_) fun _ _ _ h => h⟩
    rw [post_bind] at h
    refine oM_sound ⟨Z₀, st0, r0.sim, h.mono (fun l st1 h H1 g1 S1 => ?_) fun _ _ _ h => XEnd.from h g0⟩
    rw [post_bind] at h
    refine oM_sound ⟨Z₀, st1, S1, h.mono (fun u st2 h H2 g2 S2 => ?_) fun _ _ _ h => XEnd.from h (g0.trans g1)⟩
    rw [post_lift] at h
    obtain ⟨⟨fr, d2⟩, ef, h⟩ := h
    have gg := (g0.trans g1).trans g2
    exact B _ H2 v p.2 l u fr d2 Q S2.zdom ((g1.trans g2).rep r0.rep).down ef fun w H3 k rr => h w H3 (gg.trans (Grow.ext k)) ((rr.fin S2 k).back gg.dom)
/-- the items of a cut -/
def cutL {α : Type} (xs : List α) (lo hi : Option Int) : List α := (xs.drop (HT.sIx xs.length 0 lo)).take (HT.sIx xs.length xs.length hi - HT.sIx xs.length 0 lo)
def dCut : D → Option Int → Option Int → Option (Bool × D)
  | .lst ds, lo, hi => nw (.lst (cutL ds lo hi))
  | .rol ds, lo, hi => nw (.lst (cutL ds lo hi))
  | .tup nd ds, lo, hi => if HT.sIx ds.length 0 lo = 0 ∧ HT.sIx ds.length ds.length hi = ds.length then fl (.tup nd ds) else fl (.tup false (cutL ds lo hi))
  | .str x, lo, hi => if x.length ≤ sizeLine then fl (.str (cutS x lo hi)) else none
  | _, _, _ => none
theorem RepL.cut {ds : List D} {xs : List V} (r : RepL K mg Z H ds xs) (lo hi : Option Int) : RepL K mg Z H (cutL ds lo hi) (cutV xs lo hi) := by
  unfold cutL cutV
  rw [r.length]
  exact (r.drop _).take _
def rSlAll (K : PySem.W.Frag) : V → Option Int → Option Int → Hp → VK → Prop := fun x lo hi H Q => (rSlL K x lo hi H Q ∨ rSlA K x lo hi H Q) ∨ rSlS x lo hi H Q
theorem sl_all {X : Cx} : SlR X (rSlAll X.K) := SlR.or (SlR.or sl_list sl_tupA) sl_str
theorem s_cut : SlSpec K mg (rSlAll K) dCut := fun Z H v d lo hi fr d' Q dom pk e k => by
  cases d <;> simp only [dCut, reduceCtorEq] at e
  · rename_i x
    split at e
    · rename_i hz
      rw [show v = .str x from pk_str pk]
      exact .inr ⟨x, rfl, hz, fin0 e (.str _) k⟩
    · cases e
  · obtain ⟨a, xs, rfl, q, r⟩ := pk_tup pk
    obtain ⟨_, _, ea, _, nz, _⟩ := pk_tup' pk
    cases ea
    refine .inl (.inr ⟨a, xs, rfl, q, fun hw => ?_, fun hw p hp => ?_⟩)
    · rw [← r.length] at hw
      rw [if_pos hw] at e
      exact fin0 e (RepP.up pk fun b eb => by cases eb; exact nz) k
    · rw [← r.length] at hw
      rw [if_neg hw] at e
      exact finT e (res_tup dom hp (r.cut lo hi)) (ext_new hp) k
  · obtain ⟨a, xs, rfl, q, r⟩ := pk_lst pk
    exact .inl (.inl ⟨a, xs, rfl, SqL.of q, fun p hp => finL e (res_lst dom hp (r.cut lo hi)) (ext_new hp) k⟩)
  · obtain ⟨a, xs, rfl, q, r⟩ := pk_rol pk
    exact .inl (.inl ⟨a, xs, rfl, q, fun p hp => finL e (res_lst dom hp (r.cut lo hi)) (ext_new hp) k⟩)
end
section
variable {X : Cx} {W : WX} {a b e : Expr} {o o1 o2 : Opd} {lo hi : Option Expr} {tl tu : Option Opd} {pos p2 : Pos}
def Pp (X : Cx) (W : WX) (e : Option Expr) (o : Option Opd) : Prop := PO X e (toT X.K X.mg W o)
theorem Pp.none : Pp X W none none := po_none
theorem Pp.some (h : Po X W e o) : Pp X W (some e) (some o) := po_some h
theorem Pe.slice (h : Po X W e o) (hl : Pp X W lo tl) (hu : Pp X W hi tu) : Pe X W (.Subscript e (.Slice lo hi none p2) pos) (mSl dCut o tl tu) :=
  pe_imp (pe_slice sl_all h hl hu) fun σ H Q h => sl_sound s_cut h
end

/-! ### built-ins by values -/
section
variable {K : PySem.W.Frag} {mg : Str → Option Value} {Z : Zs} {H : Hp} {v : V} {d : D} {t : Bool}
def dLen : List D → Option (Bool × D)
  | [.str x] => if x.length ≤ sizeLine then fl (.int x.length) else none
  | [.lst ds] => fl (.int ds.length)
  | [.rol ds] => fl (.int ds.length)
  | [.tup _ ds] => fl (.int ds.length)
  | [.dic kvs] => fl (.int kvs.length)
  | [.dct kvs] => fl (.int kvs.length)
  | _ => none
def rLenAll (K : PySem.W.Frag) : List V → Hp → VK → Prop := fun xs H Q => (∃ x n, xs = [x] ∧ LenV K x H n ∧ Q (.int n) H) ∨ (∃ a kvs, xs = [V.ref a] ∧ H a = some (.dK kvs) ∧ Q (.int kvs.length) H) ∨ rLenT xs H Q
theorem CallR.or {X : Cx} {f : Value} {r r' : List V → Hp → VK → Prop} (h : CallR X f r) (h' : CallR X f r') : CallR X f (fun xs H Q => r xs H Q ∨ r' xs H Q) := fun pins s σ H xs us Q I rv q => q.elim (h pins s σ H xs us Q I rv) (h' pins s σ H xs us Q I rv)
theorem c_len {X : Cx} : CallR X (.builtin "len") (rLenAll X.K) := CallR.or call_len (CallR.or call_lenD call_len_dT)
theorem RepK.length : ∀ {ds : List (D × D)} {ks : List (Key × V)}, RepK K mg Z H ds ks → ds.length = ks.length
  | _, _, .nil => rfl
  | _, _, .cons _ t => by rw [List.length_cons, List.length_cons, RepK.length t]
theorem RepT.length : ∀ {ds : List (D × D)} {ks : List (List Key × V)}, RepT K mg Z H ds ks → ds.length = ks.length
  | _, _, .nil => rfl
  | _, _, .cons _ t => by rw [List.length_cons, List.length_cons, RepT.length t]
theorem b_len : BSpec K mg (rLenAll K) dLen := fun Z H vs ds fr d Q dom pl e k => by
  match ds, pl, e with
  | [.str x], pl, e =>
    obtain ⟨v, rfl, h1⟩ := pl1 pl
    have e' : (if x.length ≤ sizeLine then fl (.int x.length) else none) = some (fr, d) := e
    split at e'
    · rename_i hz
      rw [pk_str h1]
      exact .inl ⟨_, _, rfl, ⟨hz, rfl⟩, fin0 e' (.int _) k⟩
    · cases e'
  | [.lst ds], pl, e =>
    obtain ⟨v, rfl, h1⟩ := pl1 pl
    obtain ⟨a, xs, rfl, q, r⟩ := pk_lst h1
    exact .inl ⟨_, ds.length, rfl, .inl ⟨xs, SqL.of q, r.length⟩, fin0 e (.int _) k⟩
  | [.rol ds], pl, e =>
    obtain ⟨v, rfl, h1⟩ := pl1 pl
    obtain ⟨a, xs, rfl, q, r⟩ := pk_rol h1
    exact .inl ⟨_, ds.length, rfl, .inl ⟨xs, q, r.length⟩, fin0 e (.int _) k⟩
  | [.tup _ ds], pl, e =>
    obtain ⟨v, rfl, h1⟩ := pl1 pl
    obtain ⟨a, xs, rfl, q, r⟩ := pk_tup h1
    exact .inl ⟨_, ds.length, rfl, .inr ⟨xs, q, r.length⟩, fin0 e (.int _) k⟩
  | [.dic kvs], pl, e =>
    obtain ⟨v, rfl, h1⟩ := pl1 pl
    cases h1 with
    | dicK h nz r => exact .inr (.inl ⟨_, _, rfl, h, fin0 (by rw [← r.length]; exact e) (.int _) k⟩)
  | [.dct kvs], pl, e =>
    obtain ⟨v, rfl, h1⟩ := pl1 pl
    cases h1 with
    | dicT h nz r => exact .inr (.inr ⟨_, _, rfl, h, fin0 (by rw [← r.length]; exact e) (.int _) k⟩)
def dAbs : List D → Option (Bool × D)
  | [.int i] => fl (.int (if i < 0 then -i else i))
  | _ => none
theorem b_abs : BSpec K mg (fun xs H Q => ∃ i, xs = [.int i] ∧ Q (.int (if i < 0 then -i else i)) H) dAbs := fun Z H vs ds fr d Q dom pl e k => by
  match ds, pl, e with
  | [.int i], pl, e =>
    obtain ⟨v, rfl, h1⟩ := pl1 pl
    rw [pk_int h1]
    exact ⟨i, rfl, fin0 e (.int _) k⟩
def dInt : List D → Option (Bool × D)
  | [.int i] => fl (.int i)
  | [.bl b] => fl (.int (if b then 1 else 0))
  | _ => none
theorem b_int : BSpec K mg (fun xs H Q => (∃ i, xs = [.int i] ∧ Q (.int i) H) ∨ ∃ k, xs = [.bl k] ∧ Q (.int (if k then 1 else 0)) H) dInt := fun Z H vs ds fr d Q dom pl e k => by
  match ds, pl, e with
  | [.int i], pl, e =>
    obtain ⟨v, rfl, h1⟩ := pl1 pl
    rw [pk_int h1]
    exact .inl ⟨i, rfl, fin0 e (.int _) k⟩
  | [.bl i], pl, e =>
    obtain ⟨v, rfl, h1⟩ := pl1 pl
    rw [pk_bl h1]
    exact .inr ⟨i, rfl, fin0 e (.int _) k⟩
/-! isinstance of the built-in types -/
def tyD : D → Option String
  | .non => some "NoneType"
  | .bl _ => some "bool"
  | .int _ => some "int"
  | .str _ => some "str"
  | .lst _ => some "list"
  | .rol _ => some "list"
  | .tup _ _ => some "tuple"
  | .dic _ => some "dict"
  | .dct _ => some "dict"
  | _ => none
def dIsi : List D → Option (Bool × D)
  | [d, .ty T] => match d, T with
    | .non, "int" => fl (.bl false) | .non, "bool" => fl (.bl false) | .non, "tuple" => fl (.bl false) | .non, "list" => fl (.bl false) | .non, "str" => fl (.bl false) | .non, "dict" => fl (.bl false)
    | .bl _, "int" => fl (.bl true) | .bl _, "bool" => fl (.bl true) | .bl _, "tuple" => fl (.bl false) | .bl _, "list" => fl (.bl false) | .bl _, "str" => fl (.bl false) | .bl _, "dict" => fl (.bl false)
    | .int _, "int" => fl (.bl true) | .int _, "bool" => fl (.bl false) | .int _, "tuple" => fl (.bl false) | .int _, "list" => fl (.bl false) | .int _, "str" => fl (.bl false) | .int _, "dict" => fl (.bl false)
    | .str _, "int" => fl (.bl false) | .str _, "bool" => fl (.bl false) | .str _, "tuple" => fl (.bl false) | .str _, "list" => fl (.bl false) | .str _, "str" => fl (.bl true) | .str _, "dict" => fl (.bl false)
    | .lst _, "int" => fl (.bl false) | .lst _, "bool" => fl (.bl false) | .lst _, "tuple" => fl (.bl false) | .lst _, "list" => fl (.bl true) | .lst _, "str" => fl (.bl false) | .lst _, "dict" => fl (.bl false)
    | .rol _, "int" => fl (.bl false) | .rol _, "bool" => fl (.bl false) | .rol _, "tuple" => fl (.bl false) | .rol _, "list" => fl (.bl true) | .rol _, "str" => fl (.bl false) | .rol _, "dict" => fl (.bl false)
    | .tup _ _, "int" => fl (.bl false) | .tup _ _, "bool" => fl (.bl false) | .tup _ _, "tuple" => fl (.bl true) | .tup _ _, "list" => fl (.bl false) | .tup _ _, "str" => fl (.bl false) | .tup _ _, "dict" => fl (.bl false)
    | .dic _, "int" => fl (.bl false) | .dic _, "bool" => fl (.bl false) | .dic _, "tuple" => fl (.bl false) | .dic _, "list" => fl (.bl false) | .dic _, "str" => fl (.bl false) | .dic _, "dict" => fl (.bl true)
    | .dct _, "int" => fl (.bl false) | .dct _, "bool" => fl (.bl false) | .dct _, "tuple" => fl (.bl false) | .dct _, "list" => fl (.bl false) | .dct _, "str" => fl (.bl false) | .dct _, "dict" => fl (.bl true)
    | _, _ => none
  | _ => none
theorem dIsi_kit {d1 : D} {T : String} {fr : Bool} {d : D} (e : dIsi [d1, .ty T] = some (fr, d)) : ∃ n b, tyD d1 = some n ∧ kitB n T = some b ∧ fl (.bl b) = some (fr, d) := by
  unfold dIsi at e
  simp only at e
  split at e <;> first | exact ⟨_, _, rfl, by decide +kernel, e⟩ | cases e
theorem tyx_of {n : String} (r : RepP K mg Z H t d v) (e : tyD d = some n) : TyX K H v (.type n) := by
  cases r <;> cases e
  · exact .base .non
  · exact .base (.bl _)
  · exact .base (.int _)
  · exact .base (.str _)
  · rename_i h _ _
    rcases h.rd with h | ⟨o, h⟩
    · exact .base (.tup h)
    · exact .fTuple h
  · exact .base (.lst ‹_›)
  · rename_i h _
    rcases h with ⟨h | ⟨o, h⟩, _⟩ | ⟨o, _, _, h, c, _⟩
    · exact .base (.lst h)
    · exact .base (.frz h)
    · exact .kList h c
  · exact .base (.dK ‹_›)
  · exact .base (.dT ‹_›)
theorem b_isi : BSpec K mg (rIsi K) dIsi := fun Z H vs ds fr d Q dom pl e k => by
  match ds, pl, e with
  | [d1, .ty T], pl, e =>
    obtain ⟨x, y, rfl, h1, h2⟩ := pl2 pl
    obtain ⟨n, b, e1, e2, e3⟩ := dIsi_kit e
    rw [pk_ty h2]
    exact ⟨x, _, _, _, b, rfl, .ty T, tyx_of h1 e1, kit_ty e2, fin0 e3 (.bl b) k⟩
/-! sum, any, all, max, min -/
def blsOf : List D → Option (List Bool)
  | [] => some []
  | .bl b :: r => (blsOf r).map (b :: ·)
  | _ :: _ => none
theorem RepL.bls : ∀ {ds : List D} {xs : List V} {ns : List Bool}, RepL K mg Z H ds xs → blsOf ds = some ns → xs = ns.map V.bl
  | [], _, _, .nil, e => by cases e; rfl
  | .bl i :: r, _, _, .cons h t, e => by
    obtain ⟨ns, e1, rfl⟩ := Option.map_eq_some_iff.mp e
    rw [pk_bl h, RepL.bls t e1]
    rfl
/-- a list that is read -/
def listOf : D → Option (List D)
  | .lst ds => some ds
  | .rol ds => some ds
  | _ => none
theorem pk_list {ds : List D} (h : RepP K mg Z H t d v) (e : listOf d = some ds) : ∃ a xs, v = .ref a ∧ SqL K H a xs ∧ RepL K mg Z H ds xs := by
  cases d <;> cases e
  · obtain ⟨a, xs, rfl, q, r⟩ := pk_lst h; exact ⟨a, xs, rfl, SqL.of q, r⟩
  · exact pk_rol h
def dAny : List D → Option (Bool × D)
  | [d] => (listOf d).bind fun ds => (blsOf ds).bind fun bs => fl (.bl (bs.any id))
  | _ => none
def dAll : List D → Option (Bool × D)
  | [d] => (listOf d).bind fun ds => (blsOf ds).bind fun bs => fl (.bl (bs.all id))
  | _ => none
theorem b_all : BSpec K mg (rAll K) dAll := fun Z H vs ds fr d Q dom pl e k => by
  match ds, pl, e with
  | [d1], pl, e =>
    obtain ⟨x, rfl, h1⟩ := pl1 pl
    obtain ⟨es, e1, e⟩ := Option.bind_eq_some_iff.mp e
    obtain ⟨bs, e2, e⟩ := Option.bind_eq_some_iff.mp e
    obtain ⟨a, xs, rfl, q, r⟩ := pk_list h1 e1
    rw [r.bls e2] at q
    exact ⟨a, bs, rfl, q, fin0 e (.bl _) k⟩
/-- a list or tuple that is read -/
def seqOf : D → Option (List D)
  | .lst ds => some ds
  | .rol ds => some ds
  | .tup _ ds => some ds
  | _ => none
theorem pk_seq {ds : List D} (h : RepP K mg Z H t d v) (e : seqOf d = some ds) : ∃ a xs, v = .ref a ∧ (SqL K H a xs ∨ SqT K H a xs) ∧ RepL K mg Z H ds xs := by
  cases d <;> cases e
  · obtain ⟨a, xs, rfl, q, r⟩ := pk_tup h; exact ⟨a, xs, rfl, .inr q, r⟩
  · obtain ⟨a, xs, rfl, q, r⟩ := pk_lst h; exact ⟨a, xs, rfl, .inl (SqL.of q), r⟩
  · obtain ⟨a, xs, rfl, q, r⟩ := pk_rol h; exact ⟨a, xs, rfl, .inl q, r⟩
/-! list(x), tuple(x) -/
def dList : List D → Option (Bool × D)
  | [d] => (seqOf d).bind fun ds => nw (.lst ds)
  | _ => none
theorem b_list : BSpec K mg (fun xs H Q => ∃ p ys, xs = [.ref p] ∧ (SqL K H p ys ∨ SqT K H p ys) ∧ ∀ l, H l = none → Q (.ref l) (upd H l (.lst ys))) dList := fun Z H vs ds fr d Q dom pl e k => by
  match ds, pl, e with
  | [d1], pl, e =>
    obtain ⟨x, rfl, h1⟩ := pl1 pl
    obtain ⟨es, e1, e⟩ := Option.bind_eq_some_iff.mp e
    obtain ⟨a, xs, rfl, q, r⟩ := pk_seq h1 e1
    exact ⟨a, xs, rfl, q, fun p hp => finL e (res_lst dom hp r) (ext_new hp) k⟩
end
end PL
set_option Elab.async false
set_option linter.all false
set_option maxRecDepth 100000
set_option maxHeartbeats 4000000
set_option autoImplicit false
/-! PL11: changes of a list that a name alone holds; parallel assignment; walks; comprehensions. -/
namespace PL
open PySem PySem.Spec PyProof.Rows L2

/-! ### o.m(e, ..) of an owned name -/
def ownKind : Bool → D → Bool
  | false, .lst _ => true
  | true, .dic _ => true
  | true, .dct _ => true
  | _, _ => false
def kindT (k : Bool) : String := if k then "dict" else "list"
def mMut (kd : Bool) (i : Nat) (ms : List (M (Bool × D))) (f : D → List D → Option (D × D)) : M (Bool × D) := (ownAtS i).bind fun d0 => if ownKind kd d0 = true then (runExs ms).bind fun ds => (ownAtS i).bind fun d => match f d ds with
  | some (d', r) => fun st => .ok (false, r) (st.set i (some (true, d')))
  | none => M.stop else M.stop
def MSpec (K : PySem.W.Frag) (mg : Str → Option Value) (r : V → List V → Hp → VK → Prop) (f : D → List D → Option (D × D)) : Prop :=
  ∀ (Z : Zs) (H : Hp) (a : Addr) (d : D) (ds : List D) (vs : List V) (d' res : D) (Q : VK), (∀ a, Z a → H a ≠ none) → Z a → RepP K mg Z H false d (.ref a) → RepL K mg Z H ds vs → f d ds = some (d', res) →
    (∀ v o, isMut d' = true → (∀ H', Keeps Z Z H H' → H' a = some o → RepP K mg Z H' false d' (.ref a) ∧ Rep K mg Z H' res v) → Q v (upd H a o)) → r (.ref a) vs H Q
section
variable {K : PySem.W.Frag} {mg : Str → Option Value} {W : WX} {Z Z' : Zs} {Z₀ : Zp} {H H' : Hp} {st st' : DSt} {σ σ' : L2.St} {d : D} {v : V} {i : Nat}
theorem keeps_upd {a : Addr} {o : HO} (ha : Z a) : Keeps Z Z H (upd H a o) := fun b u nz e _ => ⟨by rw [upd_ne (fun z : b = a => nz (z ▸ ha))]; exact e, nz⟩
theorem ownKind_ty {kd : Bool} {t : Bool} (r : RepP K mg Z H t d v) (e : ownKind kd d = true) : tyV K (kindT kd) v H := by
  cases kd <;> cases r <;> first | cases e | skip
  · exact .inl ⟨rfl, _, SqL.of ‹_›⟩
  · exact .inr (.inr (.inl ⟨rfl, .inl ⟨_, ‹_›⟩⟩))
  · exact .inr (.inr (.inl ⟨rfl, .inr ⟨_, ‹_›⟩⟩))
theorem mut_sound {kd : Bool} {r : V → List V → Hp → VK → Prop} {f : D → List D → Option (D × D)} {ms : List (M (Bool × D))} (B : MSpec K mg r f)
    {Q : VK} (h : tD K mg W (mMut kd i ms f) σ H Q) : tBM K (kindT kd) r (tVar i) (exT K mg W ms) σ H Q := by
  obtain ⟨Z₀, st, S, h⟩ := h
  rw [mMut, post_bind, post_own] at h
  obtain ⟨d0, e0, h⟩ := h
  obtain ⟨v0, hv, r0, m0⟩ := S.val i true d0 e0
  by_cases hk : ownKind kd d0 = true
  case neg => rw [if_neg hk] at h; exact h.elim
  rw [if_pos hk] at h
  refine ⟨v0, hv, ownKind_ty r0 hk, exs_sound ms σ H _ ⟨Z₀, st, S, ?_⟩⟩
  rw [post_bind] at h
  refine h.mono (fun ds st1 h vs H1 g1 S1 rl => ?_) fun _ _ _ h => h
  rw [post_bind, post_own] at h
  obtain ⟨d, hi, h⟩ := h
  obtain ⟨v1, hv1, r1, m1⟩ := S1.val i true d hi
  rw [hv] at hv1
  cases hv1
  obtain ⟨a, o, rfl, ha⟩ := r1.mut_ref (m1 rfl)
  cases ef : f d ds with
  | none => rw [ef] at h; exact h.elim
  | some p =>
    obtain ⟨d', res⟩ := p
    rw [ef] at h
    have own : OwnAt st1 σ a := ⟨i, d, hi, hv⟩
    refine B (ZZ Z₀ st1 σ) H1 a d ds vs d' res Q S1.zdom (.inr own) r1 rl ef fun v o m hr => ?_
    obtain ⟨q1, q2⟩ := hr (upd H1 a o) (keeps_upd (.inr own)) upd_same
    obtain ⟨S2, g2⟩ := Sim.poke (Z₁ := Z₀) (H' := upd H1 a o) S1 hi hv (fun b u n e => by rw [upd_ne n]; exact e) (by rw [upd_same]; simp) (fun b z => .inl z) rfl m q1
    exact h v _ (g1.trans g2) (.old S2 (q2.mono (Keeps.sub fun b z => z.imp id (own_poke hi b).mp)))
end
/-! the list's methods -/
def mfAppend : D → List D → Option (D × D)
  | .lst ds, [d] => if ds.length < sizeLine then some (.lst (ds ++ [d]), .non) else none
  | _, _ => none
def mfSet : D → List D → Option (D × D)
  | .lst ds, [.int i, d] => (ixN ds.length i).bind fun k => some (.lst (ds.set k d), .non)
  | _, _ => none
section
variable {K : PySem.W.Frag} {mg : Str → Option Value} {Z : Zs} {H : Hp}
theorem RepL.erase : ∀ {ds : List D} {vs : List V} (k : Nat), RepL K mg Z H ds vs → RepL K mg Z H (ds.eraseIdx k) (vs.eraseIdx k)
  | _, _, _, .nil => .nil
  | _, _, 0, .cons _ t => t
  | _, _, k + 1, .cons h t => .cons h (RepL.erase k t)
theorem pk_own {ds : List D} {a : Addr} {t : Bool} (h : RepP K mg Z H t (.lst ds) (.ref a)) : ∃ xs, H a = some (.lst xs) ∧ RepL K mg Z H ds xs := by
  obtain ⟨b, xs, e, q, r⟩ := pk_lst h
  cases e
  exact ⟨xs, q, r⟩
theorem rep_own {ds : List D} {xs : List V} {a : Addr} {H' : Hp} (k : Keeps Z Z H H') (e : H' a = some (.lst xs)) (r : RepL K mg Z H ds xs) : RepP K mg Z H' false (.lst ds) (.ref a) := .lst e (fun e => by cases e) (r.mono k)
theorem ms_append : MSpec K mg rAppend mfAppend := fun Z H a d ds vs d' res Q dom za h rl e k => by
  unfold mfAppend at e
  split at e
  · rename_i es d1
    split at e
    · rename_i hz
      cases e
      obtain ⟨xs, q, r⟩ := pk_own h
      cases rl with
      | cons hd t =>
        cases t
        exact ⟨a, xs, _, rfl, rfl, q, by rw [← r.length]; exact hz, k _ _ rfl fun H' kk e' => ⟨rep_own kk e' (r.append (.cons hd .nil)), .non⟩⟩
    · cases e
  · cases e
end
section
variable {X : Cx} {W : WX} {e o : Expr} {es : List Expr} {i : Nat} {x : Str} {ms : List (M (Bool × D))} {pos p apos cpos : Pos} {name : Str} {T id : String} {r : V → List V → Hp → VK → Prop} {f : D → List D → Option (D × D)}
theorem Pe.mut {kd : Bool} {q : Pos} (pa : PlainAttrs (kindT kd)) (slot : Slot (kindT kd) name id) (hty : typeOf (.builtin id) = pure (.type "method_descriptor")) (hm : MtR X id r) (B : MSpec X.K X.mg r f)
    (h0 : Po X W (.Name x q) (.nm i)) (ha : Pxs X W (e :: es) ms)
    (hbase : attributeBase (.Name x q) name X.env (eval (.Name x q) X.env) = eval (.Name x q) X.env := by rfl)
    (hfew : ((backTo cpos (starEach (e :: es) X.env)).all (fun x => !x.1) && (backToKw cpos (keywordEach [] X.env)).all (fun x => x.1.isSome)
      && decide ((e :: es).length + ([] : List Keyword).length + (if ([] : List Keyword).isEmpty then 0 else 1) < 30)) = true := by rfl)
    (hline : (apos.endLine == cpos.line) = true := by rfl) (hs : starEach (e :: es) X.env = (false, eval e X.env) :: starEach es X.env := by rfl) (hplain : (backTo cpos (starEach es X.env)).any (·.1) = false := by rfl) :
    Pe X W (.Call (.Attribute (.Name x q) name apos) (e :: es) [] cpos) (mMut kd i ms f) :=
  pe_imp (pe_bm pa slot hty hm h0 ha hbase hfew hline hs hplain) fun σ H Q h => mut_sound B h
end

/-! ### name[i] = e, the name alone holds the list -/
def stS (m : M Unit) : MS := fun st => match m st with
  | .ok _ st' => .next st'
  | .exc c fs st' => .exc c fs st'
  | .stuck => .stuck
def mStore (i : Nat) (m : M (Bool × D)) (o2 : Opd) (f : D → List D → Option (D × D)) : M Unit := m.bind fun p => (ownAtS i).bind fun _ => (peekO o2).bind fun k => (ownAtS i).bind fun d => match f d [k, p.2] with
  | some (d', _) => fun st => .ok () (st.set i (some (true, d')))
  | none => M.stop
theorem post_stS {m : M Unit} {st : DSt} {P : PEnds} : (stS m st).post P ↔ (m st).post (fun _ st' => P.nx st') P.ex := by
  unfold stS
  cases m st <;> exact Iff.rfl
def SSpec (K : PySem.W.Frag) (mg : Str → Option Value) (t : TSet) (f : D → List D → Option (D × D)) : Prop :=
  ∀ (Z : Zs) (H : Hp) (a : Addr) (d : D) (k x : V) (dk dx d' res : D) (Q : Hp → Prop), (∀ a, Z a → H a ≠ none) → Z a → RepP K mg Z H false d (.ref a) → Peek K mg Z H dk k → Rep K mg Z H dx x → f d [dk, dx] = some (d', res) →
    (∀ o, isMut d' = true → (∀ H', Keeps Z Z H H' → H' a = some o → RepP K mg Z H' false d' (.ref a)) → Q (upd H a o)) → t (.ref a) k x H Q
section
variable {K : PySem.W.Frag} {mg : Str → Option Value} {W : WX} {Z Z' : Zs} {Z₀ : Zp} {H H' : Hp} {st st' : DSt} {σ σ' : L2.St} {d : D} {v : V} {i : Nat}
theorem ss_list : SSpec K mg rSetL mfSet := fun Z H a d k x dk dx d' res Q dom za h hk hx e kk => by
  unfold mfSet at e
  split at e
  · rename_i es j d1 e2
    cases e2
    obtain ⟨n, e1, e⟩ := Option.bind_eq_some_iff.mp e
    cases e
    obtain ⟨xs, q, r⟩ := pk_own h
    rw [pk_int hk]
    exact ⟨a, xs, _, n, rfl, rfl, q, by rw [← r.length]; exact e1, kk _ rfl fun H' k2 e' => rep_own k2 e' (r.set n hx)⟩
  · cases e
theorem peekO_sound {o : Opd} {Q : VK} (h : ∃ Z₀ st, Sim K mg Z₀ st σ H ∧ (peekO o st).post (fun d st' => ∀ v H', Grow st σ H st' σ H' → Sim K mg Z₀ st' σ H' → Peek K mg (ZZ Z₀ st' σ) H' d v → Q v H') (XEnd K mg W Z₀ st σ H)) : opdT K mg W o σ H Q := by
  obtain ⟨Z₀, st, S, h⟩ := h
  cases o with
  | nm i =>
    rw [peekO, post_peek] at h
    obtain ⟨b, d, e, h⟩ := h
    obtain ⟨v, hv, r, _⟩ := S.val i b d e
    refine ⟨v, hv, h v H Grow.refl S ?_⟩
    cases b with
    | true => exact r
    | false => exact r.down
  | ex m =>
    rw [peekO, post_bind] at h
    exact ⟨Z₀, st, S, h.mono (fun p st1 h v H1 g f => h v H1 g f.sim f.rep.down) fun _ _ _ h => h⟩
theorem store_sound {m : M (Bool × D)} {o2 : Opd} {t : TSet} {f : D → List D → Option (D × D)} (B : SSpec K mg t f) {D : Ends} {io : Bool} (h : tDs K mg W io (stS (mStore i m o2 f)) D σ H) :
    tAsg (tD K mg W m) (gSub (tVar i) (opdT K mg W o2) t) D σ H := by
  obtain ⟨Z₀, st, S0, S, h⟩ := h
  rw [post_stS, mStore, post_bind] at h
  refine ⟨Z₀, st, S, h.mono (fun p st1 h x H1 g1 f1 => ?_) fun c fs st' h C dx H' g S' r m => h C dx σ H' g S' r m⟩
  rw [post_bind, post_own] at h
  obtain ⟨d0, e0, h⟩ := h
  have S1 := f1.sim
  obtain ⟨v0, hv, r0, m0⟩ := S1.val i true d0 e0
  refine ⟨v0, hv, ?_⟩
  rw [post_bind] at h
  refine peekO_sound ⟨Z₀, st1, S1, h.mono (fun k st2 h y H2 g2 S2 pk => ?_) fun c fs st' h C dx H' g S' r m => h C dx σ H' (g1.trans g) S' r m⟩
  rw [post_bind, post_own] at h
  obtain ⟨d, hi, h⟩ := h
  obtain ⟨v1, hv1, r1, m1⟩ := S2.val i true d hi
  rw [hv] at hv1
  cases hv1
  obtain ⟨a, o, rfl, ha⟩ := r1.mut_ref (m1 rfl)
  cases ef : f d [k, p.2] with
  | none => rw [ef] at h; exact h.elim
  | some q =>
    obtain ⟨d', res⟩ := q
    rw [ef] at h
    have own : OwnAt st2 σ a := ⟨i, d, hi, hv⟩
    refine B (ZZ Z₀ st2 σ) H2 a d y x k p.2 d' res _ S2.zdom (.inr own) r1 pk (g2.rep f1.rep) ef fun o m hr => ?_
    have q1 := hr (upd H2 a o) (keeps_upd (.inr own)) upd_same
    obtain ⟨S3, g3⟩ := Sim.poke (Z₁ := Z₀) (H' := upd H2 a o) S2 hi hv (fun b u n e => by rw [upd_ne n]; exact e) (by rw [upd_same]; simp) (fun b z => .inl z) rfl m q1
    exact h σ _ ((g1.trans g2).trans g3) S3
end
section
variable {X : Cx} {W : WX} {io : Bool} {e oi : Expr} {i : Nat} {x : Str} {m : M (Bool × D)} {o2 : Opd} {pos p2 q : Pos} {t : TSet} {f : D → List D → Option (D × D)}
theorem Ps.store (hset : PSet X t) (B : SSpec X.K X.mg t f) (he : Pe X W e m) (h0 : Po X W (.Name x q) (.nm i)) (hi : Po X W oi o2)
    (ha : ∀ v, assign (.Subscript (.Name x q) oi p2) X.env v = (do
      let ov ← holding [v] (eval (.Name x q) X.env)
      let iv ← holding [v, ov] (eval oi X.env)
      standAt p2
      holding [v, ov, iv] (setItem ov iv v)
      release [v, ov, iv] []) := by intro _; rfl)
    (hs : swapsWithSole [.Subscript (.Name x q) oi p2] e pos.line X.env = pure false := by rfl) (hw : swappedStores [.Subscript (.Name x q) oi p2] e X.env = pure none := by rfl)
    (h1 : (assignEach [.Subscript (.Name x q) oi p2] X.env).map (·.2) = [assign (.Subscript (.Name x q) oi p2) X.env] := by rfl) : Ps X W io (.Assign [.Subscript (.Name x q) oi p2] e pos) (stS (mStore i m o2 f)) :=
  ps_imp (ps_asg he (pg_sub h0 hi hset ha) hs hw h1) fun D σ H h => store_sound B h
end

/-! ### a, b = x, y -/
def parS (i j : Nat) (m1 m2 : M (Bool × D)) : MS := withS m1 fun f1 d1 => withS m2 fun f2 d2 => fun st => if i < st.length ∧ j < st.length then .next ((st.set i (some (f1, d1))).set j (some (f2, d2))) else .stuck
section
variable {K : PySem.W.Frag} {mg : Str → Option Value} {W : WX} {Z Z' : Zs} {Z₀ : Zp} {H H' H1 H2 H0 : Hp} {st st' st1 st2 : DSt} {σ σ' : L2.St} {d : D} {v : V} {i j : Nat} {fr : Bool}
/-- what others hold in the meantime -/
def Zp.addIf (Z : Zp) (fr : Bool) (v : V) : Zp := if fr = true then (match v with | .ref a => Z.add a | _ => Z) else Z
theorem Fin.held (h : Fin K mg Z₀ st σ H0 H fr d v) : Sim K mg (Z₀.addIf fr v) st σ H := by
  unfold Fin at h
  unfold Zp.addIf
  split at h
  · rename_i hf
    rw [if_pos hf]
    obtain ⟨a, rfl, _, _, _, S, _⟩ := h
    exact S
  · rename_i hf
    rw [if_neg hf]
    exact h.1
theorem addIf_sub {fr : Bool} {v : V} {a : Addr} (h : Z₀.z a) : (Z₀.addIf fr v).z a := by
  unfold Zp.addIf
  split
  · split <;> first | exact .inl h | exact h
  · exact h
theorem addIf_pin {fr : Bool} {v : V} : (Z₀.addIf fr v).pin = Z₀.pin := by
  unfold Zp.addIf
  split
  · split <;> rfl
  · rfl
/-- .. still so, behind more -/
theorem Fin.later (h : Fin K mg Z₀ st σ H0 H fr d v) (g : Grow st σ H st' σ' H') (S' : Sim K mg (Z₀.addIf fr v) st' σ' H') : Fin K mg Z₀ st' σ' H0 H' fr d v := by
  unfold Fin at h ⊢
  unfold Zp.addIf at S'
  split at h
  · rename_i hf
    rw [if_pos hf] at S' ⊢
    obtain ⟨a, rfl, hn, nz, m, S, r⟩ := h
    have S' : Sim K mg (Z₀.add a) st' σ' H' := S'
    have na : ¬ OwnAt st σ a := fun z => S.apart a z (.inr rfl)
    refine ⟨a, rfl, hn, fun z => ?_, m, S', RepP.top (g.keeps (Z₀ := Z₀.add a)) r fun b o e q => ?_⟩
    · rcases z with z | z
      · exact nz (.inl z)
      · exact S'.apart a z (.inr rfl)
    · cases e
      exact g.keep a o q na
  · rename_i hf
    rw [if_neg hf] at S' ⊢
    exact ⟨S', g.rep h.2⟩
theorem XEnd.held {c : Str} {fs : List (Str × D)} (x : XEnd K mg W Z₀ st σ H c fs st') (fr : Bool) (v : V) : XEnd K mg W (Z₀.addIf fr v) st σ H c fs st' :=
  fun C dx H'' g' S r m => x C dx H'' g' (S.sub (fun a z => addIf_sub z) addIf_pin.symm) (r.later (Keeps.sub fun b z => z.imp (fun z => addIf_sub z) id)) m
theorem par_sound {m1 m2 : M (Bool × D)} {D : Ends} {io : Bool} (hij : i ≠ j) (hio : io = false ∨ (i ≠ 0 ∧ j ≠ 0)) (h : tDs K mg W io (parS i j m1 m2) D σ H) : tPar i j (exT K mg W [m1, m2]) D σ H := by
  obtain ⟨Z₀, st, hp, S, h⟩ := h
  rw [parS, post_with] at h
  refine ⟨Z₀, st, S, h.mono (fun p st1 h v H1 g1 f1 => ?_) fun c fs st' h C dx H' g S' r m => h C dx σ H' g S' r m⟩
  rw [post_with] at h
  refine ⟨Z₀.addIf p.1 v, st1, f1.held, h.mono (fun q st2 h w H2 g2 f2 => ?_) fun c fs st' h => XEnd.held (Z₀ := Z₀) (fun C dx H' g S' r m => h C dx σ H' (g1.trans g) S' r m) _ _⟩
  refine ⟨v, w, rfl, ?_⟩
  split at h
  case isFalse => exact h.elim
  rename_i hl
  have pj : (Z₀.addIf p.1 v).pin = none ∨ j ≠ 0 := by rw [addIf_pin]; exact pin_of hp (hio.imp id fun q => q.2)
  have pi' : Z₀.pin = none ∨ i ≠ 0 := pin_of hp (hio.imp id fun q => q.1)
  obtain ⟨g3, S3⟩ := set_step g2 f2 hl.2 pj
  have f1' := f1.later g3 S3
  have g13 : Grow st σ H (List.set st2 j (some (q.1, q.2))) (List.set σ j (some w)) H2 := g1.trans g3
  obtain ⟨S4, own⟩ := Sim.set (i := i) f1' (show i < (List.set st2 j (some (q.1, q.2))).length from (List.length_set (as := st2) (i := j) (a := some (q.1, q.2))) ▸ hl.1) pi'
  have g4 := Grow.mk (st := st) (σ := σ) (H := H) g13.keep (fun a z => (own a z).elim (g13.own a) .inr) g13.dom
  have e1 : (List.set st2 j (some (q.1, q.2))).set i (some (p.1, p.2)) = (List.set st2 i (some (p.1, p.2))).set j (some (q.1, q.2)) := List.set_comm _ _ (Ne.symm hij)
  have e2 : (List.set σ j (some w)).set i (some v) = (List.set σ i (some v)).set j (some w) := List.set_comm _ _ (Ne.symm hij)
  rw [e1, e2] at g4 S4
  exact h _ _ g4 S4
end
section
variable {X : Cx} {W : WX} {io : Bool} {a b : Expr} {i j : Nat} {x y : Str} {m1 m2 : M (Bool × D)} {px py pt pos : Pos} {kt k2 : Nat} {pt2 : Pos}
theorem Ps.par (hc : X.calm = true) (hN : X.N.Nodup) (hi : X.N[i]? = some x) (hj : X.N[j]? = some y) (hij : i ≠ j)
    (hx : X.env.scope.names.lookup x = some .local) (hy : X.env.scope.names.lookup y = some .local) (h1 : Pe X W a m1) (h2 : Pe X W b m2) (hio : io = false ∨ (i ≠ 0 ∧ j ≠ 0))
    (hw : swappedStores [.Tuple [.Name x px, .Name y py] kt pt] (.Tuple [a, b] k2 pt2) X.env = pure (some [x, y]))
    (hs : swapsWithSole [.Tuple [.Name x px, .Name y py] kt pt] (.Tuple [a, b] k2 pt2) pos.line X.env = pure false := by rfl)
    (e1 : starEach [a, b] X.env = (false, eval a X.env) :: starEach [b] X.env := by rfl) (e2 : starEach [b] X.env = (false, eval b X.env) :: starEach [] X.env := by rfl) :
    Ps X W io (.Assign [.Tuple [.Name x px, .Name y py] kt pt] (.Tuple [a, b] k2 pt2) pos) (parS i j m1 m2) :=
  ps_imp (ps_par hc hN hi hj hij hx hy (pa_cons h1 (pa_cons h2 pa_nil e2) e1) hw hs) fun D σ H h => par_sound hij hio h
end

/-! ### walks: range, enumerate, zip -/
def mRange1 (o : Opd) : M (List D) := (intM o).bind fun j => if -(2 ^ 62) ≤ j ∧ j < 2 ^ 62 then M.pure (rangeD 0 1 j.toNat) else M.stop
def mRange2 (o1 o2 : Opd) : M (List D) := (intM o1).bind fun i => (intM o2).bind fun j => if (-(2 ^ 62) ≤ i ∧ i < 2 ^ 62) ∧ -(2 ^ 62) ≤ j ∧ j < 2 ^ 62 then M.pure (rangeD i 1 (j - i).toNat) else M.stop
def enumOf : D → Option (List D)
  | .lst ds => some (enumD 0 ds)
  | .tup _ ds => some (enumD 0 ds)
  | _ => none
def mEnum (m : M (Bool × D)) : M (List D) := m.bind fun p => M.lift (enumOf p.2)
def zipOf : D → D → Option (List D)
  | .lst a, .lst b => some (zipD a b)
  | .tup _ a, .tup _ b => some (zipD a b)
  | _, _ => none
def mZip (m1 m2 : M (Bool × D)) : M (List D) := m1.bind fun p => m2.bind fun q => M.lift (zipOf p.2 q.2)
section
variable {X : Cx} {W : WX} {tg a b e e2 : Expr} {o o1 o2 : Opd} {m m1 m2 : M (Bool × D)} {p pos tpos : Pos} {elts : List Expr} {kk : Nat}
theorem Pi.range1 (hg : Gl X "range") (hm : X.mg "range" = none) (ha : Po X W a o) (hs : starEach [a] X.env = [(false, eval a X.env)] := by rfl) : Pi X W tg (.Call (.Name "range" p) [a] [] pos) (mRange1 o) :=
  pi_imp (pi_range1 hg hm (pa_cons ha pa_nil hs) hs) fun σ H R ⟨Z₀, st, S, h⟩ => by
    rw [mRange1, post_bind] at h
    refine intM_sound ⟨Z₀, st, S, h.mono (fun j st1 h H1 g S1 => ?_) fun _ _ _ h => h⟩
    split at h
    case isFalse => exact h.elim
    rename_i hb
    exact ⟨j, rfl, hb.1, hb.2, h _ H1 g S1 wok_range⟩
theorem Pi.range2 (hg : Gl X "range") (hm : X.mg "range" = none) (ha : Po X W a o1) (hb : Po X W b o2) (hs : starEach [a, b] X.env = [(false, eval a X.env), (false, eval b X.env)] := by rfl) (hs2 : starEach [b] X.env = [(false, eval b X.env)] := by rfl) : Pi X W tg (.Call (.Name "range" p) [a, b] [] pos) (mRange2 o1 o2) :=
  pi_imp (pi_range2 hg hm (pa_cons ha (pa_cons hb pa_nil hs2) (by rw [hs, hs2])) hs hs2) fun σ H R ⟨Z₀, st, S, h⟩ => by
    rw [mRange2, post_bind] at h
    refine intM_sound ⟨Z₀, st, S, h.mono (fun i st1 h H1 g S1 => ?_) fun _ _ _ h => h⟩
    rw [post_bind] at h
    refine intM_sound ⟨Z₀, st1, S1, h.mono (fun j st2 h H2 g2 S2 => ?_) fun _ _ _ h => XEnd.from h g⟩
    split at h
    case isFalse => exact h.elim
    rename_i hb
    exact ⟨i, j, rfl, ⟨hb.1.1, hb.1.2, hb.2.1, hb.2.2⟩, h _ H2 (g.trans g2) S2 wok_range⟩
theorem Pi.zip (hg : Gl X "zip") (hm : X.mg "zip" = none) (ha : Pe X W e m1) (hb : Pe X W e2 m2) (hs : starEach [e, e2] X.env = (false, eval e X.env) :: starEach [e2] X.env := by rfl) (hpl : (backTo pos (starEach [e2] X.env)).any (·.1) = false := by rfl)
    (hs2 : starEach [e2] X.env = (false, eval e2 X.env) :: starEach [] X.env := by rfl) : Pi X W (.Tuple elts kk tpos) (.Call (.Name "zip" p) [e, e2] [] pos) (mZip m1 m2) :=
  pi_imp (RZ.pi_zipA hg hm (pa_cons ha (pa_cons hb pa_nil hs2) hs) hs hpl) fun σ H R ⟨Z₀, st, S, h⟩ => by
    rw [mZip, post_bind] at h
    refine ⟨Z₀, st, S, h.mono (fun q1 st1 h v H1 g1 f1 => ?_) fun _ _ _ h => h⟩
    rw [post_bind] at h
    refine ⟨Z₀, st1, f1.sim, h.mono (fun q2 st2 h w H2 g2 f2 => ?_) fun _ _ _ h => XEnd.from h g1⟩
    rw [post_lift] at h
    obtain ⟨ds, e1, hk⟩ := h
    have r1 := g2.rep f1.rep
    have r2 := f2.rep
    obtain ⟨_, d1⟩ := q1
    obtain ⟨_, d2⟩ := q2
    unfold zipOf at e1
    split at e1
    · rename_i ed1 ed2
      cases e1
      subst ed1 ed2
      cases r1 with
      | lst ha nz rl =>
        cases r2 with
        | lst ha2 nz2 rl2 => exact ⟨_, _, _, _, rfl, .inl ⟨SqL.of ha, SqL.of ha2, hk _ H2 (g1.trans g2) f2.sim (wok_zip ha (nz rfl) rl ha2 (nz2 rfl) rl2)⟩⟩
    · rename_i ed1 ed2
      cases e1
      subst ed1 ed2
      cases r1 with
      | tup ha n1 rl =>
        cases r2 with
        | tup ha2 n2 rl2 => exact ⟨_, _, _, _, rfl, .inr ⟨TupS.sq ⟨⟨ha.rd, n1⟩, rl⟩, TupS.sq ⟨⟨ha2.rd, n2⟩, rl2⟩, hk _ H2 (g1.trans g2) f2.sim (wok_zipT ⟨⟨ha.rd, n1⟩, rl⟩ ⟨⟨ha2.rd, n2⟩, rl2⟩)⟩⟩
    · cases e1
end
end PL
set_option Elab.async false
set_option linter.all false
set_option maxRecDepth 100000
set_option maxHeartbeats 4000000
set_option autoImplicit false
/-! PL12: comprehensions: the rules. -/
namespace PL
open PySem PySem.Spec PyProof.Rows L2

/-! ### dicts whose keys are ints or texts -/
def keyOf : D → Option Key
  | .int i => some (.inl i)
  | .str x => some (.inr x)
  | _ => none
def isKey (k : Key) (d : D) : Bool := match k, d with
  | .inl i, .int j => decide (j = i)
  | .inr x, .str y => decide (y = x)
  | _, _ => false
def dput (kvs : List (D × D)) (k : Key) (v : D) : List (D × D) :=
  if (kvs.any fun kv => isKey k kv.1) = true then kvs.map (fun kv => if isKey k kv.1 = true then (kv.1, v) else kv) else kvs ++ [(keyD k, v)]
section
variable {K : PySem.W.Frag} {mg : Str → Option Value} {W : WX} {Z Z' : Zs} {Z₀ Z₁ : Zp} {H H' H0 H1 H2 : Hp} {st st' st0 : DSt} {σ σ' : L2.St} {d : D} {v : V} {vs : List Nat}
theorem keyOf_eq {d : D} {k : Key} (e : keyOf d = some k) : d = keyD k := by
  cases d <;> cases e <;> rfl
theorem isKey_key {k k' : Key} : isKey k (keyD k') = decide (k' = k) := by
  cases k <;> cases k' <;> simp [isKey, keyD]
theorem key_rep {k : Key} {t : Bool} (r : RepP K mg Z H t (keyD k) v) : v = kV k := by
  cases k with
  | inl i => exact pk_int r
  | inr x => exact pk_str r
theorem RepK.any : ∀ {ds : List (D × D)} {ks : List (Key × V)} (k : Key), RepK K mg Z H ds ks → (ds.any fun kv => isKey k kv.1) = ks.any fun kv => decide (kv.1 = k)
  | _, _, _, .nil => rfl
  | _, _, k, .cons h t => by rw [List.any_cons, List.any_cons, RepK.any k t, isKey_key]
theorem RepK.put1 : ∀ {ds : List (D × D)} {ks : List (Key × V)} (k : Key), Rep K mg Z H d v → RepK K mg Z H ds ks → RepK K mg Z H (ds.map fun kv => if isKey k kv.1 = true then (kv.1, d) else kv) (ks.map fun kv => if kv.1 = k then (kv.1, v) else kv)
  | _, _, _, _, .nil => .nil
  | _, _, k, hd, .cons (k := k') h t => by
    rw [List.map_cons, List.map_cons, isKey_key]
    by_cases e : k' = k
    · simp only [e, decide_true, if_true]
      exact .cons hd (RepK.put1 k hd t)
    · simp only [e, decide_false, Bool.false_eq_true, if_false]
      exact .cons h (RepK.put1 k hd t)
theorem RepK.snoc {k : Key} (hd : Rep K mg Z H d v) : ∀ {ds : List (D × D)} {ks : List (Key × V)}, RepK K mg Z H ds ks → RepK K mg Z H (ds ++ [(keyD k, d)]) (ks ++ [(k, v)])
  | _, _, .nil => .cons hd .nil
  | _, _, .cons h t => .cons h (RepK.snoc hd t)
theorem RepK.put {ds : List (D × D)} {ks : List (Key × V)} (k : Key) (hd : Rep K mg Z H d v) (r : RepK K mg Z H ds ks) : RepK K mg Z H (dput ds k d) (putK ks k v) := by
  unfold dput putK
  rw [RepK.any k r]
  split
  · exact RepK.put1 k hd r
  · exact RepK.snoc hd r
end

/-! ### the rules -/
section
variable {X : Cx} {W : WX} {elt kx vx tg iter c : Expr} {scope : Scope} {own : List (Str × Nat)} {pos spos py : Pos} {mi : M (List D)} {t : Tg} {m mk mv : M (Bool × D)} {mt : M Bool} {io : Bool} {i : Nat} {y : Str}
theorem pts0 : PTs X [] (tDT X.K X.mg W0 (M.pure true)) := ⟨fun pins s σ H Q I h => pts_nil.run pins s σ H Q I (pureT_sound h)⟩
theorem sub_of {t : Tg} {own : List (Str × Nat)} (h : (t.slots.all fun i => (own.map (·.2)).contains i) = true) : ∀ i ∈ t.slots, i ∈ own.map (·.2) := fun i hi => by
  have := List.all_eq_true.mp h i hi
  simpa using this
theorem Pe.lc (hc : X.calm = true) (hN : X.N.Nodup) (hi : Pi X W tg iter mi) (ok : blkC X.N X.env.scope scope own = true) (hsub : (t.slots.all fun i => (own.map (·.2)).contains i) = true)
    (hg : ∀ (s : Shared) (H : Hp) (C : Addr) (cl : List (Str × Addr)) (fp : List Addr), Pg (X.blk s H scope (compEnvC scope cl C X.env) fp) tg t)
    (he : ∀ (s : Shared) (H : Hp) (C : Addr) (cl : List (Str × Addr)) (fp : List Addr), Pe (X.blk s H scope (compEnvC scope cl C X.env) fp) W0 elt m) (hs : ∀ x, foldedSetIterable iter X.env x = pure x := by intro _; rfl) :
    Pe X W (.ListComp elt [⟨tg, iter, [], 0⟩] scope pos) (mLc mi (own.map (·.2)) t (M.pure true) m) :=
  pe_imp (pe_lc hc hN hi (g := gD X.K X.mg t) (tt := tDT X.K X.mg W0 (M.pure true)) (te := tD X.K X.mg W0 m) (blkOk_by ok) hg (fun _ _ _ _ _ => pts0) he hs) fun σ H Q h => lc_sound (sub_of hsub) h
/-- y = [..] -/
theorem setOf {s : Stmt} {te : TE} (hp : PS X s (tAsg te (gName i))) (hm : ∀ σ H Q, tD X.K X.mg W m σ H Q → te σ H Q) (hio : io = false ∨ i ≠ 0) : Ps X W io s (setS i m) :=
  ps_imp hp fun D σ H h => hm σ H _ <| by
    obtain ⟨Z₀, st, S, h⟩ := with_sound h
    refine ⟨Z₀, st, S, h.mono (fun p st1 h v H1 g r => ?_) fun _ _ _ h => h⟩
    obtain ⟨Z₁, st0, st2, fr, d, hp, g2, r2, h2⟩ := h v H1 g r
    split at h2
    · rename_i hl
      obtain ⟨S3, own⟩ := Sim.set r2 hl (pin_of hp hio)
      exact h2 _ _ ⟨g2.keep, fun a z => (own a z).elim (g2.own a) .inr, g2.dom⟩ S3
    · exact h2.elim
theorem Ps.setLc (hc : X.calm = true) (hN : X.N.Nodup) (hy : X.N[i]? = some y) (hyl : X.env.scope.names.lookup y = some .local) (hsw : swapsWith (.ListComp elt [⟨tg, iter, [], 0⟩] scope pos) (some (.Name y py)) spos.line X.env = pure true) (hio : io = false ∨ i ≠ 0)
    (hi : Pi X W tg iter mi) (ok : blkC X.N X.env.scope scope own = true) (hsub : (t.slots.all fun i => (own.map (·.2)).contains i) = true)
    (hg : ∀ (s : Shared) (H : Hp) (C : Addr) (cl : List (Str × Addr)) (fp : List Addr), Pg (X.blk s H scope (compEnvC scope cl C X.env) fp) tg t)
    (he : ∀ (s : Shared) (H : Hp) (C : Addr) (cl : List (Str × Addr)) (fp : List Addr), Pe (X.blk s H scope (compEnvC scope cl C X.env) fp) W0 elt m) (hs : ∀ x, foldedSetIterable iter X.env x = pure x := by intro _; rfl) :
    Ps X W io (.Assign [.Name y py] (.ListComp elt [⟨tg, iter, [], 0⟩] scope pos) spos) (setS i (mLc mi (own.map (·.2)) t (M.pure true) m)) :=
  setOf (ps_setLc hc hN hy hyl hsw hi (g := gD X.K X.mg t) (tt := tDT X.K X.mg W0 (M.pure true)) (te := tD X.K X.mg W0 m) (blkOk_by ok) hg (fun _ _ _ _ _ => pts0) he hs) (fun σ H Q h => lc_sound (sub_of hsub) h) hio
theorem Ps.setLcIf (hc : X.calm = true) (hN : X.N.Nodup) (hy : X.N[i]? = some y) (hyl : X.env.scope.names.lookup y = some .local) (hsw : swapsWith (.ListComp elt [⟨tg, iter, [c], 0⟩] scope pos) (some (.Name y py)) spos.line X.env = pure true) (hio : io = false ∨ i ≠ 0)
    (hi : Pi X W tg iter mi) (ok : blkC X.N X.env.scope scope own = true) (hsub : (t.slots.all fun i => (own.map (·.2)).contains i) = true)
    (hg : ∀ (s : Shared) (H : Hp) (C : Addr) (cl : List (Str × Addr)) (fp : List Addr), Pg (X.blk s H scope (compEnvC scope cl C X.env) fp) tg t)
    (ht : ∀ (s : Shared) (H : Hp) (C : Addr) (cl : List (Str × Addr)) (fp : List Addr), Pt (X.blk s H scope (compEnvC scope cl C X.env) fp) W0 c mt)
    (he : ∀ (s : Shared) (H : Hp) (C : Addr) (cl : List (Str × Addr)) (fp : List Addr), Pe (X.blk s H scope (compEnvC scope cl C X.env) fp) W0 elt m) (hs : ∀ x, foldedSetIterable iter X.env x = pure x := by intro _; rfl) :
    Ps X W io (.Assign [.Name y py] (.ListComp elt [⟨tg, iter, [c], 0⟩] scope pos) spos) (setS i (mLc mi (own.map (·.2)) t mt m)) :=
  setOf (ps_setLc hc hN hy hyl hsw hi (g := gD X.K X.mg t) (tt := tDT X.K X.mg W0 mt) (te := tD X.K X.mg W0 m) (blkOk_by ok) hg (fun s H C cl fp => pts_one (ht s H C cl fp)) he hs) (fun σ H Q h => lc_sound (sub_of hsub) h) hio
end
end PL
set_option Elab.async false
set_option linter.all false
set_option maxRecDepth 100000
set_option maxHeartbeats 4000000
set_option autoImplicit false
/-! PL13: sums, most, least, sorted, places. -/
namespace PL
open PySem PySem.Spec PyProof.Rows L2

section
variable {X : Cx}
end

/-! ### t[::-1] -/
theorem rev_adjust (n : Nat) : Builtin.Slice.sliceAdjust none none (-1) (n : Int) = ((n : Int) - 1, -1) := by
  unfold Builtin.Slice.sliceAdjust
  simp
theorem rev_places (n : Nat) : Builtin.Slice.slicePlaces ((n : Int) - 1) (-1) (-1) = n := by
  unfold Builtin.Slice.slicePlaces
  simp
  try omega
theorem rev_pick (xs : Array Value) : ((List.range xs.size).filterMap fun (m : Nat) => xs[(((xs.size : Int) - 1) + (m : Int) * (-1)).toNat]?).toArray = xs.toList.reverse.toArray := by
  have e : (List.range xs.size).filterMap (fun (m : Nat) => xs[(((xs.size : Int) - 1) + (m : Int) * (-1)).toNat]?) = ((List.range xs.size).map fun k => xs.size - 1 - k).filterMap (xs[·]?) := by
    rw [List.filterMap_map]
    refine congrFun (congrArg _ (funext fun m => ?_)) _
    have : (((xs.size : Int) - 1) + (m : Int) * (-1)).toNat = xs.size - 1 - m := by omega
    show xs[_]? = xs[xs.size - 1 - m]?
    rw [this]
  rw [e, PySem.W.krv_range, List.filterMap_reverse, PySem.W.krv_all]
section
variable {prog : Program} {w : World} {A : Around} {E : Value → Shared → Prop} {s : Shared}
theorem rev_applied {sl : Addr} {t : Tok} {n : Nat} {Q : Int × Int × Nat → Shared → Prop} (hs : s.heap.IsSliceOf sl .none .none (.int (-1) t)) (h : Q ((n : Int) - 1, -1, n) s) : wpAny (model prog w) A (Builtin.Slice.sliceApplied (.ref sl) (pure (n : Int))) Q E s := by
  obtain ⟨os, hos, hcs, hds⟩ := id hs
  unfold Builtin.Slice.sliceApplied Builtin.Slice.sliceFields
  refine wpAny_bind (wpAny_bind (wpAny_field hos hds (x := .none) rfl (wpAny_bind (wpAny_field hos hds (x := .none) rfl (wpAny_bind (wpAny_field hos hds (x := .int (-1) t) rfl (wpAny_pure ?_)))))))
  refine wpAny_bind (HT.slicePart_ (.int (-1) t) ?_); show wpAny _ _ (if ((-1 : Int) == 0) = true then _ else _) _ _ s
  rw [if_neg (by decide)]
  refine wpAny_bind (HT.slicePart_ .none (wpAny_bind (HT.slicePart_ .none (wpAny_bind (wpAny_pure ?_)))))
  show wpAny _ _ (match Builtin.Slice.sliceAdjust none none (-1) (n : Int) with | (lo, hi) => pure (lo, (-1 : Int), Builtin.Slice.slicePlaces lo hi (-1))) _ _ s
  rw [rev_adjust n]
  show wpAny _ _ (pure ((n : Int) - 1, (-1 : Int), Builtin.Slice.slicePlaces ((n : Int) - 1) (-1) (-1))) _ _ s
  rw [rev_places]
  exact wpAny_pure h
theorem rev_getItem {a sl : Addr} {items : Array Value} {t : Tok} {Q : Value → Shared → Prop} (hT : IsTup s.heap a items) (hs : s.heap.IsSliceOf sl .none .none (.int (-1) t))
    (h : Q (.ref s.heap.objs.size) { s with heap := s.heap.push { cls := .type "tuple", data := .seq items.toList.reverse.toArray } }) (hz : items.size ≤ sizeLine) : wpAny (model prog w) A (getItem (.ref a) (.ref sl)) Q E s := by
  have htake : sizeOk (.seq items.toList.reverse.toArray) := by
    show items.toList.reverse.toArray.size ≤ sizeLine; rw [List.size_toArray, List.length_reverse, Array.length_toList]; exact hz
  obtain ⟨os, hos, hcs, hds⟩ := id hs
  have hTs : s.TypeIs (.ref sl) "slice" := ⟨os, hos, hcs⟩
  unfold getItem
  try with_reducible refine wpAny_holding ?_
  first | refine wpAny_bind (wpAny_pure ?_) | skip
  refine wpAny_bind (wpAny_sequenceKey hT.typeIs (by decide) ?_)
  refine wpAny_bind (wpAny_callSpecial?_slot (name := Str.ofString "__getitem__") hT.typeIs PyProof.Rows.slot_tuple_getitem (wpAny_call_entry PyProof.Rows.slot_tuple_getitem hT.typeIs entry_tuple_getitem ?_ (args_tuple_getitem _ _)))
  show wpAny _ _ (Builtin.Tuple.tupleItemsOf (.ref a) >>= _) _ _ s; refine wpAny_bind (tupleItemsOf_ hT ?_)
  refine wpAny_bind (wpAny_typeOf hTs ?_); rw [if_pos (by decide)]
  refine wpAny_bind (rev_applied hs ?_)
  have hno : ¬ ((((items.size : Nat) : Int) - 1 == 0 && (-1 : Int) == 1 && items.size == items.size) = true) := by
    rw [show ((-1 : Int) == 1) = false from rfl, Bool.and_false, Bool.false_and]; exact Bool.false_ne_true
  show wpAny _ _ (if (((items.size : Nat) : Int) - 1 == 0 && (-1 : Int) == 1 && items.size == items.size) = true then _ else _) _ _ s
  rw [if_neg hno, rev_pick]
  first
    | exact wpAny_bind (m := Builtin.Tuple.tupleExact _) (wpAny_newObj_type (wpAny_pure ⟨_, rfl, wpAny_pure h⟩) htake)
    | exact wpAny_bind (m := Builtin.Tuple.tupleExact _) (wpAny_newObj_type (wpAny_bind (wpAny_pure (wpAny_pure ⟨_, rfl, wpAny_pure h⟩))) htake)
    | exact wpAny_bind (wpAny_bind (m := Builtin.Tuple.tupleExact _) (wpAny_newObj_type (wpAny_pure (wpAny_pure ⟨_, rfl, wpAny_pure h⟩)) htake))
    | exact wpAny_bind (wpAny_bind (m := Builtin.Tuple.tupleExact _) (wpAny_newObj_type (wpAny_pure ⟨_, rfl, wpAny_pure h⟩) htake))
end
/-- a tuple that is new and has no dict -/
def tupObj (its : List Value) : Obj := { cls := .type "tuple", data := .seq its.toArray }
theorem tnew {X : Cx} {pins : List (Addr × Obj)} {σ : L2.St} {H : Hp} {s : Shared} {its : List Value} {xs : List V} {t' : Nat} (I : L2.Inv X pins σ H s) (hv : Vals xs its) (hz : xs.length ≤ sizeLine) :
    L2.Inv X pins σ (upd H s.heap.objs.size (.frz (tupObj its) (.tup xs))) { s with heap := s.heap.push (tupObj its), toks := t' } :=
  I.laid (fun _ _ q => Heap.get?_push_of_some _ q) (Nat.le_refl _) ⟨Heap.get?_push_size _ rfl, hz, its, hv, IsTup.new _ _⟩
end PL
set_option Elab.async false
set_option linter.all false
set_option maxRecDepth 100000
set_option maxHeartbeats 4000000
set_option autoImplicit false
/-! PL14: repr of data, compared. -/
namespace PL
open PySem PySem.Spec PyProof.Rows L2

/-! ### how long a text can be -/
mutual
def szPD : PyData → Nat
  | .none => 4
  | .bool _ => 5
  | .int _ => 2000
  | .str x => 10 * x.length + 2
  | .list xs => szPDs xs + 3
  | .tuple xs => szPDs xs + 3
  | .dict _ => 0
def szPDs : List PyData → Nat
  | [] => 0
  | x :: xs => szPD x + 2 + szPDs xs
end
mutual
def okPD : PyData → Bool
  | .none => true
  | .bool _ => true
  | .int i => decide (i.natAbs.log2 < 1920)
  | .str x => x.cps.toList.all fun c => decide (c < 16 ^ 8)
  | .list xs => okPDs xs
  | .tuple xs => okPDs xs
  | .dict _ => false
def okPDs : List PyData → Bool
  | [] => true
  | x :: xs => okPD x && okPDs xs
end
theorem textFrom_le : ∀ (ts : List Str) (k : Nat) (acc : Str), (textFrom k acc ts).length ≤ acc.length + piled ts
  | [], k, acc => by show acc.length ≤ _; omega
  | t :: r, k, acc => by
    have ih := textFrom_le r (k + 1) (acc ++ (if k > 0 then ", " else "" : String) ++ t)
    have e : (acc ++ (if k > 0 then ", " else "" : String) ++ t).length = acc.length + (if k > 0 then 2 else 0) + t.length := by rw [strLen_append, strLen_append]; split <;> rfl
    have e2 : (if k > 0 then 2 else 0 : Nat) ≤ 2 := by split <;> omega
    rw [piled_cons]
    show (textFrom (k + 1) (acc ++ (if k > 0 then ", " else "" : String) ++ t) r).length ≤ _
    omega
theorem listText_le (ts : List Str) : (listText ts).length ≤ piled ts + 2 := by
  unfold listText
  rw [strLen_append]
  have := textFrom_le ts 0 "["
  have e1 : (("[" : String) : Str).length = 1 := rfl
  have e2 : (("]" : String) : Str).length = 1 := rfl
  omega
theorem tupleText_le (ts : List Str) : (tupleText ts).length ≤ piled ts + 3 := by
  unfold tupleText
  rw [strLen_append, strLen_append]
  have e1 : (("(" : String) : Str).length = 1 := rfl
  have e3 : (((if ts.length == 1 then ",)" else ")" : String) : Str)).length ≤ 2 := by split <;> decide
  cases ts with
  | nil =>
    have : (Str.join ", " ([] : List Str)).length = 0 := rfl
    omega
  | cons t r =>
    have := join_length_add (t :: r) (by simp)
    omega
mutual
theorem shown_le : ∀ p : PyData, okPD p = true → p.shown.length ≤ szPD p ∧ p.showable = true ∧ p.hasDict = false
  | .none, _ => ⟨by simp only [PyData.shown, szPD]; decide, by simp [PyData.showable], by simp [PyData.hasDict]⟩
  | .bool b, _ => ⟨by simp only [PyData.shown, szPD]; cases b <;> decide, by simp [PyData.showable], by simp [PyData.hasDict]⟩
  | .int i, h => by
    have h : i.natAbs.log2 < 1920 := by simpa [okPD] using h
    refine ⟨?_, by simpa [PyData.showable] using h, by simp [PyData.hasDict]⟩
    simp only [PyData.shown, szPD]
    have e := int_text_length_le (k := 1920) (by decide) h
    show (Str.ofString (toString i)).length ≤ 2000
    rw [PySem.ofString_length]
    omega
  | .str x, h => by
    refine ⟨?_, by simp [PyData.showable], by simp [PyData.hasDict]⟩
    simp only [PyData.shown, szPD]
    refine PySem.StrLaws.reprText_len x fun c hc => ?_
    have h : (x.cps.toList.all fun c => decide (c < 16 ^ 8)) = true := by simpa only [okPD] using h
    exact of_decide_eq_true (List.all_eq_true.mp h c hc)
  | .list xs, h => by
    obtain ⟨h1, h2, h3⟩ := shownAll_le xs (by simpa only [okPD] using h)
    refine ⟨?_, by simpa only [PyData.showable] using h2, by simpa only [PyData.hasDict] using h3⟩
    simp only [PyData.shown, szPD]
    exact Nat.le_trans (listText_le _) (by omega)
  | .tuple xs, h => by
    obtain ⟨h1, h2, h3⟩ := shownAll_le xs (by simpa only [okPD] using h)
    refine ⟨?_, by simpa only [PyData.showable] using h2, by simpa only [PyData.hasDict] using h3⟩
    simp only [PyData.shown, szPD]
    exact Nat.le_trans (tupleText_le _) (by omega)
  | .dict _, h => by simp [okPD] at h
theorem shownAll_le : ∀ ps : List PyData, okPDs ps = true → piled (PyData.shownAll ps) ≤ szPDs ps ∧ PyData.showableAll ps = true ∧ PyData.hasDictAll ps = false
  | [], _ => ⟨by simp [PyData.shownAll, piled_nil], by simp [PyData.showableAll], by simp [PyData.hasDictAll]⟩
  | p :: ps, h => by
    have h : okPD p = true ∧ okPDs ps = true := by simpa only [okPDs, Bool.and_eq_true] using h
    obtain ⟨a1, a2, a3⟩ := shown_le p h.1
    obtain ⟨b1, b2, b3⟩ := shownAll_le ps h.2
    refine ⟨?_, by simp only [PyData.showableAll, a2, b2]; rfl, by simp only [PyData.hasDictAll, a3, b3]; rfl⟩
    simp only [PyData.shownAll, piled_cons, szPDs]
    omega
end
/-- its repr can be written -/
def reprOk (p : PyData) : Bool := okPD p && decide (szPD p ≤ 10000000) && decide (p.depth ≤ 58)
end PL
set_option Elab.async false
set_option linter.all false
set_option maxRecDepth 100000
set_option maxHeartbeats 4000000
set_option autoImplicit false
/-! PL15: repr compared; sum, max, min, sorted, in; tuple(..), list(range), t[::-1], t.index. -/
namespace PL
open PySem PySem.Spec PyProof.Rows L2

/-! ### the same data -/
mutual
def samePD : PyData → PyData → Bool
  | .none, .none => true
  | .bool a, .bool b => a == b
  | .int a, .int b => decide (a = b)
  | .str a, .str b => decide (a = b)
  | .list a, .list b => samePDs a b
  | .tuple a, .tuple b => samePDs a b
  | _, _ => false
def samePDs : List PyData → List PyData → Bool
  | [], [] => true
  | a :: as, b :: bs => samePD a b && samePDs as bs
  | _, _ => false
end
mutual
theorem samePD_eq : ∀ {a b : PyData}, samePD a b = true → a = b
  | .none, .none, _ => rfl
  | .bool a, .bool b, h => by rw [samePD] at h; rw [eq_of_beq h]
  | .int a, .int b, h => by rw [samePD] at h; rw [of_decide_eq_true h]
  | .str a, .str b, h => by rw [samePD] at h; rw [of_decide_eq_true h]
  | .list a, .list b, h => by rw [samePD] at h; rw [samePDs_eq h]
  | .tuple a, .tuple b, h => by rw [samePD] at h; rw [samePDs_eq h]
theorem samePDs_eq : ∀ {a b : List PyData}, samePDs a b = true → a = b
  | [], [], _ => rfl
  | a :: as, b :: bs, h => by
    rw [samePDs, Bool.and_eq_true] at h
    rw [samePD_eq h.1, samePDs_eq h.2]
end
/-- repr(a) != repr(b), the data being the same (else no answer) -/
def dRepr (d : D) : Option PyData := (toPD d).bind fun p => if reprOk p = true then some p else none
section
variable {K : PySem.W.Frag} {mg : Str → Option Value} {W : WX} {Z : Zs} {H : Hp} {σ : L2.St}
end
theorem ne_str {i : Str} {H : Hp} {Q : VK} (q : Q (.bl (!true)) H) : rNe (.str i) (.str i) H Q := by
  exact ⟨rfl, by simpa using q⟩
section
variable {X : Cx} {W : WX} {a b : Expr} {o1 o2 : Opd} {pos p1 p2 q1 q2 : Pos}
end

/-! ### sum, max, min -/
section
variable {K : PySem.W.Frag} {mg : Str → Option Value} {W : WX} {Z : Zs} {H : Hp} {σ : L2.St}
end
end PL
set_option Elab.async false
set_option linter.all false
set_option maxRecDepth 100000
set_option maxHeartbeats 4000000
set_option autoImplicit false
/-! PL16: sorted, in, tuple(..), ranges as lists, turned round, places. -/
namespace PL
open PySem PySem.Spec PyProof.Rows L2

/-! ### sorted(t) of a tuple of ints -/
section
variable {prog : Program} {w : World} {A : Around} {E : Value → Shared → Prop} {s : Shared}
end
section
variable {K : PySem.W.Frag} {mg : Str → Option Value} {Z : Zs} {H : Hp}
theorem rep_ints : ∀ ns : List Int, RepL K mg Z H (ns.map D.int) (ns.map V.int)
  | [] => .nil
  | n :: r => .cons (.int n) (rep_ints r)
/-! ### in -/
def flatD : D → Bool
  | .non => true | .bl _ => true | .int _ => true | .str _ => true
  | _ => false
def eqF : D → D → Bool
  | .non, .non => true
  | .bl a, .bl b => a == b
  | .bl a, .int b => (if a then 1 else 0) == b
  | .int a, .bl b => a == (if b then 1 else 0)
  | .int a, .int b => a == b
  | .str a, .str b => a == b
  | _, _ => false
def flatVD : D → V
  | .bl b => .bl b | .int i => .int i | .str x => .str x
  | _ => .non
theorem flat_rep {d : D} {v : V} {t : Bool} (r : RepP K mg Z H t d v) (f : flatD d = true) : v = flatVD d := by
  cases r <;> first | rfl | cases f
theorem flat_reps : ∀ {ds : List D} {vs : List V}, RepL K mg Z H ds vs → ds.all flatD = true → vs = ds.map flatVD
  | _, _, .nil, _ => rfl
  | _, _, .cons h t, f => by
    rw [List.all_cons, Bool.and_eq_true] at f
    rw [List.map_cons, flat_rep h f.1, flat_reps t f.2]
theorem flatV_of {d : D} (f : flatD d = true) : flatV (flatVD d) = true := by cases d <;> first | rfl | cases f
theorem eqF_eq {a b : D} (f : flatD a = true) (g : flatD b = true) : eqV (flatVD a) (flatVD b) = eqF a b := by
  cases a <;> cases b <;> first | rfl | (cases f; done) | (cases g; done)
theorem inV_eq {x : D} (f : flatD x = true) : ∀ {ds : List D}, ds.all flatD = true → inV (flatVD x) (ds.map flatVD) = ds.any fun y => eqF y x
  | [], _ => rfl
  | d :: r, g => by
    rw [List.all_cons, Bool.and_eq_true] at g
    have ih := inV_eq f g.2
    unfold inV at ih ⊢
    rw [List.map_cons, List.any_cons, List.any_cons, ih, eqF_eq g.1 f]
theorem flats_all : ∀ {ds : List D}, ds.all flatD = true → (ds.map flatVD).all flatV = true
  | [], _ => rfl
  | d :: r, g => by
    rw [List.all_cons, Bool.and_eq_true] at g
    rw [List.map_cons, List.all_cons, flatV_of g.1, flats_all g.2]
    rfl
def dIn (neg : Bool) : List D → Option (Bool × D)
  | [x, d] => (seqOf d).bind fun ds => if flatD x = true ∧ ds.all flatD = true then fl (.bl (if neg then !(ds.any fun y => eqF y x) else ds.any fun y => eqF y x)) else none
  | _ => none
theorem b_in (neg : Bool) : BSpec K mg (r2L (rIn K neg)) (dIn neg) := fun Z H vs ds fr d Q dom pl e k => by
  match ds, pl, e with
  | [x, d1], pl, e =>
    obtain ⟨v, w, rfl, h1, h2⟩ := pl2 pl
    obtain ⟨es, e1, e⟩ := Option.bind_eq_some_iff.mp e
    split at e
    case isFalse => cases e
    rename_i hf
    obtain ⟨a, xs, rfl, q, r⟩ := pk_seq h2 e1
    rw [flat_rep h1 hf.1]
    rw [flat_reps r hf.2] at q
    refine ⟨a, _, rfl, q, flatV_of hf.1, flats_all hf.2, ?_⟩
    rw [inV_eq hf.1 hf.2]
    cases neg with
    | true => exact fin0 e (.bl _) k
    | false => exact fin0 e (.bl _) k
/-! ### tuple(x), the new one known to have no dict -/
theorem res_tupN {p : Addr} {o : Obj} {xs : List V} {ds : List D} (dom : ∀ a, Z a → H a ≠ none) (hp : H p = none) (hd : o.dict = none) (r : RepL K mg Z H ds xs) : Res K mg Z H (upd H p (.frz o (.tup xs))) false (.tup true ds) (.ref p) :=
  .old (.tup (nd := true) ⟨o, upd_same, hd⟩ (nz_new dom hp) (r.mono (keeps_new hp)))
def dTupN : List D → Option (Bool × D)
  | [.tup nd ds] => fl (.tup nd ds)
  | [d] => (listOf d).bind fun ds => fl (.tup true ds)
  | _ => none
end
end PL
set_option Elab.async false
set_option linter.all false
set_option maxRecDepth 100000
set_option maxHeartbeats 4000000
set_option autoImplicit false
/-! PL17: ranges as lists, turned round, places. -/
namespace PL
open PySem PySem.Spec PyProof.Rows L2

/-! ### list(range(..)), tuple(range(..)) -/
def mRg1 (o : Opd) : M (Int × Int) := (intM o).bind fun n => M.pure (0, n)
def mRg2 (o1 o2 : Opd) : M (Int × Int) := (intM o1).bind fun i => (intM o2).bind fun j => M.pure (i, j)
def rgD (a b : Int) : List D := (List.range (b - a).toNat).map fun i => D.int (a + (i : Nat))
def rgOk (a b : Int) : Bool := decide (-(2 ^ 62) ≤ a) && decide (a < 2 ^ 62) && decide (-(2 ^ 62) ≤ b) && decide (b < 2 ^ 62) && decide ((b - a).toNat ≤ 2 ^ 24)
def mLstRg (m : M (Int × Int)) : M (Bool × D) := m.bind fun p => if rgOk p.1 p.2 = true then M.pure (true, .lst (rgD p.1 p.2)) else M.stop
def mTupRg (m : M (Int × Int)) : M (Bool × D) := m.bind fun p => if rgOk p.1 p.2 = true then M.pure (false, .tup false (rgD p.1 p.2)) else M.stop
section
variable {K : PySem.W.Frag} {mg : Str → Option Value} {W : WX} {Z : Zs} {H : Hp} {σ : L2.St}
def tRg (K : PySem.W.Frag) (mg : Str → Option Value) (W : WX) (m : M (Int × Int)) : L2.St → Hp → (Int → Int → Hp → Prop) → Prop := fun σ H Q => ∃ Z₀ st, Sim K mg Z₀ st σ H ∧
  (m st).post (fun p st' => ∀ H', Grow st σ H st' σ H' → Sim K mg Z₀ st' σ H' → Q p.1 p.2 H') (XEnd K mg W Z₀ st σ H)
/-! turned round -/
def dRev : List D → Option (Bool × D)
  | [.tup _ ds] => fl (.tup true ds.reverse)
  | [.lst ds] => nw (.lst ds.reverse)
  | [.rol ds] => nw (.lst ds.reverse)
  | _ => none
def rRev (K : PySem.W.Frag) : List V → Hp → VK → Prop := fun vs H Q => ∃ a xs, vs = [.ref a] ∧ ((SqL K H a xs ∧ ∀ p, H p = none → Q (.ref p) (upd H p (.lst xs.reverse))) ∨ (SqT K H a xs ∧ ∀ p o, H p = none → o.dict = none → Q (.ref p) (upd H p (.frz o (.tup xs.reverse)))))
theorem b_rev : BSpec K mg (rRev K) dRev := fun Z H vs ds fr d Q dom pl e k => by
  unfold dRev at e
  split at e
  · obtain ⟨x, rfl, h1⟩ := pl1 pl
    obtain ⟨a, xs, rfl, q, r⟩ := pk_tup h1
    exact ⟨a, xs, rfl, .inr ⟨q, fun p o hp hd => finT e (res_tupN dom hp hd r.reverse) (ext_new hp) k⟩⟩
  · obtain ⟨x, rfl, h1⟩ := pl1 pl
    obtain ⟨a, xs, rfl, q, r⟩ := pk_lst h1
    exact ⟨a, xs, rfl, .inl ⟨SqL.of q, fun p hp => finL e (res_lst dom hp r.reverse) (ext_new hp) k⟩⟩
  · obtain ⟨x, rfl, h1⟩ := pl1 pl
    obtain ⟨a, xs, rfl, q, r⟩ := pk_rol h1
    exact ⟨a, xs, rfl, .inl ⟨q, fun p hp => finL e (res_lst dom hp r.reverse) (ext_new hp) k⟩⟩
  · cases e
/-! t.index(k) -/
def isTN : D → Bool
  | .tup true _ => true
  | _ => false
def r1M (r : V → List V → Hp → VK → Prop) : List V → Hp → VK → Prop := fun vs H Q => match vs with
  | x :: xs => r x xs H Q
  | [] => False
end
section
variable {X : Cx} {W : WX} {a b e : Expr} {es : List Expr} {o o1 o2 : Opd} {os : List Opd} {m : M (Int × Int)} {p pos p1 p2 p3 apos cpos : Pos} {k : Nat} {name : Str} {id : String} {r : V → List V → Hp → VK → Prop} {f : List D → Option (Bool × D)}
def Prg (X : Cx) (W : WX) (e : Expr) (m : M (Int × Int)) : Prop := PRg X e (tRg X.K X.mg W m)
theorem Prg.one (hg : Gl X "range") (hm : X.mg "range" = none) (ha : Po X W a o) (na : starEach [a] X.env = (false, eval a X.env) :: starEach [] X.env := by rfl) : Prg X W (.Call (.Name "range" p) [a] [] pos) (mRg1 o) :=
  fun pins s σ H Q I ⟨Z₀, st, S, h⟩ => prg_1 hg hm ha na pins s σ H Q I (by
    rw [mRg1, post_bind] at h
    exact intM_sound ⟨Z₀, st, S, h.mono (fun n st1 h H1 g S1 => ⟨n, rfl, h H1 g S1⟩) fun _ _ _ h => h⟩)
theorem Prg.two (hg : Gl X "range") (hm : X.mg "range" = none) (ha : Po X W a o1) (hb : Po X W b o2) (na : starEach [a, b] X.env = (false, eval a X.env) :: starEach [b] X.env := by rfl) (nb : starEach [b] X.env = (false, eval b X.env) :: starEach [] X.env := by rfl) (hp : (backTo pos (starEach [b] X.env)).any (·.1) = false := by rfl) :
    Prg X W (.Call (.Name "range" p) [a, b] [] pos) (mRg2 o1 o2) :=
  fun pins s σ H Q I ⟨Z₀, st, S, h⟩ => prg_2 hg hm ha hb na nb hp pins s σ H Q I (by
    rw [mRg2, post_bind] at h
    refine intM_sound ⟨Z₀, st, S, h.mono (fun n st1 h H1 g S1 => ?_) fun _ _ _ h => h⟩
    rw [post_bind] at h
    exact intM_sound ⟨Z₀, st1, S1, h.mono (fun j st2 h H2 g2 S2 => ⟨n, j, rfl, rfl, h H2 (g.trans g2) S2⟩) fun _ _ _ h => XEnd.from h g⟩)
theorem pe_revB {te : TE} (he : PE X e te) : PE X (.Subscript e (.Slice none none (some (.UnaryOp .USub (.Constant (.int 1) k p1) p2)) p3) pos) (fun σ H Q => te σ H fun x H1 => rRev X.K [x] H1 Q) := by
  refine ⟨fun pins s σ H Q I h => ?_⟩
  refine Subscript_ (thn (he.run pins s σ H _ I h) fun v s1 ⟨x, H1, I1, r1, q1⟩ => ?_)
  obtain ⟨a, xs, ex, q⟩ := q1
  cases ex
  cases r1
  have hst : PO X (some (.UnaryOp .USub (.Constant (.int 1) k p1) p2)) (tPart (tUn (rU fun i => .int (-i)) (tC (.int 1)))) := po_some (pe_un un_neg pe_int)
  refine wpAny_Slice (thn (po_none.run pins s1 σ H1 (fun o H2 => o = none ∧ H2 = H1) I1 ⟨rfl, rfl⟩) fun vl s2 ⟨l, H2, I2, pl, el, e2⟩ => ?_); subst el e2
  refine thn (po_none.run pins s2 σ H2 (fun o H3 => o = none ∧ H3 = H2) I2 ⟨rfl, rfl⟩) fun vu s3 ⟨u, H3, I3, pu, eu, e3⟩ => ?_; subst eu e3
  refine thn (hst.run pins s3 σ H3 (fun o H4 => o = some (-1) ∧ H4 = H3) I3 ⟨1, rfl, -1, rfl, rfl, rfl⟩) fun vs s4 ⟨o, H4, I4, ps, eo, e4⟩ => ?_; subst eo e4
  cases pl; cases pu
  obtain ⟨t, rfl⟩ : ∃ t : Tok, vs = Value.int (-1) t := by cases ps; exact ⟨_, rfl⟩
  have I5 : L2.Inv X pins σ H4 { s4 with heap := s4.heap.push { cls := .type "slice", data := .fields #[Value.none, Value.none, Value.int (-1) t] } } := I4.kept (t' := s4.toks) fun b ob q => Heap.get?_push_of_some _ q
  show wpAny (model X.prog X.w) X.A (subscriptTail e (.Slice none none (some (.UnaryOp .USub (.Constant (.int 1) k p1) p2)) p3) (.ref a) (.ref s4.heap.objs.size)) (EP X pins σ Q) X.xe { s4 with heap := s4.heap.push { cls := .type "slice", data := .fields #[Value.none, Value.none, Value.int (-1) t] } }
  rcases q with ⟨hx, q⟩ | ⟨hx, q⟩
  · obtain ⟨its, r, ht, hz⟩ := I5.list hx
    refine tail_any (ops := [.ref a, .ref s4.heap.objs.size]) ht.isList.typeIs (PySem.slot_list_getitem.lookup) ?_ (by with_unfolding_all rfl)
    refine wpAny_getItem_list_slice ht.isList (Heap.IsSliceOf.new _ .none .none (.int (-1) t)) .none .none (.int (-1) t) (by decide) ?_ (by rw [List.size_toArray, ← r.length]; exact hz)
    rw [PySem.W.krv_pick]
    refine ⟨.ref _, _, I5.laid (t' := s4.toks) (o := .lst xs.reverse) (fun b ob q => Heap.get?_push_of_some _ q) (Nat.le_refl _) ?_, rfl, q _ (I5.hok.fresh (Nat.le_refl _))⟩
    exact ⟨by rw [List.length_reverse]; exact hz, _, 0, r.reverse, Heap.get?_push_size _ rfl⟩
  · obtain ⟨its, r, ht, hz⟩ := I5.tuple hx
    refine tail_any (ops := [.ref a, .ref s4.heap.objs.size]) ht.typeIs (PyProof.Rows.slot_tuple_getitem.lookup) ?_ (by with_unfolding_all rfl)
    refine rev_getItem ht (Heap.IsSliceOf.new _ .none .none (.int (-1) t)) ?_ (by rw [List.size_toArray, ← r.length]; exact hz)
    exact ⟨.ref _, _, tnew (t' := s4.toks) I5 r.reverse (by rw [List.length_reverse]; exact hz), rfl, q _ _ (I5.hok.fresh (Nat.le_refl _)) rfl⟩
theorem Pe.rev (h : Po X W e o) : Pe X W (.Subscript e (.Slice none none (some (.UnaryOp .USub (.Constant (.int 1) k p1) p2)) p3) pos) (mOps [o] dRev) :=
  pe_imp (pe_revB h) fun σ H Q h => mOps_sound b_rev h
end
end PL
set_option Elab.async false
set_option linter.all false
set_option maxRecDepth 100000
set_option maxHeartbeats 4000000
set_option autoImplicit false
/-! PL18: a law's end. -/
namespace PL
open PySem PySem.Spec PyProof.Rows L2

/-- the law's defs make lambdas: their code objects and tables are as they should be -/
structure LamF (K : PySem.W.Frag) (mg : Str → Option Value) (base : Heap) : Prop where
  tb : ∀ p ∈ lamTabs K, LamX.TabB base mg p.1 p.2.1
  one : ∀ p ∈ tabsL K, ∀ q ∈ tabsL K, p.1 = q.1 → p.2 = q.2
/-- what the head says of them -/
structure TabH (K : PySem.W.Frag) (h : Heap) : Prop where
  empty : ∀ p ∈ lamTabs K, h.get? p.2.1 = some { cls := .none, data := .fields #[] }
  out : ∀ p ∈ lamTabs K, K.lookup p.2.1 = none
  hd : ∀ p ∈ lamTabs K, PySem.W.CodeHd h p.1 p.2.1
  one : ∀ p ∈ tabsL K, ∀ q ∈ tabsL K, p.1 = q.1 → p.2 = q.2
def tabAt (K : PySem.W.Frag) (b : Addr) : Prop := ∃ p ∈ lamTabs K, p.2.1 = b
theorem FOk.ofD {P : Program} {w : World} {K : PySem.W.Frag} {mg : Str → Option Value} {base : Heap} {x qual : Str} {sd : Stmt} {f : Addr} {fd : FuncData} {N ps : List Str} {k : Nat} {io : Bool} {mb : MS} (F : FunD K x qual (defArgs sd) (defBody sd) (defScope sd) [] [] f fd) (S : FnScope N ps (defScope sd))
    (hbody : ∀ (cdv : Value) (A : Around) (outer : List Env) (s : Shared) (H : Hp) (E : XK), Room k (A.deeper (envOfC qual (defScope sd) s.heap.objs.size f cdv)) → A.guards = some [] →
      Pss (cxOf (L2.CX P w) P w K mg base N qual (defScope sd) f cdv A outer s H E) (fun cls dx _ H' => E cls dx H') io (defBody sd) mb) :
    FOk P w K mg base (k + 1) f fd ps io (fden io ps.length N.length mb) := by
  obtain ⟨oc, od, dV, kV, doc, pm, an, cdv, ct, osl, e, lk, hcd, hD, hK⟩ := F.ex
  rcases hD with ⟨_, rfl⟩ | ⟨z, _⟩
  · exact FOk.of ⟨⟨oc, od, kV, doc, pm, an, cdv, ct, osl, e, lk, hcd⟩, F.kp⟩ S hbody
  · exact absurd rfl z

section
variable {P : Program} {w : World} {K : PySem.W.Frag} {mg mb : Str → Option Value} {k : Nat} {fa a : Addr} {fd : FuncData} {x : Str} {m : FDen} {s : Shared} {us : List Value} {ns : List Int}
/-- the law's call, at the heap behind the top -/
theorem law_callF (KX : K.In s.heap) (hns : s.heap.Ns mainGlobals mg) (hmb : s.heap.Ns builtinsNs mb) (hbb : ∀ x : Str, x ≠ "__name__" → mb x = bootBuiltins x) (hlim : s.heap.NoLimit) (hgen : s.gens = #[])
    (TH : TabH K s.heap) (hmain : ∃ (z : Addr) (oz : Obj), mg "__builtins__" = some (.ref z) ∧ z ≠ builtinsNs ∧ s.heap.get? z = some oz ∧ oz.cls = .type "module" ∧ oz.dict = some builtinsNs ∧ oz.data = .plain)
    (hobj : s.heap.get? a = some { cls := .type "list", data := .seq us.toArray }) (hint : IntsAre us ns) (hsz : ns.length ≤ sizeLine) (hroom : Room k callerA)
    (F : ∀ base : Heap, K.In base → base.Ns mainGlobals mg → LamF K mg base → FOk P w K mg base k fa fd [x] false m) (hbind : ∀ (s : Shared) (u : Value), BindsTo s fd ⟨[u], []⟩ [(x, u)])
    (hm : m [.rol (ns.map .int)] = .ok false (.bl true) none) :
    codeAny (model P w) callerA (.call (.ref fa) ⟨[.ref a], []⟩) (fun r s' => r = .ok (.ret (.bool true)) ∧ OldK s.heap s'.heap ∧ s'.os = s.os ∧ AllBare s'.gens) s := by
  have rvals := vals_ints hint
  have hlen := hint.length
  have tabE : ∀ b, tabAt K b → s.heap.get? b = some { cls := .none, data := .fields #[] } := fun b ⟨p, hp, e⟩ => e ▸ TH.empty p hp
  have aNot : ¬ tabAt K a := fun z => by
    have q := tabE a z
    rw [hobj] at q
    have bad : Data.seq us.toArray _ = Data.fields #[] := congrArg Obj.data (Option.some.inj q)
    cases bad
  have main : ∀ H : Hp, (∀ b, tabAt K b → H b = some (.tbl #[])) → (∀ b, H b = none ∨ tabAt K b ∨ ∃ o ys, H b = some (.frz o (.lst ys))) → SqL K H a (ns.map V.int) → HOk P w H s.heap → (∀ c, H c ≠ none → c = a ∨ tabAt K c) → (H a ≠ none → K.lookup a = none) →
      codeAny (model P w) callerA (.call (.ref fa) ⟨[.ref a], []⟩) (fun r s' => r = .ok (.ret (.bool true)) ∧ OldK s.heap s'.heap ∧ s'.os = s.os ∧ AllBare s'.gens) s := by
    intro H hTb only hS hheap hone hnoK
    have below : ∀ {c : Addr} {o : Obj}, s.heap.get? c = some o → H c = none → (hidT s.heap H).get? c = some o := fun e n => hidT_get e n
    have clear : ∀ {c : Addr} {o : Obj}, s.heap.get? c = some o → (∀ z n, o.data ≠ .seq z n) → o.data ≠ .fields #[] → H c = none := fun {c o} e n1 n2 => by
      cases hq : H c with
      | none => rfl
      | some u =>
        rcases hone c (by rw [hq]; simp) with ec | ec
        · subst ec; rw [hobj] at e; cases e
          exact absurd rfl (n1 _ _)
        · rw [tabE c ec] at e; cases e
          exact absurd rfl n2
    have noDict : ∀ {c : Addr} {o : Obj} {es : Array DictEntry} {ep : Nat}, s.heap.get? c = some o → o.data = .dict es ep → H c = none := fun {c o es ep} e hdict =>
      clear e (fun z n q => by rw [hdict] at q; cases q) fun q => by rw [hdict] at q; cases q
    have nsBelow : ∀ {c : Addr} {mm : Str → Option Value}, s.heap.Ns c mm → (hidT s.heap H).Ns c mm := fun {c mm} ⟨o, es, ep, e, hdict, hr⟩ => ⟨o, es, ep, below e (noDict e hdict), hdict, hr⟩
    have kBelow : K.In (hidT s.heap H) := fun c o e => below (KX c o e) (by
      cases hq : H c with
      | none => rfl
      | some u =>
        rcases hone c (by rw [hq]; simp) with ec | ⟨p, hp, ec⟩
        · subst ec; rw [hnoK (by rw [hq]; simp)] at e; cases e
        · subst ec; rw [TH.out p hp] at e; cases e)
    have hMod : Mod K mg (hidT s.heap H) := ⟨kBelow, nsBelow hns, ⟨mb, nsBelow hmb, hbb⟩, let ⟨mc, z1, z2⟩ := hlim; ⟨mc, nsBelow z1, z2⟩⟩
    have lamF : LamF K mg (hidT s.heap H) := ⟨(fun p hp => by
      refine ⟨?_, ?_, fun z => ?_⟩
      · obtain ⟨oq, vq, file, tf, flags, tg, inF, text, tt, y1, y2, y3, y4, y5, y6, y7, y8, y9, y10⟩ := TH.hd p hp
        exact ⟨oq, vq, file, tf, flags, tg, inF, text, tt, below y1 (clear y1 (fun z n q => by rw [y3] at q; cases q) fun q => by rw [y3] at q; cases q; simp at y4), y2, y3, y4, y5, y6, y7, y8, y9, y10⟩
      · obtain ⟨z, oz, b1, b2, b3, b4, b5, b6⟩ := hmain
        refine ⟨z, oz, b1, b2, fun q => ?_, fun q => ?_, below b3 (clear b3 (fun z n q => by rw [b6] at q; cases q) fun q => by rw [b6] at q; cases q), b4, b5, b6⟩
        · obtain ⟨o, es, ep, e, hdict, _⟩ := hns
          rw [q, e] at b3; cases b3
          rw [hdict] at b6; cases b6
        · rw [q, TH.empty p hp] at b3; cases b3; cases b6
      · obtain ⟨o, es, ep, e, hdict, _⟩ := hns
        rw [z, TH.empty p hp] at e; cases e; cases hdict), TH.one⟩
    have henv : Env0 P w K mg (hidT s.heap H) callerA [] s H := ⟨rfl, hMod, fun c o e => of_hidT e, Nat.le_of_eq (hidT_size _ _), trivial, fun c hc => absurd (show c ∈ ([] : List Addr) from hc) (by simp), hheap, .of_eq hgen⟩
    have rep : RepP K mg (fun _ => False) H true (.rol (ns.map .int)) (.ref a) := .rol (hS.imp (fun q => ⟨q, fun z => z⟩) id) (rep_ints ns)
    have htabs : TabsK K H := fun p hp => by
      obtain ⟨q, hq, rfl⟩ := List.mem_map.mp hp
      exact LamX.TabS.nil (hTb q.2.1 ⟨q, hq, rfl⟩)
    have hin : CallIn K mg false (fun _ => False) H [.rol (ns.map .int)] [.ref a] none := ⟨⟨htabs, fun c z => z.elim⟩, by rw [if_neg (by simp)]; exact ⟨rfl, .cons rep .nil⟩⟩
    have hout : CallOut K mg (fun _ => False) none H (m [.rol (ns.map .int)]) (fun v _ => v = .bl true) (fun _ _ _ => False) := by
      rw [hm]; intro v H' _ _ r _; exact pk_bl r
    refine codeAny_mono ((F _ kBelow (nsBelow hns) lamF).run callerA [] s H ⟨[.ref a], []⟩ [.ref a] [.ref a] _ _ none _ _ hroom rfl henv (hbind s (.ref a)) (.cons rfl .nil) rfl hin hout) fun r s' h => ?_
    cases r with
    | error e => obtain ⟨_, _, _, _, _, _, _, _, _, _, _, _, z⟩ := (show L2.CX P w [] H s (fun _ _ _ => False) e s' from h); exact z.elim
    | ok fl =>
      cases fl with
      | next => exact False.elim h
      | brk => exact False.elim h
      | cont => exact False.elim h
      | ret u =>
        obtain ⟨v, H', os, bare, un, hheap', r', q⟩ := h
        have q' : v = .bl true := q; subst q'
        obtain rfl : u = Value.bool true := r'
        have grew : ∀ p ∈ lamTabs K, ∃ zs : Array Value, s'.heap.get? p.2.1 = some { cls := .none, data := .fields zs } := fun p hp => by
          obtain ⟨zs, z⟩ := un.tbls p.2.1 #[] (hTb p.2.1 ⟨p, hp, rfl⟩)
          exact ⟨_, hheap' p.2.1 _ z⟩
        have same : ∀ c o, ¬ tabAt K c → s.heap.get? c = some o → s'.heap.get? c = some o := fun c o nt e => by
          cases hq : H c with
          | none => exact un.keep c o e hq (by intro z; exact absurd (show c ∈ ([] : List Addr) from z) (by simp)) (by simp)
          | some u =>
            rcases only c with z | z | ⟨ob, ys, z⟩
            · rw [hq] at z; cases z
            · exact absurd z nt
            · have w2 := un.frzs c ob _ z
              obtain ⟨g1, _⟩ := hheap c _ z; obtain ⟨g2, _⟩ := hheap' c _ w2; rw [e] at g1; cases g1
              exact g2
        refine ⟨rfl, ⟨fun c o e => ?_, fun c o e => ?_⟩, os, bare⟩
        · by_cases hc : tabAt K c
          · obtain ⟨p, hp, rfl⟩ := hc
            obtain ⟨zs, hz⟩ := grew p hp
            rw [TH.empty p hp] at e; cases e
            exact .inr (.inl ⟨((TH.hd p hp).tab (TH.empty p hp)).isCodeTable, rfl, #[], zs, rfl, by rw [Array.empty_append]; exact hz⟩)
          · exact .inl (same c o hc e)
        · by_cases hc : tabAt K c
          · obtain ⟨p, hp, rfl⟩ := hc
            obtain ⟨zs, hz⟩ := grew p hp
            exact ⟨_, hz⟩
          · exact ⟨o, same c o hc e⟩
  classical
  cases hk : K.lookup a with
  | some o =>
    have e := KX a o hk; rw [hobj] at e; cases e
    refine main (fun c => if tabAt K c then some (.tbl #[]) else none) (fun b hb => if_pos hb) (fun c => ?_) (.inr ⟨_, us.toArray, _, hk, rfl, rfl, rfl, by rw [List.size_toArray, hlen]; exact hsz, by simpa using rvals⟩) (fun c u z => ?_) (fun c z => ?_) fun z => absurd (show (if tabAt K a then some (HO.tbl #[]) else none) = none from if_neg aNot) z
    · by_cases hc : tabAt K c
      · exact .inr (.inl hc)
      · exact .inl (if_neg hc)
    · by_cases hc : tabAt K c
      · have zz := (if_pos hc).symm.trans z; cases zz; exact tabE c hc
      · have zz := (if_neg hc).symm.trans z; cases zz
    · by_cases hc : tabAt K c
      · exact .inr hc
      · exact absurd (if_neg hc) z
  | none =>
    refine main (fun c => if c = a then some (.frz { cls := .type "list", data := .seq us.toArray } (.lst (ns.map V.int))) else if tabAt K c then some (.tbl #[]) else none) (fun b hb => (if_neg (show ¬ b = a from fun z => aNot (z ▸ hb))).trans (if_pos hb)) (fun c => ?_) (.inl (.inr ⟨{ cls := .type "list", data := .seq us.toArray }, if_pos rfl⟩)) (fun c u z => ?_) (fun c z => ?_) fun _ => hk
    · by_cases hc : c = a
      · exact .inr (.inr ⟨_, _, if_pos hc⟩)
      · by_cases ht : tabAt K c
        · exact .inr (.inl ht)
        · exact .inl ((if_neg hc).trans (if_neg ht))
    · by_cases hc : c = a
      · have zz := (if_pos hc).symm.trans z; cases zz; subst hc
        exact ⟨hobj, by rw [List.length_map]; exact hsz, us, _, rvals, hobj⟩
      · have z1 := (if_neg hc).symm.trans z
        by_cases ht : tabAt K c
        · have zz := (if_pos ht).symm.trans z1; cases zz; exact tabE c ht
        · have zz := (if_neg ht).symm.trans z1; cases zz
    · by_cases hc : c = a
      · exact .inl hc
      · by_cases ht : tabAt K c
        · exact .inr ht
        · exact absurd ((if_neg hc).trans (if_neg ht)) z
end
/-- the law over a head by facts -/
theorem walk_ofF {l : PySem.W.OpenLaw} {n k : Nat} {q : Program} {loose : List Str} {XP : (Str → Option Value) → Heap → Prop} {YP : World → Heap → Prop} {d : DefRec} {x : Str}
    (hn : l.most = some n) (hn2 : n ≤ sizeLine) (hdf : d.params.defaults = []) (hr : Room k callerA)
    (F : ∀ (w : World) (mg : Str → Option Value) (fa : Addr) (h : Heap), YP w h → h.Ns mainGlobals mg → mg d.name = some (.ref fa) →
      ∃ (K : PySem.W.Frag) (fd : FuncData) (m : FDen), K.In h ∧ TabH K h ∧ (∀ (s : Shared) (u : Value), BindsTo s fd ⟨[u], []⟩ [(x, u)]) ∧
        (∀ ns : List Int, ns.length ≤ n → (∀ k ∈ ns, Builtin.Int.intBits k ≤ 1048576) → m [.rol (ns.map .int)] = .ok false (.bl true) none) ∧
        ∀ base : Heap, K.In base → base.Ns mainGlobals mg → LamF K mg base → FOk l.prog w K mg base k fa fd [x] false m) :
    PySem.W.WalkO q loose XP YP l.row.toRowW d [] (fun f vs => PySem.call f vs) := by
  refine Att.attach_callB hn hdf fun w s₀ s₁ mg mb fa o pm cd doc a vs ns G Y ho hd hcd hmg hobj hints hlen hbits hg => ?_
  obtain ⟨K, fd, m, KX, TH, hb, hm, hF⟩ := F w mg fa _ Y G.T.g hmg
  exact law_callF KX G.T.g G.T.b G.T.builtins G.T.nolimit hg TH G.T.bmain hobj hints (Nat.le_trans hlen hn2) hr hF hb (hm ns hlen hbits)
end PL
set_option Elab.async false
set_option linter.all false
set_option maxRecDepth 100000
set_option maxHeartbeats 4000000
set_option autoImplicit false
/-! PL19: the rules as the printer writes them. -/
namespace PL
open PySem PySem.Spec PyProof.Rows L2

/-- a def that is called: its object, its promise -/
structure Cal (P : Program) (w : World) (K : PySem.W.Frag) (mg : Str → Option Value) (base : Heap) (k : Nat) (x : Str) (ps : List Str) (io : Bool) (m : FDen) : Prop where
  ex : ∃ (f : Addr) (fd : FuncData), FOk P w K mg base k f fd ps io m ∧ mg x = some (.ref f) ∧ PySem.W.keepIn K (.ref f) = true ∧ Binds K fd ps []
section
variable {X : Cx} {W : WX} {a b c e : Expr} {es rest : List Expr} {o o1 o2 o3 : Opd} {os : List Opd} {m m1 m2 : M (Bool × D)} {ms : List (M (Bool × D))} {ta tb : M Bool} {pos p p2 apos cpos : Pos} {io : Bool} {s : Stmt} {ss ss2 : List Stmt} {x : Str} {i : Nat} {k : Nat} {ps : List Str} {den : FDen}
theorem blk_ok {N : List Str} {sc scope : Scope} {own : List (Str × Nat)} (h : blkC N sc scope own = true) : blkC N sc scope own = true := h
theorem tk0 : Takes X W0 := fun u s' ⟨_, _, _, _, _, _, _, _, _, _, _, _, _, _, _, _, w⟩ => w.elim
theorem ru64 {k : Nat} {A : Around} (r : Room k A) : A.units + 64 < cLine := by have := r.un; omega
theorem ru60 {k : Nat} {A : Around} (r : Room k A) : A.units + 60 < cLine := by have := r.un; omega
theorem ru0 {k : Nat} {A : Around} (r : Room k A) : A.units < cLine := by have := r.un; omega
theorem nm (i : Nat) (hN : X.N[i]? = some x := by rfl) (hv : Vis X.env.scope x := by first | exact .inl rfl | exact .inr (.inl rfl) | exact .inr (.inr rfl)) (hd : (x == ("__debug__" : Str)) = false := by decide) (hcd : (x == ("__classdict__" : Str)) = false := by decide) : Po X W (.Name x pos) (.nm i) := pe_var hN hv hd hcd
theorem nmv (i : Nat) (hN : X.N[i]? = some x := by rfl) (hv : Vis X.env.scope x := by first | exact .inl rfl | exact .inr (.inl rfl) | exact .inr (.inr rfl)) (hd : (x == ("__debug__" : Str)) = false := by decide) (hcd : (x == ("__classdict__" : Str)) = false := by decide) : Pe X W (.Name x pos) (mName i) := Pe.name hN hv hd hcd
theorem gint {n : Int} (h : ∃ t, X.mg x = some (.int n t)) (hg : Gl X x := by rfl) (hd : (x == ("__debug__" : Str)) = false := by decide) : Pe X W (.Name x pos) (mC (.int n)) := by
  obtain ⟨t, h⟩ := h
  exact Pe.glob (v := .int n) hg h ⟨t, rfl⟩ (fun _ _ => .int n) hd
theorem gstr {n : Str} (h : ∃ t, X.mg x = some (.str n t)) (hg : Gl X x := by rfl) (hd : (x == ("__debug__" : Str)) = false := by decide) : Pe X W (.Name x pos) (mC (.str n)) := by
  obtain ⟨t, h⟩ := h
  exact Pe.glob (v := .str n) hg h ⟨t, rfl⟩ (fun _ _ => .str n) hd
theorem gty {T : String} (hm : X.mg x = none) (hg : Gl X x := by rfl) (hv : bootBuiltins x = some (.type T) := by with_unfolding_all rfl) (hn : x ≠ "__name__" := by decide) (hd : (x == ("__debug__" : Str)) = false := by decide) : Pe X W (.Name x pos) (mC (.ty T)) := Pe.bltn hg hm hv hn hd
theorem or_gt : OpR X (compareOp .Gt) (fun x y H Q => rI0 (fun i j => .bl (decide (j < i))) x y H Q ∨ rCmpS (fun i j => decide (j.cps.toList < i.cps.toList)) x y H Q) := OpR.or op_gt op_gt_str
theorem or_ge : OpR X (compareOp .GtE) (fun x y H Q => rI0 (fun i j => .bl (decide (j ≤ i))) x y H Q ∨ rCmpS (fun i j => !decide (i.cps.toList < j.cps.toList)) x y H Q) := OpR.or op_ge op_ge_str
theorem or_is : OpR X (compareOp .Is) (fun x y H Q => rIsB x y H Q ∨ rIsN x y H Q) := OpR.or op_isBl op_isN
theorem or_eq (hr : Room k X.A) : OpR X (compareOp .Eq) (rEqD X.K) := op_eqD (ru64 hr)
theorem or_ne (hr : Room k X.A) : OpR X (compareOp .NotEq) (rNeD X.K) := op_neD (ru64 hr)
theorem callB {id : String} {r : List V → Hp → VK → Prop} {f : List D → Option (Bool × D)} (hc : CallR X (.builtin id) r) (B : BSpec X.K X.mg r f) (hm : X.mg x = none) (ha : Pas X W (e :: es) os) (hg : Gl X x := by rfl) (hv : bootBuiltins x = some (.builtin id) := by with_unfolding_all rfl)
    (hn : x ≠ "__name__" := by decide) (hdb : (x == ("__debug__" : Str)) = false := by decide)
    (he : starEach (e :: es) X.env = (false, eval e X.env) :: starEach es X.env := by rfl) (hpl : (backTo pos (starEach es X.env)).any (·.1) = false := by rfl) : Pe X W (.Call (.Name x p) (e :: es) [] pos) (mOps os f) := Pe.callB hc B hg hm hv ha hn hdb he hpl
theorem callTy {T : String} {r : List V → Hp → VK → Prop} {f : List D → Option (Bool × D)} (hc : CallR X (.type T) r) (B : BSpec X.K X.mg r f) (hm : X.mg x = none) (ha : Pas X W (e :: es) os) (hg : Gl X x := by rfl) (hv : bootBuiltins x = some (.type T) := by with_unfolding_all rfl)
    (hn : x ≠ "__name__" := by decide) (hdb : (x == ("__debug__" : Str)) = false := by decide)
    (he : starEach (e :: es) X.env = (false, eval e X.env) :: starEach es X.env := by rfl) (hpl : (backTo pos (starEach es X.env)).any (·.1) = false := by rfl) : Pe X W (.Call (.Name x p) (e :: es) [] pos) (mOps os f) := Pe.callTy hc B hg hm hv ha hn hdb he hpl
theorem Pe.callC (C : Cal X.prog X.w X.K X.mg X.base k x ps false den) (hr : Room k X.A) (hgd : X.A.guards = some []) (tk : Takes X W) (ha : Pxs X W (e :: es) ms) (hn : ms.length = ps.length := by rfl) (hg : Gl X x := by rfl) (hdb : (x == ("__debug__" : Str)) = false := by decide)
    (he : starEach (e :: es) X.env = (false, eval e X.env) :: starEach es X.env := by rfl) (hpl : (backTo pos (starEach es X.env)).any (·.1) = false := by rfl) : Pe X W (.Call (.Name x p) (e :: es) [] pos) (mCall den ms) := by
  obtain ⟨f, fd, F, hm, hk, hb⟩ := C.ex
  exact Pe.call F hr hgd hg hm hk hb tk ha hn hdb he hpl
theorem Pe.callCio {y : Str} {q : Pos} (C : Cal X.prog X.w X.K X.mg X.base k x ps true den) (hr : Room k X.A) (hgd : X.A.guards = some []) (tk : Takes X W) (h0 : Po X W (.Name y q) (.nm i)) (ha : Pxs X W es ms) (hn : ms.length + 1 = ps.length := by rfl) (hg : Gl X x := by rfl) (hdb : (x == ("__debug__" : Str)) = false := by decide)
    (hpl : (backTo pos (starEach es X.env)).any (·.1) = false := by rfl) : Pe X W (.Call (.Name x p) (.Name y q :: es) [] pos) (mCallIo den i ms) := by
  obtain ⟨f, fd, F, hm, hk, hb⟩ := C.ex
  exact Pe.callIo F hr hgd hg hm hk hb tk h0 ha hn hdb hpl
/-! statements -/
def stopS : MS := fun _ => .stuck
theorem Ps.stop : Ps X W io s stopS := ⟨fun pins s σ H D I ⟨_, _, _, _, q⟩ => q.elim⟩
theorem sset (i : Nat) {px : Pos} (he : Pe X W e m) (hio : io = false ∨ i ≠ 0) (hNd : X.N.Nodup) (hi : X.N[i]? = some x := by rfl) (hx : Loc X.env.scope x := by first | exact .inl rfl | exact .inr rfl) (hs : swapsWith e (some (.Name x px)) pos.line X.env = pure false := by rfl)
    (hf : X.fn x = true ∨ X.env.scope.names.lookup x = some .local := by first | exact .inl rfl | exact .inr rfl) : Ps X W io (.Assign [.Name x px] e pos) (setS i m) := Ps.set hNd hi hx he hs hf hio
theorem sdrop (he : Pe X W e m) (hs : swapsWith e none pos.line X.env = pure false := by rfl) : Ps X W io (.Expr e pos) (dropS m) := Ps.drop he hs
theorem sback (i : Nat) {q : Pos} (hN : X.N[i]? = some x := by rfl) (hv : Vis X.env.scope x := by first | exact .inl rfl | exact .inr (.inl rfl) | exact .inr (.inr rfl)) (hd : (x == ("__debug__" : Str)) = false := by decide) (hcd : (x == ("__classdict__" : Str)) = false := by decide) :
    Ps X W io (.Return (some (.Name x q)) pos) (backS i) := Ps.back hN hv hd hcd
theorem tnm (i : Nat) (hNd : X.N.Nodup) (hi : X.N[i]? = some x := by rfl) (hx : Loc X.env.scope x := by first | exact .inl rfl | exact .inr rfl) (hf : X.fn x = true ∨ X.env.scope.names.lookup x = some .local := by first | exact .inl rfl | exact .inr rfl) : Pg X (.Name x pos) (.nm i) := Pg.name hNd hi hx hf
theorem tcons {t : Tg} {ts : List Tg} (h1 : Pg X e t) (h2 : Pgs X es ts) (hs : (assignEach (e :: es) X.env).map (·.2) = assign e X.env :: (assignEach es X.env).map (·.2) := by rfl) : Pgs X (e :: es) (t :: ts) := Pgs.cons h1 h2 hs
theorem ttup {j : Nat} {ts : List Tg} (hc : X.calm = true) (h : Pgs X es ts) (hn : (assignEach es X.env).length = ts.length := by rfl) (hst : (assignEach es X.env).findIdx? (·.1) = none := by rfl) : Pg X (.Tuple es j pos) (.tup ts) := Pg.tup hc h hn hst
theorem sfor {tg it : Expr} {body : List Stmt} {mi : M (List D)} {t : Tg} {bd : MS} (hp : PassesOwn (model X.prog X.w) X.A X.env X.xe) (hi : Pi X W tg it mi) (hg : Pg X tg t) (hb : Pss X W io body bd) (hio : io = false ∨ 0 ∉ t.slots) (hc : X.calm = true := by rfl)
    (hs : ∀ x, foldedSetIterable it X.env x = pure x := by intro _; rfl) : Ps X W io (.For tg it body [] pos) (forS mi t bd) := Ps.fors hp hc hi hg hb hs hio
theorem sasg {tg : Expr} {t : Tg} (he : Pe X W e m) (hg : Pg X tg t) (hio : io = false ∨ 0 ∉ t.slots) (hs : swapsWithSole [tg] e pos.line X.env = pure false := by rfl) (hw : swappedStores [tg] e X.env = pure none := by rfl) (h1 : (assignEach [tg] X.env).map (·.2) = [assign tg X.env] := by rfl) : Ps X W io (.Assign [tg] e pos) (asgS t m) := Ps.asg he hg hs hw h1 hio
end
end PL
set_option Elab.async false
set_option linter.all false
set_option maxRecDepth 100000
set_option maxHeartbeats 400000
set_option autoImplicit false
/-! PL20: how pieces run; a draw. -/
namespace PL
open PySem PySem.Spec PyProof.Rows L2
/-! how a piece runs -/
theorem mulR (a b : Int) (h : (decide (-(2 ^ 64) < b) && decide (b < 2 ^ 64)) = true) : dMul [.int a, .int b] = fl (.int (a * b)) := by
  show (if bigOk a b = true then _ else _) = _
  rw [if_pos (by unfold bigOk; rw [h, Bool.or_true])]
theorem mulL (a b : Int) (h : (decide (-(2 ^ 64) < a) && decide (a < 2 ^ 64)) = true) : dMul [.int a, .int b] = fl (.int (a * b)) := by
  show (if bigOk a b = true then _ else _) = _
  rw [if_pos (by unfold bigOk; rw [h, Bool.true_or])]
theorem modP (a b : Int) (h : 0 < b) : dMod [.int a, .int b] = fl (.int (a % b)) := by
  show (if decide (0 < b) = true then _ else _) = _
  rw [if_pos (decide_eq_true h)]
theorem fdivP (a b : Int) (h : 0 < b) (h2 : b < 1073741824) : dFdiv [.int a, .int b] = fl (.int (a / b)) := by
  show (if (decide (0 < b) && decide (b < 1073741824)) = true then _ else _) = _
  rw [if_pos (by rw [decide_eq_true h, decide_eq_true h2]; rfl)]
theorem seq_next {a b : MS} {st st' : DSt} (h : a st = .next st') : seqS a b st = b st' := by unfold seqS; rw [h]
theorem seq_ret {a b : MS} {st st' : DSt} {fr : Bool} {d : D} (h : a st = .ret fr d st') : seqS a b st = .ret fr d st' := by unfold seqS; rw [h]
theorem seqN {a b : MS} {st : DSt} {o : OutS} (st' : DSt) (h : a st = .next st') (h2 : b st' = o) : seqS a b st = o := (seq_next h).trans h2
theorem if_t {c : M Bool} {a b : MS} {st st' : DSt} (h : c st = .ok true st') : ifS c a b st = a st' := by unfold ifS; rw [h]; rfl
theorem if_f {c : M Bool} {a b : MS} {st st' : DSt} (h : c st = .ok false st') : ifS c a b st = b st' := by unfold ifS; rw [h]; rfl
theorem ee {m1 m2 : M (Bool × D)} {f : List D → Option (Bool × D)} {st st1 st2 : DSt} {p1 p2 r : Bool × D} (h1 : m1 st = .ok p1 st1) (h2 : m2 st1 = .ok p2 st2) (hf : f [p1.2, p2.2] = some r) : mOps [.ex m1, .ex m2] f st = .ok r st2 := by
  simp only [mOps, runOps, M.bind, M.pure, M.lift, h1, h2, hf]
theorem e1 {m1 : M (Bool × D)} {f : List D → Option (Bool × D)} {st st1 : DSt} {p1 r : Bool × D} (h1 : m1 st = .ok p1 st1) (hf : f [p1.2] = some r) : mOps [.ex m1] f st = .ok r st1 := by
  simp only [mOps, runOps, M.bind, M.pure, M.lift, h1, hf]
theorem en {m1 : M (Bool × D)} {j : Nat} {f : List D → Option (Bool × D)} {st st1 : DSt} {p1 r : Bool × D} {b : Bool} {d : D} (h1 : m1 st = .ok p1 st1) (hj : st1[j]? = some (some (b, d))) (hf : f [p1.2, d] = some r) : mOps [.ex m1, .nm j] f st = .ok r st1 := by
  simp only [mOps, runOps, M.bind, M.pure, M.lift, h1, peekAt, hj, hf]
theorem ne {m2 : M (Bool × D)} {j : Nat} {f : List D → Option (Bool × D)} {st st2 : DSt} {p2 r : Bool × D} {b b0 : Bool} {d d0 : D} (hj0 : st[j]? = some (some (b0, d0))) (h2 : m2 st = .ok p2 st2) (hj : st2[j]? = some (some (b, d))) (hf : f [d, p2.2] = some r) : mOps [.nm j, .ex m2] f st = .ok r st2 := by
  simp only [mOps, runOps, M.bind, M.pure, M.lift, h2, peekAt, hj0, hj, hf]
theorem setE {i : Nat} {m : M (Bool × D)} {st st' : DSt} {fr : Bool} {d : D} (h : m st = .ok (fr, d) st') (hi : i < st'.length) : setS i m st = .next (st'.set i (some (fr, d))) := by
  simp only [setS, withS, h]
  rw [if_pos hi]
theorem retE {m : M (Bool × D)} {st st' : DSt} {fr : Bool} {d : D} (h : m st = .ok (fr, d) st') : retS m st = .ret fr d st' := by
  simp only [retS, withS, h]
theorem storeE {i : Nat} {m m2 : M (Bool × D)} {f : D → List D → Option (D × D)} {st st1 st2 : DSt} {p k : Bool × D} {d0 d d' r : D} (h1 : m st = .ok p st1) (h2 : st1[i]? = some (some (true, d0))) (h3 : m2 st1 = .ok k st2) (h4 : st2[i]? = some (some (true, d))) (hf : f d [k.2, p.2] = some (d', r)) :
    stS (mStore i m (.ex m2) f) st = .next (st2.set i (some (true, d'))) := by
  simp only [stS, mStore, M.bind, h1, ownAtS, h2, peekO, h3, M.pure, h4, hf]

/-! ### a draw -/
abbrev handD (c : List Int) (i q s t : Int) : D := .lst [.lst (c.map D.int), .int i, .int q, .int s, .int t]
/-- hand[k], as the rules write it -/
abbrev hnd (k : Int) : M (Bool × D) := mOps [(.nm 0), (.ex (mC (.int k)))] dIx
/-- what a draw's call gives -/
def DrawIs (d : FDen) (c : List Int) (b : Int) (h0 : D) : Prop := ∃ r i q s t, d [h0, .int b] = .ok false (.int r) (some (handD c i q s t)) ∧ 0 ≤ r ∧ r < b ∧ 0 ≤ i
abbrev stD (c : List Int) (i q s t b : Int) (n x y : Option (Bool × D)) : DSt := [some (true, handD c i q s t), some (false, .int b), n, x, y]
theorem lit {a : Int} (h : 0 ≤ a) (h2 : a < 4294967296) : (decide (-(2 ^ 64) < a) && decide (a < 2 ^ 64)) = true := by
  rw [Bool.and_eq_true, decide_eq_true_eq, decide_eq_true_eq]
  exact ⟨by omega, by omega⟩
theorem ixOk {l : List Int} {i : Int} (h0 : 0 ≤ i) (h : i < (l.length : Int)) : ∃ v, dIx [.lst (l.map D.int), .int i] = some (false, .int v) := by
  have hl : i.toNat < l.length := by omega
  have e : L2.atI (l.map D.int) i = some (.int l[i.toNat]) := by
    unfold L2.atI ixN
    rw [if_pos h0, if_pos (by rw [List.length_map]; exact h)]
    show (l.map D.int)[i.toNat]? = _
    rw [List.getElem?_map, List.getElem?_eq_getElem hl]
    rfl
  exact ⟨l[i.toNat], by show (L2.atI (l.map D.int) i).bind fl = _; rw [e]; rfl⟩
abbrev mix2 (k1 k3 : Int) : M (Bool × D) := mOps [(.ex (mOps [(.ex (mOps [(.ex (hnd 3)), (.ex (mC (.int k1)))] dMul)), (.nm 3)] dAdd)), (.ex (mC (.int k3)))] dAdd
theorem mix2_run (k1 k3 : Int) (h1 : 0 ≤ k1 ∧ k1 < 4294967296) (c : List Int) (i q s t b : Int) (n : Option (Bool × D)) (cell : Int) (y : Option (Bool × D)) :
    ∃ v, mix2 k1 k3 (stD c i q s t b n (some (false, .int cell)) y) = .ok (false, .int v) (stD c i q s t b n (some (false, .int cell)) y) := by
  refine ⟨s * k1 + cell + k3, ?_⟩
  refine ee (p1 := (false, .int (s * k1 + cell))) (p2 := (false, .int k3)) (st1 := stD c i q s t b n (some (false, .int cell)) y) ?_ rfl rfl
  refine en (p1 := (false, .int (s * k1))) (b := false) (d := .int cell) ?_ rfl rfl
  exact ee (p1 := (false, .int s)) (p2 := (false, .int k1)) (st1 := stD c i q s t b n (some (false, .int cell)) y) rfl rfl (mulR _ _ (lit h1.1 h1.2))
end PL
set_option Elab.async false
set_option linter.all false
set_option maxRecDepth 100000
set_option maxHeartbeats 1000000
set_option autoImplicit false
/-! PL21: lists mixed by draws, the hand, all orders. -/
namespace PL
open PySem PySem.Spec PyProof.Rows L2

/-! ### how calls and changes run -/
/-! ### the list is mixed -/
def DrawOk (dd : FDen) : Prop := ∀ (c : List Int) (i q s t b : Int), 0 ≤ i → 0 < b → b < 1073741824 → DrawIs dd c b (handD c i q s t)
/-! ### all orders -/
/-! ### the hand -/
theorem lc_ints {elt : M (Bool × D)} {g : Int → Int} {k : Nat} {base : DSt} (hk : k < base.length) (h0 : base[k]? = some none) (hh : hid [k] base = true)
    (he : ∀ n : Int, ∃ fr, elt (base.set k (some (false, .int n))) = .ok (fr, .int (g n)) (base.set k (some (false, .int n)))) (hh2 : ∀ n : Int, hid [k] (base.set k (some (false, .int n))) = true) :
    ∀ (l : List Int) (acc : List D), lcL [k] (.nm k) (M.pure true) elt (l.map D.int) acc base = .ok (acc ++ l.map fun n => .int (g n)) base
  | [], acc => by simp [lcL, M.pure]
  | n :: l, acc => by
    obtain ⟨fr, e⟩ := he n
    have back : wipeD (base.set k (some (false, .int n))) [k] = base := by
      show (base.set k (some (false, .int n))).set k none = base
      rw [List.set_set]
      exact List.ext_getElem? fun j => by
        by_cases hj : k = j
        · subst hj; rw [List.getElem?_set_self hk, h0]
        · rw [List.getElem?_set_ne hj]
    have ih := lc_ints hk h0 hh he hh2 l (acc ++ [.int (g n)])
    rw [List.map_cons, lcL]
    simp only [M.bind, bindM, bindT, if_pos hk, noX, M.pure, if_true, e, wipeM, hh2 n, back]
    rw [ih, List.map_cons, List.append_assoc]
    rfl
theorem cut_map {l : List Int} (lo hi : Option Int) : cutL (l.map D.int) lo hi = (cutL l lo hi).map D.int := by
  unfold cutL
  rw [List.length_map, List.map_take, List.map_drop]
theorem cut_len {l : List Int} (lo hi : Option Int) : (cutL l lo hi).length ≤ l.length := by
  unfold cutL
  rw [List.length_take, List.length_drop]
  omega
def absI (n : Int) : Int := if n < 0 then -n else n
def handS (k0 k1 : Int) : MS := (seqS (setS 1 (mLc (mItems (mSl dCut (.nm 0) none (some (.ex (mC (.int 63)))))) [2] (.nm 2) (M.pure true) (mOps [(.ex (mOps [(.nm 2)] dInt))] dAbs)))
  (seqS (retS (mLst [(mName 1), (mC (.int 0)), (mC (.int 0)), (mOps [(.ex (mC (.int k0))), (.ex (mOps [(.ex (mC (.int k1))), (.ex (mOps [(.nm 1)] dLen))] dMul))] dAdd), (mC (.int 0))]))
  nextS))
theorem hand_ok (k0 k1 : Int) (h1 : 0 ≤ k1 ∧ k1 < 4294967296) (ns : List Int) (hn : ns.length ≤ 63) : ∃ c s, fden false 1 3 (handS k0 k1) [.rol (ns.map .int)] = .ok true (handD c 0 0 s 0) none := by
  let c : List Int := (cutL ns none (some 63)).map absI
  have ec : (cutL ns none (some 63)).map (fun n => D.int (absI n)) = c.map D.int := by rw [List.map_map]; rfl
  refine ⟨c, k0 + k1 * ((c.map D.int).length : Int), ?_⟩
  have e1 : setS 1 (mLc (mItems (mSl dCut (.nm 0) none (some (.ex (mC (.int 63)))))) [2] (.nm 2) (M.pure true) (mOps [(.ex (mOps [(.nm 2)] dInt))] dAbs)) [some (false, .rol (ns.map .int)), none, none] = .next [some (false, .rol (ns.map .int)), some (true, .lst (c.map D.int)), none] := by
    refine setE (st' := [some (false, .rol (ns.map .int)), none, none]) (fr := true) (d := .lst (c.map D.int)) ?_ (show (1 : Nat) < 3 by decide)
    have lc := lc_ints (elt := mOps [(.ex (mOps [(.nm 2)] dInt))] dAbs) (g := absI) (k := 2) (base := [some (false, .rol (ns.map .int)), none, none]) (show (2 : Nat) < 3 by decide) rfl rfl (fun n => ⟨false, rfl⟩) (fun n => rfl) (cutL ns none (some 63)) []
    rw [List.nil_append, ec, ← cut_map] at lc
    have it : mItems (mSl dCut (.nm 0) none (some (.ex (mC (.int 63))))) [some (false, .rol (ns.map .int)), none, none] = .ok (cutL (ns.map .int) none (some 63)) [some (false, .rol (ns.map .int)), none, none] := rfl
    have hsz : (cutL (ns.map D.int) none (some 63)).length ≤ sizeLine := by
      rw [cut_map, List.length_map, sizeLine_eq]
      have := cut_len (l := ns) none (some 63)
      omega
    have wp : wipeD [some (false, .rol (ns.map .int)), none, none] [2] = [some (false, .rol (ns.map .int)), none, none] := rfl
    have hh : hid [2] [some (false, .rol (ns.map .int)), none, none] = true := rfl
    have pb : putBack [some (false, .rol (ns.map .int)), none, none] [some (false, .rol (ns.map .int)), none, none] [2] = [some (false, .rol (ns.map .int)), none, none] := rfl
    simp only [mLc, M.bind, it, if_pos hsz, inBlock, hh, if_true, wp, lc, M.pure, pb]
  have e2 : retS (mLst [(mName 1), (mC (.int 0)), (mC (.int 0)), (mOps [(.ex (mC (.int k0))), (.ex (mOps [(.ex (mC (.int k1))), (.ex (mOps [(.nm 1)] dLen))] dMul))] dAdd), (mC (.int 0))]) [some (false, .rol (ns.map .int)), some (true, .lst (c.map D.int)), none] = .ret true (handD c 0 0 (k0 + k1 * ((c.map D.int).length : Int)) 0) [some (false, .rol (ns.map .int)), some (false, .lst (c.map D.int)), none] := by
    have x : mOps [(.ex (mC (.int k0))), (.ex (mOps [(.ex (mC (.int k1))), (.ex (mOps [(.nm 1)] dLen))] dMul))] dAdd [some (false, .rol (ns.map .int)), some (false, .lst (c.map D.int)), none] = .ok (false, .int (k0 + k1 * ((c.map D.int).length : Int))) [some (false, .rol (ns.map .int)), some (false, .lst (c.map D.int)), none] := by
      refine ee (p1 := (false, .int k0)) (p2 := (false, .int (k1 * ((c.map D.int).length : Int)))) (st1 := [some (false, .rol (ns.map .int)), some (false, .lst (c.map D.int)), none]) rfl ?_ rfl
      exact ee (p1 := (false, .int k1)) (p2 := (false, .int ((c.map D.int).length : Int))) (st1 := [some (false, .rol (ns.map .int)), some (false, .lst (c.map D.int)), none]) rfl rfl (mulL _ _ (lit h1.1 h1.2))
    refine retE ?_
    have n1 : mName 1 [some (false, .rol (ns.map .int)), some (true, .lst (c.map D.int)), none] = .ok (false, .lst (c.map D.int)) [some (false, .rol (ns.map .int)), some (false, .lst (c.map D.int)), none] := rfl
    have k00 : ∀ st : DSt, mC (.int 0) st = .ok (false, .int 0) st := fun _ => rfl
    simp only [mLst, runExs, M.bind, n1, k00, x, M.pure]
    rfl
  show (match handS k0 k1 [some (false, .rol (ns.map .int)), none, none] with | .next st => finIo false st (.ok false .non) | .ret fr d st => finIo false st (.ok fr d) | .exc c fs st => finIo false st (.exc c fs) | _ => .stuck) = _
  have run : handS k0 k1 [some (false, .rol (ns.map .int)), none, none] = .ret true (handD c 0 0 (k0 + k1 * ((c.map D.int).length : Int)) 0) [some (false, .rol (ns.map .int)), some (false, .lst (c.map D.int)), none] := seqN _ e1 (seq_ret e2)
  rw [run]
  rfl
/-! ### an order is drawn -/
def rgI (n : Int) : List Int := (List.range (n - 0).toNat).map fun (i : Nat) => 0 + (i : Int)
/-! ### a whole order is drawn, or the one from behind -/
end PL
set_option Elab.async false
set_option linter.all false
set_option maxRecDepth 100000
set_option maxHeartbeats 1000000
set_option autoImplicit false
/-! PL22: a, b = x, y where a name is a cell: the pair is laid and unpacked. -/
namespace PL
open PySem PySem.Spec PyProof.Rows L2
section
variable {X : Cx} {W : WX} {io : Bool} {a b : Expr} {i j : Nat} {x y : Str} {m1 m2 : M (Bool × D)} {px py pt pos : Pos} {kt k2 : Nat} {pt2 : Pos}
end
end PL
set_option Elab.async false
set_option linter.all false
set_option maxRecDepth 100000
set_option maxHeartbeats 1000000
set_option autoImplicit false
/-! PL23: dicts whose keys are ints or texts; rows of ints sorted. -/
namespace PL
open PySem PySem.Spec PyProof.Rows L2

/-! ### {} ; d[k] = v ; d.get(k, x) ; dict(pairs) -/
def mDnew : M (Bool × D) := M.pure (true, .dic [])
def dlook (kvs : List (D × D)) (k : Key) : Option D := (kvs.find? fun kv => isKey k kv.1).map (·.2)
def mfDput : D → List D → Option (D × D)
  | .dic kvs, [k, v] => (keyOf k).bind fun ky => if kvs.length < sizeLine then some (.dic (dput kvs ky v), .non) else none
  | _, _ => none
section
variable {K : PySem.W.Frag} {mg : Str → Option Value} {W : WX} {Z : Zs} {H : Hp} {σ : L2.St} {d : D} {v : V} {t : Bool}
theorem dnew_sound {Q : VK} (h : tD K mg W mDnew σ H Q) : tDNewK σ H Q := fun p hp => by
  obtain ⟨Z₀, st, S, h⟩ := h
  have kx : ∀ b u, H b = some u → upd H p (.dK []) b = some u := ext_new hp
  have r : Res K mg (ZZ Z₀ st σ) H (upd H p (.dK [])) true (.dic []) (.ref p) := by
    unfold Res
    rw [if_pos rfl]
    exact ⟨p, rfl, hp, rfl, .dicK upd_same (fun e => by cases e) .nil⟩
  exact h _ _ (Grow.ext kx) (r.fin S kx)
theorem pk_dic {kvs : List (D × D)} (h : RepP K mg Z H t (.dic kvs) v) : ∃ a ks, v = .ref a ∧ H a = some (.dK ks) ∧ RepK K mg Z H kvs ks := by
  cases h
  exact ⟨_, _, rfl, ‹_›, ‹_›⟩
theorem ss_dict : SSpec K mg rSetD mfDput := fun Z H a d k x dk dx d' res Q dom za h hk hx e kk => by
  unfold mfDput at e
  split at e
  · rename_i kvs k1 v1 e2
    cases e2
    obtain ⟨ky, e1, e⟩ := Option.bind_eq_some_iff.mp e
    split at e
    case isFalse => cases e
    rename_i hz
    cases e
    obtain ⟨b, ks, eb, q, r⟩ := pk_dic h
    cases eb
    have hk' : k = kV ky := key_rep (keyOf_eq e1 ▸ hk)
    subst hk'
    exact ⟨a, _, rfl, DPut.k q (by rw [← r.length]; exact hz), kk _ rfl fun H' k2 e' => .dicK e' (fun e => by cases e) ((RepK.put ky hx r).mono k2)⟩
  · cases e
theorem look_rep (k : Key) : ∀ {kvs : List (D × D)} {ks : List (Key × V)}, RepK K mg Z H kvs ks → (dlook kvs k = none ∧ valV ks k = none) ∨ ∃ d v, dlook kvs k = some d ∧ valV ks k = some v ∧ Rep K mg Z H d v
  | _, _, .nil => .inl ⟨rfl, rfl⟩
  | _, _, .cons (k := k') (d := d) (v := v) (ds := ds) h r => by
    by_cases e : k' = k
    · refine .inr ⟨d, v, ?_, valV_pos e, h⟩
      unfold dlook
      rw [List.find?_cons_of_pos (by show isKey k (keyD k') = true; rw [isKey_key, decide_eq_true e])]
      rfl
    · have e2 : dlook ((keyD k', d) :: ds) k = dlook ds k := by
        unfold dlook
        rw [List.find?_cons_of_neg (by show ¬ isKey k (keyD k') = true; rw [isKey_key, decide_eq_false e]; simp)]
      rw [e2, valV_neg e]
      exact look_rep k r
/-! dict(pairs) -/
inductive PairsRep (K : PySem.W.Frag) (mg : Str → Option Value) (Z : Zs) (H : Hp) : List (Key × D) → List (Key × V) → Prop
  | nil : PairsRep K mg Z H [] []
  | cons {k : Key} {d : D} {v : V} {ps : List (Key × D)} {kvs : List (Key × V)} : Rep K mg Z H d v → PairsRep K mg Z H ps kvs → PairsRep K mg Z H ((k, d) :: ps) ((k, v) :: kvs)
end
section
variable {X : Cx} {W : WX} {pos p apos cpos q : Pos} {e f : Expr} {i : Nat} {x : Str} {ok : Opd} {m : M (Bool × D)}
theorem Pe.dnew : Pe X W (.Dict [] [] pos) mDnew := pe_imp pe_dnewK fun σ H Q h => dnew_sound h
end
end PL
set_option Elab.async false
set_option linter.all false
set_option maxRecDepth 100000
set_option maxHeartbeats 1000000
set_option autoImplicit false
/-! PL24: rows of ints (tuples) sorted. -/
namespace PL
open PySem PySem.Spec PyProof.Rows L2 PySem.W

/-! ### the order of rows -/
section
variable {β : Type}
variable {r : β → List Int}
end
end PL
set_option Elab.async false
set_option linter.all false
set_option maxRecDepth 100000
set_option maxHeartbeats 1000000
set_option autoImplicit false
/-! PL25: sorted(..) of lists of rows, of dicts, of a dict's values. -/
namespace PL
open PySem PySem.Spec PyProof.Rows L2 PySem.W

abbrev Row := List Int × Addr
section
variable {X : Cx} {pins : List (Addr × Obj)} {σ : L2.St} {H : Hp} {s : Shared}
end
end PL
set_option Elab.async false
set_option linter.all false
set_option maxRecDepth 100000
set_option maxHeartbeats 1000000
set_option autoImplicit false
/-! PL26: sorted(d), sorted(d.values()). -/
namespace PL
open PySem PySem.Spec PyProof.Rows L2 PySem.W

section
variable {X : Cx}
end
end PL
set_option Elab.async false
set_option linter.all false
set_option maxRecDepth 100000
set_option maxHeartbeats 1000000
set_option autoImplicit false
/-! PL27: sorted, as data. -/
namespace PL
open PySem PySem.Spec PyProof.Rows L2
section
variable {K : PySem.W.Frag} {mg : Str → Option Value} {W : WX} {Z : Zs} {H : Hp} {σ : L2.St} {v : V} {t : Bool}
/-- the same walk over data, values and rows -/
inductive Tri (K : PySem.W.Frag) (mg : Str → Option Value) (Z : Zs) (H : Hp) : List (List Int × D) → List Row → Prop
  | nil : Tri K mg Z H [] []
  | cons {ns : List Int} {d : D} {a : Addr} {bs : List (List Int × D)} {rs : List Row} : Rep K mg Z H d (.ref a) → SqT K H a (ns.map V.int) → ns ≠ [] → Tri K mg Z H bs rs → Tri K mg Z H ((ns, d) :: bs) ((ns, a) :: rs)
end
section
variable {X : Cx} {W : WX} {e o : Expr} {oo : Opd} {p apos cpos pos : Pos}
end
end PL
set_option Elab.async false
set_option linter.all false
set_option maxRecDepth 100000
set_option maxHeartbeats 1000000
set_option autoImplicit false
/-! PL28: o[k] = v of a list or a dict. -/
namespace PL
open PySem PySem.Spec PyProof.Rows L2
theorem ru1 {k : Nat} {A : Around} (r : Room k A) : A.units + 1 < cLine := by have := r.un; omega
def mfPut : D → List D → Option (D × D)
  | .lst ds, l => mfSet (.lst ds) l
  | .dic kvs, l => mfDput (.dic kvs) l
  | _, _ => none
def rSetA : TSet := fun o i v H Q => rSetL o i v H Q ∨ rSetD o i v H Q
theorem set_any {X : Cx} (hu : X.A.units + 1 < cLine) : PSet X rSetA := fun pins s σ H o i v ov iv u Q I ro ri rv h => h.elim (set_list pins s σ H o i v ov iv u Q I ro ri rv) (set_dict hu pins s σ H o i v ov iv u Q I ro ri rv)
theorem ss_any {K : PySem.W.Frag} {mg : Str → Option Value} : SSpec K mg rSetA mfPut := fun Z H a d k x dk dx d' res Q dom za h hk hx e kk => by
  cases d <;> first | cases e | skip
  · exact .inl (ss_list Z H a _ k x dk dx d' res Q dom za h hk hx e kk)
  · exact .inr (ss_dict Z H a _ k x dk dx d' res Q dom za h hk hx e kk)
end PL
set_option Elab.async false
set_option linter.all false
set_option maxRecDepth 100000
set_option maxHeartbeats 1000000
set_option autoImplicit false
/-! PL29: the same operations, quicker to reckon with. -/
namespace PL
open PySem PySem.Spec PyProof.Rows L2
def dEqF : List D → Option (Bool × D)
  | [.int a, .int b] => fl (.bl (a == b))
  | l => dEq l
def dNeF : List D → Option (Bool × D)
  | [.int a, .int b] => fl (.bl (!(a == b)))
  | l => dNe l
theorem dEqF_eq (l : List D) : dEqF l = dEq l := by
  unfold dEqF
  split
  · rfl
  · rfl
theorem dNeF_eq (l : List D) : dNeF l = dNe l := by
  unfold dNeF
  split
  · rfl
  · rfl
inductive Ty where
  | int | bool | tuple | list | str | dict
def Ty.nm : Ty → String
  | .int => "int" | .bool => "bool" | .tuple => "tuple" | .list => "list" | .str => "str" | .dict => "dict"
def isA : Ty → D → Option Bool
  | k, .non => some false
  | .int, .bl _ => some true
  | .bool, .bl _ => some true
  | _, .bl _ => some false
  | .int, .int _ => some true
  | _, .int _ => some false
  | .str, .str _ => some true
  | _, .str _ => some false
  | .list, .lst _ => some true
  | _, .lst _ => some false
  | .list, .rol _ => some true
  | _, .rol _ => some false
  | .tuple, .tup _ _ => some true
  | _, .tup _ _ => some false
  | .dict, .dic _ => some true
  | _, .dic _ => some false
  | .dict, .dct _ => some true
  | _, .dct _ => some false
  | _, _ => none
def dIsA (k : Ty) : List D → Option (Bool × D)
  | [d] => (isA k d).bind fun b => fl (.bl b)
  | _ => none
theorem isA_eq (k : Ty) (d : D) (r : Bool × D) (h : dIsA k [d] = some r) : dIsi [d, .ty k.nm] = some r := by
  cases d <;> cases k <;> first | exact h | cases h
section
variable {K : PySem.W.Frag} {mg : Str → Option Value} {W : WX}
theorem b_eqF : BSpec K mg (r2L (rEqD K)) dEqF := fun Z H vs ds fr d Q dom pl e k => b_eq Z H vs ds fr d Q dom pl (by rw [← dEqF_eq]; exact e) k
theorem b_neF : BSpec K mg (r2L (rNeD K)) dNeF := fun Z H vs ds fr d Q dom pl e k => b_ne Z H vs ds fr d Q dom pl (by rw [← dNeF_eq]; exact e) k
theorem isA_post {k : Ty} {o : Opd} {st : DSt} {kk : Bool × D → DSt → Prop} {x : Str → List (Str × D) → DSt → Prop} (h : (mOps [o] (dIsA k) st).post kk x) : (mOps [o, .ex (mC (.ty k.nm))] dIsi st).post kk x := by
  rw [mOps, post_bind] at h ⊢
  cases o with
  | nm i =>
    rw [runOps, post_bind, post_peek] at h ⊢
    obtain ⟨b, d, e, h⟩ := h
    refine ⟨b, d, e, ?_⟩
    have h : ((peekAt i).bind (fun d => M.pure [d]) st).post _ _ := h
    show ((peekAt i).bind (fun d => M.pure [d, D.ty k.nm]) st).post _ _
    rw [post_bind, post_peek] at h ⊢
    obtain ⟨b2, d2, e2, h⟩ := h
    refine ⟨b2, d2, e2, ?_⟩
    have h : (M.lift (dIsA k [d2]) st).post kk x := h
    show (M.lift (dIsi [d2, .ty k.nm]) st).post kk x
    rw [post_lift] at h ⊢
    obtain ⟨r, er, h⟩ := h
    exact ⟨r, isA_eq k d2 r er, h⟩
  | ex m =>
    rw [runOps, post_bind] at h ⊢
    refine h.mono (fun p st1 h => ?_) fun _ _ _ h => h
    have h : (M.lift (dIsA k [p.2]) st1).post kk x := h
    show (M.lift (dIsi [p.2, .ty k.nm]) st1).post kk x
    rw [post_lift] at h ⊢
    obtain ⟨r, er, h⟩ := h
    exact ⟨r, isA_eq k p.2 r er, h⟩
end
section
variable {X : Cx} {W : WX} {a : Expr} {o : Opd} {x : Str} {p q pos : Pos}
theorem Pe.isA (k : Ty) (hm : X.mg "isinstance" = none) (hmt : X.mg x = none) (h : Po X W a o) (hg : Gl X "isinstance" := by rfl) (hgt : Gl X x := by rfl) (hv : bootBuiltins x = some (.type k.nm) := by with_unfolding_all rfl) (hn : x ≠ "__name__" := by decide) (hd : (x == ("__debug__" : Str)) = false := by decide)
    (h1 : starEach [a, .Name x q] X.env = (false, eval a X.env) :: starEach [.Name x q] X.env := by rfl) (h2 : starEach [.Name x q] X.env = (false, eval (.Name x q) X.env) :: starEach [] X.env := by rfl) (hpl : (backTo pos (starEach [.Name x q] X.env)).any (·.1) = false := by rfl) :
    Pe X W (.Call (.Name "isinstance" p) [a, .Name x q] [] pos) (mOps [o] (dIsA k)) :=
  pe_imp (PL.callB call_isi b_isi hm (Pas.cons h (Pas.cons (Po.ex (gty hmt hgt hv hn hd)) Pas.nil h2) h1) hg (by with_unfolding_all rfl) (by decide) (by decide) h1 hpl) fun σ H Q ⟨Z₀, st, S, h⟩ => ⟨Z₀, st, S, isA_post h⟩
end
end PL
set_option Elab.async false
set_option linter.all false
set_option maxRecDepth 100000
set_option maxHeartbeats 1000000
set_option autoImplicit false
/-! PL30: a whole order is drawn, and it is whole. -/
namespace PL
open PySem PySem.Spec PyProof.Rows L2
end PL
set_option Elab.async false
set_option linter.all false
set_option maxRecDepth 100000
set_option maxHeartbeats 1000000
set_option autoImplicit false
/-! PL31: a draw, with the later operations. -/
namespace PL
open PySem PySem.Spec PyProof.Rows L2
def drawA2 (X : M (Bool × D)) (m0 : Int) : MS := ifS (mAndT (mT (mOps [(.ex (hnd 2)), (.ex (mC (.int 0)))] dEqF)) (mT (mOps [(.ex (hnd 1)), (.ex (mOps [(.ex (hnd 0))] dLen))] dLt))) (seqS (setS 3 (mOps [(.ex (hnd 0)), (.ex (hnd 1))] dIx))
  (seqS (stS (mStore 0 (mOps [(.ex (hnd 1)), (.ex (mC (.int 1)))] dAdd) (.ex (mC (.int 1))) mfPut))
  (seqS (stS (mStore 0 (mOps [(.ex (mOps [(.ex X)] dInt)), (.ex (mC (.int m0)))] dMod) (.ex (mC (.int 3))) mfPut))
  (seqS (ifS (mT (mOps [(.nm 3), (.ex (mOps [(.ex (mC (.int 10))), (.ex (mC (.int 18)))] dPow))] dGe)) (seqS (stS (mStore 0 (mName 3) (.ex (mC (.int 2))) mfPut))
  nextS) nextS)
  nextS)))) nextS
def drawB2 : MS := ifS (mT (mOps [(.ex (hnd 2)), (.ex (mC (.int 0)))] dGt)) (seqS (setS 4 (mOps [(.ex (mOps [(.ex (hnd 2))] dInt)), (.nm 1)] dMod))
  (seqS (stS (mStore 0 (mOps [(.ex (hnd 2)), (.nm 1)] dFdiv) (.ex (mC (.int 2))) mfPut))
  (seqS (backS 4)
  nextS))) nextS
def drawC2 (a7 a8 m1 n1 b1 m2 n2 b2 m3 : Int) : MS := (seqS (stS (mStore 0 (mOps [(.ex (hnd 4)), (.ex (mC (.int 1)))] dAdd) (.ex (mC (.int 4))) mfPut))
  (seqS (setS 2 (mOps [(.ex (mOps [(.ex (mOps [(.ex (mOps [(.ex (mOps [(.ex (hnd 3)), (.ex (mOps [(.ex (mC (.int a7))), (.ex (hnd 4))] dMul))] dAdd))] dInt)), (.ex (mC (.int a8)))] dMul))] dInt)), (.ex (mC (.int m1)))] dMod))
  (seqS (setS 2 (mOps [(.ex (mOps [(.ex (mOps [(.nm 2), (.ex (mOps [(.ex (mOps [(.nm 2), (.ex (mC (.int n1)))] dFdiv)), (.ex (mC (.int b1)))] dAdd))] dMul))] dInt)), (.ex (mC (.int m2)))] dMod))
  (seqS (setS 2 (mOps [(.ex (mOps [(.ex (mOps [(.nm 2), (.ex (mOps [(.ex (mOps [(.nm 2), (.ex (mC (.int n2)))] dFdiv)), (.ex (mC (.int b2)))] dAdd))] dMul))] dInt)), (.ex (mC (.int m3)))] dMod))
  (seqS (retS (mOps [(.ex (mOps [(.ex (mOps [(.nm 2), (.ex (mC (.int 16)))] dFdiv))] dInt)), (.nm 1)] dMod))
  nextS)))))
def drawS2 (X : M (Bool × D)) (m0 a7 a8 m1 n1 b1 m2 n2 b2 m3 : Int) : MS := seqS (drawA2 X m0) (seqS drawB2 (drawC2 a7 a8 m1 n1 b1 m2 n2 b2 m3))
/-- what a draw's call gives -/
theorem drawB_run2 (c : List Int) (i q s t b : Int) (n x y : Option (Bool × D)) (hi : 0 ≤ i) (hb : 0 < b) (hb2 : b < 1073741824) :
    drawB2 (stD c i q s t b n x y) = if 0 < q then .ret false (.int (q % b)) (stD c i (q / b) s t b n x (some (false, .int (q % b)))) else .next (stD c i q s t b n x y) := by
  by_cases hq : 0 < q
  · rw [if_pos hq]
    refine (if_t (by show Out.ok (decide (0 < q)) _ = Out.ok true _; rw [decide_eq_true hq])).trans ?_
    refine seqN (stD c i q s t b n x (some (false, .int (q % b)))) ?_ ?_
    · refine setE (st' := stD c i q s t b n x y) (en (p1 := (false, .int q)) (b := false) (d := .int b) rfl rfl (modP q b hb)) (show (4 : Nat) < 5 by decide)
    refine seqN (stD c i (q / b) s t b n x (some (false, .int (q % b)))) ?_ ?_
    · exact storeE (p := (false, .int (q / b))) (k := (false, .int 2)) (st1 := stD c i q s t b n x (some (false, .int (q % b)))) (st2 := stD c i q s t b n x (some (false, .int (q % b)))) (en (p1 := (false, .int q)) (b := false) (d := .int b) rfl rfl (fdivP q b hb hb2)) rfl rfl rfl rfl
    exact seq_ret rfl
  · rw [if_neg hq]
    exact if_f (by show Out.ok (decide (0 < q)) _ = Out.ok false _; rw [decide_eq_false hq])
theorem drawC_run2 (a7 a8 m1 n1 b1 m2 n2 b2 m3 : Int) (c : List Int) (i q s t b : Int) (n x y : Option (Bool × D)) (hb : 0 < b)
    (ha7 : 0 ≤ a7 ∧ a7 < 4294967296) (ha8 : 0 ≤ a8 ∧ a8 < 4294967296) (h1 : 0 < m1 ∧ m1 < 4294967296) (hn1 : 0 < n1 ∧ n1 < 1073741824) (h2 : 0 < m2 ∧ m2 < 4294967296) (hn2 : 0 < n2 ∧ n2 < 1073741824) (h3 : 0 < m3) :
    ∃ r n', drawC2 a7 a8 m1 n1 b1 m2 n2 b2 m3 (stD c i q s t b n x y) = .ret false (.int r) (stD c i q s (t + 1) b n' x y) ∧ 0 ≤ r ∧ r < b := by
  have g1 := Int.emod_nonneg ((s + a7 * (t + 1)) * a8) (Int.ne_of_gt h1.1)
  have g2 := Int.emod_lt_of_pos ((s + a7 * (t + 1)) * a8) h1.1
  generalize hN1 : (s + a7 * (t + 1)) * a8 % m1 = N1 at g1 g2
  have f1 := Int.emod_nonneg (N1 * (N1 / n1 + b1)) (Int.ne_of_gt h2.1)
  have f2 := Int.emod_lt_of_pos (N1 * (N1 / n1 + b1)) h2.1
  generalize hN2 : N1 * (N1 / n1 + b1) % m2 = N2 at f1 f2
  refine ⟨N2 * (N2 / n2 + b2) % m3 / 16 % b, some (false, .int (N2 * (N2 / n2 + b2) % m3)), ?_, Int.emod_nonneg _ (Int.ne_of_gt hb), Int.emod_lt_of_pos _ hb⟩
  refine seqN (stD c i q s (t + 1) b n x y) rfl ?_
  refine seqN (stD c i q s (t + 1) b (some (false, .int N1)) x y) ?_ ?_
  · refine setE (st' := stD c i q s (t + 1) b n x y) ?_ (show (2 : Nat) < 5 by decide)
    refine ee (p1 := (false, .int ((s + a7 * (t + 1)) * a8))) (p2 := (false, .int m1)) (st1 := stD c i q s (t + 1) b n x y) ?_ rfl ((modP _ m1 h1.1).trans (by rw [hN1]; rfl))
    refine e1 (p1 := (false, .int ((s + a7 * (t + 1)) * a8))) ?_ rfl
    refine ee (p1 := (false, .int (s + a7 * (t + 1)))) (p2 := (false, .int a8)) (st1 := stD c i q s (t + 1) b n x y) ?_ rfl (mulR _ _ (lit ha8.1 ha8.2))
    refine e1 (p1 := (false, .int (s + a7 * (t + 1)))) ?_ rfl
    refine ee (p1 := (false, .int s)) (p2 := (false, .int (a7 * (t + 1)))) (st1 := stD c i q s (t + 1) b n x y) rfl ?_ rfl
    exact ee (p1 := (false, .int a7)) (p2 := (false, .int (t + 1))) (st1 := stD c i q s (t + 1) b n x y) rfl rfl (mulL _ _ (lit ha7.1 ha7.2))
  refine seqN (stD c i q s (t + 1) b (some (false, .int N2)) x y) ?_ ?_
  · refine setE (st' := stD c i q s (t + 1) b (some (false, .int N1)) x y) ?_ (show (2 : Nat) < 5 by decide)
    refine ee (p1 := (false, .int (N1 * (N1 / n1 + b1)))) (p2 := (false, .int m2)) (st1 := stD c i q s (t + 1) b (some (false, .int N1)) x y) ?_ rfl ((modP _ m2 h2.1).trans (by rw [hN2]; rfl))
    refine e1 (p1 := (false, .int (N1 * (N1 / n1 + b1)))) ?_ rfl
    refine ne (b0 := false) (b := false) (d0 := .int N1) (d := .int N1) (p2 := (false, .int (N1 / n1 + b1))) (st2 := stD c i q s (t + 1) b (some (false, .int N1)) x y) rfl ?_ rfl (mulL _ _ (lit g1 (by omega)))
    refine ee (p1 := (false, .int (N1 / n1))) (p2 := (false, .int b1)) (st1 := stD c i q s (t + 1) b (some (false, .int N1)) x y) ?_ rfl rfl
    exact ne (b0 := false) (b := false) (d0 := .int N1) (d := .int N1) (p2 := (false, .int n1)) (st2 := stD c i q s (t + 1) b (some (false, .int N1)) x y) rfl rfl rfl (fdivP _ _ hn1.1 hn1.2)
  refine seqN (stD c i q s (t + 1) b (some (false, .int (N2 * (N2 / n2 + b2) % m3))) x y) ?_ ?_
  · refine setE (st' := stD c i q s (t + 1) b (some (false, .int N2)) x y) ?_ (show (2 : Nat) < 5 by decide)
    refine ee (p1 := (false, .int (N2 * (N2 / n2 + b2)))) (p2 := (false, .int m3)) (st1 := stD c i q s (t + 1) b (some (false, .int N2)) x y) ?_ rfl (modP _ m3 h3)
    refine e1 (p1 := (false, .int (N2 * (N2 / n2 + b2)))) ?_ rfl
    refine ne (b0 := false) (b := false) (d0 := .int N2) (d := .int N2) (p2 := (false, .int (N2 / n2 + b2))) (st2 := stD c i q s (t + 1) b (some (false, .int N2)) x y) rfl ?_ rfl (mulL _ _ (lit f1 (by omega)))
    refine ee (p1 := (false, .int (N2 / n2))) (p2 := (false, .int b2)) (st1 := stD c i q s (t + 1) b (some (false, .int N2)) x y) ?_ rfl rfl
    exact ne (b0 := false) (b := false) (d0 := .int N2) (d := .int N2) (p2 := (false, .int n2)) (st2 := stD c i q s (t + 1) b (some (false, .int N2)) x y) rfl rfl rfl (fdivP _ _ hn2.1 hn2.2)
  refine seq_ret (retE (st' := stD c i q s (t + 1) b (some (false, .int (N2 * (N2 / n2 + b2) % m3))) x y) ?_)
  refine en (p1 := (false, .int (N2 * (N2 / n2 + b2) % m3 / 16))) (b := false) (d := .int b) ?_ rfl (modP _ b hb)
  refine e1 (p1 := (false, .int (N2 * (N2 / n2 + b2) % m3 / 16))) ?_ rfl
  exact ne (b0 := false) (b := false) (d0 := .int (N2 * (N2 / n2 + b2) % m3)) (d := .int (N2 * (N2 / n2 + b2) % m3)) (p2 := (false, .int 16)) (st2 := stD c i q s (t + 1) b (some (false, .int (N2 * (N2 / n2 + b2) % m3))) x y) rfl rfl rfl (fdivP _ _ (by decide) (by decide))
theorem drawA_run2 (X : M (Bool × D)) (m0 : Int) (hm0 : 0 < m0) (hX : ∀ c i q s t b n cell y, ∃ v, X (stD c i q s t b n (some (false, .int cell)) y) = .ok (false, .int v) (stD c i q s t b n (some (false, .int cell)) y))
    (c : List Int) (i q s t b : Int) (n x y : Option (Bool × D)) (hi : 0 ≤ i) : ∃ i' q' s' x', drawA2 X m0 (stD c i q s t b n x y) = .next (stD c i' q' s' t b n x' y) ∧ 0 ≤ i' := by
  have hlen : ((c.map D.int).length : Int) = (c.length : Int) := by rw [List.length_map]
  have hc : ∀ k : Bool, ((q == 0) && decide (i < ((c.map D.int).length : Int))) = k → mAndT (mT (mOps [(.ex (hnd 2)), (.ex (mC (.int 0)))] dEqF)) (mT (mOps [(.ex (hnd 1)), (.ex (mOps [(.ex (hnd 0))] dLen))] dLt)) (stD c i q s t b n x y) = .ok k (stD c i q s t b n x y) := fun k hk => by
    have a1 : mT (mOps [(.ex (hnd 2)), (.ex (mC (.int 0)))] dEqF) (stD c i q s t b n x y) = .ok (q == 0) (stD c i q s t b n x y) := rfl
    have a2 : mT (mOps [(.ex (hnd 1)), (.ex (mOps [(.ex (hnd 0))] dLen))] dLt) (stD c i q s t b n x y) = .ok (decide (i < ((c.map D.int).length : Int))) (stD c i q s t b n x y) := rfl
    unfold mAndT M.bind
    rw [a1]
    cases hq : (q == 0) with
    | true => rw [hq, Bool.true_and] at hk; subst hk; exact a2
    | false => rw [hq, Bool.false_and] at hk; subst hk; rfl
  cases hk : ((q == 0) && decide (i < ((c.map D.int).length : Int))) with
  | false => exact ⟨i, q, s, x, if_f (hc false hk), hi⟩
  | true =>
    have hlt : i < (c.length : Int) := by
      rw [Bool.and_eq_true, decide_eq_true_eq, hlen] at hk
      exact hk.2
    obtain ⟨cell, hcell⟩ := ixOk (l := c) hi hlt
    obtain ⟨v, hv⟩ := hX c (i + 1) q s t b n cell y
    have goal : ∀ o, seqS (ifS (mT (mOps [(.nm 3), (.ex (mOps [(.ex (mC (.int 10))), (.ex (mC (.int 18)))] dPow))] dGe)) (seqS (stS (mStore 0 (mName 3) (.ex (mC (.int 2))) mfPut)) nextS) nextS) nextS (stD c (i + 1) q (v % m0) t b n (some (false, .int cell)) y) = o → drawA2 X m0 (stD c i q s t b n x y) = o := fun o ho => by
      refine (if_t (hc true hk)).trans ?_
      refine seqN (stD c i q s t b n (some (false, .int cell)) y) ?_ ?_
      · exact setE (st' := stD c i q s t b n x y) (ee (p1 := (false, .lst (c.map D.int))) (p2 := (false, .int i)) (st1 := stD c i q s t b n x y) rfl rfl hcell) (show (3 : Nat) < 5 by decide)
      refine seqN (stD c (i + 1) q s t b n (some (false, .int cell)) y) rfl ?_
      refine seqN (stD c (i + 1) q (v % m0) t b n (some (false, .int cell)) y) ?_ ?_
      · refine storeE (p := (false, .int (v % m0))) (k := (false, .int 3)) (st1 := stD c (i + 1) q s t b n (some (false, .int cell)) y) (st2 := stD c (i + 1) q s t b n (some (false, .int cell)) y) ?_ rfl rfl rfl rfl
        refine ee (p1 := (false, .int v)) (p2 := (false, .int m0)) (st1 := stD c (i + 1) q s t b n (some (false, .int cell)) y) ?_ rfl (modP _ m0 hm0)
        exact e1 (p1 := (false, .int v)) hv rfl
      exact ho
    by_cases hbig : (10 : Int) ^ ((18 : Int).toNat) ≤ cell
    · refine ⟨i + 1, cell, v % m0, some (false, .int cell), goal _ ?_, by omega⟩
      refine seqN (stD c (i + 1) cell (v % m0) t b n (some (false, .int cell)) y) ?_ rfl
      refine (if_t (st' := stD c (i + 1) q (v % m0) t b n (some (false, .int cell)) y) (by show Out.ok (decide ((10 : Int) ^ ((18 : Int).toNat) ≤ cell)) _ = Out.ok true _; rw [decide_eq_true hbig])).trans ?_
      exact seqN (stD c (i + 1) cell (v % m0) t b n (some (false, .int cell)) y) rfl rfl
    · refine ⟨i + 1, q, v % m0, some (false, .int cell), goal _ ?_, by omega⟩
      refine seqN (stD c (i + 1) q (v % m0) t b n (some (false, .int cell)) y) ?_ rfl
      exact if_f (st' := stD c (i + 1) q (v % m0) t b n (some (false, .int cell)) y) (by show Out.ok (decide ((10 : Int) ^ ((18 : Int).toNat) ≤ cell)) _ = Out.ok false _; rw [decide_eq_false hbig])
/-- a draw gives a number below b -/
theorem draw_is2 (X : M (Bool × D)) (m0 a7 a8 m1 n1 b1 m2 n2 b2 m3 : Int) (hm0 : 0 < m0) (hX : ∀ c i q s t b n cell y, ∃ v, X (stD c i q s t b n (some (false, .int cell)) y) = .ok (false, .int v) (stD c i q s t b n (some (false, .int cell)) y))
    (ha7 : 0 ≤ a7 ∧ a7 < 4294967296) (ha8 : 0 ≤ a8 ∧ a8 < 4294967296) (h1 : 0 < m1 ∧ m1 < 4294967296) (hn1 : 0 < n1 ∧ n1 < 1073741824) (h2 : 0 < m2 ∧ m2 < 4294967296) (hn2 : 0 < n2 ∧ n2 < 1073741824) (h3 : 0 < m3)
    {c : List Int} {i q s t b : Int} (hi : 0 ≤ i) (hb : 0 < b) (hb2 : b < 1073741824) : DrawIs (fden true 2 5 (drawS2 X m0 a7 a8 m1 n1 b1 m2 n2 b2 m3)) c b (handD c i q s t) := by
  obtain ⟨i1, q1, s1, x1, eA, hi1⟩ := drawA_run2 X m0 hm0 hX c i q s t b none none none hi
  have eB := drawB_run2 c i1 q1 s1 t b none x1 none hi1 hb hb2
  have fin : ∀ (r i' q' s' t' : Int) (rest : DSt), drawS2 X m0 a7 a8 m1 n1 b1 m2 n2 b2 m3 (stD c i q s t b none none none) = .ret false (.int r) (some (true, handD c i' q' s' t') :: rest) → fden true 2 5 (drawS2 X m0 a7 a8 m1 n1 b1 m2 n2 b2 m3) [handD c i q s t, .int b] = .ok false (.int r) (some (handD c i' q' s' t')) := fun r i' q' s' t' rest h => by
    show (match drawS2 X m0 a7 a8 m1 n1 b1 m2 n2 b2 m3 (stD c i q s t b none none none) with | .next st => finIo true st (.ok false .non) | .ret fr d st => finIo true st (.ok fr d) | .exc c fs st => finIo true st (.exc c fs) | _ => .stuck) = _
    rw [h]
    rfl
  by_cases hq : 0 < q1
  · rw [if_pos hq] at eB
    exact ⟨q1 % b, i1, q1 / b, s1, t, fin _ _ _ _ _ _ ((seq_next eA).trans (seq_ret eB)), Int.emod_nonneg _ (Int.ne_of_gt hb), Int.emod_lt_of_pos _ hb, hi1⟩
  · rw [if_neg hq] at eB
    obtain ⟨r, n', eC, r0, r1⟩ := drawC_run2 a7 a8 m1 n1 b1 m2 n2 b2 m3 c i1 q1 s1 t b none x1 none hb ha7 ha8 h1 hn1 h2 hn2 h3
    exact ⟨r, i1, q1, s1, t + 1, fin _ _ _ _ _ _ ((seq_next eA).trans ((seq_next eB).trans eC)), r0, r1, hi1⟩
end PL
set_option Elab.async false
set_option linter.all false
set_option maxRecDepth 100000
set_option maxHeartbeats 4000000
set_option autoImplicit false
/-! PL32: comprehensions of two clauses. -/
namespace PL
open PySem PySem.Spec PyProof.Rows L2

section
variable {K : PySem.W.Frag} {mg : Str → Option Value} {W : WX} {Z₀ Z₁ : Zp} {H H' H0 : Hp} {st st' st0 : DSt} {σ σ' σ0 : L2.St} {d d' : D} {v : V} {a : Addr} {vs vs1 : List Nat}
end
section
variable {X : Cx} {W : WX} {elt tg iter tg1 iter1 c : Expr} {scope : Scope} {own : List (Str × Nat)} {vs1 : List Nat} {pos spos py : Pos} {mi mi1 : M (List D)} {t t1 : Tg} {m : M (Bool × D)} {mt : M Bool} {io : Bool} {i : Nat} {y : Str}
end
end PL
set_option Elab.async false
set_option linter.all false
set_option maxRecDepth 100000
set_option maxHeartbeats 4000000
set_option autoImplicit false
/-! PL33: instances of own classes: fields read and stored, made, isinstance. -/
namespace PL
open PySem PySem.Spec PyProof.Rows L2

/-! ### a field read -/
section
variable {K : PySem.W.Frag} {mg : Str → Option Value} {Z Z' : Zs} {H H' : Hp} {t : Bool}
theorem RepF.lookup : ∀ {fs : List (Str × D)} {fv : List (Str × V)} {f : Str} {d : D}, RepF K mg Z H fs fv → fs.lookup f = some d → ∃ v, fv.lookup f = some v ∧ Rep K mg Z H d v
  | _, _, _, _, .nil, e => by cases e
  | (x, d0) :: fs, (_, v0) :: fv, f, d, .cons h tl, e => by
    rw [List.lookup_cons] at e ⊢
    cases hq : (f == x) with
    | true => rw [hq] at e; cases e; exact ⟨v0, rfl, h⟩
    | false => rw [hq] at e; exact RepF.lookup tl e
end
section
variable {X : Cx} {W : WX} {e : Expr} {o : Opd} {f : Str} {pos : Pos} {cs : List Str}
end

/-! ### self.f = e -/
def putD (f : Str) (v : D) : List (Str × D) → List (Str × D)
  | [] => [(f, v)]
  | (g, x) :: r => if g = f then (g, v) :: r else (g, x) :: putD f v r
def insPut (cs : List Str) (f : Str) (v : D) : D → Option D
  | .ins c fs => if cs.contains c = true ∧ fs.length < 1000 then some (.ins c (putD f v fs)) else none
  | _ => none
def mStoreF (i : Nat) (cs : List Str) (f : Str) (m : M (Bool × D)) : M Unit := m.bind fun p => (ownAtS i).bind fun d => match insPut cs f p.2 d with
  | some d' => fun st => .ok () (st.set i (some (true, d')))
  | none => M.stop
section
variable {K : PySem.W.Frag} {mg : Str → Option Value} {W : WX} {Z Z' : Zs} {Z₀ : Zp} {H H' : Hp} {st st' : DSt} {σ σ' : L2.St} {d : D} {v : V} {i : Nat}
theorem RepF.length : ∀ {fs : List (Str × D)} {fv : List (Str × V)}, RepF K mg Z H fs fv → fs.length = fv.length
  | _, _, .nil => rfl
  | _, _, .cons _ t => by simp [RepF.length t]
theorem RepF.put {f : Str} (hv : Rep K mg Z H d v) : ∀ {fs : List (Str × D)} {fv : List (Str × V)}, RepF K mg Z H fs fv → RepF K mg Z H (putD f d fs) (putF f v fv)
  | _, _, .nil => .cons hv .nil
  | _, _, .cons (x := x) h t => by
    unfold putD putF
    by_cases hx : x = f
    · rw [if_pos hx, if_pos hx]; exact .cons hv t
    · rw [if_neg hx, if_neg hx]; exact .cons h (RepF.put hv t)
end
section
variable {X : Cx} {W : WX} {io : Bool} {e : Expr} {i : Nat} {x f : Str} {m : M (Bool × D)} {pos p2 q : Pos} {cs : List Str}
end

/-! ### C(..) -/
def fromMk (o : FOut) (st : DSt) : Out (Bool × D) := match o with
  | .ok _ .non (some d) => .ok (true, d) st
  | .exc c fs (some _) => .exc c fs st
  | _ => .stuck
def mMake (c : Str) (m : FDen) (ms : List (M (Bool × D))) : M (Bool × D) := (runExs ms).bind fun ds => fromMk (m (.ins c [] :: ds))
section
variable {X : Cx} {W : WX} {k : Nat} {f C : Addr} {fd : FuncData} {ps : List Str} {m : FDen} {x : Str} {p pos : Pos} {e : Expr} {es : List Expr}
theorem run_makeF {pins : List (Addr × Obj)} {σ : L2.St} {H : Hp} {s : Shared} {Q : VK} {us : List Value} {vs : List V} (M : Mk X.K C f) (F : FOk X.prog X.w X.K X.mg X.base k f fd ps true m) (hr : Room (k + 1) X.A) (hgd : X.A.guards = some [])
    (hb : Binds X.K fd ps []) (tk : Takes X W) (I : Inv X pins σ H s) (r : Vals vs us) (hl : vs.length + 1 = ps.length)
    (h : ∀ x dx, H x = none → H dx = none → dx ≠ x → ∃ Z ds, CallIn X.K X.mg true Z (upd (upd H dx (.own x)) x (.ins C dx [])) ds (.ref x :: vs) (some x) ∧ CallOut X.K X.mg Z (some x) (upd (upd H dx (.own x)) x (.ins C dx [])) (m ds) (fun v H2 => v = .non ∧ Q (.ref x) H2) (fun cls dx' H' => W cls dx' σ H')) :
    wpAny (model X.prog X.w) X.A (call (.ref C) us) (EP X pins σ Q) X.xe s := by
  have hq := h (s.heap.objs.size + 1) s.heap.objs.size (I.hok.fresh (Nat.le_succ _)) (I.hok.fresh (Nat.le_refl _)) (Nat.ne_of_lt (Nat.lt_succ_self _))
  obtain ⟨Z, ds, hin, hout⟩ := hq
  have I2 := Inv.made (C := C) I
  have r2 : Vals (V.ref (s.heap.objs.size + 1) :: vs) (Value.ref (s.heap.objs.size + 1) :: us) := .cons rfl r
  have hl2 : (Value.ref (s.heap.objs.size + 1) :: us).length = ps.length := by
    rw [← r2.length]; exact hl
  have b := hb _ (Value.ref (s.heap.objs.size + 1) :: us) I2.kIn (by rw [List.append_nil]; exact hl2)
  rw [List.append_nil] at b
  have g2 : (X.A.under (.builtin "type.__call__" ⟨.ref C :: us, []⟩)).guards = some [] := by
    have hcg : (Code.builtin "type.__call__" ⟨Value.ref C :: us, []⟩).guards = [] := by with_unfolding_all rfl
    simp only [PySem.Around.under, hgd, hcg]
    rfl
  refine wpAny_call (make_map (f := f) I.kIn M.makes M.init (beq_iff_eq.mp M.fn) (codeAny_mono (F.run _ X.stack _ _ ⟨Value.ref (s.heap.objs.size + 1) :: us, []⟩ (Value.ref (s.heap.objs.size + 1) :: us) _ Z ds _ _ _ (hr.make C us []) g2
    (I2.env0.make C us []) b r2 hl hin hout) fun r s' hq' => ?_))
  cases r with
  | error e => exact passAt tk σ pins _ _ e s' I2 hq'
  | ok fl =>
    cases fl with
    | ret u =>
      obtain ⟨v, H', I3, rv, ev, q3⟩ := I2.after hq'
      subst ev
      exact ⟨rv, ⟨V.ref (s.heap.objs.size + 1), H', I3, rfl, q3⟩⟩
    | next => exact False.elim hq'
    | brk => exact False.elim hq'
    | cont => exact False.elim hq'
theorem make_sound {K : PySem.W.Frag} {mg : Str → Option Value} {W : WX} {σ : L2.St} {H : Hp} {Q : VK} {ms : List (M (Bool × D))} {c : Str} (hm : mg c = some (.ref C)) (h : tD K mg W (mMake c m ms) σ H Q) :
    exT K mg W ms σ H fun vs H1 => vs.length = ms.length ∧ ∀ x dx, H1 x = none → H1 dx = none → dx ≠ x → ∃ Z ds, CallIn K mg true Z (upd (upd H1 dx (.own x)) x (.ins C dx [])) ds (.ref x :: vs) (some x) ∧ CallOut K mg Z (some x) (upd (upd H1 dx (.own x)) x (.ins C dx [])) (m ds) (fun v H2 => v = .non ∧ Q (.ref x) H2) (fun cls dx' H' => W cls dx' σ H') := by
  obtain ⟨Z₀, st, S, h⟩ := h
  refine exs_sound ms σ H _ ⟨Z₀, st, S, ?_⟩
  rw [mMake, post_bind] at h
  refine (exs_len h).mono (fun ds st1 ⟨hlen, h⟩ vs H1 g1 S1 rl => ?_) fun _ _ _ h => h
  refine ⟨rl.length.symm.trans hlen, fun x dx hx hdx ne => ⟨ZZ Z₀ st1 σ, .ins c [] :: ds, ?_, ?_⟩⟩
  · have k1 : ∀ b o, H1 b = some o → upd (upd H1 dx (.own x)) x (.ins C dx []) b = some o := fun b o e => by
      rw [upd_ne (ne_of_none e hx), upd_ne (ne_of_none e hdx)]; exact e
    have nz : ¬ ZZ Z₀ st1 σ x := fun z => S1.zdom x z hx
    have kk : Keeps (ZZ Z₀ st1 σ) (Zof (ZZ Z₀ st1 σ) (some x)) H1 (upd (upd H1 dx (.own x)) x (.ins C dx [])) := fun b o n e _ => ⟨k1 b o e, fun z => z.elim n fun z => by cases z; rw [hx] at e; cases e⟩
    refine ⟨⟨S1.tabs.ext k1, fun a z => ?_⟩, ?_⟩
    · have := S1.zdom a z
      cases q : H1 a with
      | none => exact absurd q this
      | some o => rw [k1 a o q]; simp
    · rw [if_pos rfl]
      exact ⟨x, .ins c [], ds, vs, rfl, rfl, rfl, nz, rfl, .ins hm upd_same (fun e => by cases e) .nil, rl.mono kk⟩
  · have k1 : ∀ b o, H1 b = some o → upd (upd H1 dx (.own x)) x (.ins C dx []) b = some o := fun b o e => by
      rw [upd_ne (ne_of_none e hx), upd_ne (ne_of_none e hdx)]; exact e
    cases e : m (.ins c [] :: ds) with
    | stuck => rw [e] at h; exact h.elim
    | exc c' fs od =>
      rw [e] at h
      cases od with
      | none => exact h.elim
      | some d1 =>
        intro C' dx' H' ch ior r mc
        have kp : Ext K H1 H' := ⟨fun b u e nt => ch.1 b u (fun z => by cases z; rw [hx] at e; cases e) (k1 b u e) nt, fun b n => ch.2 b (by
          cases q : H1 b with
          | none => exact absurd q n
          | some o => rw [k1 b o q]; simp), ior.1⟩
        exact h C' dx' H' (g1.trans (Grow.extN kp)) (S1.extN kp) (r.later (Keeps.sub fun b z => .inl z)) mc
    | ok fr d od =>
      rw [e] at h
      cases od with
      | none => cases d <;> exact h.elim
      | some d1 =>
        cases d with
        | non =>
          intro v H' ch io r hn
          have kp : Ext K H1 H' := ⟨fun b u e nt => ch.1 b u (fun z => by cases z; rw [hx] at e; cases e) (k1 b u e) nt, fun b n => ch.2 b (by
            cases q : H1 b with
            | none => exact absurd q n
            | some o => rw [k1 b o q]; simp), io.1⟩
          refine ⟨pk_non r, h (.ref x) H' (g1.trans (Grow.extN kp)) (Fin.back (Res.finN ?_ S1 kp) g1.dom)⟩
          unfold Res
          rw [if_pos rfl]
          obtain ⟨tb, mu, ri⟩ := io
          exact ⟨x, rfl, hx, mu, RepP.top (Keeps.sub fun b z => by
            rcases z with z | z
            · exact .inl (.inl z)
            · exact .inl (.inr (by rw [z]))) ri fun _ _ _ q _ => q⟩
        | _ => exact h.elim
theorem Pe.make {ms : List (M (Bool × D))} (hC : ∃ C f fd, X.mg x = some (.ref C) ∧ Mk X.K C f ∧ FOk X.prog X.w X.K X.mg X.base k f fd ps true m ∧ Binds X.K fd ps []) (hr : Room (k + 1) X.A) (hgd : X.A.guards = some []) (tk : Takes X W)
    (ha : PA X (e :: es) (exT X.K X.mg W ms)) (hn : ms.length + 1 = ps.length := by rfl) (hg : Gl X x := by rfl) (hdb : (x == ("__debug__" : Str)) = false := by decide) (he : starEach (e :: es) X.env = (false, eval e X.env) :: starEach es X.env := by rfl) (hpl : (backTo pos (starEach es X.env)).any (·.1) = false := by rfl) :
    Pe X W (.Call (.Name x p) (e :: es) [] pos) (mMake x m ms) := by
  obtain ⟨C, f, fd, hm, M, F, hb⟩ := hC
  refine ⟨fun pins s σ H Q I h => ?_⟩
  refine wpAny_Call_Name_kw (ld_glob I hg hm ?_ hdb)
  refine PySem.W.callWith_K (h₀ := X.base) I.ok.mod.kin M.kp (thn (ha.run pos pins s σ H _ I (make_sound hm h)) fun us s1 ⟨vs, H1, I1, r, hl, q⟩ => ⟨I1.kIn, ?_⟩) he hpl
  exact run_makeF M F hr hgd hb tk I1 r (by rw [hl]; exact hn) q
end

/-! ### isinstance(x, C) -/
/-- what isinstance of the class c asks of the written part; cs: the own classes whose instances may be asked -/
structure InsF (K : PySem.W.Frag) (mg : Str → Option Value) (cs : List Str) (c : Str) : Prop where
  at_ : ∃ C, mg c = some (.ref C) ∧ (∀ n ∈ ["NoneType", "bool", "int", "str", "tuple", "list", "dict"], PySem.W.kitOne K (.type n) (.ref C) = some false) ∧
    ∀ c', cs.contains c' = true → ∃ C', mg c' = some (.ref C') ∧ C8.InsC K C' ∧ PySem.W.kitOne K (.ref C') (.ref C) = some (c' == c)
section
variable {K : PySem.W.Frag} {mg : Str → Option Value} {W : WX}
end
section
variable {X : Cx} {W : WX} {a : Expr} {o : Opd} {x : Str} {p q pos : Pos} {cs : List Str}
end
end PL
set_option Elab.async false
set_option linter.all false
set_option maxRecDepth 100000
set_option maxHeartbeats 1000000
set_option autoImplicit false
/-! PL34: how denotations run, by what is wanted behind them. -/
namespace PL
open PySem PySem.Spec PyProof.Rows L2

section
variable {α β : Type} {st : DSt} {x : Str → List (Str × D) → DSt → Prop} {k : Bool × D → DSt → Prop} {kb : Bool → DSt → Prop} {kd : D → DSt → Prop} {ki : Int → DSt → Prop} {kl : List D → DSt → Prop} {kk : α → DSt → Prop}
  {m m1 m2 : M (Bool × D)} {mb mb2 : M Bool} {i j : Nat} {d : D} {o o1 o2 o3 : Opd} {r : List Opd} {ops : List Opd} {f : List D → Option (Bool × D)} {ms : List (M (Bool × D))} {dd : FDen}
theorem post_mC : (mC d st).post k x ↔ k (false, d) st := Iff.rfl
theorem post_stop' : ((M.stop : M α) st).post kk x ↔ False := Iff.rfl
theorem post_ops0 : (runOps [] st).post kl x ↔ kl [] st := Iff.rfl
theorem post_opsN : (runOps (.nm i :: r) st).post kl x ↔ ∃ b0 d0, st[i]? = some (some (b0, d0)) ∧ (runOps r st).post (fun ds st' => ∃ b d, st'[i]? = some (some (b, d)) ∧ kl (d :: ds) st') x := by
  rw [runOps, post_bind, post_peek]
  simp only [post_bind, post_peek, post_pure]
theorem post_opsE : (runOps (.ex m :: r) st).post kl x ↔ (m st).post (fun p st1 => (runOps r st1).post (fun ds st2 => kl (p.2 :: ds) st2) x) x := by
  rw [runOps, post_bind]
  simp only [post_bind, post_pure]
theorem post_mOps : (mOps ops f st).post k x ↔ (runOps ops st).post (fun ds st' => ∃ q, f ds = some q ∧ k q st') x := by
  rw [mOps, post_bind]
  simp only [post_lift]
theorem post_exs0 : (runExs [] st).post kl x ↔ kl [] st := Iff.rfl
theorem post_exsC : (runExs (m :: ms) st).post kl x ↔ (m st).post (fun p st1 => (runExs ms st1).post (fun ds st2 => kl (p.2 :: ds) st2) x) x := by
  rw [runExs, post_bind]
  simp only [post_bind, post_pure]
theorem post_mT : (mT m st).post kb x ↔ (m st).post (fun p st' => ∃ b, p.2 = .bl b ∧ kb b st') x := by
  rw [mT, post_bind]
  constructor
  · intro h
    refine h.mono (fun p st' h => ?_) fun _ _ _ h => h
    obtain ⟨fr, d⟩ := p
    cases d <;> first | exact ⟨_, rfl, h⟩ | exact h.elim
  · intro h
    refine h.mono (fun p st' h => ?_) fun _ _ _ h => h
    obtain ⟨fr, d⟩ := p
    obtain ⟨b, e, h⟩ := h
    have e : d = .bl b := e
    subst e
    exact h
theorem post_notT : (mNotT mb st).post kb x ↔ (mb st).post (fun b st' => kb (!b) st') x := by
  rw [mNotT, post_bind]; exact Iff.rfl
theorem post_andT : (mAndT mb mb2 st).post kb x ↔ (mb st).post (fun b st' => if b = true then (mb2 st').post kb x else kb false st') x := by
  rw [mAndT, post_bind]; simp only [post_ite, post_pure]
theorem post_orT : (mOrT mb mb2 st).post kb x ↔ (mb st).post (fun b st' => if b = true then kb true st' else (mb2 st').post kb x) x := by
  rw [mOrT, post_bind]; simp only [post_ite, post_pure]
theorem post_mIf {ma mb' : M α} : (mIf mb ma mb' st).post kk x ↔ (mb st).post (fun b st' => if b = true then (ma st').post kk x else (mb' st').post kk x) x := by
  rw [mIf, post_bind]; simp only [post_ite]
theorem post_andV : (mAndV m1 m2 st).post k x ↔ (mT m1 st).post (fun b st' => if b = true then (m2 st').post k x else k (false, .bl false) st') x := by
  rw [mAndV, post_bind]; simp only [post_ite, post_pure]
theorem post_orV : (mOrV m1 m2 st).post k x ↔ (mT m1 st).post (fun b st' => if b = true then k (false, .bl true) st' else (m2 st').post k x) x := by
  rw [mOrV, post_bind]; simp only [post_ite, post_pure]
theorem post_peekN : (peekO (.nm i) st).post kd x ↔ ∃ b d, st[i]? = some (some (b, d)) ∧ kd d st := post_peek
theorem post_peekE : (peekO (.ex m) st).post kd x ↔ (m st).post (fun p st' => kd p.2 st') x := by
  rw [peekO, post_bind]; exact Iff.rfl
theorem post_intM : (intM o st).post ki x ↔ (peekO o st).post (fun d st' => ∃ n, d = .int n ∧ ki n st') x := by
  rw [intM, post_bind]
  constructor
  · intro h
    refine h.mono (fun d st' h => ?_) fun _ _ _ h => h
    cases d <;> first | exact ⟨_, rfl, h⟩ | exact h.elim
  · intro h
    refine h.mono (fun d st' h => ?_) fun _ _ _ h => h
    obtain ⟨b, e, h⟩ := h
    subst e
    exact h
theorem post_chain {g h : Int → Int → Bool} : (mChain g h o1 o2 o3 st).post k x ↔ (intM o1 st).post (fun i st1 => (intM o2 st1).post (fun j st2 => if g i j = true then (intM o3 st2).post (fun l st3 => k (false, .bl (h j l)) st3) x else k (false, .bl false) st2) x) x := by
  rw [mChain, post_bind]
  simp only [post_bind, post_ite, post_pure]
theorem post_tup : (mTup ms st).post k x ↔ (runExs ms st).post (fun ds st' => if ds.length ≤ sizeLine then k (false, .tup false ds) st' else False) x := by
  rw [mTup, post_bind]; simp only [post_ite, post_pure, post_stop']
theorem post_lst : (mLst ms st).post k x ↔ (runExs ms st).post (fun ds st' => if ds.length ≤ sizeLine then k (true, .lst ds) st' else False) x := by
  rw [mLst, post_bind]; simp only [post_ite, post_pure, post_stop']
theorem post_items : (mItems m st).post kl x ↔ (m st).post (fun p st' => ∃ ds, itemsOf p.2 = some ds ∧ kl ds st') x := by
  rw [mItems, post_bind]; simp only [post_lift]
theorem post_range1 : (mRange1 o st).post kl x ↔ (intM o st).post (fun n st' => if -(2 ^ 62) ≤ n ∧ n < 2 ^ 62 then kl (rangeD 0 1 n.toNat) st' else False) x := by
  rw [mRange1, post_bind]; simp only [post_ite, post_pure, post_stop']
theorem post_range2 : (mRange2 o1 o2 st).post kl x ↔ (intM o1 st).post (fun a st' => (intM o2 st').post (fun b st'' => if (-(2 ^ 62) ≤ a ∧ a < 2 ^ 62) ∧ -(2 ^ 62) ≤ b ∧ b < 2 ^ 62 then kl (rangeD a 1 (b - a).toNat) st'' else False) x) x := by
  rw [mRange2, post_bind]; simp only [post_bind, post_ite, post_pure, post_stop']
theorem post_mEnum : (mEnum m st).post kl x ↔ (m st).post (fun p st' => ∃ ds, enumOf p.2 = some ds ∧ kl ds st') x := by
  rw [mEnum, post_bind]; simp only [post_lift]
theorem post_mZip : (mZip m1 m2 st).post kl x ↔ (m1 st).post (fun p st1 => (m2 st1).post (fun q st2 => ∃ ds, zipOf p.2 q.2 = some ds ∧ kl ds st2) x) x := by
  rw [mZip, post_bind]; simp only [post_bind, post_lift]
theorem post_lstRg {mr : M (Int × Int)} : (mLstRg mr st).post k x ↔ (mr st).post (fun p st' => if rgOk p.1 p.2 = true then k (true, .lst (rgD p.1 p.2)) st' else False) x := by
  rw [mLstRg, post_bind]; simp only [post_ite, post_pure, post_stop']
theorem post_tupRg {mr : M (Int × Int)} : (mTupRg mr st).post k x ↔ (mr st).post (fun p st' => if rgOk p.1 p.2 = true then k (false, .tup false (rgD p.1 p.2)) st' else False) x := by
  rw [mTupRg, post_bind]; simp only [post_ite, post_pure, post_stop']
theorem post_rg1 {kr : Int × Int → DSt → Prop} : (mRg1 o st).post kr x ↔ (intM o st).post (fun n st' => kr (0, n) st') x := by
  rw [mRg1, post_bind]; simp only [post_pure]
theorem post_rg2 {kr : Int × Int → DSt → Prop} : (mRg2 o1 o2 st).post kr x ↔ (intM o1 st).post (fun a st' => (intM o2 st').post (fun b st'' => kr (a, b) st'') x) x := by
  rw [mRg2, post_bind]; simp only [post_bind, post_pure]
/-! ### calls -/
/-- what a call gives -/
def FOut.post (o : FOut) (P : Bool → D → Option D → Prop) (X : Str → List (Str × D) → Option D → Prop) : Prop := match o with
  | .ok fr d od => P fr d od
  | .exc c fs od => X c fs od
  | .stuck => False
def onNone (P : Prop) : Option D → Prop
  | none => P
  | some _ => False
def onSome (P : D → Prop) : Option D → Prop
  | some d => P d
  | none => False
theorem post_fromF {q : FOut} : (fromF q st).post k x ↔ q.post (fun fr d od => onNone (k (fr, d) st) od) fun c fs od => onNone (x c fs st) od := by
  cases q with
  | ok fr d od => cases od <;> exact Iff.rfl
  | exc c fs od => cases od <;> exact Iff.rfl
  | stuck => exact Iff.rfl
theorem post_fromFio {q : FOut} : (fromFio i q st).post k x ↔ q.post (fun fr d od => onSome (fun d' => k (fr, d) (st.set i (some (true, d')))) od) fun c fs od => onSome (fun d' => x c fs (st.set i (some (true, d')))) od := by
  cases q with
  | ok fr d od => cases od <;> exact Iff.rfl
  | exc c fs od => cases od <;> exact Iff.rfl
  | stuck => exact Iff.rfl
theorem post_call : (mCall dd ms st).post k x ↔ (runExs ms st).post (fun ds st1 => (dd ds).post (fun fr d od => onNone (k (fr, d) st1) od) fun c fs od => onNone (x c fs st1) od) x := by
  rw [mCall, post_bind]; simp only [post_fromF]
theorem post_callIo : (mCallIo dd i ms st).post k x ↔ ∃ d0, st[i]? = some (some (true, d0)) ∧ (runExs ms st).post (fun ds st1 => ∃ d1, st1[i]? = some (some (true, d1)) ∧ (dd (d1 :: ds)).post (fun fr d od => onSome (fun d' => k (fr, d) (st1.set i (some (true, d')))) od) fun c fs od => onSome (fun d' => x c fs (st1.set i (some (true, d')))) od) x := by
  rw [mCallIo, post_bind, post_own]
  simp only [post_bind, post_own, post_fromFio]
theorem post_mut {kdb : Bool} {fm : D → List D → Option (D × D)} : (mMut kdb i ms fm st).post k x ↔ ∃ d0, st[i]? = some (some (true, d0)) ∧ ownKind kdb d0 = true ∧ (runExs ms st).post (fun ds st1 => ∃ d1, st1[i]? = some (some (true, d1)) ∧ ∃ q, fm d1 ds = some q ∧ k (false, q.2) (st1.set i (some (true, q.1)))) x := by
  rw [mMut, post_bind, post_own]
  constructor
  · rintro ⟨d, e, h⟩
    refine ⟨d, e, ?_⟩
    rw [post_ite] at h
    split at h
    · rename_i hk
      refine ⟨hk, ?_⟩
      rw [post_bind] at h
      refine h.mono (fun ds st1 h => ?_) fun _ _ _ h => h
      rw [post_bind, post_own] at h
      obtain ⟨d1, e1, h⟩ := h
      refine ⟨d1, e1, ?_⟩
      cases e2 : fm d1 ds with
      | none => rw [e2] at h; exact h.elim
      | some q => rw [e2] at h; exact ⟨q, rfl, h⟩
    · exact h.elim
  · rintro ⟨d, e, hk, h⟩
    refine ⟨d, e, ?_⟩
    rw [post_ite, if_pos hk, post_bind]
    refine h.mono (fun ds st1 ⟨d1, e1, q, e2, h⟩ => ?_) fun _ _ _ h => h
    rw [post_bind, post_own]
    refine ⟨d1, e1, ?_⟩
    rw [e2]
    exact h
theorem FOut.post_okI {fr : Bool} {d : D} {od : Option D} {P : Bool → D → Option D → Prop} {X : Str → List (Str × D) → Option D → Prop} : (FOut.ok fr d od).post P X ↔ P fr d od := Iff.rfl
theorem onNone_n {P : Prop} : onNone P none ↔ P := Iff.rfl
theorem onSome_s {P : D → Prop} : onSome P (some d) ↔ P d := Iff.rfl
/-! ### slices -/
theorem post_slN {fc : D → Option Int → Option Int → Option (Bool × D)} {lo hi : Option Opd} : (mSl fc (.nm i) lo hi st).post k x ↔ ∃ b0 d0, st[i]? = some (some (b0, d0)) ∧ (oM lo st).post (fun l st1 => (oM hi st1).post (fun h st2 => ∃ b d, st2[i]? = some (some (b, d)) ∧ ∃ q, fc d l h = some q ∧ k q st2) x) x := by
  rw [mSl, post_bind, post_peek]
  simp only [post_bind, post_peek, post_lift]
theorem post_slE {fc : D → Option Int → Option Int → Option (Bool × D)} {lo hi : Option Opd} : (mSl fc (.ex m) lo hi st).post k x ↔ (m st).post (fun p st0 => (oM lo st0).post (fun l st1 => (oM hi st1).post (fun h st2 => ∃ q, fc p.2 l h = some q ∧ k q st2) x) x) x := by
  rw [mSl, post_bind]
  simp only [post_bind, post_lift]
/-! ### comprehensions -/
theorem post_lc {mi : M (List D)} {vs : List Nat} {t : Tg} {test : M Bool} {elt : M (Bool × D)} : (mLc mi vs t test elt st).post k x ↔ (mi st).post (fun ds st1 => ds.length ≤ sizeLine ∧ hid vs st1 = true ∧ (lcL vs t test elt ds [] (wipeD st1 vs)).post (fun acc st2 => k (true, .lst acc) (putBack st1 st2 vs)) fun _ _ _ => False) x := by
  rw [mLc, post_bind]
  have : ∀ (ds : List D) (st1 : DSt), ((if ds.length ≤ sizeLine then (inBlock vs (lcL vs t test elt ds [])).bind fun acc => M.pure (true, .lst acc) else M.stop : M (Bool × D)) st1).post k x ↔ ds.length ≤ sizeLine ∧ hid vs st1 = true ∧ (lcL vs t test elt ds [] (wipeD st1 vs)).post (fun acc st2 => k (true, .lst acc) (putBack st1 st2 vs)) fun _ _ _ => False := fun ds st1 => by
    rw [post_ite]
    by_cases h : ds.length ≤ sizeLine
    · rw [if_pos h, post_bind, post_block]
      simp only [h, true_and]
      exact Iff.rfl
    · rw [if_neg h]
      simp only [h, false_and]
      exact Iff.rfl
  simp only [this]
/-- a comprehension's loop, by an invariant over (rest, made so far, slots) -/
theorem lc_inv {vs : List Nat} {t : Tg} {test : M Bool} {elt : M (Bool × D)} {K : List D → DSt → Prop} (I : List D → List D → DSt → Prop)
    (hs : ∀ d r acc st, I (d :: r) acc st → ∃ st1, bindT t d st = some st1 ∧ (test st1).post (fun b st2 => if b = true then (elt st2).post (fun p st3 => hid vs st3 = true ∧ I r (acc ++ [p.2]) (wipeD st3 vs)) (fun _ _ _ => False) else hid vs st2 = true ∧ I r acc (wipeD st2 vs)) fun _ _ _ => False)
    (hd : ∀ acc st, I [] acc st → K acc st) : ∀ (ds acc : List D) (st : DSt), I ds acc st → (lcL vs t test elt ds acc st).post K fun _ _ _ => False
  | [], acc, st, h => hd acc st h
  | d :: r, acc, st, h => by
    rw [lcL, post_bind, post_bindM]
    obtain ⟨st1, e, h⟩ := hs d r acc st h
    refine ⟨st1, e, ?_⟩
    rw [post_bind, post_noX]
    refine h.mono (fun b st2 h => ?_) fun _ _ _ h => h
    rw [post_ite]
    cases b with
    | true =>
      rw [if_pos rfl] at h ⊢
      rw [post_bind, post_noX]
      refine h.mono (fun p st3 h => ?_) fun _ _ _ h => h
      rw [post_bind, post_wipeM]
      exact ⟨h.1, lc_inv I hs hd r _ _ h.2⟩
    | false =>
      rw [if_neg (by simp)] at h ⊢
      rw [post_bind, post_wipeM]
      exact ⟨h.1, lc_inv I hs hd r _ _ h.2⟩
/-! ### statements -/
variable {P : PEnds} {a b c : MS}
theorem post_next : (nextS st).post P ↔ P.nx st := Iff.rfl
theorem post_brk : (brkS st).post P ↔ P.bk st := Iff.rfl
theorem post_cont : (contS st).post P ↔ P.ct st := Iff.rfl
theorem post_retN : (retN st).post P ↔ P.rt false .non st := Iff.rfl
theorem post_set : (setS i m st).post P ↔ (m st).post (fun p st' => if i < st'.length then P.nx (st'.set i (some p)) else False) P.ex := by
  rw [setS, post_with]
  have : ∀ (p : Bool × D) (st' : DSt), ((if i < st'.length then OutS.next (st'.set i (some (p.1, p.2))) else .stuck : OutS)).post P ↔ if i < st'.length then P.nx (st'.set i (some p)) else False := fun p st' => by
    split <;> exact Iff.rfl
  simp only [this]
theorem post_retS : (retS m st).post P ↔ (m st).post (fun p st' => P.rt p.1 p.2 st') P.ex := by
  rw [retS, post_with]; exact Iff.rfl
theorem post_drop : (dropS m st).post P ↔ (m st).post (fun _ st' => P.nx st') P.ex := by
  rw [dropS, post_with]; exact Iff.rfl
theorem post_back : (backS i st).post P ↔ ∃ b d, st[i]? = some (some (b, d)) ∧ P.rt b d (if b then st.set i none else st) := by
  unfold backS
  constructor
  · intro h
    split at h
    · rename_i b d e; exact ⟨b, d, e, h⟩
    · exact h.elim
  · rintro ⟨b, d, e, h⟩
    rw [e]; exact h
theorem post_par : (parS i j m1 m2 st).post P ↔ (m1 st).post (fun p st1 => (m2 st1).post (fun q st2 => if i < st2.length ∧ j < st2.length then P.nx ((st2.set i (some p)).set j (some q)) else False) P.ex) P.ex := by
  rw [parS, post_with]
  have : ∀ (p q : Bool × D) (st' : DSt), ((if i < st'.length ∧ j < st'.length then OutS.next ((st'.set i (some (p.1, p.2))).set j (some (q.1, q.2))) else .stuck : OutS)).post P ↔ if i < st'.length ∧ j < st'.length then P.nx ((st'.set i (some p)).set j (some q)) else False := fun p q st' => by
    split <;> exact Iff.rfl
  simp only [post_with, this]
theorem post_asg {t : Tg} : (asgS t m st).post P ↔ (m st).post (fun p st' => ∃ st2, bindT t p.2 st' = some st2 ∧ P.nx st2) P.ex := by
  rw [asgS, post_with]
  simp only [post_bindS, post_next]
theorem post_ifI {mc : M Bool} : (ifS mc a b st).post P ↔ (mc st).post (fun k st' => if k = true then (a st').post P else (b st').post P) P.ex := by
  rw [post_if]
  have : ∀ (k : Bool) (st' : DSt), (if k then a st' else b st').post P ↔ if k = true then (a st').post P else (b st').post P := fun k st' => by cases k <;> exact Iff.rfl
  simp only [this]
theorem post_store {fm : D → List D → Option (D × D)} : (stS (mStore i m o fm) st).post P ↔ (m st).post (fun p st1 => ∃ d0, st1[i]? = some (some (true, d0)) ∧ (peekO o st1).post (fun kx st2 => ∃ d1, st2[i]? = some (some (true, d1)) ∧ ∃ q, fm d1 [kx, p.2] = some q ∧ P.nx (st2.set i (some (true, q.1)))) P.ex) P.ex := by
  rw [post_stS, mStore, post_bind]
  constructor
  · intro h
    refine h.mono (fun p st1 h => ?_) fun _ _ _ h => h
    rw [post_bind, post_own] at h
    obtain ⟨d0, e0, h⟩ := h
    refine ⟨d0, e0, ?_⟩
    rw [post_bind] at h
    refine h.mono (fun kx st2 h => ?_) fun _ _ _ h => h
    rw [post_bind, post_own] at h
    obtain ⟨d1, e1, h⟩ := h
    refine ⟨d1, e1, ?_⟩
    cases e2 : fm d1 [kx, p.2] with
    | none => rw [e2] at h; exact h.elim
    | some q => rw [e2] at h; exact ⟨q, rfl, h⟩
  · intro h
    refine h.mono (fun p st1 h => ?_) fun _ _ _ h => h
    obtain ⟨d0, e0, h⟩ := h
    rw [post_bind, post_own]
    refine ⟨d0, e0, ?_⟩
    rw [post_bind]
    refine h.mono (fun kx st2 h => ?_) fun _ _ _ h => h
    obtain ⟨d1, e1, q, e2, h⟩ := h
    rw [post_bind, post_own]
    refine ⟨d1, e1, ?_⟩
    rw [e2]
    exact h
/-- a for, by an invariant over (rest, slots) -/
theorem for_inv {t : Tg} {b : MS} {P : PEnds} (I : List D → DSt → Prop)
    (hs : ∀ d r st, I (d :: r) st → ∃ st1, bindT t d st = some st1 ∧ (b st1).post { P with nx := fun st => I r st, ct := fun st => I r st, bk := P.nx })
    (hd : ∀ st, I [] st → P.nx st) : ∀ (l : List D) (st : DSt), I l st → (forL t b l st).post P
  | [], st, h => hd st h
  | d :: r, st, h => by
    rw [forL, post_bindS]
    obtain ⟨st1, e, h⟩ := hs d r st h
    refine ⟨st1, e, ?_⟩
    rw [post_turn]
    exact h.mono (fun st h => for_inv I hs hd r st h) (fun _ h => h) (fun st h => for_inv I hs hd r st h) (fun _ _ _ h => h) fun _ _ _ h => h
/-! ### a def's run -/
theorem fden_post {np n : Nat} {mb : MS} {ds : List D} {Q : Bool → D → Option D → Prop} {X : Str → List (Str × D) → Option D → Prop} (hl : ds.length = np) (h : (mb (startSt false n ds)).post { nx := fun _ => Q false .non none, bk := fun _ => False, ct := fun _ => False, rt := fun fr d _ => Q fr d none, ex := fun c fs _ => X c fs none }) :
    (fden false np n mb ds).post Q X := by
  unfold fden
  rw [if_pos hl]
  cases e : mb (startSt false n ds) <;> rw [e] at h <;> exact h
def own0 (st : DSt) (k : D → Prop) : Prop := match st[0]? with
  | some (some (true, d)) => k d
  | _ => False
theorem fden_postIo {np n : Nat} {mb : MS} {ds : List D} {Q : Bool → D → Option D → Prop} {X : Str → List (Str × D) → Option D → Prop} (hl : ds.length = np) (h : (mb (startSt true n ds)).post { nx := fun st => own0 st fun d0 => Q false .non (some d0), bk := fun _ => False, ct := fun _ => False, rt := fun fr d st => own0 st fun d0 => Q fr d (some d0), ex := fun c fs st => own0 st fun d0 => X c fs (some d0) }) :
    (fden true np n mb ds).post Q X := by
  unfold fden
  rw [if_pos hl]
  have go : ∀ (st : DSt) (k : Option D → FOut), own0 st (fun d0 => (k (some d0)).post Q X) → (finIo true st k).post Q X := fun st k h => by
    unfold own0 at h
    unfold finIo
    rw [if_pos rfl]
    cases e : st[0]? with
    | none => rw [e] at h; exact h.elim
    | some x =>
      cases x with
      | none => rw [e] at h; exact h.elim
      | some p =>
        obtain ⟨b, d⟩ := p
        cases b with
        | false => rw [e] at h; exact h.elim
        | true => rw [e] at h; exact h
  cases e : mb (startSt true n ds) <;> rw [e] at h <;> first | exact go _ _ h | exact h
theorem of_post {q : FOut} {Q : Bool → D → Option D → Prop} (h : q.post Q fun _ _ _ => False) : ∃ fr d od, q = .ok fr d od ∧ Q fr d od := by
  cases q with
  | ok fr d od => exact ⟨fr, d, od, rfl, h⟩
  | exc c fs od => exact h.elim
  | stuck => exact h.elim
end
end PL
set_option Elab.async false
set_option linter.all false
set_option maxRecDepth 100000
set_option maxHeartbeats 1000000
set_option autoImplicit false
/-! PL35: comprehensions and draws, by what is wanted behind them. -/
namespace PL
open PySem PySem.Spec PyProof.Rows L2
theorem le1 : (1 : Nat) ≤ sizeLine := by rw [sizeLine_eq]; decide
theorem le2 : (2 : Nat) ≤ sizeLine := by rw [sizeLine_eq]; decide
theorem le3 : (3 : Nat) ≤ sizeLine := by rw [sizeLine_eq]; decide
theorem le4 : (4 : Nat) ≤ sizeLine := by rw [sizeLine_eq]; decide
theorem le5 : (5 : Nat) ≤ sizeLine := by rw [sizeLine_eq]; decide
theorem le6 : (6 : Nat) ≤ sizeLine := by rw [sizeLine_eq]; decide
abbrev NX : Str → List (Str × D) → DSt → Prop := fun _ _ _ => False
/-- a comprehension whose items leave the slots alone -/
theorem lc_map {vs : List Nat} {t : Tg} {test : M Bool} {elt : M (Bool × D)} {K : List D → DSt → Prop} {st : DSt} (p : D → Bool) (g : D → D) : ∀ (ds acc : List D),
    (∀ d ∈ ds, ∃ st1, bindT t d st = some st1 ∧ wipeD st1 vs = st ∧ hid vs st1 = true ∧ (test st1).post (fun b st2 => b = p d ∧ st2 = st1) NX ∧ (p d = true → (elt st1).post (fun q st3 => q.2 = g d ∧ st3 = st1) NX)) →
    K (acc ++ (ds.filter p).map g) st → (lcL vs t test elt ds acc st).post K NX
  | [], acc, _, h => by simpa [lcL, M.pure, Out.post] using h
  | d :: r, acc, hs, h => by
    obtain ⟨st1, e, w, hh, ht, he⟩ := hs d (by simp)
    rw [lcL, post_bind, post_bindM]
    refine ⟨st1, e, ?_⟩
    rw [post_bind, post_noX]
    refine ht.mono (fun b st2 ⟨e1, e2⟩ => ?_) fun _ _ _ h => h
    subst e1 e2
    rw [post_ite]
    have hs' := fun d hd => hs d (List.mem_cons_of_mem _ hd)
    cases hp : p d with
    | true =>
      rw [if_pos rfl, post_bind, post_noX]
      refine (he hp).mono (fun q st3 ⟨e1, e2⟩ => ?_) fun _ _ _ h => h
      subst e2
      rw [post_bind, post_wipeM]
      refine ⟨hh, ?_⟩
      rw [w, e1]
      refine lc_map p g r _ hs' ?_
      rw [List.filter_cons_of_pos hp] at h
      simpa using h
    | false =>
      rw [if_neg (by simp), post_bind, post_wipeM]
      refine ⟨hh, ?_⟩
      rw [w]
      refine lc_map p g r _ hs' ?_
      rw [List.filter_cons_of_neg (by simp [hp])] at h
      exact h
/-- without a test -/
theorem lc_map1 {vs : List Nat} {t : Tg} {elt : M (Bool × D)} {K : List D → DSt → Prop} {st : DSt} (g : D → D) {ds acc : List D}
    (hs : ∀ d ∈ ds, ∃ st1, bindT t d st = some st1 ∧ wipeD st1 vs = st ∧ hid vs st1 = true ∧ (elt st1).post (fun q st3 => q.2 = g d ∧ st3 = st1) NX) (h : K (acc ++ ds.map g) st) : (lcL vs t (M.pure true) elt ds acc st).post K NX := by
  refine lc_map (fun _ => true) g ds acc (fun d hd => ?_) (by rw [List.filter_eq_self.mpr (fun _ _ => rfl)]; exact h)
  obtain ⟨st1, e1, e2, e3, e4⟩ := hs d hd
  exact ⟨st1, e1, e2, e3, ⟨rfl, rfl⟩, fun _ => e4⟩
/-- a comprehension whose items change the slots: each item has P, the slots keep I -/
theorem lc_any {vs : List Nat} {t : Tg} {elt : M (Bool × D)} {K : List D → DSt → Prop} (I : DSt → Prop) (P : D → Prop) {ds : List D} {st : DSt}
    (hs : ∀ d st, d ∈ ds → I st → ∃ st1, bindT t d st = some st1 ∧ (elt st1).post (fun p st3 => hid vs st3 = true ∧ P p.2 ∧ I (wipeD st3 vs)) NX)
    (h0 : I st) (hd : ∀ out st, out.length = ds.length → (∀ o ∈ out, P o) → I st → K out st) : (lcL vs t (M.pure true) elt ds [] st).post K NX := by
  refine lc_inv (fun r acc st => (∀ d ∈ r, d ∈ ds) ∧ acc.length + r.length = ds.length ∧ (∀ o ∈ acc, P o) ∧ I st) (fun d r acc st ⟨h1, h2, h3, h4⟩ => ?_) (fun acc st ⟨_, h2, h3, h4⟩ => hd acc st (by simpa using h2) h3 h4) ds [] st ⟨fun d h => h, by simp, by simp, h0⟩
  obtain ⟨st1, e, h⟩ := hs d st (h1 d (by simp)) h4
  refine ⟨st1, e, ?_⟩
  rw [post_pure, if_pos rfl]
  refine h.mono (fun p st3 ⟨a, b, c⟩ => ⟨a, fun d hd => h1 d (by simp [hd]), by simp only [List.length_append, List.length_cons, List.length_nil] at h2 ⊢; omega, fun o ho => ?_, c⟩) fun _ _ _ h => h
  rcases List.mem_append.mp ho with z | z
  · exact h3 o z
  · rw [List.mem_singleton.mp z]; exact b
/-! ### draws -/
theorem draw_post {dd : FDen} (hd : DrawOk dd) {c : List Int} {i q s t b : Int} {P : Bool → D → Option D → Prop} {X : Str → List (Str × D) → Option D → Prop} (hi : 0 ≤ i) (hb : 0 < b) (hb2 : b < 1073741824)
    (h : ∀ r i' q' s' t', 0 ≤ r → r < b → 0 ≤ i' → P false (.int r) (some (handD c i' q' s' t'))) : (dd [handD c i q s t, .int b]).post P X := by
  obtain ⟨r, i', q', s', t', e, r0, r1, hi'⟩ := hd c i q s t b hi hb hb2
  rw [e]
  exact h r i' q' s' t' r0 r1 hi'
/-- an item of a list by a draw -/
theorem ix_draw {l : List D} {r : Int} (h0 : 0 ≤ r) (h1 : r < (l.length : Int)) : ∃ d, d ∈ l ∧ L2.atI l r = some d := by
  have hl : r.toNat < l.length := by omega
  refine ⟨l[r.toNat], List.getElem_mem hl, ?_⟩
  unfold L2.atI ixN
  rw [if_pos h0, if_pos h1]
  show l[r.toNat]? = _
  rw [List.getElem?_eq_getElem hl]
end PL
set_option Elab.async false
set_option linter.all false
set_option maxRecDepth 100000
set_option maxHeartbeats 1000000
set_option autoImplicit false
/-! PL36: t + u, the new tuple known to have no dict. -/
namespace PL
open PySem PySem.Spec PyProof.Rows L2
def rCatN (K : PySem.W.Frag) : R2 := fun x y H Q => ∃ a b xs ys, x = .ref a ∧ y = .ref b ∧ SqT K H a xs ∧ SqT K H b ys ∧ xs.length + ys.length ≤ sizeLine ∧
  (xs = [] → Q (.ref b) H) ∧ (xs ≠ [] → ys = [] → Q (.ref a) H) ∧ (xs ≠ [] → ys ≠ [] → ∀ p o, H p = none → o.dict = none → Q (.ref p) (upd H p (.frz o (.tup (xs ++ ys)))))
theorem op_catN {X : Cx} : OpR X (binaryOp .Add) (rCatN X.K) := by
  intro pins s σ H x y v u Q I rx ry h
  obtain ⟨a, b, xs, ys, rfl, rfl, ha, hb, hz, q0, q1, q2⟩ := h
  by_cases hx : xs = []
  · exact op_catA pins s σ H _ _ v u Q I rx ry ⟨a, b, xs, ys, rfl, rfl, ha, hb, hz, q0, q1, fun n => absurd hx n⟩
  · cases rx
    cases ry
    obtain ⟨its, r1, p1, _⟩ := I.tuple ha
    obtain ⟨its2, r2, p2, _⟩ := I.tuple hb
    refine HT.cat_tup p1 p2 (fun z => hx (r1.nil_iff.mp z)) (fun z => ⟨.ref a, H, I, rfl, q1 hx (r2.nil_iff.mp z)⟩) (fun z => ?_) (by rw [← r1.length, ← r2.length]; exact hz)
    exact ⟨.ref s.heap.objs.size, _, tnew (t' := s.toks) I (r1.append r2) (by rw [List.length_append]; exact hz), rfl, q2 hx (fun w => z (r2.nil_iff.mpr w)) _ _ (I.hok.fresh (Nat.le_refl _)) rfl⟩
def dAddN : List D → Option (Bool × D)
  | [.int i, .int j] => fl (.int (i + j))
  | [.str a, .str b] => if a.length + b.length ≤ sizeLine then fl (.str (a ++ b)) else none
  | [.lst a, .lst b] => if a.length + b.length ≤ sizeLine then nw (.lst (a ++ b)) else none
  | [.tup _ [], .tup nb b] => if b.length ≤ sizeLine then fl (.tup nb b) else none
  | [.tup na (x :: a), .tup _ []] => if (x :: a).length ≤ sizeLine then fl (.tup na (x :: a)) else none
  | [.tup _ (x :: a), .tup _ (y :: b)] => if (x :: a).length + (y :: b).length ≤ sizeLine then fl (.tup true (x :: a ++ y :: b)) else none
  | _ => none
def rAddN (K : PySem.W.Frag) : R2 := fun x y H Q => (rAddI x y H Q ∨ rAddS x y H Q) ∨ (rCat x y H Q ∨ rCatN K x y H Q)
theorem or_addN {X : Cx} : OpR X (binaryOp .Add) (rAddN X.K) := OpR.or (OpR.or op_add op_add_str) (OpR.or op_cat op_catN)
section
variable {K : PySem.W.Frag} {mg : Str → Option Value}
theorem b_addN : BSpec K mg (r2L (rAddN K)) dAddN := by
  intro Z H vs ds fr d Q dom pl e k
  unfold dAddN at e
  split at e
  · obtain ⟨x, y, rfl, h1, h2⟩ := pl2 pl
    cases pk_int h1; cases pk_int h2
    exact .inl (.inl ⟨_, _, rfl, rfl, fin0 e (.int _) k⟩)
  · obtain ⟨x, y, rfl, h1, h2⟩ := pl2 pl
    cases pk_str h1; cases pk_str h2
    split at e
    · rename_i hl
      exact .inl (.inr ⟨_, _, rfl, rfl, hl, fin0 e (.str _) k⟩)
    · cases e
  · obtain ⟨x, y, rfl, h1, h2⟩ := pl2 pl
    obtain ⟨a1, xs, rfl, q1, r1⟩ := pk_lst h1
    obtain ⟨a2, ys, rfl, q2, r2⟩ := pk_lst h2
    split at e
    · rename_i hl
      exact .inr (.inl ⟨_, _, xs, ys, rfl, rfl, q1, q2, by rw [← r1.length, ← r2.length]; exact hl, fun p hp => finL e (res_lst dom hp (r1.append r2)) (ext_new hp) k⟩)
    · cases e
  · obtain ⟨x, y, rfl, h1, h2⟩ := pl2 pl
    obtain ⟨a1, xs, rfl, q1, r1⟩ := pk_tup h1
    obtain ⟨a2, ys, rfl, q2, r2⟩ := pk_tup h2
    cases r1
    split at e
    · rename_i hl
      refine .inr (.inr ⟨_, _, [], ys, rfl, rfl, q1, q2, by rw [← r2.length]; simpa using hl, fun n1 => fin0 e (h2.up' rfl) k, fun n1 => absurd rfl n1, fun n1 => absurd rfl n1⟩)
    · cases e
  · obtain ⟨x, y, rfl, h1, h2⟩ := pl2 pl
    obtain ⟨a1, xs, rfl, q1, r1⟩ := pk_tup h1
    obtain ⟨a2, ys, rfl, q2, r2⟩ := pk_tup h2
    cases r2
    split at e
    · rename_i hl
      refine .inr (.inr ⟨_, _, xs, [], rfl, rfl, q1, q2, by rw [← r1.length]; simpa using hl, fun n1 => ?_, fun n1 n2 => fin0 e (h1.up' rfl) k, fun n1 n2 => absurd rfl n2⟩)
      cases r1.nil_iff.mpr n1
    · cases e
  · obtain ⟨x, y, rfl, h1, h2⟩ := pl2 pl
    obtain ⟨a1, xs, rfl, q1, r1⟩ := pk_tup h1
    obtain ⟨a2, ys, rfl, q2, r2⟩ := pk_tup h2
    split at e
    · rename_i hl
      refine .inr (.inr ⟨_, _, xs, ys, rfl, rfl, q1, q2, by rw [← r1.length, ← r2.length]; exact hl, fun n1 => ?_, fun n1 n2 => ?_, fun n1 n2 p o hp hd => ?_⟩)
      · cases r1.nil_iff.mpr n1
      · cases r2.nil_iff.mpr n2
      · exact finT e (res_tupN dom hp hd (r1.append r2)) (ext_new hp) k
    · cases e
  · cases e
end
end PL
set_option Elab.async false
set_option linter.all false
set_option maxRecDepth 100000
set_option maxHeartbeats 1000000
set_option autoImplicit false
/-! PL37: displays and slices of tuples known to have no dict; great products; x += e; the lesser, the greater of two. -/
namespace PL
open PySem PySem.Spec PyProof.Rows L2
/-! ### (a, b) -/
def tTupN (t : TA) : TE := fun σ H Q => t σ H fun xs H1 => xs.length ≤ sizeLine ∧ ∀ p o, H1 p = none → o.dict = none → Q (.ref p) (upd H1 p (.frz o (.tup xs)))
theorem pe_tupN {X : Cx} {es : List Expr} {pos : Pos} {t : TA} {x1} (h : PA X es t) : PE X (.Tuple es x1 pos) (tTupN t) := by
  refine ⟨fun pins s σ H Q I hq => ?_⟩
  refine wpAny_Tuple_spliced (thn (h.run pos pins s σ H _ I hq) fun us s1 ⟨xs, H1, I1, r, z, q⟩ => ⟨by rw [← r.length]; exact z, ?_⟩)
  exact ⟨.ref s1.heap.objs.size, _, tnew (t' := s1.toks) I1 r z, rfl, q _ _ (I1.hok.fresh (Nat.le_refl _)) rfl⟩
def mTupN (ms : List (M (Bool × D))) : M (Bool × D) := (runExs ms).bind fun ds => if ds.length ≤ sizeLine then M.pure (false, .tup true ds) else M.stop
theorem tupN_sound {K : PySem.W.Frag} {mg : Str → Option Value} {W : WX} {σ : L2.St} {H : Hp} {ms : List (M (Bool × D))} {Q : VK} (h : tD K mg W (mTupN ms) σ H Q) : tTupN (exT K mg W ms) σ H Q := by
  obtain ⟨Z₀, st, S, h⟩ := h
  rw [mTupN, post_bind] at h
  refine exs_sound ms σ H _ ⟨Z₀, st, S, h.mono (fun ds st1 h vs H1 g S1 rl => ?_) fun _ _ _ h => h⟩
  by_cases hz : ds.length ≤ sizeLine
  case neg => rw [if_neg hz] at h; exact h.elim
  rw [if_pos hz] at h
  exact ⟨by rw [← rl.length]; exact hz, fun p o hp hd => h _ _ (g.trans (Grow.ext (ext_new hp))) (Fin.back (Res.fin (res_tupN S1.zdom hp hd rl) S1 (ext_new hp)) g.dom)⟩
theorem Pe.tupN {X : Cx} {W : WX} {es : List Expr} {ms : List (M (Bool × D))} {pos : Pos} {k : Nat} (h : Pxs X W es ms) : Pe X W (.Tuple es k pos) (mTupN ms) := pe_imp (pe_tupN h) fun σ H Q h => tupN_sound h
theorem post_tupN {ms : List (M (Bool × D))} {st : DSt} {x : Str → List (Str × D) → DSt → Prop} {k : Bool × D → DSt → Prop} : (mTupN ms st).post k x ↔ (runExs ms st).post (fun ds st' => if ds.length ≤ sizeLine then k (false, .tup true ds) st' else False) x := by
  rw [mTupN, post_bind]; simp only [post_ite, post_pure, post_stop']
/-! ### t[a:b] -/
def rSlN (K : PySem.W.Frag) : V → Option Int → Option Int → Hp → VK → Prop := fun x lo hi H Q => ∃ a xs, x = .ref a ∧ SqT K H a xs ∧
  (HT.sIx xs.length 0 lo = 0 ∧ HT.sIx xs.length xs.length hi = xs.length → Q (.ref a) H) ∧ (¬ (HT.sIx xs.length 0 lo = 0 ∧ HT.sIx xs.length xs.length hi = xs.length) → ∀ p o, H p = none → o.dict = none → Q (.ref p) (upd H p (.frz o (.tup (cutV xs lo hi)))))
theorem sl_tupN {X : Cx} : SlR X (rSlN X.K) := by
  intro pins s σ H x v vl vu lo hi sl Q I rx hs pl pu h
  obtain ⟨a, xs, rfl, hx, q1, q2⟩ := h
  by_cases hw : HT.sIx xs.length 0 lo = 0 ∧ HT.sIx xs.length xs.length hi = xs.length
  · exact sl_tupA pins s σ H _ v vl vu lo hi sl Q I rx hs pl pu ⟨a, xs, rfl, hx, q1, fun n => absurd hw n⟩
  · cases rx
    obtain ⟨its, r, ht, hz⟩ := I.tuple hx
    have hlen : its.toArray.size = xs.length := by rw [List.size_toArray]; exact r.length.symm
    refine ⟨"tuple", _, PyProof.Rows.slot_tuple_getitem.lookup, ht.typeIs, ?_⟩
    refine HT.getItem_tuple_cut ht hs pl pu (by rw [hlen]; exact hw) ?_ (by rw [hlen]; exact hz)
    rw [hlen]
    exact ⟨.ref s.heap.objs.size, _, tnew (t' := s.toks) I ((r.drop (HT.sIx xs.length 0 lo)).take (HT.sIx xs.length xs.length hi - HT.sIx xs.length 0 lo)) (Nat.le_trans (cutV_length xs lo hi) hz), rfl, q2 hw _ _ (I.hok.fresh (Nat.le_refl _)) rfl⟩
def rSlAllN (K : PySem.W.Frag) : V → Option Int → Option Int → Hp → VK → Prop := fun x lo hi H Q => (rSlL K x lo hi H Q ∨ rSlN K x lo hi H Q) ∨ rSlS x lo hi H Q
theorem sl_allN {X : Cx} : SlR X (rSlAllN X.K) := SlR.or (SlR.or sl_list sl_tupN) sl_str
def dCutN : D → Option Int → Option Int → Option (Bool × D)
  | .lst ds, lo, hi => nw (.lst (cutL ds lo hi))
  | .rol ds, lo, hi => nw (.lst (cutL ds lo hi))
  | .tup nd ds, lo, hi => if HT.sIx ds.length 0 lo = 0 ∧ HT.sIx ds.length ds.length hi = ds.length then fl (.tup nd ds) else fl (.tup true (cutL ds lo hi))
  | .str x, lo, hi => if x.length ≤ sizeLine then fl (.str (cutS x lo hi)) else none
  | _, _, _ => none
section
variable {K : PySem.W.Frag} {mg : Str → Option Value}
theorem s_cutN : SlSpec K mg (rSlAllN K) dCutN := fun Z H v d lo hi fr d' Q dom pk e k => by
  cases d <;> simp only [dCutN, reduceCtorEq] at e
  · rename_i x
    split at e
    · rename_i hz
      rw [show v = .str x from pk_str pk]
      exact .inr ⟨x, rfl, hz, fin0 e (.str _) k⟩
    · cases e
  · obtain ⟨a, xs, rfl, q, r⟩ := pk_tup pk
    obtain ⟨_, _, ea, _, nz, _⟩ := pk_tup' pk
    cases ea
    refine .inl (.inr ⟨a, xs, rfl, q, fun hw => ?_, fun hw p o hp hd => ?_⟩)
    · rw [← r.length] at hw
      rw [if_pos hw] at e
      exact fin0 e (RepP.up pk fun b eb => by cases eb; exact nz) k
    · rw [← r.length] at hw
      rw [if_neg hw] at e
      exact finT e (res_tupN dom hp hd (r.cut lo hi)) (ext_new hp) k
  · obtain ⟨a, xs, rfl, q, r⟩ := pk_lst pk
    exact .inl (.inl ⟨a, xs, rfl, SqL.of q, fun p hp => finL e (res_lst dom hp (r.cut lo hi)) (ext_new hp) k⟩)
  · obtain ⟨a, xs, rfl, q, r⟩ := pk_rol pk
    exact .inl (.inl ⟨a, xs, rfl, q, fun p hp => finL e (res_lst dom hp (r.cut lo hi)) (ext_new hp) k⟩)
end
section
variable {X : Cx} {W : WX} {e : Expr} {o : Opd} {lo hi : Option Expr} {tl tu : Option Opd} {pos p2 : Pos}
theorem Pe.sliceN (h : Po X W e o) (hl : Pp X W lo tl) (hu : Pp X W hi tu) : Pe X W (.Subscript e (.Slice lo hi none p2) pos) (mSl dCutN o tl tu) :=
  pe_imp (pe_slice sl_allN h hl hu) fun σ H Q h => sl_sound s_cutN h
end
/-! ### great products -/
def dMulW : List D → Option (Bool × D)
  | [.int i, .int j] => if (bigOk i j || decide (i.natAbs.log2 + j.natAbs.log2 < 1000000)) = true then fl (.int (i * j)) else none
  | l => dMul l
def rMulW (K : PySem.W.Frag) : R2 := fun x y H Q => rMulAll K x y H Q ∨ rI CMulW (fun i j => .int (i * j)) x y H Q
theorem or_mulW {X : Cx} : OpR X (binaryOp .Mult) (rMulW X.K) := OpR.or or_mul op_mulW
theorem b_mulW {K : PySem.W.Frag} {mg : Str → Option Value} : BSpec K mg (r2L (rMulW K)) dMulW := by
  intro Z H vs ds fr d Q dom pl e k
  unfold dMulW at e
  split at e
  · rename_i i j
    split at e
    · rename_i h
      cases hb : bigOk i j with
      | true =>
        have q := b_mul Z H vs [.int i, .int j] fr d Q dom pl (by show (if bigOk i j = true then fl (.int (i * j)) else none) = _; rw [if_pos hb]; exact e) k
        obtain ⟨x, y, rfl, h1, h2⟩ := pl2 pl
        exact .inl q
      | false =>
        rw [hb, Bool.false_or, decide_eq_true_eq] at h
        obtain ⟨x, y, rfl, h1, h2⟩ := pl2 pl
        cases pk_int h1; cases pk_int h2
        exact .inr ⟨_, _, rfl, rfl, h, fin0 e (.int _) k⟩
    · cases e
  · have q := b_mul Z H vs _ fr d Q dom pl e k
    cases pl with
    | nil => exact q
    | cons h1 t =>
      cases t with
      | nil => exact q
      | cons h2 t =>
        cases t with
        | nil => exact .inl q
        | cons h3 t => exact q
/-! ### x += e -/
def augS (i : Nat) (f : Int → Int → Int) (m : M (Bool × D)) : MS := fun st => match st[i]? with
  | some (some (_, .int a)) => withS m (fun _ d st1 => match d with
    | .int b => if i < st1.length then .next (st1.set i (some (false, .int (f a b)))) else .stuck
    | _ => .stuck) st
  | _ => .stuck
section
variable {K : PySem.W.Frag} {mg : Str → Option Value} {W : WX} {H : Hp} {σ : L2.St} {m : M (Bool × D)} {i : Nat} {f : Int → Int → Int}
end
section
variable {X : Cx} {W : WX} {io : Bool} {e : Expr} {i : Nat} {x : Str} {m : M (Bool × D)} {pos p : Pos}
end
theorem post_aug {i : Nat} {f : Int → Int → Int} {m : M (Bool × D)} {st : DSt} {P : PEnds} : (augS i f m st).post P ↔ ∃ b0 a, st[i]? = some (some (b0, .int a)) ∧ (m st).post (fun p st1 => ∃ b, p.2 = .int b ∧ if i < st1.length then P.nx (st1.set i (some (false, .int (f a b)))) else False) P.ex := by
  unfold augS
  constructor
  · intro h
    split at h
    · rename_i b0 a e
      refine ⟨b0, a, e, ?_⟩
      rw [post_with] at h
      refine h.mono (fun p st1 h => ?_) fun _ _ _ h => h
      obtain ⟨fr, d⟩ := p
      cases d <;> first | exact h.elim | skip
      refine ⟨_, rfl, ?_⟩
      have h : (if i < st1.length then OutS.next (st1.set i (some (false, .int (f a _)))) else .stuck).post _ := h
      split at h
      · rename_i hl; rw [if_pos hl]; exact h
      · exact h.elim
    · exact h.elim
  · rintro ⟨b0, a, e, h⟩
    rw [e]
    show (withS m _ st).post P
    rw [post_with]
    refine h.mono (fun p st1 h => ?_) fun _ _ _ h => h
    obtain ⟨fr, d⟩ := p
    obtain ⟨b, e, h⟩ := h
    have e : d = .int b := e
    subst e
    show (if i < st1.length then OutS.next (st1.set i (some (false, .int (f a b)))) else .stuck).post _
    split at h
    · rename_i hl; rw [if_pos hl]; exact h
    · exact h.elim
/-! ### max(a, b), min(a, b) -/
section
variable {K : PySem.W.Frag} {mg : Str → Option Value}
end
end PL
set_option Elab.async false
set_option linter.all false
set_option maxRecDepth 100000
set_option maxHeartbeats 1000000
set_option autoImplicit false
/-! PL38: what the program's small functions answer: is_integer, is_within, is_order, falls_apart. -/
namespace PL
open PySem PySem.Spec PyProof.Rows L2
/-! ### what operations give -/
theorem dLen_tup {nd : Bool} {ds : List D} : dLen [.tup nd ds] = some (false, .int ds.length) := rfl
theorem items_tup {nd : Bool} {ds : List D} : itemsOf (.tup nd ds) = some ds := rfl
theorem seqOf_tup {nd : Bool} {ds : List D} : seqOf (.tup nd ds) = some ds := rfl
theorem dLen_lst {ds : List D} : dLen [.lst ds] = some (false, .int ds.length) := rfl
theorem items_lst {ds : List D} : itemsOf (.lst ds) = some ds := rfl
theorem listOf_lst {ds : List D} : listOf (.lst ds) = some ds := rfl
theorem seqOf_lst {ds : List D} : seqOf (.lst ds) = some ds := rfl
theorem dLen_rol {ds : List D} : dLen [.rol ds] = some (false, .int ds.length) := rfl
theorem items_rol {ds : List D} : itemsOf (.rol ds) = some ds := rfl
theorem listOf_rol {ds : List D} : listOf (.rol ds) = some ds := rfl
theorem seqOf_rol {ds : List D} : seqOf (.rol ds) = some ds := rfl
theorem dLen_dic {ds : List (D × D)} : dLen [.dic ds] = some (false, .int ds.length) := rfl
theorem enum_tup {nd : Bool} {ds : List D} : enumOf (.tup nd ds) = some (enumD 0 ds) := rfl
theorem enum_lst {ds : List D} : enumOf (.lst ds) = some (enumD 0 ds) := rfl
theorem zip_tup {nd nd2 : Bool} {ds es : List D} : zipOf (.tup nd ds) (.tup nd2 es) = some (zipD ds es) := rfl
theorem zip_lst {ds es : List D} : zipOf (.lst ds) (.lst es) = some (zipD ds es) := rfl
theorem dTru_bl {b : Bool} : dTru [.bl b] = some (false, .bl b) := rfl
theorem dNot_bl {b : Bool} : dNot [.bl b] = some (false, .bl (!b)) := rfl
theorem dAdd_int {a b : Int} : dAdd [.int a, .int b] = some (false, .int (a + b)) := rfl
theorem dAddN_int {a b : Int} : dAddN [.int a, .int b] = some (false, .int (a + b)) := rfl
theorem dSub_int {a b : Int} : dSub [.int a, .int b] = some (false, .int (a - b)) := rfl
theorem dLt_int {a b : Int} : dLt [.int a, .int b] = some (false, .bl (decide (a < b))) := rfl
theorem dLe_int {a b : Int} : dLe [.int a, .int b] = some (false, .bl (decide (a ≤ b))) := rfl
theorem dGt_int {a b : Int} : dGt [.int a, .int b] = some (false, .bl (decide (b < a))) := rfl
theorem dGe_int {a b : Int} : dGe [.int a, .int b] = some (false, .bl (decide (b ≤ a))) := rfl
theorem dEqF_int {a b : Int} : dEqF [.int a, .int b] = some (false, .bl (a == b)) := rfl
theorem dNeF_int {a b : Int} : dNeF [.int a, .int b] = some (false, .bl (!(a == b))) := rfl
theorem dNeg_int {a : Int} : dNeg [.int a] = some (false, .int (-a)) := rfl
theorem dInt_int {a : Int} : dInt [.int a] = some (false, .int a) := rfl
theorem isA_tuple_tup {nd : Bool} {ds : List D} : dIsA .tuple [.tup nd ds] = some (false, .bl true) := rfl
theorem isA_tuple_int {a : Int} : dIsA .tuple [.int a] = some (false, .bl false) := rfl
theorem isA_tuple_lst {ds : List D} : dIsA .tuple [.lst ds] = some (false, .bl false) := rfl
theorem isA_tuple_bl  {b : Bool} : dIsA .tuple [.bl b] = some (false, .bl false) := rfl
theorem isA_tuple_non  : dIsA .tuple [.non] = some (false, .bl false) := rfl
theorem isA_tuple_str {z : Str} : dIsA .tuple [.str z] = some (false, .bl false) := rfl
theorem isA_int_tup {nd : Bool} {ds : List D} : dIsA .int [.tup nd ds] = some (false, .bl false) := rfl
theorem isA_int_int {a : Int} : dIsA .int [.int a] = some (false, .bl true) := rfl
theorem isA_int_lst {ds : List D} : dIsA .int [.lst ds] = some (false, .bl false) := rfl
theorem isA_int_bl  {b : Bool} : dIsA .int [.bl b] = some (false, .bl true) := rfl
theorem isA_int_non  : dIsA .int [.non] = some (false, .bl false) := rfl
theorem isA_int_str {z : Str} : dIsA .int [.str z] = some (false, .bl false) := rfl
theorem isA_bool_tup {nd : Bool} {ds : List D} : dIsA .bool [.tup nd ds] = some (false, .bl false) := rfl
theorem isA_bool_int {a : Int} : dIsA .bool [.int a] = some (false, .bl false) := rfl
theorem isA_bool_lst {ds : List D} : dIsA .bool [.lst ds] = some (false, .bl false) := rfl
theorem isA_bool_bl  {b : Bool} : dIsA .bool [.bl b] = some (false, .bl true) := rfl
theorem isA_bool_non  : dIsA .bool [.non] = some (false, .bl false) := rfl
theorem isA_bool_str {z : Str} : dIsA .bool [.str z] = some (false, .bl false) := rfl
theorem isA_list_tup {nd : Bool} {ds : List D} : dIsA .list [.tup nd ds] = some (false, .bl false) := rfl
theorem isA_list_int {a : Int} : dIsA .list [.int a] = some (false, .bl false) := rfl
theorem isA_list_lst {ds : List D} : dIsA .list [.lst ds] = some (false, .bl true) := rfl
theorem isA_list_bl  {b : Bool} : dIsA .list [.bl b] = some (false, .bl false) := rfl
theorem isA_list_non  : dIsA .list [.non] = some (false, .bl false) := rfl
theorem isA_list_str {z : Str} : dIsA .list [.str z] = some (false, .bl false) := rfl
theorem isA_str_tup {nd : Bool} {ds : List D} : dIsA .str [.tup nd ds] = some (false, .bl false) := rfl
theorem isA_str_int {a : Int} : dIsA .str [.int a] = some (false, .bl false) := rfl
theorem isA_str_lst {ds : List D} : dIsA .str [.lst ds] = some (false, .bl false) := rfl
theorem isA_str_bl  {b : Bool} : dIsA .str [.bl b] = some (false, .bl false) := rfl
theorem isA_str_non  : dIsA .str [.non] = some (false, .bl false) := rfl
theorem isA_str_str {z : Str} : dIsA .str [.str z] = some (false, .bl true) := rfl
theorem dIx_tup {nd : Bool} {ds : List D} {i : Int} : dIx [.tup nd ds, .int i] = (L2.atI ds i).bind fl := rfl
theorem dIx_lst {ds : List D} {i : Int} : dIx [.lst ds, .int i] = (L2.atI ds i).bind fl := rfl
/-! ### lists of plain things -/
theorem blsOf_map {α : Type} (f : α → Bool) : ∀ l : List α, blsOf (l.map fun a => D.bl (f a)) = some (l.map f)
  | [] => rfl
  | a :: l => by show (blsOf (l.map fun a => D.bl (f a))).map (f a :: ·) = _; rw [blsOf_map f l]; rfl
theorem dAll_map {α : Type} (f : α → Bool) (l : List α) : dAll [.lst (l.map fun a => D.bl (f a))] = some (false, .bl (l.all f)) := by
  simp only [dAll, dAny, listOf, Option.bind_some, blsOf_map, fl, List.all_map]
  rfl
theorem cut_take {α : Type} (l : List α) (i : Int) (h : 0 ≤ i) : cutL l none (some i) = l.take i.toNat := by
  unfold cutL
  rw [HT.sIx_none, List.drop_zero]
  have e : i = ((i.toNat : Nat) : Int) := by omega
  rw [e, HT.sIx_nat, Int.toNat_natCast, Nat.sub_zero]
  rw [← List.take_take, List.take_length]
theorem cut_drop {α : Type} (l : List α) (i : Int) (h : 0 ≤ i) : cutL l (some i) none = l.drop i.toNat := by
  unfold cutL
  have e : i = ((i.toNat : Nat) : Int) := by omega
  rw [e, HT.sIx_nat, Int.toNat_natCast, HT.sIx_none]
  by_cases h2 : i.toNat ≤ l.length
  · rw [Nat.min_eq_left h2, List.take_of_length_le (by rw [List.length_drop]; omega)]
  · rw [Nat.min_eq_right (by omega), List.drop_of_length_le (Nat.le_refl _), List.drop_of_length_le (by omega)]
    simp
/-- the first i of a tuple, as the slice gives them -/
theorem dCutN_take (nd : Bool) (l : List D) (i : Int) (h : 0 ≤ i) : ∃ nd', dCutN (.tup nd l) none (some i) = some (false, .tup nd' (l.take i.toNat)) := by
  show ∃ nd', (if HT.sIx l.length 0 none = 0 ∧ HT.sIx l.length l.length (some i) = l.length then fl (.tup nd l) else fl (.tup true (cutL l none (some i)))) = some (false, .tup nd' (l.take i.toNat))
  split
  · rename_i hc
    refine ⟨nd, ?_⟩
    have e : i = ((i.toNat : Nat) : Int) := by omega
    rw [e, HT.sIx_nat] at hc
    rw [List.take_of_length_le (by omega)]
    rfl
  · rw [cut_take l i h]
    exact ⟨true, rfl⟩
theorem dCutN_drop (nd : Bool) (l : List D) (i : Int) (h : 0 ≤ i) : ∃ nd', dCutN (.tup nd l) (some i) none = some (false, .tup nd' (l.drop i.toNat)) := by
  show ∃ nd', (if HT.sIx l.length 0 (some i) = 0 ∧ HT.sIx l.length l.length none = l.length then fl (.tup nd l) else fl (.tup true (cutL l (some i) none))) = some (false, .tup nd' (l.drop i.toNat))
  split
  · rename_i hc
    refine ⟨nd, ?_⟩
    have e : i = ((i.toNat : Nat) : Int) := by omega
    rw [e, HT.sIx_nat] at hc
    have : l.drop i.toNat = l := by
      rcases Nat.le_total i.toNat l.length with q | q
      · have : i.toNat = 0 := by omega
        rw [this, List.drop_zero]
      · have : l.length = 0 := by omega
        rw [List.eq_nil_of_length_eq_zero this, List.drop_nil]
    rw [this]
    rfl
  · rw [cut_drop l i h]
    exact ⟨true, rfl⟩
theorem atI_nat {α : Type} (l : List α) (i : Nat) (h : i < l.length) : L2.atI l (i : Int) = some l[i] := by
  unfold L2.atI ixN
  rw [if_pos (by omega), if_pos (by omega)]
  simp
theorem rangeD_map {β : Type} (g : D → β) (a : Int) (n : Nat) : (rangeD a 1 n).map g = (List.range n).map fun (k : Nat) => g (.int (a + k)) := by
  unfold rangeD
  rw [List.map_map]
  exact List.map_congr_left fun k _ => by simp
theorem sizeLine_60 {n : Nat} (h : n ≤ 100000) : n ≤ sizeLine := by rw [sizeLine_eq]; omega
/-! ### a dict made of unlike ints -/
theorem of_postV {q : FOut} {a : Bool} {v : D} (h : q.post (fun fr d od => (fr = a ∧ od = none) ∧ d = v) fun _ _ _ => False) : q = .ok a v none := by
  obtain ⟨fr, d, od, e, ⟨h1, h2⟩, h3⟩ := of_post h
  rw [e, h1, h2, h3]
/-! ### is_integer, is_within -/
def S_is_integer : MS := (seqS (retS (mAndV (mOps [(.nm 0)] (dIsA .int)) (mOps [(.ex (mOps [(.nm 0)] (dIsA .bool)))] dNot))) nextS)
def S_is_within (f : FDen) : MS := (seqS (retS (mAndV (mCall f [(mName 0)]) (mChain (fun i j => decide (i ≤ j)) (fun i j => decide (i ≤ j)) (.nm 1) (.nm 0) (.nm 2)))) nextS)
theorem is_integer_int (n : Int) : fden false 1 1 S_is_integer [.int n] = .ok false (.bl true) none := rfl
def IsInteger (f : FDen) : Prop := ∀ n : Int, f [.int n] = .ok false (.bl true) none
theorem is_within_int {f : FDen} (hf : IsInteger f) (n a b : Int) : fden false 3 3 (S_is_within f) [.int n, .int a, .int b] = .ok false (.bl (decide (a ≤ n) && decide (n ≤ b))) none := by
  have q : (fden false 3 3 (S_is_within f) [.int n, .int a, .int b]).post (fun fr d od => (fr = false ∧ od = none) ∧ d = .bl (decide (a ≤ n) && decide (n ≤ b))) (fun _ _ _ => False) := by
    refine fden_post rfl ?_
    unfold S_is_within
    simp only [post_seq, post_set, post_retS, post_drop, post_back, post_ifI, post_next, post_brk, post_cont, post_retN, post_par, post_asg, post_store, post_for, post_mC, post_bind, post_pure, post_lift, post_mOps, post_ops0, post_opsN, post_opsE, post_exs0, post_exsC, post_mT, post_notT, post_andT, post_orT, post_mIf, post_andV, post_orV, post_peekN, post_peekE, post_peek, post_intM, post_chain, post_tup, post_lst, post_items, post_range1, post_range2, post_mEnum, post_mZip, post_lstRg, post_tupRg, post_rg1, post_rg2, post_call, post_callIo, post_mut, FOut.post_okI, onNone_n, onSome_s, post_slN, post_slE, post_name, oM, frozen, ownKind, bindT, bindTs, own0, List.getElem?_cons_zero, List.getElem?_cons_succ, List.set_cons_zero, List.set_cons_succ, Option.some.injEq, Prod.mk.injEq, exists_and_left, exists_eq_left, exists_eq_left', exists_and_right, and_assoc, if_true, if_false, ite_true, ite_false, Bool.false_eq_true, Bool.not_true, Bool.not_false, true_and, and_true, false_and, and_false, List.length_cons, List.length_nil, Nat.reduceAdd, Nat.reduceLT, Nat.reduceLeDiff, Nat.zero_lt_succ, Nat.succ_lt_succ_iff, D.int.injEq, D.bl.injEq, D.tup.injEq, D.lst.injEq, D.str.injEq, reduceCtorEq, startSt, List.map_cons, List.map_nil, List.replicate, List.nil_append, List.cons_append, Option.bind_some, and_self, le1, le2, le3, le4, le5, le6, post_tupN, post_aug, exists_eq, exists_eq', fl, dLen_tup, items_tup, seqOf_tup, dLen_lst, items_lst, listOf_lst, seqOf_lst, dLen_rol, items_rol, listOf_rol, seqOf_rol, dLen_dic, enum_tup, enum_lst, zip_tup, zip_lst, dTru_bl, dNot_bl, dAdd_int, dAddN_int, dSub_int, dLt_int, dLe_int, dGt_int, dGe_int, dEqF_int, dNeF_int, dNeg_int, dInt_int, isA_tuple_tup, isA_tuple_int, isA_tuple_lst, isA_tuple_bl , isA_tuple_non, isA_tuple_str, isA_int_tup, isA_int_int, isA_int_lst, isA_int_bl , isA_int_non, isA_int_str, isA_bool_tup, isA_bool_int, isA_bool_lst, isA_bool_bl , isA_bool_non, isA_bool_str, isA_list_tup, isA_list_int, isA_list_lst, isA_list_bl , isA_list_non, isA_list_str, isA_str_tup, isA_str_int, isA_str_lst, isA_str_bl , isA_str_non, isA_str_str, dIx_tup, dIx_lst, hf n]
    cases h : decide (a ≤ n) <;> simp only [post_seq, post_set, post_retS, post_drop, post_back, post_ifI, post_next, post_brk, post_cont, post_retN, post_par, post_asg, post_store, post_for, post_mC, post_bind, post_pure, post_lift, post_mOps, post_ops0, post_opsN, post_opsE, post_exs0, post_exsC, post_mT, post_notT, post_andT, post_orT, post_mIf, post_andV, post_orV, post_peekN, post_peekE, post_peek, post_intM, post_chain, post_tup, post_lst, post_items, post_range1, post_range2, post_mEnum, post_mZip, post_lstRg, post_tupRg, post_rg1, post_rg2, post_call, post_callIo, post_mut, FOut.post_okI, onNone_n, onSome_s, post_slN, post_slE, post_name, oM, frozen, ownKind, bindT, bindTs, own0, List.getElem?_cons_zero, List.getElem?_cons_succ, List.set_cons_zero, List.set_cons_succ, Option.some.injEq, Prod.mk.injEq, exists_and_left, exists_eq_left, exists_eq_left', exists_and_right, and_assoc, if_true, if_false, ite_true, ite_false, Bool.false_eq_true, Bool.not_true, Bool.not_false, true_and, and_true, false_and, and_false, List.length_cons, List.length_nil, Nat.reduceAdd, Nat.reduceLT, Nat.reduceLeDiff, Nat.zero_lt_succ, Nat.succ_lt_succ_iff, D.int.injEq, D.bl.injEq, D.tup.injEq, D.lst.injEq, D.str.injEq, reduceCtorEq, startSt, List.map_cons, List.map_nil, List.replicate, List.nil_append, List.cons_append, Option.bind_some, and_self, le1, le2, le3, le4, le5, le6, post_tupN, post_aug, exists_eq, exists_eq', fl, dLen_tup, items_tup, seqOf_tup, dLen_lst, items_lst, listOf_lst, seqOf_lst, dLen_rol, items_rol, listOf_rol, seqOf_rol, dLen_dic, enum_tup, enum_lst, zip_tup, zip_lst, dTru_bl, dNot_bl, dAdd_int, dAddN_int, dSub_int, dLt_int, dLe_int, dGt_int, dGe_int, dEqF_int, dNeF_int, dNeg_int, dInt_int, isA_tuple_tup, isA_tuple_int, isA_tuple_lst, isA_tuple_bl , isA_tuple_non, isA_tuple_str, isA_int_tup, isA_int_int, isA_int_lst, isA_int_bl , isA_int_non, isA_int_str, isA_bool_tup, isA_bool_int, isA_bool_lst, isA_bool_bl , isA_bool_non, isA_bool_str, isA_list_tup, isA_list_int, isA_list_lst, isA_list_bl , isA_list_non, isA_list_str, isA_str_tup, isA_str_int, isA_str_lst, isA_str_bl , isA_str_non, isA_str_str, dIx_tup, dIx_lst, h, Bool.true_and, Bool.false_and]
  exact of_postV q
def IsWithin (f : FDen) : Prop := ∀ n a b : Int, f [.int n, .int a, .int b] = .ok false (.bl (decide (a ≤ n) && decide (n ≤ b))) none
/-! ### is_order -/
theorem rg_len (n : Int) : (rgI n).length = n.toNat := by simp [rgI]
theorem mem_rg {n a : Int} : a ∈ rgI n ↔ 0 ≤ a ∧ a < n := by
  unfold rgI
  rw [List.mem_map]
  constructor
  · rintro ⟨k, hk, rfl⟩
    have := List.mem_range.mp hk
    omega
  · intro h
    exact ⟨a.toNat, List.mem_range.mpr (by omega), by omega⟩
theorem rg_nodup (n : Int) : (rgI n).Nodup := by
  unfold rgI
  rw [List.nodup_iff_pairwise_ne, List.pairwise_map]
  exact List.Pairwise.imp (fun {a b} h e => h (by omega)) (List.nodup_iff_pairwise_ne.mp List.nodup_range)
/-! ### falls_apart -/
end PL
set_option Elab.async false
set_option linter.all false
set_option maxRecDepth 100000
set_option maxHeartbeats 1000000
set_option autoImplicit false
/-! PL39: == of rows of ints, sorted, t.index; _law_is_whole, _law_same. -/
namespace PL
open PySem PySem.Spec PyProof.Rows L2
/-- a def's run, its value told -/
theorem run_def {dd : FDen} {np n : Nat} {mb : MS} (hd : dd = fden false np n mb) {ds : List D} {a : Bool} {v : D} (hl : ds.length = np)
    (h : (mb (startSt false n ds)).post { nx := fun _ => false = a ∧ D.non = v, bk := fun _ => False, ct := fun _ => False, rt := fun fr d _ => fr = a ∧ d = v, ex := fun _ _ _ => False }) : dd ds = .ok a v none := by
  subst hd
  refine of_postV (fden_post hl (h.mono (fun _ h => ⟨⟨h.1, rfl⟩, h.2⟩) (fun _ h => h) (fun _ h => h) (fun fr d _ h => ⟨⟨h.1, rfl⟩, h.2⟩) fun _ _ _ h => h))
/-- a def's run, what is wanted of its value -/
theorem run_defQ {dd : FDen} {np n : Nat} {mb : MS} (hd : dd = fden false np n mb) {ds : List D} {Q : Bool → D → Prop} (hl : ds.length = np)
    (h : (mb (startSt false n ds)).post { nx := fun _ => Q false .non, bk := fun _ => False, ct := fun _ => False, rt := fun fr d _ => Q fr d, ex := fun _ _ _ => False }) : ∃ fr d, dd ds = .ok fr d none ∧ Q fr d := by
  subst hd
  obtain ⟨fr, d, od, e, h1, h2⟩ := of_post (fden_post (Q := fun fr d od => od = none ∧ Q fr d) (X := fun _ _ _ => False) hl (h.mono (fun _ h => ⟨rfl, h⟩) (fun _ h => h) (fun _ h => h) (fun fr d _ h => ⟨rfl, h⟩) fun _ _ _ h => h))
  subst h1
  exact ⟨fr, d, e, h2⟩
/-- a def that changes its first argument -/
theorem run_defIo {dd : FDen} {np n : Nat} {mb : MS} (hd : dd = fden true np n mb) {ds : List D} {Q : Bool → D → D → Prop} (hl : ds.length = np)
    (h : (mb (startSt true n ds)).post { nx := fun st => own0 st fun d0 => Q false .non d0, bk := fun _ => False, ct := fun _ => False, rt := fun fr d st => own0 st fun d0 => Q fr d d0, ex := fun _ _ _ => False }) : ∃ fr d d0, dd ds = .ok fr d (some d0) ∧ Q fr d d0 := by
  subst hd
  have mono : ∀ {st : DSt} {k k' : D → Prop}, (∀ d, k d → k' d) → own0 st k → own0 st k' := fun {st k k'} hk h => by
    unfold own0 at h ⊢
    split at h
    · exact hk _ h
    · exact h
  obtain ⟨fr, d, od, e, d0, h1, h2⟩ := of_post (fden_postIo (Q := fun fr d od => ∃ d0, od = some d0 ∧ Q fr d d0) (X := fun _ _ _ => False) hl (h.mono (fun _ h => mono (fun d h => ⟨d, rfl, h⟩) h) (fun _ h => h) (fun _ h => h) (fun fr d _ h => mono (fun d h => ⟨d, rfl, h⟩) h) fun _ _ _ h => h.elim))
  subst h1
  exact ⟨fr, d, d0, e, h2⟩
theorem toPDL_ints : ∀ l : List Int, toPDL (l.map D.int) = some (l.map PyData.int)
  | [] => rfl
  | a :: l => by
    show (match some (PyData.int a), toPDL (l.map D.int) with | some p, some ps => some (p :: ps) | _, _ => none) = _
    rw [toPDL_ints l]
    rfl
theorem eqvAll_ints : ∀ l m : List Int, PyData.eqvAll (l.map PyData.int) (m.map PyData.int) = (l == m)
  | [], [] => by simp [PyData.eqvAll]
  | [], b :: m => by simp [PyData.eqvAll]
  | a :: l, [] => by simp [PyData.eqvAll]
  | a :: l, b :: m => by
    rw [List.map_cons, List.map_cons, PyData.eqvAll, PyData.eqv, eqvAll_ints l m, List.cons_beq_cons]
theorem canLay_ints : ∀ l : List Int, PyData.canLayAll0 (l.map PyData.int) = true
  | [] => by simp [PyData.canLayAll0]
  | a :: l => by rw [List.map_cons, PyData.canLayAll0, PyData.canLay0, canLay_ints l]; rfl
theorem depth0_ints : ∀ l : List Int, PyData.depthAll (l.map PyData.int) = 0
  | [] => by simp [PyData.depthAll]
  | a :: l => by rw [List.map_cons, PyData.depthAll, depth0_ints l, PyData.depth]; rfl
theorem shaped_tup (l : List Int) : SeqAt.shaped (.tuple (l.map PyData.int)) = true := by
  unfold SeqAt.shaped
  rw [PyData.canLay0, canLay_ints, PyData.depth, depth0_ints]
  rfl
theorem eqPD_tup (nd nd2 : Bool) (l m : List Int) : eqPD (.tup nd (l.map .int)) (.tup nd2 (m.map .int)) = some (l == m) := by
  have e : ∀ (nd : Bool) (l : List Int), toPD (.tup nd (l.map .int)) = some (.tuple (l.map .int)) := fun nd l => by
    show (toPDL (l.map D.int)).map _ = _
    rw [toPDL_ints]
    rfl
  unfold eqPD
  rw [e, e]
  simp only [shaped_tup, Bool.and_self, if_true, PyData.eqv, eqvAll_ints]
theorem dEqF_tup (nd nd2 : Bool) (l m : List Int) : dEqF [.tup nd (l.map .int), .tup nd2 (m.map .int)] = some (false, .bl (l == m)) := by
  show (eqPD _ _).bind _ = _
  rw [eqPD_tup]
  rfl
section
variable {st : DSt} {x : Str → List (Str × D) → DSt → Prop} {k : Bool × D → DSt → Prop} {f : List D → Option (Bool × D)} {i : Nat} {args : List Opd} {m : M (Bool × D)} {o1 o2 : Opd} {neg : Bool}
end
/-! ### _law_same -/
/-! ### _law_is_whole -/
end PL
set_option Elab.async false
set_option linter.all false
set_option maxRecDepth 100000
set_option maxHeartbeats 1000000
set_option autoImplicit false
/-! PL40: comprehensions of two clauses, fors over rows of ints, by clean functions; the lists of all orders. -/
namespace PL
open PySem PySem.Spec PyProof.Rows L2
/-! ### all orders -/
end PL
set_option Elab.async false
set_option linter.all false
set_option maxRecDepth 100000
set_option maxHeartbeats 1000000
set_option autoImplicit false
/-! PL41: steps of a law's body; draws over a hand that is right. -/
namespace PL
open PySem PySem.Spec PyProof.Rows L2
/-- a statement's run, what is wanted behind it (as a structure, so that it is not unfolded) -/
structure PS2 (m : MS) (st : DSt) (P : PEnds) : Prop where
  out : (m st).post P
abbrev onlyN (I : DSt → Prop) : PEnds := { nx := I, bk := fun _ => False, ct := fun _ => False, rt := fun _ _ _ => False, ex := fun _ _ _ => False }
/-- one statement, then the rest -/
theorem seq_stepI {a b : MS} {st : DSt} {P : PEnds} (I : DSt → Prop) (h : PS2 a st (onlyN I)) (h2 : ∀ st', I st' → PS2 b st' P) : PS2 (seqS a b) st P :=
  ⟨post_seq.mpr (h.out.mono (fun st h => (h2 st h).out) (fun _ h => h.elim) (fun _ h => h.elim) (fun _ _ _ h => h.elim) fun _ _ _ h => h.elim)⟩
theorem seq_stepE {a b : MS} {st : DSt} {P : PEnds} (st' : DSt) (h : PS2 a st (onlyN fun s => s = st')) (h2 : PS2 b st' P) : PS2 (seqS a b) st P :=
  seq_stepI _ h fun s e => by rw [e]; exact h2
theorem run_def2 {dd : FDen} {np n : Nat} {mb : MS} (hd : dd = fden false np n mb) (ds : List D) (a : Bool) (v : D) (hl : ds.length = np)
    (h : PS2 mb (startSt false n ds) { nx := fun _ => false = a ∧ D.non = v, bk := fun _ => False, ct := fun _ => False, rt := fun fr d _ => fr = a ∧ d = v, ex := fun _ _ _ => False }) : dd ds = .ok a v none := run_def hd hl h.out
theorem run_def2Q {dd : FDen} {np n : Nat} {mb : MS} (hd : dd = fden false np n mb) (ds : List D) (Q : Bool → D → Prop) (hl : ds.length = np)
    (h : PS2 mb (startSt false n ds) { nx := fun _ => Q false .non, bk := fun _ => False, ct := fun _ => False, rt := fun fr d _ => Q fr d, ex := fun _ _ _ => False }) : ∃ fr d, dd ds = .ok fr d none ∧ Q fr d := run_defQ hd hl h.out
theorem run_def2Io {dd : FDen} {np n : Nat} {mb : MS} (hd : dd = fden true np n mb) (ds : List D) (Q : Bool → D → D → Prop) (hl : ds.length = np)
    (h : PS2 mb (startSt true n ds) { nx := fun st => own0 st fun d0 => Q false .non d0, bk := fun _ => False, ct := fun _ => False, rt := fun fr d st => own0 st fun d0 => Q fr d d0, ex := fun _ _ _ => False }) : ∃ fr d d0, dd ds = .ok fr d (some d0) ∧ Q fr d d0 := run_defIo hd hl h.out
/-- a hand that may be drawn from -/
def HandOk (c : List Int) (h : D) : Prop := ∃ i q s t : Int, 0 ≤ i ∧ h = handD c i q s t
theorem drawH {dd : FDen} (hd : DrawOk dd) {c : List Int} {h : D} {b : Int} {P : Bool → D → Option D → Prop} {X : Str → List (Str × D) → Option D → Prop} (hh : HandOk c h) (hb : 0 < b) (hb2 : b < 1073741824)
    (k : ∀ r h', 0 ≤ r → r < b → HandOk c h' → P false (.int r) (some h')) : (dd [h, .int b]).post P X := by
  obtain ⟨i, q, s, t, hi, rfl⟩ := hh
  exact draw_post hd hi hb hb2 fun r i' q' s' t' h0 h1 hi' => k r _ h0 h1 ⟨i', q', s', t', hi', rfl⟩
def S_law_any (dd : FDen) : MS := (seqS (retS (mOps [(.nm 1), (.ex (mCallIo dd 0 [(mOps [(.nm 1)] dLen)]))] dIx)) nextS)
theorem anyL {dd aa : FDen} (hd : DrawOk dd) (ha : aa = fden true 2 2 (S_law_any dd)) {c : List Int} {h : D} {l : List D} {P : Bool → D → Option D → Prop} {X : Str → List (Str × D) → Option D → Prop} (hh : HandOk c h) (h0 : 0 < l.length) (hl : l.length ≤ 100000)
    (k : ∀ v h', v ∈ l → HandOk c h' → P false v (some h')) : (aa [h, .lst l]).post P X := by
  have q : ∃ fr v d0, aa [h, .lst l] = .ok fr v (some d0) ∧ fr = false ∧ v ∈ l ∧ HandOk c d0 := by
    refine @run_defIo aa 2 2 (S_law_any dd) ha [h, .lst l] (fun fr v d0 => fr = false ∧ v ∈ l ∧ HandOk c d0) (Eq.refl 2) ?_
    simp only [post_seq, post_set, post_retS, post_drop, post_back, post_ifI, post_next, post_brk, post_cont, post_retN, post_par, post_asg, post_store, post_for, post_mC, post_bind, post_pure, post_lift, post_mOps, post_ops0, post_opsN, post_opsE, post_exs0, post_exsC, post_mT, post_notT, post_andT, post_orT, post_mIf, post_andV, post_orV, post_peekN, post_peekE, post_peek, post_intM, post_chain, post_tup, post_lst, post_items, post_range1, post_range2, post_mEnum, post_mZip, post_lstRg, post_tupRg, post_rg1, post_rg2, post_call, post_callIo, post_mut, FOut.post_okI, onNone_n, onSome_s, post_slN, post_slE, post_name, oM, frozen, ownKind, bindT, bindTs, own0, List.getElem?_cons_zero, List.getElem?_cons_succ, List.set_cons_zero, List.set_cons_succ, Option.some.injEq, Prod.mk.injEq, exists_and_left, exists_eq_left, exists_eq_left', exists_and_right, and_assoc, if_true, if_false, ite_true, ite_false, Bool.false_eq_true, Bool.not_true, Bool.not_false, true_and, and_true, false_and, and_false, List.length_cons, List.length_nil, Nat.reduceAdd, Nat.reduceLT, Nat.reduceLeDiff, Nat.zero_lt_succ, Nat.succ_lt_succ_iff, D.int.injEq, D.bl.injEq, D.tup.injEq, D.lst.injEq, D.str.injEq, reduceCtorEq, startSt, List.map_cons, List.map_nil, List.replicate, List.nil_append, List.cons_append, Option.bind_some, and_self, Nat.zero_le, le1, le2, le3, le4, le5, le6, post_tupN, post_aug, exists_eq, exists_eq', fl, dLen_tup, items_tup, seqOf_tup, dLen_lst, items_lst, listOf_lst, seqOf_lst, dLen_rol, items_rol, listOf_rol, seqOf_rol, dLen_dic, enum_tup, enum_lst, zip_tup, zip_lst, dTru_bl, dNot_bl, dAdd_int, dAddN_int, dSub_int, dLt_int, dLe_int, dGt_int, dGe_int, dEqF_int, dNeF_int, dNeg_int, dInt_int, isA_tuple_tup, isA_tuple_int, isA_tuple_lst, isA_tuple_bl , isA_tuple_non, isA_tuple_str, isA_int_tup, isA_int_int, isA_int_lst, isA_int_bl , isA_int_non, isA_int_str, isA_bool_tup, isA_bool_int, isA_bool_lst, isA_bool_bl , isA_bool_non, isA_bool_str, isA_list_tup, isA_list_int, isA_list_lst, isA_list_bl , isA_list_non, isA_list_str, isA_str_tup, isA_str_int, isA_str_lst, isA_str_bl , isA_str_non, isA_str_str, dIx_tup, dIx_lst, S_law_any]
    refine drawH hd hh (by omega) (by omega) ?_
    intro r h' r0 r1 hh'
    obtain ⟨d, hm, e⟩ := ix_draw r0 r1
    simp only [post_seq, post_set, post_retS, post_drop, post_back, post_ifI, post_next, post_brk, post_cont, post_retN, post_par, post_asg, post_store, post_for, post_mC, post_bind, post_pure, post_lift, post_mOps, post_ops0, post_opsN, post_opsE, post_exs0, post_exsC, post_mT, post_notT, post_andT, post_orT, post_mIf, post_andV, post_orV, post_peekN, post_peekE, post_peek, post_intM, post_chain, post_tup, post_lst, post_items, post_range1, post_range2, post_mEnum, post_mZip, post_lstRg, post_tupRg, post_rg1, post_rg2, post_call, post_callIo, post_mut, FOut.post_okI, onNone_n, onSome_s, post_slN, post_slE, post_name, oM, frozen, ownKind, bindT, bindTs, own0, List.getElem?_cons_zero, List.getElem?_cons_succ, List.set_cons_zero, List.set_cons_succ, Option.some.injEq, Prod.mk.injEq, exists_and_left, exists_eq_left, exists_eq_left', exists_and_right, and_assoc, if_true, if_false, ite_true, ite_false, Bool.false_eq_true, Bool.not_true, Bool.not_false, true_and, and_true, false_and, and_false, List.length_cons, List.length_nil, Nat.reduceAdd, Nat.reduceLT, Nat.reduceLeDiff, Nat.zero_lt_succ, Nat.succ_lt_succ_iff, D.int.injEq, D.bl.injEq, D.tup.injEq, D.lst.injEq, D.str.injEq, reduceCtorEq, startSt, List.map_cons, List.map_nil, List.replicate, List.nil_append, List.cons_append, Option.bind_some, and_self, Nat.zero_le, le1, le2, le3, le4, le5, le6, post_tupN, post_aug, exists_eq, exists_eq', fl, dLen_tup, items_tup, seqOf_tup, dLen_lst, items_lst, listOf_lst, seqOf_lst, dLen_rol, items_rol, listOf_rol, seqOf_rol, dLen_dic, enum_tup, enum_lst, zip_tup, zip_lst, dTru_bl, dNot_bl, dAdd_int, dAddN_int, dSub_int, dLt_int, dLe_int, dGt_int, dGe_int, dEqF_int, dNeF_int, dNeg_int, dInt_int, isA_tuple_tup, isA_tuple_int, isA_tuple_lst, isA_tuple_bl , isA_tuple_non, isA_tuple_str, isA_int_tup, isA_int_int, isA_int_lst, isA_int_bl , isA_int_non, isA_int_str, isA_bool_tup, isA_bool_int, isA_bool_lst, isA_bool_bl , isA_bool_non, isA_bool_str, isA_list_tup, isA_list_int, isA_list_lst, isA_list_bl , isA_list_non, isA_list_str, isA_str_tup, isA_str_int, isA_str_lst, isA_str_bl , isA_str_non, isA_str_str, dIx_tup, dIx_lst, e]
    exact ⟨hm, hh'⟩
  obtain ⟨fr, v, d0, e, rfl, hm, hh'⟩ := q
  rw [e, FOut.post_okI]
  exact k v d0 hm hh'
theorem etl {l : List D} : dTupN [.lst l] = some (false, .tup true l) := rfl
theorem ett {nd : Bool} {l : List D} : dTupN [.tup nd l] = some (false, .tup nd l) := rfl
theorem addLL {a b : List D} (h : a.length + b.length ≤ 100000) : dAddN [.lst a, .lst b] = some (true, .lst (a ++ b)) := by
  show (if a.length + b.length ≤ sizeLine then nw (.lst (a ++ b)) else none) = _
  rw [if_pos (sizeLine_60 h)]
  rfl
end PL
set_option Elab.async false
set_option linter.all false
set_option maxRecDepth 100000
set_option maxHeartbeats 1000000
set_option autoImplicit false
/-! PL42: zip of a tuple and a list. -/
namespace PL
open PySem PySem.Spec PyProof.Rows L2
/-- a tuple at ta, a list at lb, walked side by side -/
def ItM (K : PySem.W.Frag) (ta lb : Addr) : It where
  go := fun j G => ∃ (us vs : List V) (u v : V), (SqT K G ta us ∧ SqL K G lb vs) ∧ us[j]? = some u ∧ vs[j]? = some v
  yld := fun j G p G' => ∃ (T : Addr) (u v : V), (p = .ref T ∧ G T = none ∧ G' = upd G T (.tup [u, v])) ∧ (∀ us, SqT K G ta us → us[j]? = some u) ∧ ∀ vs, SqL K G lb vs → vs[j]? = some v
  stop := fun j G => ∃ us vs : List V, (SqT K G ta us ∧ SqL K G lb vs) ∧ j ≤ us.length ∧ j ≤ vs.length ∧ (j = us.length ∨ j = vs.length)
/-- how the iterators stand at turn j -/
def StM (ta lb z TI TO ia ib : Addr) (j : Nat) (h : Heap) : Prop := (IsZip h z TI TO .none ∧ IsPair h TI (.ref ia) (.ref ib) ∧ ∃ x y, IsPair h TO x y) ∧ h.IsTupleIter ia ta j ∧ h.IsListIter ib lb j
theorem mem5 {c z TI TO ia ib : Addr} (h : c ∈ [z, TI, TO, ia, ib]) : c = z ∨ c = TI ∨ c = TO ∨ c = ia ∨ c = ib := by simpa using h
theorem turnM {P : Program} {w : World} {K : PySem.W.Frag} {elts : List Expr} {kk : Nat} {tp : Pos} {ta lb z TI TO ia ib : Addr} (S : ZipSep2 z TI TO ia ib [ia, ta] [ib, lb]) (ha : ta ≠ ia) (hb : lb ≠ ib) :
    Turn P w K (.Tuple elts kk tp) (ItM K ta lb) [z, TI, TO, ia, ib] z (StM ta lb z TI TO ia ib) where
  mem := List.mem_cons_self
  obj := fun j h st c hc => by
    obtain ⟨⟨hz, hT, x, y, hO⟩, ⟨oa, ea, _, da⟩, ⟨ob, eb, _, db⟩⟩ := st
    rcases mem5 hc with rfl | rfl | rfl | rfl | rfl
    · exact ⟨_, hz, fun _ q => by cases q⟩
    · exact ⟨_, hT, fun _ q => by cases q⟩
    · exact ⟨_, hO, fun _ q => by cases q⟩
    · exact ⟨oa, ea, fun _ q => by rw [da] at q; cases q⟩
    · exact ⟨ob, eb, fun _ q => by rw [db] at q; cases q⟩
  keep := fun j h h' st kp => by
    obtain ⟨⟨hz, hT, x, y, hO⟩, sa, sb⟩ := st
    exact ⟨⟨kp z (by simp) _ hz, kp TI (by simp) _ hT, x, y, kp TO (by simp) _ hO⟩, sa.at fun o q => kp ia (by simp) o q, sb.at fun o q => kp ib (by simp) o q⟩
  item := by
    intro X eP ew eK calm j pins s σ G E I hf st hg
    subst eP ew eK
    obtain ⟨⟨hz, hT, x0, y0, hO⟩, sa, sb⟩ := st
    obtain ⟨us, vs, u, v, ⟨qa, qb⟩, hu, hv⟩ := hg
    obtain ⟨as, ra, pa, _⟩ := I.tuple qa
    obtain ⟨bs, rb, pb, _⟩ := I.list qb
    obtain ⟨x1, hx1, rx1⟩ := ra.get hu
    obtain ⟨y1, hy1, ry1⟩ := rb.get hv
    have zlt : z < s.heap.objs.size := Heap.lt_size hz
    have nh : X.A.in1.handled = none := I.ok.hd calm
    have ja : j < as.toArray.size := by rw [List.size_toArray]; exact (List.getElem?_eq_some_iff.mp hx1).1
    have jb : j < bs.toArray.size := by rw [List.size_toArray]; exact (List.getElem?_eq_some_iff.mp hy1).1
    refine wpAny_pyNext_zipD2_item S (Draws.tuple nh ia ta ha as.toArray) (Draws.list nh ib lb hb bs.toArray) hz hT hO ⟨sa, pa⟩ ⟨sb, pb.isList⟩ ja jb ?_
    intro w1 w2 h' tk e1 e2 hz' hO' sa' sb' hN hsz hk
    have e1 : w1 = x1 := by
      have e1 : as.toArray[j]? = some w1 := e1
      rw [List.getElem?_toArray, hx1] at e1
      exact (Option.some.inj e1).symm
    have e2 : w2 = y1 := by
      have e2 : bs.toArray[j]? = some w2 := e2
      rw [List.getElem?_toArray, hy1] at e2
      exact (Option.some.inj e2).symm
    subst e1 e2
    refine ⟨_, rfl, wpAny_letOwnedTupleGo_zip (s := { s with heap := h', toks := tk }) hz' fun h'' hz'' bt => ?_⟩
    have hN2 : h''.get? s.heap.objs.size = some { cls := .type "tuple", data := .seq #[w1, w2] } := (bt.2 _ (Nat.ne_of_gt zlt)).trans hN
    have okN : ObjOk X.prog X.w (upd G s.heap.objs.size (.tup [u, v])) h'' s.heap.objs.size (.tup [u, v]) := ⟨le2, [w1, w2], .cons rx1 (.cons ry1 .nil), _, hN2, rfl, _, rfl⟩
    have stays : ∀ c o, c ∉ [z, TI, TO, ia, ib] → s.heap.get? c = some o → h''.get? c = some o := fun c o nc q => by
      simp only [List.mem_cons, List.not_mem_nil, or_false, not_or] at nc
      exact (bt.2 c nc.1).trans (hk c o nc.1 nc.2.2.1 nc.2.2.2.1 nc.2.2.2.2 q)
    have J : L2.Inv X pins σ (upd G s.heap.objs.size (.tup [u, v])) { s with heap := h'', toks := tk } := I.turnedNew (t' := tk) (ch := [z, TI, TO, ia, ib]) (fun c o nc q => stays c o nc q) hf (Nat.le_refl _) okN
    refine ⟨.ref s.heap.objs.size, _, J, rfl, ⟨_, u, v, ⟨rfl, I.hok.fresh (Nat.le_refl _), rfl⟩, fun l hl => by rw [I.tuple_inj hl qa]; exact hu, fun l hl => by rw [I.list_inj hl qb]; exact hv⟩, ⟨⟨hz'', ?_, w1, w2, ?_⟩, ?_, ?_⟩, fun c hc => ?_⟩
    · exact (bt.2 _ S.TIz).trans (hk _ _ S.TIz S.TITO S.TIi1 S.TIi2 hT)
    · exact (bt.2 _ S.TOz).trans hO'
    · exact sa'.1.at fun o q => (bt.2 _ (Ne.symm S.zi1)).trans q
    · exact sb'.1.at fun o q => (bt.2 _ (Ne.symm S.zi2)).trans q
    · have clt : c < s.heap.objs.size := by
        rcases mem5 hc with rfl | rfl | rfl | rfl | rfl
        · exact zlt
        · exact Heap.lt_size hT
        · exact Heap.lt_size hO
        · obtain ⟨_, e, _⟩ := sa; exact Heap.lt_size e
        · obtain ⟨_, e, _⟩ := sb; exact Heap.lt_size e
      rw [upd_ne (Nat.ne_of_lt clt)]
      exact (hf c hc).1
  done := by
    intro X eP ew eK calm j pins s σ G E I hf st hg
    subst eP ew eK
    obtain ⟨⟨hz, hT, x0, y0, hO⟩, sa, sb⟩ := st
    obtain ⟨us, vs, ⟨qa, qb⟩, l1, l2, l3⟩ := hg
    obtain ⟨as, ra, pa, _⟩ := I.tuple qa
    obtain ⟨bs, rb, pb, _⟩ := I.list qb
    have nh : X.A.in1.handled = none := I.ok.hd calm
    have za : as.toArray.size = us.length := by rw [List.size_toArray]; exact ra.length.symm
    have zb : bs.toArray.size = vs.length := by rw [List.size_toArray]; exact rb.length.symm
    refine wpAny_pyNext_zipD2_end S (Draws.tuple nh ia ta ha as.toArray) (Draws.list nh ib lb hb bs.toArray) hz hT hO ⟨sa, pa⟩ ⟨sb, pb.isList⟩ (by omega) (by omega) (by omega) ?_
    intro h' tk hk
    refine ⟨rfl, I.turnedL (t' := tk) (ch := [z, TI, TO, ia, ib]) (fun c o nc q => ?_) hf⟩
    simp only [List.mem_cons, List.not_mem_nil, or_false, not_or] at nc
    exact hk c o nc.1 nc.2.2.1 nc.2.2.2.1 nc.2.2.2.2 q
  self := fun A j s Q E st h => wpAny_pyIter_zip st.1.1 h
end PL
set_option Elab.async false
set_option linter.all false
set_option maxRecDepth 100000
set_option maxHeartbeats 1000000
set_option autoImplicit false
/-! PL43: zip(a tuple, a list), its rule. -/
namespace PL
open PySem PySem.Spec PyProof.Rows L2
/-- the heap behind zip(..): the two iterators, their pair, the pair handed out, the zip -/
def zm1 (h : Heap) (ta : Addr) : Heap := h.push { cls := .type "tuple_iterator", data := .fields #[.ref ta, .int 0 0] }
def zm2 (h : Heap) (ta lb : Addr) : Heap := (zm1 h ta).push { cls := .type "list_iterator", data := .fields #[.ref lb, .int 0 0] }
def zm3 (h : Heap) (ta lb : Addr) : Heap := (zm2 h ta lb).push { cls := .type "tuple", data := .seq #[.ref h.objs.size, .ref (zm1 h ta).objs.size] }
def zm4 (h : Heap) (ta lb : Addr) : Heap := (zm3 h ta lb).push { cls := .type "tuple", data := .seq #[.none, .none] }
def zm5 (h : Heap) (ta lb : Addr) : Heap := (zm4 h ta lb).push { cls := .type "zip", data := .fields #[.none, .bool false, .bool false, .ref (zm2 h ta lb).objs.size, .ref (zm3 h ta lb).objs.size] }
theorem meetsM (ta lb : Addr) (us vs : Array Value) : Meets (Builtin.«zip.__new__» ⟨[.type "zip", .ref ta, .ref lb], []⟩) (fun _ R s => s.heap.IsTuple ta us ∧ s.heap.IsList lb vs ∧ R (.ok (.ret (.ref (zm4 s.heap ta lb).objs.size))) { s with heap := zm5 s.heap ta lb }) :=
  .of_wp fun prog w A R s h => by
    obtain ⟨hp, gg, dd, tt, oo⟩ := s
    obtain ⟨h1, h2, h⟩ := h
    have hsub := sub_zip
    have h1 : Heap.IsTuple (Shared.heap ⟨hp, gg, dd, tt, oo⟩) ta us := h1
    have h2 : Heap.IsList (Shared.heap ⟨hp.push { cls := .type "tuple_iterator", data := .fields #[.ref ta, .int 0 0] }, gg, dd, tt, oo⟩) lb vs := Heap.IsList.push h2 _
    wp_walk using wpAny_pyIter_tuple h1, wpAny_pyIter_list h2
    exact ⟨_, rfl, h⟩
section
variable {prog : Program} {w : World} {A : Around} {E : Value → Shared → Prop} {s : Shared}
theorem callM {ta lb : Addr} {us vs : Array Value} {Q : Value → Shared → Prop} (h1 : s.heap.IsTuple ta us) (h2 : s.heap.IsList lb vs)
    (h : ∀ h', StM ta lb (s.heap.objs.size + 4) (s.heap.objs.size + 2) (s.heap.objs.size + 3) s.heap.objs.size (s.heap.objs.size + 1) 0 h' → (∀ c o, s.heap.get? c = some o → h'.get? c = some o) → Q (.ref (s.heap.objs.size + 4)) { s with heap := h' }) :
    wpAny (model prog w) A (call (.type "zip") [.ref ta, .ref lb]) Q E s := by
  refine callType_new F.called_zip (by decide) (F.typeCall_zip_2 _ _) (F.newCall_zip_2 _ _) (fun obj => F.args_object_init_3 obj _ _) F.entry_zip_new (meetsM ta lb us vs) ⟨h1, h2, ?_⟩
  have n1 : (zm1 s.heap ta).objs.size = s.heap.objs.size + 1 := Heap.size_push ..
  have n2 : (zm2 s.heap ta lb).objs.size = s.heap.objs.size + 2 := by rw [zm2, Heap.size_push, n1]
  have n3 : (zm3 s.heap ta lb).objs.size = s.heap.objs.size + 3 := by rw [zm3, Heap.size_push, n2]
  have n4 : (zm4 s.heap ta lb).objs.size = s.heap.objs.size + 4 := by rw [zm4, Heap.size_push, n3]
  have up : ∀ {h : Heap} {c : Addr} {o p : Obj}, h.get? c = some o → (h.push p).get? c = some o := fun e => Heap.get?_push_of_some _ e
  have k5 : (zm5 s.heap ta lb).get? (zm4 s.heap ta lb).objs.size = some _ := Heap.get?_push_size _ rfl
  have k4 : (zm5 s.heap ta lb).get? (zm3 s.heap ta lb).objs.size = some _ := up (Heap.get?_push_size _ rfl)
  have k3 : (zm5 s.heap ta lb).get? (zm2 s.heap ta lb).objs.size = some _ := up (up (Heap.get?_push_size _ rfl))
  have k2 : (zm5 s.heap ta lb).get? (zm1 s.heap ta).objs.size = some _ := up (up (up (Heap.get?_push_size _ rfl)))
  have k1 : (zm5 s.heap ta lb).get? s.heap.objs.size = some _ := up (up (up (up (Heap.get?_push_size _ rfl))))
  show _ ∧ _
  rw [n2, n3, n4] at k5
  rw [n1, n2] at k3
  rw [n3] at k4
  rw [n1] at k2
  rw [n4]
  exact ⟨⟨_, k5, rfl⟩, h _ ⟨⟨k5, k3, _, _, k4⟩, ⟨_, k1, rfl, rfl⟩, ⟨_, k2, rfl, rfl⟩⟩ fun c o q => up (up (up (up (up q))))⟩
end
def iZipM (K : PySem.W.Frag) (ta : TA) : TI := fun σ H R => ta σ H fun vs H1 => ∃ a b xs ys, vs = [.ref a, .ref b] ∧ (SqT K H1 a xs ∧ SqL K H1 b ys) ∧ R (ItM K a b) H1
theorem pi_zipM {X : Cx} {e e2 : Expr} {ta : TA} {p pos tpos : Pos} {elts : List Expr} {kk : Nat} (hg : Gl X "zip") (hm : X.mg "zip" = none) (ha : PA X [e, e2] ta)
    (hs : starEach [e, e2] X.env = (false, eval e X.env) :: starEach [e2] X.env) (hpl : (backTo pos (starEach [e2] X.env)).any (·.1) = false) : PI X (.Tuple elts kk tpos) (.Call (.Name "zip" p) [e, e2] [] pos) (iZipM X.K ta) := by
  refine ⟨fun pins s σ H R I h => ?_⟩
  refine Call_ (ld_blt I hg hm boot_zip (callWith_type1 (thn (ha.run pos pins s σ H _ I h) fun us s1 ⟨vs, H1, I1, r1, q1⟩ => ?_) hs hpl))
  obtain ⟨a, b, xs, ys, rfl, ⟨qa, qb⟩, q⟩ := q1
  obtain ⟨u1, u2, rfl, r1, r2⟩ := vals2 r1
  cases r1
  cases r2
  obtain ⟨as, ra, pa, _⟩ := I1.tuple qa
  obtain ⟨bs, rb, pb, _⟩ := I1.list qb
  obtain ⟨oa, ea, _⟩ := id pa
  have la := Heap.lt_size ea
  have lb := pb.lt
  refine callM (show s1.heap.IsTuple a as.toArray from pa) pb.isList fun h' st hk => wpAny_pyIter_zip st.1.1 ?_
  have I2 : L2.Inv X pins σ H1 { s1 with heap := h' } := I1.kept (t' := s1.toks) hk
  have D := PySem.W.ktu_apart s1.heap.objs.size a b la lb
  have S : ZipSep2 (s1.heap.objs.size + 4) (s1.heap.objs.size + 2) (s1.heap.objs.size + 3) s1.heap.objs.size (s1.heap.objs.size + 1) [s1.heap.objs.size, a] [s1.heap.objs.size + 1, b] :=
    ⟨D.TIz, D.TOz, D.TITO, D.TIi1, by simp, by simp only [List.mem_cons, List.not_mem_nil, or_false, not_or]; exact ⟨Ne.symm D.i1z, Ne.symm D.l1z⟩, by simp only [List.mem_cons, List.not_mem_nil, or_false, not_or]; exact ⟨D.TOi1, Ne.symm D.l1TO⟩,
      D.TIi2, by simp, by simp only [List.mem_cons, List.not_mem_nil, or_false, not_or]; exact ⟨Ne.symm D.i2z, Ne.symm D.l2z⟩, by simp only [List.mem_cons, List.not_mem_nil, or_false, not_or]; exact ⟨D.TOi2, Ne.symm D.l2TO⟩,
      by simp only [List.mem_cons, List.not_mem_nil, or_false, not_or]; exact ⟨D.i12, Nat.ne_of_gt lb⟩, by simp only [List.mem_cons, List.not_mem_nil, or_false, not_or]; exact ⟨Ne.symm D.i12, Nat.ne_of_gt (Nat.lt_succ_of_lt la)⟩⟩
  refine ⟨s1.heap.objs.size + 4, [s1.heap.objs.size + 4, s1.heap.objs.size + 2, s1.heap.objs.size + 3, s1.heap.objs.size, s1.heap.objs.size + 1], _, _, H1, rfl, I2, turnM S (Nat.ne_of_lt la) (Nat.ne_of_lt (Nat.lt_succ_of_lt lb)), st, fun c hc => ?_, q⟩
  have hle : s1.heap.objs.size ≤ c := by
    rcases mem5 hc with rfl | rfl | rfl | rfl | rfl <;> first | exact Nat.le_refl _ | exact Nat.le_add_right _ _
  exact I1.fpOk hle (I1.hok.fresh hle)
theorem wok_zipM {K : PySem.W.Frag} {mg : Str → Option Value} {Z : Zs} {H : Hp} {a b : Addr} {ds es : List D} {xs ys : List V} (h : TupS K mg a xs ds Z H) (h2 : H b = some (.lst ys)) (nz : ¬ Z b) (r : RepL K mg Z H es ys) : WOk K mg (ItM K a b) (zipD ds es) Z H :=
  ⟨fun Z H => TupS K mg a xs ds Z H ∧ H b = some (.lst ys) ∧ ¬ Z b ∧ RepL K mg Z H es ys, ⟨h, h2, nz, r⟩, fun Z Z' H H' k ⟨q, p1, p2, p3⟩ => ⟨q.mono k, (k _ _ p2 p1 trivial).1, (k _ _ p2 p1 trivial).2, p3.mono k⟩, fun Z H i dom ⟨q, p1, p2, p3⟩ => by
    have n1 := q.2.length
    have n2 := p3.length
    refine ⟨fun hi => ?_, fun hi => ?_, fun d x H' hd hy => ?_⟩
    · rw [zipD_len] at hi
      exact ⟨xs, ys, xs[i], ys[i], ⟨q.sq, SqL.of p1⟩, List.getElem?_eq_getElem (by omega), List.getElem?_eq_getElem (by omega)⟩
    · rw [zipD_len] at hi
      exact ⟨xs, ys, ⟨q.sq, SqL.of p1⟩, by omega, by omega, by omega⟩
    · obtain ⟨a', b', g1, g2, rfl⟩ := zipD_get hd
      obtain ⟨T, u, v, ⟨e1, e2, e3⟩, e4, e5⟩ := hy
      obtain ⟨u', k1, ru⟩ := q.2.get g1
      obtain ⟨v', k2, rv⟩ := p3.get g2
      have e4 := e4 xs q.sq
      have e5 := e5 ys (SqL.of p1)
      rw [e4] at k1
      rw [e5] at k2
      cases k1; cases k2; subst e1 e3
      exact pair_new dom e2 ru rv⟩
def zipOfX : D → D → Option (List D)
  | .lst a, .lst b => some (zipD a b)
  | .tup _ a, .tup _ b => some (zipD a b)
  | .tup _ a, .lst b => some (zipD a b)
  | _, _ => none
def mZipX (m1 m2 : M (Bool × D)) : M (List D) := m1.bind fun p => m2.bind fun q => M.lift (zipOfX p.2 q.2)
theorem zipX_pos {p q : D} {l : List D} (h : zipOfX p q = some l) : zipOf p q = some l ∨ ∃ nd a b, p = .tup nd a ∧ q = .lst b ∧ l = zipD a b := by
  unfold zipOfX at h
  split at h
  · exact .inl h
  · exact .inl h
  · exact .inr ⟨_, _, _, rfl, rfl, (Option.some.inj h).symm⟩
  · cases h
theorem post_mZipX {m1 m2 : M (Bool × D)} {st : DSt} {x : Str → List (Str × D) → DSt → Prop} {kl : List D → DSt → Prop} : (mZipX m1 m2 st).post kl x ↔ (m1 st).post (fun p st1 => (m2 st1).post (fun q st2 => ∃ ds, zipOfX p.2 q.2 = some ds ∧ kl ds st2) x) x := by
  rw [mZipX, post_bind]; simp only [post_bind, post_lift]
theorem zipX_tup {nd nd2 : Bool} {ds es : List D} : zipOfX (.tup nd ds) (.tup nd2 es) = some (zipD ds es) := rfl
theorem zipX_lst {ds es : List D} : zipOfX (.lst ds) (.lst es) = some (zipD ds es) := rfl
theorem zipX_mix {nd : Bool} {ds es : List D} : zipOfX (.tup nd ds) (.lst es) = some (zipD ds es) := rfl
section
variable {X : Cx} {W : WX} {e e2 : Expr} {m1 m2 : M (Bool × D)} {p pos tpos : Pos} {elts : List Expr} {kk : Nat}
theorem Pi.zipX (hg : Gl X "zip") (hm : X.mg "zip" = none) (ha : Pe X W e m1) (hb : Pe X W e2 m2) (hs : starEach [e, e2] X.env = (false, eval e X.env) :: starEach [e2] X.env := by rfl) (hpl : (backTo pos (starEach [e2] X.env)).any (·.1) = false := by rfl)
    (hs2 : starEach [e2] X.env = (false, eval e2 X.env) :: starEach [] X.env := by rfl) : Pi X W (.Tuple elts kk tpos) (.Call (.Name "zip" p) [e, e2] [] pos) (mZipX m1 m2) := by
  refine ⟨fun pins s σ H R I h => ?_⟩
  obtain ⟨Z₀, st, S, h⟩ := h
  rw [mZipX, post_bind] at h
  cases e1 : m1 st with
  | stuck => rw [e1] at h; exact h.elim
  | exc c fs st' =>
    rw [e1] at h
    exact (Pi.zip (m1 := m1) (m2 := m2) hg hm ha hb hs hpl hs2).run pins s σ H R I ⟨Z₀, st, S, by rw [mZip, post_bind, e1]; exact h⟩
  | ok p1 st1 =>
    rw [e1] at h
    have h : ((m2.bind fun q => M.lift (zipOfX p1.2 q.2)) st1).post _ _ := h
    rw [post_bind] at h
    cases e3 : m2 st1 with
    | stuck => rw [e3] at h; exact h.elim
    | exc c fs st' =>
      rw [e3] at h
      refine (Pi.zip (m1 := m1) (m2 := m2) hg hm ha hb hs hpl hs2).run pins s σ H R I ⟨Z₀, st, S, ?_⟩
      rw [mZip, post_bind, e1]
      show ((m2.bind fun q => M.lift (zipOf p1.2 q.2)) st1).post _ _
      rw [post_bind, e3]
      exact h
    | ok p2 st2 =>
      rw [e3] at h
      have h : (M.lift (zipOfX p1.2 p2.2) st2).post _ _ := h
      rw [post_lift] at h
      obtain ⟨l, el, h⟩ := h
      rcases zipX_pos el with ez | ⟨nd, a, b, ea, eb, elz⟩
      · refine (Pi.zip (m1 := m1) (m2 := m2) hg hm ha hb hs hpl hs2).run pins s σ H R I ⟨Z₀, st, S, ?_⟩
        rw [mZip, post_bind, e1]
        show ((m2.bind fun q => M.lift (zipOf p1.2 q.2)) st1).post _ _
        rw [post_bind, e3]
        show (M.lift (zipOf p1.2 p2.2) st2).post _ _
        rw [post_lift]
        exact ⟨l, ez, h⟩
      · refine (pi_zipM hg hm (pa_cons ha (pa_cons hb pa_nil hs2) hs) hs hpl).run pins s σ H R I ?_
        refine ⟨Z₀, st, S, ?_⟩
        rw [e1]
        intro v H1 g1 f1
        refine ⟨Z₀, st1, f1.sim, ?_⟩
        rw [e3]
        intro w H2 g2 f2
        have r1 := g2.rep f1.rep
        have r2 := f2.rep
        rw [ea] at r1
        rw [eb] at r2
        subst elz
        cases r1 with
        | tup ha' n1 rl =>
          cases r2 with
          | lst hb' nz2 rl2 => exact ⟨_, _, _, _, rfl, ⟨TupS.sq ⟨⟨ha'.rd, n1⟩, rl⟩, SqL.of hb'⟩, h _ H2 (g1.trans g2) f2.sim (wok_zipM ⟨⟨ha'.rd, n1⟩, rl⟩ hb' (nz2 rfl) rl2)⟩
end
end PL
set_option Elab.async false
set_option linter.all false
set_option maxRecDepth 100000
set_option maxHeartbeats 1000000
set_option autoImplicit false
/-! PL44: recursion by fuel; the head's facts with checks of one's own on the written part. -/
namespace PL
open PySem PySem.Spec PyProof.Rows L2
theorem FOk.stuckk {P : Program} {w : World} {K : PySem.W.Frag} {mg : Str → Option Value} {base : Heap} {k : Nat} {f : Addr} {fd : FuncData} {ps : List Str} {io : Bool} : FOk P w K mg base k f fd ps io (fun _ => .stuck) :=
  ⟨fun A outer s H args us vs Z ds oa Q E hr hg he hb hv hl hin hout => hout.elim⟩
/-! ### a Hook: facts, defs, checks -/
abbrev AlP : Type := Bool × List He.FnW
def obsP (fa : List He.Fa) (fn : List He.DefD) (fx : List (PySem.W.Frag → Bool)) (K : PySem.W.Frag) : AlP := (((fa.all fun f => f.ok K) && fn.all fun d => d.ok K) && fx.all fun f => f K, fn.map fun d => He.fnW K d.at_)
def valP (fn : List He.DefD) : AlP := (true, fn.map He.DefD.val)
def SaysP (fa : List He.Fa) (fn : List He.DefD) (fx : List (PySem.W.Frag → Bool)) (K : PySem.W.Frag) : Prop := obsP fa fn fx K = valP fn
section
variable {fa : List He.Fa} {fn : List He.DefD} {fx : List (PySem.W.Frag → Bool)} {K : PySem.W.Frag}
theorem SaysP.toD (c : SaysP fa fn fx K) : He.SaysD fa fn K := by
  have c1 : (((fa.all fun f => f.ok K) && fn.all fun d => d.ok K) && fx.all fun f => f K) = true := congrArg (fun z : AlP => z.1) c
  have c2 : fn.map (fun d => He.fnW K d.at_) = fn.map He.DefD.val := congrArg (fun z : AlP => z.2) c
  rw [Bool.and_eq_true] at c1
  show ((fa.all fun f => f.ok K) && fn.all fun d => d.ok K, fn.map fun d => He.fnW K d.at_) = (true, fn.map He.DefD.val)
  rw [c1.1, c2]
theorem SaysP.chk (c : SaysP fa fn fx K) (i : Nat) {f : PySem.W.Frag → Bool} (h : fx[i]? = some f := by rfl) : f K = true := by
  have c1 : (((fa.all fun f => f.ok K) && fn.all fun d => d.ok K) && fx.all fun f => f K) = true := congrArg (fun z : AlP => z.1) c
  rw [Bool.and_eq_true] at c1
  exact List.all_eq_true.mp c1.2 f (List.mem_of_getElem? h)
end
/-! ### what is asked of the own classes cs -/
section
variable {K : PySem.W.Frag} {h : Heap} {mg : Str → Option Value}
end
end PL
set_option Elab.async false
set_option linter.all false
set_option maxRecDepth 100000
set_option maxHeartbeats 1000000
set_option autoImplicit false
/-! PL45: isinstance(x, (T1, T2)) of built-in types. -/
namespace PL
open PySem PySem.Spec PyProof.Rows L2
def rIsiS (K : PySem.W.Frag) : List V → Hp → VK → Prop := fun xs H Q => ∃ (x : V) (tp : Addr) (cs : List V) (t : Value) (us : List Value) (b : Bool), xs = [x, .ref tp] ∧ SqT K H tp cs ∧ Paired ClsV cs us ∧ TyX K H x t ∧ PySem.W.kitAny K t us = some b ∧ Q (.bl b) H
theorem call_isiS {X : Cx} : CallR X (.builtin "isinstance") (rIsiS X.K) := by
  intro pins s σ H xs us Q I r h
  obtain ⟨x, tp, cs, t, ws, b, rfl, hT, k, ty, e, q⟩ := h
  obtain ⟨u1, u2, rfl, r1, r2⟩ := vals2 r
  cases (show u2 = Value.ref tp from r2)
  obtain ⟨P, Z, p, hx⟩ := kit_of I r1 ty
  obtain ⟨its, rv, ⟨o, h1, h2, n, h3⟩, _⟩ := I.tuple hT
  have e3 := ClsV.all k rv
  subst e3
  obtain ⟨oc, od, dt, sl⟩ := o
  simp only at h2 h3
  subst h2 h3
  exact PySem.W.kia_tup Z I.kIn p h1 e hx fun tk => ⟨.bl b, H, I.tok tk, rfl, q⟩
def dIsiS : List D → Option (Bool × D)
  | [d, .tup _ [.ty a, .ty b]] => match dIsi [d, .ty a], dIsi [d, .ty b] with
    | some (_, .bl x), some (_, .bl y) => fl (.bl (x || y))
    | _, _ => none
  | _ => none
theorem dIsi_bl {d : D} {a : String} {f : Bool} {x : Bool} (e : dIsi [d, .ty a] = some (f, .bl x)) : ∃ n, tyD d = some n ∧ kitB n a = some x := by
  obtain ⟨n, b, e1, e2, e3⟩ := dIsi_kit e
  cases e3
  exact ⟨n, e1, e2⟩
section
variable {K : PySem.W.Frag} {mg : Str → Option Value} {W : WX}
theorem b_isiS : BSpec K mg (rIsiS K) dIsiS := fun Z H vs ds fr d Q dom pl e k => by
  unfold dIsiS at e
  split at e
  · rename_i d1 nd a b
    split at e
    · rename_i f1 x f2 y e1 e2
      obtain ⟨v, w, rfl, h1, h2⟩ := pl2 pl
      obtain ⟨tp, cs, rfl, hs, r⟩ := pk_tup h2
      obtain ⟨n, n1, k1⟩ := dIsi_bl e1
      obtain ⟨m, n2, k2⟩ := dIsi_bl e2
      cases n1.symm.trans n2
      obtain ⟨c1, c2, ec, r1, r2⟩ : ∃ c1 c2, cs = [c1, c2] ∧ c1 = V.ty a ∧ c2 = V.ty b := by
        cases r with
        | cons q1 r => cases r with
          | cons q2 r => cases r; exact ⟨_, _, rfl, pk_ty q1, pk_ty q2⟩
      subst ec r1 r2
      refine ⟨v, tp, _, .type n, [.type a, .type b], x || y, rfl, hs, .cons (.ty a) (.cons (.ty b) .nil), tyx_of h1 n1, ?_, fin0 e (.bl _) k⟩
      show (match PySem.W.kitOne K (.type n) (.type a) with | some true => some true | some false => PySem.W.kitAny K (.type n) [.type b] | none => none) = _
      rw [kit_ty k1]
      cases x
      · show (match PySem.W.kitOne K (.type n) (.type b) with | some true => some true | some false => PySem.W.kitAny K (.type n) [] | none => none) = _
        rw [kit_ty k2]
        cases y <;> rfl
      · rfl
    · cases e
  · cases e
end
def dIsA2 (k1 k2 : Ty) : List D → Option (Bool × D)
  | [d] => (isA k1 d).bind fun a => (isA k2 d).bind fun b => fl (.bl (a || b))
  | _ => none
theorem isA_dIsi {k : Ty} {d : D} {b : Bool} (h : isA k d = some b) : dIsi [d, .ty k.nm] = some (false, .bl b) := isA_eq k d _ (by rw [dIsA, h]; rfl)
theorem isA2_eq (k1 k2 : Ty) (nd : Bool) (d : D) (r : Bool × D) (h : dIsA2 k1 k2 [d] = some r) : dIsiS [d, .tup nd [.ty k1.nm, .ty k2.nm]] = some r := by
  unfold dIsA2 at h
  obtain ⟨a, ha, h⟩ := Option.bind_eq_some_iff.mp h
  obtain ⟨b, hb, h⟩ := Option.bind_eq_some_iff.mp h
  show (match dIsi [d, .ty k1.nm], dIsi [d, .ty k2.nm] with
    | some (_, .bl x), some (_, .bl y) => fl (.bl (x || y))
    | _, _ => none) = _
  rw [isA_dIsi ha, isA_dIsi hb]
  exact h
theorem isA2_post {k1 k2 : Ty} {o : Opd} {st : DSt} {kk : Bool × D → DSt → Prop} {x : Str → List (Str × D) → DSt → Prop} (h : (mOps [o] (dIsA2 k1 k2) st).post kk x) : (mOps [o, .ex (mTup [mC (.ty k1.nm), mC (.ty k2.nm)])] dIsiS st).post kk x := by
  rw [mOps, post_bind] at h ⊢
  cases o with
  | nm i =>
    rw [runOps, post_bind, post_peek] at h ⊢
    obtain ⟨b, d, e, h⟩ := h
    refine ⟨b, d, e, ?_⟩
    have h : ((peekAt i).bind (fun d => M.pure [d]) st).post _ _ := h
    show ((peekAt i).bind (fun d => M.pure [d, D.tup false [.ty k1.nm, .ty k2.nm]]) st).post _ _
    rw [post_bind, post_peek] at h ⊢
    obtain ⟨b2, d2, e2, h⟩ := h
    refine ⟨b2, d2, e2, ?_⟩
    have h : (M.lift (dIsA2 k1 k2 [d2]) st).post kk x := h
    show (M.lift (dIsiS [d2, .tup false [.ty k1.nm, .ty k2.nm]]) st).post kk x
    rw [post_lift] at h ⊢
    obtain ⟨r, er, h⟩ := h
    exact ⟨r, isA2_eq k1 k2 _ d2 r er, h⟩
  | ex m =>
    rw [runOps, post_bind] at h ⊢
    refine h.mono (fun p st1 h => ?_) fun _ _ _ h => h
    have h : (M.lift (dIsA2 k1 k2 [p.2]) st1).post kk x := h
    show (M.lift (dIsiS [p.2, .tup false [.ty k1.nm, .ty k2.nm]]) st1).post kk x
    rw [post_lift] at h ⊢
    obtain ⟨r, er, h⟩ := h
    exact ⟨r, isA2_eq k1 k2 _ p.2 r er, h⟩
section
variable {X : Cx} {W : WX} {a : Expr} {o : Opd} {x y : Str} {p q q2 qt pos : Pos}
theorem Pe.isA2 {kk : Nat} (k1 k2 : Ty) (hm : X.mg "isinstance" = none) (hmt : X.mg x = none) (hmu : X.mg y = none) (h : Po X W a o) (hg : Gl X "isinstance" := by rfl) (hgt : Gl X x := by rfl) (hgu : Gl X y := by rfl)
    (hv : bootBuiltins x = some (.type k1.nm) := by with_unfolding_all rfl) (hn : x ≠ "__name__" := by decide) (hd : (x == ("__debug__" : Str)) = false := by decide)
    (hv2 : bootBuiltins y = some (.type k2.nm) := by with_unfolding_all rfl) (hn2 : y ≠ "__name__" := by decide) (hd2 : (y == ("__debug__" : Str)) = false := by decide)
    (h1 : starEach [a, .Tuple [.Name x q, .Name y q2] kk qt] X.env = (false, eval a X.env) :: starEach [.Tuple [.Name x q, .Name y q2] kk qt] X.env := by rfl)
    (h2 : starEach [.Tuple [.Name x q, .Name y q2] kk qt] X.env = (false, eval (.Tuple [.Name x q, .Name y q2] kk qt) X.env) :: starEach [] X.env := by rfl)
    (hpl : (backTo pos (starEach [.Tuple [.Name x q, .Name y q2] kk qt] X.env)).any (·.1) = false := by rfl) :
    Pe X W (.Call (.Name "isinstance" p) [a, .Tuple [.Name x q, .Name y q2] kk qt] [] pos) (mOps [o] (dIsA2 k1 k2)) :=
  pe_imp (PL.callB call_isiS b_isiS hm (Pas.cons h (Pas.cons (Po.ex (Pe.tup (Pxs.cons (gty hmt hgt hv hn hd) (Pxs.cons (gty hmu hgu hv2 hn2 hd2) Pxs.nil)))) Pas.nil h2) h1) hg (by with_unfolding_all rfl) (by decide) (by decide) h1 hpl) fun σ H Q ⟨Z₀, st, S, h⟩ => ⟨Z₀, st, S, isA2_post h⟩
end
end PL
set_option Elab.async false
set_option linter.all false
set_option maxRecDepth 100000
set_option maxHeartbeats 1000000
set_option autoImplicit false
/-! PL46: methods of texts with one argument: join, count, index. -/
namespace PL
open PySem PySem.Spec PyProof.Rows L2
def isS : D → Bool
  | .str _ => true
  | _ => false
def mMethS (f : List D → Option (Bool × D)) (o : Opd) (a : Opd) : M (Bool × D) := match o with
  | .nm i => (peekAt i).bind fun d0 => if isS d0 = true then mOps [.nm i, a] f else M.stop
  | .ex m => m.bind fun p => if isS p.2 = true then (runOps [a]).bind fun ds => M.lift (f (p.2 :: ds)) else M.stop
section
variable {K : PySem.W.Frag} {mg : Str → Option Value} {W : WX} {Z : Zs} {H : Hp} {σ : L2.St} {t : Bool}
theorem isS_of {d : D} {v : V} (r : RepP K mg Z H t d v) (e : isS d = true) : ∃ a, v = .str a := by
  cases d <;> first | cases e | skip
  exact ⟨_, pk_str r⟩
theorem methS_sound {r : V → List V → Hp → VK → Prop} {f : List D → Option (Bool × D)} (B : BSpec K mg (r1M r) f) {o a : Opd} {Q : VK} (h : tD K mg W (mMethS f o a) σ H Q) : tM1 r (opdT K mg W o) (opdT K mg W a) σ H Q := by
  obtain ⟨Z₀, st, S, h⟩ := h
  cases o with
  | nm i =>
    rw [mMethS, post_bind, post_peek] at h
    obtain ⟨b, d0, e0, h⟩ := h
    obtain ⟨v, hv, r0, _⟩ := S.val i b d0 e0
    split at h
    case isFalse => exact h.elim
    rename_i ht
    have h2 := mOps_sound B ⟨Z₀, st, S, h⟩
    obtain ⟨v', hv', q⟩ := h2
    rw [hv] at hv'
    cases hv'
    exact ⟨v, hv, isS_of r0 ht, q⟩
  | ex m =>
    rw [mMethS, post_bind] at h
    refine ⟨Z₀, st, S, h.mono (fun p st1 h v H1 g1 f1 => ?_) fun _ _ _ h => h⟩
    split at h
    case isFalse => exact h.elim
    rename_i ht
    refine ⟨isS_of f1.rep ht, ?_⟩
    suffices key : argT K mg W [a] σ H1 (fun xs H2 => r v xs H2 Q) from key
    refine ops_sound (W := W) [a] σ H1 (fun xs H2 => r v xs H2 Q) ⟨Z₀, st1, f1.sim, ?_⟩
    rw [post_bind] at h
    refine h.mono (fun ds st2 h vs H2 g2 S2 pl => ?_) fun _ _ _ h => XEnd.from h g1
    rw [post_lift] at h
    obtain ⟨⟨fr, d⟩, ef, h⟩ := h
    exact B _ H2 (v :: vs) (p.2 :: ds) fr d Q S2.zdom (.cons (g2.rep f1.rep).down pl) ef fun w H3 k rr => h w H3 ((g1.trans g2).trans (Grow.ext k)) ((rr.fin S2 k).back (g1.trans g2).dom)
def strsOf : List D → Option (List Str)
  | [] => some []
  | .str b :: r => (strsOf r).map (b :: ·)
  | _ :: _ => none
theorem RepL.strs : ∀ {ds : List D} {xs : List V} {ns : List Str}, RepL K mg Z H ds xs → strsOf ds = some ns → xs = ns.map V.str
  | [], _, _, .nil, e => by cases e; rfl
  | .str i :: r, _, _, .cons h t, e => by
    obtain ⟨ns, e1, rfl⟩ := Option.map_eq_some_iff.mp e
    rw [pk_str h, RepL.strs t e1]
    rfl
def dJoin : List D → Option (Bool × D)
  | [.str a, d] => (seqOf d).bind fun ds => (strsOf ds).bind fun ys => if (ys.map (·.length)).sum + ys.length * a.length ≤ 16777216 then fl (.str (Txt.join a ys)) else none
  | _ => none
def dSCount : List D → Option (Bool × D)
  | [.str a, .str b] => fl (.int (Txt.count a b))
  | _ => none
theorem b_join : BSpec K mg (r1M fun x xs H Q => ∃ a p, ∃ ys : List Str, x = .str a ∧ xs = [.ref p] ∧ (SqL K H p (ys.map V.str) ∨ SqT K H p (ys.map V.str)) ∧
    (ys.map (·.length)).sum + ys.length * a.length ≤ 16777216 ∧ Q (.str (Txt.join a ys)) H) dJoin := fun Z H vs ds fr d Q dom pl e kk => by
  unfold dJoin at e
  split at e
  · rename_i a d1
    obtain ⟨v, w, rfl, h1, h2⟩ := pl2 pl
    obtain ⟨es, e1, e⟩ := Option.bind_eq_some_iff.mp e
    obtain ⟨ys, e2, e⟩ := Option.bind_eq_some_iff.mp e
    split at e
    case isFalse => cases e
    rename_i hz
    obtain ⟨p, xs, rfl, q, r⟩ := pk_seq h2 e1
    rw [r.strs e2] at q
    rw [pk_str h1]
    exact ⟨a, p, ys, rfl, rfl, q, hz, fin0 e (.str _) kk⟩
  · cases e
theorem b_scount : BSpec K mg (r1M fun x xs H Q => ∃ a b, x = .str a ∧ xs = [.str b] ∧ Q (.int (Txt.count a b)) H) dSCount := fun Z H vs ds fr d Q dom pl e kk => by
  unfold dSCount at e
  split at e
  · rename_i a b
    obtain ⟨v, w, rfl, h1, h2⟩ := pl2 pl
    rw [pk_str h1, pk_str h2]
    exact ⟨a, b, rfl, rfl, fin0 e (.int _) kk⟩
  · cases e
end
section
variable {X : Cx} {W : WX} {e o : Expr} {ox oe : Opd} {apos pos : Pos}
theorem Pe.methS {id : String} {name : Str} {r : V → List V → Hp → VK → Prop} {f : List D → Option (Bool × D)} (slot : Slot "str" name id) (ty : typeOf (.builtin id) = pure (.type "method_descriptor")) (rule : MtR X id r) (B : BSpec X.K X.mg (r1M r) f) (ho : Po X W o ox) (he : Po X W e oe)
    (hs : starEach [e] X.env = [(false, eval e X.env)] := by rfl) (hbase : attributeBase o name X.env (eval o X.env) = eval o X.env := by rfl) (hline : (apos.endLine == pos.line) = true := by rfl) :
    Pe X W (.Call (.Attribute o name apos) [e] [] pos) (mMethS f ox oe) :=
  pe_imp (pe_m1 slot ty rule ho he hs hbase hline) fun σ H Q h => methS_sound B h
end
end PL
set_option Elab.async false
set_option linter.all false
set_option maxRecDepth 100000
set_option maxHeartbeats 1000000
set_option autoImplicit false
/-! PL47: o[k] += e, o[k] -= e: lists, dicts of ints. -/
namespace PL
open PySem PySem.Spec PyProof.Rows L2
section
variable {X : Cx}
def rGetD : V → V → Hp → VK → Prop := fun o y H Q => ∃ a v, o = .ref a ∧ DGet H a y (some v) ∧ Q v H
end
def oInt : D → Option Int
  | .int i => some i
  | _ => none
def getI : D → D → Option Int
  | .lst ds, .int j => (atI ds j).bind oInt
  | .dic kvs, k => (keyOf k).bind fun ky => (dlook kvs ky).bind oInt
  | _, _ => none
def mAugI (i : Nat) (o2 : Opd) (m : M (Bool × D)) (fn : Int → Int → Int) : M Unit := (ownAtS i).bind fun _ => (peekO o2).bind fun k => (peekAt i).bind fun d0 => (M.lift (getI d0 k)).bind fun x => m.bind fun p => (M.lift (oInt p.2)).bind fun y => (ownAtS i).bind fun d => match mfPut d [k, .int (fn x y)] with
  | some (d', _) => fun st => .ok () (st.set i (some (true, d')))
  | none => M.stop
section
variable {K : PySem.W.Frag} {mg : Str → Option Value} {W : WX} {Z : Zs} {H : Hp} {σ : L2.St} {t : Bool} {i : Nat}
theorem post_augI {o2 : Opd} {m : M (Bool × D)} {fn : Int → Int → Int} {st : DSt} {k : Unit → DSt → Prop} {x : Str → List (Str × D) → DSt → Prop} :
    (mAugI i o2 m fn st).post k x ↔ ∃ d00, st[i]? = some (some (true, d00)) ∧ (peekO o2 st).post (fun ky st1 => ∃ b d0, st1[i]? = some (some (b, d0)) ∧ ∃ v, getI d0 ky = some v ∧ (m st1).post (fun p st2 => ∃ w, oInt p.2 = some w ∧ ∃ d, st2[i]? = some (some (true, d)) ∧ ∃ q, mfPut d [ky, .int (fn v w)] = some q ∧ k () (st2.set i (some (true, q.1)))) x) x := by
  rw [mAugI, post_bind, post_own]
  simp only [post_bind, post_peek, post_lift, post_own]
  refine exists_congr fun d00 => and_congr_right fun _ => ?_
  have e : ∀ (d : D) (l : List D) (st2 : DSt), ((match mfPut d l with | some (d', _) => (fun st => .ok () (st.set i (some (true, d'))) : M Unit) | none => M.stop) st2).post k x ↔ ∃ q, mfPut d l = some q ∧ k () (st2.set i (some (true, q.1))) := fun d l st2 => by
    cases mfPut d l with
    | none => exact ⟨fun h => h.elim, fun ⟨_, h, _⟩ => by cases h⟩
    | some q => exact ⟨fun h => ⟨q, rfl, h⟩, fun ⟨_, h, h2⟩ => by cases h; exact h2⟩
  simp only [e]
end
section
variable {X : Cx} {W : WX} {io : Bool} {e oi : Expr} {i : Nat} {x : Str} {m : M (Bool × D)} {o2 : Opd} {pos tpos q : Pos}
end
end PL
set_option Elab.async false
set_option linter.all false
set_option maxRecDepth 100000
set_option maxHeartbeats 1000000
set_option autoImplicit false
/-! PL48: a, b, c = x, y, z. -/
namespace PL
open PySem PySem.Spec PyProof.Rows L2
def parS3 (i j l : Nat) (m1 m2 m3 : M (Bool × D)) : MS := withS m1 fun f1 d1 => withS m2 fun f2 d2 => withS m3 fun f3 d3 => fun st => if i < st.length ∧ j < st.length ∧ l < st.length then .next (((st.set i (some (f1, d1))).set j (some (f2, d2))).set l (some (f3, d3))) else .stuck
section
variable {K : PySem.W.Frag} {mg : Str → Option Value} {W : WX} {Z₀ : Zp} {H : Hp} {st : DSt} {σ : L2.St} {i j l : Nat} {P : PEnds} {m1 m2 m3 : M (Bool × D)}
theorem post_par3 : (parS3 i j l m1 m2 m3 st).post P ↔ (m1 st).post (fun p st1 => (m2 st1).post (fun q st2 => (m3 st2).post (fun r st3 => if i < st3.length ∧ j < st3.length ∧ l < st3.length then P.nx (((st3.set i (some p)).set j (some q)).set l (some r)) else False) P.ex) P.ex) P.ex := by
  rw [parS3, post_with]
  have : ∀ (p q r : Bool × D) (st' : DSt), ((if i < st'.length ∧ j < st'.length ∧ l < st'.length then OutS.next (((st'.set i (some (p.1, p.2))).set j (some (q.1, q.2))).set l (some (r.1, r.2))) else .stuck : OutS)).post P ↔ if i < st'.length ∧ j < st'.length ∧ l < st'.length then P.nx (((st'.set i (some p)).set j (some q)).set l (some r)) else False := fun p q r st' => by
    split <;> exact Iff.rfl
  simp only [post_with, this]
end
section
variable {X : Cx} {W : WX} {io : Bool} {a b c : Expr} {i j l : Nat} {x y z : Str} {m1 m2 m3 : M (Bool × D)} {px py pz pt pos : Pos} {kt k2 : Nat} {pt2 : Pos}
end
end PL
set_option Elab.async false
set_option linter.all false
set_option maxRecDepth 100000
set_option maxHeartbeats 1000000
set_option autoImplicit false
/-! PL49: for i in range(a, b, -1). -/
namespace PL
open PySem PySem.Spec PyProof.Rows L2
def mRangeDn (o1 o2 o3 : Opd) : M (List D) := (intM o1).bind fun i => (intM o2).bind fun j => (intM o3).bind fun c => if c = -1 ∧ (-(2 ^ 62) ≤ i ∧ i < 2 ^ 62) ∧ -(2 ^ 62) ≤ j ∧ j < 2 ^ 62 then M.pure (rangeD i (-1) (i - j).toNat) else M.stop
section
variable {o1 o2 o3 : Opd} {st : DSt} {kl : List D → DSt → Prop} {x : Str → List (Str × D) → DSt → Prop}
theorem post_rangeDn : (mRangeDn o1 o2 o3 st).post kl x ↔ (intM o1 st).post (fun a st' => (intM o2 st').post (fun b st'' => (intM o3 st'').post (fun c st3 => if c = -1 ∧ (-(2 ^ 62) ≤ a ∧ a < 2 ^ 62) ∧ -(2 ^ 62) ≤ b ∧ b < 2 ^ 62 then kl (rangeD a (-1) (a - b).toNat) st3 else False) x) x) x := by
  rw [mRangeDn, post_bind]; simp only [post_bind, post_ite, post_pure, post_stop']
end
section
variable {X : Cx} {W : WX} {tg a b c : Expr} {o1 o2 o3 : Opd} {p pos : Pos}
end
end PL
set_option Elab.async false
set_option linter.all false
set_option maxRecDepth 100000
set_option maxHeartbeats 1000000
set_option autoImplicit false
/-! PL50: own classes: their __init__ as a def that is called by the class's name. -/
namespace PL
open PySem PySem.Spec PyProof.Rows L2
/-- a class that is called: its __init__'s promise -/
structure CalM (P : Program) (w : World) (K : PySem.W.Frag) (mg : Str → Option Value) (base : Heap) (k : Nat) (x : Str) (ps : List Str) (m : FDen) : Prop where
  ex : ∃ C f fd, mg x = some (.ref C) ∧ Mk K C f ∧ FOk P w K mg base k f fd ps true m ∧ Binds K fd ps []
section
variable {X : Cx} {W : WX} {k : Nat} {ps : List Str} {m : FDen} {x : Str} {p pos : Pos} {e : Expr} {es : List Expr}
end
end PL
set_option Elab.async false
set_option linter.all false
set_option maxRecDepth 100000
set_option maxHeartbeats 1000000
set_option autoImplicit false
/-! PL51: x.index(k), x.count(k), x a tuple or a list of ints. -/
namespace PL
open PySem PySem.Spec PyProof.Rows L2
def isLs : D → Bool
  | .lst _ => true
  | .rol _ => true
  | _ => false
def pickA (fT fL : List D → Option (Bool × D)) (d0 : D) : Option (List D → Option (Bool × D)) := if isTN d0 = true then some fT else if isLs d0 = true then some fL else none
def mMethA (fT fL : List D → Option (Bool × D)) (o : Opd) (args : List Opd) : M (Bool × D) := match o with
  | .nm i => (peekAt i).bind fun d0 => match pickA fT fL d0 with
    | some f => mOps (.nm i :: args) f
    | none => M.stop
  | .ex m => m.bind fun p => match pickA fT fL p.2 with
    | some f => (runOps args).bind fun ds => M.lift (f (p.2 :: ds))
    | none => M.stop
section
variable {K : PySem.W.Frag} {mg : Str → Option Value} {W : WX} {Z : Zs} {H : Hp} {σ : L2.St} {t : Bool}
end
section
variable {X : Cx} {W : WX} {e : Expr} {es : List Expr} {o : Opd} {os : List Opd} {apos cpos : Pos} {name : Str} {idT idL : String} {rT rL : V → List V → Hp → VK → Prop} {fT fL : List D → Option (Bool × D)}
end
end PL
namespace PL
open PySem PySem.Spec PyProof.Rows L2
end PL
set_option Elab.async false
set_option linter.all false
set_option maxRecDepth 100000
set_option maxHeartbeats 1000000
set_option autoImplicit false
/-! PL52: x = {k: v for ..}, x a local. -/
namespace PL
open PySem PySem.Spec PyProof.Rows L2
section
variable {X : Cx}
end
section
variable {X : Cx} {W : WX} {io : Bool} {tg iter kx vx : Expr} {scope : Scope} {own : List (Str × Nat)} {pos spos py : Pos} {y : Str} {i : Nat} {t : Tg} {mi : M (List D)} {mk mv : M (Bool × D)}
end
end PL
set_option Elab.async false
set_option linter.all false
set_option maxRecDepth 100000
set_option maxHeartbeats 1000000
set_option autoImplicit false
/-! PL53: d.update(another dict). -/
namespace PL
open PySem PySem.Spec PyProof.Rows L2
section
variable {K : PySem.W.Frag} {mg : Str → Option Value} {W : WX} {Z : Zs} {H : Hp} {t : Bool}
end
end PL
set_option Elab.async false
set_option linter.all false
set_option maxRecDepth 100000
set_option maxHeartbeats 1000000
set_option autoImplicit false
/-! PL54: post-lemmas of classes, index. -/
namespace PL
open PySem PySem.Spec PyProof.Rows L2
section
variable {st : DSt} {k : Bool × D → DSt → Prop} {ku : Unit → DSt → Prop} {x : Str → List (Str × D) → DSt → Prop} {i : Nat} {cs : List Str} {f c : Str} {m : M (Bool × D)} {ms : List (M (Bool × D))} {d : FDen} {P : PEnds} {args : List Opd} {fT fL : List D → Option (Bool × D)}
theorem post_storeF : (mStoreF i cs f m st).post ku x ↔ (m st).post (fun p st1 => ∃ d, st1[i]? = some (some (true, d)) ∧ ∃ d', insPut cs f p.2 d = some d' ∧ ku () (st1.set i (some (true, d')))) x := by
  rw [mStoreF, post_bind]
  constructor
  · intro h
    refine h.mono (fun p st1 h => ?_) fun _ _ _ h => h
    rw [post_bind, post_own] at h
    obtain ⟨d, e, h⟩ := h
    refine ⟨d, e, ?_⟩
    cases hq : insPut cs f p.2 d with
    | none => rw [hq] at h; exact h.elim
    | some q => rw [hq] at h; exact ⟨q, rfl, h⟩
  · intro h
    refine h.mono (fun p st1 h => ?_) fun _ _ _ h => h
    obtain ⟨d, e, q, hq, h⟩ := h
    rw [post_bind, post_own]
    refine ⟨d, e, ?_⟩
    rw [hq]
    exact h
theorem post_stSF : (stS (mStoreF i cs f m) st).post P ↔ (m st).post (fun p st1 => ∃ d, st1[i]? = some (some (true, d)) ∧ ∃ d', insPut cs f p.2 d = some d' ∧ P.nx (st1.set i (some (true, d')))) P.ex := by
  rw [post_stS, post_storeF]
theorem post_make : (mMake c d ms st).post k x ↔ (runExs ms st).post (fun ds st' => (fromMk (d (.ins c [] :: ds)) st').post k x) x := by
  rw [mMake, post_bind]
theorem fromMk_ok {b : Bool} {e : D} : (fromMk (.ok b .non (some e)) st).post k x ↔ k (true, e) st := Iff.rfl
theorem post_methAN : (mMethA fT fL (.nm i) args st).post k x ↔ ∃ b0 d0, st[i]? = some (some (b0, d0)) ∧ ∃ f, pickA fT fL d0 = some f ∧ (mOps (.nm i :: args) f st).post k x := by
  rw [mMethA, post_bind, post_peek]
  refine exists_congr fun b0 => exists_congr fun d0 => and_congr_right fun _ => ?_
  cases pickA fT fL d0 with
  | none => exact ⟨fun h => h.elim, fun ⟨_, h, _⟩ => by cases h⟩
  | some q => exact ⟨fun h => ⟨q, rfl, h⟩, fun ⟨_, h, h2⟩ => by cases h; exact h2⟩
theorem post_methAE : (mMethA fT fL (.ex m) args st).post k x ↔ (m st).post (fun p st1 => ∃ f, pickA fT fL p.2 = some f ∧ (runOps args st1).post (fun ds st2 => ∃ q, f (p.2 :: ds) = some q ∧ k q st2) x) x := by
  rw [mMethA, post_bind]
  constructor
  · intro h
    refine h.mono (fun p st1 h => ?_) fun _ _ _ h => h
    cases hq : pickA fT fL p.2 with
    | none => rw [hq] at h; exact h.elim
    | some q =>
      rw [hq] at h
      have h : ((runOps args).bind (fun ds => M.lift (q (p.2 :: ds))) st1).post k x := h
      rw [post_bind] at h
      exact ⟨q, rfl, by simpa only [post_lift] using h⟩
  · intro h
    refine h.mono (fun p st1 h => ?_) fun _ _ _ h => h
    obtain ⟨q, hq, h⟩ := h
    rw [hq]
    show ((runOps args).bind (fun ds => M.lift (q (p.2 :: ds))) st1).post k x
    rw [post_bind]
    simpa only [post_lift] using h
theorem pickA_tup {ds : List D} : pickA fT fL (.tup true ds) = some fT := rfl
theorem pickA_lst {ds : List D} : pickA fT fL (.lst ds) = some fL := rfl
theorem pickA_rol {ds : List D} : pickA fT fL (.rol ds) = some fL := rfl
end
end PL
set_option Elab.async false
set_option linter.all false
set_option maxRecDepth 100000
set_option maxHeartbeats 1000000
set_option autoImplicit false
/-! PL55: x[k], x a list, a tuple, a text or a dict. -/
namespace PL
open PySem PySem.Spec PyProof.Rows L2
theorem ix_dict {X : Cx} (hu : X.A.units + 1 < cLine) : IxR X rGetD := by
  intro value slice pins s σ H x y v u Q I rx ry h hs
  obtain ⟨a, z, rfl, g, q⟩ := h
  cases rx
  have hT := dict_typeIs I g
  have h₂ : wpAny (model X.prog X.w) X.A (getItem (.ref a) u) (EP X pins σ Q) X.xe s := d_getItem hu I g ry fun w' s' I' r' => ⟨z, H, I', r', q⟩
  unfold subscriptTail
  refine wpAny_bind ?_
  rw [getitemInPython_of_ne hT.not_modules]
  refine wpAny_bind (wpAny_specialOf hT PySem.F.slot_dict_getitem.lookup ?_)
  have fin : wpAny (model X.prog X.w) X.A (subscripted slice false (.ref a) u) (fun r s₃ => wpAny (model X.prog X.w) X.A (letTemporaryGo value (.ref a) r >>= fun _ => pure r) (EP X pins σ Q) X.xe s₃) X.xe s := by
    rw [hs]
    exact wpAny_operating (wpAny_mono h₂ (fun r s₃ h₃ => wpAny_bind (wpAny_letTemporaryGo (wpAny_pure h₃))) fun _ _ x => x)
  first
    | exact wpAny_pure (wpAny_bind fin)
    | exact wpAny_bind (wpAny_pure (wpAny_bind fin))
    | exact wpAny_bind fin
def rIxA (K : PySem.W.Frag) : R2 := fun x y H Q => rIx K x y H Q ∨ rGetD x y H Q
theorem ix_any {X : Cx} (hu : X.A.units + 1 < cLine) : IxR X (rIxA X.K) := ix_seq.or (ix_dict hu)
def dIxA : List D → Option (Bool × D)
  | [.dic kvs, k] => (keyOf k).bind fun ky => (dlook kvs ky).bind fl
  | l => dIx l
section
variable {K : PySem.W.Frag} {mg : Str → Option Value} {W : WX}
theorem b_ixA : BSpec K mg (r2L (rIxA K)) dIxA := fun Z H vs ds fr d Q dom pl e kk => by
  unfold dIxA at e
  split at e
  · rename_i kvs k
    obtain ⟨v, w, rfl, h1, h2⟩ := pl2 pl
    obtain ⟨ky, ek, e⟩ := Option.bind_eq_some_iff.mp e
    obtain ⟨z, el, e⟩ := Option.bind_eq_some_iff.mp e
    obtain ⟨a, ks, rfl, q, rk⟩ := pk_dic h1
    have ey : w = kV ky := key_rep (keyOf_eq ek ▸ h2)
    rcases look_rep ky rk with ⟨l1, l2⟩ | ⟨dd, vv, l1, l2, rr⟩
    · rw [el] at l1; cases l1
    · rw [el] at l1
      cases l1
      subst ey
      exact .inr ⟨a, vv, rfl, by rw [← l2]; exact DGet.k q, fin0 e rr kk⟩
  · have h := b_ix Z H vs ds fr d Q dom pl e kk
    obtain ⟨x, y, rfl, h⟩ : ∃ x y, vs = [x, y] ∧ rIx K x y H Q := by
      unfold r2L at h
      first
        | exact h
        | (split at h
           · exact ⟨_, _, rfl, h⟩
           · exact h.elim)
    exact (show rIxA K x y H Q from .inl h)
end
section
variable {X : Cx} {W : WX} {a b : Expr} {o1 o2 : Opd} {pos : Pos}
theorem Pe.ixA (hu : X.A.units + 1 < cLine) (h1 : Po X W a o1) (h2 : Po X W b o2) (hs : PlainIx b := by intro _ _; rfl) : Pe X W (.Subscript a b pos) (mOps [o1, o2] dIxA) :=
  pe_imp (pe_ix (ix_any hu) h1 h2 hs) fun σ H Q h => mOps_sound b_ixA h
end
theorem dIxA_tup {nd : Bool} {ds : List D} {i : Int} : dIxA [.tup nd ds, .int i] = (L2.atI ds i).bind fl := rfl
theorem dIxA_lst {ds : List D} {i : Int} : dIxA [.lst ds, .int i] = (L2.atI ds i).bind fl := rfl
theorem dIxA_dic {kvs : List (D × D)} {i : Int} : dIxA [.dic kvs, .int i] = (dlook kvs (.inl i)).bind fl := rfl
end PL
set_option Elab.async false
set_option linter.all false
set_option maxRecDepth 100000
set_option maxHeartbeats 1000000
set_option autoImplicit false
/-! PL56: x in d, x not in d, d a list, a tuple, a dict. -/
namespace PL
open PySem PySem.Spec PyProof.Rows L2
def rInDk (neg : Bool) : R2 := fun x y H Q => ∃ a r, y = .ref a ∧ DGet H a x r ∧ Q (.bl (if neg then !r.isSome else r.isSome)) H
def rInA (K : PySem.W.Frag) (neg : Bool) : R2 := fun x y H Q => rIn K neg x y H Q ∨ rInDk neg x y H Q
theorem op_inA {X : Cx} (hu : X.A.units + 1 < cLine) : OpR X (compareOp .In) (rInA X.K false) := by
  intro pins s σ H x y v u Q I rx ry h
  rcases h with h | ⟨a, r, rfl, g, q⟩
  · exact op_in_seq pins s σ H x y v u Q I rx ry h
  · cases (show u = Value.ref a from ry)
    exact d_in hu I g rx fun s' I' => ⟨.bl _, H, I', rfl, q⟩
theorem op_notInA {X : Cx} (hu : X.A.units + 1 < cLine) : OpR X (compareOp .NotIn) (rInA X.K true) := by
  intro pins s σ H x y v u Q I rx ry h
  rcases h with h | ⟨a, r, rfl, g, q⟩
  · exact op_notIn_seq pins s σ H x y v u Q I rx ry h
  · cases (show u = Value.ref a from ry)
    exact d_notIn hu I g rx fun s' I' => ⟨.bl _, H, I', rfl, q⟩
def dInA (neg : Bool) : List D → Option (Bool × D)
  | [x, .dic kvs] => (keyOf x).bind fun k => fl (.bl (if neg then !(dlook kvs k).isSome else (dlook kvs k).isSome))
  | l => dIn neg l
section
variable {K : PySem.W.Frag} {mg : Str → Option Value} {W : WX}
theorem b_inA (neg : Bool) : BSpec K mg (r2L (rInA K neg)) (dInA neg) := fun Z H vs ds fr d Q dom pl e kk => by
  unfold dInA at e
  split at e
  · rename_i x kvs
    obtain ⟨v, w, rfl, h1, h2⟩ := pl2 pl
    obtain ⟨ky, ek, e⟩ := Option.bind_eq_some_iff.mp e
    obtain ⟨a, ks, rfl, q, rk⟩ := pk_dic h2
    have ey : v = kV ky := key_rep (keyOf_eq ek ▸ h1)
    subst ey
    refine .inr ⟨a, valV ks ky, rfl, DGet.k q, ?_⟩
    have es : (valV ks ky).isSome = (dlook kvs ky).isSome := by
      rcases look_rep ky rk with ⟨l1, l2⟩ | ⟨dd, vv, l1, l2, rr⟩
      · rw [l1, l2]; rfl
      · rw [l1, l2]; rfl
    rw [es]
    exact fin0 e (.bl _) kk
  · have h := b_in neg Z H vs ds fr d Q dom pl e kk
    obtain ⟨x, y, rfl, h⟩ : ∃ x y, vs = [x, y] ∧ rIn K neg x y H Q := by
      unfold r2L at h
      first
        | exact h
        | (split at h
           · exact ⟨_, _, rfl, h⟩
           · exact h.elim)
    exact (show rInA K neg x y H Q from .inl h)
end
theorem dInA_dic (neg : Bool) (i : Int) (kvs : List (D × D)) : dInA neg [.int i, .dic kvs] = some (false, .bl (if neg then !(dlook kvs (.inl i)).isSome else (dlook kvs (.inl i)).isSome)) := rfl
theorem dInA_tup (neg : Bool) (x : D) (nd : Bool) (ds : List D) : dInA neg [x, .tup nd ds] = dIn neg [x, .tup nd ds] := rfl
theorem dInA_lst (neg : Bool) (x : D) (ds : List D) : dInA neg [x, .lst ds] = dIn neg [x, .lst ds] := rfl
end PL
set_option Elab.async false
set_option linter.all false
set_option maxRecDepth 100000
set_option maxHeartbeats 1000000
set_option autoImplicit false
/-! LY1: the program's layings: are_lengths, starts_of, goals_of, Laying.__init__. -/
namespace PL
open PySem PySem.Spec PyProof.Rows L2
/-- lengths of pieces -/
def Lens (l : List Int) : Prop := 1 ≤ l.length ∧ l.length ≤ 6 ∧ (∀ x ∈ l, 1 ≤ x) ∧ l.sum ≤ 60
theorem sum_ge : ∀ l : List Int, (∀ x ∈ l, 1 ≤ x) → ∀ a ∈ l, a ≤ l.sum ∧ (l.length : Int) ≤ l.sum
  | [], _, _, h => by cases h
  | [b], h, a, ha => by
    have e : a = b := by simpa using ha
    have h1 := h b (by simp)
    subst e
    simp
    omega
  | b :: c :: l, h, a, ha => by
    have hb := h b (by simp)
    have h2 : ∀ x ∈ c :: l, 1 ≤ x := fun x hx => h x (List.mem_cons_of_mem _ hx)
    have e := (sum_ge (c :: l) h2 c (by simp)).2
    rw [List.sum_cons, List.length_cons]
    rcases List.mem_cons.mp ha with rfl | ha
    · have : 0 ≤ (((c :: l).length : Nat) : Int) := by omega
      omega
    · have := (sum_ge (c :: l) h2 a ha).1
      omega
end PL
namespace PL
open PySem PySem.Spec PyProof.Rows L2
/-! ### starts_of -/
/-- the length of a piece -/
def lenAt (l : List Int) (p : Int) : Int := l.getD p.toNat 0
end PL
namespace PL
open PySem PySem.Spec PyProof.Rows L2
end PL
namespace PL
open PySem PySem.Spec PyProof.Rows L2
/-! ### goals_of -/
/-- the first place of a piece, as they stand in an order -/
def startI (l : List Int) : List Int → Int → Int → Int
  | [], _, _ => 0
  | q :: o, h, p => if q = p then h else startI l o (h + lenAt l q) p
def goalT (l o : List Int) : Nat → List Int → List Int
  | _, [] => []
  | k, a :: r => (List.range a.toNat).map (fun (i : Nat) => startI l o 0 (k : Int) + (i : Int)) ++ goalT l o (k + 1) r
def goalL (l o : List Int) : List Int := goalT l o 0 l
end PL
namespace PL
open PySem PySem.Spec PyProof.Rows L2
end PL
namespace PL
open PySem PySem.Spec PyProof.Rows L2
/-! ### Laying.__init__ -/
/-- a laying -/
def layD (nd nd2 : Bool) (l o : List Int) : D := .ins "Laying" [("lengths", .tup nd (l.map .int)), ("order", .tup nd2 (o.map .int)), ("many", .int l.length), ("size", .int l.sum), ("goal", .tup true ((goalL l o).map .int))]
end PL
set_option Elab.async false
set_option linter.all false
set_option maxRecDepth 100000
set_option maxHeartbeats 1000000
set_option autoImplicit false
/-! LY2: the goals are the places, each once; fields of a laying; check_laying, check_place. -/
namespace PL
open PySem PySem.Spec PyProof.Rows L2
theorem start_ne (l o : List Int) (h : Int) {q p : Int} (e : ¬ q = p) : startI l (q :: o) h p = startI l o (h + lenAt l q) p := by
  rw [startI, if_neg e]
theorem perm_sum {a b : List Int} (h : a.Perm b) : a.sum = b.sum := by
  induction h with
  | nil => rfl
  | cons x _ ih => rw [List.sum_cons, List.sum_cons, ih]
  | swap x y l => simp only [List.sum_cons]; omega
  | trans _ _ i j => exact i.trans j
end PL
namespace PL
open PySem PySem.Spec PyProof.Rows L2
section
variable {cs : List Str} (hc : cs.contains "Laying" = true) (nd nd2 : Bool) (l o : List Int)
include hc
end
end PL
set_option Elab.async false
set_option linter.all false
set_option maxRecDepth 100000
set_option maxHeartbeats 1000000
set_option autoImplicit false
/-! LY3: rounds: how a place is led till it comes back. -/
namespace PL
open PySem PySem.Spec PyProof.Rows L2
def gAt (G : List Int) (a : Int) : Int := G.getD a.toNat 0
def itG (G : List Int) (p : Int) : Nat → Int
  | 0 => p
  | k + 1 => gAt G (itG G p k)
theorem nodup_le : ∀ (l m : List Int), l.Nodup → (∀ x ∈ l, x ∈ m) → l.length ≤ m.length
  | [], _, _, _ => Nat.zero_le _
  | a :: l, m, h, hs => by
    have h2 := List.nodup_cons.mp h
    have ha := hs a (by simp)
    have := nodup_le l (m.erase a) h2.2 fun x hx => by
      have hne : x ≠ a := fun e => h2.1 (e ▸ hx)
      exact (List.mem_erase_of_ne hne).mpr (hs x (List.mem_cons_of_mem _ hx))
    rw [List.length_erase_of_mem ha] at this
    have hm : 0 < m.length := List.length_pos_of_mem ha
    rw [List.length_cons]
    omega
theorem least {P : Nat → Prop} (n : Nat) (h : P n) : ∃ m, m ≤ n ∧ P m ∧ ∀ k, k < m → ¬ P k := by
  induction n using Nat.strongRecOn with
  | ind n ih =>
    by_cases hk : ∃ k, k < n ∧ P k
    · obtain ⟨k, hk, pk⟩ := hk
      obtain ⟨m, hm, pm, hl⟩ := ih k hk pk
      exact ⟨m, by omega, pm, hl⟩
    · exact ⟨n, Nat.le_refl _, h, fun k hkn pk => hk ⟨k, hkn, pk⟩⟩
section
variable {G : List Int} {n : Nat} (hG : G.Perm (rgI n))
include hG
theorem gLen : G.length = n := by rw [hG.length_eq, rg_len]; simp
theorem gAt_get {a : Int} (h0 : 0 ≤ a) (h : a < n) : G[a.toNat]? = some (gAt G a) := by
  have := gLen hG
  unfold gAt
  rw [List.getD_eq_getElem?_getD, List.getElem?_eq_getElem (by omega)]
  rfl
theorem gAt_mem {a : Int} (h0 : 0 ≤ a) (h : a < n) : 0 ≤ gAt G a ∧ gAt G a < n := mem_rg.mp (hG.mem_iff.mp (List.mem_of_getElem? (gAt_get hG h0 h)))
theorem gAt_inj {a b : Int} (a0 : 0 ≤ a) (ha : a < n) (b0 : 0 ≤ b) (hb : b < n) (e : gAt G a = gAt G b) : a = b := by
  have hn : G.Nodup := hG.nodup_iff.mpr (rg_nodup n)
  have l := gLen hG
  have h1 := gAt_get hG a0 ha
  have h2 := gAt_get hG b0 hb
  rw [e, ← h2] at h1
  have := (List.getElem?_inj (by omega) hn).mp h1
  omega
theorem it_mem {p : Int} (p0 : 0 ≤ p) (hp : p < n) : ∀ k, 0 ≤ itG G p k ∧ itG G p k < n
  | 0 => ⟨p0, hp⟩
  | k + 1 => gAt_mem hG (it_mem p0 hp k).1 (it_mem p0 hp k).2
theorem it_back {p : Int} (p0 : 0 ≤ p) (hp : p < n) : ∀ (i d : Nat), itG G p i = itG G p (i + d) → itG G p d = p
  | 0, d, e => by rw [Nat.zero_add] at e; exact e.symm
  | i + 1, d, e => by
    refine it_back p0 hp i d ?_
    have e2 : gAt G (itG G p i) = gAt G (itG G p (i + d)) := by
      have : i + 1 + d = (i + d) + 1 := by omega
      rw [this] at e
      exact e
    exact gAt_inj hG (it_mem hG p0 hp i).1 (it_mem hG p0 hp i).2 (it_mem hG p0 hp (i + d)).1 (it_mem hG p0 hp (i + d)).2 e2
/-- a round: after m steps a place comes back, not ahead -/
theorem round_ex {p : Int} (p0 : 0 ≤ p) (hp : p < n) : ∃ m, 1 ≤ m ∧ m ≤ n ∧ itG G p m = p ∧ ∀ k, 1 ≤ k → k < m → itG G p k ≠ p := by
  have hex : ∃ d, 1 ≤ d ∧ d ≤ n ∧ itG G p d = p := by
    refine Classical.byContradiction fun hno => ?_
    have hnd : ((List.range (n + 1)).map (itG G p)).Nodup := by
      rw [List.nodup_iff_pairwise_ne, List.pairwise_map]
      refine List.Pairwise.imp_of_mem (R := fun a b => a < b) (fun {a b} ha hb hab e => ?_) List.pairwise_lt_range
      have hb := List.mem_range.mp hb
      have e2 : itG G p a = itG G p (a + (b - a)) := by rw [e]; congr 1; omega
      exact hno ⟨b - a, by omega, by omega, it_back hG p0 hp a (b - a) e2⟩
    have := nodup_le _ (rgI n) hnd fun x hx => by
      obtain ⟨k, _, rfl⟩ := List.mem_map.mp hx
      exact mem_rg.mpr (it_mem hG p0 hp k)
    rw [List.length_map, List.length_range, rg_len] at this
    omega
  obtain ⟨d, h1, h2, h3⟩ := hex
  obtain ⟨m, hm, ⟨q1, q2⟩, q3⟩ := least (P := fun d => 1 ≤ d ∧ itG G p d = p) d ⟨h1, h3⟩
  exact ⟨m, q1, by omega, q2, fun k k1 k2 e => q3 k k2 ⟨k1, e⟩⟩
end
end PL
namespace PL
open PySem PySem.Spec PyProof.Rows L2
/-! ### raw_round -/
/-- the first m places from p on -/
def rowG (G : List Int) (p : Int) (m : Nat) : List Int := (List.range m).map (itG G p)
end PL
set_option Elab.async false
set_option linter.all false
set_option maxRecDepth 100000
set_option maxHeartbeats 1000000
set_option autoImplicit false
/-! PL57: any, all of flags and ints. -/
namespace PL
open PySem PySem.Spec PyProof.Rows L2
section
variable {K : PySem.W.Frag} {mg : Str → Option Value} {Z : Zs} {H : Hp}
end
end PL
set_option Elab.async false
set_option linter.all false
set_option maxRecDepth 100000
set_option maxHeartbeats 1000000
set_option autoImplicit false
/-! PL58: flag <= flag. -/
namespace PL
open PySem PySem.Spec PyProof.Rows L2
section
variable {K : PySem.W.Frag} {mg : Str → Option Value}
end
end PL
set_option Elab.async false
set_option linter.all false
set_option maxRecDepth 100000
set_option maxHeartbeats 1000000
set_option autoImplicit false
/-! PL59: loops by what is done, comprehensions over mapped lists, equal in kind. -/
namespace PL
open PySem PySem.Spec PyProof.Rows L2
theorem bindT_nm {i : Nat} {d : D} {st : DSt} : bindT (.nm i) d st = if i < st.length then some (st.set i (some (false, d))) else none := by rw [bindT]
theorem bindT_tup {ts : List Tg} {nd : Bool} {ds : List D} {st : DSt} : bindT (.tup ts) (.tup nd ds) st = bindTs ts ds st := by rw [bindT]
theorem bindTs_nil {st : DSt} : bindTs [] [] st = some st := by rw [bindTs]
theorem bindTs_cons {t : Tg} {ts : List Tg} {d : D} {ds : List D} {st : DSt} : bindTs (t :: ts) (d :: ds) st = (bindT t d st).bind (bindTs ts ds) := by rw [bindTs]
section
variable {α : Type} {t : Tg} {b : MS} {P : PEnds} {st : DSt}
/-- a for over mapped items, by an invariant over those done -/
theorem for_pre (e : α → D) {xs : List α} (I : List α → DSt → Prop) (h0 : I [] st)
    (hs : ∀ done a rest st, xs = done ++ a :: rest → I done st → ∃ st1, bindT t (e a) st = some st1 ∧ (b st1).post { P with nx := I (done ++ [a]), ct := I (done ++ [a]), bk := P.nx })
    (hd : ∀ st, I xs st → P.nx st) : (forL t b (xs.map e) st).post P := by
  refine for_inv (fun r st => ∃ done rest, xs = done ++ rest ∧ r = rest.map e ∧ I done st) ?_ ?_ _ _ ⟨[], xs, rfl, rfl, h0⟩
  · rintro d r st ⟨done, rest, e1, e2, hI⟩
    cases rest with
    | nil => cases e2
    | cons a rest =>
      cases e2
      obtain ⟨st1, h1, h2⟩ := hs done a rest st e1 hI
      have q : ∀ st, I (done ++ [a]) st → ∃ done' rest', xs = done' ++ rest' ∧ rest.map e = rest'.map e ∧ I done' st := fun st h => ⟨done ++ [a], rest, by rw [List.append_assoc]; exact e1, rfl, h⟩
      exact ⟨st1, h1, h2.mono q (fun _ h => h) q (fun _ _ _ h => h) fun _ _ _ h => h⟩
  · rintro st ⟨done, rest, e1, e2, hI⟩
    cases rest with
    | cons a rest => cases e2
    | nil =>
      rw [List.append_nil] at e1
      subst e1
      exact hd st hI
/-- a for over a range -/
theorem for_rg {a : Int} {n : Nat} (I : Nat → DSt → Prop) (h0 : I 0 st)
    (hs : ∀ k st, k < n → I k st → ∃ st1, bindT t (.int (a + (k : Int))) st = some st1 ∧ (b st1).post { P with nx := I (k + 1), ct := I (k + 1), bk := P.nx })
    (hd : ∀ st, I n st → P.nx st) : (forL t b (rangeD a 1 n) st).post P := by
  have e : rangeD a 1 n = (List.range n).map fun (k : Nat) => D.int (a + (k : Int)) := by
    have := rangeD_map id a n
    simpa using this
  rw [e]
  refine for_pre (fun (k : Nat) => D.int (a + (k : Int))) (fun done st => I done.length st) h0 (fun done k rest st e hI => ?_) fun st h => hd st (by simpa using h)
  have hk : k = done.length ∧ k < n := by
    have h1 := congrArg (fun l => l[done.length]?) e
    simp only [List.getElem?_append_right (Nat.le_refl _), Nat.sub_self, List.getElem?_cons_zero] at h1
    have h2 := List.getElem?_eq_some_iff.mp h1
    obtain ⟨h3, h4⟩ := h2
    rw [List.length_range] at h3
    rw [List.getElem_range] at h4
    omega
  obtain ⟨rfl, hk⟩ := hk
  have := hs done.length st hk hI
  rw [List.length_append]
  exact this
theorem zipD_map {β : Type} (f : α → D) (g : β → D) : ∀ (l : List α) (m : List β), zipD (l.map f) (m.map g) = (l.zip m).map fun p => .tup false [f p.1, g p.2]
  | [], m => by cases m <;> rfl
  | a :: l, [] => rfl
  | a :: l, b :: m => by
    show _ :: zipD (l.map f) (m.map g) = _
    rw [zipD_map f g l m]
    rfl
end
section
variable {α β : Type} {vs : List Nat} {t : Tg} {test : M Bool} {elt : M (Bool × D)} {K : List D → DSt → Prop} {st : DSt}
/-- a comprehension over mapped items -/
theorem lc_over (e : α → D) (g : α → D) {xs : List α}
    (hs : ∀ a ∈ xs, ∃ st1, bindT t (e a) st = some st1 ∧ wipeD st1 vs = st ∧ hid vs st1 = true ∧ (elt st1).post (fun q st3 => q.2 = g a ∧ st3 = st1) NX) (h : K (xs.map g) st) : (lcL vs t (M.pure true) elt (xs.map e) [] st).post K NX := by
  have key : ∀ (xs : List α) (acc : List D), (∀ a ∈ xs, ∃ st1, bindT t (e a) st = some st1 ∧ wipeD st1 vs = st ∧ hid vs st1 = true ∧ (elt st1).post (fun q st3 => q.2 = g a ∧ st3 = st1) NX) → K (acc ++ xs.map g) st → (lcL vs t (M.pure true) elt (xs.map e) acc st).post K NX := by
    intro xs
    induction xs with
    | nil => intro acc _ h; simpa [lcL, M.pure, Out.post] using h
    | cons a xs ih =>
      intro acc hs h
      obtain ⟨st1, e1, w, hh, he⟩ := hs a (by simp)
      rw [List.map_cons, lcL, post_bind, post_bindM]
      refine ⟨st1, e1, ?_⟩
      rw [post_bind, post_noX]
      rw [post_pure, post_ite, if_pos rfl, post_bind, post_noX]
      refine he.mono (fun q st3 ⟨q1, q2⟩ => ?_) fun _ _ _ h => h
      subst q2
      rw [post_bind, post_wipeM]
      refine ⟨hh, ?_⟩
      rw [w, q1]
      exact ih _ (fun a ha => hs a (List.mem_cons_of_mem _ ha)) (by simpa using h)
  exact key xs [] hs h
/-- .. with a test -/
theorem lc_overT (e : α → D) (p : α → Bool) (g : α → D) {xs : List α}
    (hs : ∀ a ∈ xs, ∃ st1, bindT t (e a) st = some st1 ∧ wipeD st1 vs = st ∧ hid vs st1 = true ∧ (test st1).post (fun b st2 => b = p a ∧ st2 = st1) NX ∧ (p a = true → (elt st1).post (fun q st3 => q.2 = g a ∧ st3 = st1) NX)) (h : K ((xs.filter p).map g) st) : (lcL vs t test elt (xs.map e) [] st).post K NX := by
  have key : ∀ (xs : List α) (acc : List D), (∀ a ∈ xs, ∃ st1, bindT t (e a) st = some st1 ∧ wipeD st1 vs = st ∧ hid vs st1 = true ∧ (test st1).post (fun b st2 => b = p a ∧ st2 = st1) NX ∧ (p a = true → (elt st1).post (fun q st3 => q.2 = g a ∧ st3 = st1) NX)) → K (acc ++ (xs.filter p).map g) st → (lcL vs t test elt (xs.map e) acc st).post K NX := by
    intro xs
    induction xs with
    | nil => intro acc _ h; simpa [lcL, M.pure, Out.post] using h
    | cons a xs ih =>
      intro acc hs h
      obtain ⟨st1, e1, w, hh, ht, he⟩ := hs a (by simp)
      rw [List.map_cons, lcL, post_bind, post_bindM]
      refine ⟨st1, e1, ?_⟩
      rw [post_bind, post_noX]
      refine ht.mono (fun b st2 ⟨q1, q2⟩ => ?_) fun _ _ _ h => h
      subst q1 q2
      rw [post_ite]
      cases hp : p a with
      | true =>
        rw [if_pos rfl, post_bind, post_noX]
        refine (he hp).mono (fun q st3 ⟨q1, q2⟩ => ?_) fun _ _ _ h => h
        subst q2
        rw [post_bind, post_wipeM]
        refine ⟨hh, ?_⟩
        rw [w, q1]
        refine ih _ (fun a ha => hs a (List.mem_cons_of_mem _ ha)) ?_
        rw [List.filter_cons_of_pos hp] at h
        simpa using h
      | false =>
        rw [if_neg (by simp), post_bind, post_wipeM]
        refine ⟨hh, ?_⟩
        rw [w]
        refine ih _ (fun a ha => hs a (List.mem_cons_of_mem _ ha)) ?_
        rw [List.filter_cons_of_neg (by simp [hp])] at h
        exact h
  exact key xs [] hs h
theorem rangeD_eq (a : Int) (n : Nat) : rangeD a 1 n = (List.range n).map fun (k : Nat) => D.int (a + (k : Int)) := by
  have := rangeD_map id a n
  simpa using this
theorem lc_rg {a : Int} {n : Nat} (g : Nat → D)
    (hs : ∀ k, k < n → ∃ st1, bindT t (.int (a + (k : Int))) st = some st1 ∧ wipeD st1 vs = st ∧ hid vs st1 = true ∧ (elt st1).post (fun q st3 => q.2 = g k ∧ st3 = st1) NX) (h : K ((List.range n).map g) st) : (lcL vs t (M.pure true) elt (rangeD a 1 n) [] st).post K NX := by
  rw [rangeD_eq]
  exact lc_over _ g (fun k hk => hs k (List.mem_range.mp hk)) h
theorem lc_rgT {a : Int} {n : Nat} (p : Nat → Bool) (g : Nat → D)
    (hs : ∀ k, k < n → ∃ st1, bindT t (.int (a + (k : Int))) st = some st1 ∧ wipeD st1 vs = st ∧ hid vs st1 = true ∧ (test st1).post (fun b st2 => b = p k ∧ st2 = st1) NX ∧ (p k = true → (elt st1).post (fun q st3 => q.2 = g k ∧ st3 = st1) NX)) (h : K (((List.range n).filter p).map g) st) : (lcL vs t test elt (rangeD a 1 n) [] st).post K NX := by
  rw [rangeD_eq]
  exact lc_overT _ p g (fun k hk => hs k (List.mem_range.mp hk)) h
end
end PL
local macro_rules | `(tactic| simp_arith [$ls,*]) => `(tactic| simp only [PL.post_par3, PL.post_rangeDn, PL.post_augI, PL.post_stSF, PL.post_make, PL.fromMk_ok, PL.post_methAN, PL.post_methAE, PL.pickA_tup, PL.pickA_lst, PL.pickA_rol, PL.post_seq, PL.post_set, PL.post_retS, PL.post_drop, PL.post_back, PL.post_ifI, PL.post_next, PL.post_brk, PL.post_cont, PL.post_retN, PL.post_par, PL.post_asg, PL.post_store, PL.post_for, PL.post_mC, PL.post_bind, PL.post_pure, PL.post_lift, PL.post_mOps, PL.post_ops0, PL.post_opsN, PL.post_opsE, PL.post_exs0, PL.post_exsC, PL.post_mT, PL.post_notT, PL.post_andT, PL.post_orT, PL.post_mIf, PL.post_andV, PL.post_orV, PL.post_peekN, PL.post_peekE, PL.post_peek, PL.post_intM, PL.post_chain, PL.post_tup, PL.post_lst, PL.post_items, PL.post_range1, PL.post_range2, PL.post_mEnum, PL.post_mZip, PL.post_lstRg, PL.post_tupRg, PL.post_rg1, PL.post_rg2, PL.post_call, PL.post_callIo, PL.post_mut, PL.FOut.post_okI, PL.onNone_n, PL.onSome_s, PL.post_slN, PL.post_slE, PL.post_name, PL.oM, PL.frozen, PL.ownKind, PL.bindT_nm, PL.bindT_tup, PL.bindTs_nil, PL.bindTs_cons, PL.own0, List.getElem?_cons_zero, List.getElem?_cons_succ, List.set_cons_zero, List.set_cons_succ, Option.some.injEq, Prod.mk.injEq, exists_and_left, exists_eq_left, exists_eq_left', exists_and_right, and_assoc, if_true, if_false, ite_true, ite_false, Bool.false_eq_true, Bool.not_true, Bool.not_false, true_and, and_true, false_and, and_false, List.length_cons, List.length_nil, Nat.reduceAdd, Nat.reduceLT, Nat.reduceLeDiff, Nat.zero_lt_succ, Nat.succ_lt_succ_iff, PL.D.int.injEq, PL.D.bl.injEq, PL.D.tup.injEq, PL.D.lst.injEq, PL.D.str.injEq, reduceCtorEq, PL.startSt, List.map_cons, List.map_nil, List.replicate, List.nil_append, List.cons_append, Option.bind_some, and_self, Nat.zero_le, PL.le1, PL.le2, PL.le3, PL.le4, PL.le5, PL.le6, PL.post_tupN, PL.post_aug, PL.post_mZipX, PL.zipX_tup, PL.zipX_lst, PL.zipX_mix, PL.etl, PL.ett, exists_eq, exists_eq', PL.fl, PL.dLen_tup, PL.items_tup, PL.seqOf_tup, PL.dLen_lst, PL.items_lst, PL.listOf_lst, PL.seqOf_lst, PL.dLen_rol, PL.items_rol, PL.listOf_rol, PL.seqOf_rol, PL.dLen_dic, PL.enum_tup, PL.enum_lst, PL.zip_tup, PL.zip_lst, PL.dTru_bl, PL.dNot_bl, PL.dAdd_int, PL.dAddN_int, PL.dSub_int, PL.dLt_int, PL.dLe_int, PL.dGt_int, PL.dGe_int, PL.dEqF_int, PL.dNeF_int, PL.dNeg_int, PL.dInt_int, PL.isA_tuple_tup, PL.isA_tuple_int, PL.isA_tuple_lst, PL.isA_tuple_bl, PL.isA_tuple_non, PL.isA_tuple_str, PL.isA_int_tup, PL.isA_int_int, PL.isA_int_lst, PL.isA_int_bl, PL.isA_int_non, PL.isA_int_str, PL.isA_bool_tup, PL.isA_bool_int, PL.isA_bool_lst, PL.isA_bool_bl, PL.isA_bool_non, PL.isA_bool_str, PL.isA_list_tup, PL.isA_list_int, PL.isA_list_lst, PL.isA_list_bl, PL.isA_list_non, PL.isA_list_str, PL.isA_str_tup, PL.isA_str_int, PL.isA_str_lst, PL.isA_str_bl, PL.isA_str_non, PL.isA_str_str, PL.dIx_tup, PL.dIx_lst, PL.dIxA_tup, PL.dIxA_lst, PL.dIxA_dic, PL.dInA_dic, PL.dInA_tup, PL.dInA_lst, PL.wipeD, PL.putBack, PL.post_lc, List.length_map, List.length_range, PL.rangeD_len, $ls,*])
local macro_rules | `(tactic| simp_arith [$ls,*] at $h:ident) => `(tactic| simp only [PL.post_par3, PL.post_rangeDn, PL.post_augI, PL.post_stSF, PL.post_make, PL.fromMk_ok, PL.post_methAN, PL.post_methAE, PL.pickA_tup, PL.pickA_lst, PL.pickA_rol, PL.post_seq, PL.post_set, PL.post_retS, PL.post_drop, PL.post_back, PL.post_ifI, PL.post_next, PL.post_brk, PL.post_cont, PL.post_retN, PL.post_par, PL.post_asg, PL.post_store, PL.post_for, PL.post_mC, PL.post_bind, PL.post_pure, PL.post_lift, PL.post_mOps, PL.post_ops0, PL.post_opsN, PL.post_opsE, PL.post_exs0, PL.post_exsC, PL.post_mT, PL.post_notT, PL.post_andT, PL.post_orT, PL.post_mIf, PL.post_andV, PL.post_orV, PL.post_peekN, PL.post_peekE, PL.post_peek, PL.post_intM, PL.post_chain, PL.post_tup, PL.post_lst, PL.post_items, PL.post_range1, PL.post_range2, PL.post_mEnum, PL.post_mZip, PL.post_lstRg, PL.post_tupRg, PL.post_rg1, PL.post_rg2, PL.post_call, PL.post_callIo, PL.post_mut, PL.FOut.post_okI, PL.onNone_n, PL.onSome_s, PL.post_slN, PL.post_slE, PL.post_name, PL.oM, PL.frozen, PL.ownKind, PL.bindT_nm, PL.bindT_tup, PL.bindTs_nil, PL.bindTs_cons, PL.own0, List.getElem?_cons_zero, List.getElem?_cons_succ, List.set_cons_zero, List.set_cons_succ, Option.some.injEq, Prod.mk.injEq, exists_and_left, exists_eq_left, exists_eq_left', exists_and_right, and_assoc, if_true, if_false, ite_true, ite_false, Bool.false_eq_true, Bool.not_true, Bool.not_false, true_and, and_true, false_and, and_false, List.length_cons, List.length_nil, Nat.reduceAdd, Nat.reduceLT, Nat.reduceLeDiff, Nat.zero_lt_succ, Nat.succ_lt_succ_iff, PL.D.int.injEq, PL.D.bl.injEq, PL.D.tup.injEq, PL.D.lst.injEq, PL.D.str.injEq, reduceCtorEq, PL.startSt, List.map_cons, List.map_nil, List.replicate, List.nil_append, List.cons_append, Option.bind_some, and_self, Nat.zero_le, PL.le1, PL.le2, PL.le3, PL.le4, PL.le5, PL.le6, PL.post_tupN, PL.post_aug, PL.post_mZipX, PL.zipX_tup, PL.zipX_lst, PL.zipX_mix, PL.etl, PL.ett, exists_eq, exists_eq', PL.fl, PL.dLen_tup, PL.items_tup, PL.seqOf_tup, PL.dLen_lst, PL.items_lst, PL.listOf_lst, PL.seqOf_lst, PL.dLen_rol, PL.items_rol, PL.listOf_rol, PL.seqOf_rol, PL.dLen_dic, PL.enum_tup, PL.enum_lst, PL.zip_tup, PL.zip_lst, PL.dTru_bl, PL.dNot_bl, PL.dAdd_int, PL.dAddN_int, PL.dSub_int, PL.dLt_int, PL.dLe_int, PL.dGt_int, PL.dGe_int, PL.dEqF_int, PL.dNeF_int, PL.dNeg_int, PL.dInt_int, PL.isA_tuple_tup, PL.isA_tuple_int, PL.isA_tuple_lst, PL.isA_tuple_bl, PL.isA_tuple_non, PL.isA_tuple_str, PL.isA_int_tup, PL.isA_int_int, PL.isA_int_lst, PL.isA_int_bl, PL.isA_int_non, PL.isA_int_str, PL.isA_bool_tup, PL.isA_bool_int, PL.isA_bool_lst, PL.isA_bool_bl, PL.isA_bool_non, PL.isA_bool_str, PL.isA_list_tup, PL.isA_list_int, PL.isA_list_lst, PL.isA_list_bl, PL.isA_list_non, PL.isA_list_str, PL.isA_str_tup, PL.isA_str_int, PL.isA_str_lst, PL.isA_str_bl, PL.isA_str_non, PL.isA_str_str, PL.dIx_tup, PL.dIx_lst, PL.dIxA_tup, PL.dIxA_lst, PL.dIxA_dic, PL.dInA_dic, PL.dInA_tup, PL.dInA_lst, PL.wipeD, PL.putBack, PL.post_lc, List.length_map, List.length_range, PL.rangeD_len, $ls,*] at $h:ident)
set_option Elab.async false
set_option linter.all false
set_option maxRecDepth 100000
set_option maxHeartbeats 1000000
set_option autoImplicit false
/-! PL60: a text times an int; words. -/
namespace PL
open PySem PySem.Spec PyProof.Rows L2
def dMulX : List D → Option (Bool × D)
  | [.str x, .int k] => if x.length ≤ 16 ∧ -(2 ^ 63) ≤ k ∧ k ≤ 1048576 then fl (.str (Txt.mul x k)) else none
  | l => dMulW l
def rMulS : R2 := fun x y H Q => ∃ (a : Str) (k : Int), x = .str a ∧ y = .int k ∧ (a.length ≤ 16 ∧ -(2 ^ 63) ≤ k ∧ k ≤ 1048576) ∧ Q (.str (Txt.mul a k)) H
theorem op_mulS {X : Cx} : OpR X (binaryOp .Mult) rMulS := by
  intro pins s σ H x y v u Q I rx ry h
  obtain ⟨a, k, rfl, rfl, ⟨h1, h2, h3⟩, q⟩ := h
  obtain ⟨t, rfl⟩ := rx
  obtain ⟨t', rfl⟩ := ry
  exact PySem.W.KXi.mul (n := a.length) rfl h1 h2 (by simpa using h3) fun t2 k2 _ _ => ⟨.str _, H, I.tok _, ⟨_, rfl⟩, q⟩
def rMulX (K : PySem.W.Frag) : R2 := fun x y H Q => rMulW K x y H Q ∨ rMulS x y H Q
theorem or_mulX {X : Cx} : OpR X (binaryOp .Mult) (rMulX X.K) := OpR.or or_mulW op_mulS
theorem b_mulX {K : PySem.W.Frag} {mg : Str → Option Value} : BSpec K mg (r2L (rMulX K)) dMulX := by
  intro Z H vs ds fr d Q dom pl e k
  unfold dMulX at e
  split at e
  · rename_i x j
    obtain ⟨v, w, rfl, h1, h2⟩ := pl2 pl
    split at e
    · rename_i hc
      rw [pk_str h1, pk_int h2]
      exact .inr ⟨_, _, rfl, rfl, hc, fin0 e (.str _) k⟩
    · cases e
  · have q := b_mulW Z H vs _ fr d Q dom pl e k
    cases pl with
    | nil => exact q
    | cons h1 t =>
      cases t with
      | nil => exact q
      | cons h2 t =>
        cases t with
        | nil => exact .inl q
        | cons h3 t => exact q
/-! ### words -/
/-- a text by its signs -/
def SL (w : List Nat) : Str := ⟨w.toArray⟩
theorem SL_len (w : List Nat) : (SL w).length = w.length := by simp [SL, PySem.Str.length]
theorem SL_app (a b : List Nat) : SL a ++ SL b = SL (a ++ b) := by
  show Str.append (SL a) (SL b) = _
  simp [SL, Str.append]
theorem SL_cps (w : List Nat) : (SL w).cps.toList = w := by simp [SL]
theorem s_empty : ("" : Str) = SL [] := by decide +kernel
theorem s_abc : ("abcdef" : Str) = SL [97, 98, 99, 100, 101, 102] := by decide +kernel
end PL
set_option Elab.async false
set_option linter.all false
set_option maxRecDepth 100000
set_option maxHeartbeats 1000000
set_option autoImplicit false
/-! PL61: what operations give on words. -/
namespace PL
open PySem PySem.Spec PyProof.Rows L2
theorem join_SL (l : List (List Nat)) : Txt.join (SL []) (l.map SL) = SL l.flatten := by
  have key : ∀ (r : List (List Nat)) (a : Array Nat), (r.map SL).foldl (fun acc p => acc ++ (SL []).cps ++ p.cps) a = a ++ r.flatten.toArray := by
    intro r
    induction r with
    | nil => intro a; simp
    | cons b r ih =>
      intro a
      rw [List.map_cons, List.foldl_cons, ih]
      simp [SL]
  show Builtin.Str.glued (SL []) (l.map SL) = _
  unfold Builtin.Str.glued
  cases l with
  | nil => simp [SL, Str.empty]
  | cons b r =>
    rw [List.map_cons, List.drop_one, List.tail_cons, key r]
    simp [SL]
theorem strsOf_SL : ∀ l : List (List Nat), strsOf (l.map fun w => D.str (SL w)) = some (l.map SL)
  | [] => rfl
  | a :: l => by
    show (strsOf (l.map fun a => D.str (SL a))).map _ = _
    rw [strsOf_SL l]
    rfl
theorem join_ok {d : D} (l : List (List Nat)) (hd : seqOf d = some (l.map fun w => D.str (SL w))) (h : (l.map List.length).sum ≤ 10000) : dJoin [.str "", d] = some (false, .str (SL l.flatten)) := by
  show ((seqOf d).bind fun ds => (strsOf ds).bind fun ys => if (ys.map (·.length)).sum + ys.length * ("" : Str).length ≤ 16777216 then fl (.str (Txt.join "" ys)) else none) = _
  rw [hd, Option.bind_some, strsOf_SL, Option.bind_some, s_empty, SL_len, join_SL]
  have e : ((l.map SL).map (·.length)).sum = (l.map List.length).sum := by
    rw [List.map_map]
    exact congrArg List.sum (List.map_congr_left fun w _ => SL_len w)
  rw [if_pos (by rw [e, List.length_nil, Nat.mul_zero]; omega)]
  rfl
theorem join_lst (l : List (List Nat)) (h : (l.map List.length).sum ≤ 10000) : dJoin [.str "", .lst (l.map fun w => D.str (SL w))] = some (false, .str (SL l.flatten)) := join_ok l rfl h
/-- .. of one sign each -/
theorem join_ones {α : Type} (f : α → Nat) (l : List α) (h : l.length ≤ 10000) : dJoin [.str "", .lst (l.map fun a => D.str (SL [f a]))] = some (false, .str (SL (l.map f))) := by
  have e : (l.map fun a => D.str (SL [f a])) = (l.map fun a => [f a]).map fun w => D.str (SL w) := by rw [List.map_map]; rfl
  rw [e, join_lst _ (by rw [List.map_map]; show (l.map fun _ => 1).sum ≤ _; rw [List.map_const', List.sum_replicate_nat]; omega)]
  have e2 : (l.map fun a => [f a]).flatten = l.map f := by
    induction l with
    | nil => rfl
    | cons a l ih => rw [List.map_cons, List.flatten_cons, ih (by rw [List.length_cons] at h; omega) (by simp)]; rfl
  rw [e2]
theorem len_str (w : List Nat) (h : w.length ≤ 100000) : dLen [.str (SL w)] = some (false, .int w.length) := by
  show (if (SL w).length ≤ sizeLine then fl (.int ((SL w).length : Nat)) else none) = _
  rw [SL_len, if_pos (sizeLine_60 h)]
  rfl
theorem mul_one (c k : Nat) : Txt.mul (SL [c]) (k : Int) = SL (List.replicate k c) := by
  have key : ∀ (n : Nat) (a : Array Nat), (List.replicate n (SL [c]).cps).foldl (· ++ ·) a = a ++ (List.replicate n c).toArray := by
    intro n
    induction n with
    | zero => intro a; simp
    | succ n ih =>
      intro a
      rw [List.replicate_succ, List.foldl_cons, ih, List.replicate_succ]
      apply Array.ext'
      simp [SL]
  unfold Txt.mul
  by_cases h1 : ((k : Nat) : Int) < 1
  · have : k = 0 := by omega
    subst this
    rw [if_pos h1]
    simp [SL, Str.empty]
  · rw [if_neg h1]
    by_cases h2 : k = 1
    · subst h2
      simp [SL]
    · have e : (((k : Nat) : Int) == 1 || (SL [c]).length == 0) = false := by
        rw [SL_len]
        have : (((k : Nat) : Int) == 1) = false := by
          rw [beq_eq_false_iff_ne]; omega
        rw [this]
        rfl
      rw [e, if_neg (by simp), Int.toNat_natCast, key]
      simp [SL]
theorem addN_str (a b : List Nat) (h : a.length + b.length ≤ 100000) : dAddN [.str (SL a), .str (SL b)] = some (false, .str (SL (a ++ b))) := by
  show (if (SL a).length + (SL b).length ≤ sizeLine then fl (.str (SL a ++ SL b)) else none) = _
  rw [if_pos (by rw [SL_len, SL_len]; exact sizeLine_60 h), SL_app]
  rfl
end PL
set_option Elab.async false
set_option linter.all false
set_option maxRecDepth 100000
set_option maxHeartbeats 1000000
set_option autoImplicit false
/-! PL62: equal in kind: three forms of a law's own look. -/
namespace PL
open PySem PySem.Spec PyProof.Rows L2
theorem isA2_tl_tup {nd : Bool} {ds : List D} : dIsA2 .tuple .list [.tup nd ds] = some (false, .bl true) := rfl
theorem isA2_tl_lst {ds : List D} : dIsA2 .tuple .list [.lst ds] = some (false, .bl true) := rfl
theorem isA2_tl_int {a : Int} : dIsA2 .tuple .list [.int a] = some (false, .bl false) := rfl
theorem isA2_tl_bl {a : Bool} : dIsA2 .tuple .list [.bl a] = some (false, .bl false) := rfl
theorem isA2_tl_str {a : Str} : dIsA2 .tuple .list [.str a] = some (false, .bl false) := rfl
theorem isA2_tl_non : dIsA2 .tuple .list [.non] = some (false, .bl false) := rfl
theorem is_int_non {a : Int} : dIs [.int a, .non] = some (false, .bl false) := rfl
theorem is_bl_non {a : Bool} : dIs [.bl a, .non] = some (false, .bl false) := rfl
theorem is_str_non {a : Str} : dIs [.str a, .non] = some (false, .bl false) := rfl
theorem is_tup_non {nd : Bool} {ds : List D} : dIs [.tup nd ds, .non] = some (false, .bl false) := rfl
theorem is_lst_non {ds : List D} : dIs [.lst ds, .non] = some (false, .bl false) := rfl
theorem is_non_non : dIs [.non, .non] = some (false, .bl true) := rfl
/-- signs that a text may have -/
def StrOk (x : Str) : Prop := PyData.strOk x = true ∧ x.length ≤ 100000
mutual
/-- alike, but for how it lies; at most k deep -/
inductive Alk : Nat → D → D → Prop
  | non {k : Nat} : Alk k .non .non
  | bl {k : Nat} (b : Bool) : Alk k (.bl b) (.bl b)
  | int {k : Nat} (i : Int) : Alk k (.int i) (.int i)
  | str {k : Nat} (x : Str) : StrOk x → Alk k (.str x) (.str x)
  | tup {k : Nat} (nd nd2 : Bool) {xs ys : List D} : AlkL k xs ys → xs.length ≤ 100000 → Alk (k + 1) (.tup nd xs) (.tup nd2 ys)
  | lst {k : Nat} {xs ys : List D} : AlkL k xs ys → xs.length ≤ 100000 → Alk (k + 1) (.lst xs) (.lst ys)
inductive AlkL : Nat → List D → List D → Prop
  | nil {k : Nat} : AlkL k [] []
  | cons {k : Nat} {x y : D} {xs ys : List D} : Alk k x y → AlkL k xs ys → AlkL k (x :: xs) (y :: ys)
end
theorem AlkL.len : ∀ {k : Nat} {xs ys : List D}, AlkL k xs ys → xs.length = ys.length
  | _, _, _, .nil => rfl
  | _, _, _, .cons _ t => by simp [t.len]
theorem AlkL.map {α : Type} {k : Nat} {f g : α → D} : ∀ {l : List α}, (∀ a ∈ l, Alk k (f a) (g a)) → AlkL k (l.map f) (l.map g)
  | [], _ => .nil
  | a :: l, h => .cons (h a (by simp)) (AlkL.map fun b hb => h b (List.mem_cons_of_mem _ hb))
theorem AlkL.ints {k : Nat} (l : List Int) : AlkL k (l.map .int) (l.map .int) := AlkL.map fun a _ => .int a
theorem AlkL.mem : ∀ {k : Nat} {xs ys : List D}, AlkL k xs ys → ∀ p ∈ xs.zip ys, Alk k p.1 p.2
  | _, _, _, .nil, p, hp => by simp at hp
  | _, _, _, .cons h t, p, hp => by
    rw [List.zip_cons_cons] at hp
    rcases List.mem_cons.mp hp with rfl | hp
    · exact h
    · exact t.mem p hp
theorem AlkL.rep {k n : Nat} {x y : D} (h : Alk k x y) : AlkL k (List.replicate n x) (List.replicate n y) := by
  induction n with
  | zero => exact .nil
  | succ n ih => rw [List.replicate_succ, List.replicate_succ]; exact .cons h ih
mutual
theorem Alk.mono : ∀ {k m : Nat} {a b : D}, k ≤ m → Alk k a b → Alk m a b
  | _, _, _, _, _, .non => .non
  | _, _, _, _, _, .bl b => .bl b
  | _, _, _, _, _, .int i => .int i
  | _, _, _, _, _, .str x h => .str x h
  | k + 1, 0, _, _, h, .tup _ _ _ _ => absurd h (by omega)
  | k + 1, m + 1, _, _, h, .tup nd nd2 t l => .tup nd nd2 (AlkL.mono (by omega) t) l
  | k + 1, 0, _, _, h, .lst _ _ => absurd h (by omega)
  | k + 1, m + 1, _, _, h, .lst t l => .lst (AlkL.mono (by omega) t) l
theorem AlkL.mono : ∀ {k m : Nat} {a b : List D}, k ≤ m → AlkL k a b → AlkL m a b
  | _, _, _, _, _, .nil => .nil
  | _, _, _, _, h, .cons x t => .cons (Alk.mono h x) (AlkL.mono h t)
end
/-! ### == -/
mutual
theorem eqv_refl : ∀ p : PyData, p.canLay0 = true → p.eqv p = true
  | .none, _ => by simp [PyData.eqv]
  | .bool b, _ => by simp [PyData.eqv]
  | .int i, _ => by simp [PyData.eqv]
  | .str x, _ => by simp [PyData.eqv]
  | .list xs, h => by rw [PyData.canLay0] at h; rw [PyData.eqv]; exact eqvAll_refl xs h
  | .tuple xs, h => by rw [PyData.canLay0] at h; rw [PyData.eqv]; exact eqvAll_refl xs h
  | .dict xs, h => by rw [PyData.canLay0] at h; cases h
theorem eqvAll_refl : ∀ ps : List PyData, PyData.canLayAll0 ps = true → PyData.eqvAll ps ps = true
  | [], _ => by simp [PyData.eqvAll]
  | p :: ps, h => by
    rw [PyData.canLayAll0, Bool.and_eq_true] at h
    rw [PyData.eqvAll, eqv_refl p h.1, eqvAll_refl ps h.2]; rfl
end
mutual
theorem Alk.pd : ∀ {k : Nat} {a b : D}, Alk k a b → ∃ p, toPD a = some p ∧ toPD b = some p ∧ p.canLay0 = true ∧ p.depth ≤ k
  | _, _, _, .non => ⟨_, rfl, rfl, by simp [PyData.canLay0], by simp [PyData.depth]⟩
  | _, _, _, .bl b => ⟨_, rfl, rfl, by simp [PyData.canLay0], by simp [PyData.depth]⟩
  | _, _, _, .int i => ⟨_, rfl, rfl, by simp [PyData.canLay0], by simp [PyData.depth]⟩
  | _, _, _, .str x h => ⟨_, rfl, rfl, by rw [PyData.canLay0]; exact h.1, by simp [PyData.depth]⟩
  | _, _, _, .tup nd nd2 t l => by
    obtain ⟨ps, e1, e2, h1, h2⟩ := AlkL.pd t
    exact ⟨.tuple ps, by rw [toPD, e1]; rfl, by rw [toPD, e2]; rfl, by rw [PyData.canLay0]; exact h1, by rw [PyData.depth]; omega⟩
  | _, _, _, .lst t l => by
    obtain ⟨ps, e1, e2, h1, h2⟩ := AlkL.pd t
    exact ⟨.list ps, by rw [toPD, e1]; rfl, by rw [toPD, e2]; rfl, by rw [PyData.canLay0]; exact h1, by rw [PyData.depth]; omega⟩
theorem AlkL.pd : ∀ {k : Nat} {a b : List D}, AlkL k a b → ∃ ps, toPDL a = some ps ∧ toPDL b = some ps ∧ PyData.canLayAll0 ps = true ∧ PyData.depthAll ps ≤ k
  | _, _, _, .nil => ⟨[], rfl, rfl, by simp [PyData.canLayAll0], by simp [PyData.depthAll]⟩
  | _, _, _, .cons h t => by
    obtain ⟨p, e1, e2, h1, h2⟩ := Alk.pd h
    obtain ⟨ps, f1, f2, g1, g2⟩ := AlkL.pd t
    exact ⟨p :: ps, by rw [toPDL, e1, f1], by rw [toPDL, e2, f2], by rw [PyData.canLayAll0, h1, g1]; rfl, by rw [PyData.depthAll]; omega⟩
end
theorem Alk.eqPD {k : Nat} {a b : D} (h : Alk k a b) (hk : k ≤ 60) : eqPD a b = some true := by
  obtain ⟨p, e1, e2, h1, h2⟩ := h.pd
  unfold PL.eqPD
  rw [e1, e2]
  have hs : SeqAt.shaped p = true := by
    unfold SeqAt.shaped
    rw [h1, decide_eq_true (by omega)]
    rfl
  simp only [hs, Bool.and_self, if_true, eqv_refl p h1]
theorem Alk.eqF {k : Nat} {a b : D} (h : Alk k a b) (hk : k ≤ 60) : dEqF [a, b] = some (false, .bl true) := by
  rw [dEqF_eq]
  show (PL.eqPD a b).bind _ = _
  rw [h.eqPD hk]
  rfl
theorem eqF_bl (a b : Bool) : dEqF [.bl a, .bl b] = some (false, .bl (a == b)) := by
  have h1 : ∀ a, SeqAt.shaped (.bool a) = true := fun a => by unfold SeqAt.shaped; simp [PyData.canLay0, PyData.depth]
  rw [dEqF_eq]
  unfold dEq PL.eqPD
  simp only [Option.bind_some, toPD, h1, Bool.and_self, if_true, PyData.eqv]
  rfl
theorem neF_bl (a b : Bool) : dNeF [.bl a, .bl b] = some (false, .bl (!(a == b))) := by
  have h1 : ∀ a, SeqAt.shaped (.bool a) = true := fun a => by unfold SeqAt.shaped; simp [PyData.canLay0, PyData.depth]
  rw [dNeF_eq]
  unfold dNe PL.eqPD
  simp only [Option.bind_some, toPD, h1, Bool.and_self, if_true, PyData.eqv]
  rfl
/-! ### own looks -/
def S_lawEqB (e' : FDen) : MS := (seqS (ifS (mT (mOps [(.ex (mOps [(.nm 1)] (dIsA2 .tuple .list)))] dTru)) (seqS (ifS (mT (mOps [(.ex (mOps [(.nm 0)] (dIsA .tuple))), (.ex (mOps [(.nm 1)] (dIsA .tuple)))] dNeF)) (seqS (retS (mC (.bl false)))
  nextS) nextS)
  (seqS (ifS (mOrT (mT (mOps [(.ex (mOps [(.nm 0)] (dIsA .list))), (.ex (mOps [(.nm 1)] (dIsA .list)))] dNeF)) (mT (mOps [(.ex (mOps [(.nm 0)] dLen)), (.ex (mOps [(.nm 1)] dLen))] dNeF))) (seqS (retS (mC (.bl false)))
  nextS) nextS)
  (seqS (retS (mOps [(.ex (mLc (mZipX (mName 0) (mName 1)) [2, 3] (.tup [(.nm 2), (.nm 3)]) (M.pure true) (mCall e' [(mName 2), (mName 3)])))] dAll))
  nextS))) nextS)
  (seqS (ifS (mOrT (mT (mOps [(.nm 1), (.ex (mC .non))] dIs)) (mT (mOps [(.nm 0), (.ex (mC .non))] dIs))) (seqS (retS (mAndV (mOps [(.nm 1), (.ex (mC .non))] dIs) (mOps [(.nm 0), (.ex (mC .non))] dIs)))
  nextS) nextS)
  (seqS (ifS (mT (mOps [(.ex (mOps [(.nm 0)] (dIsA .bool))), (.ex (mOps [(.nm 1)] (dIsA .bool)))] dNeF)) (seqS (retS (mC (.bl false)))
  nextS) nextS)
  (seqS (retS (mAndV (mOps [(.ex (mOps [(.nm 0)] (dIsA .str))), (.ex (mOps [(.nm 1)] (dIsA .str)))] dEqF) (mOps [(.nm 0), (.nm 1)] dEqF)))
  nextS))))
/-- a law's own look at two things: true of what is alike, at most k deep -/
def EqN (f : FDen) (k : Nat) : Prop := ∀ a b, Alk k a b → f [a, b] = .ok false (.bl true) none
theorem Alk_zip {k : Nat} {xs ys : List D} {f : FDen} (hf : EqN f k) (h : AlkL k xs ys) (a b : D) {K : List D → DSt → Prop} (hK : K ((xs.zip ys).map fun _ => D.bl true) [some (false, a), some (false, b), none, none]) :
    (lcL [2, 3] (.tup [.nm 2, .nm 3]) (M.pure true) (mCall f [mName 2, mName 3]) (zipD xs ys) [] [some (false, a), some (false, b), none, none]).post K NX := by
  have e : zipD xs ys = (xs.zip ys).map fun p => .tup false [p.1, p.2] := by
    have := zipD_map (fun d : D => d) (fun d : D => d) xs ys
    simpa using this
  rw [e]
  refine lc_over (fun p => .tup false [p.1, p.2]) (fun _ => D.bl true) (fun p hp => ?_) hK
  refine ⟨_, rfl, rfl, rfl, ?_⟩
  simp_arith [hf p.1 p.2 (h.mem p hp)]
theorem all_true {α : Type} (l : List α) : dAll [.lst (l.map fun _ => D.bl true)] = some (false, .bl true) := by
  rw [dAll_map (fun _ => true) l]
  simp
theorem zip_len {xs ys : List D} (h : xs.length = ys.length) : (zipD xs ys).length = ys.length := by rw [zipD_len, h, Nat.min_self]
theorem lawEqB_leaf (f : FDen) : EqN (fden false 2 4 (S_lawEqB f)) 0 := by
  intro a b h
  have he := h.eqF (by decide)
  refine run_def2 (dd := fden false 2 4 (S_lawEqB f)) (np := 2) (n := 4) (mb := S_lawEqB f) rfl _ _ _ (Eq.refl 2) ⟨?_⟩
  cases h with
  | non => simp_arith [S_lawEqB, isA2_tl_tup, isA2_tl_lst, isA2_tl_int, isA2_tl_bl, isA2_tl_str, isA2_tl_non, is_int_non, is_bl_non, is_str_non, is_tup_non, is_lst_non, is_non_non, eqF_bl, neF_bl, beq_self_eq_true, he]
  | bl b => simp_arith [S_lawEqB, isA2_tl_tup, isA2_tl_lst, isA2_tl_int, isA2_tl_bl, isA2_tl_str, isA2_tl_non, is_int_non, is_bl_non, is_str_non, is_tup_non, is_lst_non, is_non_non, eqF_bl, neF_bl, beq_self_eq_true, he]
  | int b => simp_arith [S_lawEqB, isA2_tl_tup, isA2_tl_lst, isA2_tl_int, isA2_tl_bl, isA2_tl_str, isA2_tl_non, is_int_non, is_bl_non, is_str_non, is_tup_non, is_lst_non, is_non_non, eqF_bl, neF_bl, beq_self_eq_true, he]
  | str b hb => simp_arith [S_lawEqB, isA2_tl_tup, isA2_tl_lst, isA2_tl_int, isA2_tl_bl, isA2_tl_str, isA2_tl_non, is_int_non, is_bl_non, is_str_non, is_tup_non, is_lst_non, is_non_non, eqF_bl, neF_bl, beq_self_eq_true, he]
theorem lawEqB_step {f : FDen} {k : Nat} (hf : EqN f k) : EqN (fden false 2 4 (S_lawEqB f)) (k + 1) := by
  intro a b h
  have leaf := lawEqB_leaf f
  cases h with
  | non => exact leaf _ _ .non
  | bl b => exact leaf _ _ (.bl b)
  | int i => exact leaf _ _ (.int i)
  | str x hx => exact leaf _ _ (.str x hx)
  | tup nd nd2 t hl =>
    rename_i xs ys
    refine run_def2 (dd := fden false 2 4 (S_lawEqB f)) (np := 2) (n := 4) (mb := S_lawEqB f) rfl _ _ _ (Eq.refl 2) ⟨?_⟩
    have hlen := t.len
    simp_arith [S_lawEqB, isA2_tl_tup, isA2_tl_lst, isA2_tl_int, isA2_tl_bl, isA2_tl_str, isA2_tl_non, is_int_non, is_bl_non, is_str_non, is_tup_non, is_lst_non, is_non_non, eqF_bl, neF_bl, beq_self_eq_true, hlen, post_lc]
    refine ⟨by rw [zip_len hlen]; exact sizeLine_60 (by omega), rfl, ?_⟩
    refine Alk_zip hf t _ _ ?_
    simp_arith [putBack, wipeD, all_true]
  | lst t hl =>
    rename_i xs ys
    refine run_def2 (dd := fden false 2 4 (S_lawEqB f)) (np := 2) (n := 4) (mb := S_lawEqB f) rfl _ _ _ (Eq.refl 2) ⟨?_⟩
    have hlen := t.len
    simp_arith [S_lawEqB, isA2_tl_tup, isA2_tl_lst, isA2_tl_int, isA2_tl_bl, isA2_tl_str, isA2_tl_non, is_int_non, is_bl_non, is_str_non, is_tup_non, is_lst_non, is_non_non, eqF_bl, neF_bl, beq_self_eq_true, hlen, post_lc]
    refine ⟨by rw [zip_len hlen]; exact sizeLine_60 (by omega), rfl, ?_⟩
    refine Alk_zip hf t _ _ ?_
    simp_arith [putBack, wipeD, all_true]
theorem eqN_of {dR : Nat → FDen} (hs : ∀ k n, EqN (dR k) n → EqN (dR (k + 1)) (n + 1)) (h0 : ∀ k, EqN (dR (k + 1)) 0) : ∀ k, EqN (dR (k + 1)) k
  | 0 => h0 0
  | k + 1 => hs (k + 1) k (eqN_of hs h0 k)
/-- a law's own look, as deep as is wanted -/
def EqFn (f : FDen) : Prop := EqN f 11
end PL
set_option Elab.async false
set_option linter.all false
set_option maxRecDepth 100000
set_option maxHeartbeats 1000000
set_option autoImplicit false
/-! PL63: slices. -/
namespace PL
open PySem PySem.Spec PyProof.Rows L2
theorem cut_init {α : Type} (l : List α) : cutL l none (some (-1)) = l.take (l.length - 1) := by
  unfold cutL
  rw [HT.sIx_none, List.drop_zero, Nat.sub_zero]
  congr 1
  unfold HT.sIx
  simp
  omega
theorem cut_mid {α : Type} (l : List α) (i j : Int) (h0 : 0 ≤ i) (h : i ≤ j) : cutL l (some i) (some j) = (l.drop i.toNat).take (j.toNat - i.toNat) := by
  unfold cutL
  obtain ⟨a, rfl⟩ : ∃ a : Nat, i = a := ⟨i.toNat, by omega⟩
  obtain ⟨b, rfl⟩ : ∃ b : Nat, j = b := ⟨j.toNat, by omega⟩
  rw [HT.sIx_nat, HT.sIx_nat, Int.toNat_natCast, Int.toNat_natCast]
  by_cases ha : a ≤ l.length
  · rw [Nat.min_eq_left ha]
    by_cases hb : b ≤ l.length
    · rw [Nat.min_eq_left hb]
    · rw [Nat.min_eq_right (show l.length ≤ b by omega), List.take_of_length_le (by rw [List.length_drop]; omega), List.take_of_length_le (by rw [List.length_drop]; omega)]
  · rw [Nat.min_eq_right (show l.length ≤ a by omega), List.drop_of_length_le (Nat.le_refl _), List.drop_of_length_le (by omega)]
    simp
theorem cutS_SL (w : List Nat) (lo hi : Option Int) : cutS (SL w) lo hi = SL (cutL w lo hi) := by
  unfold cutS
  rw [SL_cps]
  rfl
theorem cutN_str {w : List Nat} {lo hi : Option Int} (h : w.length ≤ 100000) : dCutN (.str (SL w)) lo hi = some (false, .str (SL (cutL w lo hi))) := by
  show (if (SL w).length ≤ sizeLine then fl (.str (cutS (SL w) lo hi)) else none) = _
  rw [if_pos (by rw [SL_len]; exact sizeLine_60 h), cutS_SL]
  rfl
end PL
set_option Elab.async false
set_option linter.all false
set_option maxRecDepth 100000
set_option maxHeartbeats 1000000
set_option autoImplicit false
/-! LY0: small functions, by what they promise (with rows for the registry). -/
namespace PL
open PySem PySem.Spec PyProof.Rows L2
def HandFn (f : FDen) : Prop := ∀ ns : List Int, ns.length ≤ 63 → ∃ c s, f [.rol (ns.map .int)] = .ok true (handD c 0 0 s 0) none
theorem hand_start (c : List Int) (s : Int) : HandOk c (handD c 0 0 s 0) := ⟨0, 0, s, 0, by decide, rfl⟩
end PL
set_option Elab.async false
set_option linter.all false
set_option maxRecDepth 100000
set_option maxHeartbeats 1000000
set_option autoImplicit false
/-! LY4: layings as they are drawn; what the program's small functions answer of them. -/
namespace PL
open PySem PySem.Spec PyProof.Rows L2
/-- lengths and an order that make a laying -/
structure Lay (l o : List Int) : Prop where
  L : Lens l
  O : o.Perm (rgI l.length)
/-- how many places -/
def sizeN (l : List Int) : Nat := l.sum.toNat
section
variable {l o : List Int} (h : Lay l o)
include h
theorem Lay.len : o.length = l.length := by rw [h.O.length_eq, rg_len]; simp
theorem Lay.pos : 1 ≤ l.sum := by
  have h1 := sum_ge l h.L.2.2.1
  have h2 := h.L.1
  cases l with
  | nil => simp at h2
  | cons a r =>
    have e := (h1 a (by simp)).2
    rw [List.length_cons] at e
    omega
theorem Lay.sumN : l.sum = (sizeN l : Nat) := by have := h.pos; unfold sizeN; omega
theorem Lay.n1 : 1 ≤ sizeN l := by have := h.pos; have := h.sumN; omega
theorem Lay.l6 : l.length ≤ 6 := h.L.2.1
theorem Lay.l1 : 1 ≤ l.length := h.L.1
theorem Lay.mem {p : Int} : p ∈ o ↔ 0 ≤ p ∧ p < l.length := by rw [h.O.mem_iff, mem_rg]
theorem Lay.nodup : o.Nodup := h.O.nodup_iff.mpr (rg_nodup _)
theorem Lay.ge1 : ∀ x ∈ l, 1 ≤ x := h.L.2.2.1
end
/-! ### raw_piece, letter_at -/
/-- the piece of a place -/
def pieceT (p : Int) : List Int → Int → Nat → Nat
  | [], _, k => k
  | a :: r, h, k => if p < h + a then k else pieceT p r (h + a) (k + 1)
def pieceI (l : List Int) (p : Int) : Nat := pieceT p l 0 0
/-! ### rounds -/
open Classical in
/-- after how many steps a place comes back -/
noncomputable def perG (G : List Int) (p : Int) : Nat := if h : ∃ m, 1 ≤ m ∧ m ≤ G.length ∧ itG G p m = p ∧ ∀ k, 1 ≤ k → k < m → itG G p k ≠ p then h.choose else 0
section
variable {G : List Int} {n : Nat} (hG : G.Perm (rgI n)) {p : Int} (p0 : 0 ≤ p) (hp : p < n)
include hG p0 hp
theorem perG_ok : 1 ≤ perG G p ∧ perG G p ≤ n ∧ itG G p (perG G p) = p ∧ ∀ k, 1 ≤ k → k < perG G p → itG G p k ≠ p := by
  have e : ∃ m, 1 ≤ m ∧ m ≤ G.length ∧ itG G p m = p ∧ ∀ k, 1 ≤ k → k < m → itG G p k ≠ p := by
    rw [gLen hG]
    exact round_ex hG p0 hp
  unfold perG
  rw [dif_pos e]
  obtain ⟨h1, h2, h3⟩ := e.choose_spec
  exact ⟨h1, by rw [← gLen hG]; exact h2, h3⟩
theorem it_add (i : Nat) : ∀ j, itG G p (i + j) = itG G (itG G p i) j
  | 0 => rfl
  | j + 1 => by show gAt G (itG G p (i + j)) = gAt G (itG G (itG G p i) j); rw [it_add i j]
theorem it_mod (k : Nat) : itG G p (k % perG G p) = itG G p k := by
  obtain ⟨q1, q2, q3, q4⟩ := perG_ok hG p0 hp
  generalize perG G p = m at q1 q3 ⊢
  have key : ∀ j i, itG G p (i + m * j) = itG G p i := by
    intro j
    induction j with
    | zero => intro i; rfl
    | succ j ih =>
      intro i
      have e : i + m * (j + 1) = m + (i + m * j) := by rw [Nat.mul_succ]; omega
      rw [e, it_add hG p0 hp, q3]
      exact ih i
  have := key (k / m) (k % m)
  rw [Nat.mod_add_div] at this
  exact this.symm
theorem it_inj {i j : Nat} (hi : i < perG G p) (hj : j < perG G p) (e : itG G p i = itG G p j) : i = j := by
  obtain ⟨q1, q2, q3, q4⟩ := perG_ok hG p0 hp
  rcases Nat.lt_trichotomy i j with h | h | h
  · have := it_back hG p0 hp i (j - i) (by rw [e]; congr 1; omega)
    exact absurd this (q4 _ (by omega) (by omega))
  · exact h
  · have := it_back hG p0 hp j (i - j) (by rw [← e]; congr 1; omega)
    exact absurd this (q4 _ (by omega) (by omega))
end
/-- the round of a place, from it on -/
noncomputable def rndG (G : List Int) (p : Int) : List Int := rowG G p (perG G p)
end PL
set_option Elab.async false
set_option linter.all false
set_option maxRecDepth 100000
set_option maxHeartbeats 1000000
set_option autoImplicit false
/-! PL64: what operations give on lists of ints and on dicts with int keys. -/
namespace PL
open PySem PySem.Spec PyProof.Rows L2
/-! ### dicts -/
/-- a dict with int keys -/
def dicI (ks : List Int) (v : Int → D) : List (D × D) := ks.map fun k => (.int k, v k)
end PL
set_option Elab.async false
set_option linter.all false
set_option maxRecDepth 100000
set_option maxHeartbeats 1000000
set_option autoImplicit false
/-! LY7: rounds: all_rounds, rounds, rounds_many, is_one_round, round_of, led. -/
namespace PL
open PySem PySem.Spec PyProof.Rows L2
section
variable {G : List Int} {n : Nat} (hG : G.Perm (rgI n)) {p : Int} (p0 : 0 ≤ p) (hp : p < n)
include hG p0 hp
theorem it_sym (i : Nat) : ∃ j, j < n ∧ itG G (itG G p i) j = p := by
  obtain ⟨q1, q2, q3, q4⟩ := perG_ok hG p0 hp
  have e := it_mod hG p0 hp i
  have hm : i % perG G p < perG G p := Nat.mod_lt _ q1
  by_cases h0 : i % perG G p = 0
  · rw [h0] at e
    refine ⟨0, by omega, ?_⟩
    show itG G p i = p
    rw [← e]
    rfl
  · refine ⟨perG G p - i % perG G p, by omega, ?_⟩
    rw [← e, ← it_add hG p0 hp]
    have : i % perG G p + (perG G p - i % perG G p) = perG G p := by omega
    rw [this, q3]
theorem it_small (i : Nat) : ∃ j, j < perG G p ∧ itG G p j = itG G p i := ⟨i % perG G p, Nat.mod_lt _ (perG_ok hG p0 hp).1, it_mod hG p0 hp i⟩
theorem mem_rnd {x : Int} : x ∈ rndG G p ↔ ∃ i, itG G p i = x := by
  unfold rndG rowG
  rw [List.mem_map]
  constructor
  · rintro ⟨i, _, e⟩; exact ⟨i, e⟩
  · rintro ⟨i, e⟩
    obtain ⟨j, hj, ej⟩ := it_small hG p0 hp i
    exact ⟨j, List.mem_range.mpr hj, by rw [ej, e]⟩
theorem rnd_nodup : (rndG G p).Nodup := by
  unfold rndG rowG
  rw [List.nodup_iff_pairwise_ne, List.pairwise_map]
  refine List.Pairwise.imp_of_mem (R := fun a b => a < b) (fun {a b} ha hb hab e => ?_) List.pairwise_lt_range
  have ha := List.mem_range.mp ha
  have hb := List.mem_range.mp hb
  have := it_inj hG p0 hp ha hb e
  omega
end
/-- the least of its round -/
def leastB (G : List Int) (k : Nat) : Bool := (List.range G.length).all fun j => decide ((k : Int) ≤ itG G (k : Int) j)
theorem leastB_iff {G : List Int} {n : Nat} (hG : G.Perm (rgI n)) {k : Nat} (hk : k < n) : leastB G k = true ↔ ∀ j, (k : Int) ≤ itG G (k : Int) j := by
  unfold leastB
  rw [List.all_eq_true]
  constructor
  · intro h j
    obtain ⟨i, hi, e⟩ := it_small hG (show (0 : Int) ≤ (k : Int) by omega) (by omega) j
    have := (perG_ok hG (show (0 : Int) ≤ (k : Int) by omega) (by omega)).2.1
    have := h i (List.mem_range.mpr (by rw [gLen hG]; omega))
    rw [← e]
    exact of_decide_eq_true this
  · intro h j _
    exact decide_eq_true (h j)
/-- the rounds, from their least places on -/
noncomputable def roundsG (G : List Int) : List (List Int) := ((List.range G.length).filter (leastB G)).map fun (k : Nat) => rndG G k
noncomputable def roundsTo (G : List Int) (m : Nat) : List (List Int) := ((List.range m).filter (leastB G)).map fun (k : Nat) => rndG G k
theorem roundsTo_succ (G : List Int) (m : Nat) : roundsTo G (m + 1) = if leastB G m = true then roundsTo G m ++ [rndG G m] else roundsTo G m := by
  unfold roundsTo
  rw [List.range_succ, List.filter_append, List.map_append]
  by_cases h : leastB G m = true
  · rw [if_pos h, List.filter_cons_of_pos h]; rfl
  · rw [if_neg h, List.filter_cons_of_neg h]; simp
/-- places in the rounds of the first m ones -/
structure Met (G : List Int) (n m : Nat) (ks : List Int) : Prop where
  nd : ks.Nodup
  mem : ∀ x, x ∈ ks ↔ ∃ q : Nat, q < m ∧ q < n ∧ ∃ j, itG G (q : Int) j = x
theorem Met.zero (G : List Int) (n : Nat) : Met G n 0 [] := ⟨List.nodup_nil, fun x => by simp⟩
section
variable {G : List Int} {n : Nat} (hG : G.Perm (rgI n)) {m : Nat} {ks : List Int} (M : Met G n m ks) (hm : m < n)
include hG M hm
theorem Met.least : (m : Int) ∈ ks ↔ leastB G m = false := by
  rw [M.mem]
  constructor
  · rintro ⟨q, q1, q2, j, e⟩
    refine Bool.eq_false_iff.mpr fun h => ?_
    have h := (leastB_iff hG hm).mp h
    obtain ⟨i, _, ei⟩ := it_sym hG (show (0 : Int) ≤ (q : Int) by omega) (by omega) j
    rw [e] at ei
    have := h i
    omega
  · intro h
    have h2 : ¬ ∀ j, (m : Int) ≤ itG G (m : Int) j := fun q => by
      rw [(leastB_iff hG hm).mpr q] at h
      cases h
    obtain ⟨j, hj⟩ := Classical.not_forall.mp h2
    have hb := it_mem hG (show (0 : Int) ≤ (m : Int) by omega) (show (m : Int) < n by omega) j
    obtain ⟨i, _, ei⟩ := it_sym hG (show (0 : Int) ≤ (m : Int) by omega) (show (m : Int) < n by omega) j
    have e : ((itG G (m : Int) j).toNat : Int) = itG G (m : Int) j := by omega
    exact ⟨(itG G (m : Int) j).toNat, by omega, by omega, i, by rw [e]; exact ei⟩
theorem Met.skip (h : leastB G m = false) : Met G n (m + 1) ks := by
  refine ⟨M.nd, fun x => ?_⟩
  rw [M.mem]
  constructor
  · rintro ⟨q, q1, q2⟩; exact ⟨q, by omega, q2⟩
  · rintro ⟨q, q1, q2, j, e⟩
    by_cases hq : q = m
    · subst hq
      obtain ⟨q', h1, h2, j', e'⟩ := (M.mem _).mp ((M.least hG hm).mpr h)
      refine ⟨q', h1, h2, j' + j, ?_⟩
      rw [it_add hG (show (0 : Int) ≤ (q' : Int) by omega) (by omega), e', e]
    · exact ⟨q, by omega, q2, j, e⟩
theorem Met.add (h : leastB G m = true) : Met G n (m + 1) (ks ++ rndG G m) := by
  have m0 : (0 : Int) ≤ (m : Int) := by omega
  have mn : (m : Int) < n := by omega
  refine ⟨?_, fun x => ?_⟩
  · refine List.nodup_append.mpr ⟨M.nd, rnd_nodup hG m0 mn, fun a ha b hb e => ?_⟩
    subst e
    obtain ⟨q, q1, q2, j, e⟩ := (M.mem a).mp ha
    obtain ⟨i, e2⟩ := (mem_rnd hG m0 mn).mp hb
    have hmem : (m : Int) ∈ ks := by
      obtain ⟨i', _, e3⟩ := it_sym hG m0 mn i
      rw [e2] at e3
      refine (M.mem _).mpr ⟨q, q1, q2, j + i', ?_⟩
      rw [it_add hG (show (0 : Int) ≤ (q : Int) by omega) (by omega), e, e3]
    rw [(M.least hG hm).mp hmem] at h
    cases h
  · rw [List.mem_append, M.mem, mem_rnd hG m0 mn]
    constructor
    · rintro (⟨q, q1, q2⟩ | ⟨i, e⟩)
      · exact ⟨q, by omega, q2⟩
      · exact ⟨m, by omega, by omega, i, e⟩
    · rintro ⟨q, q1, q2, j, e⟩
      by_cases hq : q = m
      · subst hq; exact .inr ⟨j, e⟩
      · exact .inl ⟨q, by omega, q2, j, e⟩
end
theorem Met.len {G : List Int} {n m : Nat} (hG : G.Perm (rgI n)) {ks : List Int} (M : Met G n m ks) : ks.length ≤ n := by
  have := nodup_le ks (rgI n) M.nd fun x hx => by
    obtain ⟨q, _, q2, j, rfl⟩ := (M.mem x).mp hx
    exact mem_rg.mpr (it_mem hG (by omega) (by omega) j)
  rw [rg_len] at this
  simpa using this
/-! ### all_rounds -/
theorem app_any (a : List D) (b : D) (h : a.length ≤ 100000) : mfAppend (.lst a) [b] = some (.lst (a ++ [b]), .non) := by
  unfold mfAppend
  simp only
  rw [if_pos (by rw [sizeLine_eq]; omega)]
end PL
namespace PL
open PySem PySem.Spec PyProof.Rows L2
section
variable {G : List Int} {n : Nat} (hG : G.Perm (rgI n)) {p : Int} (p0 : 0 ≤ p) (hp : p < n)
include hG p0 hp
end
section
variable {G : List Int} {n : Nat} (hG : G.Perm (rgI n)) {p : Int} (p0 : 0 ≤ p) (hp : p < n)
include hG p0 hp
end
/-! ### rounds, rounds_many, is_one_round -/
/-! ### led, piece_of, shift_of -/
end PL
set_option Elab.async false
set_option linter.all false
set_option maxRecDepth 100000
set_option maxHeartbeats 1000000
set_option autoImplicit false
/-! LY5: first returns: check_stretch, way_back, returns, word_back, return_words. -/
namespace PL
open PySem PySem.Spec PyProof.Rows L2
/-! ### way_back -/
end PL
namespace PL
open PySem PySem.Spec PyProof.Rows L2
/-! ### returns, words -/
end PL
set_option Elab.async false
set_option linter.all false
set_option maxRecDepth 100000
set_option maxHeartbeats 1000000
set_option autoImplicit false
/-! LY6: words of first returns; a law's own goal, letters, drawn layings, stretches. -/
namespace PL
open PySem PySem.Spec PyProof.Rows L2
theorem methS_e {f : List D → Option (Bool × D)} {m : M (Bool × D)} {a : Opd} {st : DSt} {k : Bool × D → DSt → Prop} {x : Str → List (Str × D) → DSt → Prop} : (mMethS f (.ex m) a st).post k x ↔ (m st).post (fun p st1 => isS p.2 = true ∧ (runOps [a] st1).post (fun ds st2 => ∃ q, f (p.2 :: ds) = some q ∧ k q st2) x) x := by
  unfold mMethS
  rw [post_bind]
  have : ∀ (p : Bool × D) (st1 : DSt), ((if isS p.2 = true then (runOps [a]).bind fun ds => M.lift (f (p.2 :: ds)) else M.stop) st1).post k x ↔ isS p.2 = true ∧ (runOps [a] st1).post (fun ds st2 => ∃ q, f (p.2 :: ds) = some q ∧ k q st2) x := fun p st1 => by
    rw [post_ite]
    by_cases h : isS p.2 = true
    · rw [if_pos h, post_bind]
      simp only [post_lift, h, true_and]
    · rw [if_neg h]
      exact ⟨fun q => q.elim, fun q => h q.1⟩
  simp only [this]
theorem isS_str {a : Str} : isS (.str a) = true := rfl
end PL
namespace PL
open PySem PySem.Spec PyProof.Rows L2
/-! ### own goal -/
/-! ### own letters -/
end PL
namespace PL
open PySem PySem.Spec PyProof.Rows L2
/-! ### drawn layings -/
end PL
namespace PL
open PySem PySem.Spec PyProof.Rows L2
/-! ### stretches -/
end PL
set_option Elab.async false
set_option linter.all false
set_option maxRecDepth 100000
set_option maxHeartbeats 1000000
set_option autoImplicit false
/-! LY8: a law's own starts, shifts, pieces, goal, rounds; drawn layings. -/
namespace PL
open PySem PySem.Spec PyProof.Rows L2
end PL
namespace PL
open PySem PySem.Spec PyProof.Rows L2
/-! ### pieces, goal -/
end PL
namespace PL
open PySem PySem.Spec PyProof.Rows L2
/-! ### own rounds -/
end PL
namespace PL
open PySem PySem.Spec PyProof.Rows L2
/-! ### drawn layings -/
def AnyOf (dd aa : FDen) : Prop := aa = fden true 2 2 (S_law_any dd)
end PL
set_option Elab.async false
set_option linter.all false
set_option maxRecDepth 100000
set_option maxHeartbeats 1000000
set_option autoImplicit false
/-! LY9: plain facts: sorted orders, pieces as they stand, the round of a place among the rounds. -/
namespace PL
open PySem PySem.Spec PyProof.Rows L2
theorem rg_succ (n : Nat) : rgI ((n + 1 : Nat) : Int) = rgI (n : Int) ++ [(n : Int)] := by
  unfold rgI
  have e1 : (((n + 1 : Nat) : Int) - 0).toNat = n + 1 := by omega
  have e2 : ((n : Int) - 0).toNat = n := by omega
  rw [e1, e2, List.range_succ, List.map_append]
  simp
section
variable {G : List Int} {n : Nat} (hG : G.Perm (rgI n)) {p : Int} (p0 : 0 ≤ p) (hp : p < n)
include hG p0 hp
end
end PL
namespace PL
open PySem PySem.Spec PyProof.Rows L2
end PL
set_option Elab.async false
set_option linter.all false
set_option maxRecDepth 100000
set_option maxHeartbeats 1000000
set_option autoImplicit false
/-! PL65: == and != of instances by an own __eq__. -/
namespace NEQ
open PySem PySem.Spec PyProof.Rows PySem.SeqAt
section
variable {M : Model} {prog : Program} {w : World} {A : Around} {E : Value → Shared → Prop} {s : Shared} {K : PySem.W.Frag} {x y C f : Addr} {ox oy : Obj} {od od' : Option Obj}
end
end NEQ
namespace PL
open PySem PySem.Spec PyProof.Rows L2
/-- the own __eq__ of a class -/
structure CalE (P : Program) (w : World) (K : PySem.W.Frag) (mg : Str → Option Value) (base : Heap) (k : Nat) (c : Str) (ps : List Str) (m : FDen) : Prop where
  ex : ∃ C f fd, mg c = some (.ref C) ∧ FOk P w K mg base k f fd ps false m ∧ Binds K fd ps [] ∧ PySem.W.findIn K (.ref C) "__eq__" = some (some (.ref f)) ∧ PySem.W.isFn K (.ref f) = true ∧
    PySem.W.findIn K (.ref C) "__ne__" = some (some (.builtin "object.__ne__")) ∧ PySem.W.mroIn K C (.type "object") = some true
section
variable {X : Cx} {W : WX} {k : Nat} {f C : Addr} {fd : FuncData} {ps : List Str} {m : FDen} {c : Str}
end
end PL
namespace PL
open PySem PySem.Spec PyProof.Rows L2
section
variable {X : Cx} {W : WX} {k : Nat} {f C : Addr} {fd : FuncData} {ps : List Str} {m : FDen} {c : Str}
variable {a b : Expr} {ma mb : M (Bool × D)} {pos : Pos}
end
/-! ### what is asked of the class -/
end PL
set_option Elab.async false
set_option linter.all false
set_option maxRecDepth 100000
set_option maxHeartbeats 1000000
set_option autoImplicit false
/-! LT1: layings with pieces turned over: how they are made; the plain law of their goals. -/
namespace PL
open PySem PySem.Spec PyProof.Rows L2
/-- pieces to be turned over -/
structure Lot (n : Int) (v : List Int) : Prop where
  up : v.Pairwise (· < ·)
  bd : ∀ x ∈ v, 0 ≤ x ∧ x < n
theorem Lot.nil (n : Int) : Lot n [] := ⟨List.Pairwise.nil, fun x h => by cases h⟩
theorem Lot.nodup {n : Int} {v : List Int} (h : Lot n v) : v.Nodup := by
  rw [List.nodup_iff_pairwise_ne]
  exact h.up.imp fun h e => by omega
theorem Lot.len {n : Nat} {v : List Int} (h : Lot (n : Int) v) : v.length ≤ n := by
  have := nodup_le v (rgI n) h.nodup fun x hx => mem_rg.mpr (h.bd x hx)
  rw [rg_len] at this
  simpa using this
def blkT (l o v : List Int) (k : Nat) (a : Int) : List Int := if (k : Int) ∈ v then ((List.range a.toNat).map fun (i : Nat) => startI l o 0 (k : Int) + (i : Int)).reverse else (List.range a.toNat).map fun (i : Nat) => startI l o 0 (k : Int) + (i : Int)
def turT (l o v : List Int) : Nat → List Int → List Int
  | _, [] => []
  | k, a :: r => blkT l o v k a ++ turT l o v (k + 1) r
/-- where each place is led -/
def turL (l o v : List Int) : List Int := turT l o v 0 l
section
variable {cs : List Str} (hc : cs.contains "Turned" = true) (n1 n2 n3 : Bool) (l o v : List Int)
include hc
end
/-! ### check_turned, is_piece_lot, turned_goals -/
/-! ### Turned.__init__ -/
end PL
set_option Elab.async false
set_option linter.all false
set_option maxRecDepth 100000
set_option maxHeartbeats 1000000
set_option autoImplicit false
/-! LT2: rounds of turned layings; one-sided ones. -/
namespace PL
open PySem PySem.Spec PyProof.Rows L2
section
variable {cs : List Str} (hc : cs.contains "Turned" = true)
include hc
end
section
variable {cs : List Str} (hc : cs.contains "Turned" = true)
include hc
/-- how many places of a row are in pieces turned over -/
def onV (l v r : List Int) : Nat := (r.filter fun p => decide (((pieceI l p : Nat) : Int) ∈ v)).length
def oddV (l v r : List Int) : Bool := ((onV l v r : Nat) : Int) % 2 == 1
end
/-- how many rounds are one-sided -/
noncomputable def sided (l o v : List Int) : Nat := ((roundsG (turL l o v)).filter (oddV l v)).length
end PL
set_option Elab.async false
set_option linter.all false
set_option maxRecDepth 100000
set_option maxHeartbeats 1000000
set_option autoImplicit false
/-! LT3: a law's own goal of turned layings, own laps, own pieces; drawn turned layings. -/
namespace PL
open PySem PySem.Spec PyProof.Rows L2
/-! ### own laps -/
/-! ### own pieces -/
/-! ### drawn turned layings -/
end PL
set_option Elab.async false
set_option linter.all false
set_option maxRecDepth 100000
set_option maxHeartbeats 1000000
set_option autoImplicit false
/-! LY10: pieces cut and joined: the goal stays. -/
namespace PL
open PySem PySem.Spec PyProof.Rows L2
/-- pieces called as before one is cut in two -/
def upN (k : Int) (j : Int) : Int := if k < j then j + 1 else j
/-- an order whose piece k is cut in two -/
def cutO (k : Int) : List Int → List Int
  | [] => []
  | j :: o => if j = k then k :: (k + 1) :: cutO k o else upN k j :: cutO k o
theorem goalT_append (l o : List Int) : ∀ (A B : List Int) (k : Nat), goalT l o k (A ++ B) = goalT l o k A ++ goalT l o (k + A.length) B
  | [], B, k => by simp [goalT]
  | a :: A, B, k => by
    rw [List.cons_append, goalT, goalT_append l o A B (k + 1), goalT, List.append_assoc, List.length_cons]
    rw [show k + 1 + A.length = k + (A.length + 1) by omega]
theorem goalT_congr {l o l' o' : List Int} : ∀ (B : List Int) (k m : Nat), (∀ i, i < B.length → startI l o 0 ((k + i : Nat) : Int) = startI l' o' 0 ((m + i : Nat) : Int)) → goalT l o k B = goalT l' o' m B
  | [], _, _, _ => rfl
  | a :: B, k, m, h => by
    rw [goalT, goalT]
    have h0 := h 0 (by simp)
    rw [Nat.add_zero, Nat.add_zero] at h0
    rw [h0, goalT_congr B (k + 1) (m + 1) fun i hi => by
      have := h (i + 1) (by simpa using hi)
      rw [show k + 1 + i = k + (i + 1) by omega, show m + 1 + i = m + (i + 1) by omega]
      exact this]
section
variable {l l' : List Int} {k : Int} (h1 : ∀ q : Int, 0 ≤ q → q < k → lenAt l q = lenAt l' q) (h2 : ∀ q : Int, k < q → lenAt l (q + 1) = lenAt l' q) (h3 : lenAt l k + lenAt l (k + 1) = lenAt l' k) (k0 : 0 ≤ k)
include h1 h2 h3 k0
theorem start_up : ∀ (o : List Int) (h j : Int), (∀ x ∈ o, 0 ≤ x) → 0 ≤ j → startI l (cutO k o) h (upN k j) = startI l' o h j
  | [], _, _, _, _ => rfl
  | q :: o, h, j, ho, hj => by
    have hq := ho q (by simp)
    have ih := fun h => start_up o h j (fun x hx => ho x (List.mem_cons_of_mem _ hx)) hj
    unfold cutO
    by_cases e : q = k
    · subst e
      rw [if_pos rfl]
      by_cases ej : q = j
      · subst ej
        have e2 : upN q q = q := by unfold upN; rw [if_neg (by omega)]
        rw [e2]
        unfold startI
        rw [if_pos rfl, if_pos rfl]
      · have e2 : ¬ q = upN q j := by unfold upN; split <;> omega
        have e3 : ¬ q + 1 = upN q j := by unfold upN; split <;> omega
        rw [start_ne _ _ _ e2, start_ne _ _ _ e3, start_ne _ _ _ ej, ← ih, Int.add_assoc, h3]
    · rw [if_neg e]
      have el : lenAt l (upN k q) = lenAt l' q := by
        unfold upN
        split
        · exact h2 q (by omega)
        · exact h1 q hq (by omega)
      by_cases ej : q = j
      · subst ej
        unfold startI
        rw [if_pos rfl, if_pos rfl]
      · have e2 : ¬ upN k q = upN k j := by unfold upN; split <;> split <;> omega
        rw [start_ne _ _ _ e2, start_ne _ _ _ ej, ← ih, el]
theorem start_new : ∀ (o : List Int) (h : Int), (∀ x ∈ o, 0 ≤ x) → k ∈ o → startI l (cutO k o) h (k + 1) = startI l' o h k + lenAt l k
  | [], _, _, hk => by cases hk
  | q :: o, h, ho, hk => by
    have hq := ho q (by simp)
    unfold cutO
    by_cases e : q = k
    · subst e
      rw [if_pos rfl, start_ne _ _ _ (show ¬ q = q + 1 by omega)]
      unfold startI
      rw [if_pos rfl, if_pos rfl]
    · rw [if_neg e]
      have hk : k ∈ o := by
        rcases List.mem_cons.mp hk with h | h
        · exact absurd h.symm e
        · exact h
      have el : lenAt l (upN k q) = lenAt l' q := by
        unfold upN
        split
        · exact h2 q (by omega)
        · exact h1 q hq (by omega)
      have e2 : ¬ upN k q = k + 1 := by unfold upN; split <;> omega
      rw [start_ne _ _ _ e2, start_ne _ _ _ e, el, start_new o _ (fun x hx => ho x (List.mem_cons_of_mem _ hx)) hk]
end
theorem lenAt_app (A : List Int) (a : Int) (B : List Int) : lenAt (A ++ a :: B) (A.length : Nat) = a := by
  unfold lenAt
  rw [Int.toNat_natCast, List.getD_eq_getElem?_getD, List.getElem?_append_right (Nat.le_refl _), Nat.sub_self]
  rfl
theorem lenAt_left (A B C : List Int) (q : Int) (h0 : 0 ≤ q) (h : q < A.length) : lenAt (A ++ B) q = lenAt (A ++ C) q := by
  unfold lenAt
  rw [List.getD_eq_getElem?_getD, List.getD_eq_getElem?_getD, List.getElem?_append_left (by omega), List.getElem?_append_left (by omega)]
theorem lenAt_right (A : List Int) (a b c : Int) (B : List Int) (q : Int) (h : (A.length : Int) < q) : lenAt (A ++ a :: b :: B) (q + 1) = lenAt (A ++ c :: B) q := by
  unfold lenAt
  rw [List.getD_eq_getElem?_getD, List.getD_eq_getElem?_getD, List.getElem?_append_right (by omega), List.getElem?_append_right (by omega)]
  obtain ⟨m, hm⟩ : ∃ m, q.toNat - A.length = m + 1 := ⟨q.toNat - A.length - 1, by omega⟩
  have hm2 : (q + 1).toNat - A.length = m + 1 + 1 := by omega
  rw [hm, hm2]
  simp
/-- a piece is cut in two: the goal stays -/
theorem goal_cut (A : List Int) (a b : Int) (B o : List Int) (ha : 0 ≤ a) (hb : 0 ≤ b) (ho : ∀ x ∈ o, 0 ≤ x) (hk : ((A.length : Nat) : Int) ∈ o) : goalL (A ++ a :: b :: B) (cutO (A.length : Nat) o) = goalL (A ++ (a + b) :: B) o := by
  have h1 : ∀ q : Int, 0 ≤ q → q < (A.length : Nat) → lenAt (A ++ a :: b :: B) q = lenAt (A ++ (a + b) :: B) q := fun q h0 h => lenAt_left _ _ _ q h0 h
  have h2 : ∀ q : Int, ((A.length : Nat) : Int) < q → lenAt (A ++ a :: b :: B) (q + 1) = lenAt (A ++ (a + b) :: B) q := fun q h => lenAt_right _ _ _ _ _ q h
  have e0 : lenAt (A ++ a :: b :: B) (A.length : Nat) = a := lenAt_app _ _ _
  have e1 : lenAt (A ++ a :: b :: B) ((A.length : Nat) + 1) = b := by
    have := lenAt_app (A ++ [a]) b B
    rw [List.append_assoc, List.length_append] at this
    exact this
  have h3 : lenAt (A ++ a :: b :: B) (A.length : Nat) + lenAt (A ++ a :: b :: B) ((A.length : Nat) + 1) = lenAt (A ++ (a + b) :: B) (A.length : Nat) := by rw [e0, e1, lenAt_app]
  have k0 : (0 : Int) ≤ (A.length : Nat) := by omega
  have up := fun j (hj : 0 ≤ j) => start_up h1 h2 h3 k0 o 0 j ho hj
  have nw := start_new h1 h2 h3 k0 o 0 ho hk
  rw [e0] at nw
  unfold goalL
  rw [goalT_append, goalT_append, Nat.zero_add]
  congr 1
  · refine goalT_congr A 0 0 fun i hi => ?_
    rw [Nat.zero_add, ← up (i : Nat) (by omega)]
    unfold upN
    rw [if_neg (by omega)]
  · rw [goalT, goalT, goalT]
    have eA := up (A.length : Nat) k0
    have eu : upN (A.length : Nat) (A.length : Nat) = (A.length : Nat) := by unfold upN; rw [if_neg (by omega)]
    rw [eu] at eA
    have en : startI (A ++ a :: b :: B) (cutO (A.length : Nat) o) 0 ((A.length + 1 : Nat) : Int) = startI (A ++ (a + b) :: B) o 0 (A.length : Nat) + a := nw
    rw [eA, en, ← List.append_assoc]
    congr 1
    · have : (a + b).toNat = a.toNat + b.toNat := by omega
      rw [this, List.range_add, List.map_append, List.map_map]
      congr 1
      refine List.map_congr_left fun i _ => ?_
      show _ = startI (A ++ (a + b) :: B) o 0 (A.length : Nat) + ((a.toNat + i : Nat) : Int)
      omega
    · refine goalT_congr B (A.length + 1 + 1) (A.length + 1) fun i hi => ?_
      rw [← up ((A.length + 1 + i : Nat) : Int) (by omega)]
      unfold upN
      rw [if_pos (by omega)]
      congr 1
      omega
end PL
namespace PL
open PySem PySem.Spec PyProof.Rows L2
theorem cutO_app (k : Int) : ∀ P Q : List Int, cutO k (P ++ Q) = cutO k P ++ cutO k Q
  | [], Q => rfl
  | j :: P, Q => by
    show (if j = k then k :: (k + 1) :: cutO k (P ++ Q) else upN k j :: cutO k (P ++ Q)) = _
    rw [cutO_app k P Q]
    show _ = (if j = k then k :: (k + 1) :: cutO k P else upN k j :: cutO k P) ++ cutO k Q
    split <;> rfl
theorem cutO_flat (k : Int) : ∀ o : List Int, cutO k o = o.flatMap fun j => if j = k then [k, k + 1] else [upN k j]
  | [] => rfl
  | j :: o => by
    rw [List.flatMap_cons, ← cutO_flat k o]
    show (if j = k then k :: (k + 1) :: cutO k o else upN k j :: cutO k o) = _
    split <;> rfl
theorem cutO_low (k : Int) : ∀ o : List Int, (∀ x ∈ o, x < k) → cutO k o = o
  | [], _ => rfl
  | j :: o, h => by
    have hj := h j (by simp)
    show (if j = k then k :: (k + 1) :: cutO k o else upN k j :: cutO k o) = _
    rw [if_neg (by omega), cutO_low k o fun x hx => h x (List.mem_cons_of_mem _ hx)]
    unfold upN
    rw [if_neg (by omega)]
theorem cutO_rg (k : Nat) : ∀ n : Nat, k < n → cutO (k : Int) (rgI (n : Int)) = rgI ((n + 1 : Nat) : Int)
  | 0, h => by omega
  | n + 1, h => by
    rw [rg_succ, cutO_app]
    by_cases e : k = n
    · subst e
      rw [cutO_low _ _ (fun x hx => by have := mem_rg.mp hx; omega), rg_succ (k + 1), rg_succ k, List.append_assoc]
      show _ ++ (if (k : Int) = k then (k : Int) :: ((k : Int) + 1) :: cutO k [] else _) = _
      rw [if_pos rfl]
      rfl
    · rw [cutO_rg k n (by omega), rg_succ (n + 1)]
      show _ ++ (if (n : Int) = k then (k : Int) :: ((k : Int) + 1) :: cutO k [] else upN k n :: cutO k []) = _
      rw [if_neg (by omega)]
      unfold upN
      rw [if_pos (by omega)]
      rfl
theorem cutO_perm {o : List Int} {n k : Nat} (h : o.Perm (rgI (n : Int))) (hk : k < n) : (cutO (k : Int) o).Perm (rgI ((n + 1 : Nat) : Int)) := by
  rw [← cutO_rg k n hk, cutO_flat, cutO_flat]
  exact h.flatMap_right _
theorem split_at (l : List Int) (k : Nat) (h : k < l.length) : l = l.take k ++ lenAt l k :: l.drop (k + 1) := by
  have e : l.drop k = lenAt l k :: l.drop (k + 1) := by
    rw [List.drop_eq_getElem_cons h]
    unfold lenAt
    rw [Int.toNat_natCast, List.getD_eq_getElem?_getD, List.getElem?_eq_getElem h]
    rfl
  rw [← e, List.take_append_drop]
theorem Lay.cut {l o : List Int} (h : Lay l o) {k : Nat} (hk : k < l.length) (h5 : l.length < 6) {a b : Int} (ha : 1 ≤ a) (hb : 1 ≤ b) (hab : a + b = lenAt l k) : Lay (l.take k ++ a :: b :: l.drop (k + 1)) (cutO (k : Int) o) ∧ goalL (l.take k ++ a :: b :: l.drop (k + 1)) (cutO (k : Int) o) = goalL l o := by
  have hs := split_at l k hk
  have hlen : (l.take k).length = k := by rw [List.length_take]; omega
  have hl : (l.take k ++ a :: b :: l.drop (k + 1)).length = l.length + 1 := by
    rw [List.length_append, List.length_take, List.length_cons, List.length_cons, List.length_drop]; omega
  have hsum : (l.take k ++ a :: b :: l.drop (k + 1)).sum = l.sum := by
    have e := congrArg List.sum hs
    rw [List.sum_append, List.sum_cons] at e
    rw [List.sum_append, List.sum_cons, List.sum_cons]
    omega
  refine ⟨⟨⟨by omega, by omega, fun x hx => ?_, by rw [hsum]; exact h.L.2.2.2⟩, ?_⟩, ?_⟩
  · rcases List.mem_append.mp hx with hx | hx
    · exact h.ge1 x (List.mem_of_mem_take hx)
    · rcases List.mem_cons.mp hx with rfl | hx
      · exact ha
      · rcases List.mem_cons.mp hx with rfl | hx
        · exact hb
        · exact h.ge1 x (List.mem_of_mem_drop hx)
  · rw [hl]
    exact cutO_perm h.O hk
  · have := goal_cut (l.take k) a b (l.drop (k + 1)) o (by omega) (by omega) (fun x hx => (h.mem.mp hx).1) (by rw [hlen]; exact h.mem.mpr ⟨by omega, by omega⟩)
    rw [hlen, hab, ← hs] at this
    exact this
/-- pieces called otherwise when k and the next one are made one -/
def dnN (k : Int) (j : Int) : Int := if k + 1 < j then j - 1 else j
def joinO (k : Int) (o : List Int) : List Int := (o.filter fun j => decide (j ≠ k + 1)).map (dnN k)
theorem dn_keep (k : Int) : ∀ P : List Int, (∀ x ∈ P, x ≠ k ∧ x ≠ k + 1) → cutO k (joinO k P) = P
  | [], _ => rfl
  | j :: P, h => by
    have hj := h j (by simp)
    have ih := dn_keep k P fun x hx => h x (List.mem_cons_of_mem _ hx)
    unfold joinO at ih ⊢
    rw [List.filter_cons_of_pos (by simpa using hj.2), List.map_cons]
    show (if dnN k j = k then _ else upN k (dnN k j) :: cutO k ((P.filter fun j => decide (j ≠ k + 1)).map (dnN k))) = _
    rw [ih]
    have e1 : ¬ dnN k j = k := by unfold dnN; split <;> omega
    have e2 : upN k (dnN k j) = j := by unfold upN dnN; split <;> split <;> omega
    rw [if_neg e1, e2]
theorem cut_join {k : Int} {P Q : List Int} (h : (P ++ k :: (k + 1) :: Q).Nodup) : cutO k (joinO k (P ++ k :: (k + 1) :: Q)) = P ++ k :: (k + 1) :: Q := by
  have h1 := List.nodup_append.mp h
  have hQ := List.nodup_cons.mp h1.2.1
  have hQ2 := List.nodup_cons.mp hQ.2
  have p1 : ∀ x ∈ P, x ≠ k ∧ x ≠ k + 1 := fun x hx => ⟨h1.2.2 x hx k (by simp), h1.2.2 x hx (k + 1) (by simp)⟩
  have q1 : ∀ x ∈ Q, x ≠ k ∧ x ≠ k + 1 := fun x hx => ⟨fun e => hQ.1 (by rw [← e]; exact List.mem_cons_of_mem _ hx), fun e => hQ2.1 (by rw [← e]; exact hx)⟩
  have e : joinO k (P ++ k :: (k + 1) :: Q) = joinO k P ++ k :: joinO k Q := by
    unfold joinO
    rw [List.filter_append, List.map_append, List.filter_cons_of_pos (by simp; omega), List.filter_cons_of_neg (by simp), List.map_cons]
    have : dnN k k = k := by unfold dnN; rw [if_neg (by omega)]
    rw [this]
  rw [e, cutO_app, dn_keep k P p1]
  show P ++ (if k = k then k :: (k + 1) :: cutO k (joinO k Q) else _) = _
  rw [if_pos rfl, dn_keep k Q q1]
theorem perm_rg {o : List Int} {n : Nat} (hn : o.Nodup) (h : ∀ x, x ∈ o ↔ 0 ≤ x ∧ x < n) : o.Perm (rgI (n : Int)) :=
  (List.perm_ext_iff_of_nodup hn (rg_nodup _)).mpr fun x => by rw [h, mem_rg]
theorem joinO_perm {o : List Int} {n : Nat} (h : o.Perm (rgI ((n + 1 : Nat) : Int))) {k : Int} (k0 : 0 ≤ k) (hk : k < n) : (joinO k o).Perm (rgI (n : Int)) := by
  have hn : o.Nodup := h.nodup_iff.mpr (rg_nodup _)
  have hm : ∀ x, x ∈ o ↔ 0 ≤ x ∧ x < (n + 1 : Nat) := fun x => by rw [h.mem_iff, mem_rg]
  refine perm_rg ?_ fun x => ?_
  · unfold joinO
    have hf := hn.filter (fun j => decide (j ≠ k + 1))
    rw [List.nodup_iff_pairwise_ne, List.pairwise_map]
    refine List.Pairwise.imp_of_mem (fun {a b} ha hb hab e => ?_) (List.nodup_iff_pairwise_ne.mp hf)
    have ha := (List.mem_filter.mp ha).2
    have hb := (List.mem_filter.mp hb).2
    simp at ha hb
    unfold dnN at e
    split at e <;> split at e <;> omega
  · unfold joinO
    rw [List.mem_map]
    constructor
    · rintro ⟨j, hj, rfl⟩
      obtain ⟨h1, h2⟩ := List.mem_filter.mp hj
      have := (hm j).mp h1
      simp at h2
      unfold dnN
      split <;> omega
    · intro hx
      by_cases e : x ≤ k
      · exact ⟨x, List.mem_filter.mpr ⟨(hm x).mpr (by omega), by simp; omega⟩, by unfold dnN; rw [if_neg (by omega)]⟩
      · exact ⟨x + 1, List.mem_filter.mpr ⟨(hm (x + 1)).mpr (by omega), by simp; omega⟩, by unfold dnN; rw [if_pos (by omega)]; omega⟩
def joinL (k : Nat) (l : List Int) : List Int := l.take k ++ (lenAt l k + lenAt l ((k + 1 : Nat) : Int)) :: l.drop (k + 2)
theorem lenAt_mem {l : List Int} {k : Nat} (h : k < l.length) : lenAt l k ∈ l := by
  unfold lenAt
  rw [Int.toNat_natCast, List.getD_eq_getElem?_getD, List.getElem?_eq_getElem h]
  exact List.getElem_mem h
theorem Lay.join {l o : List Int} (h : Lay l o) {k : Nat} {P Q : List Int} (e : o = P ++ (k : Int) :: ((k : Int) + 1) :: Q) : k + 1 < l.length ∧ Lay (joinL k l) (joinO (k : Int) o) ∧ goalL (joinL k l) (joinO (k : Int) o) = goalL l o ∧ (joinL k l).length + 1 = l.length := by
  have hk : k + 1 < l.length := by
    have := h.mem.mp (show ((k : Int) + 1) ∈ o by rw [e]; simp)
    omega
  have hs1 := split_at l k (by omega)
  have hs2 : l.drop (k + 1) = lenAt l ((k + 1 : Nat) : Int) :: l.drop (k + 2) := by
    rw [List.drop_eq_getElem_cons hk]
    unfold lenAt
    rw [Int.toNat_natCast, List.getD_eq_getElem?_getD, List.getElem?_eq_getElem hk]
    rfl
  rw [hs2] at hs1
  have hlen : (l.take k).length = k := by rw [List.length_take]; omega
  have ha : 1 ≤ lenAt l k := h.ge1 _ (lenAt_mem (by omega))
  have hb : 1 ≤ lenAt l ((k + 1 : Nat) : Int) := h.ge1 _ (lenAt_mem hk)
  unfold joinL
  generalize lenAt l k = a at *
  generalize lenAt l ((k + 1 : Nat) : Int) = b at *
  have hd : (l.drop (k + 2)).length = l.length - (k + 2) := List.length_drop
  have hl : (l.take k ++ (a + b) :: l.drop (k + 2)).length + 1 = l.length := by
    rw [List.length_append, List.length_cons, hlen, hd]; omega
  have hsum : (l.take k ++ (a + b) :: l.drop (k + 2)).sum = l.sum := by
    have e := congrArg List.sum hs1
    rw [List.sum_append, List.sum_cons, List.sum_cons] at e
    rw [List.sum_append, List.sum_cons]
    omega
  have ho : (joinO (k : Int) o).Perm (rgI ((l.take k ++ (a + b) :: l.drop (k + 2)).length : Nat)) := by
    refine joinO_perm (k := (k : Int)) ?_ (by omega) (by omega)
    rw [hl]
    exact h.O
  have h6 := h.l6
  refine ⟨hk, ⟨⟨by omega, by omega, fun x hx => ?_, by rw [hsum]; exact h.L.2.2.2⟩, ho⟩, ?_, hl⟩
  · rcases List.mem_append.mp hx with hx | hx
    · exact h.ge1 x (List.mem_of_mem_take hx)
    · rcases List.mem_cons.mp hx with rfl | hx
      · omega
      · exact h.ge1 x (List.mem_of_mem_drop hx)
  · have hm : ∀ x, x ∈ joinO (k : Int) o ↔ 0 ≤ x ∧ x < (l.take k ++ (a + b) :: l.drop (k + 2)).length := fun x => by rw [ho.mem_iff, mem_rg]
    have g := goal_cut (l.take k) a b (l.drop (k + 2)) (joinO (k : Int) o) (by omega) (by omega) (fun x hx => ((hm x).mp hx).1) (by rw [hlen]; exact (hm _).mpr ⟨by omega, by omega⟩)
    rw [hlen] at g
    rw [← g, ← hs1]
    congr 1
    rw [e]
    exact cut_join (by rw [← e]; exact h.nodup)
end PL
set_option Elab.async false
set_option linter.all false
set_option maxRecDepth 100000
set_option maxHeartbeats 1000000
set_option autoImplicit false
/-! LY11: first_join, numbered, joined_pieces, cut_finer. -/
namespace PL
open PySem PySem.Spec PyProof.Rows L2
end PL
namespace PL
open PySem PySem.Spec PyProof.Rows L2
/-! ### numbered -/
def NumberedOk (f : FDen) : Prop := ∀ (ks line laid : List Int) (v : Int → Int), line.Nodup → (∀ p ∈ line, p ∈ ks) → (∀ p ∈ laid, p ∈ line) → line.length ≤ 60 → laid.length ≤ 60 → Lay (line.map v) (laid.map fun p => (line.idxOf p : Nat)) →
  f [.dic (dicI ks fun k => .int (v k)), .lst (line.map .int), .lst (laid.map .int)] = .ok true (layD true true (line.map v) (laid.map fun p => (line.idxOf p : Nat))) none
/-! ### joined_pieces -/
end PL
namespace PL
open PySem PySem.Spec PyProof.Rows L2
end PL
namespace PL
open PySem PySem.Spec PyProof.Rows L2
theorem addN_tup (na nb : Bool) (a b : List D) (h : a.length + b.length ≤ 100000) : ∃ nd, dAddN [.tup na a, .tup nb b] = some (false, .tup nd (a ++ b)) := by
  cases a with
  | nil =>
    refine ⟨nb, ?_⟩
    show (if b.length ≤ sizeLine then fl (.tup nb b) else none) = _
    rw [if_pos (sizeLine_60 (by simpa using h))]
    rfl
  | cons x a =>
    cases b with
    | nil =>
      refine ⟨na, ?_⟩
      show (if (x :: a).length ≤ sizeLine then fl (.tup na (x :: a)) else none) = _
      rw [if_pos (sizeLine_60 (by simpa using h)), List.append_nil]
      rfl
    | cons y b =>
      refine ⟨true, ?_⟩
      show (if (x :: a).length + (y :: b).length ≤ sizeLine then fl (.tup true (x :: a ++ y :: b)) else none) = _
      rw [if_pos (sizeLine_60 h)]
      rfl
end PL
set_option Elab.async false
set_option linter.all false
set_option maxRecDepth 100000
set_option maxHeartbeats 1000000
set_option autoImplicit false
/-! LY12: plain facts on rounds. -/
namespace PL
open PySem PySem.Spec PyProof.Rows L2
end PL
namespace PL
open PySem PySem.Spec PyProof.Rows L2
end PL
set_option Elab.async false
set_option linter.all false
set_option maxRecDepth 100000
set_option maxHeartbeats 1000000
set_option autoImplicit false
/-! LY13: plain facts: led back, from behind; how long the rounds are. -/
namespace PL
open PySem PySem.Spec PyProof.Rows L2
/-! ### where pieces begin -/
/-! ### led back -/
def backL (l o : List Int) : List Int := o.map (lenAt l)
def backO (o : List Int) : List Int := (List.range o.length).map fun (k : Nat) => (o.idxOf (k : Int) : Nat)
theorem getD_lenAt (l : List Int) (k : Nat) (h : k < l.length) : lenAt l k = l[k] := by
  unfold lenAt
  rw [Int.toNat_natCast, List.getD_eq_getElem?_getD, List.getElem?_eq_getElem h]
  rfl
theorem idx_lt {o : List Int} {k : Int} (h : k ∈ o) : o.idxOf k < o.length := List.idxOf_lt_length_iff.mpr h
theorem idx_get {o : List Int} {k : Int} (h : k ∈ o) : o[o.idxOf k]'(idx_lt h) = k := List.getElem_idxOf (idx_lt h)
section
variable {l o : List Int} (h : Lay l o)
include h
theorem Lay.memk {k : Nat} (hk : k < l.length) : (k : Int) ∈ o := h.mem.mpr ⟨by omega, by omega⟩
theorem Lay.backO_perm : (backO o).Perm (rgI o.length) := by
  have hl := h.len
  refine perm_rg ?_ fun x => ?_
  · unfold backO
    rw [List.nodup_iff_pairwise_ne, List.pairwise_map]
    refine List.Pairwise.imp_of_mem (R := fun a b => a < b) (fun {a b} ha hb hab e => ?_) List.pairwise_lt_range
    have ha := List.mem_range.mp ha
    have hb := List.mem_range.mp hb
    have e1 := idx_get (h.memk (k := a) (by omega))
    have e2 := idx_get (h.memk (k := b) (by omega))
    have e3 : o.idxOf (a : Int) = o.idxOf (b : Int) := by omega
    simp only [e3] at e1
    rw [e1] at e2
    omega
  · unfold backO
    rw [List.mem_map]
    constructor
    · rintro ⟨k, hk, rfl⟩
      have := idx_lt (h.memk (k := k) (by have := List.mem_range.mp hk; omega))
      omega
    · intro hx
      have hm : o[x.toNat]'(by omega) ∈ o := List.getElem_mem _
      have hb := h.mem.mp hm
      refine ⟨(o[x.toNat]'(by omega)).toNat, List.mem_range.mpr (by omega), ?_⟩
      have e : (((o[x.toNat]'(by omega)).toNat : Nat) : Int) = o[x.toNat]'(by omega) := by omega
      rw [e, h.nodup.idxOf_getElem]
      omega
theorem Lay.back : Lay (backL l o) (backO o) := by
  have hl := h.len
  have hlen : (backL l o).length = o.length := by unfold backL; rw [List.length_map]
  have hp : (backL l o).Perm l := by
    unfold backL
    have h1 := h.O.map (lenAt l)
    have e : (rgI (l.length : Int)).map (lenAt l) = l := by
      refine List.ext_getElem (by rw [List.length_map, rg_len]; omega) fun i h1 h2 => ?_
      rw [List.getElem_map]
      have : (rgI (l.length : Int))[i]'(by rw [List.length_map] at h1; exact h1) = (i : Int) := by simp [rgI]
      rw [this, getD_lenAt l i h2]
    rw [e] at h1
    exact h1
  refine ⟨⟨by rw [hlen, hl]; exact h.l1, by rw [hlen, hl]; exact h.l6, fun x hx => h.ge1 x (hp.mem_iff.mp hx), by rw [perm_sum hp]; exact h.L.2.2.2⟩, ?_⟩
  rw [hlen]
  exact h.backO_perm
end
end PL
namespace PL
open PySem PySem.Spec PyProof.Rows L2
section
variable {l o : List Int} (h : Lay l o)
include h
end
/-! ### from behind -/
section
variable {l o : List Int} (h : Lay l o)
include h
end
/-! ### how long the rounds are -/
theorem Met.all {G : List Int} {n : Nat} (hG : G.Perm (rgI n)) : ∀ m, m ≤ n → Met G n m (roundsTo G m).flatten
  | 0, _ => by
    show Met G n 0 []
    exact Met.zero G n
  | m + 1, h => by
    have ih := Met.all hG m (by omega)
    rw [roundsTo_succ]
    cases hb : leastB G m with
    | true => rw [if_pos rfl, List.flatten_append]; simpa using ih.add hG (by omega) hb
    | false => rw [if_neg (by simp)]; exact ih.skip hG (by omega) hb
end PL
set_option Elab.async false
set_option linter.all false
set_option maxRecDepth 100000
set_option maxHeartbeats 1000000
set_option autoImplicit false
/-! LY14: Laying.__eq__, back_laying, mirrored. -/
namespace PL
open PySem PySem.Spec PyProof.Rows L2
/-! ### back_order, back_laying -/
/-! ### mirrored -/
end PL
set_option Elab.async false
set_option linter.all false
set_option maxRecDepth 100000
set_option maxHeartbeats 1000000
set_option autoImplicit false
/-! LT4: the plain law of turned layings: from behind, led back; one-sided rounds. -/
namespace PL
open PySem PySem.Spec PyProof.Rows L2
section
variable {l o : List Int} (h : Lay l o) (v : List Int) {p : Int} (p0 : 0 ≤ p) (hp : p < l.sum)
include h p0 hp
end
/-! ### from behind -/
section
variable {l o : List Int} (h : Lay l o) (v : List Int) {p : Int} (p0 : 0 ≤ p) (hp : p < l.sum)
include h p0 hp
end
/-! ### led back -/
section
variable {l o : List Int} (h : Lay l o) {v : List Int} (hv : Lot (l.length : Int) v)
include h hv
end
section
variable {l o : List Int} (h : Lay l o) {v : List Int} (hv : Lot (l.length : Int) v) {p : Int} (p0 : 0 ≤ p) (hp : p < l.sum)
include h p0 hp
include hv
end
end PL
set_option Elab.async false
set_option linter.all false
set_option maxRecDepth 100000
set_option maxHeartbeats 1000000
set_option autoImplicit false
/-! LT5: as many rounds, as many one-sided ones; Turned.__eq__, turned_mirror, turned_back. -/
namespace PL
open PySem PySem.Spec PyProof.Rows L2
section
variable {l o : List Int} (h : Lay l o) {v : List Int} (hv : Lot (l.length : Int) v)
include h
include hv
end
end PL
set_option Elab.async false
set_option linter.all false
set_option maxRecDepth 100000
set_option maxHeartbeats 1000000
set_option autoImplicit false
/-! LT6: Turned.__eq__, turned_mirror, turned_back. -/
namespace PL
open PySem PySem.Spec PyProof.Rows L2
end PL
set_option Elab.async false
set_option linter.all false
set_option maxRecDepth 100000
set_option maxHeartbeats 1000000
set_option autoImplicit false
/-! PL66: list.count of numbers or flags. -/
namespace PL
open PySem PySem.Spec PyProof.Rows L2 PySem.SeqAt
section
variable {X : Cx}
end
section
variable {K : PySem.W.Frag} {mg : Str → Option Value} {Z : Zs} {H : Hp}
end
end PL
set_option Elab.async false
set_option linter.all false
set_option maxRecDepth 100000
set_option maxHeartbeats 1000000
set_option autoImplicit false
/-! PL67: data that may be shown: repr of it is itself. -/
namespace PL
open PySem PySem.Spec PyProof.Rows L2
/-- data that may be shown, at most so long and so deep -/
def Shw (d : D) (z h : Nat) : Prop := ∃ p, toPD d = some p ∧ okPD p = true ∧ szPD p ≤ z ∧ p.depth ≤ h ∧ samePD p p = true
theorem Shw.int (x : Int) (hx : x.natAbs ≤ 2 ^ 60) : Shw (.int x) 2000 0 := by
  refine ⟨.int x, rfl, ?_, by rw [szPD]; omega, by rw [PyData.depth]; omega, by rw [samePD, decide_eq_true rfl]⟩
  rw [okPD, decide_eq_true_eq]
  by_cases h0 : x.natAbs = 0
  · rw [h0]; decide
  · exact (Nat.log2_lt h0 (k := 1920)).mpr (Nat.lt_of_le_of_lt hx (Nat.pow_lt_pow_right (by decide) (by decide)))
theorem Shw.bl (b : Bool) : Shw (.bl b) 5 0 := ⟨.bool b, rfl, by rw [okPD], by rw [szPD]; omega, by rw [PyData.depth]; omega, by rw [samePD]; exact beq_self_eq_true b⟩
theorem Shw.non : Shw .non 4 0 := ⟨.none, rfl, by rw [okPD], by rw [szPD]; omega, by rw [PyData.depth]; omega, by rw [samePD]⟩
theorem Shw.items {z h : Nat} : ∀ (ds : List D), (∀ d ∈ ds, Shw d z h) → ∃ ps, toPDL ds = some ps ∧ okPDs ps = true ∧ szPDs ps ≤ ds.length * (z + 2) ∧ PyData.depthAll ps ≤ h ∧ samePDs ps ps = true
  | [], _ => ⟨[], by rw [toPDL], by rw [okPDs], by rw [szPDs]; omega, by rw [PyData.depthAll]; omega, by rw [samePDs]⟩
  | d :: ds, hd => by
    obtain ⟨p, p1, p2, p3, p4, p5⟩ := hd d (by simp)
    obtain ⟨ps, q1, q2, q3, q4, q5⟩ := Shw.items ds fun x hx => hd x (List.mem_cons_of_mem _ hx)
    refine ⟨p :: ps, by rw [toPDL, p1, q1], by rw [okPDs, p2, q2]; rfl, ?_, ?_, by rw [samePDs, p5, q5]; rfl⟩
    · rw [szPDs, List.length_cons, Nat.add_mul]; omega
    · rw [PyData.depthAll]; omega
theorem Shw.tup {z h : Nat} (nd : Bool) {ds : List D} (hd : ∀ d ∈ ds, Shw d z h) : Shw (.tup nd ds) (ds.length * (z + 2) + 3) (h + 1) := by
  obtain ⟨ps, q1, q2, q3, q4, q5⟩ := Shw.items ds hd
  exact ⟨.tuple ps, by rw [toPD, q1]; rfl, by rw [okPD, q2], by rw [szPD]; omega, by rw [PyData.depth]; omega, by rw [samePD, q5]⟩
theorem Shw.lst {z h : Nat} {ds : List D} (hd : ∀ d ∈ ds, Shw d z h) : Shw (.lst ds) (ds.length * (z + 2) + 3) (h + 1) := by
  obtain ⟨ps, q1, q2, q3, q4, q5⟩ := Shw.items ds hd
  exact ⟨.list ps, by rw [toPD, q1]; rfl, by rw [okPD, q2], by rw [szPD]; omega, by rw [PyData.depth]; omega, by rw [samePD, q5]⟩
theorem Shw.mono {d : D} {z h z' h' : Nat} (s : Shw d z h) (hz : z ≤ z') (hh : h ≤ h') : Shw d z' h' := by
  obtain ⟨p, p1, p2, p3, p4, p5⟩ := s
  exact ⟨p, p1, p2, by omega, by omega, p5⟩
theorem Shw.rep {d : D} {z h : Nat} (s : Shw d z h) (hz : z ≤ 10000000) (hh : h ≤ 58) : ∃ p, dRepr d = some p ∧ samePD p p = true := by
  obtain ⟨p, p1, p2, p3, p4, p5⟩ := s
  refine ⟨p, ?_, p5⟩
  unfold dRepr
  rw [p1, Option.bind_some, if_pos]
  unfold reprOk
  rw [p2, decide_eq_true (show szPD p ≤ 10000000 by omega), decide_eq_true (show p.depth ≤ 58 by omega)]
  rfl
theorem Shw.ints (nd : Bool) (l : List Int) (hl : l.length ≤ 1000) (h : ∀ x ∈ l, x.natAbs ≤ 2 ^ 60) : Shw (.tup nd (l.map .int)) 2002003 1 := by
  have := Shw.tup (z := 2000) (h := 0) nd (ds := l.map .int) fun d hd => by
    obtain ⟨x, hx, rfl⟩ := List.mem_map.mp hd
    exact .int x (h x hx)
  refine this.mono ?_ (by omega)
  rw [List.length_map]
  omega
end PL
set_option Elab.async false
set_option linter.all false
set_option maxRecDepth 100000
set_option maxHeartbeats 1000000
set_option autoImplicit false
/-! LS1: shrinking steps of two pieces laid the other way round, of one piece. -/
namespace PL
open PySem PySem.Spec PyProof.Rows L2
def PutTwoOk (f : FDen) : Prop := f [.lst [.int 1, .int 0], .int 0, .int 1] = .ok true (.lst [.int 1, .int 0]) none ∧ f [.lst [.int 0, .int 1], .int 1, .int 0] = .ok true (.lst [.int 0, .int 1]) none
/-- a step of two pieces, of one -/
structure ShrTwo (f : FDen) : Prop where
  top : ∀ (nd nd2 : Bool) (a b : Int), 1 ≤ a → a < b → a + b ≤ 60 → f [layD nd nd2 [a, b] [1, 0]] = .ok false (.tup true [.str "top", layD true true [a, b - a] [1, 0]]) none
  low : ∀ (nd nd2 : Bool) (a b : Int), 1 ≤ b → b < a → a + b ≤ 60 → f [layD nd nd2 [a, b] [1, 0]] = .ok false (.tup true [.str "low", layD true true [a - b, b] [1, 0]]) none
  both : ∀ (nd nd2 : Bool) (a : Int), 1 ≤ a → a + a ≤ 60 → f [layD nd nd2 [a, a] [1, 0]] = .ok false (.tup true [.str "both", layD true true [a] [0]]) none
  off : ∀ (nd nd2 : Bool) (a : Int), 1 ≤ a → a ≤ 60 → f [layD nd nd2 [a] [0]] = .ok false (.tup true [.str "off", .non]) none
section
variable {cs : List Str} (hc : cs.contains "Laying" = true) {nu pb : FDen} (hn : NumberedOk nu) (hp : PutTwoOk pb)
include hc
include hn hp
end
end PL
set_option Elab.async false
set_option linter.all false
set_option maxRecDepth 100000
set_option maxHeartbeats 1000000
set_option autoImplicit false
/-! LS5: put_behind, any row; the layings behind a shrinking step. -/
namespace PL
open PySem PySem.Spec PyProof.Rows L2
end PL
set_option Elab.async false
set_option linter.all false
set_option maxRecDepth 100000
set_option maxHeartbeats 1000000
set_option autoImplicit false
/-! LS2: the words of the steps of two pieces; runs of words. -/
namespace PL
open PySem PySem.Spec PyProof.Rows L2
/-! ### two, raw_two, check_two -/
/-! ### all_words -/
/-! ### shrunk_all (the same rows as `rounds`) -/
end PL
set_option Elab.async false
set_option linter.all false
set_option maxRecDepth 100000
set_option maxHeartbeats 1000000
set_option autoImplicit false
/-! LS6: a shrinking step of any laying. -/
namespace PL
open PySem PySem.Spec PyProof.Rows L2
section
variable {l o : List Int} (h : Lay l o)
include h
end
end PL
set_option Elab.async false
set_option linter.all false
set_option maxRecDepth 100000
set_option maxHeartbeats 1000000
set_option autoImplicit false
/-! LS7: raw_shrunk of any laying. -/
namespace PL
open PySem PySem.Spec PyProof.Rows L2
end PL
set_option Elab.async false
set_option linter.all false
set_option maxRecDepth 100000
set_option maxHeartbeats 1000000
set_option autoImplicit false
/-! LS8: all_words, shrunk, shrunk_all of any laying. -/
namespace PL
open PySem PySem.Spec PyProof.Rows L2
end PL
set_option Elab.async false
set_option linter.all false
set_option maxRecDepth 100000
set_option maxHeartbeats 1000000
set_option autoImplicit false
/-! LS9: the rounds of a first return to the first m places are as many. -/
namespace PL
open PySem PySem.Spec PyProof.Rows L2
section
variable {G G' : List Int} {n m : Nat} (hG : G.Perm (rgI n)) (hG' : G'.Perm (rgI m)) (hm : m ≤ n)
  (hf : ∀ p : Int, 0 ≤ p → p < m → gAt G' p = if gAt G p < m then gAt G p else gAt G (gAt G p))
  (hb : ∀ p : Int, (m : Int) ≤ p → p < n → gAt G p < m)
include hG hG' hm hf hb
end
end PL
set_option Elab.async false
set_option linter.all false
set_option maxRecDepth 100000
set_option maxHeartbeats 1000000
set_option autoImplicit false
/-! LS10: the goal behind a shrinking step: top. -/
namespace PL
open PySem PySem.Spec PyProof.Rows L2
section
variable {l o : List Int} (h : Lay l o)
include h
end
end PL
set_option Elab.async false
set_option linter.all false
set_option maxRecDepth 100000
set_option maxHeartbeats 1000000
set_option autoImplicit false
/-! LS11: top: the goal behind the step is the first return. -/
namespace PL
open PySem PySem.Spec PyProof.Rows L2
section
variable {l o : List Int} (h : Lay l o)
include h
end
end PL
set_option Elab.async false
set_option linter.all false
set_option maxRecDepth 100000
set_option maxHeartbeats 1000000
set_option autoImplicit false
/-! LS12: top, both: as many rounds. -/
namespace PL
open PySem PySem.Spec PyProof.Rows L2
section
variable {l o : List Int} (h : Lay l o)
include h
end
end PL
set_option Elab.async false
set_option linter.all false
set_option maxRecDepth 100000
set_option maxHeartbeats 1000000
set_option autoImplicit false
/-! LS13: both: the goal behind the step is the first return; as many rounds. -/
namespace PL
open PySem PySem.Spec PyProof.Rows L2
section
variable {l o : List Int} (h : Lay l o)
include h
end
end PL
set_option Elab.async false
set_option linter.all false
set_option maxRecDepth 100000
set_option maxHeartbeats 1000000
set_option autoImplicit false
/-! LS14: off: the last piece stays where it is. -/
namespace PL
open PySem PySem.Spec PyProof.Rows L2
section
variable {G G' : List Int} {n m : Nat} (hG : G.Perm (rgI n)) (hG' : G'.Perm (rgI m)) (hm : m ≤ n)
  (hf : ∀ p : Int, 0 ≤ p → p < m → gAt G' p = gAt G p) (hfix : ∀ p : Int, (m : Int) ≤ p → p < n → gAt G p = p)
include hG hG' hm hf hfix
end
section
variable {l o : List Int} (h : Lay l o)
include h
end
end PL
set_option Elab.async false
set_option linter.all false
set_option maxRecDepth 100000
set_option maxHeartbeats 1000000
set_option autoImplicit false
/-! LS15: low: the line's pieces behind the step. -/
namespace PL
open PySem PySem.Spec PyProof.Rows L2
end PL
set_option Elab.async false
set_option linter.all false
set_option maxRecDepth 100000
set_option maxHeartbeats 1000000
set_option autoImplicit false
/-! LS16: low: the goal behind the step is the first return. -/
namespace PL
open PySem PySem.Spec PyProof.Rows L2
section
variable {l o : List Int} (h : Lay l o)
include h
end
end PL
set_option Elab.async false
set_option linter.all false
set_option maxRecDepth 100000
set_option maxHeartbeats 1000000
set_option autoImplicit false
/-! LS17: the rounds are as many as the pieces taken away are long. -/
namespace PL
open PySem PySem.Spec PyProof.Rows L2
end PL
set_option Elab.async false
set_option linter.all false
set_option maxRecDepth 100000
set_option maxHeartbeats 1000000
set_option autoImplicit false
/-! PL68: x.count(text), x a tuple or a list of texts. -/
namespace PL
open PySem PySem.Spec PyProof.Rows L2 PySem.SeqAt
section
variable {X : Cx}
end
section
variable {K : PySem.W.Frag} {mg : Str → Option Value} {Z : Zs} {H : Hp}
end
end PL
set_option Elab.async false
set_option linter.all false
set_option maxRecDepth 100000
set_option maxHeartbeats 1000000
set_option autoImplicit false
/-! PL69: len(set(x)), x a list of ints. -/
namespace PL
open PySem PySem.Spec PyProof.Rows L2
section
variable {K : PySem.W.Frag} {mg : Str → Option Value}
end
end PL
set_option Elab.async false
set_option linter.all false
set_option maxRecDepth 100000
set_option maxHeartbeats 1000000
set_option autoImplicit false
/-! PL70: min and sorted of texts. -/
namespace PL
open PySem PySem.Spec PyProof.Rows L2
/-! ### min -/
section
variable {K : PySem.W.Frag} {mg : Str → Option Value}
end
/-! ### sorted -/
end PL
set_option Elab.async false
set_option linter.all false
set_option maxRecDepth 100000
set_option maxHeartbeats 1000000
set_option autoImplicit false
/-! PL71: raise C(), C an own class of errors with no __init__ of its own. -/
namespace PL
open PySem PySem.Spec PyProof.Rows L2
abbrev bmVE : List Value := [.type "ValueError", .type "Exception", .type "BaseException", .type "object"]
/-- an own class of errors -/
structure ExcK (K : PySem.W.Frag) (C : Addr) : Prop where
  kp : PySem.W.keepIn K (.ref C) = true
  ex : PySem.W.excIn K C bmVE "ValueError.__new__" = true
  sb : PySem.W.subIn K (.ref C) (.type "BaseException") = some true
  ty : PySem.W.typeIn K (.ref C) = some (.type "type")
def ExcF (K : PySem.W.Frag) (mg : Str → Option Value) (c : Str) : Prop := ∃ C, mg c = some (.ref C) ∧ ExcK K C
/-- C() -/
theorem pmk_own0 {X : Cx} {C : Addr} {x : Str} {p pos : Pos} (k : ExcK X.K C) (gC : X.mg x = some (.ref C)) (hg : Gl X x) (hdb : (x == ("__debug__" : Str)) = false := by decide) :
    PMk X (.Call (.Name x p) [] [] pos) (fun _ H Q => Q (.ref C) none H) := by
  intro pins s σ H Q I h
  refine wpAny_Call_Name_kw (ld_glob I hg gC ?_ hdb)
  refine PySem.W.callWith_K0 I.kIn k.kp ?_
  show wpAny _ _ (call (.ref C) []) _ _ _
  obtain ⟨bm, N, nm, qn, bs, hdct, sn, sub, ab, col, dd, k0, k1, k2, k3, k5, mN, hC, hN, hni, T⟩ := exc_obj I.kIn k.ex
  refine wpAny_call_exc_subT PySem.F.excBase_ValueError T hC hN hni (fun h' e hm => ?_) (by show 0 ≤ sizeLine; omega)
  exact mk_of I hm (raises_own k.sb k.ty) h (I.hok.gone hm.new)
def raiseS (c : Str) : MS := fun st => .exc c [] st
theorem Ps.raise {X : Cx} {W : WX} {io : Bool} {c : Str} {p p2 pos : Pos} (k : ExcF X.K X.mg c) (tk : Takes X W) (hc : X.calm = true := by rfl) (hg : Gl X c := by rfl) (hdb : (c == ("__debug__" : Str)) = false := by decide) :
    Ps X W io (.Raise (some (.Call (.Name c p) [] [] p2)) none pos) (raiseS c) := by
  obtain ⟨C, gC, kC⟩ := k
  refine ⟨fun pins s σ H D I h => (ps_raise hc tk (pmk_own0 kC gC hg hdb)).run pins s σ H D I ?_⟩
  obtain ⟨Z₀, st, hz, S, h⟩ := h
  exact h C none σ H Grow.refl S (.inl ⟨rfl, rfl⟩) gC
/-! ### try: body, except c: suite -/
end PL
set_option Elab.async false
set_option linter.all false
set_option maxRecDepth 100000
set_option maxHeartbeats 1000000
set_option autoImplicit false
/-! PL72: x in d, x not in d, of deep data (rows in a list of rows). -/
namespace PL
open PySem PySem.Spec PyProof.Rows L2
mutual
theorem reads_det {h : Heap} : ∀ (d d' : PyData) (v : Value) (as bs : List Addr), d.canLay0 = true → Reads h v d as → Reads h v d' bs → d = d'
  | .none, d', v, as, bs, _, r, r' => by cases r; cases r'; rfl
  | .bool b, d', v, as, bs, _, r, r' => by cases r; cases r'; rfl
  | .int i, d', v, as, bs, _, r, r' => by cases r; cases r'; rfl
  | .str x, d', v, as, bs, _, r, r' => by cases r; cases r'; rfl
  | .list xs, d', v, as, bs, c, r, r' => by
    cases r with
    | list k1 k2 k3 k4 =>
      cases r' with
      | list l1 l2 l3 l4 =>
        rw [k1] at l1; cases l1
        rw [k3] at l3; cases l3
        rw [reads_dets _ _ _ _ _ (by simpa [PyData.canLay0] using c) k4 l4]
      | tuple l1 l2 l3 l4 => rw [k1] at l1; cases l1; rw [k2] at l2; injection l2 with e; exact absurd e (by decide)
      | dict l1 l2 l3 l4 l5 => rw [k1] at l1; cases l1; rw [k2] at l2; injection l2 with e; exact absurd e (by decide)
  | .tuple xs, d', v, as, bs, c, r, r' => by
    cases r with
    | tuple k1 k2 k3 k4 =>
      cases r' with
      | list l1 l2 l3 l4 => rw [k1] at l1; cases l1; rw [k2] at l2; injection l2 with e; exact absurd e (by decide)
      | tuple l1 l2 l3 l4 =>
        rw [k1] at l1; cases l1
        rw [k3] at l3; cases l3
        rw [reads_dets _ _ _ _ _ (by simpa [PyData.canLay0] using c) k4 l4]
      | dict l1 l2 l3 l4 l5 => rw [k1] at l1; cases l1; rw [k2] at l2; injection l2 with e; exact absurd e (by decide)
  | .dict _, d', v, as, bs, c, r, r' => by cases c
theorem reads_dets {h : Heap} : ∀ (ds ds' : List PyData) (vs : List Value) (as bs : List Addr), PyData.canLayAll0 ds = true → ReadsAll h vs ds as → ReadsAll h vs ds' bs → ds = ds'
  | [], ds', vs, as, bs, _, r, r' => by cases r; cases r'; rfl
  | d :: ds, ds', vs, as, bs, c, r, r' => by
    have c' : d.canLay0 = true ∧ PyData.canLayAll0 ds = true := by simpa [PyData.canLayAll0] using c
    cases r with
    | cons h1 h2 =>
      cases r' with
      | cons g1 g2 => rw [reads_det _ _ _ _ _ c'.1 h1 g1, reads_dets _ _ _ _ _ c'.2 h2 g2]
end
section
variable {K : PySem.W.Frag} {mg : Str → Option Value} {W : WX}
end
end PL
set_option Elab.async false
set_option linter.all false
set_option maxRecDepth 100000
set_option maxHeartbeats 1000000
set_option autoImplicit false
/-! PL73: zip of a list and a tuple. -/
namespace PL
open PySem PySem.Spec PyProof.Rows L2
section
variable {prog : Program} {w : World} {A : Around} {E : Value → Shared → Prop} {s : Shared}
end
section
variable {X : Cx} {W : WX} {e e2 : Expr} {m1 m2 : M (Bool × D)} {p pos tpos : Pos} {elts : List Expr} {kk : Nat}
end
end PL
set_option Elab.async false
set_option linter.all false
set_option maxRecDepth 100000
set_option maxHeartbeats 1000000
set_option autoImplicit false
/-! PL74: x // y, y great. -/
namespace PL
open PySem PySem.Spec PyProof.Rows L2
section
variable {K : PySem.W.Frag} {mg : Str → Option Value}
end
end PL
set_option Elab.async false
set_option linter.all false
set_option maxRecDepth 100000
set_option maxHeartbeats 1000000
set_option autoImplicit false
/-! PL75: t * 0, t * 1, t a tuple. -/
namespace PL
open PySem PySem.Spec PyProof.Rows L2
end PL
set_option Elab.async false
set_option linter.all false
set_option maxRecDepth 100000
set_option maxHeartbeats 1000000
set_option autoImplicit false
/-! PL76: a lambda without parameters handed to a def of one parameter that calls it in a try. -/
namespace PL
open PySem PySem.Spec PyProof.Rows L2
section
variable {X : Cx} {pins : List (Addr × Obj)} {σ : L2.St} {H HZ : Hp} {s s1 : Shared}
end
end PL
set_option Elab.async false
set_option linter.all false
set_option maxRecDepth 100000
set_option maxHeartbeats 1000000
set_option autoImplicit false
/-! PL77: what a def is worth that calls what it got in a try; x(lambda: f(..)). -/
namespace PL
open PySem PySem.Spec PyProof.Rows L2
/-- what the call came to -/
inductive ActO where
  | ok
  | exc (c : Str) (fs : List (Str × D))
def RdyZ (K : PySem.W.Frag) (Z : Zs) (H : Hp) : Prop := TabsK K H ∧ ∀ a, Z a → H a ≠ none
section
variable (K : PySem.W.Frag) (mg : Str → Option Value)
/-- what is wanted behind the call, where it lets an error out -/
def TtX (t : ActO → FOut) (Q : VK) : XK := fun cls dx H' => ∃ y fs C Z, mg y = some (.ref C) ∧ cls = .ref C ∧ RdyZ K Z H' ∧ RepX K mg Z H' fs dx ∧ CallOut K mg Z none H' (t (.exc y fs)) Q fun _ _ _ => False
def TtV (t : ActO → FOut) (Q : VK) : VK := fun _ H' => ∃ Z, RdyZ K Z H' ∧ CallOut K mg Z none H' (t .ok) Q fun _ _ _ => False
end
/-- such a def's body, walked -/
def GivT (P : Program) (w : World) (K : PySem.W.Frag) (mg : Str → Option Value) (base : Heap) (k : Nat) (N : List Str) (x : Str) (sg : Scope) (g : Addr) (cdg : Value) (bg : List Stmt) (a : Str) (t : ActO → FOut) : Prop :=
  ∀ (A : Around) (outer : List Env) (s : Shared) (H : Hp) (fa cn : Addr) (q : Str) (Q : VK) (tl : XK → Hp → VK → Prop), Room k (A.deeper (envOfC x sg s.heap.objs.size g cdg)) → A.guards = some [] →
    (∀ (W : WX) (pn : List (Addr × Obj)) (xe : Value → Shared → Prop) (E : XK) (p1 p2 : Pos), Takes ((cxOf C8.CX0 P w K mg base N x sg g cdg A outer s H C8.E0).tr pn xe) W → (∀ cls d σ' H', E cls d H' → W cls d σ' H') →
      PE ((cxOf C8.CX0 P w K mg base N x sg g cdg A outer s H C8.E0).tr pn xe) (.Call (.Name a p1) [] [] p2) (fun σZ HZ Q => σZ[0]? = some (some (.ref fa)) ∧ HZ cn = some (LamX.CodeO cn q) ∧ tl E HZ Q)) →
    H cn = some (LamX.CodeO cn q) → (∀ (E' : XK) (Q' : VK), (∀ cls d H', TtX K mg t Q cls d H' → E' cls d H') → (∀ v H', TtV K mg t Q v H' → Q' v H') → tl E' H Q') →
    ∃ t', PSs (cxOf C8.CX0 P w K mg base N x sg g cdg A outer s H C8.E0).nox bg t' ∧ t' { nx := fun _ H' => Q .non H', rt := Q } (L2.start N [.ref fa]) H
/-- such a def -/
structure Tol (P : Program) (w : World) (K : PySem.W.Frag) (mg : Str → Option Value) (base : Heap) (k : Nat) (x : Str) (t : ActO → FOut) : Prop where
  ex : ∃ (g : Addr) (a : Str) (N : List Str) (oc : Value) (od : Option Addr) (pg : Arguments) (bg : List Stmt) (sg : Scope) (dV kV doc pm cdv ct : Value) (an : Option Addr) (osl : Array (Option Value)),
    mg x = some (.ref g) ∧ PySem.W.keepIn K (.ref g) = true ∧ K.lookup g = some ⟨oc, od, .func (PySem.W.fnOf x x pg bg sg dV kV doc pm an cdv ct), osl⟩ ∧ PySem.W.codeIn K cdv x = true ∧
    L2.Binds K (PySem.W.fnOf x x pg bg sg dV kV doc pm an cdv ct) [a] [] ∧ FnScope N [a] sg ∧ N[0]? = some a ∧ Vis sg a ∧ (a == ("__debug__" : Str)) = false ∧ (a == ("__classdict__" : Str)) = false ∧ GivT P w K mg base k N x sg g cdv bg a t
section
variable {K : PySem.W.Frag} {mg : Str → Option Value} {Z₀ : Zp} {H G H' : Hp} {st st' : DSt} {σ : L2.St} {v : V} {d : D}
end
end PL
set_option Elab.async false
set_option linter.all false
set_option maxRecDepth 100000
set_option maxHeartbeats 1000000
set_option autoImplicit false
/-! PL78: try: x(), except c as e: suite; then the rest. -/
namespace PL
open PySem PySem.Spec PyProof.Rows L2
section
variable {K : PySem.W.Frag} {mg : Str → Option Value} {Z : Zs} {Z₀ : Zp} {H H' : Hp} {st st' : DSt} {σ σ' : L2.St} {d : D} {v : V}
end
end PL
set_option Elab.async false
set_option linter.all false
set_option maxRecDepth 100000
set_option maxHeartbeats 1000000
set_option autoImplicit false
/-! PL79: isinstance of the caught error; index of a flag; such defs' contracts. -/
namespace PL
open PySem PySem.Spec PyProof.Rows L2
section
variable {K : PySem.W.Frag} {mg : Str → Option Value}
end
theorem Pss.stop {X : Cx} {W : WX} {io : Bool} {ss : List Stmt} : Pss X W io ss stopS := ⟨fun pins s σ H D I ⟨_, _, _, _, q⟩ => q.elim⟩
/-! ### index of a flag -/
/-! ### such a def's body, run -/
/-! ### the contract -/
theorem Tol.mono {P : Program} {w : World} {K : PySem.W.Frag} {mg : Str → Option Value} {base : Heap} {j k : Nat} {x : Str} {t : ActO → FOut} (C : Tol P w K mg base j x t) (h : j ≤ k) : Tol P w K mg base k x t := by
  obtain ⟨g, a, N, oc, od, pg, bg, sg, dV, kV, doc, pm, cdv, ct, an, osl, hm, hk, lk, hcg, hb, Sg, hN0, hva, hd1, hd2, hG⟩ := C.ex
  exact ⟨g, a, N, oc, od, pg, bg, sg, dV, kV, doc, pm, cdv, ct, an, osl, hm, hk, lk, hcg, hb, Sg, hN0, hva, hd1, hd2, fun A outer s H fa cn q Q tl hr => hG A outer s H fa cn q Q tl (hr.mono h)⟩
end PL
set_option Elab.async false
set_option linter.all false
set_option maxRecDepth 100000
set_option maxHeartbeats 1000000
set_option autoImplicit false
/-! PL80: the head's facts with tables of code objects and classes of errors. -/
namespace PL
open PySem PySem.Spec PyProof.Rows L2
/-! ### a Hook that leaves empty tables out -/
abbrev AlQ : Type := AlP × Bool
def tabsQ (g : Addr → Option Obj) (K : PySem.W.Frag) : Bool := ((lamTabs K).all fun p => PySem.W.codeHdIn K p.1 p.2.1 && (match g p.2.1 with
  | some o => He.emptyTab o
  | none => false)) && (tabsL K).all fun p => (tabsL K).all fun q => !decide (p.1 = q.1) || decide (p.2 = q.2)
def SaysQ (fa : List He.Fa) (fn : List He.DefD) (fx : List (PySem.W.Frag → Bool)) (h : Heap) (K : PySem.W.Frag) : Prop := SaysP fa fn fx K ∧ TabH K h
theorem TabH.keeps {K : PySem.W.Frag} {h h' : Heap} (T : TabH K h) (hK : K.In h') (k : ∀ b o, h.get? b = some o → h'.get? b = some o) : TabH K h' :=
  ⟨fun p hp => k _ _ (T.empty p hp), T.out, fun p hp => (T.hd p hp).keeps k, T.one⟩
/-! ### classes of errors -/
section
variable {K : PySem.W.Frag} {mg : Str → Option Value}
end
end PL
set_option Elab.async false
set_option linter.all false
set_option maxRecDepth 100000
set_option maxHeartbeats 1000000
set_option autoImplicit false
/-! LE1: bodies that raise where others are stuck. -/
namespace PL
open PySem PySem.Spec PyProof.Rows L2
end PL
set_option Elab.async false
set_option linter.all false
set_option maxRecDepth 100000
set_option maxHeartbeats 1000000
set_option autoImplicit false
/-! LW1: words of ways: a lesser place has a lesser word; the least turn of a round's word. -/
namespace PL
open PySem PySem.Spec PyProof.Rows L2
end PL
set_option Elab.async false
set_option linter.all false
set_option maxRecDepth 100000
set_option maxHeartbeats 1000000
set_option autoImplicit false
/-! LW2: the words of rounds, as they are walked. -/
namespace PL
open PySem PySem.Spec PyProof.Rows L2
end PL
set_option Elab.async false
set_option linter.all false
set_option maxRecDepth 100000
set_option maxHeartbeats 1000000
set_option autoImplicit false
/-! LE4: refusals: the first check's error goes through; is_integer, is_within of things that are no numbers; check_place. -/
namespace PL
open PySem PySem.Spec PyProof.Rows L2
/-- no number -/
def notInt : D → Prop
  | .non => True
  | .bl _ => True
  | .str _ => True
  | .tup _ _ => True
  | .lst _ => True
  | .rol _ => True
  | .dic _ => True
  | _ => False
/-- no number from lo to hi -/
def badN (lo hi : Int) (d : D) : Prop := notInt d ∨ ∃ i, d = .int i ∧ ¬ (lo ≤ i ∧ i ≤ hi)
def IsIntNo (f : FDen) : Prop := ∀ d, notInt d → f [d] = .ok false (.bl false) none
def IsWithNo (f : FDen) : Prop := ∀ d lo hi, badN lo hi d → f [d, .int lo, .int hi] = .ok false (.bl false) none
theorem isIntNo : IsIntNo (fden false 1 1 S_is_integer) := fun d h => by
  cases d <;> first | exact h.elim | rfl
theorem isWithNo {f : FDen} (hi : IsInteger f) (hf : IsIntNo f) : IsWithNo (fden false 3 3 (S_is_within f)) := fun d lo up h => by
  rcases h with h | ⟨i, rfl, h⟩
  · have e := hf d h
    refine run_def2 (dd := fden false 3 3 (S_is_within f)) (np := 3) (n := 3) (mb := S_is_within f) rfl _ _ _ (Eq.refl 3) ⟨?_⟩
    simp_arith [S_is_within, e]
  · rw [is_within_int hi]
    have : (decide (lo ≤ i) && decide (i ≤ up)) = false := by
      rw [Bool.and_eq_false_iff, decide_eq_false_iff_not, decide_eq_false_iff_not]
      omega
    rw [this]
/-! ### a thing some fifty deep -/
end PL
set_option Elab.async false
set_option linter.all false
set_option maxRecDepth 100000
set_option maxHeartbeats 1000000
set_option autoImplicit false
/-! PL81: a lambda with one parameter that has a number as its default, handed to a def that calls it. -/
namespace PL
open PySem PySem.Spec PyProof.Rows L2
/-- the lambda's names: its parameter, captured ones, globals -/
structure LamD (sc scope : Scope) (p : Str) : Prop where
  kind : scope.kind = .function
  co : scope.isCoroutine = false
  gen : scope.isGenerator = false
  own : ∀ y ∈ scope.names, y.2 ≠ .cell ∧ (y.2 = .local → y.1 = p)
  par : scope.names.lookup p = some .local
  free : ∀ y ∈ scope.names, y.2 = .free → sc.names.lookup y.1 = some .cell ∨ sc.names.lookup y.1 = some .free
theorem LamD.has {X : Cx} {scope : Scope} {p : Str} (L : LamD X.env.scope scope p) (ok : X.Ok) : ∀ y ∈ scope.names, y.2 = .free → ∃ c, X.env.cells.lookup y.1 = some c := fun y hy e => by
  rcases L.free y hy e with k | k
  · exact ok.has _ (.inl k)
  · exact ok.has _ (.inr k)
section
variable {X : Cx} {pins : List (Addr × Obj)} {σ : L2.St} {H HZ : Hp} {s s1 : Shared}
end
end PL
set_option Elab.async false
set_option linter.all false
set_option maxRecDepth 100000
set_option maxHeartbeats 1000000
set_option autoImplicit false
/-! PL82: its call, the rule. -/
namespace PL
open PySem PySem.Spec PyProof.Rows L2
section
variable {X : Cx} {pins : List (Addr × Obj)} {σ : L2.St} {H HZ : Hp} {s s1 : Shared}
end
end PL
set_option Elab.async false
set_option linter.all false
set_option maxRecDepth 100000
set_option maxHeartbeats 4000000
set_option autoImplicit false
/-! PL83: list(a dict). -/
namespace PL
open PySem PySem.Spec PyProof.Rows L2
section
variable {K : PySem.W.Frag} {mg : Str → Option Value} {W : WX} {Z : Zs} {H : Hp} {σ : L2.St}
end
end PL
set_option Elab.async false
set_option linter.all false
set_option maxRecDepth 100000
set_option maxHeartbeats 1000000
set_option autoImplicit false
/-! PL84: repr as a value, compared with a text; a told def that begins with v = a text. -/
namespace PL
open PySem PySem.Spec PyProof.Rows L2
section
variable {K : PySem.W.Frag} {mg : Str → Option Value} {W : WX} {Z : Zs} {H : Hp} {σ : L2.St}
def isText (x : Str) : D → Bool
  | .str y => decide (y = x)
  | _ => false
variable {o o1 o2 : Opd} {st : DSt} {k : Bool × D → DSt → Prop} {x : Str → List (Str × D) → DSt → Prop} {neg : Bool}
end
section
variable {X : Cx} {W : WX} {e a b : Expr} {o o1 o2 : Opd} {p pos p1 q1 : Pos}
end
/-! ### told defs that begin with v = a text -/
section
variable {K : PySem.W.Frag} {mg : Str → Option Value} {Z : Zs} {H : Hp} {σ : L2.St}
end
end PL
set_option Elab.async false
set_option linter.all false
set_option maxRecDepth 100000
set_option maxHeartbeats 1000000
set_option autoImplicit false
/-! PL85: sorted(a list of data: texts, rows of texts and numbers). -/
namespace PL
open PySem PySem.Spec PyProof.Rows L2 PySem.W
section
variable {X : Cx} {pins : List (Addr × Obj)} {σ : L2.St} {H : Hp} {s : Shared}
end
/-! ### the op -/
section
variable {α : Type} (le : α → α → Bool)
variable {le}
end
section
variable {K : PySem.W.Frag} {mg : Str → Option Value} {Z : Zs} {H : Hp}
end
end PL
set_option Elab.async false
set_option linter.all false
set_option maxRecDepth 100000
set_option maxHeartbeats 1000000
set_option autoImplicit false
/-! PL86: sorted(a tuple of data). -/
namespace PL
open PySem PySem.Spec PyProof.Rows L2 PySem.W
section
variable {prog : Program} {w : World} {A : Around} {E : Value → Shared → Prop} {s : Shared} {β : Type} {R : Value → β → Prop} {enc : β → PyData} {bs : List β} {us : List Value}
end
section
variable {K : PySem.W.Frag} {mg : Str → Option Value}
end
end PL
set_option Elab.async false
set_option linter.all false
set_option maxRecDepth 100000
set_option maxHeartbeats 1000000
set_option autoImplicit false
/-! PL87: a text in a text. -/
namespace PL
open PySem PySem.Spec PyProof.Rows L2
def rInT (neg : Bool) : R2 := fun x y H Q => ∃ i j : Str, x = .str i ∧ y = .str j ∧ Q (.bl (if neg then !(!(Builtin.Str.occurrences j i 0 j.length 1).isEmpty) else !(Builtin.Str.occurrences j i 0 j.length 1).isEmpty)) H
def rInZ (K : PySem.W.Frag) (neg : Bool) : R2 := fun x y H Q => rInA K neg x y H Q ∨ rInT neg x y H Q
theorem op_inZ {X : Cx} (hu : X.A.units + 1 < cLine) : OpR X (compareOp .In) (rInZ X.K false) := by
  intro pins s σ H x y v u Q I rx ry h
  rcases h with h | ⟨i, j, e1, e2, q⟩
  · exact op_inA hu pins s σ H x y v u Q I rx ry h
  · exact op_in_str pins s σ H x y v u Q I rx ry ⟨i, j, e1, e2, q⟩
def dInZ (neg : Bool) : List D → Option (Bool × D)
  | [.str i, .str j] => fl (.bl (if neg then !(!(Builtin.Str.occurrences j i 0 j.length 1).isEmpty) else !(Builtin.Str.occurrences j i 0 j.length 1).isEmpty))
  | l => dInA neg l
theorem b_inZ {K : PySem.W.Frag} {mg : Str → Option Value} (neg : Bool) : BSpec K mg (r2L (rInZ K neg)) (dInZ neg) := fun Z H vs ds fr d Q dom pl e kk => by
  unfold dInZ at e
  split at e
  · rename_i i j
    obtain ⟨v, w, rfl, h1, h2⟩ := pl2 pl
    exact .inr ⟨i, j, pk_str h1, pk_str h2, fin0 e (.bl _) kk⟩
  · have h := b_inA neg Z H vs ds fr d Q dom pl e kk
    obtain ⟨x, y, rfl, h⟩ : ∃ x y, vs = [x, y] ∧ rInA K neg x y H Q := by
      unfold r2L at h
      first
        | exact h
        | (split at h
           · exact ⟨_, _, rfl, h⟩
           · exact h.elim)
    exact (show rInZ K neg x y H Q from .inl h)
end PL
set_option Elab.async false
set_option linter.all false
set_option maxRecDepth 100000
set_option maxHeartbeats 1000000
set_option autoImplicit false
/-! PL88: max of a text. -/
namespace PL
open PySem PySem.Spec PyProof.Rows L2 PySem.W
end PL
set_option Elab.async false
set_option linter.all false
set_option maxRecDepth 100000
set_option maxHeartbeats 1000000
set_option autoImplicit false
/-! PL89: a longer text so often. -/
namespace PL
open PySem PySem.Spec PyProof.Rows L2
end PL
set_option Elab.async false
set_option linter.all false
set_option maxRecDepth 100000
set_option maxHeartbeats 1000000
set_option autoImplicit false
/-! PL90: a tuple of texts that stands among the names of the top; x in it. -/
namespace PL
open PySem PySem.Spec PyProof.Rows L2
section
variable {X : Cx} {W : WX} {x : Str} {pos : Pos}
end
end PL
set_option Elab.async false
set_option linter.all false
set_option maxRecDepth 100000
set_option maxHeartbeats 1000000
set_option autoImplicit false
/-! LE8: a thing so deep (refusal laws). -/
namespace PL
open PySem PySem.Spec PyProof.Rows L2
end PL
set_option Elab.async false
set_option linter.all false
set_option maxRecDepth 100000
set_option maxHeartbeats 1000000
set_option autoImplicit false
/-! LE9: swaps of neighbours lead to an order; comprehensions over few things. -/
namespace PL
open PySem PySem.Spec PyProof.Rows L2
theorem lc_cons {vs : List Nat} {t : Tg} {elt : M (Bool × D)} {K : List D → DSt → Prop} {st st1 : DSt} {d : D} {r acc : List D} (w : D) (hb : bindT t d st = some st1) (hh : hid vs st1 = true) (hw : wipeD st1 vs = st)
    (he : (elt st1).post (fun q st3 => q.2 = w ∧ st3 = st1) NX) (h : (lcL vs t (M.pure true) elt r (acc ++ [w]) st).post K NX) : (lcL vs t (M.pure true) elt (d :: r) acc st).post K NX := by
  rw [lcL, post_bind, post_bindM]
  refine ⟨st1, hb, ?_⟩
  rw [post_bind, post_noX, post_pure, post_ite, if_pos rfl, post_bind, post_noX]
  refine he.mono (fun q st3 ⟨e1, e2⟩ => ?_) fun _ _ _ h => h
  subst e1 e2
  rw [post_bind, post_wipeM]
  refine ⟨hh, ?_⟩
  rw [hw]
  exact h
theorem lc_nil {vs : List Nat} {t : Tg} {elt : M (Bool × D)} {K : List D → DSt → Prop} {st : DSt} {acc : List D} (h : K acc st) : (lcL vs t (M.pure true) elt [] acc st).post K NX := h
end PL
set_option Elab.async false
set_option linter.all false
set_option maxRecDepth 100000
set_option maxHeartbeats 1000000
set_option autoImplicit false
/-! LE10: what is no order; swaps lead to all orders. -/
namespace PL
open PySem PySem.Spec PyProof.Rows L2
def okD (d : D) : Prop := (∃ n, d = .int n) ∨ notInt d
def wB (lo hi : Int) : D → Bool
  | .int n => decide (lo ≤ n) && decide (n ≤ hi)
  | _ => false
theorem okD_int (n : Int) : okD (.int n) := .inl ⟨n, rfl⟩
theorem with_any {w : FDen} (c : IsWithin w) (cx : IsWithNo w) {d : D} (h : okD d) (lo hi : Int) : w [d, .int lo, .int hi] = .ok false (.bl (wB lo hi d)) none := by
  rcases h with ⟨n, rfl⟩ | h
  · exact c n lo hi
  · rw [cx d lo hi (.inl h)]
    cases d <;> first | rfl | exact h.elim
end PL
set_option Elab.async false
set_option linter.all false
set_option maxRecDepth 100000
set_option maxHeartbeats 1000000
set_option autoImplicit false
/-! LE11: swaps lead to all orders. -/
namespace PL
open PySem PySem.Spec PyProof.Rows L2
end PL
set_option Elab.async false
set_option linter.all false
set_option maxRecDepth 100000
set_option maxHeartbeats 1000000
set_option autoImplicit false
/-! LW3: how often a letter is in a text; texts in a row. -/
namespace PL
open PySem PySem.Spec PyProof.Rows L2
theorem occ_count (x : Str) (c : Nat) : ∀ (m i : Nat) (st : Array Nat × Nat), i + m = x.length + 1 → st.2 ≤ i → st.1.size ≤ i →
    (forIn (List.range' i m) st (StrLaws.occBody x ⟨#[c]⟩ x.length (x.length + 1))).run.1.size = st.1.size + (x.cps.toList.drop i).count c
  | 0, i, st, h, _, _ => by
    have e : x.cps.toList.drop i = [] := List.drop_eq_nil_of_le (by
      have : x.cps.toList.length = x.length := by simp [Str.length]
      omega)
    rw [e]
    simp
  | m + 1, i, st, h, h1, h2 => by
    have hx : x.cps.toList.length = x.length := by simp [Str.length]
    rw [List.range'_succ, List.forIn_cons]
    have one := StrLaws.subAt_one x c i
    unfold StrLaws.occBody
    by_cases q : x.cps.toList[i]? = some c
    · have h3 := one.mpr q
      have hi : i < x.cps.toList.length := (List.getElem?_eq_some_iff.mp q).1
      rw [if_pos ⟨⟨⟨by omega, h1⟩, h3.1⟩, h3.2⟩]
      have ih := occ_count x c m (i + 1) (st.1.push i, i + (⟨#[c]⟩ : Str).length) (by omega) (by simp [Str.length]) (by rw [Array.size_push]; omega)
      refine Eq.trans ih ?_
      rw [List.drop_eq_getElem_cons hi, List.count_cons, Array.size_push]
      have e : x.cps.toList[i] = c := (List.getElem?_eq_some_iff.mp q).2
      rw [e]
      simp
      omega
    · rw [if_neg (fun z => q (one.mp ⟨z.1.2, z.2⟩))]
      have ih := occ_count x c m (i + 1) (st.1, st.2) (by omega) (by simp; omega) (by simp; omega)
      refine Eq.trans ih ?_
      by_cases hi : i < x.cps.toList.length
      · rw [List.drop_eq_getElem_cons hi, List.count_cons]
        have e : (x.cps.toList[i] == c) = false := by
          rw [beq_eq_false_iff_ne]
          intro z
          exact q (by rw [List.getElem?_eq_getElem hi, z])
        rw [e]
        simp
      · rw [List.drop_eq_nil_of_le (by omega), List.drop_eq_nil_of_le (by omega)]
theorem count_one (w : List Nat) (c : Nat) : Txt.count (SL w) (SL [c]) = (w.count c : Nat) := by
  unfold Txt.count
  have e : (SL [c]) = ⟨#[c]⟩ := rfl
  rw [e, StrLaws.occ_eq]
  have := occ_count (SL w) c ((SL w).length + 1) 0 (#[], 0) (by omega) (by omega) (by simp)
  rw [Array.length_toList]
  rw [show (SL w).length + 1 - 0 = (SL w).length + 1 by omega]
  rw [this, List.drop_zero, SL_cps]
  simp
theorem scount_one (w : List Nat) (c : Nat) : dSCount [.str (SL w), .str (SL [c])] = some (false, .int (w.count c : Nat)) := by
  show fl (.int (Txt.count _ _)) = _
  rw [count_one]
  rfl
theorem methS_n {f : List D → Option (Bool × D)} {i : Nat} {a : Opd} {st : DSt} {k : Bool × D → DSt → Prop} {x : Str → List (Str × D) → DSt → Prop} : (mMethS f (.nm i) a st).post k x ↔ ∃ b0 d0, st[i]? = some (some (b0, d0)) ∧ isS d0 = true ∧ (mOps [.nm i, a] f st).post k x := by
  rw [mMethS, post_bind, post_peek]
  refine exists_congr fun b0 => exists_congr fun d0 => and_congr_right fun _ => ?_
  by_cases h : isS d0 = true
  · rw [if_pos h]
    exact ⟨fun q => ⟨h, q⟩, fun q => q.2⟩
  · rw [if_neg h]
    exact ⟨fun q => q.elim, fun q => h q.1⟩
end PL
set_option Elab.async false
set_option linter.all false
set_option maxRecDepth 100000
set_option maxHeartbeats 1000000
set_option autoImplicit false
/-! LW4: two pieces laid the other way round: the word from place 0, how often it has its letters. -/
namespace PL
open PySem PySem.Spec PyProof.Rows L2
section
variable {a b : Int} (ha : 1 ≤ a) (hb : 1 ≤ b) (hab : a + b ≤ 60)
include ha hb hab
end
end PL
set_option Elab.async false
set_option linter.all false
set_option maxRecDepth 100000
set_option maxHeartbeats 1000000
set_option autoImplicit false
/-! LW5: slope words; a law's own round. -/
namespace PL
open PySem PySem.Spec PyProof.Rows L2
theorem s_a : ("a" : Str) = SL [97] := by decide +kernel
theorem s_b : ("b" : Str) = SL [98] := by decide +kernel
end PL
set_option Elab.async false
set_option linter.all false
set_option maxRecDepth 100000
set_option maxHeartbeats 1000000
set_option autoImplicit false
/-! PL91: a name of the top as a value, a def called by a name of one's own. -/
namespace PL
open PySem PySem.Spec PyProof.Rows L2
section
variable {X : Cx} {W : WX} {e : Expr} {es : List Expr} {ms : List (M (Bool × D))} {pos p : Pos} {x : Str} {i k n : Nat} {ps : List Str} {den : FDen} {io : Bool}
theorem Cal.mono {P : Program} {w : World} {K : PySem.W.Frag} {mg : Str → Option Value} {base : Heap} {j k : Nat} (C : Cal P w K mg base j x ps io den) (h : j ≤ k) : Cal P w K mg base k x ps io den := by
  obtain ⟨f, fd, F, hm, hk, hb⟩ := C.ex
  exact ⟨f, fd, F.mono h, hm, hk, hb⟩
end
end PL
set_option Elab.async false
set_option linter.all false
set_option maxRecDepth 100000
set_option maxHeartbeats 1000000
set_option autoImplicit false
/-! PL92: {0: x}, {"a": x}. -/
namespace PL
open PySem PySem.Spec PyProof.Rows L2
section
variable {K : PySem.W.Frag} {mg : Str → Option Value} {W : WX} {Z : Zs} {H : Hp} {σ : L2.St}
end
section
variable {X : Cx} {W : WX} {x : Str} {i : Nat} {pos p q : Pos} {j : Nat}
end
end PL
set_option Elab.async false
set_option linter.all false
set_option maxRecDepth 100000
set_option maxHeartbeats 1000000
set_option autoImplicit false
/-! PL93: repr of data with dicts within. -/
namespace PL
open PySem PySem.Spec PyProof.Rows L2
/-- what stands at sysModules is no list, no tuple -/
def SysK (K : PySem.W.Frag) : Prop := ∃ o, K.lookup sysModules = some o ∧ ∀ its n, o.data ≠ .seq its n
def sysB (K : PySem.W.Frag) : Bool := match K.lookup sysModules with
  | some o => (match o.data with
    | .seq _ _ => false
    | _ => true)
  | none => false
theorem sysK_of {K : PySem.W.Frag} (h : sysB K = true) : SysK K := by
  unfold sysB at h
  split at h
  · rename_i o ho
    refine ⟨o, ho, fun its n e => ?_⟩
    rw [e] at h
    cases h
  · cases h
def keyPD : Key → PyData
  | .inl i => .int i
  | .inr x => .str x
mutual
inductive Dq (K : PySem.W.Frag) (H : Hp) : V → PyData → Prop
  | non : Dq K H .non .none
  | bl (b : Bool) : Dq K H (.bl b) (.bool b)
  | int (i : Int) : Dq K H (.int i) (.int i)
  | str (x : Str) : Dq K H (.str x) (.str x)
  | lst {a : Addr} {xs : List V} {ds : List PyData} : SqL K H a xs → DqAll K H xs ds → Dq K H (.ref a) (.list ds)
  | tup {a : Addr} {xs : List V} {ds : List PyData} : SqT K H a xs → DqAll K H xs ds → Dq K H (.ref a) (.tuple ds)
  | dic {a : Addr} {ks : List (Key × V)} {ds : List (PyData × PyData)} : H a = some (.dK ks) → DqKv K H ks ds → Dq K H (.ref a) (.dict ds)
inductive DqAll (K : PySem.W.Frag) (H : Hp) : List V → List PyData → Prop
  | nil : DqAll K H [] []
  | cons {v : V} {vs : List V} {d : PyData} {ds : List PyData} : Dq K H v d → DqAll K H vs ds → DqAll K H (v :: vs) (d :: ds)
inductive DqKv (K : PySem.W.Frag) (H : Hp) : List (Key × V) → List (PyData × PyData) → Prop
  | nil : DqKv K H [] []
  | cons {k : Key} {v : V} {ks : List (Key × V)} {d : PyData} {ds : List (PyData × PyData)} : Dq K H v d → DqKv K H ks ds → DqKv K H ((k, v) :: ks) ((keyPD k, d) :: ds)
end
section
variable {X : Cx} {pins : List (Addr × Obj)} {σ : L2.St} {H : Hp} {s : Shared}
theorem ne_sys (I : Inv X pins σ H s) (hs : SysK X.K) {a : Addr} {o : Obj} {its : Array Value} {n : Nat} (h : s.heap.get? a = some o) (hd : o.data = .seq its n) : a ≠ sysModules := by
  intro e
  obtain ⟨u, hu, hn⟩ := hs
  have h2 := I.bk _ _ (I.mod.kin _ _ hu)
  rw [← e, h] at h2
  injection h2 with h2
  subst h2
  exact hn _ _ hd
theorem key_reads {h : Heap} {P : Program} {w : World} {k : Key} {u : Value} (q : (mixKind P w).is k u = true) : Reads h u (keyPD k) [] := by
  rcases keyIs_shape q with ⟨i, t, rfl, rfl⟩ | ⟨x, t, rfl, rfl⟩
  · exact Reads.int i t
  · exact Reads.str x t
mutual
theorem Dq.reads (I : Inv X pins σ H s) (hs : SysK X.K) : ∀ (d : PyData) (v : V) (u : Value), Dq X.K H v d → RelV v u → ∃ as, Reads s.heap u d as ∧ sysModules ∉ as
  | .none, _, _, h, r => by
    cases h
    cases r
    exact ⟨_, Reads.none, by simp⟩
  | .bool b, _, _, h, r => by
    cases h
    cases r
    exact ⟨_, Reads.bool b, by simp⟩
  | .int i, _, _, h, r => by
    cases h
    obtain ⟨t, rfl⟩ := r
    exact ⟨_, Reads.int i t, by simp⟩
  | .str x, _, _, h, r => by
    cases h
    obtain ⟨t, rfl⟩ := r
    exact ⟨_, Reads.str x t, by simp⟩
  | .list ds, _, _, h, r => by
    cases h with
    | lst hq ha =>
      cases r
      obtain ⟨its, rv, ⟨o, n, ho, hc, _, hd⟩, _⟩ := I.list hq
      obtain ⟨as, hr, hm⟩ := Dq.readsAll I hs ds _ its ha rv
      refine ⟨_, Reads.list ho hc hd hr, fun z => ?_⟩
      rcases List.mem_cons.mp z with z | z
      · exact ne_sys I hs ho hd z.symm
      · exact hm z
  | .tuple ds, _, _, h, r => by
    cases h with
    | tup hq ha =>
      cases r
      obtain ⟨its, rv, ⟨o, ho, hc, n, hd⟩, _⟩ := I.tuple hq
      obtain ⟨as, hr, hm⟩ := Dq.readsAll I hs ds _ its ha rv
      exact ⟨_, Reads.tuple ho hc hd hr, hm⟩
  | .dict ds, _, _, h, r => by
    cases h with
    | dic hq ha =>
      cases r
      obtain ⟨_, hd, vs, rel, o, es, ep, ho, ex, e, _, pr, _⟩ := dk_of I.hok hq
      obtain ⟨as, bs, h1, h2, h3, h4⟩ := Dq.readsKv I hs ds _ vs es.toList ha rel pr
      refine ⟨_, Reads.dict ho ex.1 e h1 h2, fun z => ?_⟩
      have z : sysModules ∈ _ :: as ++ bs := z
      rw [List.cons_append, List.mem_cons, List.mem_append] at z
      rcases z with z | z | z
      · rw [← z] at hd
        simp at hd
      · exact h3 z
      · exact h4 z
theorem Dq.readsAll (I : Inv X pins σ H s) (hs : SysK X.K) : ∀ (ds : List PyData) (vs : List V) (us : List Value), DqAll X.K H vs ds → Vals vs us → ∃ as, ReadsAll s.heap us ds as ∧ sysModules ∉ as
  | [], _, _, h, r => by
    cases h
    cases r
    exact ⟨_, ReadsAll.nil, by simp⟩
  | d :: ds, _, _, h, r => by
    cases h with
    | cons h1 h2 =>
      cases r with
      | cons r1 r2 =>
        obtain ⟨as, a1, a2⟩ := Dq.reads I hs d _ _ h1 r1
        obtain ⟨bs, b1, b2⟩ := Dq.readsAll I hs ds _ _ h2 r2
        exact ⟨_, ReadsAll.cons a1 b1, fun z => (List.mem_append.mp z).elim a2 b2⟩
theorem Dq.readsKv (I : Inv X pins σ H s) (hs : SysK X.K) : ∀ (ds : List (PyData × PyData)) (ks : List (Key × V)) (vs : List (Key × Value)) (es : List DictEntry), DqKv X.K H ks ds → KV ks vs → Pairs (mixKind X.prog X.w) es vs →
    ∃ as bs, ReadsAll s.heap (es.map (·.key)) (ds.map (·.1)) as ∧ ReadsAll s.heap (es.map (·.val)) (ds.map (·.2)) bs ∧ sysModules ∉ as ∧ sysModules ∉ bs
  | [], _, _, _, h, r, q => by
    cases h
    cases r
    cases q
    exact ⟨_, _, ReadsAll.nil, ReadsAll.nil, by simp, by simp⟩
  | (kd, d) :: ds, _, _, _, h, r, q => by
    cases h with
    | @cons k v ks _ _ h1 h2 =>
      cases r with
      | cons r1 r2 =>
        cases q with
        | cons q1 q2 q3 =>
          obtain ⟨e1, e2⟩ := r1
          obtain ⟨as, bs, a1, a2, a3, a4⟩ := Dq.readsKv I hs ds _ _ _ h2 r2 q3
          obtain ⟨cs, c1, c2⟩ := Dq.reads I hs d _ _ h1 e2
          rw [← q2] at c1
          rw [← show k = _ from e1] at q1
          exact ⟨_, _, ReadsAll.cons (key_reads q1) a1, ReadsAll.cons c1 a2, fun z => (List.mem_append.mp z).elim (by simp) a3, fun z => (List.mem_append.mp z).elim c2 a4⟩
end
end
/-! ### how long a text can be -/
mutual
def szQ : PyData → Nat
  | .none => 4
  | .bool _ => 5
  | .int _ => 2000
  | .str x => 10 * x.length + 2
  | .list xs => szQs xs + 3
  | .tuple xs => szQs xs + 3
  | .dict kvs => szQk kvs + 3
def szQs : List PyData → Nat
  | [] => 0
  | x :: xs => szQ x + 2 + szQs xs
def szQk : List (PyData × PyData) → Nat
  | [] => 0
  | (k, v) :: r => szQ k + szQ v + 4 + szQk r
end
mutual
def okQ : PyData → Bool
  | .none => true
  | .bool _ => true
  | .int i => decide (i.natAbs.log2 < 1920)
  | .str x => x.cps.toList.all fun c => decide (c < 16 ^ 8)
  | .list xs => okQs xs
  | .tuple xs => okQs xs
  | .dict kvs => okQk kvs
def okQs : List PyData → Bool
  | [] => true
  | x :: xs => okQ x && okQs xs
def okQk : List (PyData × PyData) → Bool
  | [] => true
  | (k, v) :: r => okQ k && okQ v && okQk r
end
mutual
theorem shownQ_le : ∀ p : PyData, okQ p = true → p.shown.length ≤ szQ p ∧ p.showable = true
  | .none, _ => ⟨by simp only [PyData.shown, szQ]; decide, by simp [PyData.showable]⟩
  | .bool b, _ => ⟨by simp only [PyData.shown, szQ]; cases b <;> decide, by simp [PyData.showable]⟩
  | .int i, h => by
    have h : i.natAbs.log2 < 1920 := by simpa [okQ] using h
    refine ⟨?_, by simpa [PyData.showable] using h⟩
    simp only [PyData.shown, szQ]
    have e := int_text_length_le (k := 1920) (by decide) h
    show (Str.ofString (toString i)).length ≤ 2000
    rw [PySem.ofString_length]
    omega
  | .str x, h => by
    refine ⟨?_, by simp [PyData.showable]⟩
    simp only [PyData.shown, szQ]
    refine PySem.StrLaws.reprText_len x fun c hc => ?_
    have h : (x.cps.toList.all fun c => decide (c < 16 ^ 8)) = true := by simpa only [okQ] using h
    exact of_decide_eq_true (List.all_eq_true.mp h c hc)
  | .list xs, h => by
    obtain ⟨h1, h2⟩ := shownQs_le xs (by simpa only [okQ] using h)
    refine ⟨?_, by simpa only [PyData.showable] using h2⟩
    have h3 := listText_len_le (PyData.shownAll xs)
    have h4 := PyData.shownAll_length xs
    simp only [PyData.shown, szQ]
    omega
  | .tuple xs, h => by
    obtain ⟨h1, h2⟩ := shownQs_le xs (by simpa only [okQ] using h)
    refine ⟨?_, by simpa only [PyData.showable] using h2⟩
    have h3 := tupleText_len_le (PyData.shownAll xs)
    have h4 := PyData.shownAll_length xs
    simp only [PyData.shown, szQ]
    omega
  | .dict kvs, h => by
    obtain ⟨h1, h2⟩ := shownQk_le kvs (by simpa only [okQ] using h)
    refine ⟨?_, by simpa only [PyData.showable] using h2⟩
    have h3 := dictText_len_le (PyData.shownKv kvs)
    have h4 := PyData.shownKv_length kvs
    simp only [PyData.shown, szQ]
    omega
theorem shownQs_le : ∀ ps : List PyData, okQs ps = true → ((PyData.shownAll ps).map (·.length)).sum + 2 * ps.length ≤ szQs ps ∧ PyData.showableAll ps = true
  | [], _ => ⟨by simp [PyData.shownAll, szQs], by simp [PyData.showableAll]⟩
  | p :: ps, h => by
    have h : okQ p = true ∧ okQs ps = true := by simpa only [okQs, Bool.and_eq_true] using h
    obtain ⟨a1, a2⟩ := shownQ_le p h.1
    obtain ⟨b1, b2⟩ := shownQs_le ps h.2
    refine ⟨?_, by simp only [PyData.showableAll, a2, b2]; rfl⟩
    simp only [PyData.shownAll, szQs, List.map_cons, List.sum_cons, List.length_cons]
    omega
theorem shownQk_le : ∀ ps : List (PyData × PyData), okQk ps = true → ((PyData.shownKv ps).map (·.length)).sum + 2 * ps.length ≤ szQk ps ∧ PyData.showableKv ps = true
  | [], _ => ⟨by simp [PyData.shownKv, szQk], by simp [PyData.showableKv]⟩
  | (k, v) :: ps, h => by
    have h : (okQ k = true ∧ okQ v = true) ∧ okQk ps = true := by simpa only [okQk, Bool.and_eq_true] using h
    obtain ⟨a1, a2⟩ := shownQ_le k h.1.1
    obtain ⟨c1, c2⟩ := shownQ_le v h.1.2
    obtain ⟨b1, b2⟩ := shownQk_le ps h.2
    refine ⟨?_, by simp only [PyData.showableKv, a2, b2, c2]; rfl⟩
    have e : (PyData.shown k ++ ": " ++ PyData.shown v).length = (PyData.shown k).length + 2 + (PyData.shown v).length := by
      rw [strLen_append, strLen_append]; rfl
    simp only [PyData.shownKv, szQk, List.map_cons, List.sum_cons, List.length_cons, e]
    omega
end
def reprOkQ (p : PyData) : Bool := okQ p && decide (szQ p ≤ 10000000) && decide (p.depth ≤ 58)
def rReprQ (K : PySem.W.Frag) : List V → Hp → VK → Prop := fun vs H Q => ∃ x p, vs = [x] ∧ Dq K H x p ∧ reprOkQ p = true ∧ Q (.str p.shown) H
theorem call_reprQ {X : Cx} (hs : SysK X.K) (hg : X.A.guards = some []) (hu : X.A.units + 60 < cLine) : CallR X (.builtin "repr") (rReprQ X.K) := by
  intro pins s σ H vs us Q I r h
  obtain ⟨x, p, rfl, dp, ok, q⟩ := h
  obtain ⟨u, rfl, ru⟩ := Vals.one r
  obtain ⟨as, rd, nm⟩ := Dq.reads I hs p x u dp ru
  unfold reprOkQ at ok
  rw [Bool.and_eq_true, Bool.and_eq_true, decide_eq_true_eq, decide_eq_true_eq] at ok
  obtain ⟨⟨o1, o2⟩, o3⟩ := ok
  obtain ⟨l, sh⟩ := shownQ_le p o1
  have hsz : p.shown.length ≤ sizeLine := by rw [sizeLine_eq]; omega
  cases dp with
  | non => cases ru; simp only [PyData.shown] at q; exact PySem.P.repr_of_none ⟨.str _, H, I.tok _, ⟨_, rfl⟩, q⟩
  | bl b => cases ru; simp only [PyData.shown] at q; exact PySem.P.repr_of_bool ⟨.str _, H, I.tok _, ⟨_, rfl⟩, q⟩
  | int i => obtain ⟨t, rfl⟩ := ru; simp only [PyData.shown] at q; exact PySem.P.repr_of_int (by simpa [PyData.showable] using sh) ⟨.str _, H, I.tok _, ⟨_, rfl⟩, q⟩
  | str y => obtain ⟨t, rfl⟩ := ru; simp only [PyData.shown] at q hsz; exact PySem.P.repr_of_str ⟨.str _, H, I.tok _, ⟨_, rfl⟩, q⟩ hsz
  | lst h1 h2 => cases ru; exact PySem.repr_of_reads' rd sh (fun _ => nm) hg (by omega) (fun _ _ e => e) (fun h' t tk hk => ⟨.str _, H, I.kept hk, ⟨_, rfl⟩, q⟩) hsz
  | tup h1 h2 => cases ru; exact PySem.repr_of_reads' rd sh (fun _ => nm) hg (by omega) (fun _ _ e => e) (fun h' t tk hk => ⟨.str _, H, I.kept hk, ⟨_, rfl⟩, q⟩) hsz
  | dic h1 h2 => cases ru; exact PySem.repr_of_reads' rd sh (fun _ => nm) hg (by omega) (fun _ _ e => e) (fun h' t tk hk => ⟨.str _, H, I.kept hk, ⟨_, rfl⟩, q⟩) hsz
end PL
set_option Elab.async false
set_option linter.all false
set_option maxRecDepth 100000
set_option maxHeartbeats 1000000
set_option autoImplicit false
/-! PL94: repr with dicts, as denotations; the head's look at sysModules. -/
namespace PL
open PySem PySem.Spec PyProof.Rows L2
def keyQ : D → Option PyData
  | .int i => some (.int i)
  | .str x => some (.str x)
  | _ => none
mutual
def toPQ : D → Option PyData
  | .non => some .none
  | .bl b => some (.bool b)
  | .int i => some (.int i)
  | .str x => some (.str x)
  | .tup _ xs => (toPQL xs).map .tuple
  | .lst xs => (toPQL xs).map .list
  | .rol xs => (toPQL xs).map .list
  | .dic kvs => (toPQK kvs).map .dict
  | _ => none
def toPQL : List D → Option (List PyData)
  | [] => some []
  | d :: ds => match toPQ d, toPQL ds with
    | some p, some ps => some (p :: ps)
    | _, _ => none
def toPQK : List (D × D) → Option (List (PyData × PyData))
  | [] => some []
  | (k, d) :: ds => match keyQ k, toPQ d, toPQK ds with
    | some q, some p, some ps => some ((q, p) :: ps)
    | _, _, _ => none
end
section
variable {K : PySem.W.Frag} {mg : Str → Option Value} {Z : Zs} {H : Hp}
mutual
theorem RepP.dq : ∀ {d : D} {v : V} {t : Bool} {p : PyData}, RepP K mg Z H t d v → toPQ d = some p → Dq K H v p
  | .non, _, _, _, h, e => by cases h; cases e; exact .non
  | .bl b, _, _, _, h, e => by cases h; cases e; exact .bl b
  | .int i, _, _, _, h, e => by cases h; cases e; exact .int i
  | .str x, _, _, _, h, e => by cases h; cases e; exact .str x
  | .tup _ xs, _, _, _, h, e => by
    obtain ⟨a, vs, rfl, hs, r⟩ := pk_tup h
    rw [toPQ, Option.map_eq_some_iff] at e
    obtain ⟨ps, e, rfl⟩ := e
    exact .tup hs (RepL.dq r e)
  | .lst xs, _, _, _, h, e => by
    obtain ⟨a, vs, rfl, hs, r⟩ := pk_lst h
    rw [toPQ, Option.map_eq_some_iff] at e
    obtain ⟨ps, e, rfl⟩ := e
    exact .lst (SqL.of hs) (RepL.dq r e)
  | .rol xs, _, _, _, h, e => by
    obtain ⟨a, vs, rfl, hs, r⟩ := pk_rol h
    rw [toPQ, Option.map_eq_some_iff] at e
    obtain ⟨ps, e, rfl⟩ := e
    exact .lst hs (RepL.dq r e)
  | .dic kvs, _, _, _, h, e => by
    obtain ⟨a, ks, rfl, ha, r⟩ := pk_dic h
    rw [toPQ, Option.map_eq_some_iff] at e
    obtain ⟨ps, e, rfl⟩ := e
    exact .dic ha (RepK.dq r e)
  | .dct _, _, _, _, _, e => by cases e
  | .ins _ _, _, _, _, _, e => by cases e
  | .glb _, _, _, _, _, e => by cases e
  | .ty _, _, _, _, _, e => by cases e
theorem RepL.dq : ∀ {ds : List D} {vs : List V} {ps : List PyData}, RepL K mg Z H ds vs → toPQL ds = some ps → DqAll K H vs ps
  | [], _, _, h, e => by cases h; cases e; exact .nil
  | d :: ds, _, _, h, e => by
    cases h with
    | cons h t =>
      rw [toPQL] at e
      split at e
      · rename_i p ps e1 e2
        cases e
        exact .cons (RepP.dq h e1) (RepL.dq t e2)
      · cases e
theorem RepK.dq : ∀ {ds : List (D × D)} {ks : List (Key × V)} {ps : List (PyData × PyData)}, RepK K mg Z H ds ks → toPQK ds = some ps → DqKv K H ks ps
  | [], _, _, h, e => by cases h; cases e; exact .nil
  | (kd, d) :: ds, _, _, h, e => by
    cases h with
    | @cons k _ _ _ _ h t =>
      rw [toPQK] at e
      split at e
      · rename_i q p ps e0 e1 e2
        cases e
        have : q = keyPD k := by
          cases k <;> (cases e0; rfl)
        subst this
        exact .cons (RepP.dq h e1) (RepK.dq t e2)
      · cases e
end
end
/-- the text of a thing of data -/
def dTextQ (d : D) : Option Str := (toPQ d).bind fun p => if reprOkQ p = true then some p.shown else none
def mReprQ1 (o : Opd) : M (Bool × D) := (peekO o).bind fun d => (M.lift (dTextQ d)).bind fun x => M.pure (false, .str x)
def mReprQV (neg : Bool) (o1 o2 : Opd) : M (Bool × D) := (peekO o1).bind fun d1 => (M.lift (dTextQ d1)).bind fun x => (peekO o2).bind fun d2 => if isText x d2 = true then M.pure (false, .bl (!neg)) else M.stop
section
variable {K : PySem.W.Frag} {mg : Str → Option Value} {W : WX} {Z : Zs} {H : Hp} {σ : L2.St}
theorem dTextQ_of {d : D} {x : Str} {v : V} {t : Bool} {Q : VK} (r : RepP K mg Z H t d v) (e : dTextQ d = some x) (q : Q (.str x) H) : rReprQ K [v] H Q := by
  unfold dTextQ at e
  obtain ⟨p, ep, e⟩ := Option.bind_eq_some_iff.mp e
  split at e
  · rename_i ok
    cases e
    exact ⟨v, p, rfl, RepP.dq r ep, ok, q⟩
  · cases e
theorem reprQ1_sound {o : Opd} {Q : VK} (h : tD K mg W (mReprQ1 o) σ H Q) : tCB (rReprQ K) (argT K mg W [o]) σ H Q := by
  obtain ⟨Z₀, st, S, h⟩ := h
  rw [mReprQ1, post_bind] at h
  refine peekO_sound ⟨Z₀, st, S, h.mono (fun d1 st1 h v H1 g1 S1 pk => ?_) fun _ _ _ h => h⟩
  rw [post_bind, post_lift] at h
  obtain ⟨x, ep, h⟩ := h
  exact dTextQ_of pk ep (h _ H1 g1 (.old S1 (.str _)))
theorem reprQV_sound {neg : Bool} {o1 o2 : Opd} {r : R2} (hr : ∀ i H Q, Q (.bl (!neg)) H → r (.str i) (.str i) H Q) {Q : VK} (h : tD K mg W (mReprQV neg o1 o2) σ H Q) :
    tOp r (tCB (rReprQ K) (argT K mg W [o1])) (opdT K mg W o2) σ H Q := by
  obtain ⟨Z₀, st, S, h⟩ := h
  rw [mReprQV, post_bind] at h
  refine peekO_sound ⟨Z₀, st, S, h.mono (fun d1 st1 h v H1 g1 S1 pk => ?_) fun _ _ _ h => h⟩
  rw [post_bind, post_lift] at h
  obtain ⟨x, ep, h⟩ := h
  show rReprQ K [v] H1 (fun x H1 => opdT K mg W o2 σ H1 fun y H2 => r x y H2 Q)
  refine dTextQ_of pk ep ?_
  rw [post_bind] at h
  refine peekO_sound ⟨Z₀, st1, S1, h.mono (fun d2 st2 hq w H2 g2 S2 pk2 => ?_) fun _ _ _ h => XEnd.from h g1⟩
  split at hq
  · rename_i e
    unfold isText at e
    split at e
    · rename_i y
      have e := of_decide_eq_true e
      subst e
      cases pk2
      exact hr _ _ _ (hq _ H2 (g1.trans g2) (.old S2 (.bl _)))
    · cases e
  · exact hq.elim
variable {o o1 o2 : Opd} {st : DSt} {k : Bool × D → DSt → Prop} {x : Str → List (Str × D) → DSt → Prop} {neg : Bool}
theorem post_reprQ1 : (mReprQ1 o st).post k x ↔ (peekO o st).post (fun d st1 => ∃ p, dTextQ d = some p ∧ k (false, .str p) st1) x := by
  simp only [mReprQ1, post_bind, post_lift, post_pure]
theorem post_reprQV : (mReprQV neg o1 o2 st).post k x ↔ (peekO o1 st).post (fun d1 st1 => ∃ p, dTextQ d1 = some p ∧ (peekO o2 st1).post (fun d2 st2 => if isText p d2 = true then k (false, .bl (!neg)) st2 else False) x) x := by
  simp only [mReprQV, post_bind, post_lift, post_ite, post_pure, post_stop]
end
section
variable {X : Cx} {W : WX} {e a b : Expr} {o o1 o2 : Opd} {p pos p1 q1 : Pos}
theorem pe_textQ {o : Opd} {e : Expr} {p pos : Pos} (hs : SysK X.K) (hgd : X.A.guards = some []) (hu : X.A.units + 60 < cLine) (hg : Gl X "repr") (hm : X.mg "repr" = none) (h : Po X W e o) (he : starEach [e] X.env = (false, eval e X.env) :: starEach [] X.env) :
    PE X (.Call (.Name "repr" p) [e] [] pos) (tCB (rReprQ X.K) (argT X.K X.mg W [o])) := pe_callB (call_reprQ hs hgd hu) hg hm (by with_unfolding_all rfl) (Pas.cons h Pas.nil he) (by decide) (by decide) he
theorem Pe.reprQ1 (hs : SysK X.K) (hgd : X.A.guards = some []) (hu : X.A.units + 60 < cLine) (hg : Gl X "repr") (hm : X.mg "repr" = none) (h : Po X W e o) (he : starEach [e] X.env = (false, eval e X.env) :: starEach [] X.env := by rfl) :
    Pe X W (.Call (.Name "repr" p) [e] [] pos) (mReprQ1 o) := pe_imp (pe_textQ hs hgd hu hg hm h he) fun σ H Q h => reprQ1_sound h
theorem Pe.reprQNeV (hs : SysK X.K) (hgd : X.A.guards = some []) (hu : X.A.units + 60 < cLine) (hg : Gl X "repr") (hm : X.mg "repr" = none) (h1 : Po X W a o1) (h2 : Po X W b o2) (e1 : starEach [a] X.env = (false, eval a X.env) :: starEach [] X.env := by rfl) :
    Pe X W (.Compare (.Call (.Name "repr" p1) [a] [] q1) [.NotEq] [b] pos) (mReprQV true o1 o2) :=
  pe_imp (pe_cmpR (op_ne) (pe_textQ hs hgd hu hg hm h1 e1) h2 (nomark _)) fun σ H Q h => reprQV_sound (fun i H Q q => ne_str q) h
theorem Pt.reprQNeV (hs : SysK X.K) (hgd : X.A.guards = some []) (hu : X.A.units + 60 < cLine) (hg : Gl X "repr") (hm : X.mg "repr" = none) (h1 : Po X W a o1) (h2 : Po X W b o2) (e1 : starEach [a] X.env = (false, eval a X.env) :: starEach [] X.env := by rfl) :
    Pt X W (.Compare (.Call (.Name "repr" p1) [a] [] q1) [.NotEq] [b] pos) (mT (mReprQV true o1 o2)) :=
  pt_imp (pt_cmpR (op_ne) (pe_textQ hs hgd hu hg hm h1 e1) h2 (nomark _)) fun σ H Q h => mT_sound (fun σ H Q h => reprQV_sound (fun i H Q q => ne_str q) h) h
end
/-! ### what repr shows -/
def ShQ (d : D) (z h : Nat) : Prop := ∃ p, toPQ d = some p ∧ okQ p = true ∧ szQ p ≤ z ∧ p.depth ≤ h
theorem ShQ.mono {d : D} {z h z' h' : Nat} (s : ShQ d z h) (hz : z ≤ z') (hh : h ≤ h') : ShQ d z' h' := by
  obtain ⟨p, p1, p2, p3, p4⟩ := s
  exact ⟨p, p1, p2, by omega, by omega⟩
theorem ShQ.text {d : D} {z h : Nat} (s : ShQ d z h) (hz : z ≤ 10000000) (hh : h ≤ 58) : ∃ x, dTextQ d = some x := by
  obtain ⟨p, p1, p2, p3, p4⟩ := s
  refine ⟨p.shown, ?_⟩
  unfold dTextQ reprOkQ
  rw [p1, Option.bind_some, p2, decide_eq_true (show szQ p ≤ 10000000 by omega), decide_eq_true (show p.depth ≤ 58 by omega)]
  rfl
theorem ShQ.items {z h : Nat} : ∀ (ds : List D), (∀ d ∈ ds, ShQ d z h) → ∃ ps, toPQL ds = some ps ∧ okQs ps = true ∧ szQs ps ≤ ds.length * (z + 2) ∧ PyData.depthAll ps ≤ h
  | [], _ => ⟨[], by rw [toPQL], by rw [okQs], by simp [szQs], by simp [PyData.depthAll]⟩
  | d :: ds, hd => by
    obtain ⟨p, p1, p2, p3, p4⟩ := hd d (by simp)
    obtain ⟨ps, q1, q2, q3, q4⟩ := ShQ.items ds fun d h => hd d (by simp [h])
    refine ⟨p :: ps, by rw [toPQL, p1, q1], by rw [okQs, p2, q2]; rfl, ?_, ?_⟩
    · rw [szQs, List.length_cons, Nat.add_mul, Nat.one_mul]; omega
    · rw [PyData.depthAll]; exact Nat.max_le.mpr ⟨p4, q4⟩
theorem ShQ.tup {z h : Nat} (nd : Bool) {ds : List D} (hd : ∀ d ∈ ds, ShQ d z h) : ShQ (.tup nd ds) (ds.length * (z + 2) + 3) (h + 1) := by
  obtain ⟨ps, q1, q2, q3, q4⟩ := ShQ.items ds hd
  exact ⟨.tuple ps, by rw [toPQ, q1]; rfl, by rw [okQ, q2], by rw [szQ]; omega, by rw [PyData.depth]; omega⟩
theorem ShQ.lst {z h : Nat} {ds : List D} (hd : ∀ d ∈ ds, ShQ d z h) : ShQ (.lst ds) (ds.length * (z + 2) + 3) (h + 1) := by
  obtain ⟨ps, q1, q2, q3, q4⟩ := ShQ.items ds hd
  exact ⟨.list ps, by rw [toPQ, q1]; rfl, by rw [okQ, q2], by rw [szQ]; omega, by rw [PyData.depth]; omega⟩
theorem ShQ.int (i : Int) (hlog : i.natAbs.log2 < 1920) : ShQ (.int i) 2000 0 :=
  ⟨.int i, by rw [toPQ], by simp only [okQ, decide_eq_true hlog], by rw [szQ]; omega, by rw [PyData.depth]; omega⟩
theorem log_small {i : Int} (hi : i.natAbs ≤ 2 ^ 60) : i.natAbs.log2 < 1920 := by
  by_cases h0 : i.natAbs = 0
  · rw [h0]; decide
  · exact Nat.lt_of_lt_of_le ((Nat.log2_lt h0).mpr (Nat.lt_of_le_of_lt hi (by decide : 2 ^ 60 < 2 ^ 61))) (by decide)
theorem ShQ.bl (b : Bool) : ShQ (.bl b) 5 0 := ⟨.bool b, by rw [toPQ], by rw [okQ], by rw [szQ]; omega, by rw [PyData.depth]; omega⟩
theorem ShQ.non : ShQ .non 4 0 := ⟨.none, by rw [toPQ], by rw [okQ], by rw [szQ]; omega, by rw [PyData.depth]; omega⟩
theorem ShQ.dic0 : ShQ (.dic []) 3 1 := ⟨.dict [], by simp [toPQ, toPQK], by simp [okQ, okQk], by simp [szQ, szQk], by simp [PyData.depth, PyData.depthKv]⟩
theorem ShQ.str {s : Str} (h1 : (s.cps.toList.all fun c => decide (c < 16 ^ 8)) = true) : ShQ (.str s) (10 * s.length + 2) 0 := ⟨.str s, by rw [toPQ], by rw [okQ]; exact h1, by rw [szQ]; omega, by rw [PyData.depth]; omega⟩
/-! ### a Hook that also looks at sysModules -/
abbrev frS (g : Addr → Option Obj) (n : Nat) : PySem.W.Frag := He.frT g (sysModules :: He.asD g n)
def obsS (n : Nat) (fa : List He.Fa) (fn : List He.DefD) (fx : List (PySem.W.Frag → Bool)) (g : Addr → Option Obj) : AlQ := (obsP fa fn fx (frS g n), tabsQ g (frS g n))
theorem saysS_of {n : Nat} {fa : List He.Fa} {fn : List He.DefD} {fx : List (PySem.W.Frag → Bool)} {h : Heap} (e : obsS n fa fn fx h.get? = (valP fn, true)) : SaysQ fa fn fx h (frS h.get? n) := by
  have e1 : obsP fa fn fx (frS h.get? n) = valP fn := congrArg (fun z : AlQ => z.1) e
  have e2 : tabsQ h.get? (frS h.get? n) = true := congrArg (fun z : AlQ => z.2) e
  unfold tabsQ at e2
  rw [Bool.and_eq_true] at e2
  have key : ∀ p ∈ lamTabs (frS h.get? n), PySem.W.codeHdIn (frS h.get? n) p.1 p.2.1 = true ∧ ∃ o, h.get? p.2.1 = some o ∧ He.emptyTab o = true := fun p hp => by
    have z := List.all_eq_true.mp e2.1 p hp
    rw [Bool.and_eq_true] at z
    refine ⟨z.1, ?_⟩
    have z2 := z.2
    cases q : h.get? p.2.1 with
    | none => rw [q] at z2; cases z2
    | some o => rw [q] at z2; exact ⟨o, rfl, z2⟩
  refine ⟨e1, fun p hp => ?_, fun p hp => ?_, fun p hp => PySem.W.codeHd_of_K He.frT_in (key p hp).1, fun p hp q hq hpq => ?_⟩
  · obtain ⟨_, o, q, z⟩ := key p hp
    rw [q, He.emptyTab_eq z]
  · obtain ⟨_, o, q, z⟩ := key p hp
    exact He.frT_none q z
  · have z := List.all_eq_true.mp (List.all_eq_true.mp e2.2 p hp) q hq
    rw [Bool.or_eq_true, Bool.not_eq_true'] at z
    rcases z with z | z
    · exact absurd hpq (of_decide_eq_false z)
    · exact of_decide_eq_true z
def hookS (n : Nat) (fa : List He.Fa) (fn : List He.DefD) (fx : List (PySem.W.Frag → Bool)) : PySem.W.Hook where
  α := AlQ
  obs := fun s => obsS n fa fn fx s.heap.get?
  val := fun _ => (valP fn, true)
  says := fun _ h => ∃ K : PySem.W.Frag, K.In h ∧ SaysQ fa fn fx h K
  of := fun _ _ e => ⟨_, He.frT_in, saysS_of e⟩
  keeps := fun _ _ _ ⟨K, hK, c⟩ k => ⟨K, PySem.W.Frag.In.keeps hK k, c.1, c.2.keeps (PySem.W.Frag.In.keeps hK k) k⟩
theorem obsS_eq {n : Nat} {fa : List He.Fa} {fn : List He.DefD} {fx : List (PySem.W.Frag → Bool)} {g : Addr → Option Obj} {s : Shared} (h : ∀ a, g a = s.heap.get? a) : obsS n fa fn fx g = (hookS n fa fn fx).obs s := by
  have e : g = s.heap.get? := funext h
  subst e
  rfl
end PL
set_option Elab.async false
set_option linter.all false
set_option maxRecDepth 100000
set_option maxHeartbeats 1000000
set_option autoImplicit false
/-! LE12: words of two letters: a sign in a text, a text so many times, letters behind a place. -/
namespace PL
open PySem PySem.Spec PyProof.Rows L2
theorem occ_some (x : Str) (c : Nat) : ∀ (m i : Nat) (st : Array Nat × Nat), i + m = x.length + 1 → st.2 ≤ i → st.1.size = 0 →
    ((forIn (List.range' i m) st (StrLaws.occBody x ⟨#[c]⟩ x.length 1)).run.1.size = 0 ↔ (x.cps.toList.drop i).count c = 0)
  | 0, i, st, h, _, h1 => by
    have e : x.cps.toList.drop i = [] := List.drop_eq_nil_of_le (by
      have : x.cps.toList.length = x.length := by simp [Str.length]
      omega)
    rw [e]
    simp [h1]
  | m + 1, i, st, h, h1, h2 => by
    have hx : x.cps.toList.length = x.length := by simp [Str.length]
    rw [List.range'_succ, List.forIn_cons]
    have one := StrLaws.subAt_one x c i
    unfold StrLaws.occBody
    by_cases q : x.cps.toList[i]? = some c
    · have h3 := one.mpr q
      have hi : i < x.cps.toList.length := (List.getElem?_eq_some_iff.mp q).1
      rw [if_pos ⟨⟨⟨by omega, h1⟩, h3.1⟩, h3.2⟩]
      have key : ∀ (l : List Nat) (st : Array Nat × Nat), st.1.size = 1 → (forIn l st (StrLaws.occBody x ⟨#[c]⟩ x.length 1)).run.1.size = 1 := by
        intro l
        induction l with
        | nil => intro st h; exact h
        | cons a l ih =>
          intro st h
          rw [List.forIn_cons]
          unfold StrLaws.occBody
          rw [if_neg (fun z => by have := z.1.1.1; omega)]
          exact ih _ h
      have : (x.cps.toList.drop i).count c ≠ 0 := by
        rw [List.drop_eq_getElem_cons hi, (List.getElem?_eq_some_iff.mp q).2, List.count_cons_self]
        omega
      refine ⟨fun z => ?_, fun z => absurd z this⟩
      have k := key (List.range' (i + 1) m) (st.1.push i, i + (⟨#[c]⟩ : Str).length) (by simp [h2])
      have z : (forIn (List.range' (i + 1) m) (st.1.push i, i + (⟨#[c]⟩ : Str).length) (StrLaws.occBody x ⟨#[c]⟩ x.length 1)).run.1.size = 0 := z
      omega
    · rw [if_neg (fun z => q (one.mp ⟨z.1.2, z.2⟩))]
      have ih := occ_some x c m (i + 1) (st.1, st.2) (by omega) (by simp; omega) h2
      refine Iff.trans ih ?_
      by_cases hi : i < x.cps.toList.length
      · rw [List.drop_eq_getElem_cons hi, List.count_cons]
        have e : (x.cps.toList[i] == c) = false := by
          rw [beq_eq_false_iff_ne]
          intro z
          exact q (by rw [List.getElem?_eq_getElem hi, z])
        rw [e]
        simp
      · rw [List.drop_eq_nil_of_le (by omega), List.drop_eq_nil_of_le (by omega)]
theorem inZ_one (w : List Nat) (c : Nat) : dInZ false [.str (SL [c]), .str (SL w)] = some (false, .bl (decide (c ∈ w))) := by
  have e : (SL [c]) = ⟨#[c]⟩ := rfl
  have key : (!(Builtin.Str.occurrences (SL w) (SL [c]) 0 (SL w).length 1).isEmpty) = decide (c ∈ w) := by
    rw [e, StrLaws.occ_eq]
    have := occ_some (SL w) c ((SL w).length + 1) 0 (#[], 0) (by omega) (by omega) (by simp)
    rw [List.drop_zero, SL_cps] at this
    rw [Bool.eq_iff_iff, decide_eq_true_eq, Bool.not_eq_true', ← Bool.not_eq_true, List.isEmpty_iff, ← List.count_pos_iff]
    rw [show (SL w).length + 1 - 0 = (SL w).length + 1 by omega]
    constructor
    · intro h
      by_cases z : w.count c = 0
      · refine absurd ?_ h
        have := this.mpr z
        exact List.eq_nil_of_length_eq_zero (by rw [Array.length_toList]; exact this)
      · omega
    · intro h z
      have : w.count c = 0 := this.mp (by rw [← Array.length_toList, z]; rfl)
      omega
  show fl (.bl (!(Builtin.Str.occurrences (SL w) (SL [c]) 0 (SL w).length 1).isEmpty)) = _
  rw [key]
  rfl
theorem s_ab : ("ab" : Str) = SL [97, 98] := by decide +kernel
theorem items_str (w : List Nat) : itemsOf (.str (SL w)) = some (w.map fun c => D.str (SL [c])) := by
  show some ((SL w).cps.toList.map fun c => D.str ⟨#[c]⟩) = _
  rw [SL_cps]
  rfl
theorem mulX_str (w : List Nat) (k : Nat) (h : w.length ≤ 16) (hk : k ≤ 1000) : dMulX [.str (SL w), .int (k : Int)] = some (false, .str (SL (List.replicate k w).flatten)) := by
  have key : ∀ (n : Nat) (a : Array Nat), (List.replicate n (SL w).cps).foldl (· ++ ·) a = a ++ (List.replicate n w).flatten.toArray := by
    intro n
    induction n with
    | zero => intro a; simp
    | succ n ih =>
      intro a
      rw [List.replicate_succ, List.foldl_cons, ih, List.replicate_succ, List.flatten_cons]
      apply Array.ext'
      simp [SL]
  have e : Txt.mul (SL w) (k : Int) = SL (List.replicate k w).flatten := by
    unfold Txt.mul
    by_cases h1 : ((k : Nat) : Int) < 1
    · have : k = 0 := by omega
      subst this
      rw [if_pos h1]
      simp [SL, Str.empty]
    · rw [if_neg h1]
      by_cases h2 : k = 1
      · subst h2
        simp [SL]
      · cases w with
        | nil =>
          rw [if_pos (by rw [SL_len]; simp)]
          have : (List.replicate k ([] : List Nat)).flatten = [] := by simp
          rw [this]
        | cons a w =>
          have e : (((k : Nat) : Int) == 1 || (SL (a :: w)).length == 0) = false := by
            rw [SL_len, List.length_cons]
            have : (((k : Nat) : Int) == 1) = false := by
              rw [beq_eq_false_iff_ne]; omega
            rw [this]
            rfl
          rw [e, if_neg (by simp), Int.toNat_natCast, key]
          simp [SL]
  show (if (SL w).length ≤ 16 ∧ -(2 ^ 63) ≤ (k : Int) ∧ (k : Int) ≤ 1048576 then fl (.str (Txt.mul (SL w) (k : Int))) else none) = _
  rw [if_pos ⟨by rw [SL_len]; exact h, by omega, by omega⟩, e]
  rfl
/-- a word of the two letters, both in it -/
structure TwoW (w : List Nat) : Prop where
  two : ∀ c ∈ w, c = 97 ∨ c = 98
  a : 97 ∈ w
  b : 98 ∈ w
  l60 : w.length ≤ 60
theorem TwoW.pos {w : List Nat} (h : TwoW w) : 1 ≤ w.length := List.length_pos_of_mem h.a
theorem TwoW.count {w : List Nat} (h : TwoW w) : w.count 97 + w.count 98 = w.length := by
  have key : ∀ w : List Nat, (∀ c ∈ w, c = 97 ∨ c = 98) → w.count 97 + w.count 98 = w.length := by
    intro w
    induction w with
    | nil => intro _; rfl
    | cons c w ih =>
      intro h
      have := ih fun d hd => h d (by simp [hd])
      rcases h c (by simp) with rfl | rfl
      · rw [List.count_cons_self, List.count_cons_of_ne (by decide), List.length_cons]; omega
      · rw [List.count_cons_self, List.count_cons_of_ne (by decide), List.length_cons]; omega
  exact key w h.two
def S_is_word : MS := (seqS (retS (mAndV (mOps [(.nm 0)] (dIsA .str)) (mAndV (mChain (fun i j => decide (i ≤ j)) (fun i j => decide (i ≤ j)) (.ex (mC (.int 1))) (.ex (mOps [(.nm 0)] dLen)) (.ex (mC (.int 60)))) (mOps [(.ex (mLc (mItems (mName 0)) [1] (.nm 1) (M.pure true) (mOps [(.nm 1), (.ex (mC (.str "abcdef")))] (dInZ false))))] dAll))))
  nextS)
def IsWordTwo (f : FDen) : Prop := ∀ w, TwoW w → f [.str (SL w)] = .ok false (.bl true) none
theorem isWordTwo : IsWordTwo (fden false 1 2 S_is_word) := by
  intro w h
  have h1 := h.pos
  have h6 := h.l60
  have el := len_str w (by omega)
  have es : dIsA .str [.str (SL w)] = some (false, .bl true) := rfl
  have ei := items_str w
  refine run_def2 (dd := fden false 1 2 S_is_word) (np := 1) (n := 2) (mb := S_is_word) rfl _ _ _ (Eq.refl 1) ⟨?_⟩
  have d1 : decide ((1 : Int) ≤ (w.length : Int)) = true := decide_eq_true (by omega)
  have d2 : decide ((w.length : Int) ≤ 60) = true := decide_eq_true (by omega)
  simp_arith [S_is_word, es, el, d1, d2, post_lc, ei, List.length_map]
  refine ⟨sizeLine_60 (by omega), rfl, ?_⟩
  refine lc_over (fun c => D.str (SL [c])) (fun c => .bl (decide (c ∈ [97, 98, 99, 100, 101, 102]))) (fun c hc => ?_) ?_
  · refine ⟨_, rfl, rfl, rfl, ?_⟩
    simp_arith [wipeD, s_abc, inZ_one]
  · have := dAll_map (fun c => decide (c ∈ [97, 98, 99, 100, 101, 102])) w
    have ha : (w.all fun c => decide (c ∈ [97, 98, 99, 100, 101, 102])) = true := List.all_eq_true.mpr fun c hc => by
      rcases h.two c hc with rfl | rfl <;> decide
    simp_arith [putBack, wipeD, this, ha]
def S_is_two_word (is_word' : FDen) : MS := (seqS (retS (mAndV (mCall is_word' [(mName 0)]) (mAndV (mOps [(.ex (mC (.str "a"))), (.nm 0)] (dInZ false)) (mAndV (mOps [(.ex (mC (.str "b"))), (.nm 0)] (dInZ false)) (mOps [(.ex (mOps [(.ex (mMethS dSCount (.nm 0) (.ex (mC (.str "a"))))), (.ex (mMethS dSCount (.nm 0) (.ex (mC (.str "b")))))] dAddN)), (.ex (mOps [(.nm 0)] dLen))] dEqF)))))
  nextS)
def IsTwoWord (f : FDen) : Prop := ∀ w, TwoW w → f [.str (SL w)] = .ok false (.bl true) none
theorem isTwoWord {f : FDen} (hf : IsWordTwo f) : IsTwoWord (fden false 1 1 (S_is_two_word f)) := by
  intro w h
  have h6 := h.l60
  have el := len_str w (by omega)
  have ew := hf w h
  have e := h.count
  have q : ((((w.count 97 : Nat) : Int) + ((w.count 98 : Nat) : Int)) == (w.length : Int)) = true := by rw [beq_iff_eq]; omega
  refine run_def2 (dd := fden false 1 1 (S_is_two_word f)) (np := 1) (n := 1) (mb := S_is_two_word f) rfl _ _ _ (Eq.refl 1) ⟨?_⟩
  simp_arith [S_is_two_word, ew, s_a, s_b, inZ_one, decide_eq_true h.a, decide_eq_true h.b, methS_n, methS_e, isS_str, scount_one, el, q]
def S_check_two_word (is_two_word' : FDen) : MS := (seqS (ifS (mNotT (mT (mOps [(.ex (mCall is_two_word' [(mName 0)]))] dTru))) (seqS stopS
  nextS) nextS)
  nextS)
def ChTwoWord (f : FDen) : Prop := ∀ w, TwoW w → f [.str (SL w)] = .ok false .non none
theorem chTwoWord {f : FDen} (hf : IsTwoWord f) : ChTwoWord (fden false 1 1 (S_check_two_word f)) := by
  intro w h
  have ew := hf w h
  refine run_def2 (dd := fden false 1 1 (S_check_two_word f)) (np := 1) (n := 1) (mb := S_check_two_word f) rfl _ _ _ (Eq.refl 1) ⟨?_⟩
  simp_arith [S_check_two_word, ew]
def cntB (w : List Nat) (s i : Nat) : Nat := (((w ++ w).drop i).take s).count 98
def S_later_ones : MS := (seqS (retS (mMethS dSCount (.ex (mSl dCutN (.ex (mOps [(.nm 0), (.nm 0)] dAddN)) (some (.nm 2)) (some (.ex (mOps [(.nm 2), (.nm 1)] dAddN))))) (.ex (mC (.str "b")))))
  nextS)
def LaterOnes (f : FDen) : Prop := ∀ (w : List Nat) (s i : Nat), w.length ≤ 1000 → f [.str (SL w), .int (s : Int), .int (i : Int)] = .ok false (.int (cntB w s i : Nat)) none
theorem cut_b (w : List Nat) (s i : Nat) (h : w.length ≤ 1000) : dCutN (.str (SL (w ++ w))) (some (i : Int)) (some ((i : Int) + (s : Int))) = some (false, .str (SL (((w ++ w).drop i).take s))) := by
  rw [cutN_str (by rw [List.length_append]; omega), cut_mid _ _ _ (by omega) (by omega)]
  rw [show ((i : Int) + (s : Int)).toNat - (i : Int).toNat = s by omega, Int.toNat_natCast]
theorem laterOnes : LaterOnes (fden false 3 3 S_later_ones) := by
  intro w s i h
  have ea := addN_str w w (by omega)
  have ec := cut_b w s i h
  refine run_def2 (dd := fden false 3 3 S_later_ones) (np := 3) (n := 3) (mb := S_later_ones) rfl _ _ _ (Eq.refl 3) ⟨?_⟩
  simp_arith [S_later_ones, methS_e, isS_str, ea, ec, s_b, scount_one]
  rfl
def S_is_apart (later_ones' : FDen) : MS := (seqS (retS (mOps [(.ex (mCall later_ones' [(mName 0), (mName 1), (mName 2)])), (.ex (mOps [(.ex (mCall later_ones' [(mName 0), (mName 1), (mName 3)])), (.ex (mC (.int 2)))] dAddN))] dGe))
  nextS)
def gapB (w : List Nat) (s i j : Nat) : Bool := decide (cntB w s j + 2 ≤ cntB w s i)
def IsApart (f : FDen) : Prop := ∀ (w : List Nat) (s i j : Nat), w.length ≤ 1000 → f [.str (SL w), .int (s : Int), .int (i : Int), .int (j : Int)] = .ok false (.bl (gapB w s i j)) none
theorem isApart {f : FDen} (hf : LaterOnes f) : IsApart (fden false 4 4 (S_is_apart f)) := by
  intro w s i j h
  have e1 := hf w s i h
  have e2 := hf w s j h
  have e : decide (((cntB w s j : Nat) : Int) + 2 ≤ ((cntB w s i : Nat) : Int)) = gapB w s i j := by
    unfold gapB
    rw [Bool.eq_iff_iff, decide_eq_true_eq, decide_eq_true_eq]
    omega
  refine run_def2 (dd := fden false 4 4 (S_is_apart f)) (np := 4) (n := 4) (mb := S_is_apart f) rfl _ _ _ (Eq.refl 4) ⟨?_⟩
  simp_arith [S_is_apart, e1, e2, e]
/-- what is told of a word: none, or the first that is apart -/
def FirstAp (w : List Nat) (d : D) : Prop := (d = .non ∧ ∀ s i j, 1 ≤ s → s ≤ w.length → i < w.length → j < w.length → gapB w s i j = false) ∨
  ∃ s i j : Nat, 1 ≤ s ∧ s ≤ w.length ∧ i < w.length ∧ j < w.length ∧ gapB w s i j = true ∧ d = .tup true [.int (s : Int), .int (i : Int), .int (j : Int)]
def S_first_apart (is_apart' : FDen) : MS := (seqS (forS (mRange2 (.ex (mC (.int 1))) (.ex (mOps [(.ex (mOps [(.nm 0)] dLen)), (.ex (mC (.int 1)))] dAddN))) (.nm 1) (seqS (forS (mRange1 (.ex (mOps [(.nm 0)] dLen))) (.nm 2) (seqS (setS 3 (mLc (mRange1 (.ex (mOps [(.nm 0)] dLen))) [4] (.nm 4) (mT (mOps [(.ex (mCall is_apart' [(mName 0), (mName 1), (mName 2), (mName 4)]))] dTru)) (mName 4)))
  (seqS (ifS (mT (mOps [(.ex (mOps [(.nm 3)] dLen)), (.ex (mC (.int 0)))] dGt)) (seqS (retS (mTupN [(mName 1), (mName 2), (mOps [(.nm 3), (.ex (mC (.int 0)))] dIxA)]))
  nextS) nextS)
  nextS)))
  nextS))
  (seqS (retS (mC .non))
  nextS))
def FirstApart (f : FDen) : Prop := ∀ w : List Nat, w.length ≤ 60 → ∃ d, f [.str (SL w)] = .ok false d none ∧ FirstAp w d
theorem firstApart {f : FDen} (hf : IsApart f) : FirstApart (fden false 1 5 (S_first_apart f)) := by
  intro w h6
  have el := len_str w (by omega)
  have key : ∃ fr d, fden false 1 5 (S_first_apart f) [.str (SL w)] = .ok fr d none ∧ (fr = false ∧ FirstAp w d) := by
    refine run_def2Q (dd := fden false 1 5 (S_first_apart f)) (np := 1) (n := 5) (mb := S_first_apart f) rfl [.str (SL w)] (fun fr d => fr = false ∧ FirstAp w d) (Eq.refl 1) ⟨?_⟩
    simp_arith [S_first_apart, el]
    rw [if_pos (by constructor <;> constructor <;> omega)]
    rw [show ((w.length : Int) + 1 - 1).toNat = w.length by omega]
    refine for_rg (fun k st => ∃ x1 x2 x3, (∀ s i j, 1 ≤ s → s ≤ k → i < w.length → j < w.length → gapB w s i j = false) ∧ st = [some (false, .str (SL w)), x1, x2, x3, none]) ⟨none, none, none, fun s i j h1 h2 => by omega, rfl⟩ ?_ ?_
    · rintro k st hk ⟨x1, x2, x3, hn, rfl⟩
      refine ⟨_, rfl, ?_⟩
      simp_arith [el]
      rw [if_pos (by omega), Int.toNat_natCast]
      refine for_rg (fun m st => ∃ x2 x3, (∀ i j, i < m → j < w.length → gapB w (k + 1) i j = false) ∧ st = [some (false, .str (SL w)), some (false, .int (1 + (k : Int))), x2, x3, none]) ⟨x2, x3, fun i j h => by omega, rfl⟩ ?_ ?_
      · rintro m st hm ⟨x2, x3, hi, rfl⟩
        refine ⟨_, rfl, ?_⟩
        simp_arith [post_lc, el]
        rw [if_pos (by omega), Int.toNat_natCast]
        refine ⟨by (try rw [rangeD_len]); exact sizeLine_60 (by omega), rfl, ?_⟩
        refine lc_rgT (fun j => gapB w (k + 1) m j) (fun j => .int ((j : Nat) : Int)) (fun j hj => ?_) ?_
        · have e := hf w (k + 1) m j (by omega)
          have e2 : (1 + (k : Int)) = ((k + 1 : Nat) : Int) := by omega
          refine ⟨_, rfl, rfl, rfl, ?_, fun _ => ?_⟩
          · simp_arith [wipeD, Int.zero_add, e2, e]
          · simp_arith [wipeD, Int.zero_add]
        · cases hl : (List.range w.length).filter (fun j => gapB w (k + 1) m j) with
          | nil =>
            have d0 : decide ((0 : Int) < ((0 : Nat) : Int)) = false := rfl
            simp_arith [putBack, wipeD, d0]
            refine ⟨fun i j h1 h2 => ?_, _, _, rfl⟩
            by_cases q : i < m
            · exact hi i j q h2
            · have : i = m := by omega
              subst this
              have := List.filter_eq_nil_iff.mp hl j (List.mem_range.mpr h2)
              simpa using this
          | cons j r =>
            have hj := List.mem_filter.mp (show j ∈ (List.range w.length).filter (fun j => gapB w (k + 1) m j) by rw [hl]; simp)
            have e : decide ((0 : Int) < ((r.length + 1 : Nat) : Int)) = true := decide_eq_true (by omega)
            have a0 : L2.atI (D.int ((j : Nat) : Int) :: r.map fun (k : Nat) => D.int ((k : Nat) : Int)) 0 = some (.int ((j : Nat) : Int)) := atI_nat _ 0 (by simp)
            simp_arith [putBack, wipeD, List.length_map, List.length_cons, e, a0, fl, List.map_cons, sizeLine_60 (show 3 ≤ 100000 by decide), Int.zero_add]
            exact .inr ⟨k + 1, m, j, by omega, by omega, hm, List.mem_range.mp hj.1, hj.2, by rw [show (1 + (k : Int)) = ((k + 1 : Nat) : Int) by omega]⟩
      · rintro st ⟨x2, x3, hi, rfl⟩
        refine ⟨fun s i j h1 h2 h3 h4 => ?_, _, _, _, rfl⟩
        by_cases q : s ≤ k
        · exact hn s i j h1 q h3 h4
        · have : s = k + 1 := by omega
          subst this
          exact hi i j h3 h4
    · rintro st ⟨x1, x2, x3, hn, rfl⟩
      simp_arith [true_and]
      exact .inl ⟨rfl, hn⟩
  obtain ⟨fr, d, e, rfl, q⟩ := key
  exact ⟨d, e, q⟩
def S_law_counts : MS := (seqS (setS 2 (mOps [(.nm 0), (.nm 0)] dAddN))
  (seqS (retS (mLc (mRange1 (.ex (mOps [(.nm 0)] dLen))) [3] (.nm 3) (M.pure true) (mMethS dSCount (.ex (mSl dCutN (.nm 2) (some (.nm 3)) (some (.ex (mOps [(.nm 3), (.nm 1)] dAddN))))) (.ex (mC (.str "b"))))))
  nextS))
def OwnCounts (f : FDen) : Prop := ∀ (w : List Nat) (s : Nat), w.length ≤ 1000 → f [.str (SL w), .int (s : Int)] = .ok true (.lst (((List.range w.length).map fun i => (cntB w s i : Int)).map .int)) none
theorem ownCounts : OwnCounts (fden false 2 4 S_law_counts) := by
  intro w s h
  have ea := addN_str w w (by omega)
  have el := len_str w (by omega)
  refine run_def2 (dd := fden false 2 4 S_law_counts) (np := 2) (n := 4) (mb := S_law_counts) rfl _ _ _ (Eq.refl 2) ⟨?_⟩
  simp_arith [S_law_counts, ea, el, post_lc]
  rw [if_pos (by omega), Int.toNat_natCast]
  refine ⟨by (try rw [rangeD_len]); exact sizeLine_60 (by omega), rfl, ?_⟩
  refine lc_rg (fun i => .int (cntB w s i : Int)) (fun i hi => ?_) ?_
  · have ec := cut_b w s i h
    refine ⟨_, rfl, rfl, rfl, ?_⟩
    simp_arith [wipeD, Int.zero_add, methS_e, isS_str, ec, s_b, scount_one]
    rfl
  · rw [List.map_map]
    exact rfl
theorem counts_at {w : List Nat} (s : Nat) {i : Nat} (h : i < w.length) : L2.atI (((List.range w.length).map fun i => (cntB w s i : Int)).map D.int) (i : Int) = some (.int (cntB w s i : Int)) := by
  rw [atI_nat _ i (by simp; exact h)]
  simp
def S_law_apart (law_counts' : FDen) : MS := (seqS (forS (mRange2 (.ex (mC (.int 1))) (.ex (mOps [(.ex (mOps [(.nm 0)] dLen)), (.ex (mC (.int 1)))] dAddN))) (.nm 1) (seqS (setS 2 (mCall law_counts' [(mName 0), (mName 1)]))
  (seqS (forS (mRange1 (.ex (mOps [(.nm 0)] dLen))) (.nm 3) (seqS (setS 4 (mLc (mRange1 (.ex (mOps [(.nm 0)] dLen))) [5] (.nm 5) (mT (mOps [(.ex (mOps [(.nm 2), (.nm 3)] dIxA)), (.ex (mOps [(.ex (mOps [(.nm 2), (.nm 5)] dIxA)), (.ex (mC (.int 2)))] dAddN))] dEqF)) (mName 5)))
  (seqS (ifS (mT (mOps [(.ex (mOps [(.nm 4)] dLen)), (.ex (mC (.int 0)))] dGt)) (seqS (retS (mTupN [(mName 1), (mName 3), (mOps [(.nm 4), (.ex (mC (.int 0)))] dIxA)]))
  nextS) nextS)
  nextS)))
  nextS)))
  (seqS (retS (mC .non))
  nextS))
def twoB (w : List Nat) (s i j : Nat) : Bool := ((cntB w s i : Int) == (cntB w s j : Int) + 2)
def TwoAp (w : List Nat) (d : D) : Prop := (d = .non ∧ ∀ s i j, 1 ≤ s → s ≤ w.length → i < w.length → j < w.length → twoB w s i j = false) ∨
  ∃ s i j : Nat, 1 ≤ s ∧ s ≤ w.length ∧ i < w.length ∧ j < w.length ∧ twoB w s i j = true ∧ d = .tup true [.int (s : Int), .int (i : Int), .int (j : Int)]
def OwnApart (f : FDen) : Prop := ∀ w : List Nat, w.length ≤ 60 → ∃ d, f [.str (SL w)] = .ok false d none ∧ TwoAp w d
theorem ownApart {f : FDen} (hf : OwnCounts f) : OwnApart (fden false 1 6 (S_law_apart f)) := by
  intro w h6
  have el := len_str w (by omega)
  have key : ∃ fr d, fden false 1 6 (S_law_apart f) [.str (SL w)] = .ok fr d none ∧ (fr = false ∧ TwoAp w d) := by
    refine run_def2Q (dd := fden false 1 6 (S_law_apart f)) (np := 1) (n := 6) (mb := S_law_apart f) rfl [.str (SL w)] (fun fr d => fr = false ∧ TwoAp w d) (Eq.refl 1) ⟨?_⟩
    simp_arith [S_law_apart, el]
    rw [if_pos (by constructor <;> constructor <;> omega)]
    rw [show ((w.length : Int) + 1 - 1).toNat = w.length by omega]
    refine for_rg (fun k st => ∃ x1 x2 x3 x4, (∀ s i j, 1 ≤ s → s ≤ k → i < w.length → j < w.length → twoB w s i j = false) ∧ st = [some (false, .str (SL w)), x1, x2, x3, x4, none]) ⟨none, none, none, none, fun s i j h1 h2 => by omega, rfl⟩ ?_ ?_
    · rintro k st hk ⟨x1, x2, x3, x4, hn, rfl⟩
      refine ⟨_, rfl, ?_⟩
      have ek := hf w (k + 1) (by omega)
      have e2 : (1 + (k : Int)) = ((k + 1 : Nat) : Int) := by omega
      simp_arith [el, e2, ek]
      rw [if_pos (by omega), Int.toNat_natCast]
      refine for_rg (fun m st => ∃ x3 x4, (∀ i j, i < m → j < w.length → twoB w (k + 1) i j = false) ∧ st = [some (false, .str (SL w)), some (false, .int (((k + 1 : Nat) : Int))), some (true, .lst (((List.range w.length).map fun i => (cntB w (k + 1) i : Int)).map .int)), x3, x4, none]) ⟨x3, x4, fun i j h => by omega, rfl⟩ ?_ ?_
      · rintro m st hm ⟨x3, x4, hi, rfl⟩
        have am := counts_at (k + 1) hm
        refine ⟨_, rfl, ?_⟩
        simp_arith [post_lc, el]
        rw [if_pos (by omega), Int.toNat_natCast]
        refine ⟨by (try rw [rangeD_len]); exact sizeLine_60 (by omega), rfl, ?_⟩
        refine lc_rgT (fun j => twoB w (k + 1) m j) (fun j => .int ((j : Nat) : Int)) (fun j hj => ?_) ?_
        · have aj := counts_at (k + 1) hj
          refine ⟨_, rfl, rfl, rfl, ?_, fun _ => ?_⟩
          · simp_arith [wipeD, Int.zero_add, am, aj, fl]
            rfl
          · simp_arith [wipeD, Int.zero_add]
        · cases hl : (List.range w.length).filter (fun j => twoB w (k + 1) m j) with
          | nil =>
            have d0 : decide ((0 : Int) < ((0 : Nat) : Int)) = false := rfl
            simp_arith [putBack, wipeD, d0]
            refine ⟨fun i j h1 h2 => ?_, _, _, rfl⟩
            by_cases q : i < m
            · exact hi i j q h2
            · have : i = m := by omega
              subst this
              have := List.filter_eq_nil_iff.mp hl j (List.mem_range.mpr h2)
              simpa using this
          | cons j r =>
            have hj := List.mem_filter.mp (show j ∈ (List.range w.length).filter (fun j => twoB w (k + 1) m j) by rw [hl]; simp)
            have e : decide ((0 : Int) < ((r.length + 1 : Nat) : Int)) = true := decide_eq_true (by omega)
            have a0 : L2.atI (D.int ((j : Nat) : Int) :: r.map fun (k : Nat) => D.int ((k : Nat) : Int)) 0 = some (.int ((j : Nat) : Int)) := atI_nat _ 0 (by simp)
            simp_arith [putBack, wipeD, List.length_map, List.length_cons, e, a0, fl, List.map_cons, sizeLine_60 (show 3 ≤ 100000 by decide), Int.zero_add]
            exact .inr ⟨k + 1, m, j, by omega, by omega, hm, List.mem_range.mp hj.1, hj.2, rfl⟩
      · rintro st ⟨x3, x4, hi, rfl⟩
        refine ⟨fun s i j h1 h2 h3 h4 => ?_, _, _, _, _, rfl⟩
        by_cases q : s ≤ k
        · exact hn s i j h1 q h3 h4
        · have : s = k + 1 := by omega
          subst this
          exact hi i j h3 h4
    · rintro st ⟨x1, x2, x3, x4, hn, rfl⟩
      simp_arith [true_and]
      exact .inl ⟨rfl, hn⟩
  obtain ⟨fr, d, e, rfl, q⟩ := key
  exact ⟨d, e, q⟩
/-- one place on: at most one more or less -/
theorem cnt_step (w : List Nat) (s i : Nat) : cntB w s (i + 1) ≤ cntB w s i + 1 ∧ cntB w s i ≤ cntB w s (i + 1) + 1 := by
  unfold cntB
  generalize w ++ w = v
  have e : (v.drop i).take (s + 1) = (v.drop i).take 1 ++ (v.drop (i + 1)).take s := by
    rw [show s + 1 = 1 + s by omega, List.take_add, List.drop_drop]
  have e2 : (v.drop i).take (s + 1) = (v.drop i).take s ++ ((v.drop i).drop s).take 1 := List.take_add
  have h1 := congrArg (List.count 98) e
  have h2 := congrArg (List.count 98) e2
  rw [List.count_append] at h1 h2
  have b1 : ((v.drop i).take 1).count 98 ≤ 1 := Nat.le_trans List.count_le_length (by rw [List.length_take]; omega)
  have b2 : (((v.drop i).drop s).take 1).count 98 ≤ 1 := Nat.le_trans List.count_le_length (by rw [List.length_take]; omega)
  omega
/-- what goes by steps of one, meets all between -/
theorem meets (g : Nat → Nat) (hg : ∀ i, g (i + 1) ≤ g i + 1 ∧ g i ≤ g (i + 1) + 1) (t : Nat) : ∀ (k a : Nat), (g a ≤ t ∧ t ≤ g (a + k) ∨ t ≤ g a ∧ g (a + k) ≤ t) → ∃ m, a ≤ m ∧ m ≤ a + k ∧ g m = t
  | 0, a, h => ⟨a, by omega, by omega, by rw [Nat.add_zero] at h; omega⟩
  | k + 1, a, h => by
    by_cases e : g a = t
    · exact ⟨a, by omega, by omega, e⟩
    · have hs := hg a
      obtain ⟨m, h1, h2, h3⟩ := meets g hg t k (a + 1) (by rw [show a + 1 + k = a + (k + 1) by omega]; omega)
      exact ⟨m, by omega, by omega, h3⟩
/-- no gap of two at the same time -/
theorem none_both {w : List Nat} {d e : D} (h1 : FirstAp w d) (h2 : TwoAp w e) : (d = .non ↔ e = .non) := by
  have step : ∀ s i j, i < w.length → j < w.length → gapB w s i j = true → ∃ m, m < w.length ∧ twoB w s m j = true := fun s i j hi hj g => by
    have g := of_decide_eq_true g
    have := cnt_step w s
    rcases Nat.le_total i j with q | q
    · obtain ⟨m, m1, m2, m3⟩ := meets (cntB w s) this (cntB w s j + 2) (j - i) i (by rw [show i + (j - i) = j by omega]; omega)
      exact ⟨m, by omega, by unfold twoB; rw [m3, beq_iff_eq]; omega⟩
    · obtain ⟨m, m1, m2, m3⟩ := meets (cntB w s) this (cntB w s j + 2) (i - j) j (by rw [show j + (i - j) = i by omega]; omega)
      exact ⟨m, by omega, by unfold twoB; rw [m3, beq_iff_eq]; omega⟩
  rcases h1 with ⟨rfl, h1⟩ | ⟨s, i, j, s1, s2, hi, hj, g, rfl⟩ <;> rcases h2 with ⟨rfl, h2⟩ | ⟨s', i', j', s1', s2', hi', hj', g', rfl⟩
  · exact ⟨fun _ => rfl, fun _ => rfl⟩
  · have := h1 s' i' j' s1' s2' hi' hj'
    unfold gapB at this
    unfold twoB at g'
    have g' := eq_of_beq g'
    have := of_decide_eq_false this
    omega
  · obtain ⟨m, hm, q⟩ := step s i j hi hj g
    rw [h2 s m j s1 s2 hm hj] at q
    cases q
  · constructor <;> intro h <;> cases h
end PL
set_option Elab.async false
set_option linter.all false
set_option maxRecDepth 100000
set_option maxHeartbeats 4000000
set_option autoImplicit false
namespace K33
open PySem PySem.Spec PyProof.Rows L2 PL
/-! the text by places -/
def top (i : Nat) : Stmt := PySem.Challenge.pw_stripturns_k33_whole_papers_of_level_wor.main.body.getD i (.Pass ⟨0, 0, 0, 0⟩)
abbrev s__law_hand : Stmt := top 21
abbrev s_is_word : Stmt := top 9
abbrev s_is_two_word : Stmt := top 13
abbrev s_check_two_word : Stmt := top 14
abbrev s_later_ones : Stmt := top 15
abbrev s_is_apart : Stmt := top 16
abbrev s_is_integer : Stmt := top 5
abbrev s_is_within : Stmt := top 6
abbrev s_first_apart : Stmt := top 17
abbrev s_is_level_shown : Stmt := top 19
abbrev s__law_is : Stmt := top 24
abbrev s__law_draw : Stmt := top 22
abbrev s__law_level : Stmt := top 27
abbrev s__law_some : Stmt := top 23
abbrev s__law_twos : Stmt := top 28
abbrev s_level_shown : Stmt := top 18
abbrev s__law_bent : Stmt := top 30
abbrev s__law_counts : Stmt := top 25
abbrev s__law_apart : Stmt := top 26
abbrev s__law_is_paper : Stmt := top 29
abbrev s__law_is_case_right : Stmt := top 31
abbrev s_law : Stmt := top 32
abbrev FnP (K : PySem.W.Frag) (x y : Str) (st : Stmt) (f : Addr) (fd : FuncData) : Prop := FunD K x y (defArgs st) (defBody st) (defScope st) [] [] f fd
/-! what each def does -/
def b__law_hand : MS := (seqS (setS 1 (mLc (mItems (mSl dCut (.nm 0) none (some (.ex (mC (.int 63)))))) [2] (.nm 2) (M.pure true) (mOps [(.ex (mOps [(.nm 2)] dInt))] dAbs)))
  (seqS (retS (mLst [(mName 1), (mC (.int 0)), (mC (.int 0)), (mOps [(.ex (mC (.int 83))), (.ex (mOps [(.ex (mC (.int 7))), (.ex (mOps [(.nm 1)] dLen))] dMul))] dAdd), (mC (.int 0))]))
  nextS))
def d__law_hand : FDen := fden false 1 3 b__law_hand
def b_is_word : MS := (seqS (retS (mAndV (mOps [(.nm 0)] (dIsA .str)) (mAndV (mChain (fun i j => decide (i ≤ j)) (fun i j => decide (i ≤ j)) (.ex (mC (.int 1))) (.ex (mOps [(.nm 0)] dLen)) (.ex (mC (.int 60)))) (mOps [(.ex (mLc (mItems (mName 0)) [1] (.nm 1) (M.pure true) (mOps [(.nm 1), (.ex (mC (.str "abcdef")))] (dInZ false))))] dAll))))
  nextS)
def d_is_word : FDen := fden false 1 2 b_is_word
def b_is_two_word : MS := (seqS (retS (mAndV (mCall d_is_word [(mName 0)]) (mAndV (mOps [(.ex (mC (.str "a"))), (.nm 0)] (dInZ false)) (mAndV (mOps [(.ex (mC (.str "b"))), (.nm 0)] (dInZ false)) (mOps [(.ex (mOps [(.ex (mMethS dSCount (.nm 0) (.ex (mC (.str "a"))))), (.ex (mMethS dSCount (.nm 0) (.ex (mC (.str "b")))))] dAddN)), (.ex (mOps [(.nm 0)] dLen))] dEqF)))))
  nextS)
def d_is_two_word : FDen := fden false 1 1 b_is_two_word
def b_check_two_word : MS := (seqS (ifS (mNotT (mT (mOps [(.ex (mCall d_is_two_word [(mName 0)]))] dTru))) (seqS stopS
  nextS) nextS)
  nextS)
def d_check_two_word : FDen := fden false 1 1 b_check_two_word
def b_later_ones : MS := (seqS (retS (mMethS dSCount (.ex (mSl dCutN (.ex (mOps [(.nm 0), (.nm 0)] dAddN)) (some (.nm 2)) (some (.ex (mOps [(.nm 2), (.nm 1)] dAddN))))) (.ex (mC (.str "b")))))
  nextS)
def d_later_ones : FDen := fden false 3 3 b_later_ones
def b_is_apart : MS := (seqS (retS (mOps [(.ex (mCall d_later_ones [(mName 0), (mName 1), (mName 2)])), (.ex (mOps [(.ex (mCall d_later_ones [(mName 0), (mName 1), (mName 3)])), (.ex (mC (.int 2)))] dAddN))] dGe))
  nextS)
def d_is_apart : FDen := fden false 4 4 b_is_apart
def b_is_integer : MS := (seqS (retS (mAndV (mOps [(.nm 0)] (dIsA .int)) (mOps [(.ex (mOps [(.nm 0)] (dIsA .bool)))] dNot)))
  nextS)
def d_is_integer : FDen := fden false 1 1 b_is_integer
def b_is_within : MS := (seqS (retS (mAndV (mCall d_is_integer [(mName 0)]) (mChain (fun i j => decide (i ≤ j)) (fun i j => decide (i ≤ j)) (.nm 1) (.nm 0) (.nm 2))))
  nextS)
def d_is_within : FDen := fden false 3 3 b_is_within
def b_first_apart : MS := (seqS (forS (mRange2 (.ex (mC (.int 1))) (.ex (mOps [(.ex (mOps [(.nm 0)] dLen)), (.ex (mC (.int 1)))] dAddN))) (.nm 1) (seqS (forS (mRange1 (.ex (mOps [(.nm 0)] dLen))) (.nm 2) (seqS (setS 3 (mLc (mRange1 (.ex (mOps [(.nm 0)] dLen))) [4] (.nm 4) (mT (mOps [(.ex (mCall d_is_apart [(mName 0), (mName 1), (mName 2), (mName 4)]))] dTru)) (mName 4)))
  (seqS (ifS (mT (mOps [(.ex (mOps [(.nm 3)] dLen)), (.ex (mC (.int 0)))] dGt)) (seqS (retS (mTupN [(mName 1), (mName 2), (mOps [(.nm 3), (.ex (mC (.int 0)))] dIxA)]))
  nextS) nextS)
  nextS)))
  nextS))
  (seqS (retS (mC .non))
  nextS))
def d_first_apart : FDen := fden false 1 5 b_first_apart
def b_is_level_shown : MS := (seqS (dropS (mCall d_check_two_word [(mName 0)]))
  (seqS (ifS (mOrT (mNotT (mT (mOps [(.ex (mOps [(.nm 1)] (dIsA .tuple)))] dTru))) (mOrT (mT (mOps [(.ex (mOps [(.nm 1)] dLen)), (.ex (mTupN [(mC (.int 3)), (mC (.int 4))]))] (dInA true))) (mNotT (mT (mOps [(.ex (mOps [(.ex (mOps [(.nm 1), (.ex (mC (.int 0)))] dIxA))] (dIsA .str)))] dTru))))) (seqS (retS (mC (.bl false)))
  nextS) nextS)
  (seqS (ifS (mNotT (mT (mOps [(.ex (mOps [(.ex (mLc (mItems (mSl dCutN (.nm 1) (some (.ex (mC (.int 1)))) none)) [2] (.nm 2) (M.pure true) (mCall d_is_integer [(mName 2)])))] dAll))] dTru))) (seqS (retS (mC (.bl false)))
  nextS) nextS)
  (seqS (ifS (mT (mOps [(.ex (mOps [(.nm 1)] dLen)), (.ex (mC (.int 3)))] dEqF)) (seqS (retS (mAndV (mOps [(.ex (mOps [(.nm 1), (.ex (mC (.int 0)))] dIxA)), (.ex (mC (.str "slope")))] dEqF) (mAndV (mOps [(.ex (mCall d_first_apart [(mName 0)])), (.ex (mC .non))] dIs) (mOps [(.ex (mSl dCutN (.nm 1) (some (.ex (mC (.int 1)))) none)), (.ex (mTupN [(mMethS dSCount (.nm 0) (.ex (mC (.str "a")))), (mMethS dSCount (.nm 0) (.ex (mC (.str "b"))))]))] dEqF))))
  nextS) nextS)
  (seqS (ifS (mOrT (mT (mOps [(.ex (mOps [(.nm 1), (.ex (mC (.int 0)))] dIxA)), (.ex (mC (.str "apart")))] dNeF)) (mNotT (mT (mOps [(.ex (mCall d_is_within [(mOps [(.nm 1), (.ex (mC (.int 1)))] dIxA), (mC (.int 1)), (mOps [(.nm 0)] dLen)]))] dTru)))) (seqS (retS (mC (.bl false)))
  nextS) nextS)
  (seqS (ifS (mNotT (mT (mOps [(.ex (mOps [(.ex (mLc (mItems (mSl dCutN (.nm 1) (some (.ex (mC (.int 2)))) none)) [3] (.nm 3) (M.pure true) (mCall d_is_within [(mName 3), (mC (.int 0)), (mOps [(.ex (mOps [(.nm 0)] dLen)), (.ex (mC (.int 1)))] dSub)])))] dAll))] dTru))) (seqS (retS (mC (.bl false)))
  nextS) nextS)
  (seqS (retS (mCall d_is_apart [(mName 0), (mOps [(.nm 1), (.ex (mC (.int 1)))] dIxA), (mOps [(.nm 1), (.ex (mC (.int 2)))] dIxA), (mOps [(.nm 1), (.ex (mC (.int 3)))] dIxA)]))
  nextS)))))))
def d_is_level_shown : FDen := fden false 2 4 b_is_level_shown
def b__law_is (r__law_is : FDen) : MS := (seqS (ifS (mT (mOps [(.ex (mOps [(.nm 1)] (dIsA2 .tuple .list)))] dTru)) (seqS (ifS (mT (mOps [(.ex (mOps [(.nm 0)] (dIsA .tuple))), (.ex (mOps [(.nm 1)] (dIsA .tuple)))] dNeF)) (seqS (retS (mC (.bl false)))
  nextS) nextS)
  (seqS (ifS (mOrT (mT (mOps [(.ex (mOps [(.nm 0)] (dIsA .list))), (.ex (mOps [(.nm 1)] (dIsA .list)))] dNeF)) (mT (mOps [(.ex (mOps [(.nm 0)] dLen)), (.ex (mOps [(.nm 1)] dLen))] dNeF))) (seqS (retS (mC (.bl false)))
  nextS) nextS)
  (seqS (retS (mOps [(.ex (mLc (mZipX (mName 0) (mName 1)) [2, 3] (.tup [(.nm 2), (.nm 3)]) (M.pure true) (mCall r__law_is [(mName 2), (mName 3)])))] dAll))
  nextS))) nextS)
  (seqS (ifS (mOrT (mT (mOps [(.nm 1), (.ex (mC .non))] dIs)) (mT (mOps [(.nm 0), (.ex (mC .non))] dIs))) (seqS (retS (mAndV (mOps [(.nm 1), (.ex (mC .non))] dIs) (mOps [(.nm 0), (.ex (mC .non))] dIs)))
  nextS) nextS)
  (seqS (ifS (mT (mOps [(.ex (mOps [(.nm 0)] (dIsA .bool))), (.ex (mOps [(.nm 1)] (dIsA .bool)))] dNeF)) (seqS (retS (mC (.bl false)))
  nextS) nextS)
  (seqS (retS (mAndV (mOps [(.ex (mOps [(.nm 0)] (dIsA .str))), (.ex (mOps [(.nm 1)] (dIsA .str)))] dEqF) (mOps [(.nm 0), (.nm 1)] dEqF)))
  nextS))))
def dR__law_is : Nat → FDen
  | 0 => fun _ => .stuck
  | k + 1 => fden false 2 4 (b__law_is (dR__law_is k))
def d__law_is : FDen := dR__law_is 12
def b__law_draw : MS := (seqS (ifS (mAndT (mT (mOps [(.ex (mOps [(.nm 0), (.ex (mC (.int 2)))] dIx)), (.ex (mC (.int 0)))] dEqF)) (mT (mOps [(.ex (mOps [(.nm 0), (.ex (mC (.int 1)))] dIx)), (.ex (mOps [(.ex (mOps [(.nm 0), (.ex (mC (.int 0)))] dIx))] dLen))] dLt))) (seqS (setS 3 (mOps [(.ex (mOps [(.nm 0), (.ex (mC (.int 0)))] dIx)), (.ex (mOps [(.nm 0), (.ex (mC (.int 1)))] dIx))] dIx))
  (seqS (stS (mStore 0 (mOps [(.ex (mOps [(.nm 0), (.ex (mC (.int 1)))] dIx)), (.ex (mC (.int 1)))] dAdd) (.ex (mC (.int 1))) mfPut))
  (seqS (stS (mStore 0 (mOps [(.ex (mOps [(.ex (mOps [(.ex (mOps [(.ex (mOps [(.ex (mOps [(.nm 0), (.ex (mC (.int 3)))] dIx)), (.ex (mC (.int 69621)))] dMul)), (.nm 3)] dAdd)), (.ex (mC (.int 29)))] dAdd))] dInt)), (.ex (mC (.int 2147483629)))] dMod) (.ex (mC (.int 3))) mfPut))
  (seqS (ifS (mT (mOps [(.nm 3), (.ex (mOps [(.ex (mC (.int 10))), (.ex (mC (.int 18)))] dPow))] dGe)) (seqS (stS (mStore 0 (mName 3) (.ex (mC (.int 2))) mfPut))
  nextS) nextS)
  nextS)))) nextS)
  (seqS (ifS (mT (mOps [(.ex (mOps [(.nm 0), (.ex (mC (.int 2)))] dIx)), (.ex (mC (.int 0)))] dGt)) (seqS (setS 4 (mOps [(.ex (mOps [(.ex (mOps [(.nm 0), (.ex (mC (.int 2)))] dIx))] dInt)), (.nm 1)] dMod))
  (seqS (stS (mStore 0 (mOps [(.ex (mOps [(.nm 0), (.ex (mC (.int 2)))] dIx)), (.nm 1)] dFdiv) (.ex (mC (.int 2))) mfPut))
  (seqS (backS 4)
  nextS))) nextS)
  (seqS (stS (mStore 0 (mOps [(.ex (mOps [(.nm 0), (.ex (mC (.int 4)))] dIx)), (.ex (mC (.int 1)))] dAdd) (.ex (mC (.int 4))) mfPut))
  (seqS (setS 2 (mOps [(.ex (mOps [(.ex (mOps [(.ex (mOps [(.ex (mOps [(.ex (mOps [(.nm 0), (.ex (mC (.int 3)))] dIx)), (.ex (mOps [(.ex (mC (.int 7919))), (.ex (mOps [(.nm 0), (.ex (mC (.int 4)))] dIx))] dMul))] dAdd))] dInt)), (.ex (mC (.int 48271)))] dMul))] dInt)), (.ex (mC (.int 2147483647)))] dMod))
  (seqS (setS 2 (mOps [(.ex (mOps [(.ex (mOps [(.nm 2), (.ex (mOps [(.ex (mOps [(.nm 2), (.ex (mC (.int 1009)))] dFdiv)), (.ex (mC (.int 69621)))] dAdd))] dMul))] dInt)), (.ex (mC (.int 2147483647)))] dMod))
  (seqS (setS 2 (mOps [(.ex (mOps [(.ex (mOps [(.nm 2), (.ex (mOps [(.ex (mOps [(.nm 2), (.ex (mC (.int 2003)))] dFdiv)), (.ex (mC (.int 40692)))] dAdd))] dMul))] dInt)), (.ex (mC (.int 2147483399)))] dMod))
  (seqS (retS (mOps [(.ex (mOps [(.ex (mOps [(.nm 2), (.ex (mC (.int 16)))] dFdiv))] dInt)), (.nm 1)] dMod))
  nextS)))))))
def d__law_draw : FDen := fden true 2 5 b__law_draw
def b__law_level : MS := (seqS (parS 3 4 (mLst []) (mC (.int 0)))
  (seqS (forS (mRange1 (.ex (mOps [(.nm 0), (.nm 1)] dAddN))) (.nm 2) (seqS (setS 4 (mOps [(.nm 4), (.nm 1)] dAddN))
  (seqS (dropS (mMut false 3 [(mIf (mT (mOps [(.nm 4), (.ex (mOps [(.nm 0), (.nm 1)] dAddN))] dGe)) (mC (.str "b")) (mC (.str "a")))] mfAppend))
  (seqS (setS 4 (mIf (mT (mOps [(.nm 4), (.ex (mOps [(.nm 0), (.nm 1)] dAddN))] dGe)) (mOps [(.ex (mOps [(.nm 4), (.nm 0)] dSub)), (.nm 1)] dSub) (mName 4)))
  nextS))))
  (seqS (retS (mMethS dJoin (.ex (mC (.str ""))) (.nm 3)))
  nextS)))
def d__law_level : FDen := fden false 2 5 b__law_level
def b__law_some : MS := (seqS (retS (mOps [(.nm 1), (.ex (mCallIo d__law_draw 0 [(mOps [(.nm 1)] dLen)]))] dIx))
  nextS)
def d__law_some : FDen := fden true 2 2 b__law_some
def b__law_twos : MS := (seqS (parS 3 4 (mOps [(.ex (mC (.int 1))), (.ex (mCallIo d__law_draw 0 [(mC (.int 7))]))] dAddN) (mOps [(.ex (mC (.int 1))), (.ex (mCallIo d__law_draw 0 [(mC (.int 7))]))] dAddN))
  (seqS (parS 2 5 (mCall d__law_level [(mName 3), (mName 4)]) (mCallIo d__law_draw 0 [(mC (.int 4))]))
  (seqS (setS 1 (mCallIo d__law_draw 0 [(mOps [(.nm 2)] dLen)]))
  (seqS (setS 2 (mOps [(.ex (mSl dCutN (.nm 2) (some (.nm 1)) none)), (.ex (mSl dCutN (.nm 2) none (some (.nm 1))))] dAddN))
  (seqS (ifS (mT (mOps [(.nm 5), (.ex (mC (.int 1)))] dEqF)) (seqS (setS 2 (mOps [(.ex (mSl dCutN (.nm 2) none (some (.ex (mOps [(.ex (mC (.int 1)))] dNeg))))), (.ex (mCallIo d__law_some 0 [(mLst [(mC (.str "a")), (mC (.str "b"))])]))] dAddN))
  nextS) nextS)
  (seqS (ifS (mT (mOps [(.nm 5), (.ex (mC (.int 2)))] dEqF)) (seqS (setS 2 (mOps [(.ex (mSl dCutN (.nm 2) none (some (.ex (mC (.int 6)))))), (.ex (mOps [(.ex (mC (.int 1))), (.ex (mCallIo d__law_draw 0 [(mC (.int 3))]))] dAddN))] dMulX))
  nextS) nextS)
  (seqS (ifS (mT (mOps [(.nm 5), (.ex (mC (.int 3)))] dEqF)) (seqS (setS 2 (mMethS dJoin (.ex (mC (.str ""))) (.ex (mLc (mRange1 (.ex (mOps [(.ex (mC (.int 2))), (.ex (mCallIo d__law_draw 0 [(mC (.int 10))]))] dAddN))) [6] (.nm 6) (M.pure true) (mCallIo d__law_some 0 [(mLst [(mC (.str "a")), (mC (.str "b"))])])))))
  nextS) nextS)
  (seqS (retS (mIf (mAndT (mT (mOps [(.ex (mC (.str "a"))), (.nm 2)] (dInZ false))) (mT (mOps [(.ex (mC (.str "b"))), (.nm 2)] (dInZ false)))) (mName 2) (mC (.str "ab"))))
  nextS))))))))
def d__law_twos : FDen := fden true 1 7 b__law_twos
def b_level_shown : MS := (seqS (dropS (mCall d_check_two_word [(mName 0)]))
  (seqS (setS 1 (mCall d_first_apart [(mName 0)]))
  (seqS (retS (mIf (mT (mOps [(.nm 1), (.ex (mC .non))] dIs)) (mTupN [(mC (.str "slope")), (mMethS dSCount (.nm 0) (.ex (mC (.str "a")))), (mMethS dSCount (.nm 0) (.ex (mC (.str "b"))))]) (mOps [(.ex (mTupN [(mC (.str "apart"))])), (.nm 1)] dAddN)))
  nextS)))
def d_level_shown : FDen := fden false 1 2 b_level_shown
def b__law_bent (r__law_bent : FDen) : MS := (seqS (ifS (mAndT (mT (mOps [(.ex (mOps [(.nm 1)] (dIsA .tuple)))] dTru)) (mAndT (mT (mOps [(.ex (mOps [(.nm 1)] dLen)), (.ex (mC (.int 0)))] dGt)) (mT (mOps [(.ex (mCallIo d__law_draw 0 [(mC (.int 4))])), (.ex (mC (.int 0)))] dGt)))) (seqS (setS 3 (mCallIo d__law_draw 0 [(mOps [(.nm 1)] dLen)]))
  (seqS (retS (mOps [(.ex (mOps [(.ex (mSl dCutN (.nm 1) none (some (.nm 3)))), (.ex (mTupN [(mCallIo r__law_bent 0 [(mOps [(.nm 1), (.nm 3)] dIxA)])]))] dAddN)), (.ex (mSl dCutN (.nm 1) (some (.ex (mOps [(.nm 3), (.ex (mC (.int 1)))] dAddN))) none))] dAddN))
  nextS)) nextS)
  (seqS (setS 2 (mLst [(mC .non), (mC (.bl true)), (mC (.bl false)), (mC (.int 0)), (mC (.int 1)), (mC (.int 2)), (mOps [(.ex (mC (.int 1)))] dNeg), (mC (.str "slope")), (mC (.str "apart")), (mTupN []), (mLst []), mDnew]))
  (seqS (ifS (mT (mOps [(.ex (mOps [(.nm 1)] (dIsA .tuple)))] dTru)) (seqS (setS 2 (mOps [(.nm 2), (.ex (mLst [(mSl dCutN (.nm 1) none (some (.ex (mOps [(.ex (mC (.int 1)))] dNeg)))), (mSl dCutN (.nm 1) (some (.ex (mC (.int 1)))) none), (mOps [(.nm 1)] dRev), (mOps [(.nm 1), (.ex (mSl dCutN (.nm 1) (some (.ex (mOps [(.ex (mC (.int 1)))] dNeg))) none))] dAddN), (mOps [(.nm 1)] dList)]))] dAddN))
  nextS) (seqS (ifS (mT (mOps [(.ex (mOps [(.nm 1)] (dIsA .int)))] dTru)) (seqS (setS 2 (mOps [(.nm 2), (.ex (mOps [(.ex (mLst [(mOps [(.nm 1), (.ex (mC (.int 1)))] dAddN), (mOps [(.nm 1), (.ex (mC (.int 1)))] dSub), (mOps [(.nm 1), (.ex (mC (.int 1)))] dEqF)])), (.ex (mC (.int 3)))] dMulX))] dAddN))
  nextS) nextS)
  nextS))
  (seqS (retS (mCallIo d__law_some 0 [(mName 2)]))
  nextS))))
def dR__law_bent : Nat → FDen
  | 0 => fun _ => .stuck
  | k + 1 => fden true 2 4 (b__law_bent (dR__law_bent k))
def d__law_bent : FDen := dR__law_bent 12
def b__law_counts : MS := (seqS (setS 2 (mOps [(.nm 0), (.nm 0)] dAddN))
  (seqS (retS (mLc (mRange1 (.ex (mOps [(.nm 0)] dLen))) [3] (.nm 3) (M.pure true) (mMethS dSCount (.ex (mSl dCutN (.nm 2) (some (.nm 3)) (some (.ex (mOps [(.nm 3), (.nm 1)] dAddN))))) (.ex (mC (.str "b"))))))
  nextS))
def d__law_counts : FDen := fden false 2 4 b__law_counts
def b__law_apart : MS := (seqS (forS (mRange2 (.ex (mC (.int 1))) (.ex (mOps [(.ex (mOps [(.nm 0)] dLen)), (.ex (mC (.int 1)))] dAddN))) (.nm 1) (seqS (setS 2 (mCall d__law_counts [(mName 0), (mName 1)]))
  (seqS (forS (mRange1 (.ex (mOps [(.nm 0)] dLen))) (.nm 3) (seqS (setS 4 (mLc (mRange1 (.ex (mOps [(.nm 0)] dLen))) [5] (.nm 5) (mT (mOps [(.ex (mOps [(.nm 2), (.nm 3)] dIxA)), (.ex (mOps [(.ex (mOps [(.nm 2), (.nm 5)] dIxA)), (.ex (mC (.int 2)))] dAddN))] dEqF)) (mName 5)))
  (seqS (ifS (mT (mOps [(.ex (mOps [(.nm 4)] dLen)), (.ex (mC (.int 0)))] dGt)) (seqS (retS (mTupN [(mName 1), (mName 3), (mOps [(.nm 4), (.ex (mC (.int 0)))] dIxA)]))
  nextS) nextS)
  nextS)))
  nextS)))
  (seqS (retS (mC .non))
  nextS))
def d__law_apart : FDen := fden false 1 6 b__law_apart
def b__law_is_paper : MS := (seqS (ifS (mOrT (mNotT (mT (mOps [(.ex (mOps [(.nm 1)] (dIsA .tuple)))] dTru))) (mOrT (mT (mOps [(.ex (mOps [(.nm 1)] dLen)), (.ex (mTupN [(mC (.int 3)), (mC (.int 4))]))] (dInA true))) (mNotT (mT (mOps [(.ex (mOps [(.ex (mOps [(.nm 1), (.ex (mC (.int 0)))] dIxA))] (dIsA .str)))] dTru))))) (seqS (retS (mC (.bl false)))
  nextS) nextS)
  (seqS (ifS (mNotT (mT (mOps [(.ex (mOps [(.ex (mLc (mItems (mSl dCutN (.nm 1) (some (.ex (mC (.int 1)))) none)) [6] (.nm 6) (M.pure true) (mAndV (mOps [(.nm 6)] (dIsA .int)) (mOps [(.ex (mOps [(.nm 6)] (dIsA .bool)))] dNot))))] dAll))] dTru))) (seqS (retS (mC (.bl false)))
  nextS) nextS)
  (seqS (ifS (mT (mOps [(.ex (mOps [(.nm 1), (.ex (mC (.int 0)))] dIxA)), (.ex (mC (.str "slope")))] dEqF)) (seqS (retS (mAndV (mOps [(.ex (mSl dCutN (.nm 1) (some (.ex (mC (.int 1)))) none)), (.ex (mTupN [(mMethS dSCount (.nm 0) (.ex (mC (.str "a")))), (mMethS dSCount (.nm 0) (.ex (mC (.str "b"))))]))] dEqF) (mOps [(.ex (mCall d__law_apart [(mName 0)])), (.ex (mC .non))] dIs)))
  nextS) nextS)
  (seqS (ifS (mOrT (mT (mOps [(.ex (mOps [(.nm 1), (.ex (mC (.int 0)))] dIxA)), (.ex (mC (.str "apart")))] dNeF)) (mT (mOps [(.ex (mOps [(.nm 1)] dLen)), (.ex (mC (.int 4)))] dNeF))) (seqS (retS (mC (.bl false)))
  nextS) nextS)
  (seqS (asgS (.tup [(.nm 3), (.nm 4), (.nm 5)]) (mSl dCutN (.nm 1) (some (.ex (mC (.int 1)))) none))
  (seqS (ifS (mOrT (mNotT (mT (mChain (fun i j => decide (i ≤ j)) (fun i j => decide (i ≤ j)) (.ex (mC (.int 1))) (.nm 3) (.ex (mOps [(.nm 0)] dLen))))) (mOrT (mNotT (mT (mChain (fun i j => decide (i ≤ j)) (fun i j => decide (i < j)) (.ex (mC (.int 0))) (.nm 4) (.ex (mOps [(.nm 0)] dLen))))) (mNotT (mT (mChain (fun i j => decide (i ≤ j)) (fun i j => decide (i < j)) (.ex (mC (.int 0))) (.nm 5) (.ex (mOps [(.nm 0)] dLen))))))) (seqS (retS (mC (.bl false)))
  nextS) nextS)
  (seqS (setS 2 (mCall d__law_counts [(mName 0), (mName 3)]))
  (seqS (retS (mOps [(.ex (mOps [(.nm 2), (.nm 4)] dIxA)), (.ex (mOps [(.ex (mOps [(.nm 2), (.nm 5)] dIxA)), (.ex (mC (.int 2)))] dAddN))] dGe))
  nextS))))))))
def d__law_is_paper : FDen := fden false 2 7 b__law_is_paper
def b__law_is_case_right : MS := (seqS (setS 1 (mCallIo d__law_twos 0 []))
  (seqS (parS 5 6 (mCall d_level_shown [(mName 1)]) (mOps [(.nm 1)] dLen))
  (seqS (setS 2 (mLst [(mName 5), (mC .non), (mTupN [(mC (.str "slope"))]), (mTupN [(mC (.str "apart")), (mC (.int 1)), (mC (.int 0))]), (mLst [(mC (.str "slope")), (mC (.int 1)), (mC (.int 1))]), (mC (.str "slope")), (mTupN [(mC (.str "slope")), (mC (.bl true)), (mC (.bl true))])]))
  (seqS (dropS (mMut false 2 [(mTupN [(mC (.str "slope")), (mMethS dSCount (.nm 1) (.ex (mC (.str "a")))), (mMethS dSCount (.nm 1) (.ex (mC (.str "b"))))])] mfAppend))
  (seqS (forS (mRange1 (.ex (mC (.int 8)))) (.nm 3) (seqS (dropS (mMut false 2 [(mCallIo d__law_bent 0 [(mCallIo d__law_some 0 [(mLst [(mName 5), (mOps [(.nm 2), (.ex (mOps [(.ex (mC (.int 1)))] dNeg))] dIxA)])])])] mfAppend))
  (seqS (dropS (mMut false 2 [(mTupN [(mC (.str "apart")), (mOps [(.ex (mC (.int 1))), (.ex (mCallIo d__law_draw 0 [(mName 6)]))] dAddN), (mCallIo d__law_draw 0 [(mName 6)]), (mCallIo d__law_draw 0 [(mName 6)])])] mfAppend))
  nextS)))
  (seqS (forS (mItems (mName 2)) (.nm 4) (seqS (setS 7 (mReprQ1 (.nm 4)))
  (seqS (setS 8 (mCall d_is_level_shown [(mName 1), (mName 4)]))
  (seqS (ifS (mOrT (mNotT (mT (mOps [(.ex (mCall d__law_is [(mName 8), (mCall d__law_is_paper [(mName 1), (mName 4)])]))] dTru))) (mT (mReprQV true (.nm 4) (.nm 7)))) (seqS (retS (mC (.bl false)))
  nextS) nextS)
  nextS))))
  (seqS (retS (mC (.bl true)))
  nextS)))))))
def d__law_is_case_right : FDen := fden true 1 9 b__law_is_case_right
def b_law : MS := (seqS (setS 1 (mCall d__law_hand [(mName 0)]))
  (seqS (setS 2 (mLst [(mCall d_is_level_shown [(mC (.str "aabb")), (mTupN [(mC (.str "apart")), (mC (.int 2)), (mC (.int 2)), (mC (.int 0))])]), (mCall d_is_level_shown [(mC (.str "aabb")), (mTupN [(mC (.str "apart")), (mC (.int 2)), (mC (.int 0)), (mC (.int 2))])])]))
  (seqS (ifS (mNotT (mT (mOps [(.ex (mCall d__law_is [(mOps [(.nm 2), (.ex (mLst [(mCall d_is_level_shown [(mC (.str "aab")), (mTupN [(mC (.str "slope")), (mC (.int 2)), (mC (.int 1))])])]))] dAddN), (mLst [(mC (.bl true)), (mC (.bl false)), (mC (.bl true))])]))] dTru))) (seqS (retS (mC (.bl false)))
  nextS) nextS)
  (seqS (retS (mOps [(.ex (mLc (mRange1 (.ex (mC (.int 8)))) [3] (.nm 3) (M.pure true) (mCallIo d__law_is_case_right 1 [])))] dAll))
  nextS))))
def d_law : FDen := fden false 1 4 b_law
/-! names of the top -/
structure Gm (K : PySem.W.Frag) (mg : Str → Option Value) : Prop where
  n_abs : mg "abs" = none
  n_all : mg "all" = none
  n_bool : mg "bool" = none
  n_int : mg "int" = none
  n_isinstance : mg "isinstance" = none
  n_len : mg "len" = none
  n_list : mg "list" = none
  n_range : mg "range" = none
  n_repr : mg "repr" = none
  n_str : mg "str" = none
  n_tuple : mg "tuple" = none
  n_zip : mg "zip" = none
  i_MOST_SIZE : ∃ t, mg "MOST_SIZE" = some (.int 60 t)
  s_APART : ∃ t, mg "APART" = some (.str "apart" t)
  s_LETTERS : ∃ t, mg "LETTERS" = some (.str "abcdef" t)
  s_SLOPE : ∃ t, mg "SLOPE" = some (.str "slope" t)
  y_sys : SysK K
section
variable {P : Program} {w : World} {K : PySem.W.Frag} {mg : Str → Option Value} {base : Heap} {f : Addr} {fd : FuncData}
abbrev N__law_hand : List Str := ["script", "cells", "cell"]
theorem sc__law_hand : FnScope ["script", "cells", "cell"] ["script"] (defScope s__law_hand) := ⟨rfl, rfl, rfl, by decide +kernel, rfl, by decide +kernel, by decide +kernel⟩
theorem w__law_hand {cdv : Value} {A : Around} {outer : List Env} {s : Shared} {H : Hp} {E : XK} (G : Gm K mg)  (hr : Room 0 (A.deeper (envOfC "_law_hand" (defScope s__law_hand) s.heap.objs.size f cdv))) (hgd : A.guards = some []) :
    Pss (cxOf (L2.CX P w) P w K mg base ["script", "cells", "cell"] "_law_hand" (defScope s__law_hand) f cdv A outer s H E) (fun cls dx _ H' => E cls dx H') false (defBody s__law_hand) b__law_hand :=
  have tk : Takes (cxOf (L2.CX P w) P w K mg base ["script", "cells", "cell"] "_law_hand" (defScope s__law_hand) f cdv A outer s H E) (fun cls dx _ H' => E cls dx H') := takes_of rfl rfl rfl rfl
  have nd : (["script", "cells", "cell"] : List Str).Nodup := sc__law_hand.nd
  (Pss.cons (Ps.setLc (own := [("cell", 2)]) rfl nd (by rfl) (by rfl) (sw_true rfl rfl rfl (by decide +kernel)) (Or.inl rfl) (Pi.items (Pe.slice (nm 0) Pp.none (Pp.some (Po.ex Pe.int)))) (blk_ok (N := N__law_hand) (sc := defScope s__law_hand) (by decide +kernel)) (by decide) (fun _ _ _ _ _ => (tnm 2 nd)) (fun _ _ _ _ _ => (callB call_abs b_abs G.n_abs (Pas.cons (Po.ex (callTy call_int1 b_int G.n_int (Pas.cons (nm 2) Pas.nil))) Pas.nil))))
  (Pss.cons (Ps.ret (Pe.lst (Pxs.cons (nmv 1) (Pxs.cons Pe.int (Pxs.cons Pe.int (Pxs.cons (Pe.bin or_add b_add (Po.ex Pe.int) (Po.ex (Pe.bin or_mul b_mul (Po.ex Pe.int) (Po.ex (callB c_len b_len G.n_len (Pas.cons (nm 1) Pas.nil)))))) (Pxs.cons Pe.int Pxs.nil)))))))
  Pss.nil))
theorem ok__law_hand (F : FnP K "_law_hand" "_law_hand" s__law_hand f fd) (hm : mg "_law_hand" = some (.ref f)) (G : Gm K mg)  : Cal P w K mg base 1 "_law_hand" ["script"] false d__law_hand :=
  ⟨f, fd, FOk.ofD F sc__law_hand fun cdv A outer s H E hr hgd => w__law_hand G  hr hgd, hm, F.kp, F.bindsN fun _ _ _ _ _ _ us hl => match us, hl with | [_], _ => rfl⟩
abbrev N_is_word : List Str := ["thing", "sign"]
theorem sc_is_word : FnScope ["thing", "sign"] ["thing"] (defScope s_is_word) := ⟨rfl, rfl, rfl, by decide +kernel, rfl, by decide +kernel, by decide +kernel⟩
theorem w_is_word {cdv : Value} {A : Around} {outer : List Env} {s : Shared} {H : Hp} {E : XK} (G : Gm K mg)  (hr : Room 0 (A.deeper (envOfC "is_word" (defScope s_is_word) s.heap.objs.size f cdv))) (hgd : A.guards = some []) :
    Pss (cxOf (L2.CX P w) P w K mg base ["thing", "sign"] "is_word" (defScope s_is_word) f cdv A outer s H E) (fun cls dx _ H' => E cls dx H') false (defBody s_is_word) b_is_word :=
  have tk : Takes (cxOf (L2.CX P w) P w K mg base ["thing", "sign"] "is_word" (defScope s_is_word) f cdv A outer s H E) (fun cls dx _ H' => E cls dx H') := takes_of rfl rfl rfl rfl
  have nd : (["thing", "sign"] : List Str).Nodup := sc_is_word.nd
  (Pss.cons (Ps.ret (Pe.and (Pe.isA .str G.n_isinstance G.n_str (nm 0)) (Pe.and (Pe.chain op_le op_le (Po.ex Pe.int) (Po.ex (callB c_len b_len G.n_len (Pas.cons (nm 0) Pas.nil))) (Po.ex (gint G.i_MOST_SIZE))) (Pe.one (callB (cr_all rfl) b_all G.n_all (Pas.cons (Po.ex (Pe.lc (own := [("sign", 1)]) rfl nd (Pi.items (nmv 0)) (blk_ok (N := N_is_word) (sc := defScope s_is_word) (by decide +kernel)) (by decide) (fun _ _ _ _ _ => (tnm 1 nd)) (fun _ _ _ _ _ => (Pe.cmp (op_inZ (ru1 hr)) (b_inZ false) (nm 1) (Po.ex (gstr G.s_LETTERS)))))) Pas.nil))))))
  Pss.nil)
theorem ok_is_word (F : FnP K "is_word" "is_word" s_is_word f fd) (hm : mg "is_word" = some (.ref f)) (G : Gm K mg)  : Cal P w K mg base 1 "is_word" ["thing"] false d_is_word :=
  ⟨f, fd, FOk.ofD F sc_is_word fun cdv A outer s H E hr hgd => w_is_word G  hr hgd, hm, F.kp, F.bindsN fun _ _ _ _ _ _ us hl => match us, hl with | [_], _ => rfl⟩
theorem sc_is_two_word : FnScope ["thing"] ["thing"] (defScope s_is_two_word) := ⟨rfl, rfl, rfl, by decide +kernel, rfl, by decide +kernel, by decide +kernel⟩
theorem w_is_two_word {cdv : Value} {A : Around} {outer : List Env} {s : Shared} {H : Hp} {E : XK} (G : Gm K mg) (c_is_word : Cal P w K mg base 1 "is_word" ["thing"] false d_is_word) (hr : Room 1 (A.deeper (envOfC "is_two_word" (defScope s_is_two_word) s.heap.objs.size f cdv))) (hgd : A.guards = some []) :
    Pss (cxOf (L2.CX P w) P w K mg base ["thing"] "is_two_word" (defScope s_is_two_word) f cdv A outer s H E) (fun cls dx _ H' => E cls dx H') false (defBody s_is_two_word) b_is_two_word :=
  have tk : Takes (cxOf (L2.CX P w) P w K mg base ["thing"] "is_two_word" (defScope s_is_two_word) f cdv A outer s H E) (fun cls dx _ H' => E cls dx H') := takes_of rfl rfl rfl rfl
  have nd : (["thing"] : List Str).Nodup := sc_is_two_word.nd
  (Pss.cons (Ps.ret (Pe.and (Pe.callC c_is_word (hr.mono (by decide)) hgd tk (Pxs.cons (nmv 0) Pxs.nil)) (Pe.and (Pe.cmp (op_inZ (ru1 hr)) (b_inZ false) (Po.ex Pe.str) (nm 0)) (Pe.and (Pe.cmp (op_inZ (ru1 hr)) (b_inZ false) (Po.ex Pe.str) (nm 0)) (Pe.one (Pe.cmp (or_eq hr) b_eqF (Po.ex (Pe.bin or_addN b_addN (Po.ex (Pe.methS PySem.F.slot_str_count PySem.F.type_str_count mt_count b_scount (nm 0) (Po.ex Pe.str))) (Po.ex (Pe.methS PySem.F.slot_str_count PySem.F.type_str_count mt_count b_scount (nm 0) (Po.ex Pe.str))))) (Po.ex (callB c_len b_len G.n_len (Pas.cons (nm 0) Pas.nil)))))))))
  Pss.nil)
theorem ok_is_two_word (F : FnP K "is_two_word" "is_two_word" s_is_two_word f fd) (hm : mg "is_two_word" = some (.ref f)) (G : Gm K mg) (c_is_word : Cal P w K mg base 1 "is_word" ["thing"] false d_is_word) : Cal P w K mg base 2 "is_two_word" ["thing"] false d_is_two_word :=
  ⟨f, fd, FOk.ofD F sc_is_two_word fun cdv A outer s H E hr hgd => w_is_two_word G c_is_word hr hgd, hm, F.kp, F.bindsN fun _ _ _ _ _ _ us hl => match us, hl with | [_], _ => rfl⟩
theorem sc_check_two_word : FnScope ["word"] ["word"] (defScope s_check_two_word) := ⟨rfl, rfl, rfl, by decide +kernel, rfl, by decide +kernel, by decide +kernel⟩
theorem w_check_two_word {cdv : Value} {A : Around} {outer : List Env} {s : Shared} {H : Hp} {E : XK} (G : Gm K mg) (c_is_two_word : Cal P w K mg base 2 "is_two_word" ["thing"] false d_is_two_word) (hr : Room 2 (A.deeper (envOfC "check_two_word" (defScope s_check_two_word) s.heap.objs.size f cdv))) (hgd : A.guards = some []) :
    Pss (cxOf (L2.CX P w) P w K mg base ["word"] "check_two_word" (defScope s_check_two_word) f cdv A outer s H E) (fun cls dx _ H' => E cls dx H') false (defBody s_check_two_word) b_check_two_word :=
  have tk : Takes (cxOf (L2.CX P w) P w K mg base ["word"] "check_two_word" (defScope s_check_two_word) f cdv A outer s H E) (fun cls dx _ H' => E cls dx H') := takes_of rfl rfl rfl rfl
  have nd : (["word"] : List Str).Nodup := sc_check_two_word.nd
  (Pss.cons (Ps.ifs (Pt.not (Pt.tru (Po.ex (Pe.callC c_is_two_word (hr.mono (by decide)) hgd tk (Pxs.cons (nmv 0) Pxs.nil))))) (Pss.cons Ps.stop
  Pss.nil) Pss.nil)
  Pss.nil)
theorem ok_check_two_word (F : FnP K "check_two_word" "check_two_word" s_check_two_word f fd) (hm : mg "check_two_word" = some (.ref f)) (G : Gm K mg) (c_is_two_word : Cal P w K mg base 2 "is_two_word" ["thing"] false d_is_two_word) : Cal P w K mg base 3 "check_two_word" ["word"] false d_check_two_word :=
  ⟨f, fd, FOk.ofD F sc_check_two_word fun cdv A outer s H E hr hgd => w_check_two_word G c_is_two_word hr hgd, hm, F.kp, F.bindsN fun _ _ _ _ _ _ us hl => match us, hl with | [_], _ => rfl⟩
theorem sc_later_ones : FnScope ["word", "size", "at"] ["word", "size", "at"] (defScope s_later_ones) := ⟨rfl, rfl, rfl, by decide +kernel, rfl, by decide +kernel, by decide +kernel⟩
theorem w_later_ones {cdv : Value} {A : Around} {outer : List Env} {s : Shared} {H : Hp} {E : XK} (G : Gm K mg)  (hr : Room 0 (A.deeper (envOfC "later_ones" (defScope s_later_ones) s.heap.objs.size f cdv))) (hgd : A.guards = some []) :
    Pss (cxOf (L2.CX P w) P w K mg base ["word", "size", "at"] "later_ones" (defScope s_later_ones) f cdv A outer s H E) (fun cls dx _ H' => E cls dx H') false (defBody s_later_ones) b_later_ones :=
  have tk : Takes (cxOf (L2.CX P w) P w K mg base ["word", "size", "at"] "later_ones" (defScope s_later_ones) f cdv A outer s H E) (fun cls dx _ H' => E cls dx H') := takes_of rfl rfl rfl rfl
  have nd : (["word", "size", "at"] : List Str).Nodup := sc_later_ones.nd
  (Pss.cons (Ps.ret (Pe.methS PySem.F.slot_str_count PySem.F.type_str_count mt_count b_scount (Po.ex (Pe.sliceN (Po.ex (Pe.bin or_addN b_addN (nm 0) (nm 0))) (Pp.some (nm 2)) (Pp.some (Po.ex (Pe.bin or_addN b_addN (nm 2) (nm 1)))))) (Po.ex Pe.str)))
  Pss.nil)
theorem ok_later_ones (F : FnP K "later_ones" "later_ones" s_later_ones f fd) (hm : mg "later_ones" = some (.ref f)) (G : Gm K mg)  : Cal P w K mg base 1 "later_ones" ["word", "size", "at"] false d_later_ones :=
  ⟨f, fd, FOk.ofD F sc_later_ones fun cdv A outer s H E hr hgd => w_later_ones G  hr hgd, hm, F.kp, F.bindsN fun _ _ _ _ _ _ us hl => match us, hl with | [_, _, _], _ => rfl⟩
theorem sc_is_apart : FnScope ["word", "size", "i", "j"] ["word", "size", "i", "j"] (defScope s_is_apart) := ⟨rfl, rfl, rfl, by decide +kernel, rfl, by decide +kernel, by decide +kernel⟩
theorem w_is_apart {cdv : Value} {A : Around} {outer : List Env} {s : Shared} {H : Hp} {E : XK} (G : Gm K mg) (c_later_ones : Cal P w K mg base 1 "later_ones" ["word", "size", "at"] false d_later_ones) (hr : Room 1 (A.deeper (envOfC "is_apart" (defScope s_is_apart) s.heap.objs.size f cdv))) (hgd : A.guards = some []) :
    Pss (cxOf (L2.CX P w) P w K mg base ["word", "size", "i", "j"] "is_apart" (defScope s_is_apart) f cdv A outer s H E) (fun cls dx _ H' => E cls dx H') false (defBody s_is_apart) b_is_apart :=
  have tk : Takes (cxOf (L2.CX P w) P w K mg base ["word", "size", "i", "j"] "is_apart" (defScope s_is_apart) f cdv A outer s H E) (fun cls dx _ H' => E cls dx H') := takes_of rfl rfl rfl rfl
  have nd : (["word", "size", "i", "j"] : List Str).Nodup := sc_is_apart.nd
  (Pss.cons (Ps.ret (Pe.cmp or_ge b_cmp2 (Po.ex (Pe.callC c_later_ones (hr.mono (by decide)) hgd tk (Pxs.cons (nmv 0) (Pxs.cons (nmv 1) (Pxs.cons (nmv 2) Pxs.nil))))) (Po.ex (Pe.bin or_addN b_addN (Po.ex (Pe.callC c_later_ones (hr.mono (by decide)) hgd tk (Pxs.cons (nmv 0) (Pxs.cons (nmv 1) (Pxs.cons (nmv 3) Pxs.nil))))) (Po.ex Pe.int)))))
  Pss.nil)
theorem ok_is_apart (F : FnP K "is_apart" "is_apart" s_is_apart f fd) (hm : mg "is_apart" = some (.ref f)) (G : Gm K mg) (c_later_ones : Cal P w K mg base 1 "later_ones" ["word", "size", "at"] false d_later_ones) : Cal P w K mg base 2 "is_apart" ["word", "size", "i", "j"] false d_is_apart :=
  ⟨f, fd, FOk.ofD F sc_is_apart fun cdv A outer s H E hr hgd => w_is_apart G c_later_ones hr hgd, hm, F.kp, F.bindsN fun _ _ _ _ _ _ us hl => match us, hl with | [_, _, _, _], _ => rfl⟩
theorem sc_is_integer : FnScope ["thing"] ["thing"] (defScope s_is_integer) := ⟨rfl, rfl, rfl, by decide +kernel, rfl, by decide +kernel, by decide +kernel⟩
theorem w_is_integer {cdv : Value} {A : Around} {outer : List Env} {s : Shared} {H : Hp} {E : XK} (G : Gm K mg)  (hr : Room 0 (A.deeper (envOfC "is_integer" (defScope s_is_integer) s.heap.objs.size f cdv))) (hgd : A.guards = some []) :
    Pss (cxOf (L2.CX P w) P w K mg base ["thing"] "is_integer" (defScope s_is_integer) f cdv A outer s H E) (fun cls dx _ H' => E cls dx H') false (defBody s_is_integer) b_is_integer :=
  have tk : Takes (cxOf (L2.CX P w) P w K mg base ["thing"] "is_integer" (defScope s_is_integer) f cdv A outer s H E) (fun cls dx _ H' => E cls dx H') := takes_of rfl rfl rfl rfl
  have nd : (["thing"] : List Str).Nodup := sc_is_integer.nd
  (Pss.cons (Ps.ret (Pe.and (Pe.isA .int G.n_isinstance G.n_int (nm 0)) (Pe.one (Pe.notV (Po.ex (Pe.isA .bool G.n_isinstance G.n_bool (nm 0)))))))
  Pss.nil)
theorem ok_is_integer (F : FnP K "is_integer" "is_integer" s_is_integer f fd) (hm : mg "is_integer" = some (.ref f)) (G : Gm K mg)  : Cal P w K mg base 1 "is_integer" ["thing"] false d_is_integer :=
  ⟨f, fd, FOk.ofD F sc_is_integer fun cdv A outer s H E hr hgd => w_is_integer G  hr hgd, hm, F.kp, F.bindsN fun _ _ _ _ _ _ us hl => match us, hl with | [_], _ => rfl⟩
theorem sc_is_within : FnScope ["thing", "low", "high"] ["thing", "low", "high"] (defScope s_is_within) := ⟨rfl, rfl, rfl, by decide +kernel, rfl, by decide +kernel, by decide +kernel⟩
theorem w_is_within {cdv : Value} {A : Around} {outer : List Env} {s : Shared} {H : Hp} {E : XK} (G : Gm K mg) (c_is_integer : Cal P w K mg base 1 "is_integer" ["thing"] false d_is_integer) (hr : Room 1 (A.deeper (envOfC "is_within" (defScope s_is_within) s.heap.objs.size f cdv))) (hgd : A.guards = some []) :
    Pss (cxOf (L2.CX P w) P w K mg base ["thing", "low", "high"] "is_within" (defScope s_is_within) f cdv A outer s H E) (fun cls dx _ H' => E cls dx H') false (defBody s_is_within) b_is_within :=
  have tk : Takes (cxOf (L2.CX P w) P w K mg base ["thing", "low", "high"] "is_within" (defScope s_is_within) f cdv A outer s H E) (fun cls dx _ H' => E cls dx H') := takes_of rfl rfl rfl rfl
  have nd : (["thing", "low", "high"] : List Str).Nodup := sc_is_within.nd
  (Pss.cons (Ps.ret (Pe.and (Pe.callC c_is_integer (hr.mono (by decide)) hgd tk (Pxs.cons (nmv 0) Pxs.nil)) (Pe.one (Pe.chain op_le op_le (nm 1) (nm 0) (nm 2)))))
  Pss.nil)
theorem ok_is_within (F : FnP K "is_within" "is_within" s_is_within f fd) (hm : mg "is_within" = some (.ref f)) (G : Gm K mg) (c_is_integer : Cal P w K mg base 1 "is_integer" ["thing"] false d_is_integer) : Cal P w K mg base 2 "is_within" ["thing", "low", "high"] false d_is_within :=
  ⟨f, fd, FOk.ofD F sc_is_within fun cdv A outer s H E hr hgd => w_is_within G c_is_integer hr hgd, hm, F.kp, F.bindsN fun _ _ _ _ _ _ us hl => match us, hl with | [_, _, _], _ => rfl⟩
abbrev N_first_apart : List Str := ["word", "size", "i", "some", "j"]
theorem sc_first_apart : FnScope ["word", "size", "i", "some", "j"] ["word"] (defScope s_first_apart) := ⟨rfl, rfl, rfl, by decide +kernel, rfl, by decide +kernel, by decide +kernel⟩
theorem w_first_apart {cdv : Value} {A : Around} {outer : List Env} {s : Shared} {H : Hp} {E : XK} (G : Gm K mg) (c_is_apart : Cal P w K mg base 2 "is_apart" ["word", "size", "i", "j"] false d_is_apart) (hr : Room 2 (A.deeper (envOfC "first_apart" (defScope s_first_apart) s.heap.objs.size f cdv))) (hgd : A.guards = some []) :
    Pss (cxOf (L2.CX P w) P w K mg base ["word", "size", "i", "some", "j"] "first_apart" (defScope s_first_apart) f cdv A outer s H E) (fun cls dx _ H' => E cls dx H') false (defBody s_first_apart) b_first_apart :=
  have tk : Takes (cxOf (L2.CX P w) P w K mg base ["word", "size", "i", "some", "j"] "first_apart" (defScope s_first_apart) f cdv A outer s H E) (fun cls dx _ H' => E cls dx H') := takes_of rfl rfl rfl rfl
  have nd : (["word", "size", "i", "some", "j"] : List Str).Nodup := sc_first_apart.nd
  (Pss.cons (sfor (passes_of rfl) (Pi.range2 (by rfl) G.n_range (Po.ex Pe.int) (Po.ex (Pe.bin or_addN b_addN (Po.ex (callB c_len b_len G.n_len (Pas.cons (nm 0) Pas.nil))) (Po.ex Pe.int)))) (tnm 1 nd) (Pss.cons (sfor (passes_of rfl) (Pi.range1 (by rfl) G.n_range (Po.ex (callB c_len b_len G.n_len (Pas.cons (nm 0) Pas.nil)))) (tnm 2 nd) (Pss.cons (Ps.setLcIf (own := [("j", 4)]) rfl nd (by rfl) (by rfl) (sw_true rfl rfl rfl (by decide +kernel)) (Or.inl rfl) (Pi.range1 (by rfl) G.n_range (Po.ex (callB c_len b_len G.n_len (Pas.cons (nm 0) Pas.nil)))) (blk_ok (N := N_first_apart) (sc := defScope s_first_apart) (by decide +kernel)) (by decide) (fun _ _ _ _ _ => (tnm 4 nd)) (fun _ _ _ _ _ => (Pt.tru (Po.ex (Pe.callC c_is_apart (hr.mono (by decide)) hgd tk0 (Pxs.cons (nmv 0) (Pxs.cons (nmv 1) (Pxs.cons (nmv 2) (Pxs.cons (nmv 4) Pxs.nil)))))))) (fun _ _ _ _ _ => (nmv 4)))
  (Pss.cons (Ps.ifs (Pt.cmp or_gt b_cmp2 (Po.ex (callB c_len b_len G.n_len (Pas.cons (nm 3) Pas.nil))) (Po.ex Pe.int)) (Pss.cons (Ps.ret (Pe.tupN (Pxs.cons (nmv 1) (Pxs.cons (nmv 2) (Pxs.cons (Pe.ixA (ru1 hr) (nm 3) (Po.ex Pe.int)) Pxs.nil)))))
  Pss.nil) Pss.nil)
  Pss.nil)) (Or.inl rfl))
  Pss.nil) (Or.inl rfl))
  (Pss.cons (Ps.ret Pe.non)
  Pss.nil))
theorem ok_first_apart (F : FnP K "first_apart" "first_apart" s_first_apart f fd) (hm : mg "first_apart" = some (.ref f)) (G : Gm K mg) (c_is_apart : Cal P w K mg base 2 "is_apart" ["word", "size", "i", "j"] false d_is_apart) : Cal P w K mg base 3 "first_apart" ["word"] false d_first_apart :=
  ⟨f, fd, FOk.ofD F sc_first_apart fun cdv A outer s H E hr hgd => w_first_apart G c_is_apart hr hgd, hm, F.kp, F.bindsN fun _ _ _ _ _ _ us hl => match us, hl with | [_], _ => rfl⟩
abbrev N_is_level_shown : List Str := ["word", "thing", "one", "at"]
theorem sc_is_level_shown : FnScope ["word", "thing", "one", "at"] ["word", "thing"] (defScope s_is_level_shown) := ⟨rfl, rfl, rfl, by decide +kernel, rfl, by decide +kernel, by decide +kernel⟩
theorem w_is_level_shown {cdv : Value} {A : Around} {outer : List Env} {s : Shared} {H : Hp} {E : XK} (G : Gm K mg) (c_check_two_word : Cal P w K mg base 3 "check_two_word" ["word"] false d_check_two_word) (c_first_apart : Cal P w K mg base 3 "first_apart" ["word"] false d_first_apart) (c_is_apart : Cal P w K mg base 2 "is_apart" ["word", "size", "i", "j"] false d_is_apart) (c_is_integer : Cal P w K mg base 1 "is_integer" ["thing"] false d_is_integer) (c_is_within : Cal P w K mg base 2 "is_within" ["thing", "low", "high"] false d_is_within) (hr : Room 3 (A.deeper (envOfC "is_level_shown" (defScope s_is_level_shown) s.heap.objs.size f cdv))) (hgd : A.guards = some []) :
    Pss (cxOf (L2.CX P w) P w K mg base ["word", "thing", "one", "at"] "is_level_shown" (defScope s_is_level_shown) f cdv A outer s H E) (fun cls dx _ H' => E cls dx H') false (defBody s_is_level_shown) b_is_level_shown :=
  have tk : Takes (cxOf (L2.CX P w) P w K mg base ["word", "thing", "one", "at"] "is_level_shown" (defScope s_is_level_shown) f cdv A outer s H E) (fun cls dx _ H' => E cls dx H') := takes_of rfl rfl rfl rfl
  have nd : (["word", "thing", "one", "at"] : List Str).Nodup := sc_is_level_shown.nd
  (Pss.cons (sdrop (Pe.callC c_check_two_word (hr.mono (by decide)) hgd tk (Pxs.cons (nmv 0) Pxs.nil)))
  (Pss.cons (Ps.ifs (Pt.bool (Pw.or (Pt.not (Pt.tru (Po.ex (Pe.isA .tuple G.n_isinstance G.n_tuple (nm 1))))) (Pw.or (Pt.cmp (op_notInA (ru1 hr)) (b_inA true) (Po.ex (callB c_len b_len G.n_len (Pas.cons (nm 1) Pas.nil))) (Po.ex (Pe.tupN (Pxs.cons Pe.int (Pxs.cons Pe.int Pxs.nil))))) (Pw.or1 (Pt.not (Pt.tru (Po.ex (Pe.isA .str G.n_isinstance G.n_str (Po.ex (Pe.ixA (ru1 hr) (nm 1) (Po.ex Pe.int))))))))))) (Pss.cons (Ps.ret Pe.bl)
  Pss.nil) Pss.nil)
  (Pss.cons (Ps.ifs (Pt.not (Pt.tru (Po.ex (callB (cr_all rfl) b_all G.n_all (Pas.cons (Po.ex (Pe.lc (own := [("one", 2)]) rfl nd (Pi.items (Pe.sliceN (nm 1) (Pp.some (Po.ex Pe.int)) Pp.none)) (blk_ok (N := N_is_level_shown) (sc := defScope s_is_level_shown) (by decide +kernel)) (by decide) (fun _ _ _ _ _ => (tnm 2 nd)) (fun _ _ _ _ _ => (Pe.callC c_is_integer (hr.mono (by decide)) hgd tk0 (Pxs.cons (nmv 2) Pxs.nil))))) Pas.nil))))) (Pss.cons (Ps.ret Pe.bl)
  Pss.nil) Pss.nil)
  (Pss.cons (Ps.ifs (Pt.cmp (or_eq hr) b_eqF (Po.ex (callB c_len b_len G.n_len (Pas.cons (nm 1) Pas.nil))) (Po.ex Pe.int)) (Pss.cons (Ps.ret (Pe.and (Pe.cmp (or_eq hr) b_eqF (Po.ex (Pe.ixA (ru1 hr) (nm 1) (Po.ex Pe.int))) (Po.ex (gstr G.s_SLOPE))) (Pe.and (Pe.cmp or_is b_is (Po.ex (Pe.callC c_first_apart (hr.mono (by decide)) hgd tk (Pxs.cons (nmv 0) Pxs.nil))) (Po.ex Pe.non)) (Pe.one (Pe.cmp (or_eq hr) b_eqF (Po.ex (Pe.sliceN (nm 1) (Pp.some (Po.ex Pe.int)) Pp.none)) (Po.ex (Pe.tupN (Pxs.cons (Pe.methS PySem.F.slot_str_count PySem.F.type_str_count mt_count b_scount (nm 0) (Po.ex Pe.str)) (Pxs.cons (Pe.methS PySem.F.slot_str_count PySem.F.type_str_count mt_count b_scount (nm 0) (Po.ex Pe.str)) Pxs.nil)))))))))
  Pss.nil) Pss.nil)
  (Pss.cons (Ps.ifs (Pt.bool (Pw.or (Pt.cmp (or_ne hr) b_neF (Po.ex (Pe.ixA (ru1 hr) (nm 1) (Po.ex Pe.int))) (Po.ex (gstr G.s_APART))) (Pw.or1 (Pt.not (Pt.tru (Po.ex (Pe.callC c_is_within (hr.mono (by decide)) hgd tk (Pxs.cons (Pe.ixA (ru1 hr) (nm 1) (Po.ex Pe.int)) (Pxs.cons Pe.int (Pxs.cons (callB c_len b_len G.n_len (Pas.cons (nm 0) Pas.nil)) Pxs.nil)))))))))) (Pss.cons (Ps.ret Pe.bl)
  Pss.nil) Pss.nil)
  (Pss.cons (Ps.ifs (Pt.not (Pt.tru (Po.ex (callB (cr_all rfl) b_all G.n_all (Pas.cons (Po.ex (Pe.lc (own := [("at", 3)]) rfl nd (Pi.items (Pe.sliceN (nm 1) (Pp.some (Po.ex Pe.int)) Pp.none)) (blk_ok (N := N_is_level_shown) (sc := defScope s_is_level_shown) (by decide +kernel)) (by decide) (fun _ _ _ _ _ => (tnm 3 nd)) (fun _ _ _ _ _ => (Pe.callC c_is_within (hr.mono (by decide)) hgd tk0 (Pxs.cons (nmv 3) (Pxs.cons Pe.int (Pxs.cons (Pe.bin op_sub b_sub (Po.ex (callB c_len b_len G.n_len (Pas.cons (nm 0) Pas.nil))) (Po.ex Pe.int)) Pxs.nil))))))) Pas.nil))))) (Pss.cons (Ps.ret Pe.bl)
  Pss.nil) Pss.nil)
  (Pss.cons (Ps.ret (Pe.callC c_is_apart (hr.mono (by decide)) hgd tk (Pxs.cons (nmv 0) (Pxs.cons (Pe.ixA (ru1 hr) (nm 1) (Po.ex Pe.int)) (Pxs.cons (Pe.ixA (ru1 hr) (nm 1) (Po.ex Pe.int)) (Pxs.cons (Pe.ixA (ru1 hr) (nm 1) (Po.ex Pe.int)) Pxs.nil))))))
  Pss.nil)))))))
theorem ok_is_level_shown (F : FnP K "is_level_shown" "is_level_shown" s_is_level_shown f fd) (hm : mg "is_level_shown" = some (.ref f)) (G : Gm K mg) (c_check_two_word : Cal P w K mg base 3 "check_two_word" ["word"] false d_check_two_word) (c_first_apart : Cal P w K mg base 3 "first_apart" ["word"] false d_first_apart) (c_is_apart : Cal P w K mg base 2 "is_apart" ["word", "size", "i", "j"] false d_is_apart) (c_is_integer : Cal P w K mg base 1 "is_integer" ["thing"] false d_is_integer) (c_is_within : Cal P w K mg base 2 "is_within" ["thing", "low", "high"] false d_is_within) : Cal P w K mg base 4 "is_level_shown" ["word", "thing"] false d_is_level_shown :=
  ⟨f, fd, FOk.ofD F sc_is_level_shown fun cdv A outer s H E hr hgd => w_is_level_shown G c_check_two_word c_first_apart c_is_apart c_is_integer c_is_within hr hgd, hm, F.kp, F.bindsN fun _ _ _ _ _ _ us hl => match us, hl with | [_, _], _ => rfl⟩
abbrev N__law_is : List Str := ["got", "due", "one", "other"]
theorem sc__law_is : FnScope ["got", "due", "one", "other"] ["got", "due"] (defScope s__law_is) := ⟨rfl, rfl, rfl, by decide +kernel, rfl, by decide +kernel, by decide +kernel⟩
theorem w__law_is {cdv : Value} {A : Around} {outer : List Env} {s : Shared} {H : Hp} {E : XK} {j : Nat} {r__law_is : FDen} (G : Gm K mg)  (c__law_is : Cal P w K mg base j "_law_is" ["got", "due"] false r__law_is) (hr : Room (j + 0) (A.deeper (envOfC "_law_is" (defScope s__law_is) s.heap.objs.size f cdv))) (hgd : A.guards = some []) :
    Pss (cxOf (L2.CX P w) P w K mg base ["got", "due", "one", "other"] "_law_is" (defScope s__law_is) f cdv A outer s H E) (fun cls dx _ H' => E cls dx H') false (defBody s__law_is) (b__law_is r__law_is) :=
  have tk : Takes (cxOf (L2.CX P w) P w K mg base ["got", "due", "one", "other"] "_law_is" (defScope s__law_is) f cdv A outer s H E) (fun cls dx _ H' => E cls dx H') := takes_of rfl rfl rfl rfl
  have nd : (["got", "due", "one", "other"] : List Str).Nodup := sc__law_is.nd
  (Pss.cons (Ps.ifs (Pt.tru (Po.ex (Pe.isA2 .tuple .list G.n_isinstance G.n_tuple G.n_list (nm 1)))) (Pss.cons (Ps.ifs (Pt.cmp (or_ne hr) b_neF (Po.ex (Pe.isA .tuple G.n_isinstance G.n_tuple (nm 0))) (Po.ex (Pe.isA .tuple G.n_isinstance G.n_tuple (nm 1)))) (Pss.cons (Ps.ret Pe.bl)
  Pss.nil) Pss.nil)
  (Pss.cons (Ps.ifs (Pt.bool (Pw.or (Pt.cmp (or_ne hr) b_neF (Po.ex (Pe.isA .list G.n_isinstance G.n_list (nm 0))) (Po.ex (Pe.isA .list G.n_isinstance G.n_list (nm 1)))) (Pw.or1 (Pt.cmp (or_ne hr) b_neF (Po.ex (callB c_len b_len G.n_len (Pas.cons (nm 0) Pas.nil))) (Po.ex (callB c_len b_len G.n_len (Pas.cons (nm 1) Pas.nil))))))) (Pss.cons (Ps.ret Pe.bl)
  Pss.nil) Pss.nil)
  (Pss.cons (Ps.ret (callB (cr_all rfl) b_all G.n_all (Pas.cons (Po.ex (Pe.lc (own := [("one", 2), ("other", 3)]) rfl nd (Pi.zipX (by rfl) G.n_zip (nmv 0) (nmv 1)) (blk_ok (N := N__law_is) (sc := defScope s__law_is) (by decide +kernel)) (by decide) (fun _ _ _ _ _ => (ttup rfl (tcons (tnm 2 nd) (tcons (tnm 3 nd) Pgs.nil)))) (fun _ _ _ _ _ => (Pe.callC c__law_is (hr.mono (by omega)) hgd tk0 (Pxs.cons (nmv 2) (Pxs.cons (nmv 3) Pxs.nil)))))) Pas.nil)))
  Pss.nil))) Pss.nil)
  (Pss.cons (Ps.ifs (Pt.bool (Pw.or (Pt.cmp or_is b_is (nm 1) (Po.ex Pe.non)) (Pw.or1 (Pt.cmp or_is b_is (nm 0) (Po.ex Pe.non))))) (Pss.cons (Ps.ret (Pe.and (Pe.cmp or_is b_is (nm 1) (Po.ex Pe.non)) (Pe.one (Pe.cmp or_is b_is (nm 0) (Po.ex Pe.non)))))
  Pss.nil) Pss.nil)
  (Pss.cons (Ps.ifs (Pt.cmp (or_ne hr) b_neF (Po.ex (Pe.isA .bool G.n_isinstance G.n_bool (nm 0))) (Po.ex (Pe.isA .bool G.n_isinstance G.n_bool (nm 1)))) (Pss.cons (Ps.ret Pe.bl)
  Pss.nil) Pss.nil)
  (Pss.cons (Ps.ret (Pe.and (Pe.cmp (or_eq hr) b_eqF (Po.ex (Pe.isA .str G.n_isinstance G.n_str (nm 0))) (Po.ex (Pe.isA .str G.n_isinstance G.n_str (nm 1)))) (Pe.one (Pe.cmp (or_eq hr) b_eqF (nm 0) (nm 1)))))
  Pss.nil))))
theorem st__law_is {j : Nat} {r__law_is : FDen} (F : FnP K "_law_is" "_law_is" s__law_is f fd) (hm : mg "_law_is" = some (.ref f)) (G : Gm K mg)  (c__law_is : Cal P w K mg base j "_law_is" ["got", "due"] false r__law_is) : Cal P w K mg base (j + 0 + 1) "_law_is" ["got", "due"] false (fden false 2 4 (b__law_is r__law_is)) :=
  ⟨f, fd, FOk.ofD F sc__law_is fun cdv A outer s H E hr hgd => w__law_is G  c__law_is hr hgd, hm, F.kp, F.bindsN fun _ _ _ _ _ _ us hl => match us, hl with | [_, _], _ => rfl⟩
theorem rec__law_is (F : FnP K "_law_is" "_law_is" s__law_is f fd) (hm : mg "_law_is" = some (.ref f)) (G : Gm K mg)   (k : Nat) : Cal P w K mg base (1 * k) "_law_is" ["got", "due"] false (dR__law_is k) := by
  induction k with
  | zero => exact ⟨f, fd, FOk.stuckk, hm, F.kp, F.bindsN fun _ _ _ _ _ _ us hl => match us, hl with | [_, _], _ => rfl⟩
  | succ k ih => exact st__law_is F hm G  ih
theorem ok__law_is (F : FnP K "_law_is" "_law_is" s__law_is f fd) (hm : mg "_law_is" = some (.ref f)) (G : Gm K mg)   : Cal P w K mg base 12 "_law_is" ["got", "due"] false d__law_is := rec__law_is F hm G  12
theorem sc__law_draw : FnScope ["hand", "many", "number", "cell", "digit"] ["hand", "many"] (defScope s__law_draw) := ⟨rfl, rfl, rfl, by decide +kernel, rfl, by decide +kernel, by decide +kernel⟩
theorem w__law_draw {cdv : Value} {A : Around} {outer : List Env} {s : Shared} {H : Hp} {E : XK} (G : Gm K mg)  (hr : Room 0 (A.deeper (envOfC "_law_draw" (defScope s__law_draw) s.heap.objs.size f cdv))) (hgd : A.guards = some []) :
    Pss (cxOf (L2.CX P w) P w K mg base ["hand", "many", "number", "cell", "digit"] "_law_draw" (defScope s__law_draw) f cdv A outer s H E) (fun cls dx _ H' => E cls dx H') true (defBody s__law_draw) b__law_draw :=
  have tk : Takes (cxOf (L2.CX P w) P w K mg base ["hand", "many", "number", "cell", "digit"] "_law_draw" (defScope s__law_draw) f cdv A outer s H E) (fun cls dx _ H' => E cls dx H') := takes_of rfl rfl rfl rfl
  have nd : (["hand", "many", "number", "cell", "digit"] : List Str).Nodup := sc__law_draw.nd
  (Pss.cons (Ps.ifs (Pt.bool (Pw.and (Pt.cmp (or_eq hr) b_eqF (Po.ex (Pe.ix (nm 0) (Po.ex Pe.int))) (Po.ex Pe.int)) (Pw.and1 (Pt.cmp (or_lt (ru0 hr)) b_lt (Po.ex (Pe.ix (nm 0) (Po.ex Pe.int))) (Po.ex (callB c_len b_len G.n_len (Pas.cons (Po.ex (Pe.ix (nm 0) (Po.ex Pe.int))) Pas.nil))))))) (Pss.cons (sset 3 (Pe.ix (Po.ex (Pe.ix (nm 0) (Po.ex Pe.int))) (Po.ex (Pe.ix (nm 0) (Po.ex Pe.int)))) (Or.inr (by decide)) nd)
  (Pss.cons (Ps.store (set_any (ru1 hr)) ss_any (Pe.bin or_add b_add (Po.ex (Pe.ix (nm 0) (Po.ex Pe.int))) (Po.ex Pe.int)) (nm 0) (Po.ex Pe.int))
  (Pss.cons (Ps.store (set_any (ru1 hr)) ss_any (Pe.bin op_mod b_mod (Po.ex (callTy call_int1 b_int G.n_int (Pas.cons (Po.ex (Pe.bin or_add b_add (Po.ex (Pe.bin or_add b_add (Po.ex (Pe.bin or_mul b_mul (Po.ex (Pe.ix (nm 0) (Po.ex Pe.int))) (Po.ex Pe.int))) (nm 3))) (Po.ex Pe.int))) Pas.nil))) (Po.ex Pe.int)) (nm 0) (Po.ex Pe.int))
  (Pss.cons (Ps.ifs (Pt.cmp or_ge b_cmp2 (nm 3) (Po.ex (Pe.bin op_pow b_pow (Po.ex Pe.int) (Po.ex Pe.int)))) (Pss.cons (Ps.store (set_any (ru1 hr)) ss_any (nmv 3) (nm 0) (Po.ex Pe.int))
  Pss.nil) Pss.nil)
  Pss.nil)))) Pss.nil)
  (Pss.cons (Ps.ifs (Pt.cmp or_gt b_cmp2 (Po.ex (Pe.ix (nm 0) (Po.ex Pe.int))) (Po.ex Pe.int)) (Pss.cons (sset 4 (Pe.bin op_mod b_mod (Po.ex (callTy call_int1 b_int G.n_int (Pas.cons (Po.ex (Pe.ix (nm 0) (Po.ex Pe.int))) Pas.nil))) (nm 1)) (Or.inr (by decide)) nd)
  (Pss.cons (Ps.store (set_any (ru1 hr)) ss_any (Pe.bin op_fdiv b_fdiv (Po.ex (Pe.ix (nm 0) (Po.ex Pe.int))) (nm 1)) (nm 0) (Po.ex Pe.int))
  (Pss.cons (sback 4)
  Pss.nil))) Pss.nil)
  (Pss.cons (Ps.store (set_any (ru1 hr)) ss_any (Pe.bin or_add b_add (Po.ex (Pe.ix (nm 0) (Po.ex Pe.int))) (Po.ex Pe.int)) (nm 0) (Po.ex Pe.int))
  (Pss.cons (sset 2 (Pe.bin op_mod b_mod (Po.ex (callTy call_int1 b_int G.n_int (Pas.cons (Po.ex (Pe.bin or_mul b_mul (Po.ex (callTy call_int1 b_int G.n_int (Pas.cons (Po.ex (Pe.bin or_add b_add (Po.ex (Pe.ix (nm 0) (Po.ex Pe.int))) (Po.ex (Pe.bin or_mul b_mul (Po.ex Pe.int) (Po.ex (Pe.ix (nm 0) (Po.ex Pe.int))))))) Pas.nil))) (Po.ex Pe.int))) Pas.nil))) (Po.ex Pe.int)) (Or.inr (by decide)) nd)
  (Pss.cons (sset 2 (Pe.bin op_mod b_mod (Po.ex (callTy call_int1 b_int G.n_int (Pas.cons (Po.ex (Pe.bin or_mul b_mul (nm 2) (Po.ex (Pe.bin or_add b_add (Po.ex (Pe.bin op_fdiv b_fdiv (nm 2) (Po.ex Pe.int))) (Po.ex Pe.int))))) Pas.nil))) (Po.ex Pe.int)) (Or.inr (by decide)) nd)
  (Pss.cons (sset 2 (Pe.bin op_mod b_mod (Po.ex (callTy call_int1 b_int G.n_int (Pas.cons (Po.ex (Pe.bin or_mul b_mul (nm 2) (Po.ex (Pe.bin or_add b_add (Po.ex (Pe.bin op_fdiv b_fdiv (nm 2) (Po.ex Pe.int))) (Po.ex Pe.int))))) Pas.nil))) (Po.ex Pe.int)) (Or.inr (by decide)) nd)
  (Pss.cons (Ps.ret (Pe.bin op_mod b_mod (Po.ex (callTy call_int1 b_int G.n_int (Pas.cons (Po.ex (Pe.bin op_fdiv b_fdiv (nm 2) (Po.ex Pe.int))) Pas.nil))) (nm 1)))
  Pss.nil)))))))
theorem ok__law_draw (F : FnP K "_law_draw" "_law_draw" s__law_draw f fd) (hm : mg "_law_draw" = some (.ref f)) (G : Gm K mg)  : Cal P w K mg base 1 "_law_draw" ["hand", "many"] true d__law_draw :=
  ⟨f, fd, FOk.ofD F sc__law_draw fun cdv A outer s H E hr hgd => w__law_draw G  hr hgd, hm, F.kp, F.bindsN fun _ _ _ _ _ _ us hl => match us, hl with | [_, _], _ => rfl⟩
theorem sc__law_level : FnScope ["a", "b", "turn", "found", "rest"] ["a", "b"] (defScope s__law_level) := ⟨rfl, rfl, rfl, by decide +kernel, rfl, by decide +kernel, by decide +kernel⟩
theorem w__law_level {cdv : Value} {A : Around} {outer : List Env} {s : Shared} {H : Hp} {E : XK} (G : Gm K mg)  (hr : Room 0 (A.deeper (envOfC "_law_level" (defScope s__law_level) s.heap.objs.size f cdv))) (hgd : A.guards = some []) :
    Pss (cxOf (L2.CX P w) P w K mg base ["a", "b", "turn", "found", "rest"] "_law_level" (defScope s__law_level) f cdv A outer s H E) (fun cls dx _ H' => E cls dx H') false (defBody s__law_level) b__law_level :=
  have tk : Takes (cxOf (L2.CX P w) P w K mg base ["a", "b", "turn", "found", "rest"] "_law_level" (defScope s__law_level) f cdv A outer s H E) (fun cls dx _ H' => E cls dx H') := takes_of rfl rfl rfl rfl
  have nd : (["a", "b", "turn", "found", "rest"] : List Str).Nodup := sc__law_level.nd
  (Pss.cons (Ps.par (i := 3) (j := 4) rfl nd (by rfl) (by rfl) (by decide) (by rfl) (by rfl) (Pe.lst Pxs.nil) Pe.int (Or.inl rfl) (by rfl))
  (Pss.cons (sfor (passes_of rfl) (Pi.range1 (by rfl) G.n_range (Po.ex (Pe.bin or_addN b_addN (nm 0) (nm 1)))) (tnm 2 nd) (Pss.cons (sset 4 (Pe.bin or_addN b_addN (nm 4) (nm 1)) (Or.inl rfl) nd)
  (Pss.cons (sdrop (Pe.mut (kd := false) PySem.F.plainAttrs_list PySem.F.slot_list_append PySem.F.type_list_append mt_append ms_append (nm 3) (Pxs.cons (Pe.ifExp (Pt.cmp or_ge b_cmp2 (nm 4) (Po.ex (Pe.bin or_addN b_addN (nm 0) (nm 1)))) Pe.str Pe.str) Pxs.nil)))
  (Pss.cons (sset 4 (Pe.ifExp (Pt.cmp or_ge b_cmp2 (nm 4) (Po.ex (Pe.bin or_addN b_addN (nm 0) (nm 1)))) (Pe.bin op_sub b_sub (Po.ex (Pe.bin op_sub b_sub (nm 4) (nm 0))) (nm 1)) (nmv 4)) (Or.inl rfl) nd)
  Pss.nil))) (Or.inl rfl))
  (Pss.cons (Ps.ret (Pe.methS PySem.F.slot_str_join PySem.F.type_str_join mt_join b_join (Po.ex Pe.str) (nm 3)))
  Pss.nil)))
theorem ok__law_level (F : FnP K "_law_level" "_law_level" s__law_level f fd) (hm : mg "_law_level" = some (.ref f)) (G : Gm K mg)  : Cal P w K mg base 1 "_law_level" ["a", "b"] false d__law_level :=
  ⟨f, fd, FOk.ofD F sc__law_level fun cdv A outer s H E hr hgd => w__law_level G  hr hgd, hm, F.kp, F.bindsN fun _ _ _ _ _ _ us hl => match us, hl with | [_, _], _ => rfl⟩
theorem sc__law_some : FnScope ["hand", "things"] ["hand", "things"] (defScope s__law_some) := ⟨rfl, rfl, rfl, by decide +kernel, rfl, by decide +kernel, by decide +kernel⟩
theorem w__law_some {cdv : Value} {A : Around} {outer : List Env} {s : Shared} {H : Hp} {E : XK} (G : Gm K mg) (c__law_draw : Cal P w K mg base 1 "_law_draw" ["hand", "many"] true d__law_draw) (hr : Room 1 (A.deeper (envOfC "_law_some" (defScope s__law_some) s.heap.objs.size f cdv))) (hgd : A.guards = some []) :
    Pss (cxOf (L2.CX P w) P w K mg base ["hand", "things"] "_law_some" (defScope s__law_some) f cdv A outer s H E) (fun cls dx _ H' => E cls dx H') true (defBody s__law_some) b__law_some :=
  have tk : Takes (cxOf (L2.CX P w) P w K mg base ["hand", "things"] "_law_some" (defScope s__law_some) f cdv A outer s H E) (fun cls dx _ H' => E cls dx H') := takes_of rfl rfl rfl rfl
  have nd : (["hand", "things"] : List Str).Nodup := sc__law_some.nd
  (Pss.cons (Ps.ret (Pe.ix (nm 1) (Po.ex (Pe.callCio c__law_draw (hr.mono (by decide)) hgd tk (nm 0) (Pxs.cons (callB c_len b_len G.n_len (Pas.cons (nm 1) Pas.nil)) Pxs.nil)))))
  Pss.nil)
theorem ok__law_some (F : FnP K "_law_some" "_law_some" s__law_some f fd) (hm : mg "_law_some" = some (.ref f)) (G : Gm K mg) (c__law_draw : Cal P w K mg base 1 "_law_draw" ["hand", "many"] true d__law_draw) : Cal P w K mg base 2 "_law_some" ["hand", "things"] true d__law_some :=
  ⟨f, fd, FOk.ofD F sc__law_some fun cdv A outer s H E hr hgd => w__law_some G c__law_draw hr hgd, hm, F.kp, F.bindsN fun _ _ _ _ _ _ us hl => match us, hl with | [_, _], _ => rfl⟩
abbrev N__law_twos : List Str := ["hand", "place", "word", "a", "b", "kind", "at"]
theorem sc__law_twos : FnScope ["hand", "place", "word", "a", "b", "kind", "at"] ["hand"] (defScope s__law_twos) := ⟨rfl, rfl, rfl, by decide +kernel, rfl, by decide +kernel, by decide +kernel⟩
theorem w__law_twos {cdv : Value} {A : Around} {outer : List Env} {s : Shared} {H : Hp} {E : XK} (G : Gm K mg) (c__law_draw : Cal P w K mg base 1 "_law_draw" ["hand", "many"] true d__law_draw) (c__law_level : Cal P w K mg base 1 "_law_level" ["a", "b"] false d__law_level) (c__law_some : Cal P w K mg base 2 "_law_some" ["hand", "things"] true d__law_some) (hr : Room 2 (A.deeper (envOfC "_law_twos" (defScope s__law_twos) s.heap.objs.size f cdv))) (hgd : A.guards = some []) :
    Pss (cxOf (L2.CX P w) P w K mg base ["hand", "place", "word", "a", "b", "kind", "at"] "_law_twos" (defScope s__law_twos) f cdv A outer s H E) (fun cls dx _ H' => E cls dx H') true (defBody s__law_twos) b__law_twos :=
  have tk : Takes (cxOf (L2.CX P w) P w K mg base ["hand", "place", "word", "a", "b", "kind", "at"] "_law_twos" (defScope s__law_twos) f cdv A outer s H E) (fun cls dx _ H' => E cls dx H') := takes_of rfl rfl rfl rfl
  have nd : (["hand", "place", "word", "a", "b", "kind", "at"] : List Str).Nodup := sc__law_twos.nd
  (Pss.cons (Ps.par (i := 3) (j := 4) rfl nd (by rfl) (by rfl) (by decide) (by rfl) (by rfl) (Pe.bin or_addN b_addN (Po.ex Pe.int) (Po.ex (Pe.callCio c__law_draw (hr.mono (by decide)) hgd tk (nm 0) (Pxs.cons Pe.int Pxs.nil)))) (Pe.bin or_addN b_addN (Po.ex Pe.int) (Po.ex (Pe.callCio c__law_draw (hr.mono (by decide)) hgd tk (nm 0) (Pxs.cons Pe.int Pxs.nil)))) (Or.inr ⟨by decide, by decide⟩) (by rfl))
  (Pss.cons (Ps.par (i := 2) (j := 5) rfl nd (by rfl) (by rfl) (by decide) (by rfl) (by rfl) (Pe.callC c__law_level (hr.mono (by decide)) hgd tk (Pxs.cons (nmv 3) (Pxs.cons (nmv 4) Pxs.nil))) (Pe.callCio c__law_draw (hr.mono (by decide)) hgd tk (nm 0) (Pxs.cons Pe.int Pxs.nil)) (Or.inr ⟨by decide, by decide⟩) (by rfl))
  (Pss.cons (sset 1 (Pe.callCio c__law_draw (hr.mono (by decide)) hgd tk (nm 0) (Pxs.cons (callB c_len b_len G.n_len (Pas.cons (nm 2) Pas.nil)) Pxs.nil)) (Or.inr (by decide)) nd)
  (Pss.cons (sset 2 (Pe.bin or_addN b_addN (Po.ex (Pe.sliceN (nm 2) (Pp.some (nm 1)) Pp.none)) (Po.ex (Pe.sliceN (nm 2) Pp.none (Pp.some (nm 1))))) (Or.inr (by decide)) nd)
  (Pss.cons (Ps.ifs (Pt.cmp (or_eq hr) b_eqF (nm 5) (Po.ex Pe.int)) (Pss.cons (sset 2 (Pe.bin or_addN b_addN (Po.ex (Pe.sliceN (nm 2) Pp.none (Pp.some (Po.ex (Pe.un un_neg b_neg (Po.ex Pe.int)))))) (Po.ex (Pe.callCio c__law_some (hr.mono (by decide)) hgd tk (nm 0) (Pxs.cons (Pe.lst (Pxs.cons Pe.str (Pxs.cons Pe.str Pxs.nil))) Pxs.nil)))) (Or.inr (by decide)) nd)
  Pss.nil) Pss.nil)
  (Pss.cons (Ps.ifs (Pt.cmp (or_eq hr) b_eqF (nm 5) (Po.ex Pe.int)) (Pss.cons (sset 2 (Pe.bin or_mulX b_mulX (Po.ex (Pe.sliceN (nm 2) Pp.none (Pp.some (Po.ex Pe.int)))) (Po.ex (Pe.bin or_addN b_addN (Po.ex Pe.int) (Po.ex (Pe.callCio c__law_draw (hr.mono (by decide)) hgd tk (nm 0) (Pxs.cons Pe.int Pxs.nil)))))) (Or.inr (by decide)) nd)
  Pss.nil) Pss.nil)
  (Pss.cons (Ps.ifs (Pt.cmp (or_eq hr) b_eqF (nm 5) (Po.ex Pe.int)) (Pss.cons (sset 2 (Pe.methS PySem.F.slot_str_join PySem.F.type_str_join mt_join b_join (Po.ex Pe.str) (Po.ex (Pe.lc (own := [("at", 6)]) rfl nd (Pi.range1 (by rfl) G.n_range (Po.ex (Pe.bin or_addN b_addN (Po.ex Pe.int) (Po.ex (Pe.callCio c__law_draw (hr.mono (by decide)) hgd tk (nm 0) (Pxs.cons Pe.int Pxs.nil)))))) (blk_ok (N := N__law_twos) (sc := defScope s__law_twos) (by decide +kernel)) (by decide) (fun _ _ _ _ _ => (tnm 6 nd)) (fun _ _ _ _ _ => (Pe.callCio c__law_some (hr.mono (by decide)) hgd tk0 (nm 0) (Pxs.cons (Pe.lst (Pxs.cons Pe.str (Pxs.cons Pe.str Pxs.nil))) Pxs.nil)))))) (Or.inr (by decide)) nd)
  Pss.nil) Pss.nil)
  (Pss.cons (Ps.ret (Pe.ifExp (Pt.bool (Pw.and (Pt.cmp (op_inZ (ru1 hr)) (b_inZ false) (Po.ex Pe.str) (nm 2)) (Pw.and1 (Pt.cmp (op_inZ (ru1 hr)) (b_inZ false) (Po.ex Pe.str) (nm 2))))) (nmv 2) Pe.str))
  Pss.nil))))))))
theorem ok__law_twos (F : FnP K "_law_twos" "_law_twos" s__law_twos f fd) (hm : mg "_law_twos" = some (.ref f)) (G : Gm K mg) (c__law_draw : Cal P w K mg base 1 "_law_draw" ["hand", "many"] true d__law_draw) (c__law_level : Cal P w K mg base 1 "_law_level" ["a", "b"] false d__law_level) (c__law_some : Cal P w K mg base 2 "_law_some" ["hand", "things"] true d__law_some) : Cal P w K mg base 3 "_law_twos" ["hand"] true d__law_twos :=
  ⟨f, fd, FOk.ofD F sc__law_twos fun cdv A outer s H E hr hgd => w__law_twos G c__law_draw c__law_level c__law_some hr hgd, hm, F.kp, F.bindsN fun _ _ _ _ _ _ us hl => match us, hl with | [_], _ => rfl⟩
theorem sc_level_shown : FnScope ["word", "found"] ["word"] (defScope s_level_shown) := ⟨rfl, rfl, rfl, by decide +kernel, rfl, by decide +kernel, by decide +kernel⟩
theorem w_level_shown {cdv : Value} {A : Around} {outer : List Env} {s : Shared} {H : Hp} {E : XK} (G : Gm K mg) (c_check_two_word : Cal P w K mg base 3 "check_two_word" ["word"] false d_check_two_word) (c_first_apart : Cal P w K mg base 3 "first_apart" ["word"] false d_first_apart) (hr : Room 3 (A.deeper (envOfC "level_shown" (defScope s_level_shown) s.heap.objs.size f cdv))) (hgd : A.guards = some []) :
    Pss (cxOf (L2.CX P w) P w K mg base ["word", "found"] "level_shown" (defScope s_level_shown) f cdv A outer s H E) (fun cls dx _ H' => E cls dx H') false (defBody s_level_shown) b_level_shown :=
  have tk : Takes (cxOf (L2.CX P w) P w K mg base ["word", "found"] "level_shown" (defScope s_level_shown) f cdv A outer s H E) (fun cls dx _ H' => E cls dx H') := takes_of rfl rfl rfl rfl
  have nd : (["word", "found"] : List Str).Nodup := sc_level_shown.nd
  (Pss.cons (sdrop (Pe.callC c_check_two_word (hr.mono (by decide)) hgd tk (Pxs.cons (nmv 0) Pxs.nil)))
  (Pss.cons (sset 1 (Pe.callC c_first_apart (hr.mono (by decide)) hgd tk (Pxs.cons (nmv 0) Pxs.nil)) (Or.inl rfl) nd)
  (Pss.cons (Ps.ret (Pe.ifExp (Pt.cmp or_is b_is (nm 1) (Po.ex Pe.non)) (Pe.tupN (Pxs.cons (gstr G.s_SLOPE) (Pxs.cons (Pe.methS PySem.F.slot_str_count PySem.F.type_str_count mt_count b_scount (nm 0) (Po.ex Pe.str)) (Pxs.cons (Pe.methS PySem.F.slot_str_count PySem.F.type_str_count mt_count b_scount (nm 0) (Po.ex Pe.str)) Pxs.nil)))) (Pe.bin or_addN b_addN (Po.ex (Pe.tupN (Pxs.cons (gstr G.s_APART) Pxs.nil))) (nm 1))))
  Pss.nil)))
theorem ok_level_shown (F : FnP K "level_shown" "level_shown" s_level_shown f fd) (hm : mg "level_shown" = some (.ref f)) (G : Gm K mg) (c_check_two_word : Cal P w K mg base 3 "check_two_word" ["word"] false d_check_two_word) (c_first_apart : Cal P w K mg base 3 "first_apart" ["word"] false d_first_apart) : Cal P w K mg base 4 "level_shown" ["word"] false d_level_shown :=
  ⟨f, fd, FOk.ofD F sc_level_shown fun cdv A outer s H E hr hgd => w_level_shown G c_check_two_word c_first_apart hr hgd, hm, F.kp, F.bindsN fun _ _ _ _ _ _ us hl => match us, hl with | [_], _ => rfl⟩
theorem sc__law_bent : FnScope ["hand", "thing", "some", "at"] ["hand", "thing"] (defScope s__law_bent) := ⟨rfl, rfl, rfl, by decide +kernel, rfl, by decide +kernel, by decide +kernel⟩
theorem w__law_bent {cdv : Value} {A : Around} {outer : List Env} {s : Shared} {H : Hp} {E : XK} {j : Nat} {r__law_bent : FDen} (G : Gm K mg) (c__law_draw : Cal P w K mg base 1 "_law_draw" ["hand", "many"] true d__law_draw) (c__law_some : Cal P w K mg base 2 "_law_some" ["hand", "things"] true d__law_some) (c__law_bent : Cal P w K mg base j "_law_bent" ["hand", "thing"] true r__law_bent) (hr : Room (j + 2) (A.deeper (envOfC "_law_bent" (defScope s__law_bent) s.heap.objs.size f cdv))) (hgd : A.guards = some []) :
    Pss (cxOf (L2.CX P w) P w K mg base ["hand", "thing", "some", "at"] "_law_bent" (defScope s__law_bent) f cdv A outer s H E) (fun cls dx _ H' => E cls dx H') true (defBody s__law_bent) (b__law_bent r__law_bent) :=
  have tk : Takes (cxOf (L2.CX P w) P w K mg base ["hand", "thing", "some", "at"] "_law_bent" (defScope s__law_bent) f cdv A outer s H E) (fun cls dx _ H' => E cls dx H') := takes_of rfl rfl rfl rfl
  have nd : (["hand", "thing", "some", "at"] : List Str).Nodup := sc__law_bent.nd
  (Pss.cons (Ps.ifs (Pt.bool (Pw.and (Pt.tru (Po.ex (Pe.isA .tuple G.n_isinstance G.n_tuple (nm 1)))) (Pw.and (Pt.cmp or_gt b_cmp2 (Po.ex (callB c_len b_len G.n_len (Pas.cons (nm 1) Pas.nil))) (Po.ex Pe.int)) (Pw.and1 (Pt.cmp or_gt b_cmp2 (Po.ex (Pe.callCio c__law_draw (hr.mono (by omega)) hgd tk (nm 0) (Pxs.cons Pe.int Pxs.nil))) (Po.ex Pe.int)))))) (Pss.cons (sset 3 (Pe.callCio c__law_draw (hr.mono (by omega)) hgd tk (nm 0) (Pxs.cons (callB c_len b_len G.n_len (Pas.cons (nm 1) Pas.nil)) Pxs.nil)) (Or.inr (by decide)) nd)
  (Pss.cons (Ps.ret (Pe.bin or_addN b_addN (Po.ex (Pe.bin or_addN b_addN (Po.ex (Pe.sliceN (nm 1) Pp.none (Pp.some (nm 3)))) (Po.ex (Pe.tupN (Pxs.cons (Pe.callCio c__law_bent (hr.mono (by omega)) hgd tk (nm 0) (Pxs.cons (Pe.ixA (ru1 hr) (nm 1) (nm 3)) Pxs.nil)) Pxs.nil))))) (Po.ex (Pe.sliceN (nm 1) (Pp.some (Po.ex (Pe.bin or_addN b_addN (nm 3) (Po.ex Pe.int)))) Pp.none))))
  Pss.nil)) Pss.nil)
  (Pss.cons (sset 2 (Pe.lst (Pxs.cons Pe.non (Pxs.cons Pe.bl (Pxs.cons Pe.bl (Pxs.cons Pe.int (Pxs.cons Pe.int (Pxs.cons Pe.int (Pxs.cons (Pe.un un_neg b_neg (Po.ex Pe.int)) (Pxs.cons Pe.str (Pxs.cons Pe.str (Pxs.cons (Pe.tupN Pxs.nil) (Pxs.cons (Pe.lst Pxs.nil) (Pxs.cons Pe.dnew Pxs.nil))))))))))))) (Or.inr (by decide)) nd)
  (Pss.cons (Ps.ifs (Pt.tru (Po.ex (Pe.isA .tuple G.n_isinstance G.n_tuple (nm 1)))) (Pss.cons (sset 2 (Pe.bin or_addN b_addN (nm 2) (Po.ex (Pe.lst (Pxs.cons (Pe.sliceN (nm 1) Pp.none (Pp.some (Po.ex (Pe.un un_neg b_neg (Po.ex Pe.int))))) (Pxs.cons (Pe.sliceN (nm 1) (Pp.some (Po.ex Pe.int)) Pp.none) (Pxs.cons (Pe.rev (nm 1)) (Pxs.cons (Pe.bin or_addN b_addN (nm 1) (Po.ex (Pe.sliceN (nm 1) (Pp.some (Po.ex (Pe.un un_neg b_neg (Po.ex Pe.int)))) Pp.none))) (Pxs.cons (callTy call_list_of b_list G.n_list (Pas.cons (nm 1) Pas.nil)) Pxs.nil)))))))) (Or.inr (by decide)) nd)
  Pss.nil) (Pss.cons (Ps.ifs (Pt.tru (Po.ex (Pe.isA .int G.n_isinstance G.n_int (nm 1)))) (Pss.cons (sset 2 (Pe.bin or_addN b_addN (nm 2) (Po.ex (Pe.bin or_mulX b_mulX (Po.ex (Pe.lst (Pxs.cons (Pe.bin or_addN b_addN (nm 1) (Po.ex Pe.int)) (Pxs.cons (Pe.bin op_sub b_sub (nm 1) (Po.ex Pe.int)) (Pxs.cons (Pe.cmp (or_eq hr) b_eqF (nm 1) (Po.ex Pe.int)) Pxs.nil))))) (Po.ex Pe.int)))) (Or.inr (by decide)) nd)
  Pss.nil) Pss.nil)
  Pss.nil))
  (Pss.cons (Ps.ret (Pe.callCio c__law_some (hr.mono (by omega)) hgd tk (nm 0) (Pxs.cons (nmv 2) Pxs.nil)))
  Pss.nil))))
theorem st__law_bent {j : Nat} {r__law_bent : FDen} (F : FnP K "_law_bent" "_law_bent" s__law_bent f fd) (hm : mg "_law_bent" = some (.ref f)) (G : Gm K mg) (c__law_draw : Cal P w K mg base 1 "_law_draw" ["hand", "many"] true d__law_draw) (c__law_some : Cal P w K mg base 2 "_law_some" ["hand", "things"] true d__law_some) (c__law_bent : Cal P w K mg base j "_law_bent" ["hand", "thing"] true r__law_bent) : Cal P w K mg base (j + 2 + 1) "_law_bent" ["hand", "thing"] true (fden true 2 4 (b__law_bent r__law_bent)) :=
  ⟨f, fd, FOk.ofD F sc__law_bent fun cdv A outer s H E hr hgd => w__law_bent G c__law_draw c__law_some c__law_bent hr hgd, hm, F.kp, F.bindsN fun _ _ _ _ _ _ us hl => match us, hl with | [_, _], _ => rfl⟩
theorem rec__law_bent (F : FnP K "_law_bent" "_law_bent" s__law_bent f fd) (hm : mg "_law_bent" = some (.ref f)) (G : Gm K mg) (c__law_draw : Cal P w K mg base 1 "_law_draw" ["hand", "many"] true d__law_draw) (c__law_some : Cal P w K mg base 2 "_law_some" ["hand", "things"] true d__law_some)  (k : Nat) : Cal P w K mg base (3 * k) "_law_bent" ["hand", "thing"] true (dR__law_bent k) := by
  induction k with
  | zero => exact ⟨f, fd, FOk.stuckk, hm, F.kp, F.bindsN fun _ _ _ _ _ _ us hl => match us, hl with | [_, _], _ => rfl⟩
  | succ k ih => exact st__law_bent F hm G c__law_draw c__law_some ih
theorem ok__law_bent (F : FnP K "_law_bent" "_law_bent" s__law_bent f fd) (hm : mg "_law_bent" = some (.ref f)) (G : Gm K mg) (c__law_draw : Cal P w K mg base 1 "_law_draw" ["hand", "many"] true d__law_draw) (c__law_some : Cal P w K mg base 2 "_law_some" ["hand", "things"] true d__law_some)  : Cal P w K mg base 36 "_law_bent" ["hand", "thing"] true d__law_bent := rec__law_bent F hm G c__law_draw c__law_some 12
abbrev N__law_counts : List Str := ["word", "size", "longer", "place"]
theorem sc__law_counts : FnScope ["word", "size", "longer", "place"] ["word", "size"] (defScope s__law_counts) := ⟨rfl, rfl, rfl, by decide +kernel, rfl, by decide +kernel, by decide +kernel⟩
theorem w__law_counts {cdv : Value} {A : Around} {outer : List Env} {s : Shared} {H : Hp} {E : XK} (G : Gm K mg)  (hr : Room 0 (A.deeper (envOfC "_law_counts" (defScope s__law_counts) s.heap.objs.size f cdv))) (hgd : A.guards = some []) :
    Pss (cxOf (L2.CX P w) P w K mg base ["word", "size", "longer", "place"] "_law_counts" (defScope s__law_counts) f cdv A outer s H E) (fun cls dx _ H' => E cls dx H') false (defBody s__law_counts) b__law_counts :=
  have tk : Takes (cxOf (L2.CX P w) P w K mg base ["word", "size", "longer", "place"] "_law_counts" (defScope s__law_counts) f cdv A outer s H E) (fun cls dx _ H' => E cls dx H') := takes_of rfl rfl rfl rfl
  have nd : (["word", "size", "longer", "place"] : List Str).Nodup := sc__law_counts.nd
  (Pss.cons (sset 2 (Pe.bin or_addN b_addN (nm 0) (nm 0)) (Or.inl rfl) nd)
  (Pss.cons (Ps.ret (Pe.lc (own := [("place", 3)]) rfl nd (Pi.range1 (by rfl) G.n_range (Po.ex (callB c_len b_len G.n_len (Pas.cons (nm 0) Pas.nil)))) (blk_ok (N := N__law_counts) (sc := defScope s__law_counts) (by decide +kernel)) (by decide) (fun _ _ _ _ _ => (tnm 3 nd)) (fun _ _ _ _ _ => (Pe.methS PySem.F.slot_str_count PySem.F.type_str_count mt_count b_scount (Po.ex (Pe.sliceN (nm 2) (Pp.some (nm 3)) (Pp.some (Po.ex (Pe.bin or_addN b_addN (nm 3) (nm 1)))))) (Po.ex Pe.str)))))
  Pss.nil))
theorem ok__law_counts (F : FnP K "_law_counts" "_law_counts" s__law_counts f fd) (hm : mg "_law_counts" = some (.ref f)) (G : Gm K mg)  : Cal P w K mg base 1 "_law_counts" ["word", "size"] false d__law_counts :=
  ⟨f, fd, FOk.ofD F sc__law_counts fun cdv A outer s H E hr hgd => w__law_counts G  hr hgd, hm, F.kp, F.bindsN fun _ _ _ _ _ _ us hl => match us, hl with | [_, _], _ => rfl⟩
abbrev N__law_apart : List Str := ["word", "size", "counts", "i", "some", "j"]
theorem sc__law_apart : FnScope ["word", "size", "counts", "i", "some", "j"] ["word"] (defScope s__law_apart) := ⟨rfl, rfl, rfl, by decide +kernel, rfl, by decide +kernel, by decide +kernel⟩
theorem w__law_apart {cdv : Value} {A : Around} {outer : List Env} {s : Shared} {H : Hp} {E : XK} (G : Gm K mg) (c__law_counts : Cal P w K mg base 1 "_law_counts" ["word", "size"] false d__law_counts) (hr : Room 1 (A.deeper (envOfC "_law_apart" (defScope s__law_apart) s.heap.objs.size f cdv))) (hgd : A.guards = some []) :
    Pss (cxOf (L2.CX P w) P w K mg base ["word", "size", "counts", "i", "some", "j"] "_law_apart" (defScope s__law_apart) f cdv A outer s H E) (fun cls dx _ H' => E cls dx H') false (defBody s__law_apart) b__law_apart :=
  have tk : Takes (cxOf (L2.CX P w) P w K mg base ["word", "size", "counts", "i", "some", "j"] "_law_apart" (defScope s__law_apart) f cdv A outer s H E) (fun cls dx _ H' => E cls dx H') := takes_of rfl rfl rfl rfl
  have nd : (["word", "size", "counts", "i", "some", "j"] : List Str).Nodup := sc__law_apart.nd
  (Pss.cons (sfor (passes_of rfl) (Pi.range2 (by rfl) G.n_range (Po.ex Pe.int) (Po.ex (Pe.bin or_addN b_addN (Po.ex (callB c_len b_len G.n_len (Pas.cons (nm 0) Pas.nil))) (Po.ex Pe.int)))) (tnm 1 nd) (Pss.cons (sset 2 (Pe.callC c__law_counts (hr.mono (by decide)) hgd tk (Pxs.cons (nmv 0) (Pxs.cons (nmv 1) Pxs.nil))) (Or.inl rfl) nd)
  (Pss.cons (sfor (passes_of rfl) (Pi.range1 (by rfl) G.n_range (Po.ex (callB c_len b_len G.n_len (Pas.cons (nm 0) Pas.nil)))) (tnm 3 nd) (Pss.cons (Ps.setLcIf (own := [("j", 5)]) rfl nd (by rfl) (by rfl) (sw_true rfl rfl rfl (by decide +kernel)) (Or.inl rfl) (Pi.range1 (by rfl) G.n_range (Po.ex (callB c_len b_len G.n_len (Pas.cons (nm 0) Pas.nil)))) (blk_ok (N := N__law_apart) (sc := defScope s__law_apart) (by decide +kernel)) (by decide) (fun _ _ _ _ _ => (tnm 5 nd)) (fun _ _ _ _ _ => (Pt.cmp (or_eq hr) b_eqF (Po.ex (Pe.ixA (ru1 hr) (nm 2) (nm 3))) (Po.ex (Pe.bin or_addN b_addN (Po.ex (Pe.ixA (ru1 hr) (nm 2) (nm 5))) (Po.ex Pe.int))))) (fun _ _ _ _ _ => (nmv 5)))
  (Pss.cons (Ps.ifs (Pt.cmp or_gt b_cmp2 (Po.ex (callB c_len b_len G.n_len (Pas.cons (nm 4) Pas.nil))) (Po.ex Pe.int)) (Pss.cons (Ps.ret (Pe.tupN (Pxs.cons (nmv 1) (Pxs.cons (nmv 3) (Pxs.cons (Pe.ixA (ru1 hr) (nm 4) (Po.ex Pe.int)) Pxs.nil)))))
  Pss.nil) Pss.nil)
  Pss.nil)) (Or.inl rfl))
  Pss.nil)) (Or.inl rfl))
  (Pss.cons (Ps.ret Pe.non)
  Pss.nil))
theorem ok__law_apart (F : FnP K "_law_apart" "_law_apart" s__law_apart f fd) (hm : mg "_law_apart" = some (.ref f)) (G : Gm K mg) (c__law_counts : Cal P w K mg base 1 "_law_counts" ["word", "size"] false d__law_counts) : Cal P w K mg base 2 "_law_apart" ["word"] false d__law_apart :=
  ⟨f, fd, FOk.ofD F sc__law_apart fun cdv A outer s H E hr hgd => w__law_apart G c__law_counts hr hgd, hm, F.kp, F.bindsN fun _ _ _ _ _ _ us hl => match us, hl with | [_], _ => rfl⟩
abbrev N__law_is_paper : List Str := ["word", "thing", "counts", "size", "i", "j", "one"]
theorem sc__law_is_paper : FnScope ["word", "thing", "counts", "size", "i", "j", "one"] ["word", "thing"] (defScope s__law_is_paper) := ⟨rfl, rfl, rfl, by decide +kernel, rfl, by decide +kernel, by decide +kernel⟩
theorem w__law_is_paper {cdv : Value} {A : Around} {outer : List Env} {s : Shared} {H : Hp} {E : XK} (G : Gm K mg) (c__law_apart : Cal P w K mg base 2 "_law_apart" ["word"] false d__law_apart) (c__law_counts : Cal P w K mg base 1 "_law_counts" ["word", "size"] false d__law_counts) (hr : Room 2 (A.deeper (envOfC "_law_is_paper" (defScope s__law_is_paper) s.heap.objs.size f cdv))) (hgd : A.guards = some []) :
    Pss (cxOf (L2.CX P w) P w K mg base ["word", "thing", "counts", "size", "i", "j", "one"] "_law_is_paper" (defScope s__law_is_paper) f cdv A outer s H E) (fun cls dx _ H' => E cls dx H') false (defBody s__law_is_paper) b__law_is_paper :=
  have tk : Takes (cxOf (L2.CX P w) P w K mg base ["word", "thing", "counts", "size", "i", "j", "one"] "_law_is_paper" (defScope s__law_is_paper) f cdv A outer s H E) (fun cls dx _ H' => E cls dx H') := takes_of rfl rfl rfl rfl
  have nd : (["word", "thing", "counts", "size", "i", "j", "one"] : List Str).Nodup := sc__law_is_paper.nd
  (Pss.cons (Ps.ifs (Pt.bool (Pw.or (Pt.not (Pt.tru (Po.ex (Pe.isA .tuple G.n_isinstance G.n_tuple (nm 1))))) (Pw.or (Pt.cmp (op_notInA (ru1 hr)) (b_inA true) (Po.ex (callB c_len b_len G.n_len (Pas.cons (nm 1) Pas.nil))) (Po.ex (Pe.tupN (Pxs.cons Pe.int (Pxs.cons Pe.int Pxs.nil))))) (Pw.or1 (Pt.not (Pt.tru (Po.ex (Pe.isA .str G.n_isinstance G.n_str (Po.ex (Pe.ixA (ru1 hr) (nm 1) (Po.ex Pe.int))))))))))) (Pss.cons (Ps.ret Pe.bl)
  Pss.nil) Pss.nil)
  (Pss.cons (Ps.ifs (Pt.not (Pt.tru (Po.ex (callB (cr_all rfl) b_all G.n_all (Pas.cons (Po.ex (Pe.lc (own := [("one", 6)]) rfl nd (Pi.items (Pe.sliceN (nm 1) (Pp.some (Po.ex Pe.int)) Pp.none)) (blk_ok (N := N__law_is_paper) (sc := defScope s__law_is_paper) (by decide +kernel)) (by decide) (fun _ _ _ _ _ => (tnm 6 nd)) (fun _ _ _ _ _ => (Pe.and (Pe.isA .int G.n_isinstance G.n_int (nm 6)) (Pe.one (Pe.notV (Po.ex (Pe.isA .bool G.n_isinstance G.n_bool (nm 6))))))))) Pas.nil))))) (Pss.cons (Ps.ret Pe.bl)
  Pss.nil) Pss.nil)
  (Pss.cons (Ps.ifs (Pt.cmp (or_eq hr) b_eqF (Po.ex (Pe.ixA (ru1 hr) (nm 1) (Po.ex Pe.int))) (Po.ex Pe.str)) (Pss.cons (Ps.ret (Pe.and (Pe.cmp (or_eq hr) b_eqF (Po.ex (Pe.sliceN (nm 1) (Pp.some (Po.ex Pe.int)) Pp.none)) (Po.ex (Pe.tupN (Pxs.cons (Pe.methS PySem.F.slot_str_count PySem.F.type_str_count mt_count b_scount (nm 0) (Po.ex Pe.str)) (Pxs.cons (Pe.methS PySem.F.slot_str_count PySem.F.type_str_count mt_count b_scount (nm 0) (Po.ex Pe.str)) Pxs.nil))))) (Pe.one (Pe.cmp or_is b_is (Po.ex (Pe.callC c__law_apart (hr.mono (by decide)) hgd tk (Pxs.cons (nmv 0) Pxs.nil))) (Po.ex Pe.non)))))
  Pss.nil) Pss.nil)
  (Pss.cons (Ps.ifs (Pt.bool (Pw.or (Pt.cmp (or_ne hr) b_neF (Po.ex (Pe.ixA (ru1 hr) (nm 1) (Po.ex Pe.int))) (Po.ex Pe.str)) (Pw.or1 (Pt.cmp (or_ne hr) b_neF (Po.ex (callB c_len b_len G.n_len (Pas.cons (nm 1) Pas.nil))) (Po.ex Pe.int))))) (Pss.cons (Ps.ret Pe.bl)
  Pss.nil) Pss.nil)
  (Pss.cons (sasg (Pe.sliceN (nm 1) (Pp.some (Po.ex Pe.int)) Pp.none) (ttup rfl (tcons (tnm 3 nd) (tcons (tnm 4 nd) (tcons (tnm 5 nd) Pgs.nil)))) (Or.inl rfl))
  (Pss.cons (Ps.ifs (Pt.bool (Pw.or (Pt.not (Pt.chain op_le op_le (Po.ex Pe.int) (nm 3) (Po.ex (callB c_len b_len G.n_len (Pas.cons (nm 0) Pas.nil))))) (Pw.or (Pt.not (Pt.chain op_le op_lt (Po.ex Pe.int) (nm 4) (Po.ex (callB c_len b_len G.n_len (Pas.cons (nm 0) Pas.nil))))) (Pw.or1 (Pt.not (Pt.chain op_le op_lt (Po.ex Pe.int) (nm 5) (Po.ex (callB c_len b_len G.n_len (Pas.cons (nm 0) Pas.nil))))))))) (Pss.cons (Ps.ret Pe.bl)
  Pss.nil) Pss.nil)
  (Pss.cons (sset 2 (Pe.callC c__law_counts (hr.mono (by decide)) hgd tk (Pxs.cons (nmv 0) (Pxs.cons (nmv 3) Pxs.nil))) (Or.inl rfl) nd)
  (Pss.cons (Ps.ret (Pe.cmp or_ge b_cmp2 (Po.ex (Pe.ixA (ru1 hr) (nm 2) (nm 4))) (Po.ex (Pe.bin or_addN b_addN (Po.ex (Pe.ixA (ru1 hr) (nm 2) (nm 5))) (Po.ex Pe.int)))))
  Pss.nil))))))))
theorem ok__law_is_paper (F : FnP K "_law_is_paper" "_law_is_paper" s__law_is_paper f fd) (hm : mg "_law_is_paper" = some (.ref f)) (G : Gm K mg) (c__law_apart : Cal P w K mg base 2 "_law_apart" ["word"] false d__law_apart) (c__law_counts : Cal P w K mg base 1 "_law_counts" ["word", "size"] false d__law_counts) : Cal P w K mg base 3 "_law_is_paper" ["word", "thing"] false d__law_is_paper :=
  ⟨f, fd, FOk.ofD F sc__law_is_paper fun cdv A outer s H E hr hgd => w__law_is_paper G c__law_apart c__law_counts hr hgd, hm, F.kp, F.bindsN fun _ _ _ _ _ _ us hl => match us, hl with | [_, _], _ => rfl⟩
theorem sc__law_is_case_right : FnScope ["hand", "word", "things", "turn", "thing", "told", "size", "before", "flag"] ["hand"] (defScope s__law_is_case_right) := ⟨rfl, rfl, rfl, by decide +kernel, rfl, by decide +kernel, by decide +kernel⟩
theorem w__law_is_case_right {cdv : Value} {A : Around} {outer : List Env} {s : Shared} {H : Hp} {E : XK} (G : Gm K mg) (c__law_bent : Cal P w K mg base 36 "_law_bent" ["hand", "thing"] true d__law_bent) (c__law_draw : Cal P w K mg base 1 "_law_draw" ["hand", "many"] true d__law_draw) (c__law_is : Cal P w K mg base 12 "_law_is" ["got", "due"] false d__law_is) (c__law_is_paper : Cal P w K mg base 3 "_law_is_paper" ["word", "thing"] false d__law_is_paper) (c__law_some : Cal P w K mg base 2 "_law_some" ["hand", "things"] true d__law_some) (c__law_twos : Cal P w K mg base 3 "_law_twos" ["hand"] true d__law_twos) (c_is_level_shown : Cal P w K mg base 4 "is_level_shown" ["word", "thing"] false d_is_level_shown) (c_level_shown : Cal P w K mg base 4 "level_shown" ["word"] false d_level_shown) (hr : Room 36 (A.deeper (envOfC "_law_is_case_right" (defScope s__law_is_case_right) s.heap.objs.size f cdv))) (hgd : A.guards = some []) :
    Pss (cxOf (L2.CX P w) P w K mg base ["hand", "word", "things", "turn", "thing", "told", "size", "before", "flag"] "_law_is_case_right" (defScope s__law_is_case_right) f cdv A outer s H E) (fun cls dx _ H' => E cls dx H') true (defBody s__law_is_case_right) b__law_is_case_right :=
  have tk : Takes (cxOf (L2.CX P w) P w K mg base ["hand", "word", "things", "turn", "thing", "told", "size", "before", "flag"] "_law_is_case_right" (defScope s__law_is_case_right) f cdv A outer s H E) (fun cls dx _ H' => E cls dx H') := takes_of rfl rfl rfl rfl
  have nd : (["hand", "word", "things", "turn", "thing", "told", "size", "before", "flag"] : List Str).Nodup := sc__law_is_case_right.nd
  (Pss.cons (sset 1 (Pe.callCio c__law_twos (hr.mono (by decide)) hgd tk (nm 0) Pxs.nil) (Or.inr (by decide)) nd)
  (Pss.cons (Ps.par (i := 5) (j := 6) rfl nd (by rfl) (by rfl) (by decide) (by rfl) (by rfl) (Pe.callC c_level_shown (hr.mono (by decide)) hgd tk (Pxs.cons (nmv 1) Pxs.nil)) (callB c_len b_len G.n_len (Pas.cons (nm 1) Pas.nil)) (Or.inr ⟨by decide, by decide⟩) (by rfl))
  (Pss.cons (sset 2 (Pe.lst (Pxs.cons (nmv 5) (Pxs.cons Pe.non (Pxs.cons (Pe.tupN (Pxs.cons Pe.str Pxs.nil)) (Pxs.cons (Pe.tupN (Pxs.cons Pe.str (Pxs.cons Pe.int (Pxs.cons Pe.int Pxs.nil)))) (Pxs.cons (Pe.lst (Pxs.cons Pe.str (Pxs.cons Pe.int (Pxs.cons Pe.int Pxs.nil)))) (Pxs.cons Pe.str (Pxs.cons (Pe.tupN (Pxs.cons Pe.str (Pxs.cons Pe.bl (Pxs.cons Pe.bl Pxs.nil)))) Pxs.nil)))))))) (Or.inr (by decide)) nd)
  (Pss.cons (sdrop (Pe.mut (kd := false) PySem.F.plainAttrs_list PySem.F.slot_list_append PySem.F.type_list_append mt_append ms_append (nm 2) (Pxs.cons (Pe.tupN (Pxs.cons Pe.str (Pxs.cons (Pe.methS PySem.F.slot_str_count PySem.F.type_str_count mt_count b_scount (nm 1) (Po.ex Pe.str)) (Pxs.cons (Pe.methS PySem.F.slot_str_count PySem.F.type_str_count mt_count b_scount (nm 1) (Po.ex Pe.str)) Pxs.nil)))) Pxs.nil)))
  (Pss.cons (sfor (passes_of rfl) (Pi.range1 (by rfl) G.n_range (Po.ex Pe.int)) (tnm 3 nd) (Pss.cons (sdrop (Pe.mut (kd := false) PySem.F.plainAttrs_list PySem.F.slot_list_append PySem.F.type_list_append mt_append ms_append (nm 2) (Pxs.cons (Pe.callCio c__law_bent (hr.mono (by decide)) hgd tk (nm 0) (Pxs.cons (Pe.callCio c__law_some (hr.mono (by decide)) hgd tk (nm 0) (Pxs.cons (Pe.lst (Pxs.cons (nmv 5) (Pxs.cons (Pe.ixA (ru1 hr) (nm 2) (Po.ex (Pe.un un_neg b_neg (Po.ex Pe.int)))) Pxs.nil))) Pxs.nil)) Pxs.nil)) Pxs.nil)))
  (Pss.cons (sdrop (Pe.mut (kd := false) PySem.F.plainAttrs_list PySem.F.slot_list_append PySem.F.type_list_append mt_append ms_append (nm 2) (Pxs.cons (Pe.tupN (Pxs.cons Pe.str (Pxs.cons (Pe.bin or_addN b_addN (Po.ex Pe.int) (Po.ex (Pe.callCio c__law_draw (hr.mono (by decide)) hgd tk (nm 0) (Pxs.cons (nmv 6) Pxs.nil)))) (Pxs.cons (Pe.callCio c__law_draw (hr.mono (by decide)) hgd tk (nm 0) (Pxs.cons (nmv 6) Pxs.nil)) (Pxs.cons (Pe.callCio c__law_draw (hr.mono (by decide)) hgd tk (nm 0) (Pxs.cons (nmv 6) Pxs.nil)) Pxs.nil))))) Pxs.nil)))
  Pss.nil)) (Or.inr (by decide)))
  (Pss.cons (sfor (passes_of rfl) (Pi.items (nmv 2)) (tnm 4 nd) (Pss.cons (sset 7 (Pe.reprQ1 G.y_sys hgd (ru60 hr) (by rfl) G.n_repr (nm 4)) (Or.inr (by decide)) nd)
  (Pss.cons (sset 8 (Pe.callC c_is_level_shown (hr.mono (by decide)) hgd tk (Pxs.cons (nmv 1) (Pxs.cons (nmv 4) Pxs.nil))) (Or.inr (by decide)) nd)
  (Pss.cons (Ps.ifs (Pt.bool (Pw.or (Pt.not (Pt.tru (Po.ex (Pe.callC c__law_is (hr.mono (by decide)) hgd tk (Pxs.cons (nmv 8) (Pxs.cons (Pe.callC c__law_is_paper (hr.mono (by decide)) hgd tk (Pxs.cons (nmv 1) (Pxs.cons (nmv 4) Pxs.nil))) Pxs.nil)))))) (Pw.or1 (Pt.reprQNeV G.y_sys hgd (ru60 hr) (by rfl) G.n_repr (nm 4) (nm 7))))) (Pss.cons (Ps.ret Pe.bl)
  Pss.nil) Pss.nil)
  Pss.nil))) (Or.inr (by decide)))
  (Pss.cons (Ps.ret Pe.bl)
  Pss.nil)))))))
theorem ok__law_is_case_right (F : FnP K "_law_is_case_right" "_law_is_case_right" s__law_is_case_right f fd) (hm : mg "_law_is_case_right" = some (.ref f)) (G : Gm K mg) (c__law_bent : Cal P w K mg base 36 "_law_bent" ["hand", "thing"] true d__law_bent) (c__law_draw : Cal P w K mg base 1 "_law_draw" ["hand", "many"] true d__law_draw) (c__law_is : Cal P w K mg base 12 "_law_is" ["got", "due"] false d__law_is) (c__law_is_paper : Cal P w K mg base 3 "_law_is_paper" ["word", "thing"] false d__law_is_paper) (c__law_some : Cal P w K mg base 2 "_law_some" ["hand", "things"] true d__law_some) (c__law_twos : Cal P w K mg base 3 "_law_twos" ["hand"] true d__law_twos) (c_is_level_shown : Cal P w K mg base 4 "is_level_shown" ["word", "thing"] false d_is_level_shown) (c_level_shown : Cal P w K mg base 4 "level_shown" ["word"] false d_level_shown) : Cal P w K mg base 37 "_law_is_case_right" ["hand"] true d__law_is_case_right :=
  ⟨f, fd, FOk.ofD F sc__law_is_case_right fun cdv A outer s H E hr hgd => w__law_is_case_right G c__law_bent c__law_draw c__law_is c__law_is_paper c__law_some c__law_twos c_is_level_shown c_level_shown hr hgd, hm, F.kp, F.bindsN fun _ _ _ _ _ _ us hl => match us, hl with | [_], _ => rfl⟩
abbrev N_law : List Str := ["script", "hand", "flags", "turn"]
theorem sc_law : FnScope ["script", "hand", "flags", "turn"] ["script"] (defScope s_law) := ⟨rfl, rfl, rfl, by decide +kernel, rfl, by decide +kernel, by decide +kernel⟩
theorem w_law {cdv : Value} {A : Around} {outer : List Env} {s : Shared} {H : Hp} {E : XK} (G : Gm K mg) (c__law_hand : Cal P w K mg base 1 "_law_hand" ["script"] false d__law_hand) (c__law_is : Cal P w K mg base 12 "_law_is" ["got", "due"] false d__law_is) (c__law_is_case_right : Cal P w K mg base 37 "_law_is_case_right" ["hand"] true d__law_is_case_right) (c_is_level_shown : Cal P w K mg base 4 "is_level_shown" ["word", "thing"] false d_is_level_shown) (hr : Room 37 (A.deeper (envOfC "law" (defScope s_law) s.heap.objs.size f cdv))) (hgd : A.guards = some []) :
    Pss (cxOf (L2.CX P w) P w K mg base ["script", "hand", "flags", "turn"] "law" (defScope s_law) f cdv A outer s H E) (fun cls dx _ H' => E cls dx H') false (defBody s_law) b_law :=
  have tk : Takes (cxOf (L2.CX P w) P w K mg base ["script", "hand", "flags", "turn"] "law" (defScope s_law) f cdv A outer s H E) (fun cls dx _ H' => E cls dx H') := takes_of rfl rfl rfl rfl
  have nd : (["script", "hand", "flags", "turn"] : List Str).Nodup := sc_law.nd
  (Pss.cons (sset 1 (Pe.callC c__law_hand (hr.mono (by decide)) hgd tk (Pxs.cons (nmv 0) Pxs.nil)) (Or.inl rfl) nd)
  (Pss.cons (sset 2 (Pe.lst (Pxs.cons (Pe.callC c_is_level_shown (hr.mono (by decide)) hgd tk (Pxs.cons Pe.str (Pxs.cons (Pe.tupN (Pxs.cons Pe.str (Pxs.cons Pe.int (Pxs.cons Pe.int (Pxs.cons Pe.int Pxs.nil))))) Pxs.nil))) (Pxs.cons (Pe.callC c_is_level_shown (hr.mono (by decide)) hgd tk (Pxs.cons Pe.str (Pxs.cons (Pe.tupN (Pxs.cons Pe.str (Pxs.cons Pe.int (Pxs.cons Pe.int (Pxs.cons Pe.int Pxs.nil))))) Pxs.nil))) Pxs.nil))) (Or.inl rfl) nd)
  (Pss.cons (Ps.ifs (Pt.not (Pt.tru (Po.ex (Pe.callC c__law_is (hr.mono (by decide)) hgd tk (Pxs.cons (Pe.bin or_addN b_addN (nm 2) (Po.ex (Pe.lst (Pxs.cons (Pe.callC c_is_level_shown (hr.mono (by decide)) hgd tk (Pxs.cons Pe.str (Pxs.cons (Pe.tupN (Pxs.cons Pe.str (Pxs.cons Pe.int (Pxs.cons Pe.int Pxs.nil)))) Pxs.nil))) Pxs.nil)))) (Pxs.cons (Pe.lst (Pxs.cons Pe.bl (Pxs.cons Pe.bl (Pxs.cons Pe.bl Pxs.nil)))) Pxs.nil)))))) (Pss.cons (Ps.ret Pe.bl)
  Pss.nil) Pss.nil)
  (Pss.cons (Ps.ret (callB (cr_all rfl) b_all G.n_all (Pas.cons (Po.ex (Pe.lc (own := [("turn", 3)]) rfl nd (Pi.range1 (by rfl) G.n_range (Po.ex Pe.int)) (blk_ok (N := N_law) (sc := defScope s_law) (by decide +kernel)) (by decide) (fun _ _ _ _ _ => (tnm 3 nd)) (fun _ _ _ _ _ => (Pe.callCio c__law_is_case_right (hr.mono (by decide)) hgd tk0 (nm 1) Pxs.nil)))) Pas.nil)))
  Pss.nil))))
end
end K33
set_option Elab.async false
set_option linter.all false
set_option maxRecDepth 100000
set_option maxHeartbeats 1000000
set_option autoImplicit false
namespace K33
open PySem PySem.Spec PyProof.Rows L2 PL
theorem c__law_hand : HandFn d__law_hand := fun ns hn => hand_ok 83 7 (by decide) ns hn
theorem c_is_word_t : IsWordTwo d_is_word := isWordTwo
theorem c_is_two_word : IsTwoWord d_is_two_word := isTwoWord c_is_word_t
theorem c_check_two_word : ChTwoWord d_check_two_word := chTwoWord c_is_two_word
theorem c_later_ones : LaterOnes d_later_ones := laterOnes
theorem c_is_apart : IsApart d_is_apart := isApart c_later_ones
theorem c_is_integer : IsInteger d_is_integer := is_integer_int
theorem c_is_integer_x : IsIntNo d_is_integer := isIntNo
theorem c_is_within : IsWithin d_is_within := is_within_int c_is_integer
theorem c_is_within_x : IsWithNo d_is_within := isWithNo c_is_integer c_is_integer_x
theorem c_first_apart : FirstApart d_first_apart := firstApart c_is_apart
theorem c__law_is : EqFn d__law_is := eqN_of (dR := dR__law_is) (fun k n h => lawEqB_step h) (fun k => lawEqB_leaf _) 11
theorem c__law_draw : DrawOk d__law_draw := fun c i q s t b hi hb hb2 =>
  draw_is2 (mix2 69621 29) 2147483629 7919 48271 2147483647 1009 69621 2147483647 2003 40692 2147483399 (by decide) (mix2_run 69621 29 (by decide)) (by decide) (by decide) (by decide) (by decide) (by decide) (by decide) (by decide) hi hb hb2
theorem c__law_some : AnyOf d__law_draw d__law_some := by unfold AnyOf; delta d__law_some; exact Eq.refl _
theorem c__law_counts : OwnCounts d__law_counts := ownCounts
theorem c__law_apart : OwnApart d__law_apart := ownApart c__law_counts
end K33
set_option Elab.async false
set_option linter.all false
set_option maxRecDepth 100000
set_option maxHeartbeats 1000000
set_option autoImplicit false
/-! LE13: things that are judged (from k70's texts). -/
namespace PL
open PySem PySem.Spec PyProof.Rows L2
def noTup (d : D) : Prop := ∀ nd ds, d ≠ .tup nd ds
theorem isTup_no {d : D} (h : okD d) (n : noTup d) : dIsA .tuple [d] = some (false, .bl false) := by
  rcases h with ⟨i, rfl⟩ | h
  · rfl
  · cases d <;> first | exact absurd rfl (n _ _) | exact h.elim | rfl
theorem isTup_yes (nd : Bool) (ds : List D) : dIsA .tuple [.tup nd ds] = some (false, .bl true) := rfl
def Elt (d : D) : Prop := okD d ∧ (∀ nd es, d = .tup nd es → es.length ≤ 100 ∧ ∀ e ∈ es, okD e) ∧ ∀ s, d = .str s → PyData.strOk s = true
def Thg (v : D) : Prop := (okD v ∧ noTup v) ∨ ∃ nd ds, v = .tup nd ds ∧ ds.length ≤ 100 ∧ ∀ d ∈ ds, Elt d
theorem str_or {d : D} (h : okD d) : (∃ s, d = .str s) ∨ dIsA .str [d] = some (false, .bl false) := by
  rcases h with ⟨i, rfl⟩ | h
  · exact .inr rfl
  · cases d <;> first | exact .inl ⟨_, rfl⟩ | exact .inr rfl | exact h.elim
theorem eqS (a b : Str) (ha : PyData.strOk a = true) (hb : PyData.strOk b = true) : dEqF [.str a, .str b] = some (false, .bl (decide (a = b))) := by
  show (eqPD (.str a) (.str b)).bind _ = _
  by_cases h : a = b <;> simp [eqPD, toPD, SeqAt.shaped, PyData.eqv, PyData.canLay0, PyData.depth, fl, h, ha, hb]
theorem neS (a b : Str) (ha : PyData.strOk a = true) (hb : PyData.strOk b = true) : dNeF [.str a, .str b] = some (false, .bl (!decide (a = b))) := by
  show (eqPD (.str a) (.str b)).bind _ = _
  by_cases h : a = b <;> simp [eqPD, toPD, SeqAt.shaped, PyData.eqv, PyData.canLay0, PyData.depth, fl, h, ha, hb]
theorem leN {n : Nat} (h : n ≤ 100000) : n ≤ sizeLine := sizeLine_60 h
theorem n1 : dNeg [.int 1] = some (false, .int (-1)) := by kernel_rfl
structure Itm (v : D) : Prop where
  elt : Elt v
  sh : ShQ v 5000 2
theorem sI {i : Int} (h : i.natAbs ≤ 2 ^ 60) : ShQ (.int i) 2000 0 := ShQ.int i (log_small h)
theorem itm_int {i : Int} (h : i.natAbs ≤ 2 ^ 60) : Itm (.int i) := ⟨⟨okD_int i, (fun _ _ e => by cases e), fun _ e => by cases e⟩, (sI h).mono (by omega) (by omega)⟩
theorem itm_not {v : D} (h1 : notInt v) (h2 : noTup v) (h3 : ∀ s, v = .str s → PyData.strOk s = true) (h4 : ShQ v 5000 2) : Itm v := ⟨⟨.inr h1, (fun nd es e => absurd e (h2 nd es)), h3⟩, h4⟩
theorem itm_tup (nd : Bool) {l : List Int} (hl : l.length ≤ 2) (hb : ∀ x ∈ l, x.natAbs ≤ 100) : Itm (.tup nd (l.map .int)) := by
  refine ⟨⟨.inr trivial, (fun nd2 es e => ?_), fun _ e => by cases e⟩, ?_⟩
  · cases e
    exact ⟨by simp; omega, fun e he => by obtain ⟨x, _, rfl⟩ := List.mem_map.mp he; exact okD_int x⟩
  · have := ShQ.tup (z := 2000) (h := 0) nd (ds := l.map .int) fun d hd => by
      obtain ⟨x, hx, rfl⟩ := List.mem_map.mp hd
      exact sI (Nat.le_trans (hb x hx) (by decide))
    exact this.mono (by rw [List.length_map]; have : l.length * (2000 + 2) ≤ 2 * 2002 := Nat.mul_le_mul_right _ hl; omega) (by omega)
theorem sS {s : Str} (h1 : (s.cps.toList.all fun c => decide (c < 16 ^ 8)) = true) (h2 : s.length ≤ 100) : ShQ (.str s) 5000 2 := (ShQ.str h1).mono (by omega) (by omega)
theorem cut_any (nd : Bool) (ds : List D) (lo hi : Option Int) : ∃ nd' es, dCutN (.tup nd ds) lo hi = some (false, .tup nd' es) ∧ es.length ≤ ds.length ∧ ∀ e ∈ es, e ∈ ds := by
  show ∃ nd' es, (if HT.sIx ds.length 0 lo = 0 ∧ HT.sIx ds.length ds.length hi = ds.length then fl (.tup nd ds) else fl (.tup true (cutL ds lo hi))) = some (false, .tup nd' es) ∧ _
  split
  · exact ⟨nd, ds, rfl, Nat.le_refl _, fun _ h => h⟩
  · refine ⟨true, cutL ds lo hi, rfl, ?_, fun e he => ?_⟩
    · unfold cutL
      rw [List.length_take, List.length_drop]
      omega
    · unfold cutL at he
      exact List.mem_of_mem_drop (List.mem_of_mem_take he)
structure Tgd (v : D) : Prop where
  thg : Thg v
  sh : ShQ v 2000000 45
structure Big (v : D) : Prop where
  elt : Elt v
  sh : ShQ v 100000 4
theorem Itm.big {v : D} (h : Itm v) : Big v := ⟨h.elt, h.sh.mono (by omega) (by omega)⟩
theorem big_int {i : Int} (h : i.natAbs ≤ 2 ^ 60) : Big (.int i) := (itm_int h).big
theorem tgd_tup (nd : Bool) {ds : List D} (hl : ds.length ≤ 12) (h : ∀ d ∈ ds, Big d) : Tgd (.tup nd ds) := by
  refine ⟨.inr ⟨nd, ds, rfl, by omega, fun d hd => (h d hd).elt⟩, ?_⟩
  have := ShQ.tup (z := 100000) (h := 4) nd (ds := ds) fun d hd => (h d hd).sh
  exact this.mono (Nat.le_trans (Nat.add_le_add_right (Nat.mul_le_mul_right (100000 + 2) hl) 3) (Nat.le_of_ble_eq_true rfl)) (by omega)
theorem tgd_lst {ds : List D} (hl : ds.length ≤ 12) (h : ∀ d ∈ ds, Big d) : Tgd (.lst ds) := by
  refine ⟨.inl ⟨.inr trivial, fun _ _ e => by cases e⟩, ?_⟩
  have := ShQ.lst (z := 100000) (h := 4) (ds := ds) fun d hd => (h d hd).sh
  exact this.mono (Nat.le_trans (Nat.add_le_add_right (Nat.mul_le_mul_right (100000 + 2) hl) 3) (Nat.le_of_ble_eq_true rfl)) (by omega)
/-- is it a number -/
def intB : D → Bool
  | .int _ => true
  | _ => false
def isBl : D → Bool
  | .bl _ => true
  | _ => false
theorem isInt_any {d : D} (h : okD d) : dIsA .int [d] = some (false, .bl (intB d || isBl d)) ∧ dIsA .bool [d] = some (false, .bl (isBl d)) := by
  rcases h with ⟨i, rfl⟩ | h
  · exact ⟨rfl, rfl⟩
  · cases d <;> first | exact h.elim | exact ⟨rfl, rfl⟩
theorem is_int_any {f : FDen} (c : IsInteger f) (cx : IsIntNo f) {d : D} (h : okD d) : f [d] = .ok false (.bl (intB d)) none := by
  rcases h with ⟨i, rfl⟩ | h
  · exact c i
  · rw [cx d h]
    cases d <;> first | exact h.elim | rfl
theorem ints_or : ∀ (es : List D), (∃ l : List Int, es = l.map .int) ∨ es.all intB = false
  | [] => .inl ⟨[], rfl⟩
  | e :: es => by
    rcases ints_or es with ⟨l, rfl⟩ | h
    · cases e with
      | int a => exact .inl ⟨a :: l, rfl⟩
      | _ => exact .inr (by simp [intB])
    · exact .inr (by rw [List.all_cons, h, Bool.and_false])
theorem ints_all (l : List Int) : (l.map D.int).all intB = true := by
  rw [List.all_map]
  exact List.all_eq_true.mpr fun _ _ => rfl
end PL
set_option Elab.async false
set_option linter.all false
set_option maxRecDepth 100000
set_option maxHeartbeats 1000000
set_option autoImplicit false
namespace K33
open PySem PySem.Spec PyProof.Rows L2 PL
abbrev WD (w : List Nat) : D := .str (SL w)
theorem in34 (k : Int) : dIn true [.int k, .tup true [.int 3, .int 4]] = some (false, .bl (!decide (k = 3 ∨ k = 4))) := by
  have e : dIn true [.int k, .tup true [.int 3, .int 4]] = some (false, .bl (!((3 == k) || ((4 == k) || false)))) := rfl
  have e2 : ((3 == k) || ((4 == k) || false)) = decide (k = 3 ∨ k = 4) := by
    rw [Bool.eq_iff_iff, decide_eq_true_eq, Bool.or_false, Bool.or_eq_true, beq_iff_eq, beq_iff_eq]
    omega
  rw [e, e2]
theorem seq_done {a b : MS} {st : DSt} {P : PEnds} (h : PS2 a st { nx := fun _ => False, bk := fun _ => False, ct := fun _ => False, rt := P.rt, ex := fun _ _ _ => False }) : PS2 (seqS a b) st P :=
  ⟨post_seq.mpr (h.out.mono (fun _ h => h.elim) (fun _ h => h.elim) (fun _ h => h.elim) (fun _ _ _ h => h) fun _ _ _ h => h.elim)⟩
structure Judged (w : List Nat) (v : D) (b : Bool) : Prop where
  prog : d_is_level_shown [WD w, v] = .ok false (.bl b) none
  own : d__law_is_paper [WD w, v] = .ok false (.bl b) none
theorem winb (a lo hi : Int) : wB lo hi (.int a) = (decide (lo ≤ a) && decide (a ≤ hi)) := rfl
abbrev P4 (w : List Nat) (v : D) : DSt := [some (false, WD w), some (false, v), none, none]
abbrev P7 (w : List Nat) (v : D) : DSt := [some (false, WD w), some (false, v), none, none, none, none, none]
abbrev RB (b : Bool) : PEnds := { nx := fun _ => false = false ∧ D.non = D.bl b, bk := fun _ => False, ct := fun _ => False, rt := fun fr d _ => fr = false ∧ d = .bl b, ex := fun _ _ _ => False }
theorem run1 (w : List Nat) (u : D) (b : Bool) (h : PS2 b_is_level_shown (P4 w u) (RB b)) : d_is_level_shown [WD w, u] = .ok false (.bl b) none :=
  run_def2 (dd := d_is_level_shown) (np := 2) (n := 4) (mb := b_is_level_shown) (by delta d_is_level_shown; exact Eq.refl _) _ _ _ (Eq.refl 2) h
theorem run2 (w : List Nat) (u : D) (b : Bool) (h : PS2 b__law_is_paper (P7 w u) (RB b)) : d__law_is_paper [WD w, u] = .ok false (.bl b) none :=
  run_def2 (dd := d__law_is_paper) (np := 2) (n := 7) (mb := b__law_is_paper) (by delta d__law_is_paper; exact Eq.refl _) _ _ _ (Eq.refl 2) h
theorem le2 : 2 ≤ sizeLine := leN (by decide)
theorem judge {w : List Nat} (hw : TwoW w) {v : D} (hv : Thg v) : ∃ b, Judged w v b := by
  have h6 := hw.l60
  have hp := hw.pos
  have el := len_str w (by omega)
  have hc := c_check_two_word w hw
  rcases hv with ⟨h1, h3⟩ | ⟨nd, ds, rfl, hd, he⟩
  · have e := isTup_no h1 h3
    refine ⟨false, run1 _ _ _ ?_, run2 _ _ _ ?_⟩
    · unfold b_is_level_shown
      refine seq_stepE (P4 w v) ⟨by simp_arith [hc]⟩ ?_
      exact seq_done ⟨by simp_arith [e]⟩
    · unfold b__law_is_paper
      exact seq_done ⟨by simp_arith [e]⟩
  have et := isTup_yes nd ds
  have e34 := in34 (ds.length : Nat)
  by_cases hn : ds.length = 3 ∨ ds.length = 4
  case neg =>
    rw [decide_eq_false (show ¬ (((ds.length : Nat) : Int) = 3 ∨ ((ds.length : Nat) : Int) = 4) by omega)] at e34
    refine ⟨false, run1 _ _ _ ?_, run2 _ _ _ ?_⟩
    · unfold b_is_level_shown
      refine seq_stepE (P4 w (.tup nd ds)) ⟨by simp_arith [hc]⟩ ?_
      exact seq_done ⟨by simp_arith [et, e34, le2]⟩
    · unfold b__law_is_paper
      exact seq_done ⟨by simp_arith [et, e34, le2]⟩
  rw [decide_eq_true (show (((ds.length : Nat) : Int) = 3 ∨ ((ds.length : Nat) : Int) = 4) by omega)] at e34
  obtain ⟨a, rest, rfl⟩ : ∃ a r, ds = a :: r := by
    cases ds with
    | nil => simp at hn
    | cons a r => exact ⟨a, r, rfl⟩
  rw [List.length_cons] at hn e34
  have i0 : L2.atI (a :: rest) 0 = some a := atI_nat (a :: rest) 0 (by simp)
  rcases str_or (he a (by simp)).1 with ⟨s, rfl⟩ | es
  case inr =>
    refine ⟨false, run1 _ _ _ ?_, run2 _ _ _ ?_⟩
    · unfold b_is_level_shown
      refine seq_stepE (P4 w (.tup nd (a :: rest))) ⟨by simp_arith [hc]⟩ ?_
      exact seq_done ⟨by simp_arith [et, e34, le2, i0, fl, es, List.length_cons]⟩
    · unfold b__law_is_paper
      exact seq_done ⟨by simp_arith [et, e34, le2, i0, fl, es, List.length_cons]⟩
  have is : dIsA .str [.str s] = some (false, .bl true) := rfl
  obtain ⟨nd1, c1⟩ := dCutN_drop nd (.str s :: rest) 1 (by decide)
  rw [show (1 : Int).toNat = 1 from rfl, List.drop_succ_cons, List.drop_zero] at c1
  have hok : ∀ d ∈ rest, okD d := fun d hd => (he d (by simp [hd])).1
  -- past the first look
  have go1 : ∀ b P, PS2 b (P4 w (.tup nd (.str s :: rest))) P → PS2 (seqS (dropS (mCall d_check_two_word [(mName 0)])) (seqS (ifS (mOrT (mNotT (mT (mOps [(.ex (mOps [(.nm 1)] (dIsA .tuple)))] dTru))) (mOrT (mT (mOps [(.ex (mOps [(.nm 1)] dLen)), (.ex (mTupN [(mC (.int 3)), (mC (.int 4))]))] (dInA true))) (mNotT (mT (mOps [(.ex (mOps [(.ex (mOps [(.nm 1), (.ex (mC (.int 0)))] dIxA))] (dIsA .str)))] dTru))))) (seqS (retS (mC (.bl false))) nextS) nextS) b)) (P4 w (.tup nd (.str s :: rest))) P := fun b P h => by
    refine seq_stepE (P4 w (.tup nd (.str s :: rest))) ⟨by simp_arith [hc]⟩ ?_
    exact seq_stepE (P4 w (.tup nd (.str s :: rest))) ⟨by simp_arith [et, e34, le2, i0, fl, is, List.length_cons]⟩ h
  have go2 : ∀ b P, PS2 b (P7 w (.tup nd (.str s :: rest))) P → PS2 (seqS (ifS (mOrT (mNotT (mT (mOps [(.ex (mOps [(.nm 1)] (dIsA .tuple)))] dTru))) (mOrT (mT (mOps [(.ex (mOps [(.nm 1)] dLen)), (.ex (mTupN [(mC (.int 3)), (mC (.int 4))]))] (dInA true))) (mNotT (mT (mOps [(.ex (mOps [(.ex (mOps [(.nm 1), (.ex (mC (.int 0)))] dIxA))] (dIsA .str)))] dTru))))) (seqS (retS (mC (.bl false))) nextS) nextS) b) (P7 w (.tup nd (.str s :: rest))) P := fun b P h =>
    seq_stepE (P7 w (.tup nd (.str s :: rest))) ⟨by simp_arith [et, e34, le2, i0, fl, is, List.length_cons]⟩ h
  rcases ints_or rest with ⟨l, rfl⟩ | hno
  case inr =>
    refine ⟨false, run1 _ _ _ ?_, run2 _ _ _ ?_⟩
    · unfold b_is_level_shown
      refine go1 _ _ ?_
      refine seq_done ⟨?_⟩
      simp_arith [c1, post_lc]
      refine ⟨leN (by omega), rfl, ?_⟩
      refine lc_map1 (fun d => .bl (intB d)) (fun d hd => ?_) ?_
      · refine ⟨_, rfl, rfl, rfl, ?_⟩
        simp_arith [wipeD, is_int_any c_is_integer c_is_integer_x (hok d hd)]
      · rw [List.nil_append, dAll_map]
        simp_arith [putBack, wipeD, hno]
    · unfold b__law_is_paper
      refine go2 _ _ ?_
      refine seq_done ⟨?_⟩
      simp_arith [c1, post_lc]
      refine ⟨leN (by omega), rfl, ?_⟩
      refine lc_map1 (fun d => .bl (intB d)) (fun d hd => ?_) ?_
      · obtain ⟨q1, q2⟩ := isInt_any (hok d hd)
        refine ⟨_, rfl, rfl, rfl, ?_⟩
        clear hok hd
        cases h1 : intB d <;> cases h2 : isBl d <;> rw [h1, h2] at q1 <;> rw [h2] at q2
        · simp_arith [wipeD, q1, q2, Bool.or_false, Bool.false_or, Bool.or_true, Bool.true_or]
        · simp_arith [wipeD, q1, q2, Bool.or_false, Bool.false_or, Bool.or_true, Bool.true_or]
        · simp_arith [wipeD, q1, q2, Bool.or_false, Bool.false_or, Bool.or_true, Bool.true_or]
        · cases d <;> first | (cases h1; done) | (cases h2; done)
      · rw [List.nil_append, dAll_map]
        simp_arith [putBack, wipeD, hno]
  have hall := ints_all l
  rw [List.length_map] at hn e34
  -- past the second look
  have go3 : ∀ b P, PS2 b (P4 w (.tup nd (.str s :: l.map .int))) P → PS2 (seqS (ifS (mNotT (mT (mOps [(.ex (mOps [(.ex (mLc (mItems (mSl dCutN (.nm 1) (some (.ex (mC (.int 1)))) none)) [2] (.nm 2) (M.pure true) (mCall d_is_integer [(mName 2)])))] dAll))] dTru))) (seqS (retS (mC (.bl false))) nextS) nextS) b) (P4 w (.tup nd (.str s :: l.map .int))) P := fun b P h => by
    refine seq_stepE (P4 w (.tup nd (.str s :: l.map .int))) ⟨?_⟩ h
    simp_arith [c1, post_lc]
    refine ⟨leN (by omega), rfl, ?_⟩
    refine lc_map1 (fun d => .bl (intB d)) (fun d hd => ?_) ?_
    · refine ⟨_, rfl, rfl, rfl, ?_⟩
      simp_arith [wipeD, is_int_any c_is_integer c_is_integer_x (hok d hd)]
    · rw [List.nil_append, dAll_map]
      simp_arith [putBack, wipeD, hall]
  have go4 : ∀ b P, PS2 b (P7 w (.tup nd (.str s :: l.map .int))) P → PS2 (seqS (ifS (mNotT (mT (mOps [(.ex (mOps [(.ex (mLc (mItems (mSl dCutN (.nm 1) (some (.ex (mC (.int 1)))) none)) [6] (.nm 6) (M.pure true) (mAndV (mOps [(.nm 6)] (dIsA .int)) (mOps [(.ex (mOps [(.nm 6)] (dIsA .bool)))] dNot))))] dAll))] dTru))) (seqS (retS (mC (.bl false))) nextS) nextS) b) (P7 w (.tup nd (.str s :: l.map .int))) P := fun b P h => by
    refine seq_stepE (P7 w (.tup nd (.str s :: l.map .int))) ⟨?_⟩ h
    simp_arith [c1, post_lc]
    refine ⟨leN (by omega), rfl, ?_⟩
    refine lc_over D.int (fun _ => .bl true) (fun a ha => ?_) ?_
    · have q1 : dIsA .int [.int a] = some (false, .bl true) := rfl
      have q2 : dIsA .bool [.int a] = some (false, .bl false) := rfl
      refine ⟨_, rfl, rfl, rfl, ?_⟩
      simp_arith [wipeD, q1, q2]
    · have := dAll_map (fun _ => true) l
      have ha : (l.all fun _ => true) = true := List.all_eq_true.mpr fun _ _ => rfl
      simp_arith [putBack, wipeD, this, ha]
  obtain ⟨df, ef, hf⟩ := c_first_apart w h6
  obtain ⟨dt, etw, ht⟩ := c__law_apart w h6
  have hboth := none_both hf ht
  have hsok := (he (.str s) (by simp)).2.2 s rfl
  have s1 := eqS s "slope" hsok (by kernel_rfl)
  have s2 := neS s "apart" hsok (by kernel_rfl)
  have k97 := scount_one w 97
  have k98 := scount_one w 98
  obtain ⟨fn, bn1, bn2⟩ : ∃ b, dIs [df, .non] = some (false, .bl b) ∧ dIs [dt, .non] = some (false, .bl b) := by
    rcases ht with ⟨rfl, _⟩ | ⟨s, i, j, _, _, _, _, _, rfl⟩
    · rw [hboth.mpr rfl]; exact ⟨true, rfl, rfl⟩
    · rcases hf with ⟨rfl, _⟩ | ⟨s, i, j, _, _, _, _, _, rfl⟩
      · exact absurd (hboth.mp rfl) (fun h => by cases h)
      · exact ⟨false, rfl, rfl⟩
  have i1 : dIxA [.tup nd (.str s :: l.map .int), .int 0] = some (false, .str s) := by
    show (L2.atI (D.str s :: l.map D.int) 0).bind fl = _
    rw [i0]; rfl
  rcases hn with hn | hn
  · obtain ⟨x, y, rfl⟩ : ∃ x y, l = [x, y] := by
      match l, hn with
      | [x, y], _ => exact ⟨x, y, rfl⟩
    have eq := dEqF_tup nd1 true [x, y] [((w.count 97 : Nat) : Int), ((w.count 98 : Nat) : Int)]
    have l3 : (((3 : Nat) : Int) == 3) = true := rfl
    have l34 : (((3 : Nat) : Int) == 4) = false := rfl
    simp only [List.map_cons, List.map_nil] at i0 c1 eq
    refine ⟨decide (s = "slope") && (fn && ([x, y] == [((w.count 97 : Nat) : Int), ((w.count 98 : Nat) : Int)])), run1 _ _ _ ?_, run2 _ _ _ ?_⟩
    · unfold b_is_level_shown
      refine go1 _ _ (go3 _ _ (seq_done ⟨?_⟩))
      cases h1 : decide (s = "slope") <;> rw [h1] at s1
      · simp_arith [l3, i0, fl, s1, Bool.false_and]
      · cases fn
        · simp_arith [l3, i0, fl, s1, ef, bn1, Bool.true_and, Bool.false_and]
        · simp_arith [l3, i0, fl, s1, ef, bn1, c1, methS_n, isS_str, s_a, s_b, k97, k98, le2, Bool.true_and, Bool.false_and]
          exact ⟨_, eq, rfl, rfl⟩
    · unfold b__law_is_paper
      refine go2 _ _ (go4 _ _ ?_)
      cases h1 : decide (s = "slope") <;> rw [h1] at s1
      · refine seq_stepE (P7 w (.tup nd (.str s :: [x, y].map .int))) ⟨by simp_arith [i0, fl, s1]⟩ ?_
        refine seq_done ⟨?_⟩
        cases h2 : decide (s = "apart") <;> rw [h2] at s2
        · simp_arith [l34, i0, fl, s2, Bool.not_false, Bool.false_and]
        · simp_arith [l34, i0, fl, s2, Bool.not_true, Bool.false_and]
      · refine seq_done ⟨?_⟩
        cases h3 : ([x, y] == [((w.count 97 : Nat) : Int), ((w.count 98 : Nat) : Int)]) <;> rw [h3] at eq
        · simp_arith [i0, fl, s1, c1, methS_n, isS_str, s_a, s_b, k97, k98, le2, Bool.true_and, Bool.false_and, Bool.and_false]
          exact ⟨_, eq, _, rfl, trivial⟩
        · simp_arith [i0, fl, s1, c1, methS_n, isS_str, s_a, s_b, k97, k98, le2, Bool.true_and, Bool.false_and, Bool.and_true]
          exact ⟨_, eq, _, rfl, by simp_arith [etw, bn2]⟩
  · obtain ⟨x, y, z, rfl⟩ : ∃ x y z, l = [x, y, z] := by
      match l, hn with
      | [x, y, z], _ => exact ⟨x, y, z, rfl⟩
    have eq := dEqF_tup nd1 true [x, y, z] [((w.count 97 : Nat) : Int), ((w.count 98 : Nat) : Int)]
    have e3 : ([x, y, z] == [((w.count 97 : Nat) : Int), ((w.count 98 : Nat) : Int)]) = false := by
      rw [beq_eq_false_iff_ne]
      intro h
      injection h with _ h
      injection h with _ h
      cases h
    rw [e3] at eq
    obtain ⟨nd2, c2⟩ : ∃ nd2, dCutN (.tup nd [.str s, .int x, .int y, .int z]) (some 2) none = some (false, .tup nd2 [.int y, .int z]) := dCutN_drop nd [.str s, .int x, .int y, .int z] 2 (by decide)
    have i2 : L2.atI [D.str s, .int x, .int y, .int z] 1 = some (.int x) := atI_nat _ 1 (by simp)
    have i3 : L2.atI [D.str s, .int x, .int y, .int z] 2 = some (.int y) := atI_nat _ 2 (by simp)
    have i4 : L2.atI [D.str s, .int x, .int y, .int z] 3 = some (.int z) := atI_nat _ 3 (by simp)
    have l4 : (((4 : Nat) : Int) == 3) = false := rfl
    have l44 : (((4 : Nat) : Int) == 4) = true := rfl
    simp only [List.map_cons, List.map_nil] at i0 c1 eq
    by_cases hs : s = "apart"
    case neg =>
      rw [decide_eq_false hs] at s2
      refine ⟨false, run1 _ _ _ ?_, run2 _ _ _ ?_⟩
      · unfold b_is_level_shown
        refine go1 _ _ (go3 _ _ ?_)
        refine seq_stepE (P4 w (.tup nd (.str s :: [x, y, z].map .int))) ⟨by simp_arith [l4]⟩ ?_
        exact seq_done ⟨by simp_arith [i0, fl, s2]⟩
      · unfold b__law_is_paper
        refine go2 _ _ (go4 _ _ ?_)
        cases h1 : decide (s = "slope") <;> rw [h1] at s1
        · refine seq_stepE (P7 w (.tup nd (.str s :: [x, y, z].map .int))) ⟨by simp_arith [i0, fl, s1]⟩ ?_
          exact seq_done ⟨by simp_arith [i0, fl, s2]⟩
        · refine seq_done ⟨?_⟩
          simp_arith [i0, fl, s1, c1, methS_n, isS_str, s_a, s_b, k97, k98, le2, Bool.true_and, Bool.false_and, Bool.and_false]
          exact ⟨_, eq, _, rfl, trivial⟩
    subst hs
    rw [decide_eq_true rfl] at s2
    rw [decide_eq_false (by decide +kernel)] at s1
    have wx := with_any c_is_within c_is_within_x (okD_int x) 1 (w.length : Int)
    have wy := with_any c_is_within c_is_within_x (okD_int y) 0 ((w.length : Int) - 1)
    have wz := with_any c_is_within c_is_within_x (okD_int z) 0 ((w.length : Int) - 1)
    rw [winb] at wx wy wz
    have law1 : ∀ b P, PS2 b (P7 w (.tup nd (.str "apart" :: [x, y, z].map .int))) P → PS2 (seqS (ifS (mT (mOps [(.ex (mOps [(.nm 1), (.ex (mC (.int 0)))] dIxA)), (.ex (mC (.str "slope")))] dEqF)) (seqS (retS (mAndV (mOps [(.ex (mSl dCutN (.nm 1) (some (.ex (mC (.int 1)))) none)), (.ex (mTupN [(mMethS dSCount (.nm 0) (.ex (mC (.str "a")))), (mMethS dSCount (.nm 0) (.ex (mC (.str "b"))))]))] dEqF) (mOps [(.ex (mCall d__law_apart [(mName 0)])), (.ex (mC .non))] dIs))) nextS) nextS) (seqS (ifS (mOrT (mT (mOps [(.ex (mOps [(.nm 1), (.ex (mC (.int 0)))] dIxA)), (.ex (mC (.str "apart")))] dNeF)) (mT (mOps [(.ex (mOps [(.nm 1)] dLen)), (.ex (mC (.int 4)))] dNeF))) (seqS (retS (mC (.bl false))) nextS) nextS) b)) (P7 w (.tup nd (.str "apart" :: [x, y, z].map .int))) P := fun b P h => by
      refine seq_stepE (P7 w (.tup nd (.str "apart" :: [x, y, z].map .int))) ⟨by simp_arith [i0, fl, s1]⟩ ?_
      exact seq_stepE (P7 w (.tup nd (.str "apart" :: [x, y, z].map .int))) ⟨by simp_arith [i0, fl, s2, l44, Bool.not_true]⟩ h
    by_cases hx : 1 ≤ x ∧ x ≤ w.length
    case neg =>
      have bx : (decide (1 ≤ x) && decide (x ≤ (w.length : Int))) = false := by
        rw [Bool.and_eq_false_iff, decide_eq_false_iff_not, decide_eq_false_iff_not]; omega
      rw [bx] at wx
      refine ⟨false, run1 _ _ _ ?_, run2 _ _ _ ?_⟩
      · unfold b_is_level_shown
        refine go1 _ _ (go3 _ _ ?_)
        refine seq_stepE (P4 w (.tup nd (.str "apart" :: [x, y, z].map .int))) ⟨by simp_arith [l4]⟩ ?_
        exact seq_done ⟨by simp_arith [i0, i2, fl, s2, el, wx]⟩
      · unfold b__law_is_paper
        refine go2 _ _ (go4 _ _ (law1 _ _ ?_))
        refine seq_stepE [some (false, WD w), some (false, .tup nd (.str "apart" :: [x, y, z].map .int)), none, some (false, .int x), some (false, .int y), some (false, .int z), none] ⟨by simp_arith [c1]⟩ ?_
        refine seq_done ⟨?_⟩
        by_cases q : 1 ≤ x
        · have q2 : decide (x ≤ (w.length : Int)) = false := decide_eq_false (by omega)
          simp_arith [el, decide_eq_true q, q2]
        · simp_arith [el, decide_eq_false q]
    have bx : (decide (1 ≤ x) && decide (x ≤ (w.length : Int))) = true := by
      rw [Bool.and_eq_true, decide_eq_true_eq, decide_eq_true_eq]; omega
    rw [bx] at wx
    by_cases hyz : (0 ≤ y ∧ y < w.length) ∧ 0 ≤ z ∧ z < w.length
    case neg =>
      have byz : ([y, z].all fun a => decide (0 ≤ a) && decide (a ≤ (w.length : Int) - 1)) = false := by
        cases e : ([y, z].all fun a => decide (0 ≤ a) && decide (a ≤ (w.length : Int) - 1)) with
        | false => rfl
        | true =>
          simp only [List.all_cons, List.all_nil, Bool.and_true, Bool.and_eq_true, decide_eq_true_eq] at e
          omega
      refine ⟨false, run1 _ _ _ ?_, run2 _ _ _ ?_⟩
      · unfold b_is_level_shown
        refine go1 _ _ (go3 _ _ ?_)
        refine seq_stepE (P4 w (.tup nd (.str "apart" :: [x, y, z].map .int))) ⟨by simp_arith [l4]⟩ ?_
        refine seq_stepE (P4 w (.tup nd (.str "apart" :: [x, y, z].map .int))) ⟨by simp_arith [i0, i2, fl, s2, el, wx]⟩ ?_
        refine seq_done ⟨?_⟩
        simp_arith [c2, post_lc]
        refine ⟨rfl, ?_⟩
        refine lc_cons (.bl (decide (0 ≤ y) && decide (y ≤ (w.length : Int) - 1))) rfl rfl rfl ?_ ?_
        · simp_arith [wipeD, el, wy]
        refine lc_cons (.bl (decide (0 ≤ z) && decide (z ≤ (w.length : Int) - 1))) rfl rfl rfl ?_ ?_
        · simp_arith [wipeD, el, wz]
        refine lc_nil ?_
        · have := dAll_map (fun a => decide (0 ≤ a) && decide (a ≤ (w.length : Int) - 1)) [y, z]
          rw [byz] at this
          simp only [List.map_cons, List.map_nil] at this
          simp_arith [putBack, wipeD, this]
      · unfold b__law_is_paper
        refine go2 _ _ (go4 _ _ (law1 _ _ ?_))
        refine seq_stepE [some (false, WD w), some (false, .tup nd (.str "apart" :: [x, y, z].map .int)), none, some (false, .int x), some (false, .int y), some (false, .int z), none] ⟨by simp_arith [c1]⟩ ?_
        refine seq_done ⟨?_⟩
        have q1 : decide (1 ≤ x) = true := decide_eq_true hx.1
        have q2 : decide (x ≤ (w.length : Int)) = true := decide_eq_true hx.2
        by_cases r1 : 0 ≤ y
        · by_cases r2 : y < (w.length : Int)
          · by_cases r3 : 0 ≤ z
            · have r4 : decide (z < (w.length : Int)) = false := decide_eq_false (by omega)
              simp_arith [el, q1, q2, decide_eq_true r1, decide_eq_true r2, decide_eq_true r3, r4]
            · simp_arith [el, q1, q2, decide_eq_true r1, decide_eq_true r2, decide_eq_false r3]
          · simp_arith [el, q1, q2, decide_eq_true r1, decide_eq_false r2]
        · simp_arith [el, q1, q2, decide_eq_false r1]
    obtain ⟨m, rfl⟩ : ∃ m : Nat, x = (m : Int) := ⟨x.toNat, by omega⟩
    obtain ⟨i, rfl⟩ : ∃ m : Nat, y = (m : Int) := ⟨y.toNat, by omega⟩
    obtain ⟨j, rfl⟩ : ∃ m : Nat, z = (m : Int) := ⟨z.toNat, by omega⟩
    have eo := c__law_counts w m (by omega)
    have ai := counts_at (w := w) m (i := i) (by omega)
    have aj := counts_at (w := w) m (i := j) (by omega)
    have ea := c_is_apart w m i j (by omega)
    have eg : decide (((cntB w m j : Nat) : Int) + 2 ≤ ((cntB w m i : Nat) : Int)) = gapB w m i j := by
      unfold gapB
      rw [Bool.eq_iff_iff, decide_eq_true_eq, decide_eq_true_eq]
      omega
    refine ⟨gapB w m i j, run1 _ _ _ ?_, run2 _ _ _ ?_⟩
    · unfold b_is_level_shown
      refine go1 _ _ (go3 _ _ ?_)
      refine seq_stepE (P4 w (.tup nd (.str "apart" :: [(m : Int), (i : Int), (j : Int)].map .int))) ⟨by simp_arith [l4]⟩ ?_
      refine seq_stepE (P4 w (.tup nd (.str "apart" :: [(m : Int), (i : Int), (j : Int)].map .int))) ⟨by simp_arith [i0, i2, fl, s2, el, wx]⟩ ?_
      refine seq_stepE (P4 w (.tup nd (.str "apart" :: [(m : Int), (i : Int), (j : Int)].map .int))) ⟨?_⟩ ?_
      · simp_arith [c2, post_lc]
        have by' : (decide ((0 : Int) ≤ (i : Int)) && decide ((i : Int) ≤ (w.length : Int) - 1)) = true := by
          rw [Bool.and_eq_true, decide_eq_true_eq, decide_eq_true_eq]; omega
        have bz' : (decide ((0 : Int) ≤ (j : Int)) && decide ((j : Int) ≤ (w.length : Int) - 1)) = true := by
          rw [Bool.and_eq_true, decide_eq_true_eq, decide_eq_true_eq]; omega
        rw [by'] at wy
        rw [bz'] at wz
        refine ⟨rfl, ?_⟩
        refine lc_cons (.bl true) rfl rfl rfl ?_ ?_
        · simp_arith [wipeD, el, wy]
        refine lc_cons (.bl true) rfl rfl rfl ?_ ?_
        · simp_arith [wipeD, el, wz]
        refine lc_nil ?_
        · have : dAll [.lst [.bl true, .bl true]] = some (false, .bl true) := rfl
          simp_arith [putBack, wipeD, this]
      refine ⟨?_⟩
      simp_arith [i2, i3, i4, fl, ea]
    · unfold b__law_is_paper
      refine go2 _ _ (go4 _ _ (law1 _ _ ?_))
      refine seq_stepE [some (false, WD w), some (false, .tup nd (.str "apart" :: [(m : Int), (i : Int), (j : Int)].map .int)), none, some (false, .int (m : Int)), some (false, .int (i : Int)), some (false, .int (j : Int)), none] ⟨by simp_arith [c1]⟩ ?_
      have q1 : decide ((1 : Int) ≤ (m : Int)) = true := decide_eq_true hx.1
      have q2 : decide ((m : Int) ≤ (w.length : Int)) = true := decide_eq_true hx.2
      refine seq_stepE [some (false, WD w), some (false, .tup nd (.str "apart" :: [(m : Int), (i : Int), (j : Int)].map .int)), none, some (false, .int (m : Int)), some (false, .int (i : Int)), some (false, .int (j : Int)), none] ⟨by simp_arith [el, q1, q2, decide_eq_true hyz.1.1, decide_eq_true hyz.1.2, decide_eq_true hyz.2.1, decide_eq_true hyz.2.2]⟩ ?_
      refine ⟨?_⟩
      simp_arith [eo, ai, aj, fl, eg]
end K33
set_option Elab.async false
set_option linter.all false
set_option maxRecDepth 100000
set_option maxHeartbeats 1000000
set_option autoImplicit false
namespace K33
open PySem PySem.Spec PyProof.Rows L2 PL
theorem itm_bl (b : Bool) : Itm (.bl b) := itm_not trivial (fun _ _ e => by cases e) (fun _ e => by cases e) ((ShQ.bl b).mono (by omega) (by omega))
theorem itm_str {s : Str} (h0 : PyData.strOk s = true) (h1 : (s.cps.toList.all fun c => decide (c < 16 ^ 8)) = true) (h2 : s.length ≤ 100) : Itm (.str s) := itm_not trivial (fun _ _ e => by cases e) (fun _ e => by cases e; exact h0) (sS h1 h2)
theorem itm_slope : Itm (.str "slope") := itm_str (by kernel_rfl) (by decide) (by decide)
theorem itm_apart : Itm (.str "apart") := itm_str (by kernel_rfl) (by decide) (by decide)
abbrev odd : List D := [D.non, .bl true, .bl false, .int 0, .int 1, .int 2, .int (-1), .str "slope", .str "apart", .tup true [], .lst [], .dic []]
theorem odd12 : ∀ v ∈ odd, Itm v := by
  intro v hv
  simp only [odd, List.mem_cons, List.mem_nil_iff, or_false] at hv
  rcases hv with rfl | rfl | rfl | rfl | rfl | rfl | rfl | rfl | rfl | rfl | rfl | rfl
  · exact itm_not trivial (fun _ _ e => by cases e) (fun _ e => by cases e) (ShQ.non.mono (by omega) (by omega))
  · exact itm_bl true
  · exact itm_bl false
  · exact itm_int (by decide)
  · exact itm_int (by decide)
  · exact itm_int (by decide)
  · exact itm_int (by decide)
  · exact itm_slope
  · exact itm_apart
  · exact itm_tup true (l := []) (by simp) (by simp)
  · exact itm_not trivial (fun _ _ e => by cases e) (fun _ e => by cases e) ((ShQ.lst (ds := []) (z := 0) (h := 0) (by simp)).mono (by simp) (by omega))
  · exact itm_not trivial (fun _ _ e => by cases e) (fun _ e => by cases e) (ShQ.dic0.mono (by omega) (by omega))
theorem itm_thg {v : D} (h : Itm v) (hn : noTup v) : Tgd v := ⟨.inl ⟨h.elt.1, hn⟩, h.sh.mono (by omega) (by omega)⟩
theorem odd_tgd : ∀ v ∈ odd, Tgd v := by
  intro v hv
  have h := odd12 v hv
  simp only [odd, List.mem_cons, List.mem_nil_iff, or_false] at hv
  rcases hv with rfl | rfl | rfl | rfl | rfl | rfl | rfl | rfl | rfl | rfl | rfl | rfl
  case inr.inr.inr.inr.inr.inr.inr.inr.inr.inl => exact tgd_tup true (by simp) (by simp)
  all_goals exact itm_thg h (fun _ _ e => by cases e)
def BentTo (c : List Int) (f : FDen) (h x : D) (Q : D → Prop) : Prop := ∃ fr v h', f [h, x] = .ok fr v (some h') ∧ HandOk c h' ∧ Q v
abbrev B (r : FDen) : FDen := fden true 2 4 (b__law_bent r)
theorem draw_ex {dd : FDen} (hd : DrawOk dd) {c : List Int} {h : D} {b : Int} (hh : HandOk c h) (hb : 0 < b) (hb2 : b < 1073741824) : ∃ r h', dd [h, .int b] = .ok false (.int r) (some h') ∧ 0 ≤ r ∧ r < b ∧ HandOk c h' := by
  have key := drawH (P := fun fr d o => fr = false ∧ ∃ r h', d = .int r ∧ o = some h' ∧ 0 ≤ r ∧ r < b ∧ HandOk c h') (X := fun _ _ _ => False) hd hh hb hb2 (fun r h' h0 h1 k => ⟨rfl, r, h', rfl, rfl, h0, h1, k⟩)
  cases e : dd [h, .int b] with
  | ok fr d o =>
    rw [e] at key
    obtain ⟨rfl, r, h', rfl, rfl, h0, h1, k⟩ := key
    exact ⟨r, h', rfl, h0, h1, k⟩
  | exc _ _ _ => rw [e] at key; exact key.elim
  | stuck => rw [e] at key; exact key.elim
theorem bent_i {r : FDen} {c : List Int} {h : D} (hh : HandOk c h) {a : Int} (ha : a.natAbs ≤ 1000000) : BentTo c (B r) h (.int a) Itm := by
  have key : ∃ fr d d0, B r [h, .int a] = .ok fr d (some d0) ∧ (HandOk c d0 ∧ Itm d) := by
    refine run_def2Io (dd := B r) (np := 2) (n := 4) (mb := b__law_bent r) rfl [h, .int a] (fun fr d d0 => HandOk c d0 ∧ Itm d) (Eq.refl 2) ?_
    unfold b__law_bent
    have et : dIsA .tuple [.int a] = some (false, .bl false) := rfl
    have ei : dIsA .int [.int a] = some (false, .bl true) := rfl
    have eq1 : dEqF [.int a, .int 1] = some (false, .bl (a == 1)) := dEqF_int
    have em : ∀ x y z : D, dMulX [.lst [x, y, z], .int 3] = some (true, .lst [x, y, z, x, y, z, x, y, z]) := fun x y z => rfl
    refine seq_stepE [some (true, h), some (false, .int a), none, none] ⟨by simp_arith [et]⟩ ?_
    refine seq_stepE [some (true, h), some (false, .int a), some (true, .lst odd), none] ⟨by simp_arith [n1, mDnew, leN (show 12 ≤ 100000 by decide)]⟩ ?_
    have el := addLL (a := odd) (b := [.int (a + 1), .int (a - 1), .bl (a == 1), .int (a + 1), .int (a - 1), .bl (a == 1), .int (a + 1), .int (a - 1), .bl (a == 1)]) (by simp)
    refine seq_stepE [some (true, h), some (false, .int a), some (true, .lst (odd ++ [.int (a + 1), .int (a - 1), .bl (a == 1), .int (a + 1), .int (a - 1), .bl (a == 1), .int (a + 1), .int (a - 1), .bl (a == 1)])), none] ⟨by simp_arith [et, ei, eq1, em, el, leN (show 3 ≤ 100000 by decide)]⟩ ?_
    refine ⟨?_⟩
    simp_arith [true_and]
    refine anyL c__law_draw c__law_some hh (by simp) (by simp) ?_
    intro v h3 hv hh3
    simp_arith [true_and]
    refine ⟨hh3, ?_⟩
    have hv : v ∈ odd ++ [.int (a + 1), .int (a - 1), .bl (a == 1), .int (a + 1), .int (a - 1), .bl (a == 1), .int (a + 1), .int (a - 1), .bl (a == 1)] := hv
    rcases List.mem_append.mp hv with hv | hv
    · exact odd12 v hv
    · simp only [List.mem_cons, List.mem_nil_iff, or_false] at hv
      rcases hv with rfl | rfl | rfl | rfl | rfl | rfl | rfl | rfl | rfl <;> first | exact itm_bl _ | exact itm_int (by omega)
  obtain ⟨fr, d, d0, e, q1, q2⟩ := key
  exact ⟨fr, d, d0, e, q1, q2⟩
theorem bent_s {r : FDen} {c : List Int} {h : D} (hh : HandOk c h) {s : Str} : BentTo c (B r) h (.str s) Itm := by
  have key : ∃ fr v d0, B r [h, .str s] = .ok fr v (some d0) ∧ (HandOk c d0 ∧ Itm v) := by
    refine run_def2Io (dd := B r) (np := 2) (n := 4) (mb := b__law_bent r) rfl [h, .str s] (fun fr v d0 => HandOk c d0 ∧ Itm v) (Eq.refl 2) ?_
    unfold b__law_bent
    have et : dIsA .tuple [.str s] = some (false, .bl false) := rfl
    have ei : dIsA .int [.str s] = some (false, .bl false) := rfl
    refine seq_stepE [some (true, h), some (false, .str s), none, none] ⟨by simp_arith [et]⟩ ?_
    refine seq_stepE [some (true, h), some (false, .str s), some (true, .lst odd), none] ⟨by simp_arith [n1, mDnew, leN (show 12 ≤ 100000 by decide)]⟩ ?_
    refine seq_stepE [some (true, h), some (false, .str s), some (true, .lst odd), none] ⟨by simp_arith [et, ei]⟩ ?_
    refine ⟨?_⟩
    simp_arith [true_and]
    refine anyL c__law_draw c__law_some hh (by simp) (by simp) ?_
    intro v h3 hv hh3
    simp_arith [true_and]
    exact ⟨hh3, odd12 v hv⟩
  obtain ⟨fr, v, d0, e, q1, q2⟩ := key
  exact ⟨fr, v, d0, e, q1, q2⟩
/-- a paper: its kind, then two or three numbers -/
def Pap (v : D) : Prop := ∃ (nd : Bool) (s : Str) (l : List Int), v = .tup nd (.str s :: l.map .int) ∧ (s = "slope" ∨ s = "apart") ∧ 2 ≤ l.length ∧ l.length ≤ 3 ∧ ∀ x ∈ l, x.natAbs ≤ 1000
theorem Pap.big {nd : Bool} {s : Str} {l : List Int} (hs : s = "slope" ∨ s = "apart") (hb : ∀ x ∈ l, x.natAbs ≤ 1000) : ∀ d ∈ D.str s :: l.map .int, Big d := by
  intro d hd
  rcases List.mem_cons.mp hd with rfl | hd
  · rcases hs with rfl | rfl
    · exact itm_slope.big
    · exact itm_apart.big
  · obtain ⟨x, hx, rfl⟩ := List.mem_map.mp hd
    exact big_int (Nat.le_trans (hb x hx) (by decide))
theorem Pap.tgd {v : D} (h : Pap v) : Tgd v := by
  obtain ⟨nd, s, l, rfl, hs, h2, h3, hb⟩ := h
  exact tgd_tup nd (by simp; omega) (Pap.big (nd := nd) hs hb)
theorem bent_ok {r : FDen} {c : List Int} {h : D} (hh : HandOk c h) {v : D} (hv : Pap v) : BentTo c (B (B r)) h v Tgd := by
  obtain ⟨nd, s, l, rfl, hs, h2, h3, hb⟩ := hv
  have bg := Pap.big (nd := nd) hs hb
  have sub : ∀ (h : D) (x : D), HandOk c h → x ∈ D.str s :: l.map .int → BentTo c (B r) h x Itm := fun h x hh hx => by
    rcases List.mem_cons.mp hx with rfl | hx
    · exact bent_s hh
    · obtain ⟨y, hy, rfl⟩ := List.mem_map.mp hx
      exact bent_i hh (Nat.le_trans (hb y hy) (by decide))
  have l4 : (D.str s :: l.map D.int).length ≤ 4 := by simp; omega
  have l1 : 1 ≤ (D.str s :: l.map D.int).length := by simp
  generalize D.str s :: l.map D.int = ds at bg sub l4 l1
  have key : ∃ fr v d0, B (B r) [h, .tup nd ds] = .ok fr v (some d0) ∧ (HandOk c d0 ∧ Tgd v) := by
    refine run_def2Io (dd := B (B r)) (np := 2) (n := 4) (mb := b__law_bent (B r)) rfl [h, .tup nd ds] (fun fr v d0 => HandOk c d0 ∧ Tgd v) (Eq.refl 2) ?_
    have et := isTup_yes nd ds
    have e0 : decide ((0 : Int) < ((ds.length : Nat) : Int)) = true := decide_eq_true (by omega)
    unfold b__law_bent
    obtain ⟨q, h1, e1, q0, q4, hh1⟩ := draw_ex c__law_draw hh (b := 4) (by decide) (by decide)
    by_cases hq : 0 < q
    · have dq : decide (0 < q) = true := decide_eq_true hq
      obtain ⟨p, h2, e2, p0, p1, hh2⟩ := draw_ex c__law_draw hh1 (b := ds.length) (by omega) (by omega)
      obtain ⟨a, rfl⟩ : ∃ a : Nat, p = (a : Int) := ⟨p.toNat, by omega⟩
      have ha : a < ds.length := by omega
      obtain ⟨fr, w, h3, er, hh3, hw⟩ := sub h2 ds[a] hh2 (List.getElem_mem ha)
      obtain ⟨n2, c1⟩ := dCutN_take nd ds (a : Int) (by omega)
      obtain ⟨n3, c2⟩ := dCutN_drop nd ds ((a : Int) + 1) (by omega)
      have t1 : ((a : Int)).toNat = a := by omega
      have t2 : ((a : Int) + 1).toNat = a + 1 := by omega
      rw [t1] at c1
      rw [t2] at c2
      have ex := atI_nat ds a ha
      obtain ⟨n4, c3⟩ := addN_tup n2 true (ds.take a) [w] (by simp; omega)
      obtain ⟨n5, c4⟩ := addN_tup n4 n3 (ds.take a ++ [w]) (ds.drop (a + 1)) (by simp; omega)
      refine seq_done ⟨?_⟩
      simp_arith [et, e0, e1, dq, e2, c1, c2, ex, fl, er, c3, c4]
      refine ⟨hh3, tgd_tup _ (by simp; omega) fun e he => ?_⟩
      rcases List.mem_append.mp he with he | he
      · rcases List.mem_append.mp he with he | he
        · exact bg _ (List.mem_of_mem_take he)
        · rw [List.mem_singleton.mp he]; exact hw.big
      · exact bg _ (List.mem_of_mem_drop he)
    · have dq : decide (0 < q) = false := decide_eq_false hq
      obtain ⟨m1, x1, c1, cl1, cm1⟩ := cut_any nd ds none (some (-1))
      obtain ⟨m2, x2, c2, cl2, cm2⟩ := cut_any nd ds (some 1) none
      obtain ⟨m3, c3⟩ : ∃ n7, dRev [.tup nd ds] = some (false, .tup n7 ds.reverse) := ⟨_, rfl⟩
      obtain ⟨m4, x4, c4, cl4, cm4⟩ := cut_any nd ds (some (-1)) none
      obtain ⟨m5, c5⟩ := addN_tup nd m4 ds x4 (by omega)
      have c6 : dList [.tup nd ds] = some (true, .lst ds) := rfl
      refine seq_stepE [some (true, h1), some (false, .tup nd ds), none, none] ⟨by simp_arith [et, e0, e1, dq]⟩ ?_
      refine seq_stepE [some (true, h1), some (false, .tup nd ds), some (true, .lst odd), none] ⟨by simp_arith [n1, mDnew, leN (show 12 ≤ 100000 by decide)]⟩ ?_
      have el := addLL (a := odd) (b := [.tup m1 x1, .tup m2 x2, .tup m3 ds.reverse, .tup m5 (ds ++ x4), .lst ds]) (by simp)
      refine seq_stepE [some (true, h1), some (false, .tup nd ds), some (true, .lst (odd ++ [.tup m1 x1, .tup m2 x2, .tup m3 ds.reverse, .tup m5 (ds ++ x4), .lst ds])), none] ⟨by simp_arith [et, n1, c1, c2, c3, c4, c5, c6, el, leN (show 5 ≤ 100000 by decide)]⟩ ?_
      refine ⟨?_⟩
      simp_arith [true_and]
      refine anyL c__law_draw c__law_some hh1 (by simp) (by simp) ?_
      intro v h3 hv hh3
      simp_arith [true_and]
      refine ⟨hh3, ?_⟩
      have hv : v ∈ odd ++ [.tup m1 x1, .tup m2 x2, .tup m3 ds.reverse, .tup m5 (ds ++ x4), .lst ds] := hv
      rcases List.mem_append.mp hv with hv | hv
      · exact odd_tgd v hv
      · simp only [List.mem_cons, List.mem_nil_iff, or_false] at hv
        rcases hv with rfl | rfl | rfl | rfl | rfl
        · exact tgd_tup _ (by omega) fun e he => bg _ (cm1 e he)
        · exact tgd_tup _ (by omega) fun e he => bg _ (cm2 e he)
        · exact tgd_tup _ (by simp; omega) fun e he => bg _ (List.mem_reverse.mp he)
        · exact tgd_tup _ (by simp; omega) fun e he => (List.mem_append.mp he).elim (bg _) fun he => bg _ (cm4 e he)
        · exact tgd_lst (by omega) bg
  obtain ⟨fr, v, d0, e, q1, q2⟩ := key
  exact ⟨fr, v, d0, e, q1, q2⟩
end K33
set_option Elab.async false
set_option linter.all false
set_option maxRecDepth 100000
set_option maxHeartbeats 1000000
set_option autoImplicit false
namespace K33
open PySem PySem.Spec PyProof.Rows L2 PL
def AB (w : List Nat) : Prop := ∀ c ∈ w, c = 97 ∨ c = 98
/-- what is told -/
theorem told_ok {w : List Nat} (hw : TwoW w) : ∃ v, d_level_shown [WD w] = .ok false v none ∧ Pap v := by
  have h6 := hw.l60
  have hc := c_check_two_word w hw
  obtain ⟨df, ef, hf⟩ := c_first_apart w h6
  have k97 := scount_one w 97
  have k98 := scount_one w 98
  have c97 : w.count 97 ≤ w.length := List.count_le_length
  have c98 : w.count 98 ≤ w.length := List.count_le_length
  have key : ∃ fr v, d_level_shown [WD w] = .ok fr v none ∧ (fr = false ∧ Pap v) := by
    refine run_def2Q (dd := d_level_shown) (np := 1) (n := 2) (mb := b_level_shown) (by delta d_level_shown; exact Eq.refl _) [WD w] (fun fr v => fr = false ∧ Pap v) (Eq.refl 1) ?_
    unfold b_level_shown
    refine seq_stepE [some (false, WD w), none] ⟨by simp_arith [hc]⟩ ?_
    refine seq_stepE [some (false, WD w), some (false, df)] ⟨by simp_arith [ef]⟩ ?_
    refine ⟨?_⟩
    rcases hf with ⟨rfl, _⟩ | ⟨s, i, j, s1, s2, hi, hj, _, rfl⟩
    · have bn : dIs [.non, .non] = some (false, .bl true) := rfl
      simp_arith [bn, methS_n, isS_str, s_a, s_b, k97, k98, leN (show 3 ≤ 100000 by decide)]
      refine ⟨true, "slope", [((w.count 97 : Nat) : Int), ((w.count 98 : Nat) : Int)], rfl, .inl rfl, by simp, by simp, fun x hx => ?_⟩
      simp only [List.mem_cons, List.mem_nil_iff, or_false] at hx
      omega
    · have bn : dIs [.tup true [.int (s : Int), .int (i : Int), .int (j : Int)], .non] = some (false, .bl false) := rfl
      obtain ⟨n4, c3⟩ := addN_tup true true [.str "apart"] [.int (s : Int), .int (i : Int), .int (j : Int)] (by simp)
      simp_arith [bn, c3, leN (show 1 ≤ 100000 by decide)]
      refine ⟨n4, "apart", [(s : Int), (i : Int), (j : Int)], rfl, .inr rfl, by simp, by simp, fun x hx => ?_⟩
      simp only [List.mem_cons, List.mem_nil_iff, or_false] at hx
      omega
  obtain ⟨fr, v, e, rfl, q⟩ := key
  exact ⟨v, e, q⟩
/-- the own level word -/
theorem level_ok {a b : Int} (a1 : 1 ≤ a) (a7 : a ≤ 7) (b1 : 1 ≤ b) (b7 : b ≤ 7) : ∃ w, d__law_level [.int a, .int b] = .ok false (WD w) none ∧ AB w ∧ 2 ≤ w.length ∧ w.length ≤ 14 := by
  have key : ∃ fr v, d__law_level [.int a, .int b] = .ok fr v none ∧ (fr = false ∧ ∃ w, v = WD w ∧ AB w ∧ 2 ≤ w.length ∧ w.length ≤ 14) := by
    refine run_def2Q (dd := d__law_level) (np := 2) (n := 5) (mb := b__law_level) (by delta d__law_level; exact Eq.refl _) [.int a, .int b] (fun fr v => fr = false ∧ ∃ w, v = WD w ∧ AB w ∧ 2 ≤ w.length ∧ w.length ≤ 14) (Eq.refl 2) ?_
    unfold b__law_level
    refine seq_stepE [some (false, .int a), some (false, .int b), none, some (true, .lst []), some (false, .int 0)] ⟨by simp_arith [true_and]⟩ ?_
    refine seq_stepI (fun st => ∃ (w : List Nat) (x2 x4 : Option (Bool × D)), AB w ∧ (w.length : Int) = a + b ∧ st = [some (false, .int a), some (false, .int b), x2, some (true, .lst (w.map fun c => D.str (SL [c]))), x4]) ⟨?_⟩ ?_
    · simp_arith [true_and]
      rw [if_pos (by omega)]
      refine for_rg (fun k st => ∃ (w : List Nat) (x2 : Option (Bool × D)) (r : Int), AB w ∧ w.length = k ∧ st = [some (false, .int a), some (false, .int b), x2, some (true, .lst (w.map fun c => D.str (SL [c]))), some (false, .int r)]) ⟨[], none, 0, by unfold AB; simp, rfl, rfl⟩ ?_ ?_
      · rintro k st hk ⟨w, x2, r, hw, hl, rfl⟩
        refine ⟨_, rfl, ?_⟩
        have ap : ∀ c : Nat, mfAppend (.lst (w.map fun c => D.str (SL [c]))) [.str (SL [c])] = some (.lst ((w ++ [c]).map fun c => D.str (SL [c])), .non) := fun c => by
          rw [app_any _ _ (by rw [List.length_map]; omega), List.map_append]; rfl
        have hAB : ∀ c : Nat, c = 97 ∨ c = 98 → AB (w ++ [c]) := fun c hc d hd => by
          rcases List.mem_append.mp hd with hd | hd
          · exact hw d hd
          · rw [List.mem_singleton.mp hd]; exact hc
        cases q : decide (a + b ≤ r + b) with
        | true =>
          simp_arith [q, s_b, ap 98]
          exact ⟨w ++ [98], hAB 98 (.inr rfl), by rw [List.length_append, hl]; rfl, _, _, rfl⟩
        | false =>
          simp_arith [q, s_a, ap 97]
          exact ⟨w ++ [97], hAB 97 (.inl rfl), by rw [List.length_append, hl]; rfl, _, _, rfl⟩
      · rintro st ⟨w, x2, r, hw, hl, rfl⟩
        exact ⟨w, hw, by omega, _, _, rfl⟩
    rintro st ⟨w, x2, x4, hw, hl, rfl⟩
    refine ⟨?_⟩
    have ej := join_ones (fun c => c) w (by omega)
    rw [List.map_id'] at ej
    simp_arith [methS_e, isS_str, ej]
    exact ⟨w, rfl, hw, by omega, by omega⟩
  obtain ⟨fr, v, e, rfl, w, rfl, h1, h2, h3⟩ := key
  exact ⟨w, e, h1, h2, h3⟩
theorem twos_ok {c : List Int} {h : D} (hh : HandOk c h) : ∃ w h', d__law_twos [h] = .ok false (WD w) (some h') ∧ HandOk c h' ∧ TwoW w := by
  have key : ∃ fr v h', d__law_twos [h] = .ok fr v (some h') ∧ (fr = false ∧ HandOk c h' ∧ ∃ w, v = WD w ∧ TwoW w) := by
    refine run_def2Io (dd := d__law_twos) (np := 1) (n := 7) (mb := b__law_twos) (by delta d__law_twos; exact Eq.refl _) [h] (fun fr v h' => fr = false ∧ HandOk c h' ∧ ∃ w, v = WD w ∧ TwoW w) (Eq.refl 1) ?_
    unfold b__law_twos
    obtain ⟨a, h1, e1, a0, a1, hh1⟩ := draw_ex c__law_draw hh (b := 7) (by decide) (by decide)
    obtain ⟨b, h2, e2, b0, b1, hh2⟩ := draw_ex c__law_draw hh1 (b := 7) (by decide) (by decide)
    obtain ⟨k, h3, e3, k0, k1, hh3⟩ := draw_ex c__law_draw hh2 (b := 4) (by decide) (by decide)
    obtain ⟨w, ew, wa, w2, w14⟩ := level_ok (a := 1 + a) (b := 1 + b) (by omega) (by omega) (by omega) (by omega)
    obtain ⟨p, h4, e4, p0, p1, hh4⟩ := draw_ex c__law_draw hh3 (b := w.length) (by omega) (by omega)
    have el := len_str w (by omega)
    refine seq_stepE [some (true, h2), none, none, some (false, .int (1 + a)), some (false, .int (1 + b)), none, none] ⟨by simp_arith [e1, e2]⟩ ?_
    refine seq_stepE [some (true, h3), none, some (false, WD w), some (false, .int (1 + a)), some (false, .int (1 + b)), some (false, .int k), none] ⟨by simp_arith [e3, ew]⟩ ?_
    refine seq_stepE [some (true, h4), some (false, .int p), some (false, WD w), some (false, .int (1 + a)), some (false, .int (1 + b)), some (false, .int k), none] ⟨by simp_arith [el, e4]⟩ ?_
    refine seq_stepI (fun st => ∃ (w : List Nat), AB w ∧ 2 ≤ w.length ∧ w.length ≤ 14 ∧ st = [some (true, h4), some (false, .int p), some (false, WD w), some (false, .int (1 + a)), some (false, .int (1 + b)), some (false, .int k), none]) ⟨?_⟩ ?_
    · have x1 := cutN_str (w := w) (lo := some p) (hi := none) (by omega)
      have x2 := cutN_str (w := w) (lo := none) (hi := some p) (by omega)
      rw [cut_drop w p p0] at x1
      rw [cut_take w p p0] at x2
      have x3 := addN_str (w.drop p.toNat) (w.take p.toNat) (by simp; omega)
      simp_arith [x1, x2, x3]
      exact ⟨_, fun d hd => (List.mem_append.mp hd).elim (fun hd => wa d (List.mem_of_mem_drop hd)) fun hd => wa d (List.mem_of_mem_take hd), by simp; omega, by simp; omega, rfl⟩
    clear ew wa w2 w14 el e4 p1
    rintro st ⟨w, wa, w2, w14, rfl⟩
    have n1 : dNeg [.int 1] = some (false, .int (-1)) := by kernel_rfl
    refine seq_stepI (fun st => ∃ (h : D) (w : List Nat), HandOk c h ∧ AB w ∧ 2 ≤ w.length ∧ w.length ≤ 14 ∧ st = [some (true, h), some (false, .int p), some (false, WD w), some (false, .int (1 + a)), some (false, .int (1 + b)), some (false, .int k), none]) ⟨?_⟩ ?_
    · by_cases hk : k = 1
      · subst hk
        have x1 := cutN_str (w := w) (lo := none) (hi := some (-1)) (by omega)
        rw [cut_init] at x1
        have x2 : ∀ c, dAddN [.str (SL (w.take (w.length - 1))), .str (SL [c])] = some (false, .str (SL (w.take (w.length - 1) ++ [c]))) := fun c => addN_str _ _ (by simp; omega)
        have hAB : ∀ c : Nat, c = 97 ∨ c = 98 → AB (w.take (w.length - 1) ++ [c]) := fun c hc d hd => by
          rcases List.mem_append.mp hd with hd | hd
          · exact wa d (List.mem_of_mem_take hd)
          · rw [List.mem_singleton.mp hd]; exact hc
        simp_arith [n1, x1, s_a, s_b, leN (show 2 ≤ 100000 by decide)]
        refine anyL c__law_draw c__law_some hh4 (by simp) (by simp) ?_
        intro v h5 hv hh5
        simp only [List.mem_cons, List.mem_nil_iff, or_false] at hv
        rcases hv with rfl | rfl
        · simp_arith [x2]
          exact ⟨h5, hh5, _, hAB 97 (.inl rfl), by simp; omega, by simp; omega, rfl⟩
        · simp_arith [x2]
          exact ⟨h5, hh5, _, hAB 98 (.inr rfl), by simp; omega, by simp; omega, rfl⟩
      · have ek : (k == 1) = false := beq_false_of_ne hk
        simp_arith [ek]
        exact ⟨h4, hh4, w, wa, w2, w14, rfl⟩
    clear hh4 wa w2 w14
    rintro st ⟨h4, w, hh4, wa, w2, w14, rfl⟩
    refine seq_stepI (fun st => ∃ (h : D) (w : List Nat), HandOk c h ∧ AB w ∧ w.length ≤ 20 ∧ st = [some (true, h), some (false, .int p), some (false, WD w), some (false, .int (1 + a)), some (false, .int (1 + b)), some (false, .int k), none]) ⟨?_⟩ ?_
    · by_cases hk : k = 2
      · subst hk
        have x1 := cutN_str (w := w) (lo := none) (hi := some 6) (by omega)
        rw [cut_take w 6 (by decide)] at x1
        obtain ⟨m, h5, e5, m0, m1, hh5⟩ := draw_ex c__law_draw hh4 (b := 3) (by decide) (by decide)
        obtain ⟨n, hn⟩ : ∃ n : Nat, 1 + m = (n : Int) := ⟨(1 + m).toNat, by omega⟩
        have x2 := mulX_str (w.take (6 : Int).toNat) n (by simp; omega) (by omega)
        simp_arith [x1, e5, hn, x2]
        refine ⟨h5, hh5, _, fun d hd => ?_, ?_, rfl⟩
        · obtain ⟨l, hl, hd⟩ := List.mem_flatten.mp hd
          rw [(List.mem_replicate.mp hl).2] at hd
          exact wa d (List.mem_of_mem_take hd)
        · rw [List.length_flatten, List.map_replicate, List.sum_replicate_nat, List.length_take]
          have : n ≤ 3 := by omega
          have q : min (6 : Int).toNat w.length ≤ 6 := Nat.min_le_left _ _
          calc n * _ ≤ 3 * 6 := Nat.mul_le_mul this q
            _ ≤ 20 := by decide
      · have ek : (k == 2) = false := beq_false_of_ne hk
        simp_arith [ek]
        exact ⟨h4, hh4, w, wa, by omega, rfl⟩
    clear hh4 wa w2 w14
    rintro st ⟨h4, w, hh4, wa, w14, rfl⟩
    refine seq_stepI (fun st => ∃ (h : D) (w : List Nat), HandOk c h ∧ AB w ∧ w.length ≤ 20 ∧ st = [some (true, h), some (false, .int p), some (false, WD w), some (false, .int (1 + a)), some (false, .int (1 + b)), some (false, .int k), none]) ⟨?_⟩ ?_
    · by_cases hk : k = 3
      · subst hk
        obtain ⟨m, h5, e5, m0, m1, hh5⟩ := draw_ex c__law_draw hh4 (b := 10) (by decide) (by decide)
        obtain ⟨n, hn⟩ : ∃ n : Nat, 2 + m = (n : Int) := ⟨(2 + m).toNat, by omega⟩
        simp_arith [methS_e, isS_str, post_lc, e5, hn, beq_self_eq_true, if_true]
        rw [if_pos (by omega), Int.toNat_natCast]
        have hR : (rangeD 0 1 n).length = n := rangeD_len
        generalize rangeD 0 1 n = R at hR ⊢
        refine ⟨by first | (rw [hR]; exact leN (by omega)) | exact leN (by omega), rfl, ?_⟩
        refine lc_any (fun st => ∃ (h : D), HandOk c h ∧ st = [some (true, h), some (false, .int p), some (false, WD w), some (false, .int (1 + a)), some (false, .int (1 + b)), some (false, .int 3), none]) (fun v => ∃ c : Nat, (c = 97 ∨ c = 98) ∧ v = .str (SL [c])) ?_ ⟨h5, hh5, rfl⟩ ?_
        · rintro d st hd ⟨h, hh, rfl⟩
          refine ⟨_, rfl, ?_⟩
          simp_arith [s_a, s_b, leN (show 2 ≤ 100000 by decide)]
          refine anyL c__law_draw c__law_some hh (by simp) (by simp) ?_
          intro v h6 hv hh6
          simp only [List.mem_cons, List.mem_nil_iff, or_false] at hv
          simp_arith [true_and]
          refine ⟨rfl, ?_, h6, hh6, rfl⟩
          rcases hv with rfl | rfl
          · exact ⟨97, .inl rfl, rfl⟩
          · exact ⟨98, .inr rfl, rfl⟩
        · rintro out st hol hop ⟨h, hh, rfl⟩
          have hx : ∀ out : List D, (∀ o ∈ out, ∃ c : Nat, (c = 97 ∨ c = 98) ∧ o = .str (SL [c])) → ∃ w : List Nat, AB w ∧ out = w.map fun c => D.str (SL [c]) := by
            intro out
            induction out with
            | nil => intro _; exact ⟨[], by unfold AB; simp, rfl⟩
            | cons o out ih =>
              intro h
              obtain ⟨c, hc, rfl⟩ := h o (by simp)
              obtain ⟨w, hw, rfl⟩ := ih fun o ho => h o (by simp [ho])
              exact ⟨c :: w, fun d hd => by
                rcases List.mem_cons.mp hd with rfl | hd
                · exact hc
                · exact hw d hd, rfl⟩
          obtain ⟨u, hu, rfl⟩ := hx out hop
          rw [List.length_map, hR] at hol
          have ej := join_ones (fun c => c) u (by omega)
          rw [List.map_id'] at ej
          simp_arith [putBack, wipeD, ej]
          exact ⟨h, hh, u, hu, by omega, rfl⟩
      · have ek : (k == 3) = false := beq_false_of_ne hk
        simp_arith [ek]
        exact ⟨h4, hh4, w, wa, w14, rfl⟩
    clear hh4 wa w14
    rintro st ⟨h4, w, hh4, wa, w14, rfl⟩
    refine ⟨?_⟩
    have ab : TwoW [97, 98] := ⟨by decide, by decide, by decide, by decide⟩
    cases q1 : decide (97 ∈ w) with
    | false =>
      simp_arith [s_a, inZ_one, q1, s_ab]
      exact ⟨hh4, _, rfl, ab⟩
    | true =>
      cases q2 : decide (98 ∈ w) with
      | false =>
        simp_arith [s_a, s_b, inZ_one, q1, q2, s_ab]
        exact ⟨hh4, _, rfl, ab⟩
      | true =>
        simp_arith [s_a, s_b, inZ_one, q1, q2, s_ab]
        exact ⟨hh4, _, rfl, ⟨wa, of_decide_eq_true q1, of_decide_eq_true q2, by omega⟩⟩
  obtain ⟨fr, v, h', e, rfl, hh', w, rfl, q⟩ := key
  exact ⟨w, h', e, hh', q⟩
end K33
set_option Elab.async false
set_option linter.all false
set_option maxRecDepth 100000
set_option maxHeartbeats 2000000
set_option autoImplicit false
namespace K33
open PySem PySem.Spec PyProof.Rows L2 PL
abbrev O := Option (Bool × D)
theorem isT_self (x : Str) : isText x (.str x) = true := by unfold isText; simp
theorem at_end (T : List D) (x : D) : L2.atI (T ++ [x]) (-1) = some x := by
  show (L2.ixN (T ++ [x]).length (-1)).bind (fun j => (T ++ [x])[j]?) = some x
  have e : L2.ixN (T ++ [x]).length (-1) = some T.length := by
    unfold L2.ixN
    rw [if_neg (by omega), if_pos (by rw [List.length_append, List.length_singleton]; omega)]
    congr 1
    rw [List.length_append, List.length_singleton]
    omega
  rw [e, Option.bind_some, List.getElem?_append_right (Nat.le_refl _), Nat.sub_self]
  rfl
abbrev S (h : D) (w : List Nat) (x2 x3 x4 x5 x6 x7 x8 : O) : DSt := [some (true, h), some (false, WD w), x2, x3, x4, x5, x6, x7, x8]
theorem pap_ab {w : List Nat} (hw : TwoW w) : Pap (.tup true [.str "slope", .int ((w.count 97 : Nat) : Int), .int ((w.count 98 : Nat) : Int)]) := by
  have c97 : w.count 97 ≤ w.length := List.count_le_length
  have c98 : w.count 98 ≤ w.length := List.count_le_length
  have := hw.l60
  refine ⟨true, "slope", [((w.count 97 : Nat) : Int), ((w.count 98 : Nat) : Int)], rfl, .inl rfl, by simp, by simp, fun x hx => ?_⟩
  simp only [List.mem_cons, List.mem_nil_iff, or_false] at hx
  omega
theorem pap_ap {a b c : Int} (ha : a.natAbs ≤ 1000) (hb : b.natAbs ≤ 1000) (hc : c.natAbs ≤ 1000) : Pap (.tup true [.str "apart", .int a, .int b, .int c]) := by
  refine ⟨true, "apart", [a, b, c], rfl, .inr rfl, by simp, by simp, fun x hx => ?_⟩
  simp only [List.mem_cons, List.mem_nil_iff, or_false] at hx
  rcases hx with rfl | rfl | rfl <;> assumption
def GT (k : Nat) (T : List D) : Prop := (∀ v ∈ T, Tgd v) ∧ T.length = k ∧ ∃ r x, T = r ++ [x] ∧ Pap x
theorem first7 {v told : D} (ht : Pap told) (hv : v ∈ [told, .non, .tup true [.str "slope"], .tup true [.str "apart", .int 1, .int 0], .lst [.str "slope", .int 1, .int 1], .str "slope", .tup true [.str "slope", .bl true, .bl true]]) : Tgd v := by
  simp only [List.mem_cons, List.mem_nil_iff, or_false] at hv
  rcases hv with rfl | rfl | rfl | rfl | rfl | rfl | rfl
  · exact ht.tgd
  · exact odd_tgd _ (by simp [odd])
  · refine tgd_tup true (by simp) fun d hd => ?_
    rw [List.mem_singleton.mp hd]
    exact itm_slope.big
  · exact tgd_tup true (by simp) (Pap.big (nd := true) (l := [1, 0]) (.inr rfl) (by decide))
  · exact tgd_lst (by simp) (Pap.big (nd := true) (l := [1, 1]) (.inl rfl) (by decide))
  · exact itm_thg itm_slope (fun _ _ e => by cases e)
  · refine tgd_tup true (by simp) fun d hd => ?_
    simp only [List.mem_cons, List.mem_nil_iff, or_false] at hd
    rcases hd with rfl | rfl | rfl
    · exact itm_slope.big
    · exact (itm_bl true).big
    · exact (itm_bl true).big
theorem law_is_b (b : Bool) : d__law_is [.bl b, .bl b] = .ok false (.bl true) none := by cases b <;> kernel_rfl
theorem right {c : List Int} {h : D} (hh : HandOk c h) : ∃ h', d__law_is_case_right [h] = .ok false (.bl true) (some h') ∧ HandOk c h' := by
  obtain ⟨w, h1, ew, hh1, hw⟩ := twos_ok hh
  obtain ⟨told, et, ht⟩ := told_ok hw
  have h6 := hw.l60
  have hp := hw.pos
  have el := len_str w (by omega)
  have k97 := scount_one w 97
  have k98 := scount_one w 98
  have key : ∃ fr d d0, d__law_is_case_right [h] = .ok fr d (some d0) ∧ (fr = false ∧ d = .bl true ∧ HandOk c d0) := by
    refine run_def2Io (dd := d__law_is_case_right) (np := 1) (n := 9) (mb := b__law_is_case_right) (by delta d__law_is_case_right; exact Eq.refl _) [h] (fun fr d d0 => fr = false ∧ d = .bl true ∧ HandOk c d0) (Eq.refl 1) ?_
    unfold b__law_is_case_right
    refine seq_stepE (S h1 w none none none none none none none) ⟨by simp_arith [ew]⟩ ?_
    refine seq_stepE (S h1 w none none none (some (false, told)) (some (false, .int (w.length : Nat))) none none) ⟨by simp_arith [et, el]⟩ ?_
    refine seq_stepE (S h1 w (some (true, .lst [told, .non, .tup true [.str "slope"], .tup true [.str "apart", .int 1, .int 0], .lst [.str "slope", .int 1, .int 1], .str "slope", .tup true [.str "slope", .bl true, .bl true]])) none none (some (false, told)) (some (false, .int (w.length : Nat))) none none) ⟨by simp_arith [leN (show 1 ≤ 100000 by decide), leN (show 3 ≤ 100000 by decide), leN (show 7 ≤ 100000 by decide)]⟩ ?_
    refine seq_stepI (fun st => ∃ T, GT 8 T ∧ st = S h1 w (some (true, .lst T)) none none (some (false, told)) (some (false, .int (w.length : Nat))) none none) ⟨?_⟩ ?_
    · have ap := app_any [told, .non, .tup true [.str "slope"], .tup true [.str "apart", .int 1, .int 0], .lst [.str "slope", .int 1, .int 1], .str "slope", .tup true [.str "slope", .bl true, .bl true]] (.tup true [.str "slope", .int ((w.count 97 : Nat) : Int), .int ((w.count 98 : Nat) : Int)]) (by simp)
      simp_arith [methS_n, isS_str, s_a, s_b, k97, k98, ap, leN (show 3 ≤ 100000 by decide)]
      refine ⟨[told, .non, .tup true [.str "slope"], .tup true [.str "apart", .int 1, .int 0], .lst [.str "slope", .int 1, .int 1], .str "slope", .tup true [.str "slope", .bl true, .bl true]] ++ [.tup true [.str "slope", .int ((w.count 97 : Nat) : Int), .int ((w.count 98 : Nat) : Int)]], ⟨fun v hv => ?_, rfl, _, _, rfl, pap_ab hw⟩, rfl⟩
      rcases List.mem_append.mp hv with hv | hv
      · exact first7 ht hv
      · rw [List.mem_singleton.mp hv]; exact (pap_ab hw).tgd
    rintro st ⟨T, gT, rfl⟩
    refine seq_stepI (fun st => ∃ (h : D) (T : List D) (x3 : O), HandOk c h ∧ GT 24 T ∧ st = S h w (some (true, .lst T)) x3 none (some (false, told)) (some (false, .int (w.length : Nat))) none none) ⟨?_⟩ ?_
    · simp_arith [true_and]
      rw [if_pos (by omega)]
      refine for_rg (fun k st => ∃ (h : D) (T : List D) (x3 : O), HandOk c h ∧ GT (8 + 2 * k) T ∧ st = S h w (some (true, .lst T)) x3 none (some (false, told)) (some (false, .int (w.length : Nat))) none none) ⟨h1, T, none, hh1, gT, rfl⟩ ?_ ?_
      · rintro k st hk ⟨h, T, x3, hh, gT, rfl⟩
        obtain ⟨g1, g2, r, x, rfl, gx⟩ := gT
        refine ⟨_, rfl, PS2.out ?_⟩
        generalize (some (false, D.int (0 + (k : Int))) : O) = y3
        have hk8 : k < 8 := hk
        have n1 : dNeg [.int 1] = some (false, .int (-1)) := by kernel_rfl
        have ae := at_end r x
        refine seq_stepI (fun st => ∃ (h v : D), HandOk c h ∧ Tgd v ∧ st = S h w (some (true, .lst (r ++ [x] ++ [v]))) y3 none (some (false, told)) (some (false, .int (w.length : Nat))) none none) ⟨?_⟩ ?_
        · simp_arith [n1, ae, fl, leN (show 2 ≤ 100000 by decide)]
          refine anyL c__law_draw c__law_some hh (by simp) (by simp) ?_
          intro v h3 hv hh3
          have pv : Pap v := by
            simp only [List.mem_cons, List.mem_nil_iff, or_false] at hv
            rcases hv with rfl | rfl
            · exact ht
            · exact gx
          obtain ⟨fr, u, h4, eb, hh4, hu⟩ := bent_ok (r := dR__law_bent 10) hh3 pv
          have eb : d__law_bent [h3, v] = .ok fr u (some h4) := eb
          have ap := app_any (r ++ [x]) u (by omega)
          simp_arith [eb, ap]
          exact ⟨h4, hh4, u, hu, rfl⟩
        rintro st ⟨h, v, hh, hv, rfl⟩
        refine ⟨?_⟩
        obtain ⟨p1, h3, e3, p10, p11, hh3⟩ := draw_ex c__law_draw hh (b := w.length) (by omega) (by omega)
        obtain ⟨p2, h4, e4, p20, p21, hh4⟩ := draw_ex c__law_draw hh3 (b := w.length) (by omega) (by omega)
        obtain ⟨p3, h5, e5, p30, p31, hh5⟩ := draw_ex c__law_draw hh4 (b := w.length) (by omega) (by omega)
        have ap := app_any (r ++ [x] ++ [v]) (.tup true [.str "apart", .int (1 + p1), .int p2, .int p3]) (by rw [List.length_append, g2]; simp; omega)
        have pp : Pap (.tup true [.str "apart", .int (1 + p1), .int p2, .int p3]) := pap_ap (by omega) (by omega) (by omega)
        simp_arith [e3, e4, e5, ap, leN (show 4 ≤ 100000 by decide)]
        refine ⟨h5, hh5, _, ⟨fun u hu => ?_, ?_, _, _, rfl, pp⟩, _, rfl⟩
        · rcases List.mem_append.mp hu with hu | hu
          · rcases List.mem_append.mp hu with hu | hu
            · exact g1 u hu
            · rw [List.mem_singleton.mp hu]; exact hv
          · rw [List.mem_singleton.mp hu]; exact pp.tgd
        · rw [List.length_append, List.length_append, g2]; simp; omega
      · rintro st ⟨h, T, x3, hh, gT, rfl⟩
        first | exact ⟨h, hh, T, gT, rfl⟩ | exact ⟨h, hh, T, gT, _, rfl⟩ | exact ⟨h, T, _, hh, gT, rfl⟩
    clear gT hh1 hh
    rintro st ⟨h, T, x3, hh, gT, rfl⟩
    refine seq_stepI (fun st => ∃ (x4 x7 x8 : O), st = S h w (some (false, .lst T)) x3 x4 (some (false, told)) (some (false, .int (w.length : Nat))) x7 x8) ⟨?_⟩ ?_
    · simp_arith [true_and]
      refine for_inv (fun R st => ∃ (x4 x7 x8 : O), (∀ v ∈ R, Tgd v) ∧ st = S h w (some (false, .lst T)) x3 x4 (some (false, told)) (some (false, .int (w.length : Nat))) x7 x8) ?hs ?hd _ _ ?h0
      case h0 => exact ⟨none, none, none, gT.1, rfl⟩
      case hs =>
        rintro v R st ⟨x4, x7, x8, hR, rfl⟩
        have hv := hR v (by simp)
        obtain ⟨b, J⟩ := judge hw hv.thg
        obtain ⟨tx, etx⟩ := hv.sh.text (by omega) (by omega)
        have e1 := J.prog
        have e2 := J.own
        have e3 := law_is_b b
        refine ⟨_, rfl, PS2.out ?_⟩
        refine seq_stepE (S h w (some (false, .lst T)) x3 (some (false, v)) (some (false, told)) (some (false, .int (w.length : Nat))) (some (false, .str tx)) x8) ⟨by simp_arith [post_reprQ1, etx]⟩ ?_
        refine seq_stepE (S h w (some (false, .lst T)) x3 (some (false, v)) (some (false, told)) (some (false, .int (w.length : Nat))) (some (false, .str tx)) (some (false, .bl b))) ⟨by simp_arith [e1]⟩ ?_
        refine ⟨?_⟩
        simp_arith [e2, e3, post_reprQV, etx, isT_self]
        first | exact fun u hu => hR u (List.mem_cons_of_mem _ hu) | exact ⟨_, _, _, fun u hu => hR u (List.mem_cons_of_mem _ hu), rfl⟩ | exact ⟨fun u hu => hR u (List.mem_cons_of_mem _ hu), _, _, _, rfl⟩
      case hd =>
        rintro st ⟨x4, x7, x8, _, rfl⟩
        exact ⟨_, _, _, rfl⟩
    rintro st ⟨x4, x7, x8, rfl⟩
    refine ⟨?_⟩
    simp_arith [true_and]
    exact hh
  obtain ⟨fr, d, d0, e, rfl, rfl, hh'⟩ := key
  exact ⟨d0, e, hh'⟩
theorem known1 : d_is_level_shown [.str "aabb", .tup true [.str "apart", .int 2, .int 2, .int 0]] = .ok false (.bl true) none := by kernel_rfl
theorem known2 : d_is_level_shown [.str "aabb", .tup true [.str "apart", .int 2, .int 0, .int 2]] = .ok false (.bl false) none := by kernel_rfl
theorem known3 : d_is_level_shown [.str "aab", .tup true [.str "slope", .int 2, .int 1]] = .ok false (.bl true) none := by kernel_rfl
theorem known4 : d__law_is [.lst [.bl true, .bl false, .bl true], .lst [.bl true, .bl false, .bl true]] = .ok false (.bl true) none := by kernel_rfl
theorem plain (ns : List Int) (hn : ns.length ≤ 63) : d_law [.rol (ns.map .int)] = .ok false (.bl true) none := by
  obtain ⟨c, s, eh⟩ := c__law_hand ns hn
  have hh := hand_start c s
  generalize handD c 0 0 s 0 = h at eh hh
  refine run_def2 (dd := d_law) (np := 1) (n := 4) (mb := b_law) (by delta d_law; exact Eq.refl _) [.rol (ns.map .int)] false (.bl true) (Eq.refl 1) ?_
  unfold b_law
  generalize D.rol (ns.map .int) = sc at eh ⊢
  refine seq_stepE [some (false, sc), some (true, h), none, none] ⟨by simp_arith [eh]⟩ ?_
  refine seq_stepE [some (false, sc), some (true, h), some (true, .lst [.bl true, .bl false]), none] ⟨by simp_arith [known1, known2, leN (show 2 ≤ 100000 by decide), leN (show 4 ≤ 100000 by decide)]⟩ ?_
  have ea : dAddN [.lst [.bl true, .bl false], .lst [.bl true]] = some (true, .lst [.bl true, .bl false, .bl true]) := by kernel_rfl
  refine seq_stepE [some (false, sc), some (true, h), some (true, .lst [.bl true, .bl false]), none] ⟨by simp_arith [known3, known4, ea, leN (show 1 ≤ 100000 by decide), leN (show 3 ≤ 100000 by decide)]⟩ ?_
  refine ⟨?_⟩
  simp_arith [post_lc]
  rw [if_pos (by omega)]
  have hR : (rangeD 0 1 (8 : Int).toNat).length = 8 := by rw [rangeD_len]; rfl
  generalize rangeD 0 1 (8 : Int).toNat = R at hR ⊢
  refine ⟨by first | (rw [hR]; exact leN (by decide)) | exact leN (by decide), rfl, ?_⟩
  refine lc_any (fun st => ∃ (h : D), HandOk c h ∧ st = [some (false, sc), some (true, h), some (true, .lst [.bl true, .bl false]), none]) (fun v => v = .bl true) ?_ ⟨h, hh, rfl⟩ ?_
  · rintro d st hd ⟨h, hh, rfl⟩
    obtain ⟨h2, e2, hh2⟩ := right hh
    refine ⟨_, rfl, ?_⟩
    simp_arith [e2]
    exact ⟨rfl, h2, hh2, rfl⟩
  · rintro out st hol hop ⟨h, hh, rfl⟩
    have : out = List.replicate out.length (.bl true) := List.eq_replicate_iff.mpr ⟨rfl, hop⟩
    have e : dAll [.lst out] = some (false, .bl true) := by
      rw [this]
      have := dAll_map (fun _ : Nat => true) (List.range out.length)
      rw [List.map_const', List.length_range] at this
      rw [this]
      have : ((List.range out.length).all fun _ => true) = true := List.all_eq_true.mpr fun _ _ => rfl
      rw [this]
    simp_arith [putBack, wipeD, e]
end K33
set_option Elab.async false
set_option linter.all false
set_option maxRecDepth 100000
set_option maxHeartbeats 0
namespace K33
open PySem PySem.Spec PyProof.Rows L2 PL
/-! the head -/
def dd__law_hand : He.DefD := ⟨("_law_hand", none), "_law_hand", "_law_hand", defArgs s__law_hand, defBody s__law_hand, defScope s__law_hand, [], []⟩
def dd_is_word : He.DefD := ⟨("is_word", none), "is_word", "is_word", defArgs s_is_word, defBody s_is_word, defScope s_is_word, [], []⟩
def dd_is_two_word : He.DefD := ⟨("is_two_word", none), "is_two_word", "is_two_word", defArgs s_is_two_word, defBody s_is_two_word, defScope s_is_two_word, [], []⟩
def dd_check_two_word : He.DefD := ⟨("check_two_word", none), "check_two_word", "check_two_word", defArgs s_check_two_word, defBody s_check_two_word, defScope s_check_two_word, [], []⟩
def dd_later_ones : He.DefD := ⟨("later_ones", none), "later_ones", "later_ones", defArgs s_later_ones, defBody s_later_ones, defScope s_later_ones, [], []⟩
def dd_is_apart : He.DefD := ⟨("is_apart", none), "is_apart", "is_apart", defArgs s_is_apart, defBody s_is_apart, defScope s_is_apart, [], []⟩
def dd_is_integer : He.DefD := ⟨("is_integer", none), "is_integer", "is_integer", defArgs s_is_integer, defBody s_is_integer, defScope s_is_integer, [], []⟩
def dd_is_within : He.DefD := ⟨("is_within", none), "is_within", "is_within", defArgs s_is_within, defBody s_is_within, defScope s_is_within, [], []⟩
def dd_first_apart : He.DefD := ⟨("first_apart", none), "first_apart", "first_apart", defArgs s_first_apart, defBody s_first_apart, defScope s_first_apart, [], []⟩
def dd_is_level_shown : He.DefD := ⟨("is_level_shown", none), "is_level_shown", "is_level_shown", defArgs s_is_level_shown, defBody s_is_level_shown, defScope s_is_level_shown, [], []⟩
def dd__law_is : He.DefD := ⟨("_law_is", none), "_law_is", "_law_is", defArgs s__law_is, defBody s__law_is, defScope s__law_is, [], []⟩
def dd__law_draw : He.DefD := ⟨("_law_draw", none), "_law_draw", "_law_draw", defArgs s__law_draw, defBody s__law_draw, defScope s__law_draw, [], []⟩
def dd__law_level : He.DefD := ⟨("_law_level", none), "_law_level", "_law_level", defArgs s__law_level, defBody s__law_level, defScope s__law_level, [], []⟩
def dd__law_some : He.DefD := ⟨("_law_some", none), "_law_some", "_law_some", defArgs s__law_some, defBody s__law_some, defScope s__law_some, [], []⟩
def dd__law_twos : He.DefD := ⟨("_law_twos", none), "_law_twos", "_law_twos", defArgs s__law_twos, defBody s__law_twos, defScope s__law_twos, [], []⟩
def dd_level_shown : He.DefD := ⟨("level_shown", none), "level_shown", "level_shown", defArgs s_level_shown, defBody s_level_shown, defScope s_level_shown, [], []⟩
def dd__law_bent : He.DefD := ⟨("_law_bent", none), "_law_bent", "_law_bent", defArgs s__law_bent, defBody s__law_bent, defScope s__law_bent, [], []⟩
def dd__law_counts : He.DefD := ⟨("_law_counts", none), "_law_counts", "_law_counts", defArgs s__law_counts, defBody s__law_counts, defScope s__law_counts, [], []⟩
def dd__law_apart : He.DefD := ⟨("_law_apart", none), "_law_apart", "_law_apart", defArgs s__law_apart, defBody s__law_apart, defScope s__law_apart, [], []⟩
def dd__law_is_paper : He.DefD := ⟨("_law_is_paper", none), "_law_is_paper", "_law_is_paper", defArgs s__law_is_paper, defBody s__law_is_paper, defScope s__law_is_paper, [], []⟩
def dd__law_is_case_right : He.DefD := ⟨("_law_is_case_right", none), "_law_is_case_right", "_law_is_case_right", defArgs s__law_is_case_right, defBody s__law_is_case_right, defScope s__law_is_case_right, [], []⟩
def dd_law : He.DefD := ⟨("law", none), "law", "law", defArgs s_law, defBody s_law, defScope s_law, [], []⟩
def fn : List He.DefD := [dd__law_hand, dd_is_word, dd_is_two_word, dd_check_two_word, dd_later_ones, dd_is_apart, dd_is_integer, dd_is_within, dd_first_apart, dd_is_level_shown, dd__law_is, dd__law_draw, dd__law_level, dd__law_some, dd__law_twos, dd_level_shown, dd__law_bent, dd__law_counts, dd__law_apart, dd__law_is_paper, dd__law_is_case_right, dd_law]
abbrev R : PySem.W.OpenRow := PySem.W.OpenLaw.row PySem.Challenge.rw_stripturns_k33_whole_papers_of_level_wor
def fa : List He.Fa := [.glo "_law_hand", .glo "is_word", .glo "is_two_word", .glo "check_two_word", .glo "later_ones", .glo "is_apart", .glo "is_integer", .glo "is_within", .glo "first_apart", .glo "is_level_shown", .glo "_law_is", .glo "_law_draw", .glo "_law_level", .glo "_law_some", .glo "_law_twos", .glo "level_shown", .glo "_law_bent", .glo "_law_counts", .glo "_law_apart", .glo "_law_is_paper", .glo "_law_is_case_right", .glo "law", .free "abs", .free "all", .free "bool", .free "int", .free "isinstance", .free "len", .free "list", .free "range", .free "repr", .free "str", .free "tuple", .free "zip", .int "MOST_SIZE" 60, .str "APART" "apart", .str "LETTERS" "abcdef", .str "SLOPE" "slope"]
def fx : List (PySem.W.Frag → Bool) := [sysB]
abbrev hk : PySem.W.Hook := hookS 4 fa fn fx
def ob (s : PySem.W.SharedT) : AlQ := obsS 4 fa fn fx (HandSHeadRun.getT s)
theorem ob_eq (s : PySem.W.SharedT) : ob s = hk.obs s.abs := obsS_eq (HandSHeadRun.getT_eq s)
theorem run (w : World) : HandSHeadRun.RunEq R (PySem.W.view R.prog [32]) hk ob 4000 [("StripError" : PySem.Str), ("NoTwo" : PySem.Str), ("MOST_SIZE" : PySem.Str), ("is_integer" : PySem.Str), ("is_within" : PySem.Str), ("LETTERS" : PySem.Str), ("is_word" : PySem.Str), ("SLOPE" : PySem.Str), ("APART" : PySem.Str), ("is_two_word" : PySem.Str), ("check_two_word" : PySem.Str), ("later_ones" : PySem.Str), ("is_apart" : PySem.Str), ("first_apart" : PySem.Str), ("level_shown" : PySem.Str), ("is_level_shown" : PySem.Str), ("_law_hand" : PySem.Str), ("_law_draw" : PySem.Str), ("_law_some" : PySem.Str), ("_law_is" : PySem.Str), ("_law_counts" : PySem.Str), ("_law_apart" : PySem.Str), ("_law_level" : PySem.Str), ("_law_twos" : PySem.Str), ("_law_is_paper" : PySem.Str), ("_law_bent" : PySem.Str), ("_law_is_case_right" : PySem.Str)] w := by
  intro os
  kernel_rfl
theorem facts {P : Program} {w : World} {K : PySem.W.Frag} {h : Heap} {mg : Str → Option Value} {f : Addr} (X : K.In h) (G : h.Ns mainGlobals mg) (hfa : mg ("law" : Str) = some (.ref f)) (c0 : SaysP fa fn fx K) :
    ∃ fd : FuncData, (∀ (s : Shared) (v : Value), BindsTo s fd ⟨[v], []⟩ [("script", v)]) ∧ ∀ base : Heap, K.In base → base.Ns mainGlobals mg → LamF K mg base → FOk P w K mg base 38 f fd ["script"] false d_law := by
  have c := c0.toD
  obtain ⟨fd0, F0⟩ := c.def_ 0 (d := dd__law_hand) rfl
  obtain ⟨fd1, F1⟩ := c.def_ 1 (d := dd_is_word) rfl
  obtain ⟨fd2, F2⟩ := c.def_ 2 (d := dd_is_two_word) rfl
  obtain ⟨fd3, F3⟩ := c.def_ 3 (d := dd_check_two_word) rfl
  obtain ⟨fd4, F4⟩ := c.def_ 4 (d := dd_later_ones) rfl
  obtain ⟨fd5, F5⟩ := c.def_ 5 (d := dd_is_apart) rfl
  obtain ⟨fd6, F6⟩ := c.def_ 6 (d := dd_is_integer) rfl
  obtain ⟨fd7, F7⟩ := c.def_ 7 (d := dd_is_within) rfl
  obtain ⟨fd8, F8⟩ := c.def_ 8 (d := dd_first_apart) rfl
  obtain ⟨fd9, F9⟩ := c.def_ 9 (d := dd_is_level_shown) rfl
  obtain ⟨fd10, F10⟩ := c.def_ 10 (d := dd__law_is) rfl
  obtain ⟨fd11, F11⟩ := c.def_ 11 (d := dd__law_draw) rfl
  obtain ⟨fd12, F12⟩ := c.def_ 12 (d := dd__law_level) rfl
  obtain ⟨fd13, F13⟩ := c.def_ 13 (d := dd__law_some) rfl
  obtain ⟨fd14, F14⟩ := c.def_ 14 (d := dd__law_twos) rfl
  obtain ⟨fd15, F15⟩ := c.def_ 15 (d := dd_level_shown) rfl
  obtain ⟨fd16, F16⟩ := c.def_ 16 (d := dd__law_bent) rfl
  obtain ⟨fd17, F17⟩ := c.def_ 17 (d := dd__law_counts) rfl
  obtain ⟨fd18, F18⟩ := c.def_ 18 (d := dd__law_apart) rfl
  obtain ⟨fd19, F19⟩ := c.def_ 19 (d := dd__law_is_paper) rfl
  obtain ⟨fd20, F20⟩ := c.def_ 20 (d := dd__law_is_case_right) rfl
  obtain ⟨fd21, F21⟩ := c.def_ 21 (d := dd_law) rfl
  have gm : Gm K mg := {
    n_abs := He.free_ok X G (c.fact 22 (f := .free "abs") rfl)
    n_all := He.free_ok X G (c.fact 23 (f := .free "all") rfl)
    n_bool := He.free_ok X G (c.fact 24 (f := .free "bool") rfl)
    n_int := He.free_ok X G (c.fact 25 (f := .free "int") rfl)
    n_isinstance := He.free_ok X G (c.fact 26 (f := .free "isinstance") rfl)
    n_len := He.free_ok X G (c.fact 27 (f := .free "len") rfl)
    n_list := He.free_ok X G (c.fact 28 (f := .free "list") rfl)
    n_range := He.free_ok X G (c.fact 29 (f := .free "range") rfl)
    n_repr := He.free_ok X G (c.fact 30 (f := .free "repr") rfl)
    n_str := He.free_ok X G (c.fact 31 (f := .free "str") rfl)
    n_tuple := He.free_ok X G (c.fact 32 (f := .free "tuple") rfl)
    n_zip := He.free_ok X G (c.fact 33 (f := .free "zip") rfl)
    i_MOST_SIZE := He.int_ok X G (c.fact 34 (f := .int "MOST_SIZE" 60) rfl)
    s_APART := He.str_ok X G (c.fact 35 (f := .str "APART" "apart") rfl)
    s_LETTERS := He.str_ok X G (c.fact 36 (f := .str "LETTERS" "abcdef") rfl)
    s_SLOPE := He.str_ok X G (c.fact 37 (f := .str "SLOPE" "slope") rfl)
    y_sys := sysK_of (c0.chk 0) }
  have e := hfa.symm.trans (He.glo_ok X G (c.fact 21 (f := .glo "law") rfl))
  cases e
  have b := FunD.bindsA (ps := ["script"]) F21 fun _ _ _ _ _ _ us hl => match us, hl with | [_], _ => rfl
  refine ⟨fd21, fun s v => b s [v] rfl, fun base _ _ LF => ?_⟩
  have c__law_hand : Cal P w K mg base 1 "_law_hand" ["script"] false d__law_hand := ok__law_hand F0 (He.glo_ok X G (c.fact 0 (f := .glo "_law_hand") rfl)) gm
  have c_is_word : Cal P w K mg base 1 "is_word" ["thing"] false d_is_word := ok_is_word F1 (He.glo_ok X G (c.fact 1 (f := .glo "is_word") rfl)) gm
  have c_is_two_word : Cal P w K mg base 2 "is_two_word" ["thing"] false d_is_two_word := ok_is_two_word F2 (He.glo_ok X G (c.fact 2 (f := .glo "is_two_word") rfl)) gm c_is_word
  have c_check_two_word : Cal P w K mg base 3 "check_two_word" ["word"] false d_check_two_word := ok_check_two_word F3 (He.glo_ok X G (c.fact 3 (f := .glo "check_two_word") rfl)) gm c_is_two_word
  have c_later_ones : Cal P w K mg base 1 "later_ones" ["word", "size", "at"] false d_later_ones := ok_later_ones F4 (He.glo_ok X G (c.fact 4 (f := .glo "later_ones") rfl)) gm
  have c_is_apart : Cal P w K mg base 2 "is_apart" ["word", "size", "i", "j"] false d_is_apart := ok_is_apart F5 (He.glo_ok X G (c.fact 5 (f := .glo "is_apart") rfl)) gm c_later_ones
  have c_is_integer : Cal P w K mg base 1 "is_integer" ["thing"] false d_is_integer := ok_is_integer F6 (He.glo_ok X G (c.fact 6 (f := .glo "is_integer") rfl)) gm
  have c_is_within : Cal P w K mg base 2 "is_within" ["thing", "low", "high"] false d_is_within := ok_is_within F7 (He.glo_ok X G (c.fact 7 (f := .glo "is_within") rfl)) gm c_is_integer
  have c_first_apart : Cal P w K mg base 3 "first_apart" ["word"] false d_first_apart := ok_first_apart F8 (He.glo_ok X G (c.fact 8 (f := .glo "first_apart") rfl)) gm c_is_apart
  have c_is_level_shown : Cal P w K mg base 4 "is_level_shown" ["word", "thing"] false d_is_level_shown := ok_is_level_shown F9 (He.glo_ok X G (c.fact 9 (f := .glo "is_level_shown") rfl)) gm c_check_two_word c_first_apart c_is_apart c_is_integer c_is_within
  have c__law_is : Cal P w K mg base 12 "_law_is" ["got", "due"] false d__law_is := ok__law_is F10 (He.glo_ok X G (c.fact 10 (f := .glo "_law_is") rfl)) gm
  have c__law_draw : Cal P w K mg base 1 "_law_draw" ["hand", "many"] true d__law_draw := ok__law_draw F11 (He.glo_ok X G (c.fact 11 (f := .glo "_law_draw") rfl)) gm
  have c__law_level : Cal P w K mg base 1 "_law_level" ["a", "b"] false d__law_level := ok__law_level F12 (He.glo_ok X G (c.fact 12 (f := .glo "_law_level") rfl)) gm
  have c__law_some : Cal P w K mg base 2 "_law_some" ["hand", "things"] true d__law_some := ok__law_some F13 (He.glo_ok X G (c.fact 13 (f := .glo "_law_some") rfl)) gm c__law_draw
  have c__law_twos : Cal P w K mg base 3 "_law_twos" ["hand"] true d__law_twos := ok__law_twos F14 (He.glo_ok X G (c.fact 14 (f := .glo "_law_twos") rfl)) gm c__law_draw c__law_level c__law_some
  have c_level_shown : Cal P w K mg base 4 "level_shown" ["word"] false d_level_shown := ok_level_shown F15 (He.glo_ok X G (c.fact 15 (f := .glo "level_shown") rfl)) gm c_check_two_word c_first_apart
  have c__law_bent : Cal P w K mg base 36 "_law_bent" ["hand", "thing"] true d__law_bent := ok__law_bent F16 (He.glo_ok X G (c.fact 16 (f := .glo "_law_bent") rfl)) gm c__law_draw c__law_some
  have c__law_counts : Cal P w K mg base 1 "_law_counts" ["word", "size"] false d__law_counts := ok__law_counts F17 (He.glo_ok X G (c.fact 17 (f := .glo "_law_counts") rfl)) gm
  have c__law_apart : Cal P w K mg base 2 "_law_apart" ["word"] false d__law_apart := ok__law_apart F18 (He.glo_ok X G (c.fact 18 (f := .glo "_law_apart") rfl)) gm c__law_counts
  have c__law_is_paper : Cal P w K mg base 3 "_law_is_paper" ["word", "thing"] false d__law_is_paper := ok__law_is_paper F19 (He.glo_ok X G (c.fact 19 (f := .glo "_law_is_paper") rfl)) gm c__law_apart c__law_counts
  have c__law_is_case_right : Cal P w K mg base 37 "_law_is_case_right" ["hand"] true d__law_is_case_right := ok__law_is_case_right F20 (He.glo_ok X G (c.fact 20 (f := .glo "_law_is_case_right") rfl)) gm c__law_bent c__law_draw c__law_is c__law_is_paper c__law_some c__law_twos c_is_level_shown c_level_shown
  exact FOk.ofD F21 sc_law fun cdv A outer s H E hr hgd => w_law gm c__law_hand c__law_is c__law_is_case_right c_is_level_shown hr hgd
end K33
open PySem PySem.W PySem.Calls PyProof.Rows
theorem PySem.Challenge.cw_stripturns_k33_whole_papers_of_level_wor_holds : PySem.Challenge.rw_stripturns_k33_whole_papers_of_level_wor.Holds := by
  w_on; o_law
  refine HandSHeadRun.head_any (r := OpenLaw.row PySem.Challenge.rw_stripturns_k33_whole_papers_of_level_wor) (q := view (OpenLaw.row PySem.Challenge.rw_stripturns_k33_whole_papers_of_level_wor).prog [32]) (H := K33.hk) (ob := K33.ob) (M := 4000) (loose := [("StripError" : PySem.Str), ("NoTwo" : PySem.Str), ("MOST_SIZE" : PySem.Str), ("is_integer" : PySem.Str), ("is_within" : PySem.Str), ("LETTERS" : PySem.Str), ("is_word" : PySem.Str), ("SLOPE" : PySem.Str), ("APART" : PySem.Str), ("is_two_word" : PySem.Str), ("check_two_word" : PySem.Str), ("later_ones" : PySem.Str), ("is_apart" : PySem.Str), ("first_apart" : PySem.Str), ("level_shown" : PySem.Str), ("is_level_shown" : PySem.Str), ("_law_hand" : PySem.Str), ("_law_draw" : PySem.Str), ("_law_some" : PySem.Str), ("_law_is" : PySem.Str), ("_law_counts" : PySem.Str), ("_law_apart" : PySem.Str), ("_law_level" : PySem.Str), ("_law_twos" : PySem.Str), ("_law_is_paper" : PySem.Str), ("_law_bent" : PySem.Str), ("_law_is_case_right" : PySem.Str)]) (d := HandSHeadRun.topDef (OpenLaw.row PySem.Challenge.rw_stripturns_k33_whole_papers_of_level_wor).prog 32) (kwd := []) K33.ob_eq
    (by kernel_rfl) (fun s => by kernel_rfl) K33.run (by kernel_rfl) (by kernel_rfl) (by kernel_rfl) (by rfl) (by first | assumption | decide +kernel) (by decide +kernel) ⟨rfl, rfl, rfl, rfl, rfl, by decide +kernel⟩ ?hw ?hc
  case hw => w_witness2
  case hc =>
    refine PL.walk_ofF (l := PySem.Challenge.rw_stripturns_k33_whole_papers_of_level_wor) (n := 63) (k := 38) (x := "script") rfl (by decide) (by kernel_rfl) ⟨rfl, by decide, by decide⟩ ?F
    intro w mg fa h Y G hmg0
    obtain ⟨K, KX, c, TH⟩ := Y
    have hmg : mg ("law" : PySem.Str) = some (.ref fa) := by
      have e : (HandSHeadRun.topDef (OpenLaw.row PySem.Challenge.rw_stripturns_k33_whole_papers_of_level_wor).prog 32).name = ("law" : PySem.Str) := by kernel_rfl
      rw [← e]
      exact hmg0
    obtain ⟨fd, hb, hF⟩ := K33.facts (P := (PySem.Challenge.rw_stripturns_k33_whole_papers_of_level_wor).prog) (w := w) KX G hmg c
    exact ⟨K, fd, K33.d_law, KX, TH, hb, fun ns hl hbits => K33.plain ns hl, hF⟩
