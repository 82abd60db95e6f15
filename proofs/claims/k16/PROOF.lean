import PyProof.Rows.All
import HandS.ForMost
import HandS.Exc
import HandS.ExcOwn
import HandS.WordsExc
import HandS.Walk
import HandS.DictComp
import HandS.Lambda
import HandS.Wide
import HandS.TupAny
import HandS.Flow
import HandS.TupMul
import HandS.DeepEq
import PyProof.MeetsIn
import HandS.Iter
import HandS.DictTup
import HandS.TupLe
import HandS.TupLen
import HandS.WordsDict
import HandS.More
import HandS.Zip
import KE.DataMinMax
import KE.SortData
import HandS.Style
import HandS.RaiseMore
import HandS.WideMore
import HandS.GenList
import KE.KDictSum
import HandS.NestedK
import HandS.HeadWalk
import HandS.HeadHook4
import HandS.Head2
import Wide.All
import OpenK.AllK
import Wide.FinOn
import Lean
import KE.KStateDown
import PySem.Challenge.RW_syncstack_k16_leases_and_clocks
section
/-! MirA: plain values, a store of cells, results, and the readings of Python's operations over them. -/
set_option autoImplicit false
set_option linter.all false
namespace Mir

/-- a text: its codes -/
abbrev Sg := List Nat
/-- an atomic key, a key -/
inductive AK where | i (n : Int) | s (x : Sg)
  deriving DecidableEq, Repr, Inhabited
inductive DK where | a (k : AK) | t (ks : List AK)
  deriving DecidableEq, Repr, Inhabited
/-- a value: trees (lst: a list that nobody will change; kst: the script; ktp: a tuple of the module), and refs to cells of the store -/
inductive AV where
  | non | bl (b : Bool) | int (i : Int) | str (x : Sg) | tup (xs : List AV) | ktp (xs : List AV) | lst (xs : List AV) | kst (xs : List AV) | dct (kvs : List (DK × AV)) | ref (n : Nat) | clo (i : Nat)
  deriving Repr, Inhabited
/-- what may change: a list, a dict, (a dict while a loop walks it), an instance of class c -/
inductive Cell where
  | lst (xs : List AV) | dct (kvs : List (DK × AV)) | lk (kvs : List (DK × AV)) | ins (c : Nat) (fs : List (Nat × AV))
  deriving Repr, Inhabited
abbrev Store := List Cell
inductive Res (α : Type) where
  | ok (a : α) (S : Store) | exc (c : Nat) (S : Store) | stuck
  deriving Repr
abbrev LEnv := List (Option AV)
inductive SRes where
  | nx (Λ : LEnv) (S : Store) | rt (v : AV) (S : Store) | bk (Λ : LEnv) (S : Store) | ct (Λ : LEnv) (S : Store) | exc (c : Nat) (S : Store) | stuck
  deriving Repr
abbrev EM := LEnv → Store → Res AV
abbrev AM := LEnv → Store → Res (List AV)
abbrev TM := LEnv → Store → Res Bool
abbrev SM := LEnv → Store → SRes
abbrev Fn := List AV → Store → Res AV

def Res.bind {α β : Type} : Res α → (α → Store → Res β) → Res β
  | .ok a S, f => f a S
  | .exc c S, _ => .exc c S
  | .stuck, _ => .stuck
@[simp] theorem Res.bind_ok {α β : Type} (a : α) (S : Store) (f : α → Store → Res β) : (Res.ok a S).bind f = f a S := rfl
@[simp] theorem Res.bind_exc {α β : Type} (c : Nat) (S : Store) (f : α → Store → Res β) : (Res.exc c S : Res α).bind f = .exc c S := rfl
@[simp] theorem Res.bind_stuck {α β : Type} (f : α → Store → Res β) : (Res.stuck : Res α).bind f = .stuck := rfl
def Res.sbind {α : Type} : Res α → (α → Store → SRes) → SRes
  | .ok a S, f => f a S
  | .exc c S, _ => .exc c S
  | .stuck, _ => .stuck
@[simp] theorem Res.sbind_ok {α : Type} (a : α) (S : Store) (f : α → Store → SRes) : (Res.ok a S).sbind f = f a S := rfl
@[simp] theorem Res.sbind_exc {α : Type} (c : Nat) (S : Store) (f : α → Store → SRes) : (Res.exc c S : Res α).sbind f = .exc c S := rfl
@[simp] theorem Res.sbind_stuck {α : Type} (f : α → Store → SRes) : (Res.stuck : Res α).sbind f = .stuck := rfl

/-! ### expressions -/
def eVar (i : Nat) : EM := fun Λ S => match Λ[i]? with
  | some (some v) => .ok v S
  | _ => .stuck
def eC (v : AV) : EM := fun _ S => .ok v S
def eOp (f : AV → AV → Store → Res AV) (a b : EM) : EM := fun Λ S => (a Λ S).bind fun x S1 => (b Λ S1).bind fun y S2 => f x y S2
def eUn (f : AV → Store → Res AV) (a : EM) : EM := fun Λ S => (a Λ S).bind f
def aNil : AM := fun _ S => .ok [] S
def aCons (a : EM) (t : AM) : AM := fun Λ S => (a Λ S).bind fun x S1 => (t Λ S1).bind fun xs S2 => .ok (x :: xs) S2
def szL : Nat := 16777216
/-- a tuple -/
def eTup (t : AM) : EM := fun Λ S => (t Λ S).bind fun xs S1 => if xs.length ≤ szL then .ok (.tup xs) S1 else .stuck
/-- a list that nobody will change -/
def eLstF (t : AM) : EM := fun Λ S => (t Λ S).bind fun xs S1 => if xs.length ≤ szL then .ok (.lst xs) S1 else .stuck
/-- a list in a cell -/
def eLstR (t : AM) : EM := fun Λ S => (t Λ S).bind fun xs S1 => if xs.length ≤ szL then .ok (.ref S1.length) (S1 ++ [.lst xs]) else .stuck
def tVal (a : EM) : TM := fun Λ S => (a Λ S).bind fun x S1 => match x with
  | .bl b => .ok b S1
  | _ => .stuck
def eChain (f g : AV → AV → Store → Res AV) (a b c : EM) : EM := fun Λ S => (a Λ S).bind fun x S1 => (b Λ S1).bind fun y S2 => (f x y S2).bind fun z S3 => match z with
  | .bl true => (c Λ S3).bind fun u S4 => g y u S4
  | .bl false => .ok (.bl false) S3
  | _ => .stuck
def eIf (t : TM) (a b : EM) : EM := fun Λ S => (t Λ S).bind fun c S1 => if c = true then a Λ S1 else b Λ S1
def tAnd (t u : TM) : TM := fun Λ S => (t Λ S).bind fun c S1 => if c = true then u Λ S1 else .ok false S1
def tOr (t u : TM) : TM := fun Λ S => (t Λ S).bind fun c S1 => if c = true then .ok true S1 else u Λ S1
def tNot (t : TM) : TM := fun Λ S => (t Λ S).bind fun c S1 => .ok (!c) S1

/-! ### statements -/
def sNext : SM := fun Λ S => .nx Λ S
def SRes.seq (r : SRes) (k : SM) : SRes := match r with
  | .nx Λ S => k Λ S
  | r => r
def sSeq (a b : SM) : SM := fun Λ S => (a Λ S).seq b
def sIf (t : TM) (a b : SM) : SM := fun Λ S => (t Λ S).sbind fun c S1 => if c = true then a Λ S1 else b Λ S1
def sRet (e : EM) : SM := fun Λ S => (e Λ S).sbind fun v S1 => .rt v S1
def sRetN : SM := fun _ S => .rt .non S
def sDrop (e : EM) : SM := fun Λ S => (e Λ S).sbind fun _ S1 => .nx Λ S1
def sRaise (c : Nat) : SM := fun _ S => .exc c S
def sBreak : SM := fun Λ S => .bk Λ S
def sCont : SM := fun Λ S => .ct Λ S
/-- a target -/
abbrev GM := AV → LEnv → Store → SRes
def gName (i : Nat) : GM := fun v Λ S => .nx (Λ.set i (some v)) S
abbrev GMs := List AV → LEnv → Store → SRes
def gNil : GMs := fun vs Λ S => match vs with
  | [] => .nx Λ S
  | _ => .stuck
def gCons (g : GM) (r : GMs) : GMs := fun vs Λ S => match vs with
  | v :: vs => (g v Λ S).seq (r vs)
  | [] => .stuck
/-- (a, b, ..) = a tuple -/
def tupOf : AV → Option (List AV)
  | .tup xs => some xs
  | .ktp xs => some xs
  | _ => none
def gTup (n : Nat) (g : GMs) : GM := fun v Λ S => match tupOf v with
  | some xs => if xs.length = n then g xs Λ S else .stuck
  | _ => .stuck
def SRes.only : SRes → SRes
  | .nx Λ S => .nx Λ S
  | _ => .stuck
def sAsg (e : EM) (g : GM) : SM := fun Λ S => (e Λ S).sbind fun v S1 => (g v Λ S1).only
end Mir
end

section
set_option Elab.async false
set_option linter.all false
set_option maxRecDepth 100000
set_option maxHeartbeats 1000000
/-! MirB: how the plain values stand in the heap, and the judgements. -/
namespace Mir
open PySem PySem.Spec PyProof.Rows L2

def toS (x : Sg) : Str := ⟨x.toArray⟩
def AK.k : AK → Key
  | .i n => .inl n
  | .s x => .inr (toS x)
/-- what a law's own world is: classes by number, attributes' names by number, the tables of code objects -/
structure G where
  cls : Nat → Addr
  fld : Nat → Str
  nf : Nat
  inj : ∀ i j, i < nf → j < nf → fld i = fld j → i = j
  tabs : List (Addr × Str)
/-- instances of class c may have the attribute i -/
structure FOk (K : PySem.W.Frag) (g : G) (c i : Nat) : Prop where
  lt : i < g.nf
  cls : Cls K (g.cls c)
  no : NoAttr K (g.cls c) (g.fld i)

def KT (K : PySem.W.Frag) (a : Addr) (xs : List V) : Prop := ∃ (o : Obj) (its : Array Value) (n : Nat), K.lookup a = some o ∧ o.cls = .type "tuple" ∧ o.data = .seq its n ∧ its.size ≤ sizeLine ∧ Vals xs its.toList
def KL (K : PySem.W.Frag) (a : Addr) (xs : List V) : Prop := ∃ (o : Obj) (its : Array Value) (n : Nat), K.lookup a = some o ∧ o.cls = .type "list" ∧ o.dict = none ∧ o.data = .seq its n ∧ its.size ≤ sizeLine ∧ Vals xs its.toList
section
variable (K : PySem.W.Frag) (H : Hp) (ι : List Addr)
def TupAt (a : Addr) (vs : List V) : Prop := a ∉ ι ∧ H a = some (.tup vs)
def LstAt (a : Addr) (vs : List V) : Prop := a ∉ ι ∧ Rd H a (.lst vs)
def KstAt (a : Addr) (vs : List V) : Prop := (a ∉ ι ∧ Rd H a (.lst vs)) ∨ KL K a vs
theorem TupAt.sq {K H ι} {a : Addr} {vs : List V} (h : TupAt H ι a vs) : SqT K H a vs := .inl (.inl h.2)
theorem LstAt.sq {K H ι} {a : Addr} {vs : List V} (h : LstAt H ι a vs) : SqL K H a vs := .inl h.2
theorem KstAt.sq {K H ι} {a : Addr} {vs : List V} (h : KstAt K H ι a vs) : SqL K H a vs := h.elim (fun z => .inl z.2) .inr
mutual
def Rep : AV → V → Prop
  | .non => fun v => v = .non
  | .bl b => fun v => v = .bl b
  | .int i => fun v => v = .int i
  | .str x => fun v => v = .str (toS x)
  | .tup xs => fun v => ∃ a vs, v = .ref a ∧ TupAt H ι a vs ∧ Reps xs vs
  | .ktp xs => fun v => ∃ a vs, v = .ref a ∧ KT K a vs ∧ Reps xs vs
  | .lst xs => fun v => ∃ a vs, v = .ref a ∧ LstAt H ι a vs ∧ Reps xs vs
  | .kst xs => fun v => ∃ a vs, v = .ref a ∧ KstAt K H ι a vs ∧ Reps xs vs
  | .dct kvs => fun v => ∃ a o, v = .ref a ∧ a ∉ ι ∧ ((∃ ps, H a = some (.frz o (.dK ps)) ∧ RepK kvs ps) ∨ kvs ≠ [] ∧ ∃ ps, H a = some (.frz o (.dT ps)) ∧ RepT kvs ps)
  | .ref n => fun v => ∃ a, v = .ref a ∧ ι[n]? = some a
  | .clo _ => fun _ => False
def Reps : List AV → List V → Prop
  | [] => fun vs => vs = []
  | x :: xs => fun vs => ∃ v ws, vs = v :: ws ∧ Rep x v ∧ Reps xs ws
def RepK : List (DK × AV) → List (Key × V) → Prop
  | [] => fun ps => ps = []
  | (k, x) :: r => fun ps => ∃ q v qs, k = .a q ∧ ps = (q.k, v) :: qs ∧ Rep x v ∧ RepK r qs
def RepT : List (DK × AV) → List (List Key × V) → Prop
  | [] => fun ps => ps = []
  | (k, x) :: r => fun ps => ∃ q v qs, k = .t q ∧ ps = (q.map AK.k, v) :: qs ∧ Rep x v ∧ RepT r qs
end
/-- what stands for a cell -/
def CellR (g : G) : Cell → Addr → Prop
  | .lst xs => fun a => ∃ vs, H a = some (.lst vs) ∧ Reps K H ι xs vs
  | .dct kvs => fun a => (∃ ps, H a = some (.dK ps) ∧ RepK K H ι kvs ps) ∨ ∃ ps, H a = some (.dT ps) ∧ RepT K H ι kvs ps
  | .lk kvs => fun a => ∃ o, (∃ ps, H a = some (.frz o (.dK ps)) ∧ RepK K H ι kvs ps) ∨ ∃ ps, H a = some (.frz o (.dT ps)) ∧ RepT K H ι kvs ps
  | .ins c fs => fun a => ∃ dx vs, H a = some (.ins (g.cls c) dx ((fs.map fun f => g.fld f.1).zip vs)) ∧ Reps K H ι (fs.map (·.2)) vs ∧ ∀ f ∈ fs, FOk K g c f.1
structure Rel (g : G) (S : Store) : Prop where
  len : ι.length = S.length
  nd : ι.Nodup
  cell : ∀ (n : Nat) (c : Cell) (a : Addr), S[n]? = some c → ι[n]? = some a → CellR K H ι g c a
  tab : LamX.Tabs g.tabs H
end
/-- the heap has gone on: new cells stand where nothing was; all but the cells and the code's tables is as it was -/
structure GrowW (ι : List Addr) (H : Hp) (ι' : List Addr) (H' : Hp) : Prop where
  ext : ∃ ν, ι' = ι ++ ν ∧ ∀ a ∈ ν, H a = none ∨ ∃ ps, H a = some (.tbl ps)
  keep : ∀ a o, H a = some o → a ∉ ι → (∀ ps, o ≠ .tbl ps) → H' a = some o
  there : ∀ a, H a ≠ none → H' a ≠ none ∨ ∃ ps, H a = some (.tbl ps)
  tbl : ∀ a ps, H' a = some (.tbl ps) → H a ≠ none → ∃ ps, H a = some (.tbl ps)
/-- .. and what is locked stays so -/
structure Grow (ι : List Addr) (H : Hp) (ι' : List Addr) (H' : Hp) : Prop extends GrowW ι H ι' H' where
  frz : ∀ a o u, H a = some (.frz o u) → H' a = some (.frz o u)
theorem Grow.refl (ι : List Addr) (H : Hp) : Grow ι H ι H := ⟨⟨⟨[], by simp, by simp⟩, fun _ _ h _ _ => h, fun _ h => .inl h, fun _ ps h _ => ⟨ps, h⟩⟩, fun _ _ _ h => h⟩
theorem GrowW.nin {ι : List Addr} {H : Hp} {ι' : List Addr} {H' : Hp} (g : GrowW ι H ι' H') {a : Addr} {o : HO} (h : H a = some o) (hn : a ∉ ι) (ht : ∀ ps, o ≠ .tbl ps := by intro _ z; cases z) : a ∉ ι' := by
  obtain ⟨ν, rfl, hν⟩ := g.ext
  intro z
  rcases List.mem_append.mp z with z | z
  · exact hn z
  · rcases hν a z with e | ⟨ps, e⟩
    · rw [e] at h; cases h
    · rw [e] at h; exact ht ps (Option.some.inj h).symm
theorem GrowW.trans {ι : List Addr} {H : Hp} {ι1 : List Addr} {H1 : Hp} {ι2 : List Addr} {H2 : Hp} (a : GrowW ι H ι1 H1) (b : GrowW ι1 H1 ι2 H2) : GrowW ι H ι2 H2 := by
  refine ⟨?_, fun c o h hn ht => b.keep c o (a.keep c o h hn ht) (a.nin h hn ht) ht, fun c h => ?_, fun c ps h hn => ?_⟩
  · obtain ⟨ν, rfl, hν⟩ := a.ext
    obtain ⟨μ, rfl, hμ⟩ := b.ext
    refine ⟨ν ++ μ, by rw [List.append_assoc], fun c hc => ?_⟩
    rcases List.mem_append.mp hc with z | z
    · exact hν c z
    · cases e : H c with
      | none => exact .inl rfl
      | some o =>
        right
        have hne : H c ≠ none := by rw [e]; simp
        rcases a.there c hne with q | ⟨ps, q⟩
        · rcases hμ c z with q2 | ⟨ps, q2⟩
          · exact absurd q2 q
          · obtain ⟨ps', q3⟩ := a.tbl c ps q2 hne
            exact ⟨ps', by rw [← e]; exact q3⟩
        · exact ⟨ps, by rw [← e]; exact q⟩
  · rcases a.there c h with q | q
    · rcases b.there c q with q2 | ⟨ps, q2⟩
      · exact .inl q2
      · exact .inr (a.tbl c ps q2 h)
    · exact .inr q
  · rcases a.there c hn with q | q
    · obtain ⟨ps', q2⟩ := b.tbl c ps h q
      exact a.tbl c ps' q2 hn
    · exact q
theorem Grow.trans {ι : List Addr} {H : Hp} {ι1 : List Addr} {H1 : Hp} {ι2 : List Addr} {H2 : Hp} (a : Grow ι H ι1 H1) (b : Grow ι1 H1 ι2 H2) : Grow ι H ι2 H2 :=
  ⟨a.toGrowW.trans b.toGrowW, fun c o u h => b.frz c o u (a.frz c o u h)⟩
/-- what no plain value stands for: hidden things, dicts that are no cells, tables -/
def Unseen (o : HO) : Prop := (∃ od, o = .frz od (.own 0)) ∨ (∃ kvs, o = .dK kvs) ∨ ∃ ps, o = .tbl ps
/-- .. unseen things aside -/
structure GrowV (ι : List Addr) (H : Hp) (ι' : List Addr) (H' : Hp) : Prop where
  ext : ∃ ν, ι' = ι ++ ν ∧ ∀ a ∈ ν, H a = none ∨ ∃ o, H a = some o ∧ Unseen o
  keep : ∀ a o, H a = some o → a ∉ ι → ¬ Unseen o → H' a = some o
theorem GrowW.v {ι : List Addr} {H : Hp} {ι' : List Addr} {H' : Hp} (g : GrowW ι H ι' H') : GrowV ι H ι' H' := ⟨let ⟨ν, e, h⟩ := g.ext; ⟨ν, e, fun a ha => (h a ha).imp id fun ⟨ps, q⟩ => ⟨_, q, .inr (.inr ⟨ps, rfl⟩)⟩⟩, fun a o h1 h2 h3 => g.keep a o h1 h2 fun ps z => h3 (.inr (.inr ⟨ps, z⟩))⟩
theorem GrowV.nin {ι : List Addr} {H : Hp} {ι' : List Addr} {H' : Hp} (g : GrowV ι H ι' H') {a : Addr} {o : HO} (h : H a = some o) (hn : a ∉ ι) (hh : ¬ Unseen o := by rintro (⟨_, z⟩ | ⟨_, z⟩ | ⟨_, z⟩) <;> cases z) : a ∉ ι' := by
  obtain ⟨ν, rfl, hν⟩ := g.ext
  intro z
  rcases List.mem_append.mp z with z | z
  · exact hn z
  · rcases hν a z with e | ⟨u, e, hu⟩
    · rw [e] at h; cases h
    · rw [e] at h; cases h; exact hh hu
section
variable {K : PySem.W.Frag} {H H' : Hp} {ι ι' : List Addr}
theorem GrowV.tup (g : GrowV ι H ι' H') {a : Addr} {vs : List V} (h : TupAt H ι a vs) : TupAt H' ι' a vs := by
  obtain ⟨hn, h⟩ := h
  exact ⟨g.nin h hn, g.keep _ _ h hn (by rintro (⟨_, z⟩ | ⟨_, z⟩ | ⟨_, z⟩) <;> cases z)⟩
theorem GrowV.lst (g : GrowV ι H ι' H') {a : Addr} {vs : List V} (h : LstAt H ι a vs) : LstAt H' ι' a vs := by
  rcases h with ⟨hn, h | ⟨o, h⟩⟩
  · exact ⟨g.nin h hn, .inl (g.keep _ _ h hn (by rintro (⟨_, z⟩ | ⟨_, z⟩ | ⟨_, z⟩) <;> cases z))⟩
  · exact ⟨g.nin h hn, .inr ⟨o, g.keep _ _ h hn (by rintro (⟨_, z⟩ | ⟨_, z⟩ | ⟨_, z⟩) <;> cases z)⟩⟩
theorem GrowV.kst (g : GrowV ι H ι' H') {a : Addr} {vs : List V} (h : KstAt K H ι a vs) : KstAt K H' ι' a vs := by
  rcases h with ⟨hn, h | ⟨o, h⟩⟩ | h
  · exact .inl ⟨g.nin h hn, .inl (g.keep _ _ h hn (by rintro (⟨_, z⟩ | ⟨_, z⟩ | ⟨_, z⟩) <;> cases z))⟩
  · exact .inl ⟨g.nin h hn, .inr ⟨o, g.keep _ _ h hn (by rintro (⟨_, z⟩ | ⟨_, z⟩ | ⟨_, z⟩) <;> cases z)⟩⟩
  · exact .inr h
theorem GrowV.at (g : GrowV ι H ι' H') {n : Nat} {a : Addr} (h : ι[n]? = some a) : ι'[n]? = some a := by
  obtain ⟨ν, rfl, _⟩ := g.ext
  have hl := (List.getElem?_eq_some_iff.mp h).1
  rw [List.getElem?_append_left hl]
  exact h
mutual
theorem Rep.monoV (g : GrowV ι H ι' H') : ∀ (x : AV) (v : V), Rep K H ι x v → Rep K H' ι' x v
  | .non, _, h => h
  | .bl _, _, h => h
  | .int _, _, h => h
  | .str _, _, h => h
  | .tup xs, _, ⟨a, vs, e, t, r⟩ => ⟨a, vs, e, g.tup t, Reps.monoV g xs vs r⟩
  | .ktp xs, _, ⟨a, vs, e, t, r⟩ => ⟨a, vs, e, t, Reps.monoV g xs vs r⟩
  | .lst xs, _, ⟨a, vs, e, t, r⟩ => ⟨a, vs, e, g.lst t, Reps.monoV g xs vs r⟩
  | .kst xs, _, ⟨a, vs, e, t, r⟩ => ⟨a, vs, e, g.kst t, Reps.monoV g xs vs r⟩
  | .dct kvs, _, ⟨a, o, e, n, h⟩ => by
    rcases h with ⟨ps, h, r⟩ | ⟨ne, ps, h, r⟩
    · exact ⟨a, o, e, g.nin h n, .inl ⟨ps, g.keep _ _ h n (by rintro (⟨_, z⟩ | ⟨_, z⟩ | ⟨_, z⟩) <;> cases z), RepK.monoV g kvs ps r⟩⟩
    · exact ⟨a, o, e, g.nin h n, .inr ⟨ne, ps, g.keep _ _ h n (by rintro (⟨_, z⟩ | ⟨_, z⟩ | ⟨_, z⟩) <;> cases z), RepT.monoV g kvs ps r⟩⟩
  | .ref n, _, ⟨a, e, h⟩ => ⟨a, e, g.at h⟩
  | .clo _, _, h => h
theorem Reps.monoV (g : GrowV ι H ι' H') : ∀ (xs : List AV) (vs : List V), Reps K H ι xs vs → Reps K H' ι' xs vs
  | [], _, h => h
  | x :: xs, _, ⟨v, ws, e, h, r⟩ => ⟨v, ws, e, Rep.monoV g x v h, Reps.monoV g xs ws r⟩
theorem RepK.monoV (g : GrowV ι H ι' H') : ∀ (xs : List (DK × AV)) (vs : List (Key × V)), RepK K H ι xs vs → RepK K H' ι' xs vs
  | [], _, h => h
  | (k, x) :: xs, _, ⟨q, v, ws, e, e2, h, r⟩ => ⟨q, v, ws, e, e2, Rep.monoV g x v h, RepK.monoV g xs ws r⟩
theorem RepT.monoV (g : GrowV ι H ι' H') : ∀ (xs : List (DK × AV)) (vs : List (List Key × V)), RepT K H ι xs vs → RepT K H' ι' xs vs
  | [], _, h => h
  | (k, x) :: xs, _, ⟨q, v, ws, e, e2, h, r⟩ => ⟨q, v, ws, e, e2, Rep.monoV g x v h, RepT.monoV g xs ws r⟩
end
theorem Reps.len : ∀ {xs : List AV} {vs : List V}, Reps K H ι xs vs → vs.length = xs.length
  | [], _, h => by rw [show _ = [] from h]; rfl
  | x :: xs, _, ⟨v, ws, e, _, r⟩ => by rw [e, List.length_cons, List.length_cons, Reps.len r]
theorem Reps.get : ∀ {xs : List AV} {vs : List V} {i : Nat} {x : AV}, Reps K H ι xs vs → xs[i]? = some x → ∃ v, vs[i]? = some v ∧ Rep K H ι x v
  | [], _, _, _, _, e => by simp at e
  | y :: ys, _, 0, x, ⟨v, ws, ev, h, _⟩, e => by simp at e; subst e; exact ⟨v, by rw [ev]; rfl, h⟩
  | y :: ys, _, i + 1, x, ⟨v, ws, ev, _, r⟩, e => by
    obtain ⟨u, h1, h2⟩ := Reps.get (i := i) (x := x) r (by simpa using e)
    exact ⟨u, by rw [ev]; simpa using h1, h2⟩
theorem Reps.app : ∀ {xs ys : List AV} {vs ws : List V}, Reps K H ι xs vs → Reps K H ι ys ws → Reps K H ι (xs ++ ys) (vs ++ ws)
  | [], _, _, _, h, r => by rw [show _ = [] from h]; exact r
  | x :: xs, ys, _, ws, ⟨v, us, e, h, r⟩, q => by
    rw [e]
    exact ⟨v, us ++ ws, rfl, h, Reps.app r q⟩
theorem Reps.one {x : AV} {v : V} (h : Rep K H ι x v) : Reps K H ι [x] [v] := ⟨v, [], rfl, h, rfl⟩
theorem Reps.set : ∀ {xs : List AV} {vs : List V} {x : AV} {v : V} (i : Nat), Reps K H ι xs vs → Rep K H ι x v → Reps K H ι (xs.set i x) (vs.set i v)
  | [], _, _, _, i, h, _ => by rw [show _ = [] from h]; simp [Reps]
  | y :: ys, _, x, v, 0, ⟨u, us, e, _, r⟩, q => by rw [e]; exact ⟨v, us, rfl, q, r⟩
  | y :: ys, _, x, v, i + 1, ⟨u, us, e, h, r⟩, q => by rw [e]; exact ⟨u, us.set i v, rfl, h, Reps.set i r q⟩
theorem Reps.take : ∀ {xs : List AV} {vs : List V} (n : Nat), Reps K H ι xs vs → Reps K H ι (xs.take n) (vs.take n)
  | _, _, 0, _ => by simp [Reps]
  | [], _, n + 1, h => by rw [show _ = [] from h]; simp [Reps]
  | x :: xs, _, n + 1, ⟨v, ws, e, h, r⟩ => by rw [e]; exact ⟨v, ws.take n, by simp, h, Reps.take n r⟩
theorem Reps.drop : ∀ {xs : List AV} {vs : List V} (n : Nat), Reps K H ι xs vs → Reps K H ι (xs.drop n) (vs.drop n)
  | _, _, 0, h => by simpa using h
  | [], _, n + 1, h => by rw [show _ = [] from h]; simp [Reps]
  | x :: xs, _, n + 1, ⟨v, ws, e, h, r⟩ => by rw [e]; simpa using Reps.drop n r
end

section
variable {K : PySem.W.Frag} {H H' : Hp} {ι ι' : List Addr}
theorem GrowW.at (g : GrowW ι H ι' H') {n : Nat} {a : Addr} (h : ι[n]? = some a) : ι'[n]? = some a := g.v.at h
theorem GrowW.tup (g : GrowW ι H ι' H') {a : Addr} {vs : List V} (h : TupAt H ι a vs) : TupAt H' ι' a vs := g.v.tup h
theorem GrowW.lst (g : GrowW ι H ι' H') {a : Addr} {vs : List V} (h : LstAt H ι a vs) : LstAt H' ι' a vs := g.v.lst h
theorem GrowW.kst (g : GrowW ι H ι' H') {a : Addr} {vs : List V} (h : KstAt K H ι a vs) : KstAt K H' ι' a vs := g.v.kst h
theorem Rep.monoW (g : GrowW ι H ι' H') (x : AV) (v : V) (r : Rep K H ι x v) : Rep K H' ι' x v := Rep.monoV g.v x v r
theorem Reps.monoW (g : GrowW ι H ι' H') (x : List AV) (v : List V) (r : Reps K H ι x v) : Reps K H' ι' x v := Reps.monoV g.v x v r
theorem RepK.monoW (g : GrowW ι H ι' H') (x : List (DK × AV)) (v : List (Key × V)) (r : RepK K H ι x v) : RepK K H' ι' x v := RepK.monoV g.v x v r
theorem RepT.monoW (g : GrowW ι H ι' H') (x : List (DK × AV)) (v : List (List Key × V)) (r : RepT K H ι x v) : RepT K H' ι' x v := RepT.monoV g.v x v r
end
section
variable {K : PySem.W.Frag} {H H' : Hp} {ι ι' : List Addr}
theorem Rep.mono (g : Grow ι H ι' H') (x : AV) (v : V) (r : Rep K H ι x v) : Rep K H' ι' x v := Rep.monoW g.toGrowW x v r
theorem Reps.mono (g : Grow ι H ι' H') (x : List AV) (v : List V) (r : Reps K H ι x v) : Reps K H' ι' x v := Reps.monoW g.toGrowW x v r
theorem RepK.mono (g : Grow ι H ι' H') (x : List (DK × AV)) (v : List (Key × V)) (r : RepK K H ι x v) : RepK K H' ι' x v := RepK.monoW g.toGrowW x v r
theorem RepT.mono (g : Grow ι H ι' H') (x : List (DK × AV)) (v : List (List Key × V)) (r : RepT K H ι x v) : RepT K H' ι' x v := RepT.monoW g.toGrowW x v r
end

/-! ### the environment -/
def REnv (K : PySem.W.Frag) (H : Hp) (ι : List Addr) (Λ : LEnv) (σ : L2.St) : Prop :=
  Λ.length = σ.length ∧ ∀ (i : Nat) (x : AV), Λ[i]? = some (some x) → ∃ v, σ[i]? = some (some v) ∧ Rep K H ι x v
theorem REnv.monoV {K : PySem.W.Frag} {H H' : Hp} {ι ι' : List Addr} (g : GrowV ι H ι' H') {Λ : LEnv} {σ : L2.St} (h : REnv K H ι Λ σ) : REnv K H' ι' Λ σ :=
  ⟨h.1, fun i x e => let ⟨v, e2, r⟩ := h.2 i x e; ⟨v, e2, Rep.monoV g x v r⟩⟩
theorem REnv.monoW {K : PySem.W.Frag} {H H' : Hp} {ι ι' : List Addr} (g : GrowW ι H ι' H') {Λ : LEnv} {σ : L2.St} (h : REnv K H ι Λ σ) : REnv K H' ι' Λ σ :=
  ⟨h.1, fun i x e => let ⟨v, e2, r⟩ := h.2 i x e; ⟨v, e2, Rep.monoW g x v r⟩⟩
theorem REnv.mono {K : PySem.W.Frag} {H H' : Hp} {ι ι' : List Addr} (g : Grow ι H ι' H') {Λ : LEnv} {σ : L2.St} (h : REnv K H ι Λ σ) : REnv K H' ι' Λ σ := h.monoW g.toGrowW
theorem REnv.set {K : PySem.W.Frag} {H : Hp} {ι : List Addr} {Λ : LEnv} {σ : L2.St} (h : REnv K H ι Λ σ) (i : Nat) {x : AV} {v : V} (r : Rep K H ι x v) : REnv K H ι (Λ.set i (some x)) (σ.set i (some v)) := by
  refine ⟨by rw [List.length_set, List.length_set]; exact h.1, fun j y e => ?_⟩
  by_cases hj : j = i
  · subst hj
    have hl : j < Λ.length := by
      have := (List.getElem?_eq_some_iff.mp e).1
      simpa using this
    rw [List.getElem?_set_self hl] at e
    cases e
    exact ⟨v, by rw [List.getElem?_set_self (by rw [← h.1]; exact hl)], r⟩
  · rw [List.getElem?_set_ne (Ne.symm hj)] at e ⊢
    exact h.2 j y e

/-! ### what a result asks -/
section
variable (K : PySem.W.Frag) (g : G) (EX : XK)
def Post {α : Type} (ι : List Addr) (H : Hp) (r : Res α) (k : α → List Addr → Store → Hp → Prop) : Prop := match r with
  | .ok a S' => ∀ ι' H', Grow ι H ι' H' → Rel K H' ι' g S' → k a ι' S' H'
  | .exc c S' => ∀ ι' H' d, Grow ι H ι' H' → Rel K H' ι' g S' → EX (.ref (g.cls c)) d H'
  | .stuck => False
def SPost (ι : List Addr) (H : Hp) (r : SRes) (D : Ends) : Prop := match r with
  | .nx Λ S' => ∀ ι' H' σ', Grow ι H ι' H' → Rel K H' ι' g S' → REnv K H' ι' Λ σ' → D.nx σ' H'
  | .bk Λ S' => ∀ ι' H' σ', Grow ι H ι' H' → Rel K H' ι' g S' → REnv K H' ι' Λ σ' → D.bk σ' H'
  | .ct Λ S' => ∀ ι' H' σ', Grow ι H ι' H' → Rel K H' ι' g S' → REnv K H' ι' Λ σ' → D.ct σ' H'
  | .rt x S' => ∀ ι' H' v, Grow ι H ι' H' → Rel K H' ι' g S' → Rep K H' ι' x v → D.rt v H'
  | .exc c S' => ∀ ι' H' d, Grow ι H ι' H' → Rel K H' ι' g S' → EX (.ref (g.cls c)) d H'
  | .stuck => False
def xE (F : EM) : TE := fun σ H Q => ∃ ι Λ S, Rel K H ι g S ∧ REnv K H ι Λ σ ∧ Post K g EX ι H (F Λ S) fun x ι' _ H' => ∀ v, Rep K H' ι' x v → Q v H'
def xA (F : AM) : TA := fun σ H Q => ∃ ι Λ S, Rel K H ι g S ∧ REnv K H ι Λ σ ∧ Post K g EX ι H (F Λ S) fun xs ι' _ H' => ∀ vs, Reps K H' ι' xs vs → Q vs H'
def xT (F : TM) : TT := fun σ H Q => ∃ ι Λ S, Rel K H ι g S ∧ REnv K H ι Λ σ ∧ Post K g EX ι H (F Λ S) fun b _ _ H' => Q b H'
def xS (F : SM) : TS := fun D σ H => ∃ ι Λ S, Rel K H ι g S ∧ REnv K H ι Λ σ ∧ SPost K g EX ι H (F Λ S) D
def xG (F : GM) : TG := fun v σ H Q => ∃ ι Λ S x, Rel K H ι g S ∧ REnv K H ι Λ σ ∧ Rep K H ι x v ∧ match F x Λ S with
  | .nx Λ' S' => ∀ ι' H' σ', Grow ι H ι' H' → Rel K H' ι' g S' → REnv K H' ι' Λ' σ' → Q σ' H'
  | _ => False
def xR2 (f : AV → AV → Store → Res AV) : R2 := fun v u H Q => ∃ ι S x y, Rel K H ι g S ∧ Rep K H ι x v ∧ Rep K H ι y u ∧ Post K g EX ι H (f x y S) fun z ι' _ H' => ∀ w, Rep K H' ι' z w → Q w H'
def xR1 (f : AV → Store → Res AV) : V → Hp → VK → Prop := fun v H Q => ∃ ι S x, Rel K H ι g S ∧ Rep K H ι x v ∧ Post K g EX ι H (f x S) fun z ι' _ H' => ∀ w, Rep K H' ι' z w → Q w H'
end
section
variable {K : PySem.W.Frag} {g : G} {EX : XK} {ι : List Addr} {H : Hp}
theorem Post.mono {α : Type} {r : Res α} {k k' : α → List Addr → Store → Hp → Prop} (h : Post K g EX ι H r k) (hk : ∀ a ι' S' H', Grow ι H ι' H' → Rel K H' ι' g S' → k a ι' S' H' → k' a ι' S' H') : Post K g EX ι H r k' := by
  cases r with
  | ok a S' => exact fun ι' H' G R => hk _ _ _ _ G R (h ι' H' G R)
  | exc c S' => exact h
  | stuck => exact h
theorem Post.bind {α β : Type} {m : Res α} {f : α → Store → Res β} {k : β → List Addr → Store → Hp → Prop} (h : Post K g EX ι H (m.bind f) k) :
    Post K g EX ι H m fun a ι1 S1 H1 => Grow ι H ι1 H1 ∧ Post K g EX ι1 H1 (f a S1) k := by
  cases m with
  | ok a S1 =>
    intro ι1 H1 G R
    refine ⟨G, ?_⟩
    have h' : Post K g EX ι H (f a S1) k := h
    cases e : f a S1 with
    | ok b S2 => rw [e] at h'; exact fun ι2 H2 G2 R2 => h' ι2 H2 (G.trans G2) R2
    | exc c S2 => rw [e] at h'; exact fun ι2 H2 d G2 R2 => h' ι2 H2 d (G.trans G2) R2
    | stuck => rw [e] at h'; exact h'
  | exc c S' => exact h
  | stuck => exact h
theorem SPost.grow {ι1 : List Addr} {H1 : Hp} (G1 : Grow ι H ι1 H1) {r : SRes} {D : Ends} (h : SPost K g EX ι H r D) : SPost K g EX ι1 H1 r D := by
  cases r with
  | nx Λ S => exact fun ι' H' σ' G => h ι' H' σ' (G1.trans G)
  | bk Λ S => exact fun ι' H' σ' G => h ι' H' σ' (G1.trans G)
  | ct Λ S => exact fun ι' H' σ' G => h ι' H' σ' (G1.trans G)
  | rt v S => exact fun ι' H' σ' G => h ι' H' σ' (G1.trans G)
  | exc c S => exact fun ι' H' σ' G => h ι' H' σ' (G1.trans G)
  | stuck => exact h
/-- what follows, from where the heap has come to -/
theorem Post.mono' {α : Type} {ι1 : List Addr} {H1 : Hp} {r : Res α} {k k' : α → List Addr → Store → Hp → Prop} (h : Post K g EX ι H r fun a ι' S' H' => Grow ι H ι' H' ∧ k a ι' S' H') (G1 : Grow ι H ι1 H1) (hk : ∀ a ι' S' H', Grow ι1 H1 ι' H' → Rel K H' ι' g S' → k a ι' S' H' → k' a ι' S' H') : Post K g EX ι1 H1 r k' := by
  cases r with
  | ok a S' => exact fun ι' H' G R => hk _ _ _ _ G R (h ι' H' (G1.trans G) R).2
  | exc c S' => exact fun ι' H' d G R => h ι' H' d (G1.trans G) R
  | stuck => exact h
theorem Post.sbind' {α : Type} {m : Res α} {f : α → Store → SRes} {D : Ends} (h : SPost K g EX ι H (m.sbind f) D) :
    Post K g EX ι H m fun a ι1 S1 H1 => Grow ι H ι1 H1 ∧ SPost K g EX ι H (f a S1) D := by
  cases m with
  | ok a S1 => exact fun ι1 H1 G R => ⟨G, h⟩
  | exc c S' => exact h
  | stuck => exact h
theorem Post.bind' {α β : Type} {m : Res α} {f : α → Store → Res β} {k : β → List Addr → Store → Hp → Prop} (h : Post K g EX ι H (m.bind f) k) :
    Post K g EX ι H m fun a ι1 S1 H1 => Grow ι H ι1 H1 ∧ Post K g EX ι H (f a S1) k := by
  cases m with
  | ok a S1 => exact fun ι1 H1 G R => ⟨G, h⟩
  | exc c S' => exact h
  | stuck => exact h
theorem Post.sbind {α : Type} {m : Res α} {f : α → Store → SRes} {D : Ends} (h : SPost K g EX ι H (m.sbind f) D) :
    Post K g EX ι H m fun a ι1 S1 H1 => SPost K g EX ι1 H1 (f a S1) D := by
  cases m with
  | ok a S1 => exact fun ι1 H1 G R => SPost.grow G h
  | exc c S' => exact h
  | stuck => exact h
end

/-! ### the judgements -/
/-- what is known of a context: nothing is being handled, room for k calls, the module's names -/
structure GX (EX : XK) (k : Nat) (X : Cx) : Prop where
  calm : X.calm = true
  room : Room k X.A
  tk : Takes X fun cls d _ H => EX cls d H
  own : PassesOwn (model X.prog X.w) X.A X.env X.xe
theorem GX.mono {EX : XK} {j k : Nat} {X : Cx} (h : GX EX k X) (l : j ≤ k) : GX EX j X := ⟨h.calm, h.room.mono l, h.tk, h.own⟩
theorem GX.hu {EX : XK} {k : Nat} {X : Cx} (h : GX EX k X) : X.A.units + 64 < cLine := by have := h.room.un; omega
section
variable (g : G) (EX : XK) (X : Cx)
def ME (e : Expr) (F : EM) : Prop := PE X e (xE X.K g EX F)
def MA (es : List Expr) (F : AM) : Prop := PA X es (xA X.K g EX F)
def MT (e : Expr) (F : TM) : Prop := PT X e (xT X.K g EX F)
def MW (e : Expr) (F : TM) : Prop := PW X e (xT X.K g EX F)
def MS (st : Stmt) (F : SM) : Prop := PS X st (xS X.K g EX F)
def MSs (sts : List Stmt) (F : SM) : Prop := PSs X sts (xS X.K g EX F)
def MG (e : Expr) (F : GM) : Prop := PG X e (xG X.K g F)
/-- an operation on two values, on one -/
def MO (f : Value → Value → Sem Value) (F : AV → AV → Store → Res AV) : Prop := OpR X f (xR2 X.K g EX F)
def MU (f : Value → Sem Value) (F : AV → Store → Res AV) : Prop := UnR X f (xR1 X.K g EX F)
end
section
variable {g : G} {EX : XK} {X : Cx}
theorem PE.imp {e : Expr} {t t' : TE} (h : PE X e t) (k : ∀ σ H Q, t' σ H Q → t σ H Q) : PE X e t' := ⟨fun pins s σ H Q I q => h.run pins s σ H Q I (k _ _ _ q)⟩
theorem PT.imp {e : Expr} {t t' : TT} (h : PT X e t) (k : ∀ σ H Q, t' σ H Q → t σ H Q) : PT X e t' := ⟨fun pins s σ H Q I q => h.run pins s σ H Q I (k _ _ _ q)⟩
theorem PW.imp {e : Expr} {t t' : TT} (h : PW X e t) (k : ∀ σ H Q, t' σ H Q → t σ H Q) : PW X e t' := ⟨fun w pins s σ H Q I q => h.run w pins s σ H Q I (k _ _ _ q)⟩
theorem PA.imp {es : List Expr} {t t' : TA} (h : PA X es t) (k : ∀ σ H Q, t' σ H Q → t σ H Q) : PA X es t' := ⟨fun p pins s σ H Q I q => h.run p pins s σ H Q I (k _ _ _ q)⟩
theorem PS.imp {st : Stmt} {t t' : TS} (h : PS X st t) (k : ∀ D σ H, t' D σ H → t D σ H) : PS X st t' := ⟨fun pins s σ H D I q => h.run pins s σ H D I (k _ _ _ q)⟩
theorem PSs.imp {st : List Stmt} {t t' : TS} (h : PSs X st t) (k : ∀ D σ H, t' D σ H → t D σ H) : PSs X st t' := ⟨fun pins s σ H D I q => h.run pins s σ H D I (k _ _ _ q)⟩
theorem OpR.by {f : Value → Value → Sem Value} {r' : R2} (h : ∀ x y H Q, r' x y H Q → ∃ r, OpR X f r ∧ r x y H Q) : OpR X f r' := fun pins s σ H x y v u Q I rx ry q =>
  let ⟨_, o, z⟩ := h x y H Q q
  o pins s σ H x y v u Q I rx ry z
theorem UnR.by {f : Value → Sem Value} {r' : V → Hp → VK → Prop} (h : ∀ x H Q, r' x H Q → ∃ r, UnR X f r ∧ r x H Q) : UnR X f r' := fun pins s σ H x v Q I rx q =>
  let ⟨_, o, z⟩ := h x H Q q
  o pins s σ H x v Q I rx z

/-! ### names and constants -/
theorem me_var (i : Nat) {x : Str} {pos : Pos} (h : PE X (.Name x pos) (tVar i)) : ME g EX X (.Name x pos) (eVar i) := by
  refine PE.imp h fun σ H Q ⟨ι, Λ, S, R, E, p⟩ => ?_
  unfold eVar at p
  split at p
  · rename_i v e
    obtain ⟨u, e2, r⟩ := E.2 i v e
    exact ⟨u, e2, p ι H (Grow.refl _ _) R u r⟩
  · exact p.elim
theorem me_c {e : Expr} {x : AV} {v : V} (h : PE X e (tC v)) (r : ∀ H ι, Rep X.K H ι x v) : ME g EX X e (eC x) := by
  refine PE.imp h fun σ H Q ⟨ι, Λ, S, R, E, p⟩ => ?_
  exact p ι H (Grow.refl _ _) R v (r H ι)
theorem me_int {i j pos} : ME g EX X (.Constant (.int i) j pos) (eC (.int i)) := me_c pe_int fun _ _ => rfl
theorem me_bl {b j pos} : ME g EX X (.Constant (.bool b) j pos) (eC (.bl b)) := me_c pe_bl fun _ _ => rfl
theorem me_non {j pos} : ME g EX X (.Constant .none j pos) (eC .non) := me_c pe_non fun _ _ => rfl
theorem me_str {x : Str} {y : Sg} {j pos} (h : x = toS y) : ME g EX X (.Constant (.str x) j pos) (eC (.str y)) := me_c pe_str fun _ _ => by rw [h]; rfl

/-! ### operators -/
variable {a b c : Expr} {A B C : EM} {pos : Pos}
/-- two expressions in a row -/
theorem two {K : PySem.W.Frag} {σ : L2.St} {H : Hp} {k : AV → AV → Store → Res AV} {Q : VK} (h : xE K g EX (fun Λ S => (A Λ S).bind fun x S1 => (B Λ S1).bind fun y S2 => k x y S2) σ H Q) :
    xE K g EX A σ H fun x H1 => xE K g EX B σ H1 fun y H2 => xR2 K g EX k x y H2 Q := by
  obtain ⟨ι, Λ, S, R, E, p⟩ := h
  refine ⟨ι, Λ, S, R, E, p.bind.mono fun x ι1 S1 H1 G1 R1 ⟨_, p1⟩ v r => ?_⟩
  refine ⟨ι1, Λ, S1, R1, E.mono G1, p1.bind.mono fun y ι2 S2 H2 G2 R2 ⟨_, p2⟩ u r2 => ?_⟩
  exact ⟨ι2, S2, x, y, R2, Rep.mono G2 x v r, r2, p2⟩
theorem me_op {op : Operator} {f : AV → AV → Store → Res AV} (ho : MO g EX X (binaryOp op) f) (ha : ME g EX X a A) (hb : ME g EX X b B) : ME g EX X (.BinOp a op b pos) (eOp f A B) :=
  PE.imp (pe_op ho ha hb) fun _ _ _ h => two h
theorem me_cmp {op : CmpOp} {f : AV → AV → Store → Res AV} (ho : MO g EX X (compareOp op) f) (ha : ME g EX X a A) (hb : ME g EX X b B) (hm : behindInMarks op b = false := by first | rfl | exact nobehind _ (by decide) (by decide)) : ME g EX X (.Compare a [op] [b] pos) (eOp f A B) :=
  PE.imp (pe_cmpR ho ha hb hm) fun _ _ _ h => two h
theorem me_un {op : UnaryOp} {f : AV → Store → Res AV} (ho : MU g EX X (unaryOp op) f) (ha : ME g EX X a A) : ME g EX X (.UnaryOp op a pos) (eUn f A) :=
  PE.imp (pe_un ho ha) fun _ _ _ ⟨ι, Λ, S, R, E, p⟩ => ⟨ι, Λ, S, R, E, p.bind.mono fun x ι1 S1 H1 G1 R1 ⟨_, p1⟩ v r => ⟨ι1, S1, x, R1, r, p1⟩⟩
theorem mt_cmp {op : CmpOp} {f : AV → AV → Store → Res AV} (ho : MO g EX X (compareOp op) f) (ha : ME g EX X a A) (hb : ME g EX X b B) (hm : behindInMarks op b = false := by first | rfl | exact nobehind _ (by decide) (by decide)) : MT g EX X (.Compare a [op] [b] pos) (tVal (eOp f A B)) := by
  refine PT.imp (pt_cmpR ho ha hb hm) fun σ H Q ⟨ι, Λ, S, R, E, p⟩ => ?_
  refine two (k := f) ⟨ι, Λ, S, R, E, ?_⟩
  refine p.bind.mono fun x ι1 S1 H1 G1 R1 ⟨_, p1⟩ v r => ?_
  cases x with
  | bl t => exact ⟨t, r, p1 ι1 H1 (Grow.refl _ _) R1⟩
  | _ => exact p1.elim
end
end Mir
end

section
set_option Elab.async false
set_option linter.all false
set_option maxRecDepth 100000
set_option maxHeartbeats 1000000
/-! MirC: the heap's steps; operators. -/
namespace Mir
open PySem PySem.Spec PyProof.Rows L2

theorem szL_eq : szL = sizeLine := by decide
theorem toS_app (x y : Sg) : toS x ++ toS y = toS (x ++ y) := by
  show (⟨x.toArray ++ y.toArray⟩ : Str) = ⟨(x ++ y).toArray⟩
  simp
theorem toS_len (x : Sg) : (toS x).length = x.length := by
  show x.toArray.size = x.length
  simp
theorem toS_inj {x y : Sg} (h : toS x = toS y) : x = y := by
  have h1 : x.toArray = y.toArray := congrArg Str.cps h
  simpa using congrArg Array.toList h1

/-! ### steps of the heap -/
section
variable {K : PySem.W.Frag} {g : G} {EX : XK} {X : Cx} {H H' : Hp} {ι ι' : List Addr} {S : Store}
theorem CellR.monoV (G : GrowV ι H ι' H') : ∀ {c : Cell} {a : Addr}, CellR K H ι g c a → H' a = H a → CellR K H' ι' g c a
  | .lst xs, a, ⟨vs, h, r⟩, e => ⟨vs, e.trans h, Reps.monoV G xs vs r⟩
  | .dct kvs, a, h, e => h.elim (fun ⟨ps, h, r⟩ => .inl ⟨ps, e.trans h, RepK.monoV G kvs ps r⟩) fun ⟨ps, h, r⟩ => .inr ⟨ps, e.trans h, RepT.monoV G kvs ps r⟩
  | .lk kvs, a, ⟨o, h⟩, e => ⟨o, h.elim (fun ⟨ps, h, r⟩ => .inl ⟨ps, e.trans h, RepK.monoV G kvs ps r⟩) fun ⟨ps, h, r⟩ => .inr ⟨ps, e.trans h, RepT.monoV G kvs ps r⟩⟩
  | .ins c fs, a, ⟨dx, vs, h, r, n⟩, e => ⟨dx, vs, e.trans h, Reps.monoV G _ vs r, n⟩
theorem CellR.monoW (G : GrowW ι H ι' H') {c : Cell} {a : Addr} (h : CellR K H ι g c a) (e : H' a = H a) : CellR K H' ι' g c a := h.monoV G.v e
theorem CellR.mono (G : Grow ι H ι' H') {c : Cell} {a : Addr} (h : CellR K H ι g c a) (e : H' a = H a) : CellR K H' ι' g c a := h.monoW G.toGrowW e
theorem CellR.some {c : Cell} {a : Addr} (h : CellR K H ι g c a) : ∃ o, H a = some o ∧ ∀ ps, o ≠ .tbl ps := by
  cases c with
  | lst xs => obtain ⟨vs, h, _⟩ := h; exact ⟨_, h, fun _ z => by cases z⟩
  | dct kvs => rcases h with ⟨ps, h, _⟩ | ⟨ps, h, _⟩ <;> exact ⟨_, h, fun _ z => by cases z⟩
  | lk kvs => obtain ⟨o, ⟨ps, h, _⟩ | ⟨ps, h, _⟩⟩ := h <;> exact ⟨_, h, fun _ z => by cases z⟩
  | ins c fs => obtain ⟨dx, vs, h, _⟩ := h; exact ⟨_, h, fun _ z => by cases z⟩
theorem Rel.mem (R : Rel K H ι g S) {a : Addr} (h : a ∈ ι) : ∃ o, H a = some o ∧ ∀ ps, o ≠ .tbl ps := by
  obtain ⟨n, hn, e⟩ := List.getElem_of_mem h
  have hl : n < S.length := by rw [← R.len]; exact hn
  exact (R.cell n S[n] a (List.getElem?_eq_getElem hl) (by rw [List.getElem?_eq_getElem hn, e])).some
theorem Rel.nin (R : Rel K H ι g S) {p : Addr} (h : H p = none) : p ∉ ι := fun z => by
  obtain ⟨o, e, _⟩ := R.mem z
  rw [h] at e; cases e
theorem Grow.of_ext (e : ∀ b o, H b = some o → H' b = some o) : Grow ι H ι H' :=
  ⟨⟨⟨[], by simp, by simp⟩, fun a o h _ _ => e a o h, fun a h => by
    cases q : H a with
    | none => exact absurd q h
    | some o => rw [e a o q]; simp, fun a ps h hn => by
    cases q : H a with
    | none => exact absurd q hn
    | some o => rw [e a o q] at h; exact ⟨ps, h⟩⟩, fun a o u h => e a _ h⟩
theorem Rel.of_ext (R : Rel K H ι g S) (e : ∀ b o, H b = some o → H' b = some o) : Rel K H' ι g S :=
  ⟨R.len, R.nd, fun n c a h1 h2 => by
    have h := R.cell n c a h1 h2
    obtain ⟨o, ho, _⟩ := h.some
    exact h.mono (Grow.of_ext e) (by rw [e a o ho, ho]), R.tab.ext e⟩
theorem upd_ext {p : Addr} {o : HO} (hp : H p = none) : ∀ b u, H b = some u → upd H p o b = some u := fun b u h => by
  rw [upd_ne (ne_of_none h hp)]; exact h
theorem Grow.fresh {p : Addr} {o : HO} (hp : H p = none) : Grow ι H ι (upd H p o) := .of_ext (upd_ext hp)
theorem Rel.fresh (R : Rel K H ι g S) {p : Addr} {o : HO} (hp : H p = none) : Rel K (upd H p o) ι g S := R.of_ext (upd_ext hp)
theorem Grow.alloc (R : Rel K H ι g S) {p : Addr} {o : HO} (hp : H p = none) : Grow ι H (ι ++ [p]) (upd H p o) :=
  let G := Grow.of_ext (ι := ι) (upd_ext (o := o) hp)
  ⟨⟨⟨[p], rfl, fun a h => .inl (by rw [List.mem_singleton.mp h]; exact hp)⟩, G.keep, G.there, G.tbl⟩, G.frz⟩
theorem Rel.alloc (R : Rel K H ι g S) {p : Addr} {o : HO} {c : Cell} (hp : H p = none) (hc : CellR K (upd H p o) (ι ++ [p]) g c p) : Rel K (upd H p o) (ι ++ [p]) g (S ++ [c]) := by
  have hn := R.nin hp
  refine ⟨by rw [List.length_append, List.length_append, R.len]; rfl, ?_, fun n d a h1 h2 => ?_, R.tab.ext (upd_ext hp)⟩
  · rw [List.nodup_append]
    exact ⟨R.nd, by simp, fun a ha b hb z => hn (by rw [List.mem_singleton.mp hb] at z; rw [← z]; exact ha)⟩
  · by_cases hl : n < S.length
    · rw [List.getElem?_append_left hl] at h1
      rw [List.getElem?_append_left (by rw [R.len]; exact hl)] at h2
      have h := R.cell n d a h1 h2
      obtain ⟨u, hu, _⟩ := h.some
      exact h.mono (Grow.alloc R hp) (by rw [upd_ext hp a u hu, hu])
    · have e : n = S.length := by
        have := (List.getElem?_eq_some_iff.mp h1).1
        simp at this
        omega
      subst e
      rw [List.getElem?_append_right (Nat.le_refl _)] at h1
      rw [List.getElem?_append_right (by rw [R.len]; exact Nat.le_refl _), R.len] at h2
      simp at h1 h2
      subst h1 h2
      exact hc
theorem GrowW.cell {n : Nat} {a : Addr} {o : HO} (ha : ι[n]? = some a) (ho : ∀ ps, o ≠ .tbl ps := by intro _ z; cases z) : GrowW ι H ι (upd H a o) :=
  ⟨⟨[], by simp, by simp⟩, fun b u h hn _ => by rw [upd_ne fun z => hn (by rw [z]; exact List.mem_of_getElem? ha)]; exact h, fun b h => by
    by_cases z : b = a
    · rw [z, upd_same]; simp
    · rw [upd_ne z]; exact .inl h, fun b ps h _ => by
    by_cases z : b = a
    · rw [z, upd_same] at h; exact absurd (Option.some.inj h) (ho ps)
    · rw [upd_ne z] at h; exact ⟨ps, h⟩⟩
theorem Grow.cell {n : Nat} {a : Addr} {o : HO} (ha : ι[n]? = some a) {w : HO} (hw : H a = some w) (hf : ∀ o u, w ≠ .frz o u := by intro _ _ z; cases z) (ho : ∀ ps, o ≠ .tbl ps := by intro _ z; cases z) : Grow ι H ι (upd H a o) :=
  ⟨.cell ha ho, fun b o u h => by rw [upd_ne fun z => by rw [z, hw] at h; exact hf _ _ (Option.some.inj h)]; exact h⟩
theorem nodup_at : ∀ {ι : List Addr} (nd : ι.Nodup) {n m : Nat} {a : Addr} (h1 : ι[n]? = some a) (h2 : ι[m]? = some a), n = m
  | [], _, _, _, _, h1, _ => by simp at h1
  | b :: r, nd, 0, 0, _, _, _ => rfl
  | b :: r, nd, 0, m + 1, a, h1, h2 => by
    simp at h1 h2
    subst h1
    exact absurd (List.mem_of_getElem? h2) (List.nodup_cons.mp nd).1
  | b :: r, nd, n + 1, 0, a, h1, h2 => by
    simp at h1 h2
    subst h2
    exact absurd (List.mem_of_getElem? h1) (List.nodup_cons.mp nd).1
  | b :: r, nd, n + 1, m + 1, a, h1, h2 => by
    rw [nodup_at (List.nodup_cons.mp nd).2 (n := n) (m := m) (a := a) (by simpa using h1) (by simpa using h2)]
theorem Rel.write (R : Rel K H ι g S) {n : Nat} {a : Addr} {o : HO} {c : Cell} (ha : ι[n]? = some a) (hc : CellR K (upd H a o) ι g c a) (ho : ∀ ps, o ≠ .tbl ps := by intro _ z; cases z) : Rel K (upd H a o) ι g (S.set n c) := by
  refine ⟨by rw [List.length_set]; exact R.len, R.nd, fun m d b h1 h2 => ?_, fun p hp => ?_⟩
  · by_cases hm : n = m
    · subst hm
      rw [ha] at h2; cases h2
      have hl : n < S.length := by rw [← R.len]; exact (List.getElem?_eq_some_iff.mp ha).1
      rw [List.getElem?_set_self hl] at h1
      cases h1
      exact hc
    · rw [List.getElem?_set_ne hm] at h1
      have h := R.cell m d b h1 h2
      exact h.monoW (GrowW.cell ha ho) (upd_ne fun z => hm (nodup_at R.nd ha (by rw [← z]; exact h2)))
  · obtain ⟨ps, h1, h2, h3⟩ := R.tab p hp
    obtain ⟨u, hu, hut⟩ := R.mem (List.mem_of_getElem? ha)
    have hne : p.1 ≠ a := fun z => by rw [z, hu] at h1; exact hut ps (Option.some.inj h1)
    refine ⟨ps, by rw [upd_ne hne]; exact h1, h2, fun pos cv e => ?_⟩
    obtain ⟨c', e1, e2⟩ := h3 pos cv e
    refine ⟨c', e1, ?_⟩
    by_cases z : c' = a
    · exfalso
      rw [z] at e2
      obtain ⟨i, hi, ei⟩ := List.getElem_of_mem (List.mem_of_getElem? ha)
      have hl : i < S.length := by rw [← R.len]; exact hi
      have q := R.cell i S[i] a (List.getElem?_eq_getElem hl) (by rw [List.getElem?_eq_getElem hi, ei])
      cases hs : S[i] with
      | lst xs => rw [hs] at q; obtain ⟨vs, h, _⟩ := q; rw [h] at e2; cases e2
      | dct kvs => rw [hs] at q; rcases q with ⟨ps, h, _⟩ | ⟨ps, h, _⟩ <;> · rw [h] at e2; cases e2
      | lk kvs => rw [hs] at q; obtain ⟨o, ⟨ps, h, _⟩ | ⟨ps, h, _⟩⟩ := q <;> · rw [h] at e2; cases e2
      | ins c fs => rw [hs] at q; obtain ⟨dx, vs, h, _⟩ := q; rw [h] at e2; cases e2
    · rw [upd_ne z]; exact e2
theorem Rel.at (R : Rel K H ι g S) {n : Nat} {c : Cell} (h : S[n]? = some c) : ∃ a, ι[n]? = some a ∧ CellR K H ι g c a := by
  have hl : n < ι.length := by rw [R.len]; exact (List.getElem?_eq_some_iff.mp h).1
  exact ⟨ι[n], List.getElem?_eq_getElem hl, R.cell n c _ h (List.getElem?_eq_getElem hl)⟩
/-- a new tuple, a new list that nobody will change -/
theorem Rel.newTup (R : Rel K H ι g S) {p : Addr} {xs : List AV} {vs : List V} (hp : H p = none) (r : Reps K H ι xs vs) : Rep K (upd H p (.tup vs)) ι (.tup xs) (.ref p) :=
  ⟨p, vs, rfl, ⟨R.nin hp, upd_same⟩, Reps.mono (Grow.fresh hp) xs vs r⟩
theorem Rel.newLst (R : Rel K H ι g S) {p : Addr} {xs : List AV} {vs : List V} (hp : H p = none) (r : Reps K H ι xs vs) : Rep K (upd H p (.lst vs)) ι (.lst xs) (.ref p) :=
  ⟨p, vs, rfl, ⟨R.nin hp, .inl upd_same⟩, Reps.mono (Grow.fresh hp) xs vs r⟩
end

/-! ### the store's view of a value -/
def lstOf (S : Store) : AV → Option (List AV)
  | .lst xs => some xs
  | .ref n => match S[n]? with
    | some (.lst xs) => some xs
    | _ => none
  | _ => none
def dctOf (S : Store) : AV → Option (List (DK × AV))
  | .dct kvs => some kvs
  | .ref n => match S[n]? with
    | some (.dct kvs) => some kvs
    | some (.lk kvs) => some kvs
    | _ => none
  | _ => none
/-- what is read in order -/
def seqOf (S : Store) : AV → Option (List AV)
  | .kst xs => some xs
  | .tup xs => some xs
  | .ktp xs => some xs
  | x => lstOf S x

section
variable {K : PySem.W.Frag} {g : G} {EX : XK} {X : Cx} {H : Hp} {ι : List Addr} {S : Store}
/-- a list that may be read -/
theorem Rel.list (R : Rel K H ι g S) {x : AV} {v : V} (r : Rep K H ι x v) {xs : List AV} (h : lstOf S x = some xs) : ∃ a vs, v = .ref a ∧ Rd H a (.lst vs) ∧ Reps K H ι xs vs := by
  cases x with
  | lst ys =>
    obtain ⟨a, vs, e, t, q⟩ := r
    simp only [lstOf, Option.some.injEq] at h
    subst h
    exact ⟨a, vs, e, t.2, q⟩
  | ref n =>
    obtain ⟨a, e, ha⟩ := r
    simp only [lstOf] at h
    split at h
    · rename_i ys es
      cases h
      obtain ⟨a', ha', vs, h1, h2⟩ := R.at es
      rw [ha] at ha'; cases ha'
      exact ⟨a, vs, e, .inl h1, h2⟩
    · cases h
  | _ => simp [lstOf] at h
theorem Rep.tup {x : AV} {v : V} (r : Rep K H ι x v) {xs : List AV} (h : tupOf x = some xs) : ∃ a vs, v = .ref a ∧ SqT K H a vs ∧ Reps K H ι xs vs := by
  cases x with
  | tup ys =>
    obtain ⟨a, vs, e, t, q⟩ := r
    simp only [tupOf, Option.some.injEq] at h
    subst h
    exact ⟨a, vs, e, t.sq, q⟩
  | ktp ys =>
    obtain ⟨a, vs, e, t, q⟩ := r
    simp only [tupOf, Option.some.injEq] at h
    subst h
    exact ⟨a, vs, e, .inr t, q⟩
  | _ => simp [tupOf] at h
theorem Rel.seq (R : Rel K H ι g S) {x : AV} {v : V} (r : Rep K H ι x v) {xs : List AV} (h : seqOf S x = some xs) : ∃ a vs, v = .ref a ∧ (SqL K H a vs ∨ SqT K H a vs) ∧ Reps K H ι xs vs := by
  have lst : ∀ x, lstOf S x = some xs → Rep K H ι x v → ∃ a vs, v = .ref a ∧ (SqL K H a vs ∨ SqT K H a vs) ∧ Reps K H ι xs vs := fun x h r => by
    obtain ⟨a, vs, e, hr, q⟩ := R.list r h
    exact ⟨a, vs, e, .inl (.inl hr), q⟩
  cases x with
  | kst ys =>
    obtain ⟨a, vs, e, t, q⟩ := r
    simp only [seqOf, Option.some.injEq] at h
    subst h
    exact ⟨a, vs, e, .inl t.sq, q⟩
  | tup ys =>
    obtain ⟨a, vs, e, t, q⟩ := r
    simp only [seqOf, Option.some.injEq] at h
    subst h
    exact ⟨a, vs, e, .inr t.sq, q⟩
  | ktp ys =>
    obtain ⟨a, vs, e, t, q⟩ := r
    simp only [seqOf, Option.some.injEq] at h
    subst h
    exact ⟨a, vs, e, .inr (.inr t), q⟩
  | non => exact lst .non h r
  | bl b => exact lst (.bl b) h r
  | int i => exact lst (.int i) h r
  | str z => exact lst (.str z) h r
  | lst ys => exact lst (.lst ys) h r
  | dct ys => exact lst (.dct ys) h r
  | ref n => exact lst (.ref n) h r
  | clo n => exact lst (.clo n) h r

def opAdd (x y : AV) (S : Store) : Res AV := match x, y with
  | .int i, .int j => .ok (.int (i + j)) S
  | .str a, .str b => if a.length + b.length ≤ szL then .ok (.str (a ++ b)) S else .stuck
  | .tup xs, .tup ys => if xs.length + ys.length ≤ szL then .ok (.tup (xs ++ ys)) S else .stuck
  | x, y => match lstOf S x, lstOf S y with
    | some xs, some ys => if xs.length + ys.length ≤ szL then .ok (.lst (xs ++ ys)) S else .stuck
    | _, _ => .stuck
def opSub (x y : AV) (S : Store) : Res AV := match x, y with
  | .int i, .int j => .ok (.int (i - j)) S
  | _, _ => .stuck
/-- factors that are small -/
def mulOk (i j : Int) : Bool := (decide (-(2 ^ 64) < i) && decide (i < 2 ^ 64)) || (decide (-(2 ^ 64) < j) && decide (j < 2 ^ 64))
def opMul (x y : AV) (S : Store) : Res AV := match x, y with
  | .int i, .int j => if mulOk i j = true then .ok (.int (i * j)) S else .stuck
  | .tup xs, .int k => if xs ≠ [] ∧ 2 ≤ k ∧ k ≤ 1000 ∧ xs.length ≤ 1000 then .ok (.tup (List.replicate k.toNat xs).flatten) S else .stuck
  | x, .int k => match lstOf S x with
    | some xs => if 0 ≤ k ∧ k < 1000 ∧ xs.length * k.toNat ≤ szL then .ok (.lst (List.replicate k.toNat xs).flatten) S else .stuck
    | none => .stuck
  | _, _ => .stuck
def opDiv (x y : AV) (S : Store) : Res AV := match x, y with
  | .int i, .int j => if 0 < j ∧ j < 1073741824 then .ok (.int (i / j)) S else .stuck
  | _, _ => .stuck
def opMod (x y : AV) (S : Store) : Res AV := match x, y with
  | .int i, .int j => if 0 < j then .ok (.int (i % j)) S else .stuck
  | _, _ => .stuck
def opPow (x y : AV) (S : Store) : Res AV := match x, y with
  | .int i, .int j => if 0 ≤ j ∧ j ≤ 1000 ∧ -(2 ^ 63) < i ∧ i < 2 ^ 63 then .ok (.int (i ^ j.toNat)) S else .stuck
  | _, _ => .stuck
def opNeg (x : AV) (S : Store) : Res AV := match x with
  | .int i => .ok (.int (-i)) S
  | _ => .stuck

/-- a list + a list, whatever lists they are -/
def rCatL : R2 := fun x y H Q => ∃ l b xs zs, x = .ref l ∧ y = .ref b ∧ Rd H l (.lst xs) ∧ Rd H b (.lst zs) ∧ xs.length + zs.length ≤ sizeLine ∧ ∀ p, H p = none → Q (.ref p) (upd H p (.lst (xs ++ zs)))
theorem Inv.lstR {pins : List (Addr × Obj)} {σ : L2.St} {s : Shared} {l : Addr} {xs : List V} (I : L2.Inv X pins σ H s) (hH : Rd H l (.lst xs)) : xs.length ≤ sizeLine ∧ ∃ (its : List Value) (n : Nat), Vals xs its ∧ xs.length = its.length ∧ s.heap.get? l = some { cls := .type "list", data := .seq its.toArray n } := by
  obtain ⟨z, its, n, r, e⟩ := hH.ok I.hok
  exact ⟨z, its, n, r, r.length, e⟩
theorem op_catL : OpR X (binaryOp .Add) rCatL := by
  intro pins s σ H x y v u Q I rx ry h
  obtain ⟨l, b, xs, zs, rfl, rfl, hH, hB, hz, q⟩ := h
  cases rx
  cases ry
  obtain ⟨z, its, n, r, hl, e⟩ := Inv.lstR I hH
  obtain ⟨z2, its2, n2, r2, hl2, e2⟩ := Inv.lstR I hB
  refine PySem.P.add_list e e2 ?_ (by rw [List.size_toArray, List.size_toArray]; omega)
  have ea : its.toArray ++ its2.toArray = (its ++ its2).toArray := by simp
  rw [ea]
  exact ⟨.ref _, _, I.lnew (t' := s.toks) (r.append r2) (by rw [List.length_append]; omega), rfl, q _ I.fresh⟩
/-- a list times an int -/
def rRepL : R2 := fun x y H Q => ∃ l k xs, x = .ref l ∧ y = .int k ∧ Rd H l (.lst xs) ∧ -(2 ^ 63) ≤ k ∧ k < 2 ^ 63 ∧ xs.length * k.toNat ≤ sizeLine ∧
  ∀ p, H p = none → Q (.ref p) (upd H p (.lst (List.replicate k.toNat xs).flatten))
theorem op_repL : OpR X (binaryOp .Mult) rRepL := by
  intro pins s σ H x y v u Q I rx ry h
  obtain ⟨l, k, xs, rfl, rfl, hH, h1, h2, hz, q⟩ := h
  cases rx
  obtain ⟨t, rfl⟩ := ry
  obtain ⟨z, its, n, r, hl, e⟩ := Inv.lstR I hH
  have hlen : its.toArray.size * k.toNat ≤ sizeLine := by rw [List.size_toArray, ← hl]; exact hz
  have hcap : ¬ its.toArray.size * k.toNat > (2 ^ 63 - 1) / 8 := by
    have : (sizeLine : Nat) ≤ (2 ^ 63 - 1) / 8 := by decide
    omega
  have hfit : ¬ (!Builtin.List.listFitsIndex k) = true := by
    rw [fitsIndex_both h1 h2]
    exact Bool.false_ne_true
  have hlong : ¬ Builtin.List.listTooLong (its.toArray.size * k.toNat) = true := by
    rw [notLongL hlen]
    exact Bool.false_ne_true
  have hnew : List.foldl (fun x1 x2 => x1 ++ x2) #[] (List.replicate (if its.toArray.isEmpty = true then 0 else k.toNat) its.toArray) = (List.replicate k.toNat its).flatten.toArray := by
    have f0 : ∀ m : Nat, List.foldl (fun x1 x2 => x1 ++ x2) #[] (List.replicate m its.toArray) = (List.replicate m its).flatten.toArray := fun m => by
      have := foldl_rep its m []
      rw [List.nil_append] at this
      exact this
    rw [f0]
    cases its with
    | nil => simp
    | cons a r' => rw [if_neg (by simp)]
  refine wpAny_binaryOp_repeat_ref (T := "list") (U := "int") (by decide) ⟨_, e, rfl⟩ (fun s' => typeIs_int s' k t) noFill_list_mul F.fills_int_mul F.slot_int_rmul repeat_list F.slot_int_index.lookup
    (call_meets F.slot_int_rmul (typeIs_int s k t) F.entry_int_rmul (F.args_int_rmul_2 _ _) (int___rmul___int_list k t l its.toArray n)
      ⟨e, rfl, ⟨_, e, rfl⟩, call_meets F.slot_list_mul ⟨_, e, rfl⟩ F.entry_list_mul (F.args_list_mul_2 _ _) (AutoListH.list___mul___list_int_3 l its.toArray n k t hfit hcap hlong) ⟨e, ?_⟩⟩)
  rw [hnew]
  exact ⟨.ref _, _, I.lnew (t' := s.toks) (r.rep k.toNat) (by rw [PyProof.Rows.lm_len_rep_flat, Nat.mul_comm]; exact hz), rfl, q _ I.fresh⟩

theorem Post.ok {α : Type} {a : α} {k : α → List Addr → Store → Hp → Prop} (h : Post K g EX ι H (.ok a S) k) {ι' : List Addr} {H' : Hp} (G : Grow ι H ι' H') (R : Rel K H' ι' g S) : k a ι' S H' := h ι' H' G R
theorem Post.now {α : Type} {a : α} {k : α → List Addr → Store → Hp → Prop} (h : Post K g EX ι H (.ok a S) k) (R : Rel K H ι g S) : k a ι S H := h ι H (Grow.refl _ _) R
theorem Reps.rep {xs : List AV} {vs : List V} (r : Reps K H ι xs vs) : ∀ n : Nat, Reps K H ι (List.replicate n xs).flatten (List.replicate n vs).flatten
  | 0 => rfl
  | n + 1 => by
    rw [List.replicate_succ, List.replicate_succ, List.flatten_cons, List.flatten_cons]
    exact r.app (Reps.rep r n)
theorem Reps.nil_iff {xs : List AV} {vs : List V} (r : Reps K H ι xs vs) : vs = [] ↔ xs = [] := by
  have := r.len
  constructor <;> intro h <;> subst h
  · exact List.length_eq_zero_iff.mp this.symm
  · exact List.length_eq_zero_iff.mp this
/-- two lists, added -/
theorem add_lists {x y : AV} {v u : V} {Q : VK} (R : Rel K H ι g S) (rx : Rep K H ι x v) (ry : Rep K H ι y u)
    (p : Post K g EX ι H (match lstOf S x, lstOf S y with | some xs, some ys => if xs.length + ys.length ≤ szL then Res.ok (AV.lst (xs ++ ys)) S else .stuck | _, _ => .stuck) fun z ι' _ H' => ∀ w, Rep K H' ι' z w → Q w H') :
    rCatL v u H Q := by
  cases e1 : lstOf S x with
  | none => rw [e1] at p; exact p.elim
  | some xs =>
    cases e2 : lstOf S y with
    | none => rw [e1, e2] at p; exact p.elim
    | some ys =>
      rw [e1, e2] at p
      obtain ⟨a, vs, rfl, h1, q1⟩ := R.list rx e1
      obtain ⟨b, us, rfl, h2, q2⟩ := R.list ry e2
      dsimp only at p
      split at p
      · rename_i hz
        exact ⟨a, b, vs, us, rfl, rfl, h1, h2, by rw [q1.len, q2.len]; exact hz, fun l hl => p.ok (.fresh hl) (R.fresh hl) _ (R.newLst hl (q1.app q2))⟩
      · exact p.elim
theorem mo_add : MO g EX X (binaryOp .Add) opAdd := by
  refine OpR.by fun v u H Q ⟨ι, S, x, y, R, rx, ry, p⟩ => ?_
  unfold opAdd at p
  split at p
  · cases rx; cases ry
    exact ⟨_, op_add, _, _, rfl, rfl, p.now R _ rfl⟩
  · cases rx; cases ry
    rename_i a b
    split at p
    · rename_i hz
      exact ⟨_, op_add_str, _, _, rfl, rfl, by rw [toS_len, toS_len]; exact hz, by rw [toS_app]; exact p.now R _ rfl⟩
    · exact p.elim
  · rename_i xs ys
    obtain ⟨a, vs, rfl, h1, q1⟩ := _root_.id rx
    obtain ⟨b, us, rfl, h2, q2⟩ := _root_.id ry
    split at p
    · rename_i hz
      refine ⟨_, op_catA, a, b, vs, us, rfl, rfl, h1.sq, h2.sq, by rw [q1.len, q2.len]; exact hz, fun e => ?_, fun _ e => ?_, fun _ _ l hl => p.ok (.fresh hl) (R.fresh hl) _ (R.newTup hl (q1.app q2))⟩
      · rw [q1.nil_iff.mp e] at p
        exact p.now R _ ry
      · rw [q2.nil_iff.mp e, List.append_nil] at p
        exact p.now R _ rx
    · exact p.elim
  · exact ⟨_, op_catL, add_lists R rx ry p⟩
theorem mo_sub : MO g EX X (binaryOp .Sub) opSub := by
  refine OpR.by fun v u H Q ⟨ι, S, x, y, R, rx, ry, p⟩ => ?_
  unfold opSub at p
  split at p
  · cases rx; cases ry
    exact ⟨_, op_sub, _, _, rfl, rfl, p.now R _ rfl⟩
  · exact p.elim
theorem mulOk_of {i j : Int} (h : mulOk i j = true) : CMul i j := by
  unfold mulOk at h
  simp only [Bool.or_eq_true, Bool.and_eq_true, decide_eq_true_eq] at h
  exact h
theorem mo_mul : MO g EX X (binaryOp .Mult) opMul := by
  refine OpR.by fun v u H Q ⟨ι, S, x, y, R, rx, ry, p⟩ => ?_
  unfold opMul at p
  split at p
  · cases rx; cases ry
    split at p
    · rename_i h
      exact ⟨_, op_mul, _, _, rfl, rfl, mulOk_of h, p.now R _ rfl⟩
    · exact p.elim
  · cases ry
    obtain ⟨a, vs, rfl, h1, q1⟩ := rx
    split at p
    · rename_i h
      exact ⟨_, op_repT, a, _, vs, rfl, rfl, h1.sq, fun e => h.1 (q1.nil_iff.mp e), h.2.1, h.2.2.1, by rw [q1.len]; exact h.2.2.2, fun l hl => p.ok (.fresh hl) (R.fresh hl) _ (R.newTup hl (q1.rep _))⟩
    · exact p.elim
  · cases ry
    split at p
    · rename_i xs e
      obtain ⟨a, vs, rfl, h1, q1⟩ := R.list rx e
      split at p
      · rename_i h
        exact ⟨_, op_repL, a, _, vs, rfl, rfl, h1, by omega, by omega, by rw [q1.len]; exact h.2.2, fun l hl => p.ok (.fresh hl) (R.fresh hl) _ (R.newLst hl (q1.rep _))⟩
      · exact p.elim
    · exact p.elim
  · exact p.elim
theorem mo_div : MO g EX X (binaryOp .FloorDiv) opDiv := by
  refine OpR.by fun v u H Q ⟨ι, S, x, y, R, rx, ry, p⟩ => ?_
  unfold opDiv at p
  split at p
  · cases rx; cases ry
    split at p
    · rename_i h
      exact ⟨_, op_fdiv, _, _, rfl, rfl, h, p.now R _ rfl⟩
    · exact p.elim
  · exact p.elim
theorem mo_mod : MO g EX X (binaryOp .Mod) opMod := by
  refine OpR.by fun v u H Q ⟨ι, S, x, y, R, rx, ry, p⟩ => ?_
  unfold opMod at p
  split at p
  · cases rx; cases ry
    split at p
    · rename_i h
      exact ⟨_, op_mod, _, _, rfl, rfl, h, p.now R _ rfl⟩
    · exact p.elim
  · exact p.elim
theorem mo_pow : MO g EX X (binaryOp .Pow) opPow := by
  refine OpR.by fun v u H Q ⟨ι, S, x, y, R, rx, ry, p⟩ => ?_
  unfold opPow at p
  split at p
  · cases rx; cases ry
    split at p
    · rename_i h
      exact ⟨_, op_pow, _, _, rfl, rfl, ⟨h.1, by omega, by omega⟩, p.now R _ rfl⟩
    · exact p.elim
  · exact p.elim
theorem mu_neg : MU g EX X (unaryOp .USub) opNeg := by
  refine UnR.by fun v H Q ⟨ι, S, x, R, rx, p⟩ => ?_
  unfold opNeg at p
  split at p
  · cases rx
    exact ⟨_, un_neg, _, rfl, p.now R _ rfl⟩
  · exact p.elim
end
end Mir
end

section
set_option Elab.async false
set_option linter.all false
set_option maxRecDepth 100000
set_option maxHeartbeats 1000000
/-! MirEq: == of plain values. -/
namespace PySem.SeqAt
open AutoSeq1 (wpAny_loadPart')
open MeetsSeq MeetsSeq2 MeetsSeq3 SeqRoads2
section
variable {prog : Program} {w : World}
theorem mir_tuple_eqIn (l b : Addr) (items items2 : Array Value) (n n2 : Nat) (dd dd2 : Option Addr) (sl sl2 : Array (Option Value)) (e : Nat → Bool) :
    MeetsIn prog w (Builtin.«tuple.__eq__» ⟨[.ref l, .ref b], []⟩)
      (fun A R s => s.heap.get? l = some { cls := .type "tuple", dict := dd, data := .seq items n, slots := sl } ∧ s.heap.get? b = some { cls := .type "tuple", dict := dd2, data := .seq items2 n2, slots := sl2 } ∧
        (∀ j (h1 : j < items.size) (h2 : j < items2.size), EqP prog w A.in1 s items[j] items2[j] (e j)) ∧
        R (.ok (.ret (.bool ((List.range (min items.size items2.size)).all e && items.size == items2.size)))) s) := by
  intro A R s h
  obtain ⟨hp, g, d, tk, os⟩ := s; obtain ⟨hl, hb, he, h⟩ := h
  have f2 := AutoSeq1.sub_tuple_tuple
  have hZ : (items.toList.zip items2.toList).length = min items.size items2.size := by simp
  wp_walk using wpAny_loadPart' hl, wpAny_loadPart' hb, wpAny_forIn_list _ (fun rest b s' => b.1 = none ∧ s' = ⟨hp, g, d, tk, os⟩ ∧ ∃ i, rest = (items.toList.zip items2.toList).drop i ∧
    R (.ok (.ret (.bool (((List.range (min items.size items2.size)).drop i).all e && items.size == items2.size)))) ⟨hp, g, d, tk, os⟩) _
  case turn =>
    rintro ⟨y, x⟩ rest b s' ⟨hb', rfl, i, hz, hR⟩
    have hlt : i < (items.toList.zip items2.toList).length := by
      rcases Nat.lt_or_ge i (items.toList.zip items2.toList).length with h' | h'
      · exact h'
      · rw [List.drop_of_length_le h'] at hz; cases hz
    have hm : i < min items.size items2.size := hZ ▸ hlt
    have h1 : i < items.size := Nat.lt_of_lt_of_le hm (Nat.min_le_left _ _)
    have h2 : i < items2.size := Nat.lt_of_lt_of_le hm (Nat.min_le_right _ _)
    rw [List.drop_eq_getElem_cons hlt] at hz
    injection hz with hyx hrest
    have hy : y = items[i] := by have := congrArg Prod.fst hyx; simpa using this
    have hx : x = items2[i] := by have := congrArg Prod.snd hyx; simpa using this
    subst hy hx
    have hd : (List.range (min items.size items2.size)).drop i = i :: (List.range (min items.size items2.size)).drop (i + 1) := by simp [List.drop_eq_getElem_cons, hm]
    rw [hd, List.all_cons] at hR
    refine wpAny_bind (he i h1 h2 _ _ ?_)
    cases hy : e i with
    | true =>
      rw [hy] at hR
      wp_walk
      exact ⟨rfl, rfl, i + 1, hrest, by simpa using hR⟩
    | false =>
      rw [hy] at hR
      wp_walk
      simpa using hR
  case fin =>
    rintro ⟨b1, b2⟩ s' ⟨hb', rfl, i, hz, hR⟩
    simp only at hb'
    subst hb'
    have hge : min items.size items2.size ≤ i := by
      rcases Nat.lt_or_ge i (items.toList.zip items2.toList).length with h' | h'
      · rw [List.drop_eq_getElem_cons h'] at hz; cases hz
      · exact hZ ▸ h'
    rw [List.drop_of_length_le (by simpa using hge)] at hR
    wp_walk
    simpa [Builtin.Tuple.tupleCompareSizes] using hR
  case h =>
    exact ⟨rfl, rfl, 0, rfl, by simpa using h⟩
theorem mir_rcP_tuples {A : Around} {s : Shared} {l b : Addr} {items items2 : Array Value} {e : Nat → Bool} (hl : s.heap.IsTuple l items) (hb : s.heap.IsTuple b items2) (hu : A.units < cLine)
    (he : ∀ j (h1 : j < items.size) (h2 : j < items2.size), EqP prog w A.in1 s items[j] items2[j] (e j)) (E Q : Value → Shared → Prop) (h : Q (.bool ((List.range (min items.size items2.size)).all e && items.size == items2.size)) s) : wpAny (model prog w) A (richCompare .Eq (.ref l) (.ref b)) Q E s := by
  obtain ⟨⟨cls, dd, data, sl⟩, ho, hc, n, hd⟩ := id hl
  obtain ⟨⟨cls2, dd2, data2, sl2⟩, ho2, hc2, n2, hd2⟩ := id hb
  simp only at hc hd hc2 hd2
  subst hc hd hc2 hd2
  have ta : s.TypeIs (.ref l) "tuple" := ⟨_, ho, rfl⟩
  have tb : s.TypeIs (.ref b) "tuple" := ⟨_, ho2, rfl⟩
  exact wpAny_richCompare_same_room (op := .Eq) ta tb F.slot_tuple_eq (call_meetsIn F.slot_tuple_eq ta F.entry_tuple_eq (F.args_tuple_eq_2 _ _) (mir_tuple_eqIn l b items items2 n n2 dd dd2 sl sl2 e)
    ⟨ho, ho2, he, show Value.bool ((List.range (min items.size items2.size)).all e && items.size == items2.size) ≠ Value.notImplemented ∧ Q (.bool ((List.range (min items.size items2.size)).all e && items.size == items2.size)) s from ⟨(fun x => nomatch x), h⟩⟩) hu
end
end PySem.SeqAt

namespace Mir
open PySem PySem.Spec PyProof.Rows L2

/-! ### == -/
def dlook (k : DK) : List (DK × AV) → Option AV
  | [] => none
  | (k', v) :: r => if k' = k then some v else dlook k r
def eqMin (f : AV → AV → Option Bool) : List AV → List AV → Option Bool
  | x :: xs, y :: ys => match f x y, eqMin f xs ys with
    | some a, some b => some (a && b)
    | _, _ => none
  | _, _ => some true
def eqHits (f : AV → AV → Option Bool) (lvs : List (DK × AV)) : List (DK × AV) → Option Bool
  | [] => some true
  | (k, x) :: r => match dlook k lvs with
    | none => some false
    | some y => match f x y, eqHits f lvs r with
      | some a, some b => some (a && b)
      | _, _ => none
def isAtom : AV → Bool
  | .non => true | .bl _ => true | .int _ => true | .str _ => true
  | _ => false
def isTupB : AV → Bool
  | .tup _ => true
  | .ktp _ => true
  | _ => false
def allA : List (DK × AV) → Bool
  | [] => true
  | (.a _, _) :: r => allA r
  | (.t _, _) :: _ => false
/-- two values of other kinds -/
def cross : AV → AV → Bool
  | .non, .bl _ | .non, .int _ | .non, .str _ | .bl _, .non | .bl _, .str _ | .int _, .non | .int _, .str _ | .str _, .non | .str _, .bl _ | .str _, .int _ => true
  | x, y => (isAtom x && isTupB y) || (isTupB x && isAtom y)
def aeq (d : Bool) : Nat → Store → AV → AV → Option Bool
  | 0, _, _, _ => none
  | n + 1, S, x, y => match tupOf x, tupOf y with
   | some xs, some ys => (eqMin (aeq d n S) xs ys).map fun c => c && xs.length == ys.length
   | _, _ => match x, y with
    | .non, .non => some true
    | .bl a, .bl b => some (a == b)
    | .int a, .int b => some (a == b)
    | .str a, .str b => some (a == b)
    | .int a, .bl b => some (a == if b then 1 else 0)
    | .bl a, .int b => some ((if a then 1 else 0) == b)
    | x, y => match lstOf S x, lstOf S y with
      | some xs, some ys => if xs.length = ys.length then eqMin (aeq d n S) xs ys else some false
      | some _, none => if isAtom y || isTupB y then some false else none
      | none, some _ => if isAtom x || isTupB x then some false else none
      | none, none => match dctOf S x, dctOf S y with
        | some kvs, some lvs => if d = true then (if allA kvs && allA lvs then (if kvs.length = lvs.length then eqHits (aeq d n S) lvs kvs else some false) else none) else none
        | some _, none => none
        | none, some _ => none
        | none, none => if cross x y then some false else none

section
variable {K : PySem.W.Frag} {g : G} {X : Cx} {H : Hp} {ι : List Addr} {S : Store}
theorem Rel.dict (R : Rel K H ι g S) {x : AV} {v : V} (r : Rep K H ι x v) {kvs : List (DK × AV)} (h : dctOf S x = some kvs) :
    ∃ a, v = .ref a ∧ ((∃ ps, Rd H a (.dK ps) ∧ RepK K H ι kvs ps) ∨ ∃ ps, Rd H a (.dT ps) ∧ RepT K H ι kvs ps) := by
  cases x with
  | dct ys =>
    obtain ⟨a, o, e, t, q⟩ := r
    simp only [dctOf, Option.some.injEq] at h
    subst h
    exact ⟨a, e, q.elim (fun ⟨ps, h, r⟩ => .inl ⟨ps, .inr ⟨o, h⟩, r⟩) fun ⟨_, ps, h, r⟩ => .inr ⟨ps, .inr ⟨o, h⟩, r⟩⟩
  | ref n =>
    obtain ⟨a, e, ha⟩ := r
    simp only [dctOf] at h
    split at h
    · rename_i ys es
      cases h
      obtain ⟨a', ha', h1⟩ := R.at es
      rw [ha] at ha'; cases ha'
      exact ⟨a, e, h1.elim (fun ⟨ps, h, r⟩ => .inl ⟨ps, .inl h, r⟩) fun ⟨ps, h, r⟩ => .inr ⟨ps, .inl h, r⟩⟩
    · rename_i ys es
      cases h
      obtain ⟨a', ha', o, h1⟩ := R.at es
      rw [ha] at ha'; cases ha'
      exact ⟨a, e, h1.elim (fun ⟨ps, h, r⟩ => .inl ⟨ps, .inr ⟨o, h⟩, r⟩) fun ⟨ps, h, r⟩ => .inr ⟨ps, .inr ⟨o, h⟩, r⟩⟩
    · cases h
  | _ => simp [dctOf] at h
theorem RepK.allA : ∀ {kvs : List (DK × AV)} {ps : List (Key × V)}, RepK K H ι kvs ps → Mir.allA kvs = true
  | [], _, _ => rfl
  | (k, x) :: r, _, ⟨q, v, qs, e, _, _, h⟩ => by subst e; exact RepK.allA (kvs := r) h
theorem RepT.nil : ∀ {kvs : List (DK × AV)} {ps : List (List Key × V)}, RepT K H ι kvs ps → Mir.allA kvs = true → kvs = [] ∧ ps = []
  | [], _, h, _ => ⟨rfl, h⟩
  | (k, x) :: r, _, ⟨q, v, qs, e, _, _, h⟩, z => by subst e; exact absurd z (by simp [Mir.allA])
theorem RepK.len : ∀ {kvs : List (DK × AV)} {ps : List (Key × V)}, RepK K H ι kvs ps → ps.length = kvs.length
  | [], _, h => by rw [show _ = [] from h]; rfl
  | (k, x) :: r, _, ⟨q, v, qs, e, e2, _, h⟩ => by rw [e2, List.length_cons, List.length_cons, RepK.len h]
/-- an empty dict, whatever its keys -/
theorem dictOf_nil {P : Program} {w : World} {h : Heap} {a : Addr} (x : ObjOk P w H h a (.dT [])) : (a == sysModules) = false ∧ h.DictOf (mixKind P w) a [] := by
  obtain ⟨_, y, xs, r, o, es, ep, e, c, d, he, _⟩ := x
  cases r
  refine ⟨y, o, es, ep, e, c, d, ?_, ?_, List.nodup_nil⟩
  · have : es = #[] := by
      apply Array.toList_inj.mp
      rw [he]; rfl
    subst this
    intro i hi
    first | exact absurd hi (by simp) | simp at hi
  · rw [he]; exact .nil

theorem AK.k_inj : ∀ {p q : AK}, p.k = q.k → p = q
  | .i a, .i b, h => by cases h; rfl
  | .s a, .s b, h => by rw [toS_inj (Sum.inr.inj h)]
  | .i _, .s _, h => nomatch h
  | .s _, .i _, h => nomatch h
theorem dlookK : ∀ {lvs : List (DK × AV)} {ps : List (Key × V)} {q : AK}, RepK K H ι lvs ps →
    (∀ y, dlook (.a q) lvs = some y → ∃ v, valV ps q.k = some v ∧ Rep K H ι y v) ∧ (dlook (.a q) lvs = none → valV ps q.k = none)
  | [], _, q, h => by
    rw [show _ = [] from h]
    exact ⟨fun _ z => by simp [dlook] at z, fun _ => rfl⟩
  | (k, x) :: r, _, q, ⟨q', v, qs, e, e2, h1, h⟩ => by
    subst e e2
    by_cases hq : q' = q
    · subst hq
      refine ⟨fun y z => ?_, fun z => ?_⟩
      · simp [dlook] at z; subst z
        exact ⟨v, valV_pos rfl, h1⟩
      · simp [dlook] at z
    · have hk : ¬ (DK.a q' = DK.a q) := fun z => hq (DK.a.inj z)
      have ih := dlookK (q := q) h
      refine ⟨fun y z => ?_, fun z => ?_⟩
      · simp only [dlook, if_neg hk] at z
        obtain ⟨u, h2, h3⟩ := ih.1 y z
        exact ⟨u, by rw [valV_neg fun w => hq (AK.k_inj w)]; exact h2, h3⟩
      · simp only [dlook, if_neg hk] at z
        rw [valV_neg fun w => hq (AK.k_inj w)]
        exact ih.2 z
/-- one value, read twice -/
def SameOk (K : PySem.W.Frag) (H : Hp) (ι : List Addr) (f : AV → AV → Option Bool) : Prop := ∀ x y v b, f x y = some b → Rep K H ι x v → Rep K H ι y v → b = true
theorem eqMin_same {f : AV → AV → Option Bool} (hf : SameOk K H ι f) : ∀ {xs ys : List AV} {vs : List V} {b : Bool}, eqMin f xs ys = some b → Reps K H ι xs vs → Reps K H ι ys vs → b = true
  | [], _, _, _, e, _, _ => by simpa [eqMin] using e.symm
  | x :: xs, [], _, _, e, _, _ => by simpa [eqMin] using e.symm
  | x :: xs, y :: ys, _, b, e, ⟨v, ws, e1, h1, r1⟩, ⟨v2, ws2, e2, h2, r2⟩ => by
    subst e1
    cases e2
    simp only [eqMin] at e
    split at e
    · rename_i a c ea ec
      cases e
      rw [hf x y v a ea h1 h2, eqMin_same hf ec r1 r2]; rfl
    · cases e
theorem eqMin_sym_nil {f : AV → AV → Option Bool} {ys : List AV} : eqMin f [] ys = some true := by cases ys <;> rfl
theorem Rd.uniq {a : Addr} {u w : HO} (hu : ∀ o x, u ≠ .frz o x) (hw : ∀ o x, w ≠ .frz o x) (h1 : Rd H a u) (h2 : Rd H a w) : u = w := by
  rcases h1 with h1 | ⟨o, h1⟩ <;> rcases h2 with h2 | ⟨o2, h2⟩
  · rw [h1] at h2; exact Option.some.inj h2
  · rw [h1] at h2; exact absurd (Option.some.inj h2) (hu _ _)
  · rw [h1] at h2; exact absurd (Option.some.inj h2).symm (hw _ _)
  · rw [h1] at h2; cases h2; rfl

theorem valV_mem {κ : Type} [DecidableEq κ] : ∀ {ps : List (κ × V)} {p : κ × V}, (ps.map (·.1)).Nodup → p ∈ ps → valV ps p.1 = some p.2
  | q :: r, p, nd, h => by
    rw [List.map_cons, List.nodup_cons] at nd
    rcases List.mem_cons.mp h with rfl | h
    · exact valV_pos rfl
    · rw [valV_neg fun e => nd.1 (by rw [e]; exact List.mem_map_of_mem h)]
      exact valV_mem nd.2 h
theorem eqHits_same {f : AV → AV → Option Bool} (hf : SameOk K H ι f) {lvs : List (DK × AV)} {ps : List (Key × V)} (rl : RepK K H ι lvs ps) :
    ∀ {kvs : List (DK × AV)} {qs : List (Key × V)} {b : Bool}, RepK K H ι kvs qs → (∀ p ∈ qs, valV ps p.1 = some p.2) → eqHits f lvs kvs = some b → b = true
  | [], _, _, _, _, e => by simpa [eqHits] using e.symm
  | (k, x) :: r, _, b, ⟨q, v, qs, e, e2, h1, h⟩, hm, eb => by
    subst e e2
    have hv := hm _ List.mem_cons_self
    have ih := fun c (z : eqHits f lvs r = some c) => eqHits_same hf rl h (fun p hp => hm p (List.mem_cons_of_mem _ hp)) z
    simp only [eqHits] at eb
    split at eb
    · rename_i e
      have := (dlookK (q := q) rl).2 e
      rw [this] at hv; cases hv
    · rename_i y e
      obtain ⟨u, h2, h3⟩ := (dlookK (q := q) rl).1 y e
      rw [hv] at h2
      cases h2
      split at eb
      · rename_i a c ea ec
        cases eb
        rw [hf x y v a ea h1 h3, ih c ec]; rfl
      · cases eb
theorem kv_keys {κ : Type} : ∀ {ps : List (κ × V)} {vs : List (κ × Value)}, KV ps vs → ps.map (·.1) = vs.map (·.1)
  | _, _, .nil => rfl
  | _, _, .cons h t => by rw [List.map_cons, List.map_cons, h.1, kv_keys t]
theorem keys_nd {P : Program} {w : World} {h : Heap} {a : Addr} {ps : List (Key × V)} (x : HOk P w H h) (r : Rd H a (.dK ps)) : (ps.map (·.1)).Nodup := by
  obtain ⟨_, _, vs, kv, o, es, ep, _, _, _, _, _, nd⟩ := dk_rd x r
  have e : ps.map (·.1) = vs.map (·.1) := by
    exact kv_keys kv
  rw [e]
  exact nd
theorem isTupB_of : ∀ {x : AV}, isTupB x = true → ∃ xs, tupOf x = some xs
  | .tup xs, _ => ⟨xs, rfl⟩
  | .ktp xs, _ => ⟨xs, rfl⟩
theorem cross_ne {v : V} : ∀ {x y : AV}, cross x y = true → Rep K H ι x v → Rep K H ι y v → False := by
  have at_tup : ∀ {x y : AV}, isAtom x = true → isTupB y = true → Rep K H ι x v → Rep K H ι y v → False := fun {x y} h1 h2 rx ry => by
    obtain ⟨xs, e⟩ := isTupB_of h2
    obtain ⟨a, vs, rfl, _⟩ := ry.tup e
    cases x with
    | non => cases rx
    | bl _ => cases rx
    | int _ => cases rx
    | str _ => cases rx
    | _ => simp [isAtom] at h1
  intro x y h rx ry
  unfold cross at h
  split at h
  all_goals first
    | (cases rx; cases ry; done)
    | (simp only [Bool.or_eq_true, Bool.and_eq_true] at h; exact h.elim (fun z => at_tup z.1 z.2 rx ry) fun z => at_tup z.2 z.1 ry rx)
theorem list_no {pins : List (Addr × Obj)} {σ : L2.St} {s : Shared} (I : L2.Inv X pins σ H s) {a : Addr} {vs : List V} (h1 : Rd H a (.lst vs)) {y : AV} (hy : (isAtom y || isTupB y) = true) (ry : Rep X.K H ι y (.ref a)) : False := by
  rw [Bool.or_eq_true] at hy
  rcases hy with hy | hy
  · cases y with
    | non => cases ry
    | bl _ => cases ry
    | int _ => cases ry
    | str _ => cases ry
    | _ => simp [isAtom] at hy
  · obtain ⟨ys, e⟩ := isTupB_of hy
    obtain ⟨a2, vs2, e2, h2, q2⟩ := ry.tup e
    cases e2
    obtain ⟨its, _, p1, _⟩ := I.list (.inl h1)
    obtain ⟨its2, _, p2, _⟩ := I.tuple h2
    exact SeqAt.ne_of_list_tuple p1.isList p2 rfl
theorem aeq_same {d : Bool} {pins : List (Addr × Obj)} {σ : L2.St} {s : Shared} (I : L2.Inv X pins σ H s) (R : Rel X.K H ι g S) : ∀ n, SameOk X.K H ι (aeq d n S)
  | 0 => fun x y v b e _ _ => by simp [aeq] at e
  | n + 1 => fun x y v b e rx ry => by
    have ih := aeq_same (d := d) I R n
    unfold aeq at e
    split at e
    · rename_i xs ys ex ey
      obtain ⟨a, vs, rfl, h1, q1⟩ := rx.tup ex
      obtain ⟨a2, vs2, e2, h2, q2⟩ := ry.tup ey
      cases e2
      cases I.tuple_inj h1 h2
      cases em : eqMin (aeq d n S) xs ys with
      | none => rw [em] at e; cases e
      | some c =>
        rw [em] at e
        cases e
        rw [eqMin_same ih em q1 q2, ← q1.len, ← q2.len]
        simp
    split at e
    · simpa using e.symm
    · cases rx
      cases (show _ = _ from ry)
      simpa using e.symm
    · cases rx
      cases (show _ = _ from ry)
      simpa using e.symm
    · rename_i a c _
      have e1 : v = .str (toS a) := rx
      have e2 : v = .str (toS c) := ry
      have e3 : a = c := toS_inj (V.str.inj (e1.symm.trans e2))
      subst e3
      simpa using e.symm
    · cases rx; cases ry
    · cases rx; cases ry
    · split at e
      · rename_i xs ys ex ey
        obtain ⟨a, vs, rfl, h1, q1⟩ := R.list rx ex
        obtain ⟨a2, vs2, e2, h2, q2⟩ := R.list ry ey
        cases e2
        cases I.list_inj (.inl h1) (.inl h2)
        rw [if_pos (by rw [← q1.len, ← q2.len])] at e
        exact eqMin_same ih e q1 q2
      · rename_i xs ex ey
        obtain ⟨a, vs, rfl, h1, q1⟩ := R.list rx ex
        split at e
        · rename_i hy
          exfalso
          exact list_no I h1 hy ry
        · cases e
      · rename_i ys ex ey
        obtain ⟨a, vs, rfl, h1, q1⟩ := R.list ry ey
        split at e
        · rename_i hy
          exfalso
          exact list_no I h1 hy rx
        · cases e
      · split at e
        · rename_i kvs lvs ex ey
          obtain ⟨a, rfl, h1⟩ := R.dict rx ex
          obtain ⟨a2, e2, h2⟩ := R.dict ry ey
          cases e2
          split at e
          case isFalse => cases e
          split at e
          · rename_i ha
            rw [Bool.and_eq_true] at ha
            rcases h1 with ⟨ps, h1, r1⟩ | ⟨ps, h1, r1⟩ <;> rcases h2 with ⟨qs, h2, r2⟩ | ⟨qs, h2, r2⟩
            · cases Rd.uniq (fun _ _ z => by cases z) (fun _ _ z => by cases z) h1 h2
              rw [if_pos (by rw [← r1.len, ← r2.len])] at e
              exact eqHits_same ih r2 r1 (fun p hp => valV_mem (keys_nd I.hok h1) hp) e
            · cases Rd.uniq (fun _ _ z => by cases z) (fun _ _ z => by cases z) h1 h2
            · cases Rd.uniq (fun _ _ z => by cases z) (fun _ _ z => by cases z) h1 h2
            · obtain ⟨rfl, rfl⟩ := r1.nil ha.1
              obtain ⟨rfl, rfl⟩ := r2.nil ha.2
              simpa [eqHits] using e.symm
          · cases e
        · cases e
        · cases e
        · split at e
          · rename_i hx
            exfalso
            exact cross_ne hx rx ry
          · cases e
end
end Mir
end

section
set_option Elab.async false
set_option linter.all false
set_option maxRecDepth 100000
set_option maxHeartbeats 1000000
/-! MirNe: != of plain values. -/
namespace PySem.SeqAt
open AutoSeq1 (wpAny_loadPart')
open MeetsSeq MeetsSeq2 MeetsSeq3 SeqRoads2
section
variable {prog : Program} {w : World}
theorem mir_tuple_neIn (l b : Addr) (items items2 : Array Value) (n n2 : Nat) (dd dd2 : Option Addr) (sl sl2 : Array (Option Value)) (e : Nat → Bool) :
    MeetsIn prog w (Builtin.«tuple.__ne__» ⟨[.ref l, .ref b], []⟩)
      (fun A R s => s.heap.get? l = some { cls := .type "tuple", dict := dd, data := .seq items n, slots := sl } ∧ s.heap.get? b = some { cls := .type "tuple", dict := dd2, data := .seq items2 n2, slots := sl2 } ∧
        (∀ j (h1 : j < items.size) (h2 : j < items2.size), EqP prog w A.in1 s items[j] items2[j] (e j)) ∧
        R (.ok (.ret (.bool (!((List.range (min items.size items2.size)).all e && items.size == items2.size))))) s) := by
  intro A R s h
  obtain ⟨hp, g, d, tk, os⟩ := s; obtain ⟨hl, hb, he, h⟩ := h
  have f2 := AutoSeq1.sub_tuple_tuple
  have hZ : (items.toList.zip items2.toList).length = min items.size items2.size := by simp
  wp_walk using wpAny_loadPart' hl, wpAny_loadPart' hb, wpAny_forIn_list _ (fun rest b s' => b.1 = none ∧ s' = ⟨hp, g, d, tk, os⟩ ∧ ∃ i, rest = (items.toList.zip items2.toList).drop i ∧
    R (.ok (.ret (.bool (!(((List.range (min items.size items2.size)).drop i).all e && items.size == items2.size))))) ⟨hp, g, d, tk, os⟩) _
  case turn =>
    rintro ⟨y, x⟩ rest b s' ⟨hb', rfl, i, hz, hR⟩
    have hlt : i < (items.toList.zip items2.toList).length := by
      rcases Nat.lt_or_ge i (items.toList.zip items2.toList).length with h' | h'
      · exact h'
      · rw [List.drop_of_length_le h'] at hz; cases hz
    have hm : i < min items.size items2.size := hZ ▸ hlt
    have h1 : i < items.size := Nat.lt_of_lt_of_le hm (Nat.min_le_left _ _)
    have h2 : i < items2.size := Nat.lt_of_lt_of_le hm (Nat.min_le_right _ _)
    rw [List.drop_eq_getElem_cons hlt] at hz
    injection hz with hyx hrest
    have hy : y = items[i] := by have := congrArg Prod.fst hyx; simpa using this
    have hx : x = items2[i] := by have := congrArg Prod.snd hyx; simpa using this
    subst hy hx
    have hd : (List.range (min items.size items2.size)).drop i = i :: (List.range (min items.size items2.size)).drop (i + 1) := by simp [List.drop_eq_getElem_cons, hm]
    rw [hd, List.all_cons] at hR
    refine wpAny_bind (he i h1 h2 _ _ ?_)
    cases hy : e i with
    | true =>
      rw [hy] at hR
      wp_walk
      exact ⟨rfl, rfl, i + 1, hrest, by simpa using hR⟩
    | false =>
      rw [hy] at hR
      wp_walk
      simpa using hR
  case fin =>
    rintro ⟨b1, b2⟩ s' ⟨hb', rfl, i, hz, hR⟩
    simp only at hb'
    subst hb'
    have hge : min items.size items2.size ≤ i := by
      rcases Nat.lt_or_ge i (items.toList.zip items2.toList).length with h' | h'
      · rw [List.drop_eq_getElem_cons h'] at hz; cases hz
      · exact hZ ▸ h'
    rw [List.drop_of_length_le (by simpa using hge)] at hR
    wp_walk
    simpa [Builtin.Tuple.tupleCompareSizes, bne] using hR
  case h =>
    exact ⟨rfl, rfl, 0, rfl, by simpa using h⟩
theorem mir_rnP_tuples {A : Around} {s : Shared} {l b : Addr} {items items2 : Array Value} {e : Nat → Bool} (hl : s.heap.IsTuple l items) (hb : s.heap.IsTuple b items2) (hu : A.units < cLine)
    (he : ∀ j (h1 : j < items.size) (h2 : j < items2.size), EqP prog w A.in1 s items[j] items2[j] (e j)) (E Q : Value → Shared → Prop) (h : Q (.bool (!((List.range (min items.size items2.size)).all e && items.size == items2.size))) s) : wpAny (model prog w) A (richCompare .NotEq (.ref l) (.ref b)) Q E s := by
  obtain ⟨⟨cls, dd, data, sl⟩, ho, hc, n, hd⟩ := id hl
  obtain ⟨⟨cls2, dd2, data2, sl2⟩, ho2, hc2, n2, hd2⟩ := id hb
  simp only at hc hd hc2 hd2
  subst hc hd hc2 hd2
  have ta : s.TypeIs (.ref l) "tuple" := ⟨_, ho, rfl⟩
  have tb : s.TypeIs (.ref b) "tuple" := ⟨_, ho2, rfl⟩
  exact wpAny_richCompare_same_room (op := .NotEq) ta tb F.slot_tuple_ne (call_meetsIn F.slot_tuple_ne ta F.entry_tuple_ne (F.args_tuple_ne_2 _ _) (mir_tuple_neIn l b items items2 n n2 dd dd2 sl sl2 e)
    ⟨ho, ho2, he, show Value.bool (!((List.range (min items.size items2.size)).all e && items.size == items2.size)) ≠ Value.notImplemented ∧ Q (.bool (!((List.range (min items.size items2.size)).all e && items.size == items2.size))) s from ⟨(fun x => nomatch x), h⟩⟩) hu

theorem mir_ne_loop (l b : Addr) (us ws : Array Value) (n n2 : Nat) (dd dd2 : Option Addr) (sl sl2 : Array (Option Value)) (hsz : us.size = ws.size) (e : Nat → Bool) : ∀ (k i : Nat), us.size - i = k →
    MeetsIn prog w (Builtin.«list.__eq__.loop» ⟨[.ref l, .ref b, rawInt i, rawInt 3], []⟩)
      (fun A R s => s.heap.get? l = some { cls := .type "list", dict := dd, data := .seq us n, slots := sl } ∧ s.heap.get? b = some { cls := .type "list", dict := dd2, data := .seq ws n2, slots := sl2 } ∧
        (∀ j (h1 : j < us.size) (h2 : j < ws.size), EqP prog w A.in1 s us[j] ws[j] (e j)) ∧ R (.ok (.ret (.bool (!((List.range us.size).drop i).all e)))) s)
  | 0, i, hk, A, R, ⟨hp, g, d, tk, os⟩, ⟨hl, hb, he, h⟩ => by
    wp_walk using wpAny_loadPart' hl, wpAny_loadPart' hb
    rw [show us[((i : Nat) : Int).toNat]? = none by simp; omega, show ws[((i : Nat) : Int).toNat]? = none by simp; omega]
    wp_walk using wpAny_loadPart' hl, wpAny_loadPart' hb
    show R (.ok (.ret (.bool (us.size != ws.size)))) _
    rw [show (List.range us.size).drop i = [] by simp; omega] at h
    rw [hsz]
    simpa using h
  | k + 1, i, hk, A, R, ⟨hp, g, d, tk, os⟩, ⟨hl, hb, he, h⟩ => by
    have l1 : i < us.size := by omega
    have l2 : i < ws.size := by omega
    have a1 : us[((i : Nat) : Int).toNat]? = some us[i] := by simp [l1]
    have a2 : ws[((i : Nat) : Int).toNat]? = some ws[i] := by simp [l2]
    rw [show (List.range us.size).drop i = i :: (List.range us.size).drop (i + 1) by simp [List.drop_eq_getElem_cons, l1], List.all_cons] at h
    wp_walk using wpAny_loadPart' hl, wpAny_loadPart' hb
    rw [a1, a2]
    refine wpAny_bind (he i l1 l2 _ _ ?_)
    cases c : e i with
    | true =>
      rw [c] at h
      wp_walk
      rw [show ((i : Int) + 1) = ((i + 1 : Nat) : Int) by push_cast; rfl]
      exact ⟨plainId_quiet plain_eq_loop _, codeAny_builtin entry_eq_loop (by
        rw [Around.under_plainId plain_eq_loop _]
        exact mir_ne_loop l b us ws n n2 dd dd2 sl sl2 hsz e k (i + 1) (by omega) A R _ ⟨hl, hb, he, by simpa using h⟩)⟩
    | false =>
      rw [c] at h
      wp_walk using wpAny_loadPart' hl, wpAny_loadPart' hb
      rw [a1, a2]
      wp_walk
      simpa using h
theorem mir_list_neIn (l b : Addr) (us ws : Array Value) (n n2 : Nat) (dd dd2 : Option Addr) (sl sl2 : Array (Option Value)) (hsz : us.size = ws.size) (e : Nat → Bool) :
    MeetsIn prog w (Builtin.«list.__ne__» ⟨[.ref l, .ref b], []⟩)
      (fun A R s => s.heap.get? l = some { cls := .type "list", dict := dd, data := .seq us n, slots := sl } ∧ s.heap.get? b = some { cls := .type "list", dict := dd2, data := .seq ws n2, slots := sl2 } ∧
        (∀ j (h1 : j < us.size) (h2 : j < ws.size), EqP prog w A.in1 s us[j] ws[j] (e j)) ∧ R (.ok (.ret (.bool (!(List.range us.size).all e)))) s) := by
  rintro A R ⟨hp, g, d, tk, os⟩ ⟨hl, hb, he, h⟩
  have f3 := AutoSeq1.sub_list_list
  have hne : ¬ (us.size != ws.size) = true := by simp [hsz]
  wp_walk using wpAny_loadPart' hl, wpAny_loadPart' hb
  exact ⟨plainId_quiet plain_eq_loop _, codeAny_builtin entry_eq_loop (by
    rw [Around.under_plainId plain_eq_loop _]
    exact mir_ne_loop l b us ws n n2 dd dd2 sl sl2 hsz e _ 0 rfl A R _ ⟨hl, hb, he, by simpa using h⟩)⟩
theorem mir_rnP_lists {A : Around} {s : Shared} {l b : Addr} {us ws : Array Value} {e : Nat → Bool} (hl : s.heap.IsList l us) (hb : s.heap.IsList b ws) (hsz : us.size = ws.size) (hu : A.units < cLine)
    (he : ∀ j (h1 : j < us.size) (h2 : j < ws.size), EqP prog w A.in1 s us[j] ws[j] (e j)) (E Q : Value → Shared → Prop) (h : Q (.bool (!(List.range us.size).all e)) s) : wpAny (model prog w) A (richCompare .NotEq (.ref l) (.ref b)) Q E s := by
  obtain ⟨⟨c1, d1, data, sl⟩, ho, hc, n, hd⟩ := id hl
  obtain ⟨⟨c2, d2, data2, sl2⟩, ho2, hc2, n2, hd2⟩ := id hb
  simp only at hc hd hc2 hd2
  subst hc hd hc2 hd2
  exact wpAny_richCompare_same_room (op := .NotEq) ⟨_, ho, rfl⟩ ⟨_, ho2, rfl⟩ F.slot_list_ne (call_meetsIn F.slot_list_ne ⟨_, ho, rfl⟩ F.entry_list_ne (F.args_list_ne_2 _ _) (mir_list_neIn l b us ws n n2 d1 d2 sl sl2 hsz e)
    ⟨ho, ho2, he, show Value.bool (!(List.range us.size).all e) ≠ Value.notImplemented ∧ Q (.bool (!(List.range us.size).all e)) s from ⟨(fun x => nomatch x), h⟩⟩) hu
end
end PySem.SeqAt
namespace PySem.W
theorem mir_rnP_dicts {κ : Type} [DecidableEq κ] {prog : Program} {w : World} {A : Around} {s : Shared} {knd : KeyKind prog w κ} {a b : Addr} {ka kb : List (κ × Value)} {r : Bool} (ha : (a == sysModules) = false) (hb : (b == sysModules) = false)
    (da : s.heap.DictOf knd a ka) (db : s.heap.DictOf knd b kb) (hu : A.units < cLine) (hits : ka.length = kb.length → KeqHitsP prog w A.in1 s kb ka r) (E Q : Value → Shared → Prop) (h : Q (.bool (!(ka.length == kb.length && r))) s) : wpAny (model prog w) A (richCompare .NotEq (.ref a) (.ref b)) Q E s := by
  refine wpAny_richCompare_same_room (op := .NotEq) da.typeIs db.typeIs PySem.F.slot_dict_ne (wpAny_call_entry PySem.F.slot_dict_ne da.typeIs PySem.F.entry_dict_ne ?_ (PySem.F.args_dict_ne_2 _ _)) hu
  show wpAny _ _ (Builtin.Dict.dictSlotArgs "__ne__" ⟨[.ref a, .ref b], []⟩ >>= _) _ _ s
  unfold Builtin.Dict.dictSlotArgs
  refine wpAny_bind (wpAny_bind (wpAny_notOrdered_dict da.typeIs (wpAny_pure (wpAny_bind (wpAny_isInstance (T := "dict") db.typeIs PySem.F.sub_dict_dict ?_)))))
  simp only [Bool.not_true, Bool.false_eq_true, if_false]
  refine wpAny_bind (wpAny_pure (wpAny_bind (wpAny_pure ?_)))
  exact wpAny_bind (samePairsP ha hb da db hits (wpAny_pure ⟨_, rfl, (fun x => nomatch x), by simpa using h⟩))
end PySem.W
end

section
set_option Elab.async false
set_option linter.all false
set_option maxRecDepth 100000
set_option maxHeartbeats 1000000
/-! MirNe2: == and != run. (printed by mkeq.py) -/
namespace Mir
open PySem PySem.Spec PyProof.Rows L2
section
variable {K : PySem.W.Frag} {g : G} {EX : XK} {X : Cx} {H : Hp} {ι : List Addr} {S : Store}
def RcP (P : Program) (w : World) (A : Around) (s : Shared) (v u : Value) (b : Bool) : Prop := ∀ (E Q : Value → Shared → Prop), Q (.bool b) s → wpAny (model P w) A (richCompare .Eq v u) Q E s
def RnP (P : Program) (w : World) (A : Around) (s : Shared) (v u : Value) (b : Bool) : Prop := ∀ (E Q : Value → Shared → Prop), Q (.bool (!b)) s → wpAny (model P w) A (richCompare .NotEq v u) Q E s
theorem rcP_of {P : Program} {w : World} {A : Around} {s : Shared} {v u : Value} {b : Bool} (h : SeqAt.RcAt A s v u b) : RcP P w A s v u b := fun E Q q => h P w E Q q
theorem rnP_of {P : Program} {w : World} {A : Around} {s : Shared} {v u : Value} {b : Bool} (h : SeqAt.RcNeAt A s v u (!b)) : RnP P w A s v u b := fun E Q q => h P w E Q q
theorem eqP_of_rcP {P : Program} {w : World} {A : Around} {s : Shared} {v u : Value} {b : Bool} (h : RcP P w A s v u b) (nf : ∀ x t, v ≠ .float x t) (hs : v = u → b = true) : SeqAt.EqP P w A s v u b := fun E Q hq => by
  unfold eqBool
  refine wpAny_holding ?_
  refine wpAny_ite_split (fun hab => ?_) (fun _ => ?_)
  · rw [hs (eq_of_beq hab)] at hq
    exact (wpAny_pure (M := model P w) (E := E) hq)
  · cases v with
    | float x t => exact absurd rfl (nf x t)
    | _ => exact wpAny_bind (h E _ (wpAny_truthy_bool hq))
theorem Rep.nf {x : AV} {v : V} {u : Value} (r : Rep K H ι x v) (q : RelV v u) : ∀ a t, u ≠ .float a t := fun a t z => by
  subst z
  cases x with
  | non => cases r; cases q
  | bl b => cases r; cases q
  | int b => cases r; obtain ⟨_, z⟩ := q; cases z
  | str b => cases r; obtain ⟨_, z⟩ := q; cases z
  | tup b => obtain ⟨_, _, rfl, _⟩ := r; cases q
  | ktp b => obtain ⟨_, _, rfl, _⟩ := r; cases q
  | lst b => obtain ⟨_, _, rfl, _⟩ := r; cases q
  | kst b => obtain ⟨_, _, rfl, _⟩ := r; cases q
  | dct b => obtain ⟨_, _, rfl, _⟩ := r; cases q
  | ref b => obtain ⟨_, rfl, _⟩ := r; cases q
  | clo b => exact r
theorem eqMin_at {f : AV → AV → Option Bool} : ∀ {xs ys : List AV} {b : Bool}, eqMin f xs ys = some b → ∃ e : Nat → Bool, (∀ (j : Nat) x y, xs[j]? = some x → ys[j]? = some y → f x y = some (e j)) ∧ b = (List.range (min xs.length ys.length)).all e
  | [], _, b, h => ⟨fun _ => true, fun j x y h1 _ => by simp at h1, by simpa [eqMin] using h.symm⟩
  | x :: xs, [], b, h => ⟨fun _ => true, fun j x y _ h2 => by simp at h2, by simpa [eqMin] using h.symm⟩
  | x :: xs, y :: ys, b, h => by
    simp only [eqMin] at h
    split at h
    · rename_i a c ea ec
      cases h
      obtain ⟨e, h1, h2⟩ := eqMin_at ec
      refine ⟨fun j => match j with | 0 => a | j + 1 => e j, fun j x' y' e1 e2 => ?_, ?_⟩
      · cases j with
        | zero => simp at e1 e2; subst e1 e2; exact ea
        | succ j => exact h1 j x' y' (by simpa using e1) (by simpa using e2)
      · rw [h2, List.length_cons, List.length_cons, Nat.succ_min_succ, List.range_succ_eq_map, List.all_cons, List.all_map]
        rfl
    · cases h
theorem Reps.at {xs : List AV} {vs : List V} {us : List Value} (r : Reps K H ι xs vs) (q : Vals vs us) {j : Nat} (hj : j < us.length) : ∃ x v, xs[j]? = some x ∧ vs[j]? = some v ∧ Rep K H ι x v ∧ RelV v us[j] := by
  have h1 : j < vs.length := by rw [q.length]; exact hj
  have h2 : j < xs.length := by rw [← r.len]; exact h1
  obtain ⟨v, e1, e2⟩ := r.get (List.getElem?_eq_getElem h2)
  obtain ⟨u, e3, e4⟩ := q.get e1
  rw [List.getElem?_eq_getElem hj] at e3
  cases e3
  exact ⟨_, v, List.getElem?_eq_getElem h2, e1, e2, e4⟩
theorem eqAt_of_rcAt {A : Around} {s : Shared} {v u : Value} {b : Bool} (h : SeqAt.RcAt A s v u b) (nf : ∀ x t, v ≠ .float x t) (hs : v = u → b = true) : SeqAt.EqAt A s v u b := fun P w E Q hq => eqP_of_rcP (rcP_of (P := P) (w := w) h) nf hs E Q hq
theorem hits_ok {P : Program} {w : World} {A : Around} {s : Shared} {f : AV → AV → Option Bool} (ih : ∀ x y v u v' u' b, f x y = some b → Rep K H ι x v → Rep K H ι y u → RelV v v' → RelV u u' → SeqAt.EqP P w A s v' u' b)
    {lvs : List (DK × AV)} {ls : List (Key × V)} {vb : List (Key × Value)} (rl : RepK K H ι lvs ls) (kb : KV ls vb) : ∀ {kvs : List (DK × AV)} {ks : List (Key × V)} {va : List (Key × Value)} {b : Bool}, RepK K H ι kvs ks → KV ks va → eqHits f lvs kvs = some b → PySem.W.KeqHitsP P w A s vb va b
  | [], _, _, b, h, kv, e => by
    cases (show _ = _ from h)
    cases kv
    rw [show b = true by simpa [eqHits] using e.symm]
    exact .nil
  | (k, x) :: r, _, _, b, ⟨q, v, qs, e1, e2, h1, h⟩, kv, e => by
    subst e1 e2
    cases kv with
    | @cons _ p' _ l2 hk hr =>
      obtain ⟨kk, vv⟩ := p'
      obtain ⟨hk1, hk2⟩ := hk
      cases (show q.k = kk from hk1)
      have hv := kb.val q.k
      simp only [eqHits] at e
      split at e
      · rename_i el
        cases e
        rw [(dlookK (q := q) rl).2 el] at hv
        refine .miss ?_
        cases hx : valueAt vb q.k with
        | none => rfl
        | some z => rw [hx] at hv; exact (show False from hv).elim
      · rename_i y el
        obtain ⟨u, h2, h3⟩ := (dlookK (q := q) rl).1 y el
        rw [h2] at hv
        obtain ⟨u', h4, h5⟩ := RelO.some_of hv
        split at e
        · rename_i a c ea ec
          cases e
          exact .hit h4 (ih _ _ _ _ _ _ _ ea h1 h3 hk2 h5) (hits_ok ih rl kb h hr ec)
        · cases e
theorem dict_form {pins : List (Addr × Obj)} {σ : L2.St} {s : Shared} (I : L2.Inv X pins σ H s) {a : Addr} {kvs : List (DK × AV)} (ha : allA kvs = true) (h : (∃ ps, Rd H a (.dK ps) ∧ RepK X.K H ι kvs ps) ∨ ∃ ps, Rd H a (.dT ps) ∧ RepT X.K H ι kvs ps) :
    ∃ ps vs, (a == sysModules) = false ∧ s.heap.DictOf (mixKind X.prog X.w) a vs ∧ KV ps vs ∧ RepK X.K H ι kvs ps := by
  rcases h with ⟨ps, h1, r1⟩ | ⟨ps, h1, r1⟩
  · obtain ⟨_, y, vs, kv, d⟩ := dk_rd I.hok h1
    exact ⟨ps, vs, y, d, kv, r1⟩
  · obtain ⟨rfl, rfl⟩ := r1.nil ha
    obtain ⟨y, d⟩ := dictOf_nil (h1.ok I.hok)
    exact ⟨[], [], y, d, .nil, rfl⟩
theorem list_run {pins : List (Addr × Obj)} {σ : L2.St} {s : Shared} {A : Around} (I : L2.Inv X pins σ H s) {a : Addr} {vs : List V} (h1 : Rd H a (.lst vs)) {y : AV} {u : V} {u' : Value} (hy : (isAtom y || isTupB y) = true) (ry : Rep X.K H ι y u) (hu : A.units < cLine) (qu : RelV u u') : RcP X.prog X.w A s (.ref a) u' false ∧ RcP X.prog X.w A s u' (.ref a) false := by
  obtain ⟨its, _, p1, _⟩ := I.list (.inl h1)
  rw [Bool.or_eq_true] at hy
  rcases hy with hy | hy
  · cases y with
    | non => cases ry; cases qu; exact ⟨rcP_of (SeqAt.RcAt.list_none  p1.isList hu), rcP_of (SeqAt.RcAt.none_list  p1.isList hu)⟩
    | bl _ => cases ry; cases qu; exact ⟨rcP_of (SeqAt.RcAt.list_bool _ p1.isList hu), rcP_of (SeqAt.RcAt.bool_list _ p1.isList hu)⟩
    | int _ => cases ry; obtain ⟨_, rfl⟩ := qu; exact ⟨rcP_of (SeqAt.RcAt.list_int _ _ p1.isList hu), rcP_of (SeqAt.RcAt.int_list _ _ p1.isList hu)⟩
    | str _ => cases ry; obtain ⟨_, rfl⟩ := qu; exact ⟨rcP_of (SeqAt.RcAt.list_str _ _ p1.isList hu), rcP_of (SeqAt.RcAt.str_list _ _ p1.isList hu)⟩
    | _ => simp [isAtom] at hy
  · obtain ⟨ys, e⟩ := isTupB_of hy
    obtain ⟨a2, vs2, rfl, h2, q2⟩ := ry.tup e
    cases qu
    obtain ⟨its2, _, p2, _⟩ := I.tuple h2
    exact ⟨rcP_of (SeqAt.RcAt.list_tuple p1.isList p2 hu), rcP_of (SeqAt.RcAt.tuple_list p2 p1.isList hu)⟩
theorem cross_at {pins : List (Addr × Obj)} {σ : L2.St} {s : Shared} {v u : V} {v' u' : Value} {A : Around} (I : L2.Inv X pins σ H s) : ∀ (x y : AV), isAtom x = true → isTupB y = true → Rep X.K H ι x v → Rep X.K H ι y u → RelV v v' → RelV u u' → A.units < cLine → RcP X.prog X.w A s v' u' false ∧ RcP X.prog X.w A s u' v' false := by
  intro x y h1 h2 rx ry qv qu hu
  obtain ⟨ys, e⟩ := isTupB_of h2
  obtain ⟨a, vs, rfl, h3, q1⟩ := ry.tup e
  cases qu
  obtain ⟨_, _, p1, _⟩ := I.tuple h3
  cases x with
  | non => cases rx; cases qv; exact ⟨rcP_of (SeqAt.RcAt.none_tuple  p1 hu), rcP_of (SeqAt.RcAt.tuple_none  p1 hu)⟩
  | bl _ => cases rx; cases qv; exact ⟨rcP_of (SeqAt.RcAt.bool_tuple _ p1 hu), rcP_of (SeqAt.RcAt.tuple_bool _ p1 hu)⟩
  | int _ => cases rx; obtain ⟨_, rfl⟩ := qv; exact ⟨rcP_of (SeqAt.RcAt.int_tuple _ _ p1 hu), rcP_of (SeqAt.RcAt.tuple_int _ _ p1 hu)⟩
  | str _ => cases rx; obtain ⟨_, rfl⟩ := qv; exact ⟨rcP_of (SeqAt.RcAt.str_tuple _ _ p1 hu), rcP_of (SeqAt.RcAt.tuple_str _ _ p1 hu)⟩
  | _ => simp [isAtom] at h1
theorem cross_run {pins : List (Addr × Obj)} {σ : L2.St} {s : Shared} {v u : V} {v' u' : Value} {A : Around} (I : L2.Inv X pins σ H s) : ∀ (x y : AV), cross x y = true → Rep X.K H ι x v → Rep X.K H ι y u → RelV v v' → RelV u u' → A.units < cLine → RcP X.prog X.w A s v' u' false := by
  intro x y h rx ry qv qu hu
  unfold cross at h
  split at h
  · cases rx; cases ry; cases qv; cases qu; exact rcP_of (SeqAt.RcAt.none_bool  _)
  · cases rx; cases ry; cases qv; obtain ⟨_, rfl⟩ := qu; exact rcP_of (SeqAt.RcAt.none_int  _ _)
  · cases rx; cases ry; cases qv; obtain ⟨_, rfl⟩ := qu; exact rcP_of (SeqAt.RcAt.none_str  _ _)
  · cases rx; cases ry; cases qv; cases qu; exact rcP_of (SeqAt.RcAt.bool_none _ )
  · cases rx; cases ry; cases qv; obtain ⟨_, rfl⟩ := qu; exact rcP_of (SeqAt.RcAt.bool_str _ _ _)
  · cases rx; cases ry; obtain ⟨_, rfl⟩ := qv; cases qu; exact rcP_of (SeqAt.RcAt.int_none _ _ )
  · cases rx; cases ry; obtain ⟨_, rfl⟩ := qv; obtain ⟨_, rfl⟩ := qu; exact rcP_of (SeqAt.RcAt.int_str _ _ _ _)
  · cases rx; cases ry; obtain ⟨_, rfl⟩ := qv; cases qu; exact rcP_of (SeqAt.RcAt.str_none _ _ )
  · cases rx; cases ry; obtain ⟨_, rfl⟩ := qv; cases qu; exact rcP_of (SeqAt.RcAt.str_bool _ _ _)
  · cases rx; cases ry; obtain ⟨_, rfl⟩ := qv; obtain ⟨_, rfl⟩ := qu; exact rcP_of (SeqAt.RcAt.str_int _ _ _ _)
  · rw [Bool.or_eq_true, Bool.and_eq_true, Bool.and_eq_true] at h
    rcases h with c | c
    · exact (cross_at I _ _ c.1 c.2 rx ry qv qu hu).1
    · exact (cross_at I _ _ c.2 c.1 ry rx qu qv hu).2
theorem aeq_run {d : Bool} {pins : List (Addr × Obj)} {σ : L2.St} {s : Shared} (I : L2.Inv X pins σ H s) (R : Rel X.K H ι g S) : ∀ (n : Nat) (A : Around), A.units + n < cLine → ∀ (x y : AV) (v u : V) (v' u' : Value) (b : Bool),
    aeq d n S x y = some b → Rep X.K H ι x v → Rep X.K H ι y u → RelV v v' → RelV u u' → RcP X.prog X.w A s v' u' b
  | 0, _, _, _, _, _, _, _, _, _, e, _, _, _, _ => by simp [aeq] at e
  | n + 1, A, hu, x, y, v, u, v', u', b, e, rx, ry, qv, qu => by
    have ih : ∀ x y v u v' u' b, aeq d n S x y = some b → Rep X.K H ι x v → Rep X.K H ι y u → RelV v v' → RelV u u' → SeqAt.EqP X.prog X.w A.in1 s v' u' b := fun x y v u v' u' b e rx ry qv qu =>
      eqP_of_rcP (aeq_run (d := d) I R n A.in1 (by show A.units + 1 + n < cLine; omega) x y v u v' u' b e rx ry qv qu) (rx.nf qv) fun z => by
        subst z
        rw [RelV.inj qv qu] at rx
        exact aeq_same (d := d) I R n x y u b e rx ry
    have hu1 : A.units < cLine := by omega
    unfold aeq at e
    split at e
    · rename_i xs ys ex ey
      obtain ⟨a, vs, rfl, h1, q1⟩ := rx.tup ex
      obtain ⟨a2, vs2, rfl, h2, q2⟩ := ry.tup ey
      cases qv; cases qu
      obtain ⟨its, r1, p1, _⟩ := I.tuple h1
      obtain ⟨its2, r2, p2, _⟩ := I.tuple h2
      cases em : eqMin (aeq d n S) xs ys with
      | none => rw [em] at e; cases e
      | some c =>
        rw [em] at e
        obtain ⟨ee, he, hc⟩ := eqMin_at em
        have l1 : its.toArray.size = xs.length := by rw [List.size_toArray, ← r1.length, q1.len]
        have l2 : its2.toArray.size = ys.length := by rw [List.size_toArray, ← r2.length, q2.len]
        have hb : b = ((List.range (min its.toArray.size its2.toArray.size)).all ee && its.toArray.size == its2.toArray.size) := by
          rw [l1, l2, ← hc]
          exact (Option.some.inj e).symm
        subst hb
        refine fun E Q q => SeqAt.mir_rcP_tuples p1 p2 hu1 (fun j h1 h2 => ?_) E Q q
        obtain ⟨x, v, a1, a2, a3, a4⟩ := q1.at r1 (by simpa using h1)
        obtain ⟨y, u, b1, b2, b3, b4⟩ := q2.at r2 (by simpa using h2)
        simpa using ih x y v u _ _ _ (he j x y a1 b1) a3 b3 a4 b4
    split at e
    · cases e; cases rx; cases ry; cases qv; cases qu
      exact rcP_of SeqAt.RcAt.none_none
    · cases e; cases rx; cases ry; cases qv; cases qu
      exact rcP_of (SeqAt.RcAt.bool_bool _ _)
    · cases e; cases rx; cases ry; obtain ⟨_, rfl⟩ := qv; obtain ⟨_, rfl⟩ := qu
      exact rcP_of (SeqAt.RcAt.int_int _ _ _ _)
    · rename_i a c _
      cases e; cases rx; cases ry; obtain ⟨_, rfl⟩ := qv; obtain ⟨_, rfl⟩ := qu
      have z : (a == c) = (toS a == toS c) := by
        rw [Bool.eq_iff_iff, beq_iff_eq, beq_iff_eq]
        exact ⟨fun h => by rw [h], toS_inj⟩
      rw [z]
      exact rcP_of (SeqAt.RcAt.str_str _ _ _ _)
    · cases e; cases rx; cases ry; obtain ⟨_, rfl⟩ := qv; cases qu
      exact rcP_of (SeqAt.RcAt.int_bool _ _ _)
    · cases e; cases rx; cases ry; cases qv; obtain ⟨_, rfl⟩ := qu
      exact rcP_of (SeqAt.RcAt.bool_int _ _ _)
    · split at e
      · rename_i xs ys ex ey
        obtain ⟨a, vs, rfl, h1, q1⟩ := R.list rx ex
        obtain ⟨a2, vs2, rfl, h2, q2⟩ := R.list ry ey
        cases qv; cases qu
        obtain ⟨its, r1, p1, _⟩ := I.list (.inl h1)
        obtain ⟨its2, r2, p2, _⟩ := I.list (.inl h2)
        have l1 : its.toArray.size = xs.length := by rw [List.size_toArray, ← r1.length, q1.len]
        have l2 : its2.toArray.size = ys.length := by rw [List.size_toArray, ← r2.length, q2.len]
        split at e
        · rename_i hl
          obtain ⟨ee, he, hc⟩ := eqMin_at e
          have hb : b = (List.range its.toArray.size).all ee := by
            rw [l1, hc, ← hl, Nat.min_self]
          subst hb
          refine fun E Q q => SeqAt.rcP_lists p1.isList p2.isList (by rw [l1, l2, hl]) hu1 (fun j h1 h2 => ?_) E Q q
          obtain ⟨x, v, a1, a2, a3, a4⟩ := q1.at r1 (by simpa using h1)
          obtain ⟨y, u, b1, b2, b3, b4⟩ := q2.at r2 (by simpa using h2)
          simpa using ih x y v u _ _ _ (he j x y a1 b1) a3 b3 a4 b4
        · rename_i hl
          cases e
          exact rcP_of (SeqAt.RcAt.lists_lengths p1.isList p2.isList (by rw [l1, l2]; simpa using hl) hu1)
      · rename_i xs ex ey
        obtain ⟨a, vs, rfl, h1, q1⟩ := R.list rx ex
        cases qv
        obtain ⟨its, r1, p1, _⟩ := I.list (.inl h1)
        split at e
        · cases e
          exact (list_run I h1 ‹_› ry hu1 qu).1
        · cases e
      · rename_i ys ex ey
        obtain ⟨a, vs, rfl, h1, q1⟩ := R.list ry ey
        cases qu
        obtain ⟨its, r1, p1, _⟩ := I.list (.inl h1)
        split at e
        · cases e
          exact (list_run I h1 ‹_› rx hu1 qv).2
        · cases e
      · split at e
        · rename_i kvs lvs ex ey
          obtain ⟨a, rfl, h1⟩ := R.dict rx ex
          obtain ⟨a2, rfl, h2⟩ := R.dict ry ey
          cases qv; cases qu
          split at e
          case isFalse => cases e
          skip
          split at e
          · rename_i ha
            rw [Bool.and_eq_true] at ha
            obtain ⟨ks, va, ya, da, ka, ra⟩ := dict_form I ha.1 h1
            obtain ⟨ls, vb, yb, db, kb, rb⟩ := dict_form I ha.2 h2
            have l1 : va.length = kvs.length := by rw [← ra.len, ka.length]
            have l2 : vb.length = lvs.length := by rw [← rb.len, kb.length]
            split at e
            · rename_i hl
              have hh := hits_ok ih rb kb ra ka e
              refine fun E Q q => PySem.W.rcP_dicts ya yb da db hu1 (fun _ => hh) E Q ?_
              rw [l1, l2, hl]
              simpa using q
            · rename_i hl
              cases e
              refine fun E Q q => PySem.W.rcP_dicts (r := true) ya yb da db hu1 (fun z => absurd (by rw [← l1, ← l2]; exact z) hl) E Q ?_
              rw [l1, l2, show (kvs.length == lvs.length) = false by simpa using hl]
              exact q
          · cases e
        · cases e
        · cases e
        · split at e
          · rename_i hx
            cases e
            exact cross_run I x y hx rx ry qv qu hu1
          · cases e
theorem list_runN {pins : List (Addr × Obj)} {σ : L2.St} {s : Shared} {A : Around} (I : L2.Inv X pins σ H s) {a : Addr} {vs : List V} (h1 : Rd H a (.lst vs)) {y : AV} {u : V} {u' : Value} (hy : (isAtom y || isTupB y) = true) (ry : Rep X.K H ι y u) (hu : A.units < cLine) (qu : RelV u u') : RnP X.prog X.w A s (.ref a) u' false ∧ RnP X.prog X.w A s u' (.ref a) false := by
  obtain ⟨its, _, p1, _⟩ := I.list (.inl h1)
  rw [Bool.or_eq_true] at hy
  rcases hy with hy | hy
  · cases y with
    | non => cases ry; cases qu; exact ⟨rnP_of (SeqAt.RcNeAt.list_none  p1.isList hu), rnP_of (SeqAt.RcNeAt.none_list  p1.isList hu)⟩
    | bl _ => cases ry; cases qu; exact ⟨rnP_of (SeqAt.RcNeAt.list_bool _ p1.isList hu), rnP_of (SeqAt.RcNeAt.bool_list _ p1.isList hu)⟩
    | int _ => cases ry; obtain ⟨_, rfl⟩ := qu; exact ⟨rnP_of (SeqAt.RcNeAt.list_int _ _ p1.isList hu), rnP_of (SeqAt.RcNeAt.int_list _ _ p1.isList hu)⟩
    | str _ => cases ry; obtain ⟨_, rfl⟩ := qu; exact ⟨rnP_of (SeqAt.RcNeAt.list_str _ _ p1.isList hu), rnP_of (SeqAt.RcNeAt.str_list _ _ p1.isList hu)⟩
    | _ => simp [isAtom] at hy
  · obtain ⟨ys, e⟩ := isTupB_of hy
    obtain ⟨a2, vs2, rfl, h2, q2⟩ := ry.tup e
    cases qu
    obtain ⟨its2, _, p2, _⟩ := I.tuple h2
    exact ⟨rnP_of (SeqAt.RcNeAt.list_tuple p1.isList p2 hu), rnP_of (SeqAt.RcNeAt.tuple_list p2 p1.isList hu)⟩
theorem cross_atN {pins : List (Addr × Obj)} {σ : L2.St} {s : Shared} {v u : V} {v' u' : Value} {A : Around} (I : L2.Inv X pins σ H s) : ∀ (x y : AV), isAtom x = true → isTupB y = true → Rep X.K H ι x v → Rep X.K H ι y u → RelV v v' → RelV u u' → A.units < cLine → RnP X.prog X.w A s v' u' false ∧ RnP X.prog X.w A s u' v' false := by
  intro x y h1 h2 rx ry qv qu hu
  obtain ⟨ys, e⟩ := isTupB_of h2
  obtain ⟨a, vs, rfl, h3, q1⟩ := ry.tup e
  cases qu
  obtain ⟨_, _, p1, _⟩ := I.tuple h3
  cases x with
  | non => cases rx; cases qv; exact ⟨rnP_of (SeqAt.RcNeAt.none_tuple  p1 hu), rnP_of (SeqAt.RcNeAt.tuple_none  p1 hu)⟩
  | bl _ => cases rx; cases qv; exact ⟨rnP_of (SeqAt.RcNeAt.bool_tuple _ p1 hu), rnP_of (SeqAt.RcNeAt.tuple_bool _ p1 hu)⟩
  | int _ => cases rx; obtain ⟨_, rfl⟩ := qv; exact ⟨rnP_of (SeqAt.RcNeAt.int_tuple _ _ p1 hu), rnP_of (SeqAt.RcNeAt.tuple_int _ _ p1 hu)⟩
  | str _ => cases rx; obtain ⟨_, rfl⟩ := qv; exact ⟨rnP_of (SeqAt.RcNeAt.str_tuple _ _ p1 hu), rnP_of (SeqAt.RcNeAt.tuple_str _ _ p1 hu)⟩
  | _ => simp [isAtom] at h1
theorem cross_runN {pins : List (Addr × Obj)} {σ : L2.St} {s : Shared} {v u : V} {v' u' : Value} {A : Around} (I : L2.Inv X pins σ H s) : ∀ (x y : AV), cross x y = true → Rep X.K H ι x v → Rep X.K H ι y u → RelV v v' → RelV u u' → A.units < cLine → RnP X.prog X.w A s v' u' false := by
  intro x y h rx ry qv qu hu
  unfold cross at h
  split at h
  · cases rx; cases ry; cases qv; cases qu; exact rnP_of (SeqAt.RcNeAt.none_bool  _)
  · cases rx; cases ry; cases qv; obtain ⟨_, rfl⟩ := qu; exact rnP_of (SeqAt.RcNeAt.none_int  _ _)
  · cases rx; cases ry; cases qv; obtain ⟨_, rfl⟩ := qu; exact rnP_of (SeqAt.RcNeAt.none_str  _ _)
  · cases rx; cases ry; cases qv; cases qu; exact rnP_of (SeqAt.RcNeAt.bool_none _ )
  · cases rx; cases ry; cases qv; obtain ⟨_, rfl⟩ := qu; exact rnP_of (SeqAt.RcNeAt.bool_str _ _ _)
  · cases rx; cases ry; obtain ⟨_, rfl⟩ := qv; cases qu; exact rnP_of (SeqAt.RcNeAt.int_none _ _ )
  · cases rx; cases ry; obtain ⟨_, rfl⟩ := qv; obtain ⟨_, rfl⟩ := qu; exact rnP_of (SeqAt.RcNeAt.int_str _ _ _ _)
  · cases rx; cases ry; obtain ⟨_, rfl⟩ := qv; cases qu; exact rnP_of (SeqAt.RcNeAt.str_none _ _ )
  · cases rx; cases ry; obtain ⟨_, rfl⟩ := qv; cases qu; exact rnP_of (SeqAt.RcNeAt.str_bool _ _ _)
  · cases rx; cases ry; obtain ⟨_, rfl⟩ := qv; obtain ⟨_, rfl⟩ := qu; exact rnP_of (SeqAt.RcNeAt.str_int _ _ _ _)
  · rw [Bool.or_eq_true, Bool.and_eq_true, Bool.and_eq_true] at h
    rcases h with c | c
    · exact (cross_atN I _ _ c.1 c.2 rx ry qv qu hu).1
    · exact (cross_atN I _ _ c.2 c.1 ry rx qu qv hu).2
theorem aeq_runN {d : Bool} {pins : List (Addr × Obj)} {σ : L2.St} {s : Shared} (I : L2.Inv X pins σ H s) (R : Rel X.K H ι g S) : ∀ (n : Nat) (A : Around), A.units + n < cLine → ∀ (x y : AV) (v u : V) (v' u' : Value) (b : Bool),
    aeq d n S x y = some b → Rep X.K H ι x v → Rep X.K H ι y u → RelV v v' → RelV u u' → RnP X.prog X.w A s v' u' b
  | 0, _, _, _, _, _, _, _, _, _, e, _, _, _, _ => by simp [aeq] at e
  | n + 1, A, hu, x, y, v, u, v', u', b, e, rx, ry, qv, qu => by
    have ih : ∀ x y v u v' u' b, aeq d n S x y = some b → Rep X.K H ι x v → Rep X.K H ι y u → RelV v v' → RelV u u' → SeqAt.EqP X.prog X.w A.in1 s v' u' b := fun x y v u v' u' b e rx ry qv qu =>
      eqP_of_rcP (aeq_run (d := d) I R n A.in1 (by show A.units + 1 + n < cLine; omega) x y v u v' u' b e rx ry qv qu) (rx.nf qv) fun z => by
        subst z
        rw [RelV.inj qv qu] at rx
        exact aeq_same (d := d) I R n x y u b e rx ry
    have hu1 : A.units < cLine := by omega
    unfold aeq at e
    split at e
    · rename_i xs ys ex ey
      obtain ⟨a, vs, rfl, h1, q1⟩ := rx.tup ex
      obtain ⟨a2, vs2, rfl, h2, q2⟩ := ry.tup ey
      cases qv; cases qu
      obtain ⟨its, r1, p1, _⟩ := I.tuple h1
      obtain ⟨its2, r2, p2, _⟩ := I.tuple h2
      cases em : eqMin (aeq d n S) xs ys with
      | none => rw [em] at e; cases e
      | some c =>
        rw [em] at e
        obtain ⟨ee, he, hc⟩ := eqMin_at em
        have l1 : its.toArray.size = xs.length := by rw [List.size_toArray, ← r1.length, q1.len]
        have l2 : its2.toArray.size = ys.length := by rw [List.size_toArray, ← r2.length, q2.len]
        have hb : b = ((List.range (min its.toArray.size its2.toArray.size)).all ee && its.toArray.size == its2.toArray.size) := by
          rw [l1, l2, ← hc]
          exact (Option.some.inj e).symm
        subst hb
        refine fun E Q q => SeqAt.mir_rnP_tuples p1 p2 hu1 (fun j h1 h2 => ?_) E Q q
        obtain ⟨x, v, a1, a2, a3, a4⟩ := q1.at r1 (by simpa using h1)
        obtain ⟨y, u, b1, b2, b3, b4⟩ := q2.at r2 (by simpa using h2)
        simpa using ih x y v u _ _ _ (he j x y a1 b1) a3 b3 a4 b4
    split at e
    · cases e; cases rx; cases ry; cases qv; cases qu
      exact rnP_of SeqAt.RcNeAt.none_none
    · cases e; cases rx; cases ry; cases qv; cases qu
      exact rnP_of (SeqAt.RcNeAt.bool_bool _ _)
    · cases e; cases rx; cases ry; obtain ⟨_, rfl⟩ := qv; obtain ⟨_, rfl⟩ := qu
      exact rnP_of (SeqAt.RcNeAt.int_int _ _ _ _)
    · rename_i a c _
      cases e; cases rx; cases ry; obtain ⟨_, rfl⟩ := qv; obtain ⟨_, rfl⟩ := qu
      have z : (a == c) = (toS a == toS c) := by
        rw [Bool.eq_iff_iff, beq_iff_eq, beq_iff_eq]
        exact ⟨fun h => by rw [h], toS_inj⟩
      rw [z]
      exact rnP_of (SeqAt.RcNeAt.str_str _ _ _ _)
    · cases e; cases rx; cases ry; obtain ⟨_, rfl⟩ := qv; cases qu
      exact rnP_of (SeqAt.RcNeAt.int_bool _ _ _)
    · cases e; cases rx; cases ry; cases qv; obtain ⟨_, rfl⟩ := qu
      exact rnP_of (SeqAt.RcNeAt.bool_int _ _ _)
    · split at e
      · rename_i xs ys ex ey
        obtain ⟨a, vs, rfl, h1, q1⟩ := R.list rx ex
        obtain ⟨a2, vs2, rfl, h2, q2⟩ := R.list ry ey
        cases qv; cases qu
        obtain ⟨its, r1, p1, _⟩ := I.list (.inl h1)
        obtain ⟨its2, r2, p2, _⟩ := I.list (.inl h2)
        have l1 : its.toArray.size = xs.length := by rw [List.size_toArray, ← r1.length, q1.len]
        have l2 : its2.toArray.size = ys.length := by rw [List.size_toArray, ← r2.length, q2.len]
        split at e
        · rename_i hl
          obtain ⟨ee, he, hc⟩ := eqMin_at e
          have hb : b = (List.range its.toArray.size).all ee := by
            rw [l1, hc, ← hl, Nat.min_self]
          subst hb
          refine fun E Q q => SeqAt.mir_rnP_lists p1.isList p2.isList (by rw [l1, l2, hl]) hu1 (fun j h1 h2 => ?_) E Q q
          obtain ⟨x, v, a1, a2, a3, a4⟩ := q1.at r1 (by simpa using h1)
          obtain ⟨y, u, b1, b2, b3, b4⟩ := q2.at r2 (by simpa using h2)
          simpa using ih x y v u _ _ _ (he j x y a1 b1) a3 b3 a4 b4
        · rename_i hl
          cases e
          exact rnP_of (SeqAt.RcNeAt.lists_lengths p1.isList p2.isList (by rw [l1, l2]; simpa using hl) hu1)
      · rename_i xs ex ey
        obtain ⟨a, vs, rfl, h1, q1⟩ := R.list rx ex
        cases qv
        obtain ⟨its, r1, p1, _⟩ := I.list (.inl h1)
        split at e
        · cases e
          exact (list_runN I h1 ‹_› ry hu1 qu).1
        · cases e
      · rename_i ys ex ey
        obtain ⟨a, vs, rfl, h1, q1⟩ := R.list ry ey
        cases qu
        obtain ⟨its, r1, p1, _⟩ := I.list (.inl h1)
        split at e
        · cases e
          exact (list_runN I h1 ‹_› rx hu1 qv).2
        · cases e
      · split at e
        · rename_i kvs lvs ex ey
          obtain ⟨a, rfl, h1⟩ := R.dict rx ex
          obtain ⟨a2, rfl, h2⟩ := R.dict ry ey
          cases qv; cases qu
          split at e
          case isFalse => cases e
          skip
          split at e
          · rename_i ha
            rw [Bool.and_eq_true] at ha
            obtain ⟨ks, va, ya, da, ka, ra⟩ := dict_form I ha.1 h1
            obtain ⟨ls, vb, yb, db, kb, rb⟩ := dict_form I ha.2 h2
            have l1 : va.length = kvs.length := by rw [← ra.len, ka.length]
            have l2 : vb.length = lvs.length := by rw [← rb.len, kb.length]
            split at e
            · rename_i hl
              have hh := hits_ok ih rb kb ra ka e
              refine fun E Q q => PySem.W.mir_rnP_dicts ya yb da db hu1 (fun _ => hh) E Q ?_
              rw [l1, l2, hl]
              simpa using q
            · rename_i hl
              cases e
              refine fun E Q q => PySem.W.mir_rnP_dicts (r := true) ya yb da db hu1 (fun z => absurd (by rw [← l1, ← l2]; exact z) hl) E Q ?_
              rw [l1, l2, show (kvs.length == lvs.length) = false by simpa using hl]
              exact q
          · cases e
        · cases e
        · cases e
        · split at e
          · rename_i hx
            cases e
            exact cross_runN I x y hx rx ry qv qu hu1
          · cases e
theorem list_runF {pins : List (Addr × Obj)} {σ : L2.St} {s : Shared} {A : Around} (I : L2.Inv X pins σ H s) {a : Addr} {vs : List V} (h1 : Rd H a (.lst vs)) {y : AV} {u : V} {u' : Value} (hy : (isAtom y || isTupB y) = true) (ry : Rep X.K H ι y u) (hu : A.units < cLine) (qu : RelV u u') : SeqAt.RcAt A s (.ref a) u' false ∧ SeqAt.RcAt A s u' (.ref a) false := by
  obtain ⟨its, _, p1, _⟩ := I.list (.inl h1)
  rw [Bool.or_eq_true] at hy
  rcases hy with hy | hy
  · cases y with
    | non => cases ry; cases qu; exact ⟨ (SeqAt.RcAt.list_none  p1.isList hu),  (SeqAt.RcAt.none_list  p1.isList hu)⟩
    | bl _ => cases ry; cases qu; exact ⟨ (SeqAt.RcAt.list_bool _ p1.isList hu),  (SeqAt.RcAt.bool_list _ p1.isList hu)⟩
    | int _ => cases ry; obtain ⟨_, rfl⟩ := qu; exact ⟨ (SeqAt.RcAt.list_int _ _ p1.isList hu),  (SeqAt.RcAt.int_list _ _ p1.isList hu)⟩
    | str _ => cases ry; obtain ⟨_, rfl⟩ := qu; exact ⟨ (SeqAt.RcAt.list_str _ _ p1.isList hu),  (SeqAt.RcAt.str_list _ _ p1.isList hu)⟩
    | _ => simp [isAtom] at hy
  · obtain ⟨ys, e⟩ := isTupB_of hy
    obtain ⟨a2, vs2, rfl, h2, q2⟩ := ry.tup e
    cases qu
    obtain ⟨its2, _, p2, _⟩ := I.tuple h2
    exact ⟨ (SeqAt.RcAt.list_tuple p1.isList p2 hu),  (SeqAt.RcAt.tuple_list p2 p1.isList hu)⟩
theorem cross_atF {pins : List (Addr × Obj)} {σ : L2.St} {s : Shared} {v u : V} {v' u' : Value} {A : Around} (I : L2.Inv X pins σ H s) : ∀ (x y : AV), isAtom x = true → isTupB y = true → Rep X.K H ι x v → Rep X.K H ι y u → RelV v v' → RelV u u' → A.units < cLine → SeqAt.RcAt A s v' u' false ∧ SeqAt.RcAt A s u' v' false := by
  intro x y h1 h2 rx ry qv qu hu
  obtain ⟨ys, e⟩ := isTupB_of h2
  obtain ⟨a, vs, rfl, h3, q1⟩ := ry.tup e
  cases qu
  obtain ⟨_, _, p1, _⟩ := I.tuple h3
  cases x with
  | non => cases rx; cases qv; exact ⟨ (SeqAt.RcAt.none_tuple  p1 hu),  (SeqAt.RcAt.tuple_none  p1 hu)⟩
  | bl _ => cases rx; cases qv; exact ⟨ (SeqAt.RcAt.bool_tuple _ p1 hu),  (SeqAt.RcAt.tuple_bool _ p1 hu)⟩
  | int _ => cases rx; obtain ⟨_, rfl⟩ := qv; exact ⟨ (SeqAt.RcAt.int_tuple _ _ p1 hu),  (SeqAt.RcAt.tuple_int _ _ p1 hu)⟩
  | str _ => cases rx; obtain ⟨_, rfl⟩ := qv; exact ⟨ (SeqAt.RcAt.str_tuple _ _ p1 hu),  (SeqAt.RcAt.tuple_str _ _ p1 hu)⟩
  | _ => simp [isAtom] at h1
theorem cross_runF {pins : List (Addr × Obj)} {σ : L2.St} {s : Shared} {v u : V} {v' u' : Value} {A : Around} (I : L2.Inv X pins σ H s) : ∀ (x y : AV), cross x y = true → Rep X.K H ι x v → Rep X.K H ι y u → RelV v v' → RelV u u' → A.units < cLine → SeqAt.RcAt A s v' u' false := by
  intro x y h rx ry qv qu hu
  unfold cross at h
  split at h
  · cases rx; cases ry; cases qv; cases qu; exact  (SeqAt.RcAt.none_bool  _)
  · cases rx; cases ry; cases qv; obtain ⟨_, rfl⟩ := qu; exact  (SeqAt.RcAt.none_int  _ _)
  · cases rx; cases ry; cases qv; obtain ⟨_, rfl⟩ := qu; exact  (SeqAt.RcAt.none_str  _ _)
  · cases rx; cases ry; cases qv; cases qu; exact  (SeqAt.RcAt.bool_none _ )
  · cases rx; cases ry; cases qv; obtain ⟨_, rfl⟩ := qu; exact  (SeqAt.RcAt.bool_str _ _ _)
  · cases rx; cases ry; obtain ⟨_, rfl⟩ := qv; cases qu; exact  (SeqAt.RcAt.int_none _ _ )
  · cases rx; cases ry; obtain ⟨_, rfl⟩ := qv; obtain ⟨_, rfl⟩ := qu; exact  (SeqAt.RcAt.int_str _ _ _ _)
  · cases rx; cases ry; obtain ⟨_, rfl⟩ := qv; cases qu; exact  (SeqAt.RcAt.str_none _ _ )
  · cases rx; cases ry; obtain ⟨_, rfl⟩ := qv; cases qu; exact  (SeqAt.RcAt.str_bool _ _ _)
  · cases rx; cases ry; obtain ⟨_, rfl⟩ := qv; obtain ⟨_, rfl⟩ := qu; exact  (SeqAt.RcAt.str_int _ _ _ _)
  · rw [Bool.or_eq_true, Bool.and_eq_true, Bool.and_eq_true] at h
    rcases h with c | c
    · exact (cross_atF I _ _ c.1 c.2 rx ry qv qu hu).1
    · exact (cross_atF I _ _ c.2 c.1 ry rx qu qv hu).2
theorem aeq_runF {pins : List (Addr × Obj)} {σ : L2.St} {s : Shared} (I : L2.Inv X pins σ H s) (R : Rel X.K H ι g S) : ∀ (n : Nat) (A : Around), A.units + n < cLine → ∀ (x y : AV) (v u : V) (v' u' : Value) (b : Bool),
    aeq false n S x y = some b → Rep X.K H ι x v → Rep X.K H ι y u → RelV v v' → RelV u u' → SeqAt.RcAt A s v' u' b
  | 0, _, _, _, _, _, _, _, _, _, e, _, _, _, _ => by simp [aeq] at e
  | n + 1, A, hu, x, y, v, u, v', u', b, e, rx, ry, qv, qu => by
    have ih : ∀ x y v u v' u' b, aeq false n S x y = some b → Rep X.K H ι x v → Rep X.K H ι y u → RelV v v' → RelV u u' → SeqAt.EqAt A.in1 s v' u' b := fun x y v u v' u' b e rx ry qv qu =>
      eqAt_of_rcAt (aeq_runF I R n A.in1 (by show A.units + 1 + n < cLine; omega) x y v u v' u' b e rx ry qv qu) (rx.nf qv) fun z => by
        subst z
        rw [RelV.inj qv qu] at rx
        exact aeq_same (d := false) I R n x y u b e rx ry
    have hu1 : A.units < cLine := by omega
    unfold aeq at e
    split at e
    · rename_i xs ys ex ey
      obtain ⟨a, vs, rfl, h1, q1⟩ := rx.tup ex
      obtain ⟨a2, vs2, rfl, h2, q2⟩ := ry.tup ey
      cases qv; cases qu
      obtain ⟨its, r1, p1, _⟩ := I.tuple h1
      obtain ⟨its2, r2, p2, _⟩ := I.tuple h2
      cases em : eqMin (aeq false n S) xs ys with
      | none => rw [em] at e; cases e
      | some c =>
        rw [em] at e
        obtain ⟨ee, he, hc⟩ := eqMin_at em
        have l1 : its.toArray.size = xs.length := by rw [List.size_toArray, ← r1.length, q1.len]
        have l2 : its2.toArray.size = ys.length := by rw [List.size_toArray, ← r2.length, q2.len]
        have hb : b = ((List.range (min its.toArray.size its2.toArray.size)).all ee && its.toArray.size == its2.toArray.size) := by
          rw [l1, l2, ← hc]
          exact (Option.some.inj e).symm
        subst hb
        refine SeqAt.RcAt.tuples p1 p2 hu1 (fun j h1 h2 => ?_)
        obtain ⟨x, v, a1, a2, a3, a4⟩ := q1.at r1 (by simpa using h1)
        obtain ⟨y, u, b1, b2, b3, b4⟩ := q2.at r2 (by simpa using h2)
        simpa using ih x y v u _ _ _ (he j x y a1 b1) a3 b3 a4 b4
    split at e
    · cases e; cases rx; cases ry; cases qv; cases qu
      exact  SeqAt.RcAt.none_none
    · cases e; cases rx; cases ry; cases qv; cases qu
      exact  (SeqAt.RcAt.bool_bool _ _)
    · cases e; cases rx; cases ry; obtain ⟨_, rfl⟩ := qv; obtain ⟨_, rfl⟩ := qu
      exact  (SeqAt.RcAt.int_int _ _ _ _)
    · rename_i a c _
      cases e; cases rx; cases ry; obtain ⟨_, rfl⟩ := qv; obtain ⟨_, rfl⟩ := qu
      have z : (a == c) = (toS a == toS c) := by
        rw [Bool.eq_iff_iff, beq_iff_eq, beq_iff_eq]
        exact ⟨fun h => by rw [h], toS_inj⟩
      rw [z]
      exact  (SeqAt.RcAt.str_str _ _ _ _)
    · cases e; cases rx; cases ry; obtain ⟨_, rfl⟩ := qv; cases qu
      exact  (SeqAt.RcAt.int_bool _ _ _)
    · cases e; cases rx; cases ry; cases qv; obtain ⟨_, rfl⟩ := qu
      exact  (SeqAt.RcAt.bool_int _ _ _)
    · split at e
      · rename_i xs ys ex ey
        obtain ⟨a, vs, rfl, h1, q1⟩ := R.list rx ex
        obtain ⟨a2, vs2, rfl, h2, q2⟩ := R.list ry ey
        cases qv; cases qu
        obtain ⟨its, r1, p1, _⟩ := I.list (.inl h1)
        obtain ⟨its2, r2, p2, _⟩ := I.list (.inl h2)
        have l1 : its.toArray.size = xs.length := by rw [List.size_toArray, ← r1.length, q1.len]
        have l2 : its2.toArray.size = ys.length := by rw [List.size_toArray, ← r2.length, q2.len]
        split at e
        · rename_i hl
          obtain ⟨ee, he, hc⟩ := eqMin_at e
          have hb : b = (List.range its.toArray.size).all ee := by
            rw [l1, hc, ← hl, Nat.min_self]
          subst hb
          refine SeqAt.RcAt.lists p1.isList p2.isList (by rw [l1, l2, hl]) hu1 (fun j h1 h2 => ?_)
          obtain ⟨x, v, a1, a2, a3, a4⟩ := q1.at r1 (by simpa using h1)
          obtain ⟨y, u, b1, b2, b3, b4⟩ := q2.at r2 (by simpa using h2)
          simpa using ih x y v u _ _ _ (he j x y a1 b1) a3 b3 a4 b4
        · rename_i hl
          cases e
          exact  (SeqAt.RcAt.lists_lengths p1.isList p2.isList (by rw [l1, l2]; simpa using hl) hu1)
      · rename_i xs ex ey
        obtain ⟨a, vs, rfl, h1, q1⟩ := R.list rx ex
        cases qv
        obtain ⟨its, r1, p1, _⟩ := I.list (.inl h1)
        split at e
        · cases e
          exact (list_runF I h1 ‹_› ry hu1 qu).1
        · cases e
      · rename_i ys ex ey
        obtain ⟨a, vs, rfl, h1, q1⟩ := R.list ry ey
        cases qu
        obtain ⟨its, r1, p1, _⟩ := I.list (.inl h1)
        split at e
        · cases e
          exact (list_runF I h1 ‹_› rx hu1 qv).2
        · cases e
      · split at e
        · rename_i kvs lvs ex ey
          obtain ⟨a, rfl, h1⟩ := R.dict rx ex
          obtain ⟨a2, rfl, h2⟩ := R.dict ry ey
          cases qv; cases qu
          split at e
          case isFalse => cases e
          exact absurd ‹false = true› (by decide)
        · cases e
        · cases e
        · split at e
          · rename_i hx
            cases e
            exact cross_runF I x y hx rx ry qv qu hu1
          · cases e
def opEq (x y : AV) (S : Store) : Res AV := match aeq true 64 S x y with
  | some b => .ok (.bl b) S
  | none => .stuck
def opNe (x y : AV) (S : Store) : Res AV := match aeq true 64 S x y with
  | some b => .ok (.bl (!b)) S
  | none => .stuck
theorem mo_eq (hu : X.A.units + 64 < cLine) : MO g EX X (compareOp .Eq) opEq := by
  rintro pins s σ H v u v' u' Q I rv ru ⟨ι, S, x, y, R, rx, ry, p⟩
  unfold opEq at p
  split at p
  · rename_i b e
    exact aeq_run I R 64 X.A hu x y v u v' u' b e rx ry rv ru _ _ ⟨.bl b, H, I, rfl, p.now R _ rfl⟩
  · exact p.elim
theorem mo_ne (hu : X.A.units + 64 < cLine) : MO g EX X (compareOp .NotEq) opNe := by
  rintro pins s σ H v u v' u' Q I rv ru ⟨ι, S, x, y, R, rx, ry, p⟩
  unfold opNe at p
  split at p
  · rename_i b e
    exact aeq_runN I R 64 X.A hu x y v u v' u' b e rx ry rv ru _ _ ⟨.bl (!b), H, I, rfl, p.now R _ rfl⟩
  · exact p.elim
end
end Mir
end

section
set_option Elab.async false
set_option linter.all false
set_option maxRecDepth 100000
set_option maxHeartbeats 1000000
/-! MirD: in; dicts by values; order of ints and texts; truth. -/
namespace Mir
open PySem PySem.Spec PyProof.Rows L2

def akOf : AV → Option AK
  | .int i => some (.i i)
  | .str x => some (.s x)
  | _ => none
def aksOf : List AV → Option (List AK)
  | [] => some []
  | x :: xs => match akOf x, aksOf xs with
    | some k, some ks => some (k :: ks)
    | _, _ => none
/-- the key that a value is -/
def keyOf : AV → Option DK
  | .int i => some (.a (.i i))
  | .str x => some (.a (.s x))
  | .tup xs => (aksOf xs).map .t
  | _ => none
/-- a dict's keys are of the key's kind -/
def fits (k : DK) : List (DK × AV) → Bool
  | [] => true
  | (.a _, _) :: r => (match k with | .a _ => true | .t _ => false) && fits k r
  | (.t _, _) :: r => (match k with | .t _ => true | .a _ => false) && fits k r
/-- the first key's place takes the value, or a new pair at the end -/
def dput (k : DK) (v : AV) (kvs : List (DK × AV)) : List (DK × AV) := if (kvs.any fun p => decide (p.1 = k)) = true then kvs.map (fun p => if p.1 = k then (p.1, v) else p) else kvs ++ [(k, v)]
def ddrop (k : DK) : List (DK × AV) → List (DK × AV)
  | [] => []
  | (k', v') :: r => if k' = k then ddrop k r else (k', v') :: ddrop k r

section
variable {K : PySem.W.Frag} {g : G} {EX : XK} {X : Cx} {H : Hp} {ι : List Addr} {S : Store}
theorem kV_ak {x : AV} {v : V} {k : AK} (h : akOf x = some k) (r : Rep K H ι x v) : v = kV k.k := by
  cases x with
  | int i => cases h; cases r; rfl
  | str y => cases h; cases r; rfl
  | _ => simp [akOf] at h
theorem kVs_ak : ∀ {xs : List AV} {vs : List V} {ks : List AK}, aksOf xs = some ks → Reps K H ι xs vs → vs = (ks.map AK.k).map kV
  | [], _, _, h, r => by cases h; exact r
  | x :: xs, _, ks, h, ⟨v, ws, e, r, rs⟩ => by
    simp only [aksOf] at h
    split at h
    · rename_i k ks' e1 e2
      cases h
      rw [e, kV_ak e1 r, kVs_ak e2 rs]; rfl
    · cases h
theorem keyOf_a {x : AV} {v : V} {k : AK} (h : keyOf x = some (.a k)) (r : Rep K H ι x v) : v = kV k.k := by
  cases x with
  | int i => cases h; cases r; rfl
  | str y => cases h; cases r; rfl
  | tup xs => simp [keyOf] at h
  | _ => simp [keyOf] at h
theorem keyOf_t {x : AV} {v : V} {ks : List AK} (h : keyOf x = some (.t ks)) (r : Rep K H ι x v) : ∃ b, v = .ref b ∧ H b = some (.tup ((ks.map AK.k).map kV)) := by
  cases x with
  | tup xs =>
    obtain ⟨a, vs, e, t, q⟩ := r
    simp only [keyOf, Option.map_eq_some_iff] at h
    obtain ⟨ks', e1, e2⟩ := h
    cases e2
    exact ⟨a, e, by rw [← kVs_ak e1 q]; exact t.2⟩
  | _ => simp [keyOf] at h
/-! an empty dict may be read as either kind -/
theorem Inv.emptyT {pins : List (Addr × Obj)} {σ : L2.St} {s : Shared} {a : Addr} (I : L2.Inv X pins σ H s) (e : H a = some (.dK [])) : L2.Inv X pins σ (upd H a (.dT [])) s := by
  obtain ⟨z, y, vs, kv, o, es, ep, ho, hx, hd, _, hp, _⟩ := dk_of I.hok e
  cases kv
  cases hes : es.toList with
  | cons _ _ => rw [hes] at hp; cases hp
  | nil =>
    have J := I.write (h' := s.heap) (t' := s.toks) (x := a) (e := a) (o := .dT []) (by rw [e]; exact True.intro) (.inl rfl) (fun _ _ _ q => q) ⟨o, ho⟩
      ⟨z, y, [], .nil, o, es, ep, ho, hx, hd, hes, List.nodup_nil⟩
    exact J
theorem Inv.emptyK {pins : List (Addr × Obj)} {σ : L2.St} {s : Shared} {a : Addr} (I : L2.Inv X pins σ H s) (e : H a = some (.dT [])) : L2.Inv X pins σ (upd H a (.dK [])) s := by
  obtain ⟨y, d⟩ := dictOf_nil (I.hok a _ e)
  have d' := d
  obtain ⟨o, es, ep, ho, _⟩ := d'
  exact I.write (h' := s.heap) (t' := s.toks) (x := a) (e := a) (o := .dK []) (by rw [e]; exact True.intro) (.inl rfl) (fun _ _ _ q => q) ⟨o, ho⟩ ⟨Nat.zero_le _, y, [], .nil, d⟩
theorem fits_a {k : AK} : ∀ {kvs : List (DK × AV)} {ps : List (List Key × V)}, fits (.a k) kvs = true → RepT K H ι kvs ps → kvs = [] ∧ ps = []
  | [], _, _, h => ⟨rfl, h⟩
  | (k', x) :: r, _, f, ⟨q, v, qs, e, _⟩ => by subst e; simp [fits] at f
theorem fits_t {k : List AK} : ∀ {kvs : List (DK × AV)} {ps : List (Key × V)}, fits (.t k) kvs = true → RepK K H ι kvs ps → kvs = [] ∧ ps = []
  | [], _, _, h => ⟨rfl, h⟩
  | (k', x) :: r, _, f, ⟨q, v, qs, e, _⟩ => by subst e; simp [fits] at f
theorem ks_inj : ∀ {p q : List AK}, p.map AK.k = q.map AK.k → p = q
  | [], [], _ => rfl
  | a :: p, b :: q, h => by
    rw [List.map_cons, List.map_cons] at h
    injection h with h1 h2
    rw [AK.k_inj h1, ks_inj h2]
  | [], _ :: _, h => by simp at h
  | _ :: _, [], h => by simp at h
theorem dlookT : ∀ {lvs : List (DK × AV)} {ps : List (List Key × V)} {q : List AK}, RepT K H ι lvs ps →
    (∀ y, dlook (.t q) lvs = some y → ∃ v, valV ps (q.map AK.k) = some v ∧ Rep K H ι y v) ∧ (dlook (.t q) lvs = none → valV ps (q.map AK.k) = none)
  | [], _, q, h => by
    rw [show _ = [] from h]
    exact ⟨fun _ z => by simp [dlook] at z, fun _ => rfl⟩
  | (k, x) :: r, _, q, ⟨q', v, qs, e, e2, h1, h⟩ => by
    subst e e2
    by_cases hq : q' = q
    · subst hq
      refine ⟨fun y z => ?_, fun z => ?_⟩
      · simp [dlook] at z; subst z
        exact ⟨v, valV_pos rfl, h1⟩
      · simp [dlook] at z
    · have hk : ¬ (DK.t q' = DK.t q) := fun z => hq (DK.t.inj z)
      have ih := dlookT (q := q) h
      refine ⟨fun y z => ?_, fun z => ?_⟩
      · simp only [dlook, if_neg hk] at z
        obtain ⟨u, h2, h3⟩ := ih.1 y z
        exact ⟨u, by rw [valV_neg fun w => hq (ks_inj w)]; exact h2, h3⟩
      · simp only [dlook, if_neg hk] at z
        rw [valV_neg fun w => hq (ks_inj w)]
        exact ih.2 z
/-- the two readings of one look-up -/
def RepOpt (K : PySem.W.Frag) (H : Hp) (ι : List Addr) : Option AV → Option V → Prop
  | some x, some v => Rep K H ι x v
  | none, none => True
  | _, _ => False
def isAk : DK → Bool
  | .a _ => true
  | .t _ => false
/-- a look-up of a key -/
def dlk (S : Store) (x : AV) (k : DK) : Option (Option AV) := match x with
  | .dct kvs => if fits k kvs = true ∧ (kvs ≠ [] ∨ isAk k = true) then some (dlook k kvs) else none
  | .ref n => match S[n]? with
    | some (.dct kvs) => if fits k kvs = true then some (dlook k kvs) else none
    | some (.lk kvs) => if fits k kvs = true ∧ kvs ≠ [] then some (dlook k kvs) else none
    | _ => none
  | _ => none
theorem set_self {S : Store} {n : Nat} {c : Cell} (h : S[n]? = some c) : S.set n c = S := by
  apply List.ext_getElem?
  intro m
  by_cases e : n = m
  · subst e
    rw [List.getElem?_set_self (List.getElem?_eq_some_iff.mp h).1, h]
  · rw [List.getElem?_set_ne e]
theorem opt_k {lvs : List (DK × AV)} {ps : List (Key × V)} {q : AK} (r : RepK K H ι lvs ps) : RepOpt K H ι (dlook (.a q) lvs) (valV ps q.k) := by
  have h := dlookK (q := q) r
  cases e : dlook (.a q) lvs with
  | none => rw [h.2 e]; trivial
  | some y =>
    obtain ⟨v, e2, r2⟩ := h.1 y e
    rw [e2]
    exact r2
theorem opt_t {lvs : List (DK × AV)} {ps : List (List Key × V)} {q : List AK} (r : RepT K H ι lvs ps) : RepOpt K H ι (dlook (.t q) lvs) (valV ps (q.map AK.k)) := by
  have h := dlookT (q := q) r
  cases e : dlook (.t q) lvs with
  | none => rw [h.2 e]; trivial
  | some y =>
    obtain ⟨v, e2, r2⟩ := h.1 y e
    rw [e2]
    exact r2
/-- the value's dict may be asked for the key -/
theorem dget_of {pins : List (Addr × Obj)} {σ : L2.St} {s : Shared} (I : L2.Inv X pins σ H s) (R : Rel X.K H ι g S) {x y : AV} {v u : V} {k : DK} {o : Option AV} (rx : Rep X.K H ι x v) (ry : Rep X.K H ι y u)
    (hk : keyOf y = some k) (hd : dlk S x k = some o) :
    ∃ H1 a o', v = .ref a ∧ L2.Inv X pins σ H1 s ∧ Rel X.K H1 ι g S ∧ Grow ι H ι H1 ∧ DGet H1 a u o' ∧ RepOpt X.K H1 ι o o' := by
  have plainA : ∀ {a : Addr} {q : AK} {ps : List (Key × V)} {kvs : List (DK × AV)}, k = .a q → Rd H a (.dK ps) → RepK X.K H ι kvs ps → o = dlook k kvs → v = .ref a →
      ∃ H1 a o', v = .ref a ∧ L2.Inv X pins σ H1 s ∧ Rel X.K H1 ι g S ∧ Grow ι H ι H1 ∧ DGet H1 a u o' ∧ RepOpt X.K H1 ι o o' := fun {a q ps kvs} e1 h1 r1 e2 e3 => by
    subst e1 e2
    exact ⟨H, a, valV ps q.k, e3, I, R, .refl _ _, .inl ⟨ps, q.k, h1, keyOf_a hk ry, rfl⟩, opt_k r1⟩
  have plainT : ∀ {a : Addr} {q : List AK} {ps : List (List Key × V)} {kvs : List (DK × AV)}, k = .t q → Rd H a (.dT ps) → RepT X.K H ι kvs ps → o = dlook k kvs → v = .ref a →
      ∃ H1 a o', v = .ref a ∧ L2.Inv X pins σ H1 s ∧ Rel X.K H1 ι g S ∧ Grow ι H ι H1 ∧ DGet H1 a u o' ∧ RepOpt X.K H1 ι o o' := fun {a q ps kvs} e1 h1 r1 e2 e3 => by
    subst e1 e2
    obtain ⟨b, e4, e5⟩ := keyOf_t hk ry
    exact ⟨H, a, valV ps (q.map AK.k), e3, I, R, .refl _ _, .inr ⟨ps, q.map AK.k, b, h1, e4, e5, rfl⟩, opt_t r1⟩
  cases x with
  | dct kvs =>
    obtain ⟨a, ob, e, hn, h⟩ := rx
    simp only [dlk] at hd
    split at hd
    · rename_i c
      cases hd
      cases k with
      | a q =>
        rcases h with ⟨ps, h, r⟩ | ⟨ne, ps, h, r⟩
        · exact plainA rfl (.inr ⟨ob, h⟩) r rfl e
        · exact absurd (fits_a c.1 r).1 ne
      | t q =>
        rcases h with ⟨ps, h, r⟩ | ⟨ne, ps, h, r⟩
        · exact absurd (fits_t c.1 r).1 (c.2.elim id fun z => by simp [isAk] at z)
        · exact plainT rfl (.inr ⟨ob, h⟩) r rfl e
    · cases hd
  | ref n =>
    obtain ⟨a, e, ha⟩ := rx
    simp only [dlk] at hd
    split at hd
    · rename_i kvs es
      split at hd
      · rename_i c
        cases hd
        obtain ⟨a', ha', h1⟩ := R.at es
        rw [ha] at ha'; cases ha'
        cases k with
        | a q =>
          rcases h1 with ⟨ps, h, r⟩ | ⟨ps, h, r⟩
          · exact plainA rfl (.inl h) r rfl e
          · obtain ⟨rfl, rfl⟩ := fits_a c r
            have R1 := R.write (o := .dK []) (c := .dct []) ha (.inl ⟨[], upd_same, rfl⟩)
            rw [set_self es] at R1
            exact ⟨upd H a (.dK []), a, none, e, Inv.emptyK I h, R1, .cell ha h, .inl ⟨[], q.k, .inl upd_same, keyOf_a hk ry, rfl⟩, trivial⟩
        | t q =>
          rcases h1 with ⟨ps, h, r⟩ | ⟨ps, h, r⟩
          · obtain ⟨rfl, rfl⟩ := fits_t c r
            have R1 := R.write (o := .dT []) (c := .dct []) ha (.inr ⟨[], upd_same, rfl⟩)
            rw [set_self es] at R1
            obtain ⟨b, e4, e5⟩ := keyOf_t hk ry
            exact ⟨upd H a (.dT []), a, none, e, Inv.emptyT I h, R1, .cell ha h, .inr ⟨[], q.map AK.k, b, .inl upd_same, e4, by rw [upd_ne (ne_of e5 h fun z => nomatch z)]; exact e5, rfl⟩, trivial⟩
          · exact plainT rfl (.inl h) r rfl e
      · cases hd
    · rename_i kvs es
      split at hd
      · rename_i c
        cases hd
        obtain ⟨a', ha', ob, h1⟩ := R.at es
        rw [ha] at ha'; cases ha'
        cases k with
        | a q =>
          rcases h1 with ⟨ps, h, r⟩ | ⟨ps, h, r⟩
          · exact plainA rfl (.inr ⟨ob, h⟩) r rfl e
          · exact absurd (fits_a c.1 r).1 c.2
        | t q =>
          rcases h1 with ⟨ps, h, r⟩ | ⟨ps, h, r⟩
          · exact absurd (fits_t c.1 r).1 c.2
          · exact plainT rfl (.inr ⟨ob, h⟩) r rfl e
      · cases hd
    · cases hd
  | _ => simp [dlk] at hd
/-! ### in -/
def inL (f : AV → Option Bool) : List AV → Option Bool
  | [] => some false
  | y :: ys => match f y, inL f ys with
    | some a, some b => some (a || b)
    | _, _ => none
def inOf (S : Store) (x y : AV) : Option Bool := match seqOf S y with
  | some ys => inL (fun z => aeq false 60 S z x) ys
  | none => match y with
    | .str z => match x with
      | .str [c] => some (decide (c ∈ z))
      | _ => none
    | y => match keyOf x with
      | some k => (dlk S y k).map (·.isSome)
      | none => none
def opIn (x y : AV) (S : Store) : Res AV := match inOf S x y with
  | some b => .ok (.bl b) S
  | none => .stuck
def opNotIn (x y : AV) (S : Store) : Res AV := match inOf S x y with
  | some b => .ok (.bl (!b)) S
  | none => .stuck
theorem inL_at {f : AV → Option Bool} : ∀ {ys : List AV} {b : Bool}, inL f ys = some b → ∃ e : Nat → Bool, (∀ (j : Nat) y, ys[j]? = some y → f y = some (e j)) ∧ b = (List.range ys.length).any e
  | [], b, h => ⟨fun _ => false, fun j y h1 => by simp at h1, by simpa [inL] using h.symm⟩
  | y :: ys, b, h => by
    simp only [inL] at h
    split at h
    · rename_i a c ea ec
      cases h
      obtain ⟨e, h1, h2⟩ := inL_at ec
      refine ⟨fun j => match j with | 0 => a | j + 1 => e j, fun j x' e1 => ?_, ?_⟩
      · cases j with
        | zero => simp at e1; subst e1; exact ea
        | succ j => exact h1 j x' (by simpa using e1)
      · rw [h2, List.length_cons, List.range_succ_eq_map, List.any_cons, List.any_map]
        rfl
    · cases h
/-- each item against x: a test by values -/
theorem items_in {pins : List (Addr × Obj)} {σ : L2.St} {s : Shared} (I : L2.Inv X pins σ H s) (R : Rel X.K H ι g S) {A : Around} (hu : A.units + 60 < cLine) {x : AV} {u : V} {u' : Value} (rx : Rep X.K H ι x u) (qu : RelV u u')
    {ys : List AV} {vs : List V} {us : List Value} (ry : Reps X.K H ι ys vs) (qv : Vals vs us) {b : Bool} (h : inL (fun z => aeq false 60 S z x) ys = some b) :
    ∃ e : Value → Bool, (∀ y ∈ us, SeqAt.EqAt A s y u' (e y)) ∧ us.any e = b := by
  obtain ⟨f, h1, h2⟩ := inL_at h
  have hl : us.length = ys.length := by rw [← qv.length, ry.len]
  have at_ : ∀ (j : Nat) (hj : j < us.length), SeqAt.EqAt A s us[j] u' (f j) := fun j hj => by
    obtain ⟨y, v, e1, e2, e3, e4⟩ := ry.at qv hj
    exact eqAt_of_rcAt (aeq_runF I R 60 A hu y x v u _ _ _ (h1 j y e1) e3 rx e4 qu) (e3.nf e4) fun z => by
      rw [← z] at qu
      rw [RelV.inj e4 qu] at e3
      exact aeq_same (d := false) I R 60 y x u _ (h1 j y e1) e3 rx
  refine ⟨fun w => (List.range us.length).any fun j => (us[j]? == some w) && f j, fun y hy => ?_, ?_⟩
  · obtain ⟨i, hi, ei⟩ := List.getElem_of_mem hy
    cases c : (List.range us.length).any fun j => (us[j]? == some y) && f j with
    | true =>
      obtain ⟨j, hj, e⟩ := List.any_eq_true.mp c
      rw [Bool.and_eq_true] at e
      have hj' := List.mem_range.mp hj
      have e1 : us[j] = y := by
        have := eq_of_beq e.1
        rw [List.getElem?_eq_getElem hj'] at this
        exact Option.some.inj this
      have := at_ j hj'
      rw [e1, e.2] at this
      show SeqAt.EqAt A s y u' ((List.range us.length).any fun j => (us[j]? == some y) && f j)
      rw [c]
      exact this
    | false =>
      have hf : f i = false := by
        cases q : f i with
        | false => rfl
        | true =>
          have := List.any_eq_false.mp c i (List.mem_range.mpr hi)
          rw [List.getElem?_eq_getElem hi, ei, q] at this
          simp at this
      have := at_ i hi
      rw [ei, hf] at this
      show SeqAt.EqAt A s y u' ((List.range us.length).any fun j => (us[j]? == some y) && f j)
      rw [c]
      exact this
  · rw [h2, Bool.eq_iff_iff, List.any_eq_true, List.any_eq_true]
    constructor
    · rintro ⟨y, hy, c⟩
      obtain ⟨j, hj, e⟩ := List.any_eq_true.mp c
      rw [Bool.and_eq_true] at e
      exact ⟨j, by rw [← hl]; exact hj, e.2⟩
    · rintro ⟨j, hj, e⟩
      have hj' : j < us.length := by rw [hl]; exact List.mem_range.mp hj
      refine ⟨us[j], List.getElem_mem hj', List.any_eq_true.mpr ⟨j, List.mem_range.mpr hj', ?_⟩⟩
      rw [List.getElem?_eq_getElem hj', e]
      simp
theorem in_gen {op : CmpOp} (neg : Bool) (hop : (op = .In ∧ neg = false) ∨ (op = .NotIn ∧ neg = true)) (hu : X.A.units + 64 < cLine) :
    MO g EX X (compareOp op) fun x y S => match inOf S x y with | some b => .ok (.bl (if neg = true then !b else b)) S | none => .stuck := by
  rintro pins s σ H v u v' u' Q I rv ru ⟨ι, S, x, y, R, rx, ry, p⟩
  dsimp only at p
  split at p
  · rename_i b e
    unfold inOf at e
    split at e
    · rename_i ys ey
      obtain ⟨a, vs, rfl, h, r⟩ := R.seq ry ey
      cases ru
      have fin := p.now R _ rfl
      rcases h with h | h
      · obtain ⟨its, q, pl, _⟩ := I.list h
        obtain ⟨e', h1, h2⟩ := items_in I R (A := X.A.in1) (by show X.A.units + 1 + 60 < cLine; omega) rx rv r q e
        rcases hop with ⟨rfl, rfl⟩ | ⟨rfl, rfl⟩
        · exact SeqAt.in_listAt e' pl.isList (fun y hy => h1 y (by simpa using hy)) ⟨.bl _, H, I, by rw [← h2]; simp [L2.RelV], fin⟩
        · exact SeqAt.notIn_listAt e' pl.isList (fun y hy => h1 y (by simpa using hy)) ⟨.bl _, H, I, by rw [← h2]; simp [L2.RelV], fin⟩
      · obtain ⟨its, q, pl, _⟩ := I.tuple h
        obtain ⟨e', h1, h2⟩ := items_in I R (A := X.A.in1) (by show X.A.units + 1 + 60 < cLine; omega) rx rv r q e
        rcases hop with ⟨rfl, rfl⟩ | ⟨rfl, rfl⟩
        · exact SeqAt.in_tupleAt e' pl (fun y hy => h1 y (by simpa using hy)) ⟨.bl _, H, I, by rw [← h2]; simp [L2.RelV], fin⟩
        · exact SeqAt.notIn_tupleAt e' pl (fun y hy => h1 y (by simpa using hy)) ⟨.bl _, H, I, by rw [← h2]; simp [L2.RelV], fin⟩
    · split at e
      · split at e
        · rename_i z _ _ c
          cases e
          cases rx; cases ry
          have fin := p.now R _ rfl
          rcases hop with ⟨rfl, rfl⟩ | ⟨rfl, rfl⟩
          · refine op_in_sign pins s σ H _ _ v' u' Q I rv ru ⟨c, toS z, rfl, rfl, ?_⟩
            rw [show decide (c ∈ (toS z).cps.toList) = decide (c ∈ z) by rw [Bool.eq_iff_iff, decide_eq_true_iff, decide_eq_true_iff]; simp [toS]]
            exact fin
          · refine op_notIn_sign pins s σ H _ _ v' u' Q I rv ru ⟨c, toS z, rfl, rfl, ?_⟩
            rw [show decide (c ∈ (toS z).cps.toList) = decide (c ∈ z) by rw [Bool.eq_iff_iff, decide_eq_true_iff, decide_eq_true_iff]; simp [toS]]
            exact fin
        · cases e
      · split at e
        · rename_i k ek
          cases ed : dlk S y k with
          | none => rw [ed] at e; cases e
          | some o =>
            rw [ed] at e
            cases e
            obtain ⟨H1, a, o', rfl, J, R1, G1, dg, ro⟩ := dget_of I R ry rx ek ed
            cases ru
            have eo : o'.isSome = o.isSome := by
              cases o with
              | none => cases o' with
                | none => rfl
                | some w => exact (show False from ro).elim
              | some z => cases o' with
                | none => exact (show False from ro).elim
                | some w => rfl
            have fin := p.ok G1 R1
            rcases hop with ⟨rfl, rfl⟩ | ⟨rfl, rfl⟩
            · exact d_in (by omega) J dg rv fun s' J' => ⟨.bl _, H1, J', rfl, by rw [eo]; exact fin _ rfl⟩
            · exact d_notIn (by omega) J dg rv fun s' J' => ⟨.bl _, H1, J', rfl, by rw [eo]; exact fin _ rfl⟩
        · cases e
  · exact p.elim
theorem mo_in (hu : X.A.units + 64 < cLine) : MO g EX X (compareOp .In) opIn := by
  have h := in_gen (g := g) (EX := EX) (X := X) (op := .In) false (.inl ⟨rfl, rfl⟩) hu
  exact h
theorem mo_notIn (hu : X.A.units + 64 < cLine) : MO g EX X (compareOp .NotIn) opNotIn := by
  have h := in_gen (g := g) (EX := EX) (X := X) (op := .NotIn) true (.inr ⟨rfl, rfl⟩) hu
  exact h
end
end Mir
end

section
set_option Elab.async false
set_option linter.all false
set_option maxRecDepth 100000
set_option maxHeartbeats 1000000
/-! MirO: order. -/
namespace Mir
open PySem PySem.Spec PyProof.Rows L2 Ob

inductive CK where | lt | le | gt | ge
  deriving DecidableEq
def CK.op : CK → CmpOp
  | .lt => .Lt | .le => .LtE | .gt => .Gt | .ge => .GtE
def CK.int : CK → Int → Int → Bool
  | .lt, i, j => decide (i < j)
  | .le, i, j => decide (i ≤ j)
  | .gt, i, j => decide (j < i)
  | .ge, i, j => decide (j ≤ i)
def CK.str : CK → Sg → Sg → Bool
  | .lt, x, y => decide (x < y)
  | .le, x, y => !decide (y < x)
  | .gt, x, y => decide (y < x)
  | .ge, x, y => !decide (x < y)
def b01 (b : Bool) : Int := if b then 1 else 0
/-- the first pair that differs tells, else the lengths -/
def lexO (f r : AV → AV → Option Bool) (fin : Bool) : List AV → List AV → Option Bool
  | x :: xs, y :: ys => match f x y, lexO f r fin xs ys with
    | some true, some b => some b
    | some false, some _ => r x y
    | _, _ => none
  | _, _ => some fin
def acmp (k : CK) : Nat → Store → AV → AV → Option Bool
  | 0, _, _, _ => none
  | n + 1, S, x, y => match tupOf x, tupOf y with
    | some xs, some ys => lexO (aeq false n S) (acmp k n S) (k.int xs.length ys.length) xs ys
    | _, _ => match x, y with
      | .int i, .int j => some (k.int i j)
      | .str a, .str b => some (k.str a b)
      | .bl a, .bl b => some (k.int (b01 a) (b01 b))
      | _, _ => none
def opCmp (k : CK) (x y : AV) (S : Store) : Res AV := match acmp k 60 S x y with
  | some b => .ok (.bl b) S
  | none => .stuck

section
variable {K : PySem.W.Frag} {g : G} {EX : XK} {X : Cx} {H : Hp} {ι : List Addr} {S : Store}
theorem rc_int {A : Around} {s : Shared} (k : CK) (a b : Int) (t u : Tok) : RcOp k.op A s (.int a t) (.int b u) (k.int a b) := by
  cases k
  · exact RcOp.lt_int a b t u
  · exact RcOp.le_int a b t u
  · exact RcOp.gt_int a b t u
  · exact RcOp.ge_int a b t u
theorem toS_cps (x : Sg) : (toS x).cps.toList = x := by simp [toS]
theorem rc_str {A : Around} {s : Shared} (k : CK) (a b : Sg) (t u : Tok) : RcOp k.op A s (.str (toS a) t) (.str (toS b) u) (k.str a b) := by
  cases k <;> intro P w E Q q
  · exact PySem.P.lt_str (by rw [toS_cps, toS_cps]; exact q)
  · exact PySem.P.le_str (by rw [toS_cps, toS_cps]; exact q)
  · exact PySem.P.gt_str (by rw [toS_cps, toS_cps]; exact q)
  · exact PySem.P.ge_str (by rw [toS_cps, toS_cps]; exact q)
theorem b01_eq (b : Bool) : b2i b = b01 b := by cases b <;> rfl
theorem rc_bl {A : Around} {s : Shared} (k : CK) (a b : Bool) : RcOp k.op A s (.bool a) (.bool b) (k.int (b01 a) (b01 b)) := by
  cases k <;> intro P w E Q q
  · exact PyProof.Rows.lt_bool (by rw [b01_eq, b01_eq]; exact q)
  · exact PyProof.Rows.le_bool (by rw [b01_eq, b01_eq]; exact q)
  · exact PyProof.Rows.gt_bool (by rw [b01_eq, b01_eq]; exact q)
  · exact PyProof.Rows.ge_bool (by rw [b01_eq, b01_eq]; exact q)
theorem rc_tup {A : Around} {s : Shared} (k : CK) {l b : Addr} {us ws : Array Value} {e r : Nat → Bool} (hl : s.heap.IsTuple l us) (hb : s.heap.IsTuple b ws) (hu : A.units < cLine)
    (he : ∀ j (h1 : j < us.size) (h2 : j < ws.size), SeqAt.EqAt A.in1 s us[j] ws[j] (e j)) (hr : ∀ j (h1 : j < us.size) (h2 : j < ws.size), e j = false → RcOp k.op A.in1 s us[j] ws[j] (r j)) :
    RcOp k.op A s (.ref l) (.ref b) (lexAt e r (k.int us.size ws.size) 0 (min us.size ws.size)) := by
  cases k
  · have h := RcOp.tuples_lt hl hb hu he hr
    rw [show (CK.lt.int us.size ws.size) = decide (us.size < ws.size) by simp [CK.int]]; exact h
  · have h := RcOp.tuples_le hl hb hu he hr
    rw [show (CK.le.int us.size ws.size) = decide (us.size ≤ ws.size) by simp [CK.int]]; exact h
  · have h := RcOp.tuples_gt hl hb hu he hr
    rw [show (CK.gt.int us.size ws.size) = decide (us.size > ws.size) by simp [CK.int]]; exact h
  · have h := RcOp.tuples_ge hl hb hu he hr
    rw [show (CK.ge.int us.size ws.size) = decide (us.size ≥ ws.size) by simp [CK.int]]; exact h
theorem lexAt_shift (e r : Nat → Bool) (z : Bool) : ∀ (k i : Nat), lexAt (fun j => e (j + 1)) (fun j => r (j + 1)) z i k = lexAt e r z (i + 1) k
  | 0, _ => rfl
  | k + 1, i => by rw [lexAt_succ, lexAt_succ, lexAt_shift e r z k (i + 1)]
theorem lexO_at {f c : AV → AV → Option Bool} {z : Bool} : ∀ {xs ys : List AV} {b : Bool}, lexO f c z xs ys = some b →
    ∃ e r : Nat → Bool, (∀ (j : Nat) x y, xs[j]? = some x → ys[j]? = some y → f x y = some (e j)) ∧ (∀ (j : Nat) x y, xs[j]? = some x → ys[j]? = some y → e j = false → c x y = some (r j)) ∧ b = lexAt e r z 0 (min xs.length ys.length)
  | [], _, b, h => ⟨fun _ => true, fun _ => true, fun j x y h1 _ => by simp at h1, fun j x y h1 _ => by simp at h1, by simpa [lexO, lexAt] using h.symm⟩
  | x :: xs, [], b, h => ⟨fun _ => true, fun _ => true, fun j x y _ h2 => by simp at h2, fun j x y _ h2 => by simp at h2, by simpa [lexO, lexAt] using h.symm⟩
  | x :: xs, y :: ys, b, h => by
    simp only [lexO] at h
    split at h
    · rename_i b' e1 e2
      cases h
      obtain ⟨e, r, h1, h2, h3⟩ := lexO_at e2
      refine ⟨fun j => match j with | 0 => true | j + 1 => e j, fun j => match j with | 0 => true | j + 1 => r j, fun j x' y' a1 a2 => ?_, fun j x' y' a1 a2 a3 => ?_, ?_⟩
      · cases j with
        | zero => simp at a1 a2; subst a1 a2; exact e1
        | succ j => exact h1 j x' y' (by simpa using a1) (by simpa using a2)
      · cases j with
        | zero => simp at a3
        | succ j => exact h2 j x' y' (by simpa using a1) (by simpa using a2) a3
      · rw [h3, List.length_cons, List.length_cons, Nat.succ_min_succ, lexAt_succ, if_pos rfl]
        exact (lexAt_shift (fun j => match j with | 0 => true | j + 1 => e j) (fun j => match j with | 0 => true | j + 1 => r j) z _ 0)
    · rename_i b' e1 e2
      obtain ⟨e, r, h1, h2, h3⟩ := lexO_at e2
      refine ⟨fun j => match j with | 0 => false | j + 1 => e j, fun j => match j with | 0 => b | j + 1 => r j, fun j x' y' a1 a2 => ?_, fun j x' y' a1 a2 a3 => ?_, ?_⟩
      · cases j with
        | zero => simp at a1 a2; subst a1 a2; exact e1
        | succ j => exact h1 j x' y' (by simpa using a1) (by simpa using a2)
      · cases j with
        | zero => simp at a1 a2; subst a1 a2; exact h
        | succ j => exact h2 j x' y' (by simpa using a1) (by simpa using a2) a3
      · rw [List.length_cons, List.length_cons, Nat.succ_min_succ, lexAt_succ]
        simp
    · cases h
theorem acmp_run {pins : List (Addr × Obj)} {σ : L2.St} {s : Shared} (I : L2.Inv X pins σ H s) (R : Rel X.K H ι g S) (k : CK) : ∀ (n : Nat) (A : Around), A.units + n < cLine → ∀ (x y : AV) (v u : V) (v' u' : Value) (b : Bool),
    acmp k n S x y = some b → Rep X.K H ι x v → Rep X.K H ι y u → L2.RelV v v' → L2.RelV u u' → RcOp k.op A s v' u' b
  | 0, _, _, _, _, _, _, _, _, _, e, _, _, _, _ => by simp [acmp] at e
  | n + 1, A, hu, x, y, v, u, v', u', b, e, rx, ry, qv, qu => by
    have hu1 : A.units < cLine := by omega
    have hu2 : A.in1.units + n < cLine := by show A.units + 1 + n < cLine; omega
    unfold acmp at e
    split at e
    · rename_i xs ys ex ey
      obtain ⟨a, vs, rfl, h1, q1⟩ := rx.tup ex
      obtain ⟨a2, vs2, rfl, h2, q2⟩ := ry.tup ey
      cases qv; cases qu
      obtain ⟨its, r1, p1, _⟩ := I.tuple h1
      obtain ⟨its2, r2, p2, _⟩ := I.tuple h2
      obtain ⟨ee, rr, he, hr, hb⟩ := lexO_at e
      have l1 : its.toArray.size = xs.length := by rw [List.size_toArray, ← r1.length, q1.len]
      have l2 : its2.toArray.size = ys.length := by rw [List.size_toArray, ← r2.length, q2.len]
      rw [hb, ← l1, ← l2]
      refine rc_tup k p1 p2 hu1 (fun j h1 h2 => ?_) fun j h1 h2 hf => ?_
      · obtain ⟨x, v, a1, a2, a3, a4⟩ := q1.at r1 (by simpa using h1)
        obtain ⟨y, u, b1, b2, b3, b4⟩ := q2.at r2 (by simpa using h2)
        have := eqAt_of_rcAt (aeq_runF I R n A.in1 hu2 x y v u _ _ _ (he j x y a1 b1) a3 b3 a4 b4) (a3.nf a4) fun z => by
          rw [← z] at b4
          rw [L2.RelV.inj b4 a4] at b3
          exact aeq_same (d := false) I R n x y v _ (he j x y a1 b1) a3 b3
        simpa using this
      · obtain ⟨x, v, a1, a2, a3, a4⟩ := q1.at r1 (by simpa using h1)
        obtain ⟨y, u, b1, b2, b3, b4⟩ := q2.at r2 (by simpa using h2)
        simpa using acmp_run I R k n A.in1 hu2 x y v u _ _ _ (hr j x y a1 b1 hf) a3 b3 a4 b4
    · split at e
      · cases e; cases rx; cases ry; obtain ⟨_, rfl⟩ := qv; obtain ⟨_, rfl⟩ := qu
        exact rc_int k _ _ _ _
      · cases e; cases rx; cases ry; obtain ⟨_, rfl⟩ := qv; obtain ⟨_, rfl⟩ := qu
        exact rc_str k _ _ _ _
      · cases e; cases rx; cases ry; cases qv; cases qu
        exact rc_bl k _ _
      · cases e
theorem mo_ord (k : CK) (hu : X.A.units + 64 < cLine) : MO g EX X (compareOp k.op) (opCmp k) := by
  rintro pins s σ H v u v' u' Q I rv ru ⟨ι, S, x, y, R, rx, ry, p⟩
  unfold opCmp at p
  split at p
  · rename_i b e
    have h := acmp_run I R k 60 X.A (by omega) x y v u v' u' b e rx ry rv ru X.prog X.w X.xe _ (show EP X pins σ Q (.bool b) s from ⟨.bl b, H, I, rfl, p.now R _ rfl⟩)
    cases k <;> exact h
  · exact p.elim
theorem mo_lt (hu : X.A.units + 64 < cLine) : MO g EX X (compareOp .Lt) (opCmp .lt) := mo_ord .lt hu
theorem mo_le (hu : X.A.units + 64 < cLine) : MO g EX X (compareOp .LtE) (opCmp .le) := mo_ord .le hu
theorem mo_gt (hu : X.A.units + 64 < cLine) : MO g EX X (compareOp .Gt) (opCmp .gt) := mo_ord .gt hu
theorem mo_ge (hu : X.A.units + 64 < cLine) : MO g EX X (compareOp .GtE) (opCmp .ge) := mo_ord .ge hu

/-! ### is None; truth -/
def opIsN (x y : AV) (S : Store) : Res AV := match y with
  | .non => match x with
    | .non => .ok (.bl true) S
    | _ => .ok (.bl false) S
  | _ => .stuck
def opNotN (x y : AV) (S : Store) : Res AV := match y with
  | .non => match x with
    | .non => .ok (.bl false) S
    | _ => .ok (.bl true) S
  | _ => .stuck
theorem non_iff {x : AV} {v : V} (r : Rep K H ι x v) : v = .non ↔ x = .non := by
  constructor
  · intro h
    subst h
    cases x with
    | non => rfl
    | bl _ => cases r
    | int _ => cases r
    | str _ => cases r
    | tup _ => obtain ⟨_, _, h, _⟩ := r; cases h
    | ktp _ => obtain ⟨_, _, h, _⟩ := r; cases h
    | lst _ => obtain ⟨_, _, h, _⟩ := r; cases h
    | kst _ => obtain ⟨_, _, h, _⟩ := r; cases h
    | dct _ => obtain ⟨_, _, h, _⟩ := r; cases h
    | ref _ => obtain ⟨_, h, _⟩ := r; cases h
    | clo _ => exact r.elim
  · intro h
    subst h
    exact r
theorem mo_isN : MO g EX X (compareOp .Is) opIsN := by
  refine OpR.by fun v u H Q ⟨ι, S, x, y, R, rx, ry, p⟩ => ?_
  refine ⟨_, op_isN, ?_⟩
  have n := non_iff rx
  cases y with
  | non =>
    cases ry
    refine ⟨rfl, ?_⟩
    cases x with
    | non => rw [decide_eq_true (n.mpr rfl)]; exact p.now R _ rfl
    | _ => rw [decide_eq_false (fun z => nomatch n.mp z)]; exact p.now R _ rfl
  | _ => exact p.elim
theorem mo_notN : MO g EX X (compareOp .IsNot) opNotN := by
  refine OpR.by fun v u H Q ⟨ι, S, x, y, R, rx, ry, p⟩ => ?_
  refine ⟨_, op_notN, ?_⟩
  have n := non_iff rx
  cases y with
  | non =>
    cases ry
    refine ⟨rfl, ?_⟩
    cases x with
    | non => rw [decide_eq_true (n.mpr rfl)]; exact p.now R _ rfl
    | _ => rw [decide_eq_false (fun z => nomatch n.mp z)]; exact p.now R _ rfl
  | _ => exact p.elim
/-- truth -/
def tru (S : Store) : AV → Option Bool
  | .non => some false
  | .bl b => some b
  | .int i => some (i != 0)
  | .str x => if x.length ≤ szL then some (!x.isEmpty) else none
  | .dct _ => none
  | .clo _ => none
  | x => match seqOf S x with
    | some xs => some (!xs.isEmpty)
    | none => match x with
      | .ref n => match S[n]? with
        | some (.dct kvs) => if allA kvs = true then some (!kvs.isEmpty) else none
        | _ => none
      | _ => none
theorem isEmpty_len {xs : List AV} {vs : List V} (r : Reps K H ι xs vs) : vs.isEmpty = xs.isEmpty := by
  cases xs with
  | nil => rw [show vs = [] from r]; rfl
  | cons x xs => obtain ⟨v, ws, e, _⟩ := r; rw [e]; rfl
theorem RepT.len : ∀ {kvs : List (DK × AV)} {ps : List (List Key × V)}, RepT K H ι kvs ps → ps.length = kvs.length
  | [], _, h => by rw [show _ = [] from h]; rfl
  | (k, x) :: r, _, ⟨q, v, qs, e, e2, _, h⟩ => by rw [e2, List.length_cons, List.length_cons, RepT.len h]
/-- the heap may be read in another way for this -/
theorem tru_run {pins : List (Addr × Obj)} {σ : L2.St} {s : Shared} {A : Around} {E : Value → Shared → Prop} {Q : Bool → Shared → Prop} (I : L2.Inv X pins σ H s) (R : Rel X.K H ι g S) {x : AV} {v : V} {v' : Value} {b : Bool} (rx : Rep X.K H ι x v) (rv : L2.RelV v v') (h : tru S x = some b)
    (q : ∀ s' H', L2.Inv X pins σ H' s' → Rel X.K H' ι g S → Grow ι H ι H' → Q b s') (hA : A = X.A) (hE : E = X.xe) : wpAny (model X.prog X.w) A (truthy v') Q E s := by
  subst hA hE
  have byV : ∀ k, TruV X.K v H k → k = b → wpAny (model X.prog X.w) X.A (truthy v') Q X.xe s := fun k t e => by
    subst e
    exact thn (tru_ok pins s σ H v v' (fun c H2 => c = k ∧ H2 = H) I rv ⟨k, t, rfl, rfl⟩) fun c s2 ⟨H2, I2, e1, e2⟩ => by
      subst e1 e2
      exact q s2 H2 I2 R (.refl _ _)
  have seq : ∀ xs, seqOf S x = some xs → b = !xs.isEmpty → wpAny (model X.prog X.w) X.A (truthy v') Q X.xe s := fun xs e eb => by
    obtain ⟨a, vs, rfl, h1, r⟩ := R.seq rx e
    rcases h1 with h1 | h1
    · exact byV _ (.inl ⟨vs, h1, rfl⟩) (by rw [isEmpty_len r, eb])
    · exact byV _ (.inr (.inl ⟨vs, h1, rfl⟩)) (by rw [isEmpty_len r, eb])
  cases x with
  | non => cases rx; exact byV false rfl (by simpa [tru] using h)
  | bl c => cases rx; exact byV c rfl (by simpa [tru] using h)
  | int i => cases rx; exact byV _ rfl (by simpa [tru] using h)
  | str z =>
    cases rx
    simp only [tru] at h
    split at h
    · rename_i hl
      cases h
      refine byV _ ⟨by rw [toS_len]; exact hl, rfl⟩ ?_
      rw [toS_len]
      cases z with
      | nil => rfl
      | cons c r =>
        show ((((c :: r).length : Nat) : Int) != 0) = true
        rw [bne_iff_ne, List.length_cons]
        omega
    · cases h
  | dct _ => simp [tru] at h
  | clo _ => exact rx.elim
  | ref n =>
    simp only [tru] at h
    split at h
    · rename_i xs e
      exact seq xs e (Option.some.inj h).symm
    · split at h
      · rename_i kvs es
        split at h
        case isFalse => cases h
        rename_i hk
        cases h
        obtain ⟨a, e, ha⟩ := rx
        obtain ⟨a', ha', h1⟩ := R.at es
        rw [ha] at ha'; cases ha'
        subst e
        rcases h1 with ⟨ps, h1, r1⟩ | ⟨ps, h1, r1⟩
        · exact byV _ (.inr (.inr ⟨ps, h1, rfl⟩)) (by have := r1.len; cases ps <;> cases kvs <;> simp_all)
        · obtain ⟨rfl, rfl⟩ := r1.nil hk
          have R1 := R.write (o := .dK []) (c := .dct []) ha (.inl ⟨[], upd_same, rfl⟩)
          rw [set_self es] at R1
          have J := Inv.emptyK I h1
          exact thn (tru_ok pins s σ _ (.ref a) v' (fun c H2 => c = false ∧ H2 = upd H a (.dK [])) J rv ⟨false, .inr (.inr ⟨[], upd_same, rfl⟩), rfl, rfl⟩) fun c s2 ⟨H2, I2, e1, e2⟩ => by
            subst e1 e2
            exact q s2 _ I2 R1 (.cell ha h1)
      · cases h
  | tup xs => exact seq xs rfl (by simpa [tru, seqOf] using h.symm)
  | ktp xs => exact seq xs rfl (by simpa [tru, seqOf] using h.symm)
  | lst xs => exact seq xs rfl (by simpa [tru, seqOf, lstOf] using h.symm)
  | kst xs => exact seq xs rfl (by simpa [tru, seqOf] using h.symm)
end
end Mir
end

section
set_option Elab.async false
set_option linter.all false
set_option maxRecDepth 100000
set_option maxHeartbeats 1000000
/-! MirS: tests, displays, statements, defs. -/
namespace Mir
open PySem PySem.Spec PyProof.Rows L2

/-- truth of what is no dict -/
def tru0 (S : Store) : AV → Option Bool
  | .non => some false
  | .bl b => some b
  | .int i => some (i != 0)
  | .str x => if x.length ≤ szL then some (!x.isEmpty) else none
  | .dct _ => none
  | .clo _ => none
  | x => match seqOf S x with
    | some xs => some (!xs.isEmpty)
    | none => none
def eAnd (a b : EM) : EM := fun Λ S => (a Λ S).bind fun x S1 => match tru0 S1 x with
  | some true => b Λ S1
  | some false => .ok x S1
  | none => .stuck
def eOr (a b : EM) : EM := fun Λ S => (a Λ S).bind fun x S1 => match tru0 S1 x with
  | some true => .ok x S1
  | some false => b Λ S1
  | none => .stuck
def opNot (x : AV) (S : Store) : Res AV := match tru0 S x with
  | some b => .ok (.bl (!b)) S
  | none => .stuck
def tTru (a : EM) : TM := fun Λ S => (a Λ S).bind fun x S1 => match tru S1 x with
  | some b => .ok b S1
  | none => .stuck

section
variable {K : PySem.W.Frag} {g : G} {EX : XK} {X : Cx} {H : Hp} {ι : List Addr} {S : Store}
theorem truV_of (R : Rel K H ι g S) {x : AV} {v : V} {b : Bool} (rx : Rep K H ι x v) (h : tru0 S x = some b) : TruV K v H b := by
  have seq : ∀ xs, seqOf S x = some xs → b = !xs.isEmpty → TruV K v H b := fun xs e eb => by
    obtain ⟨a, vs, rfl, h1, r⟩ := R.seq rx e
    subst eb
    rcases h1 with h1 | h1
    · exact .inl ⟨vs, h1, by rw [isEmpty_len r]⟩
    · exact .inr (.inl ⟨vs, h1, by rw [isEmpty_len r]⟩)
  cases x with
  | non => cases rx; cases h; rfl
  | bl c => cases rx; cases h; rfl
  | int i => cases rx; cases h; rfl
  | str z =>
    cases rx
    simp only [tru0] at h
    split at h
    · rename_i hl
      cases h
      refine ⟨by rw [toS_len]; exact hl, ?_⟩
      rw [toS_len]
      cases z with
      | nil => rfl
      | cons c r =>
        show true = ((((c :: r).length : Nat) : Int) != 0)
        symm
        rw [bne_iff_ne, List.length_cons]
        omega
    · cases h
  | dct _ => simp [tru0] at h
  | clo _ => exact rx.elim
  | ref n =>
    simp only [tru0] at h
    split at h
    · rename_i xs e
      exact seq xs e (Option.some.inj h).symm
    · cases h
  | tup xs => exact seq xs rfl (by simpa [tru0, seqOf] using h.symm)
  | ktp xs => exact seq xs rfl (by simpa [tru0, seqOf] using h.symm)
  | lst xs => exact seq xs rfl (by simpa [tru0, seqOf, lstOf] using h.symm)
  | kst xs => exact seq xs rfl (by simpa [tru0, seqOf] using h.symm)
variable {a b c e : Expr} {A B C : EM} {TA TB : TM} {pos : Pos} {rest : List Expr} {k : Nat}
theorem me_andV (ha : ME g EX X a A) (hb : ME g EX X (.BoolOp .And (b :: rest) pos) B) : ME g EX X (.BoolOp .And (a :: b :: rest) pos) (eAnd A B) := by
  refine PE.imp (pe_andT ha hb) fun σ H Q ⟨ι, Λ, S, R, E, p⟩ => ⟨ι, Λ, S, R, E, p.bind.mono fun x ι1 S1 H1 G1 R1 ⟨_, p1⟩ v r => ?_⟩
  split at p1
  · rename_i h
    exact ⟨true, truV_of R1 r h, (if_pos rfl).mpr ⟨ι1, Λ, S1, R1, E.mono G1, p1⟩⟩
  · rename_i h
    exact ⟨false, truV_of R1 r h, (if_neg (by decide)).mpr (p1.now R1 v r)⟩
  · exact p1.elim
theorem me_orV (ha : ME g EX X a A) (hb : ME g EX X (.BoolOp .Or (b :: rest) pos) B) : ME g EX X (.BoolOp .Or (a :: b :: rest) pos) (eOr A B) := by
  refine PE.imp (pe_orT ha hb) fun σ H Q ⟨ι, Λ, S, R, E, p⟩ => ⟨ι, Λ, S, R, E, p.bind.mono fun x ι1 S1 H1 G1 R1 ⟨_, p1⟩ v r => ?_⟩
  split at p1
  · rename_i h
    exact ⟨true, truV_of R1 r h, (if_pos rfl).mpr (p1.now R1 v r)⟩
  · rename_i h
    exact ⟨false, truV_of R1 r h, (if_neg (by decide)).mpr ⟨ι1, Λ, S1, R1, E.mono G1, p1⟩⟩
  · exact p1.elim
theorem me_one {op} (h : ME g EX X a A) : ME g EX X (.BoolOp op [a] pos) A := pe_one h
theorem me_notV (ha : ME g EX X a A) : ME g EX X (.UnaryOp .Not a pos) (eUn opNot A) := by
  refine PE.imp (pe_notT ha) fun σ H Q ⟨ι, Λ, S, R, E, p⟩ => ⟨ι, Λ, S, R, E, p.bind.mono fun x ι1 S1 H1 G1 R1 ⟨_, p1⟩ v r => ?_⟩
  unfold opNot at p1
  split at p1
  · rename_i h
    exact ⟨_, truV_of R1 r h, p1.now R1 _ rfl⟩
  · exact p1.elim
theorem me_if (ht : MT g EX X c TA) (ha : ME g EX X a A) (hb : ME g EX X b B) : ME g EX X (.IfExp c a b pos) (eIf TA A B) := by
  refine PE.imp (pe_ifExp ht ha hb) fun σ H Q ⟨ι, Λ, S, R, E, p⟩ => ⟨ι, Λ, S, R, E, p.bind.mono fun t ι1 S1 H1 G1 R1 ⟨_, p1⟩ => ?_⟩
  cases t with
  | true => exact (if_pos rfl).mpr ⟨ι1, Λ, S1, R1, E.mono G1, p1⟩
  | false => exact (if_neg (by decide)).mpr ⟨ι1, Λ, S1, R1, E.mono G1, p1⟩
theorem me_chain {op op' : CmpOp} {f f' : AV → AV → Store → Res AV} (ho : MO g EX X (compareOp op) f) (ho' : MO g EX X (compareOp op') f') (ha : ME g EX X a A) (hb : ME g EX X b B) (hc : ME g EX X c C)
    (hm : lastMarks [op, op'] [b, c] = false := by with_unfolding_all rfl) : ME g EX X (.Compare a [op, op'] [b, c] pos) (eChain f f' A B C) := by
  refine PE.imp (pe_chain ho ho' ha hb hc hm) fun σ H Q ⟨ι, Λ, S, R, E, p⟩ => ⟨ι, Λ, S, R, E, p.bind.mono fun x ι1 S1 H1 G1 R1 ⟨_, p1⟩ v r => ?_⟩
  refine ⟨ι1, Λ, S1, R1, E.mono G1, p1.bind.mono fun y ι2 S2 H2 G2 R2 ⟨_, p2⟩ u r2 => ?_⟩
  refine ⟨ι2, S2, x, y, R2, Rep.mono G2 x v r, r2, p2.bind.mono fun z ι3 S3 H3 G3 R3 ⟨_, p3⟩ w r3 => ?_⟩
  cases z with
  | bl t =>
    cases r3
    refine ⟨t, rfl, ?_⟩
    cases t with
    | true => exact (if_pos rfl).mpr ⟨ι3, Λ, S3, R3, E.mono (G1.trans (G2.trans G3)), p3.bind.mono fun q ι4 S4 H4 G4 R4 ⟨_, p4⟩ w r4 => ⟨ι4, S4, y, q, R4, Rep.mono (G3.trans G4) y u r2, r4, p4⟩⟩
    | false => exact (if_neg (by decide)).mpr (p3.now R3 _ rfl)
  | _ => exact p3.elim
theorem mt_chain {op op' : CmpOp} {f f' : AV → AV → Store → Res AV} (ho : MO g EX X (compareOp op) f) (ho' : MO g EX X (compareOp op') f') (ha : ME g EX X a A) (hb : ME g EX X b B) (hc : ME g EX X c C)
    (hm : lastMarks [op, op'] [b, c] = false := by with_unfolding_all rfl) : MT g EX X (.Compare a [op, op'] [b, c] pos) (tVal (eChain f f' A B C)) := by
  refine PT.imp (pt_chain ho ho' ha hb hc hm) fun σ H Q ⟨ι, Λ, S, R, E, p⟩ => ⟨ι, Λ, S, R, E, ?_⟩
  have p' := p.bind (m := eChain f f' A B C Λ S)
  unfold eChain at p'
  refine p'.bind.mono fun x ι1 S1 H1 G1 R1 ⟨_, p1⟩ v r => ?_
  refine ⟨ι1, Λ, S1, R1, E.mono G1, p1.bind.mono fun y ι2 S2 H2 G2 R2 ⟨_, p2⟩ u r2 => ?_⟩
  refine ⟨ι2, S2, x, y, R2, Rep.mono G2 x v r, r2, p2.bind.mono fun z ι3 S3 H3 G3 R3 ⟨_, p3⟩ w r3 => ?_⟩
  cases z with
  | bl t =>
    cases r3
    refine ⟨t, rfl, ?_⟩
    cases t with
    | true =>
      refine (if_pos rfl).mpr ⟨ι3, Λ, S3, R3, E.mono (G1.trans (G2.trans G3)), p3.bind.mono fun q ι4 S4 H4 G4 R4 ⟨_, p4⟩ w r4 => ⟨ι4, S4, y, q, R4, Rep.mono (G3.trans G4) y u r2, r4, p4.mono fun z5 ι5 S5 H5 G5 R5 ⟨_, p5⟩ w5 r5 => ?_⟩⟩
      cases z5 with
      | bl t5 => exact ⟨t5, r5, p5.now R5⟩
      | _ => exact p5.elim
    | false =>
      have := p3.now R3
      exact (if_neg (by decide)).mpr ⟨false, rfl, this.2.now R3⟩
  | _ => exact p3.elim
theorem mt_val (ha : ME g EX X a A) (he : ∀ whole, isTrue a X.env whole = (do let v ← whole; standAt a.pos; holding [v] (truthy v)) := by intro _; rfl) : MT g EX X a (tTru A) := by
  refine ⟨fun pins s σ H Q I ⟨ι, Λ, S, R, E, p⟩ => isTrue_plain (thn (ha.run pins s σ H (fun v H1 => ∃ x ι1 S1, Rel X.K H1 ι1 g S1 ∧ Rep X.K H1 ι1 x v ∧ Post X.K g EX ι1 H1 (match tru S1 x with | some b => Res.ok b S1 | none => .stuck) fun b _ _ H' => Q b H') I
    ⟨ι, Λ, S, R, E, p.bind.mono fun x ι1 S1 H1 G1 R1 ⟨_, p1⟩ v r => ⟨x, ι1, S1, R1, r, p1⟩⟩) fun v' s1 ⟨v, H1, I1, rv, x, ι1, S1, R1, r, p1⟩ => ?_) (he _)⟩
  split at p1
  · rename_i t ht
    exact tru_run I1 R1 r rv ht (fun s2 H2 I2 R2 G2 => ⟨H2, I2, p1.ok G2 R2⟩) rfl rfl
  · exact p1.elim
theorem mw_and1 (ha : MT g EX X a TA) : MW g EX X (.BoolOp .And [a] pos) TA := pw_and1 ha
theorem mw_or1 (ha : MT g EX X a TA) : MW g EX X (.BoolOp .Or [a] pos) TA := pw_or1 ha
theorem mw_and (ha : MT g EX X a TA) (hb : MW g EX X (.BoolOp .And (b :: rest) pos) TB) : MW g EX X (.BoolOp .And (a :: b :: rest) pos) (tAnd TA TB) := by
  refine PW.imp (pw_and ha hb) fun σ H Q ⟨ι, Λ, S, R, E, p⟩ => ⟨ι, Λ, S, R, E, p.bind.mono fun t ι1 S1 H1 G1 R1 ⟨_, p1⟩ => ?_⟩
  cases t with
  | true => exact (if_pos rfl).mpr ⟨ι1, Λ, S1, R1, E.mono G1, p1⟩
  | false => exact (if_neg (by decide)).mpr (p1.now R1)
theorem mw_or (ha : MT g EX X a TA) (hb : MW g EX X (.BoolOp .Or (b :: rest) pos) TB) : MW g EX X (.BoolOp .Or (a :: b :: rest) pos) (tOr TA TB) := by
  refine PW.imp (pw_or ha hb) fun σ H Q ⟨ι, Λ, S, R, E, p⟩ => ⟨ι, Λ, S, R, E, p.bind.mono fun t ι1 S1 H1 G1 R1 ⟨_, p1⟩ => ?_⟩
  cases t with
  | true => exact (if_pos rfl).mpr (p1.now R1)
  | false => exact (if_neg (by decide)).mpr ⟨ι1, Λ, S1, R1, E.mono G1, p1⟩
theorem mt_w (h : MW g EX X a TA) : MT g EX X a TA := PW.pt h
theorem mt_not (ha : MT g EX X a TA) : MT g EX X (.UnaryOp .Not a pos) (tNot TA) :=
  PT.imp (pt_not ha) fun σ H Q ⟨ι, Λ, S, R, E, p⟩ => ⟨ι, Λ, S, R, E, p.bind.mono fun t ι1 S1 H1 G1 R1 ⟨_, p1⟩ => p1.now R1⟩

/-! ### argument lists, displays -/
variable {es : List Expr} {F : AM}
theorem ma_nil : MA g EX X [] aNil := PA.imp pa_nil fun σ H Q ⟨ι, Λ, S, R, E, p⟩ => p.now R [] rfl
theorem ma_cons (ha : ME g EX X a A) (hr : MA g EX X es F) (hs : starEach (a :: es) X.env = (false, eval a X.env) :: starEach es X.env := by rfl) : MA g EX X (a :: es) (aCons A F) :=
  PA.imp (pa_cons ha hr hs) fun σ H Q ⟨ι, Λ, S, R, E, p⟩ => ⟨ι, Λ, S, R, E, p.bind.mono fun x ι1 S1 H1 G1 R1 ⟨_, p1⟩ v r =>
    ⟨ι1, Λ, S1, R1, E.mono G1, p1.bind.mono fun xs ι2 S2 H2 G2 R2 ⟨_, p2⟩ vs r2 => p2.now R2 (v :: vs) ⟨v, vs, rfl, Rep.mono G2 x v r, r2⟩⟩⟩
theorem me_tup {x1} (h : MA g EX X es F) : ME g EX X (.Tuple es x1 pos) (eTup F) := by
  refine PE.imp (pe_tup h) fun σ H Q ⟨ι, Λ, S, R, E, p⟩ => ⟨ι, Λ, S, R, E, p.bind.mono fun xs ι1 S1 H1 G1 R1 ⟨_, p1⟩ vs r => ?_⟩
  split at p1
  · rename_i hl
    exact ⟨by rw [r.len]; exact hl, fun q hq => p1.ok (.fresh hq) (R1.fresh hq) _ (R1.newTup hq r)⟩
  · exact p1.elim
theorem me_lstF (h : MA g EX X es F) : ME g EX X (.List es pos) (eLstF F) := by
  refine PE.imp (pe_lst h) fun σ H Q ⟨ι, Λ, S, R, E, p⟩ => ⟨ι, Λ, S, R, E, p.bind.mono fun xs ι1 S1 H1 G1 R1 ⟨_, p1⟩ vs r => ?_⟩
  split at p1
  · rename_i hl
    exact ⟨by rw [r.len]; exact hl, fun q hq => p1.ok (.fresh hq) (R1.fresh hq) _ (R1.newLst hq r)⟩
  · exact p1.elim
theorem Rel.newRef (R : Rel K H ι g S) {p : Addr} {c : Cell} {o : HO} (hp : H p = none) (hc : CellR K (upd H p o) (ι ++ [p]) g c p) : Grow ι H (ι ++ [p]) (upd H p o) ∧ Rel K (upd H p o) (ι ++ [p]) g (S ++ [c]) ∧ Rep K (upd H p o) (ι ++ [p]) (.ref S.length) (.ref p) :=
  ⟨.alloc R hp, R.alloc hp hc, p, rfl, by rw [← R.len, List.getElem?_append_right (Nat.le_refl _)]; simp⟩
theorem me_lstR (h : MA g EX X es F) : ME g EX X (.List es pos) (eLstR F) := by
  refine PE.imp (pe_lst h) fun σ H Q ⟨ι, Λ, S, R, E, p⟩ => ⟨ι, Λ, S, R, E, p.bind.mono fun xs ι1 S1 H1 G1 R1 ⟨_, p1⟩ vs r => ?_⟩
  split at p1
  · rename_i hl
    refine ⟨by rw [r.len]; exact hl, fun q hq => ?_⟩
    obtain ⟨G2, R2, r2⟩ := R1.newRef (o := .lst vs) (c := .lst xs) hq ⟨vs, upd_same, Reps.mono (Grow.alloc R1 hq) xs vs r⟩
    exact p1.ok G2 R2 _ r2
  · exact p1.elim

/-! ### statements -/
variable {st : Stmt} {sts : List Stmt} {M N : SM}
theorem mss_nil : MSs g EX X [] sNext := PSs.imp pss_nil fun D σ H ⟨ι, Λ, S, R, E, p⟩ => p ι H σ (.refl _ _) R E
theorem seq_split {K : PySem.W.Frag} {D : Ends} {r : SRes} {k : SM} (h : SPost K g EX ι H (r.seq k) D) : SPost K g EX ι H r { D with nx := xS K g EX k D } := by
  cases r with
  | nx Λ S => exact fun ι' H' σ' G R E => ⟨ι', Λ, S, R, E, SPost.grow G h⟩
  | bk Λ S => exact h
  | ct Λ S => exact h
  | rt v S => exact h
  | exc c S => exact h
  | stuck => exact h
theorem mss_cons (h1 : MS g EX X st M) (h2 : MSs g EX X sts N) : MSs g EX X (st :: sts) (sSeq M N) :=
  PSs.imp (pss_cons h1 h2) fun D σ H ⟨ι, Λ, S, R, E, p⟩ => ⟨ι, Λ, S, R, E, seq_split p⟩
theorem mss_one (h : MS g EX X st M) : MSs g EX X [st] M := pss_one h
theorem ms_doc {x j pos pos'} : MS g EX X (.Expr (.Constant (.str x) j pos) pos') sNext := PS.imp ps_doc fun D σ H ⟨ι, Λ, S, R, E, p⟩ => p ι H σ (.refl _ _) R E
theorem ms_pass : MS g EX X (.Pass pos) sNext := PS.imp ps_pass fun D σ H ⟨ι, Λ, S, R, E, p⟩ => p ι H σ (.refl _ _) R E
theorem ms_break : MS g EX X (.Break pos) sBreak := PS.imp ps_break fun D σ H ⟨ι, Λ, S, R, E, p⟩ => p ι H σ (.refl _ _) R E
theorem ms_cont : MS g EX X (.Continue pos) sCont := PS.imp ps_continue fun D σ H ⟨ι, Λ, S, R, E, p⟩ => p ι H σ (.refl _ _) R E
theorem ms_expr (he : ME g EX X e A) (hs : swapsWith e none pos.line X.env = pure false := by rfl) : MS g EX X (.Expr e pos) (sDrop A) := by
  refine PS.imp (ps_expr he hs) fun D σ H ⟨ι, Λ, S, R, E, p⟩ => ⟨ι, Λ, S, R, E, (Post.sbind p).mono fun x ι1 S1 H1 G1 R1 p1 v r => ?_⟩
  exact p1 ι1 H1 σ (.refl _ _) R1 (E.mono G1)
theorem ms_ret (he : ME g EX X e A) : MS g EX X (.Return (some e) pos) (sRet A) := by
  refine PS.imp (ps_ret he) fun D σ H ⟨ι, Λ, S, R, E, p⟩ => ⟨ι, Λ, S, R, E, (Post.sbind p).mono fun x ι1 S1 H1 G1 R1 p1 v r => ?_⟩
  exact p1 ι1 H1 v (.refl _ _) R1 r
theorem ms_retN : MS g EX X (.Return none pos) sRetN := PS.imp ps_retN fun D σ H ⟨ι, Λ, S, R, E, p⟩ => p ι H .non (.refl _ _) R rfl
theorem ms_if {as bs : List Stmt} (hc : MT g EX X c TA) (ha : MSs g EX X as M) (hb : MSs g EX X bs N) : MS g EX X (.If c as bs pos) (sIf TA M N) := by
  refine PS.imp (ps_if hc ha hb) fun D σ H ⟨ι, Λ, S, R, E, p⟩ => ⟨ι, Λ, S, R, E, (Post.sbind p).mono fun t ι1 S1 H1 G1 R1 p1 => ?_⟩
  cases t with
  | true => exact (if_pos rfl).mpr ⟨ι1, Λ, S1, R1, E.mono G1, p1⟩
  | false => exact (if_neg (by decide)).mpr ⟨ι1, Λ, S1, R1, E.mono G1, p1⟩
/-! targets -/
theorem mg_name {i : Nat} {x : Str} (h : PG X (.Name x pos) (L2.gName i)) : MG g X (.Name x pos) (gName i) :=
  ⟨fun pins s σ H v u Q I r ⟨ι, Λ, S, y, R, E, ry, p⟩ => h.run pins s σ H v u Q I r (p ι H _ (.refl _ _) R (E.set i ry))⟩
def MGs (g : G) (X : Cx) (ts : List Expr) (F : GMs) : Prop := PGs X ts fun vs σ H Q => ∃ ι Λ S xs, Rel X.K H ι g S ∧ REnv X.K H ι Λ σ ∧ Reps X.K H ι xs vs ∧ match F xs Λ S with
  | .nx Λ' S' => ∀ ι' H' σ', Grow ι H ι' H' → Rel X.K H' ι' g S' → REnv X.K H' ι' Λ' σ' → Q σ' H'
  | _ => False
theorem mgs_nil : MGs g X [] gNil := ⟨fun pins s σ H vs us Q I r ⟨ι, Λ, S, xs, R, E, rx, p⟩ => by
  cases xs with
  | nil =>
    have e : vs = [] := rx
    exact pgs_nil.run pins s σ H vs us Q I r ⟨e, p ι H σ (.refl _ _) R E⟩
  | cons x xs => exact p.elim⟩
theorem mgs_cons {t : Expr} {ts : List Expr} {P : GM} {Q : GMs} (h1 : MG g X t P) (h2 : MGs g X ts Q) (hs : (assignEach (t :: ts) X.env).map (·.2) = assign t X.env :: (assignEach ts X.env).map (·.2) := by rfl) : MGs g X (t :: ts) (gCons P Q) := ⟨fun pins s σ H vs us W I r ⟨ι, Λ, S, xs, R, E, rx, p⟩ => by
  cases xs with
  | nil => exact p.elim
  | cons x xs =>
    obtain ⟨v, ws, e, hx, hxs⟩ := rx
    refine (pgs_cons h1 h2 hs).run pins s σ H vs us W I r ⟨v, ws, e, ι, Λ, S, x, R, E, hx, ?_⟩
    have p : match (P x Λ S).seq (Q xs) with
      | .nx Λ' S' => ∀ ι' H' σ', Grow ι H ι' H' → Rel X.K H' ι' g S' → REnv X.K H' ι' Λ' σ' → W σ' H'
      | _ => False := p
    cases e1 : P x Λ S with
    | nx Λ1 S1 =>
      rw [e1] at p
      refine fun ι' H' σ' G' R' E' => ⟨ι', Λ1, S1, xs, R', E', Reps.mono G' xs ws hxs, ?_⟩
      cases e2 : Q xs Λ1 S1 with
      | nx Λ2 S2 =>
        have p' : ∀ ι' H' σ', Grow ι H ι' H' → Rel X.K H' ι' g S2 → REnv X.K H' ι' Λ2 σ' → W σ' H' := by
          have : SRes.seq (.nx Λ1 S1) (Q xs) = .nx Λ2 S2 := e2
          rw [this] at p
          exact p
        exact fun ι2 H2 σ2 G2 R2 E2 => p' ι2 H2 σ2 (G'.trans G2) R2 E2
      | _ =>
        have : SRes.seq (.nx Λ1 S1) (Q xs) = Q xs Λ1 S1 := rfl
        rw [this, e2] at p
        exact p.elim
    | _ => rw [e1] at p; exact p.elim⟩
theorem mg_tup {kk : Nat} {F : GMs} {n : Nat} (hc : X.calm = true) (h : MGs g X es F) (hn : (assignEach es X.env).length = n := by rfl) (hst : (assignEach es X.env).findIdx? (·.1) = none := by rfl) : MG g X (.Tuple es kk pos) (gTup n F) := ⟨fun pins s σ H v u Q I r ⟨ι, Λ, S, x, R, E, rx, p⟩ => by
  unfold gTup at p
  cases et : tupOf x with
  | none => rw [et] at p; exact p.elim
  | some xs =>
    rw [et] at p
    dsimp only at p
    obtain ⟨a, vs, e, hs, hr⟩ := rx.tup et
    by_cases hl : xs.length = n
    · rw [if_pos hl] at p
      exact (pg_tup hc h hn hst).run pins s σ H v u Q I r ⟨a, vs, e, hs, by rw [hr.len]; exact hl, ι, Λ, S, xs, R, E, hr, p⟩
    · rw [if_neg hl] at p
      exact p.elim⟩
theorem ms_asg {tg : Expr} {P : GM} (he : ME g EX X e A) (hg : MG g X tg P) (hs : swapsWithSole [tg] e pos.line X.env = pure false := by rfl) (hw : swappedStores [tg] e X.env = pure none := by rfl)
    (h1 : (assignEach [tg] X.env).map (·.2) = [assign tg X.env] := by rfl) : MS g EX X (.Assign [tg] e pos) (sAsg A P) := by
  refine PS.imp (ps_asg he hg hs hw h1) fun D σ H ⟨ι, Λ, S, R, E, p⟩ => ⟨ι, Λ, S, R, E, (Post.sbind p).mono fun x ι1 S1 H1 G1 R1 p1 v r => ⟨ι1, Λ, S1, x, R1, E.mono G1, r, ?_⟩⟩
  cases e : P x Λ S1 with
  | nx Λ' S' => rw [e] at p1; exact p1
  | _ => rw [e] at p1; exact p1.elim
theorem ms_set {i : Nat} {x : Str} {pos' : Pos} (h : PS X (.Assign [.Name x pos'] e pos) (tAsg (xE X.K g EX A) (L2.gName i))) : MS g EX X (.Assign [.Name x pos'] e pos) (sAsg A (gName i)) := by
  refine PS.imp h fun D σ H ⟨ι, Λ, S, R, E, p⟩ => ⟨ι, Λ, S, R, E, (Post.sbind p).mono fun x ι1 S1 H1 G1 R1 p1 v r => ?_⟩
  exact p1 ι1 H1 _ (.refl _ _) R1 ((E.mono G1).set i r)
end
end Mir
end

section
set_option Elab.async false
set_option linter.all false
set_option maxRecDepth 100000
set_option maxHeartbeats 1000000
/-! MirF: defs, calls, instances, subscripts, dicts. -/
namespace Mir
open PySem PySem.Spec PyProof.Rows L2

/-! ### defs -/
def fdef (nN np : Nat) (M : SM) : Fn := fun xs S => if xs.length = np then
    match M (xs.map some ++ List.replicate (nN - np) none) S with
    | .nx _ S' => .ok .non S'
    | .rt v S' => .ok v S'
    | .exc c S' => .exc c S'
    | _ => .stuck
  else .stuck
def spM (K : PySem.W.Frag) (g : G) (m : Fn) (np : Nat) : Sp := fun vs H Q EX => ∃ ι S xs, Rel K H ι g S ∧ Reps K H ι xs vs ∧ xs.length = np ∧ Post K g EX ι H (m xs S) fun r ι' _ H' => ∀ v, Rep K H' ι' r v → Q v H'
/-- the def at f is the mirror m -/
structure FnM (P : Program) (w : World) (K : PySem.W.Frag) (mg : Str → Option Value) (base : Heap) (g : G) (k : Nat) (f : Addr) (ps : List Str) (m : Fn) : Prop where
  ex : ∃ fd, FnOk P w K mg base (L2.CX P w) k f fd ps (spM K g m ps.length) ∧ Binds K fd ps []
  kp : PySem.W.keepIn K (.ref f) = true
section
variable {K : PySem.W.Frag} {g : G} {EX : XK} {X : Cx} {H : Hp} {ι : List Addr} {S : Store}
theorem renv_start {N : Nat} {xs : List AV} {vs : List V} (r : Reps K H ι xs vs) : REnv K H ι (xs.map some ++ List.replicate N none) (vs.map some ++ List.replicate N none) := by
  refine ⟨by simp [r.len], fun i x e => ?_⟩
  by_cases hi : i < xs.length
  · rw [List.getElem?_append_left (by simpa using hi)] at e
    simp only [List.getElem?_map, Option.map_eq_some_iff] at e
    obtain ⟨y, e1, e2⟩ := e
    cases e2
    obtain ⟨v, e3, e4⟩ := r.get e1
    refine ⟨v, ?_, e4⟩
    rw [List.getElem?_append_left (by simpa [r.len] using hi), List.getElem?_map, e3]
    rfl
  · rw [List.getElem?_append_right (by simpa using hi)] at e
    have := List.mem_of_getElem? e
    rw [List.mem_replicate] at this
    cases this.2
/-- a def of the text, by its body -/
theorem fnM_of {P : Program} {w : World} {mg : Str → Option Value} {base : Heap} {x qual : Str} {st : Stmt} {f : Addr} {fd : FuncData} {N ps : List Str} {k : Nat} {M : SM} (F : Fun K x qual st f fd) (B : Binds K fd ps []) (Sc : FnScope N ps (defScope st)) (hN : ps.length ≤ N.length)
    (hb : ∀ (cdv : Value) (A : Around) (outer : List Env) (s : Shared) (H : Hp) (E : XK), GX E k (cxOf (L2.CX P w) P w K mg base N qual (defScope st) f cdv A outer s H E) → MSs g E (cxOf (L2.CX P w) P w K mg base N qual (defScope st) f cdv A outer s H E) (defBody st) M) :
    FnM P w K mg base g (k + 1) f ps (fdef N.length ps.length M) := by
  refine ⟨⟨fd, F.okX Sc (fun vs H Q E h => ?_) fun cdv A outer s H vs Q E hr h => ?_, B⟩, F.kp⟩
  · obtain ⟨ι, S, xs, _, r, l, _⟩ := h
    rw [r.len, l]
  · obtain ⟨ι, S, xs, R, r, l, p⟩ := h
    refine ⟨_, hb cdv A outer s H E ⟨rfl, hr, L2.takes_of rfl rfl rfl rfl, L2.passes_of rfl⟩, ι, xs.map some ++ List.replicate (N.length - ps.length) none, S, R, ?_, ?_⟩
    · have e : L2.start N vs = vs.map some ++ List.replicate (N.length - ps.length) none := by
        unfold L2.start
        rw [r.len, l]
      rw [e]
      exact renv_start r
    · unfold fdef at p
      rw [if_pos l] at p
      cases e : M (xs.map some ++ List.replicate (N.length - ps.length) none) S with
      | nx Λ S' => rw [e] at p; exact fun ι' H' σ' G R' E' => p ι' H' G R' .non rfl
      | rt v S' => rw [e] at p; exact fun ι' H' v G R' r' => p ι' H' G R' v r'
      | exc c S' => rw [e] at p; exact p
      | bk Λ S' => rw [e] at p; exact p.elim
      | ct Λ S' => rw [e] at p; exact p.elim
      | stuck => rw [e] at p; exact p.elim
theorem FnM.mono {P : Program} {w : World} {mg : Str → Option Value} {base : Heap} {j k : Nat} {f : Addr} {ps : List Str} {m : Fn} (F : FnM P w K mg base g j f ps m) (h : j ≤ k) : FnM P w K mg base g k f ps m := by
  obtain ⟨⟨fd, F, B⟩, kp⟩ := F
  exact ⟨⟨fd, F.mono h, B⟩, kp⟩

/-! ### calls -/
def eCall (m : Fn) (a : AM) : EM := fun Λ S => (a Λ S).bind m
variable {a b c e o : Expr} {A B C O : EM} {es : List Expr} {F : AM} {pos p apos : Pos} {x : Str} {k j : Nat} {f : Addr} {ps : List Str} {m : Fn}
theorem GX.passes (h : GX EX k X) : Passes (L2.CX X.prog X.w) X EX := L2.passes_call h.tk fun _ _ _ _ z => z
theorem call_post {K : PySem.W.Frag} {σ : L2.St} {Q : VK} (h : xE K g EX (eCall m F) σ H Q) {n : Nat} (hn : ∀ xs S, xs.length ≠ n → m xs S = .stuck) : xA K g EX F σ H fun vs H1 => spM K g m n (vs ++ []) H1 Q EX := by
  obtain ⟨ι, Λ, S, R, E, p⟩ := h
  refine ⟨ι, Λ, S, R, E, (Post.bind p).mono fun xs ι1 S1 H1 G1 R1 ⟨_, p1⟩ vs r => ?_⟩
  show spM K g m n (vs ++ []) H1 Q EX
  rw [List.append_nil]
  refine ⟨ι1, S1, xs, R1, r, ?_, p1⟩
  by_cases e : xs.length = n
  · exact e
  · rw [hn xs S1 e] at p1; exact p1.elim
/-- the mirror takes just so many -/
def Ar (n : Nat) (m : Fn) : Prop := ∀ xs S, xs.length ≠ n → m xs S = .stuck
theorem ar_fdef {N n : Nat} {M : SM} : Ar n (fdef N n M) := fun xs S h => if_neg h
theorem me_call (gx : GX EX j X) (Fm : FnM X.prog X.w X.K X.mg X.base g k f ps m) (hk : k ≤ j) (ar : Ar ps.length m) (hm : X.mg x = some (.ref f)) (ha : MA g EX X (e :: es) F) (hg : Gl X x := by rfl) (hdb : (x == ("__debug__" : Str)) = false := by decide)
    (he : starEach (e :: es) X.env = (false, eval e X.env) :: starEach es X.env := by rfl) (hpl : (backTo pos (starEach es X.env)).any (·.1) = false := by rfl) : ME g EX X (.Call (.Name x p) (e :: es) [] pos) (eCall m F) := by
  obtain ⟨⟨fd, Fo, B⟩, kp⟩ := Fm
  exact PE.imp (pe_call Fo (gx.room.mono hk) hg hm kp B .nil gx.passes ha hdb he hpl) fun σ H Q h => call_post h ar
theorem me_call0 (gx : GX EX j X) (Fm : FnM X.prog X.w X.K X.mg X.base g k f ps m) (hk : k ≤ j) (ar : Ar ps.length m) (hm : X.mg x = some (.ref f)) (hg : Gl X x := by rfl) (hdb : (x == ("__debug__" : Str)) = false := by decide) : ME g EX X (.Call (.Name x p) [] [] pos) (eCall m aNil) := by
  obtain ⟨⟨fd, Fo, B⟩, kp⟩ := Fm
  refine PE.imp (pe_call0 Fo (gx.room.mono hk) hg hm kp B .nil gx.passes hdb) fun σ H Q h => ?_
  obtain ⟨ι, Λ, S, R, E, p⟩ := h
  have p1 := (Post.bind p).now R
  refine ⟨ι, S, [], R, rfl, ?_, p1.2⟩
  by_cases e : ([] : List AV).length = ps.length
  · exact e
  · have := p1.2
    rw [ar [] S e] at this; exact this.elim

/-! ### instances -/
def flook (i : Nat) : List (Nat × AV) → Option AV
  | [] => none
  | (j, v) :: r => if j = i then some v else flook i r
def fput (i : Nat) (v : AV) : List (Nat × AV) → List (Nat × AV)
  | [] => [(i, v)]
  | (j, u) :: r => if j = i then (j, v) :: r else (j, u) :: fput i v r
/-- o.f -/
def eAttr (i : Nat) (o : EM) : EM := fun Λ S => (o Λ S).bind fun x S1 => match x with
  | .ref n => match S1[n]? with
    | some (.ins _ fs) => match flook i fs with
      | some v => .ok v S1
      | none => .stuck
    | _ => .stuck
  | _ => .stuck
/-- self.f = v, self of class c -/
def sAttr (c i : Nat) (o v : EM) : SM := fun Λ S => (v Λ S).sbind fun y S1 => (o Λ S1).sbind fun x S2 => match x with
  | .ref n => match S2[n]? with
    | some (.ins c' fs) => if c' = c ∧ fs.length < 1000 then .nx Λ (S2.set n (.ins c (fput i y fs))) else .stuck
    | _ => .stuck
  | _ => .stuck
/-- o.f op= v -/
def sAttrA (c i : Nat) (f : AV → AV → Store → Res AV) (o v : EM) : SM := fun Λ S => (o Λ S).sbind fun x S1 => match x with
  | .ref n => match S1[n]? with
    | some (.ins c' fs) => if c' = c then (match flook i fs with
      | some old => (v Λ S1).sbind fun y S2 => (f old y S2).sbind fun z S3 => match S3[n]? with
        | some (.ins c'' fs') => if c'' = c ∧ fs'.length < 1000 then .nx Λ (S3.set n (.ins c (fput i z fs'))) else .stuck
        | _ => .stuck
      | none => .stuck) else .stuck
    | _ => .stuck
  | _ => .stuck
theorem flook_zip {fs : List (Nat × AV)} {vs : List V} {c i : Nat} {v : AV} (hi : i < g.nf) (r : Reps K H ι (fs.map (·.2)) vs) (ok : ∀ f ∈ fs, FOk K g c f.1) (h : flook i fs = some v) :
    ∃ u, ((fs.map fun f => g.fld f.1).zip vs).lookup (g.fld i) = some u ∧ Rep K H ι v u := by
  induction fs generalizing vs with
  | nil => cases h
  | cons f fs ih =>
    obtain ⟨u, us, e, h1, h2⟩ := r
    subst e
    simp only [List.map_cons, List.zip_cons_cons]
    have hf := (ok f List.mem_cons_self).lt
    simp only [flook] at h
    by_cases e : f.1 = i
    · rw [if_pos e] at h
      cases h
      exact ⟨u, by rw [e, List.lookup_cons, beq_self_eq_true], h1⟩
    · rw [if_neg e] at h
      obtain ⟨u', e2, r2⟩ := ih h2 (fun q hq => ok q (List.mem_cons_of_mem _ hq)) h
      refine ⟨u', ?_, r2⟩
      have : (g.fld i == g.fld f.1) = false := beq_eq_false_iff_ne.mpr fun z => e (g.inj _ _ hf hi z.symm)
      rw [List.lookup_cons, this]
      exact e2
theorem fput_zip {fs : List (Nat × AV)} {vs : List V} {c i : Nat} {v : AV} {u : V} (hi : i < g.nf) (r : Reps K H ι (fs.map (·.2)) vs) (ok : ∀ f ∈ fs, FOk K g c f.1) (rv : Rep K H ι v u) :
    ∃ ws, putF (g.fld i) u ((fs.map fun f => g.fld f.1).zip vs) = ((fput i v fs).map fun f => g.fld f.1).zip ws ∧ Reps K H ι ((fput i v fs).map (·.2)) ws := by
  induction fs generalizing vs with
  | nil =>
    cases (show vs = [] from r)
    exact ⟨[u], rfl, u, [], rfl, rv, rfl⟩
  | cons f fs ih =>
    obtain ⟨u', us, e, h1, h2⟩ := r
    subst e
    have hf := (ok f List.mem_cons_self).lt
    simp only [List.map_cons, List.zip_cons_cons, fput, putF]
    by_cases e : f.1 = i
    · rw [if_pos e, if_pos (by rw [e])]
      exact ⟨u :: us, by simp, u, us, rfl, rv, h2⟩
    · rw [if_neg e, if_neg fun z => e (g.inj _ _ hf hi z)]
      obtain ⟨ws, e2, r2⟩ := ih h2 fun q hq => ok q (List.mem_cons_of_mem _ hq)
      exact ⟨u' :: ws, by rw [e2]; simp, u', ws, rfl, h1, r2⟩
theorem fput_ok {fs : List (Nat × AV)} {c i : Nat} {v : AV} (ok : ∀ f ∈ fs, FOk K g c f.1) (hi : FOk K g c i) : ∀ f ∈ fput i v fs, FOk K g c f.1 := by
  induction fs with
  | nil => intro f hf; rw [List.mem_singleton.mp hf]; exact hi
  | cons q fs ih =>
    intro f hf
    simp only [fput] at hf
    split at hf
    · rename_i e
      rcases List.mem_cons.mp hf with rfl | hf
      · rw [e]; exact hi
      · exact ok f (List.mem_cons_of_mem _ hf)
    · rcases List.mem_cons.mp hf with rfl | hf
      · exact ok _ List.mem_cons_self
      · exact ih (fun z hz => ok z (List.mem_cons_of_mem _ hz)) f hf
theorem zip_len {fs : List (Nat × AV)} {vs : List V} (r : Reps K H ι (fs.map (·.2)) vs) : ((fs.map fun f => g.fld f.1).zip vs).length = fs.length := by
  rw [List.length_zip, List.length_map, r.len, List.length_map, Nat.min_self]
theorem me_attr {i : Nat} {fn : Str} (ho : ME g EX X o O) (hf : g.fld i = fn) (hi : i < g.nf) (hb : attributeBase o fn X.env (eval o X.env) = eval o X.env := by rfl) : ME g EX X (.Attribute o fn pos) (eAttr i O) := by
  subst hf
  refine PE.imp (pe_fld ho hb) fun σ H Q ⟨ι, Λ, S, R, E, p⟩ => ⟨ι, Λ, S, R, E, (Post.bind p).mono fun x ι1 S1 H1 G1 R1 ⟨_, p1⟩ v r => ?_⟩
  cases x with
  | ref n =>
    dsimp only at p1
    split at p1
    · rename_i c fs es
      split at p1
      · rename_i y ey
        obtain ⟨a, e, ha⟩ := r
        obtain ⟨a', ha', dx, vs, h1, h2, h3⟩ := R1.at es
        rw [ha] at ha'; cases ha'
        obtain ⟨u, e1, e2⟩ := flook_zip hi h2 h3 ey
        have fo : ∃ f ∈ fs, f.1 = i := by
          clear h1 h2 h3 es p1 e1 e2
          induction fs with
          | nil => cases ey
          | cons f fs ih =>
            simp only [flook] at ey
            split at ey
            · rename_i z; exact ⟨f, List.mem_cons_self, z⟩
            · obtain ⟨q, h, z⟩ := ih ey; exact ⟨q, List.mem_cons_of_mem _ h, z⟩
        obtain ⟨f, hf, ef⟩ := fo
        have ok := h3 f hf
        rw [ef] at ok
        exact ⟨a, g.cls c, dx, _, u, e, h1, ok.cls, ok.no, e1, p1.now R1 u e2⟩
      · exact p1.elim
    · exact p1.elim
  | _ => exact p1.elim
theorem ms_attr {c i : Nat} {fn : Str} {pos' : Pos} (fo : FOk X.K g c i) (ho : ME g EX X o O) (hv : ME g EX X e A) (hf : g.fld i = fn) (hs : swapsWith e (some (.Attribute o fn pos')) pos.line X.env = pure false := by rfl) : MS g EX X (.Assign [.Attribute o fn pos'] e pos) (sAttr c i O A) := by
  subst hf
  refine PS.imp (ps_fld ho hv hs) fun D σ H ⟨ι, Λ, S, R, E, p⟩ => ⟨ι, Λ, S, R, E, (Post.sbind p).mono fun y ι1 S1 H1 G1 R1 p1 u ru => ?_⟩
  refine ⟨ι1, Λ, S1, R1, E.mono G1, (Post.sbind p1).mono fun x ι2 S2 H2 G2 R2 p2 v r => ?_⟩
  cases x with
  | ref n =>
    dsimp only at p2
    split at p2
    · rename_i c' fs es
      split at p2
      · rename_i hc
        obtain ⟨hc, hl⟩ := hc
        subst hc
        obtain ⟨a, e, ha⟩ := r
        obtain ⟨a', ha', dx, vs, h1, h2, h3⟩ := R2.at es
        rw [ha] at ha'; cases ha'
        refine ⟨a, g.cls c', dx, _, e, h1, fo.cls, fo.no, by rw [zip_len h2]; exact hl, ?_⟩
        have Gc : Grow ι2 H2 ι2 (upd H2 a (.ins (g.cls c') dx (putF (g.fld i) u ((fs.map fun f => g.fld f.1).zip vs)))) := .cell ha h1
        obtain ⟨ws, e1, e2⟩ := fput_zip fo.lt h2 h3 (Rep.mono G2 y u ru)
        have Rc := R2.write (o := .ins (g.cls c') dx (putF (g.fld i) u ((fs.map fun f => g.fld f.1).zip vs))) (c := .ins c' (fput i y fs)) ha ⟨dx, ws, by rw [upd_same, e1], Reps.mono Gc _ ws e2, fput_ok h3 fo⟩
        exact p2 ι2 _ σ Gc Rc (E.mono ((G1.trans G2).trans Gc))
      · exact p2.elim
    · exact p2.elim
  | _ => exact p2.elim
theorem ms_attrA {c i : Nat} {fn : Str} {tpos : Pos} {op : Operator} {f : AV → AV → Store → Res AV} (fo : FOk X.K g c i) (hop : MO g EX X (inplaceOp op) f) (ho : ME g EX X o O) (hv : ME g EX X e A) (hf : g.fld i = fn) : MS g EX X (.AugAssign (.Attribute o fn tpos) op e pos) (sAttrA c i f O A) := by
  subst hf
  refine PS.imp (ps_fldaug ho hv hop) fun D σ H ⟨ι, Λ, S, R, E, p⟩ => ⟨ι, Λ, S, R, E, (Post.sbind p).mono fun x ι1 S1 H1 G1 R1 p1 v r => ?_⟩
  cases x with
  | ref n =>
    dsimp only at p1
    split at p1
    · rename_i c' fs es
      by_cases hc : c' = c
      case neg => rw [if_neg hc] at p1; exact p1.elim
      rw [if_pos hc] at p1
      split at p1
      · rename_i old eo
        obtain ⟨a, e, ha⟩ := r
        obtain ⟨a', ha', dx, vs, h1, h2, h3⟩ := R1.at es
        rw [ha] at ha'; cases ha'
        obtain ⟨u, e1, e2⟩ := flook_zip fo.lt h2 h3 eo
        subst hc
        refine ⟨a, g.cls c', dx, _, u, e, h1, fo.cls, fo.no, e1, ι1, Λ, S1, R1, E.mono G1, (Post.sbind p1).mono fun y ι2 S2 H2 G2 R2 p2 w rw' => ?_⟩
        refine ⟨ι2, S2, old, y, R2, Rep.mono G2 _ _ e2, rw', (Post.sbind p2).mono fun z ι3 S3 H3 G3 R3 p3 t rt => ?_⟩
        split at p3
        · rename_i c'' fs' es'
          split at p3
          · rename_i hc
            obtain ⟨hc, hl⟩ := hc
            subst hc
            have ha3 : ι3[n]? = some a := G3.at (G2.at ha)
            obtain ⟨a', ha', dx', vs', k1, k2, k3⟩ := R3.at es'
            rw [ha3] at ha'; cases ha'
            refine ⟨dx', _, k1, by rw [zip_len k2]; exact hl, ?_⟩
            have Gc : Grow ι3 H3 ι3 (upd H3 a (.ins (g.cls c'') dx' (putF (g.fld i) t ((fs'.map fun f => g.fld f.1).zip vs')))) := .cell ha3 k1
            obtain ⟨ws, q1, q2⟩ := fput_zip fo.lt k2 k3 rt
            have Rc := R3.write (o := .ins (g.cls c'') dx' (putF (g.fld i) t ((fs'.map fun f => g.fld f.1).zip vs'))) (c := .ins c'' (fput i z fs')) ha3 ⟨dx', ws, by rw [upd_same, q1], Reps.mono Gc _ ws q2, fput_ok k3 fo⟩
            exact p3 ι3 _ σ Gc Rc (E.mono (((G1.trans G2).trans G3).trans Gc))
          · exact p3.elim
        · exact p3.elim
      · exact p1.elim
    · exact p1.elim
  | _ => exact p1.elim
end
end Mir
end

section
set_option Elab.async false
set_option linter.all false
set_option maxRecDepth 100000
set_option maxHeartbeats 1000000
/-! MirG: instances made, methods called, built-ins called, subscripts, slices, dicts' methods. -/
namespace Mir
open PySem PySem.Spec PyProof.Rows L2

/-! ### instances -/
/-- C(..) of class c, by its __init__ -/
def eMake (c : Nat) (m : Fn) (a : AM) : EM := fun Λ S => (a Λ S).bind fun xs S1 => (m (.ref S1.length :: xs) (S1 ++ [.ins c []])).bind fun r S2 => match r with
  | .non => .ok (.ref S1.length) S2
  | _ => .stuck
/-- o.m(..), o of class c -/
def eMeth (c : Nat) (m : Fn) (o : EM) (a : AM) : EM := fun Λ S => (o Λ S).bind fun x S1 => match x with
  | .ref n => match S1[n]? with
    | some (.ins c' _) => if c' = c then (a Λ S1).bind fun xs S2 => m (x :: xs) S2 else .stuck
    | _ => .stuck
  | _ => .stuck
section
variable {K : PySem.W.Frag} {g : G} {EX : XK} {X : Cx} {H : Hp} {ι : List Addr} {S : Store}
variable {a b c e o : Expr} {A B C O : EM} {es : List Expr} {F : AM} {pos p apos cpos : Pos} {x : Str} {k j : Nat} {f : Addr} {ps : List Str} {m : Fn}
theorem nofld {c : Nat} {mn : Str} {fs : List (Nat × AV)} {vs : List V} (hno : ∀ i, i < g.nf → g.fld i ≠ mn) (ok : ∀ f ∈ fs, FOk K g c f.1) : (((fs.map fun f => g.fld f.1).zip vs)).lookup mn = none := by
  induction fs generalizing vs with
  | nil => rfl
  | cons f fs ih =>
    cases vs with
    | nil => rfl
    | cons v vs =>
      simp only [List.map_cons, List.zip_cons_cons]
      rw [List.lookup_cons]
      have h := hno f.1 (ok f List.mem_cons_self).lt
      rw [beq_eq_false_iff_ne.mpr (Ne.symm h)]
      exact ih fun q hq => ok q (List.mem_cons_of_mem _ hq)
theorem make_post {σ : L2.St} {Q : VK} {c : Nat} {n : Nat} (ar : Ar n m) (h : xE K g EX (eMake c m F) σ H Q) :
    xA K g EX F σ H fun vs H1 => ∀ x dx, H1 x = none → H1 dx = none → dx ≠ x → spM K g m n (.ref x :: (vs ++ [])) (upd (upd H1 dx (.own x)) x (.ins (g.cls c) dx [])) (fun v H2 => v = .non ∧ Q (.ref x) H2) EX := by
  obtain ⟨ι, Λ, S, R, E, p⟩ := h
  refine ⟨ι, Λ, S, R, E, (Post.bind p).mono fun xs ι1 S1 H1 G1 R1 ⟨_, p1⟩ vs r x dx hx hdx hne => ?_⟩
  rw [List.append_nil]
  have hx' : upd H1 dx (.own x) x = none := by rw [upd_ne (Ne.symm hne)]; exact hx
  have R2 : Rel K (upd H1 dx (.own x)) ι1 g S1 := R1.fresh hdx
  have R3 := R2.alloc (o := .ins (g.cls c) dx []) (c := .ins c []) hx' ⟨dx, [], upd_same, rfl, fun _ h => nomatch h⟩
  have G3 : Grow ι1 H1 (ι1 ++ [x]) (upd (upd H1 dx (.own x)) x (.ins (g.cls c) dx [])) := (Grow.fresh hdx).trans (.alloc R2 hx')
  have rx : Rep K (upd (upd H1 dx (.own x)) x (.ins (g.cls c) dx [])) (ι1 ++ [x]) (.ref S1.length) (.ref x) := ⟨x, rfl, by rw [← R1.len, List.getElem?_append_right (Nat.le_refl _), Nat.sub_self]; rfl⟩
  have pm := Post.bind p1
  have hn : (AV.ref S1.length :: xs).length = n := by
    by_cases e : (AV.ref S1.length :: xs).length = n
    · exact e
    · have hs := ar (.ref S1.length :: xs) (S1 ++ [.ins c []]) e
      rw [hs] at p1
      exact p1.elim
  refine ⟨ι1 ++ [x], S1 ++ [.ins c []], .ref S1.length :: xs, R3, ⟨_, _, rfl, rx, Reps.mono G3 xs vs r⟩, hn, ?_⟩
  cases em : m (.ref S1.length :: xs) (S1 ++ [.ins c []]) with
  | ok rv S2 =>
    rw [em] at p1
    intro ι' H' G' R' v rr
    simp only [Res.bind_ok] at p1
    cases rv with
    | non =>
      cases rr
      exact ⟨rfl, p1 ι' H' (G3.trans G') R' _ ⟨x, rfl, G'.at (by rw [← R1.len, List.getElem?_append_right (Nat.le_refl _), Nat.sub_self]; rfl)⟩⟩
    | _ => exact p1.elim
  | exc d S2 =>
    rw [em] at p1
    exact fun ι' H' d G' R' => p1 ι' H' d (G3.trans G') R'
  | stuck => rw [em] at p1; exact p1.elim
theorem me_make {c : Nat} {f : Addr} {C : Addr} (gx : GX EX j X) (M : Mk X.K C f) (Fm : FnM X.prog X.w X.K X.mg X.base g k f ps m) (hk : k + 1 ≤ j) (ar : Ar ps.length m) (hC : g.cls c = C) (hm : X.mg x = some (.ref C)) (ha : MA g EX X (e :: es) F) (hg : Gl X x := by rfl) (hdb : (x == ("__debug__" : Str)) = false := by decide)
    (he : starEach (e :: es) X.env = (false, eval e X.env) :: starEach es X.env := by rfl) (hpl : (backTo pos (starEach es X.env)).any (·.1) = false := by rfl) : ME g EX X (.Call (.Name x p) (e :: es) [] pos) (eMake c m F) := by
  subst hC
  obtain ⟨⟨fd, Fo, B⟩, kp⟩ := Fm
  exact PE.imp (pe_make M Fo (gx.room.mono hk) hg hm B .nil gx.passes ha hdb he hpl) fun σ H Q h => make_post ar h
theorem me_make0 {c : Nat} {f : Addr} {C : Addr} (gx : GX EX j X) (M : Mk X.K C f) (Fm : FnM X.prog X.w X.K X.mg X.base g k f ps m) (hk : k + 1 ≤ j) (ar : Ar ps.length m) (hC : g.cls c = C) (hm : X.mg x = some (.ref C)) (hg : Gl X x := by rfl) (hdb : (x == ("__debug__" : Str)) = false := by decide) : ME g EX X (.Call (.Name x p) [] [] pos) (eMake c m aNil) := by
  subst hC
  obtain ⟨⟨fd, Fo, B⟩, kp⟩ := Fm
  refine PE.imp (pe_make0 M Fo (gx.room.mono hk) hg hm B .nil gx.passes hdb) fun σ H Q h => ?_
  obtain ⟨ι, Λ, S, R, E, p⟩ := make_post ar h
  have q := p.now R [] rfl
  exact q
theorem meth_post {σ : L2.St} {Q : VK} {c n : Nat} {C : Addr} {mn : Str} (ar : Ar n m) (hC : g.cls c = C) (hno : ∀ i, i < g.nf → g.fld i ≠ mn) (h : xE K g EX (eMeth c m O F) σ H Q) :
    xE K g EX O σ H fun x H1 => ∃ a dx fs, x = .ref a ∧ H1 a = some (.ins C dx fs) ∧ fs.lookup mn = none ∧ xA K g EX F σ H1 fun vs H2 => spM K g m n (x :: (vs ++ [])) H2 Q EX := by
  subst hC
  obtain ⟨ι, Λ, S, R, E, p⟩ := h
  refine ⟨ι, Λ, S, R, E, (Post.bind p).mono fun x ι1 S1 H1 G1 R1 ⟨_, p1⟩ v r => ?_⟩
  cases x with
  | ref q =>
    dsimp only at p1
    split at p1
    · rename_i c' fs es
      by_cases hc : c' = c
      case neg => rw [if_neg hc] at p1; exact p1.elim
      rw [if_pos hc] at p1
      subst hc
      obtain ⟨a, ev, ha⟩ := r
      obtain ⟨a', ha', dx, vs, h1, h2, h3⟩ := R1.at es
      rw [ha] at ha'; cases ha'
      refine ⟨a, dx, _, ev, h1, nofld hno h3, ι1, Λ, S1, R1, E.mono G1, (Post.bind p1).mono fun xs ι2 S2 H2 G2 R2 ⟨_, p2⟩ ws rs => ?_⟩
      show spM K g m n (v :: (ws ++ [])) H2 Q EX
      rw [List.append_nil]
      refine ⟨ι2, S2, .ref q :: xs, R2, ⟨_, _, rfl, ⟨a, ev, G2.at ha⟩, rs⟩, ?_, p2⟩
      by_cases e : (AV.ref q :: xs).length = n
      · exact e
      · rw [ar _ S2 e] at p2; exact p2.elim
    · exact p1.elim
  | _ => exact p1.elim
theorem me_meth {c : Nat} {f C : Addr} {mn : Str} {pl : Sem Bool} (gx : GX EX j X) (ho : ME g EX X o O) (hc : Cls X.K C) (hM : Meth X.K C mn f) (Fm : FnM X.prog X.w X.K X.mg X.base g k f ps m) (hk : k ≤ j) (ar : Ar ps.length m) (hC : g.cls c = C) (hno : ∀ i, i < g.nf → g.fld i ≠ mn) (ha : MA g EX X (e :: es) F)
    (hst : starEach (e :: es) X.env = (false, eval e X.env) :: starEach es X.env := by rfl) (hpl : (backTo pos (starEach es X.env)).any (·.1) = false := by rfl)
    (ht : eval (.Call (.Attribute o mn apos) (e :: es) [] pos) X.env = (do
      let ov ← eval o X.env
      standAt apos.atName
      let (f, first) ← holding [ov] (getMethod ov mn pl)
      callWith pos f first (backTo pos (starEach (e :: es) X.env)) (backToKw pos (keywordEach [] X.env))) := by rfl) : ME g EX X (.Call (.Attribute o mn apos) (e :: es) [] pos) (eMeth c m O F) := by
  obtain ⟨⟨fd, Fo, B⟩, kp⟩ := Fm
  exact PE.imp (pe_meth ho hc hM Fo (gx.room.mono hk) B .nil gx.passes ha hst hpl ht) fun σ H Q h => meth_post ar hC hno h
theorem me_meth0 {c : Nat} {f C : Addr} {mn : Str} {pl : Sem Bool} (gx : GX EX j X) (ho : ME g EX X o O) (hc : Cls X.K C) (hM : Meth X.K C mn f) (Fm : FnM X.prog X.w X.K X.mg X.base g k f ps m) (hk : k ≤ j) (ar : Ar ps.length m) (hC : g.cls c = C) (hno : ∀ i, i < g.nf → g.fld i ≠ mn)
    (ht : eval (.Call (.Attribute o mn apos) [] [] pos) X.env = (do
      let ov ← eval o X.env
      standAt apos.atName
      let (f, first) ← holding [ov] (getMethod ov mn pl)
      callWith pos f first (backTo pos (starEach [] X.env)) (backToKw pos (keywordEach [] X.env))) := by rfl) : ME g EX X (.Call (.Attribute o mn apos) [] [] pos) (eMeth c m O aNil) := by
  obtain ⟨⟨fd, Fo, B⟩, kp⟩ := Fm
  refine PE.imp (pe_meth0 ho hc hM Fo (gx.room.mono hk) B .nil gx.passes ht) fun σ H Q h => ?_
  obtain ⟨ι, Λ, S, R, E, p⟩ := meth_post ar hC hno h
  refine ⟨ι, Λ, S, R, E, p.mono fun x ι1 S1 H1 G1 R1 k v r => ?_⟩
  obtain ⟨a, dx, fs, h1, h2, h3, ι2, Λ2, S2, R2, E2, p2⟩ := k v r
  exact ⟨a, dx, fs, h1, h2, h3, p2.now R2 [] rfl⟩
/-- two readings of one thing -/
theorem PE.or {t t' : TE} (h : PE X e t) (h' : PE X e t') : PE X e (fun σ H Q => t σ H Q ∨ t' σ H Q) := ⟨fun pins s σ H Q I q => q.elim (h.run pins s σ H Q I) (h'.run pins s σ H Q I)⟩
/-- what is never well -/
def eStuck : EM := fun _ _ => .stuck
theorem me_stuck : ME g EX X e eStuck := ⟨fun pins s σ H Q I ⟨ι, Λ, S, R, E, p⟩ => p.elim⟩

/-! ### built-ins by values -/
def xRA (K : PySem.W.Frag) (g : G) (EX : XK) (F : Fn) : List V → Hp → VK → Prop := fun vs H Q => ∃ ι S xs, Rel K H ι g S ∧ Reps K H ι xs vs ∧ Post K g EX ι H (F xs S) fun z ι' _ H' => ∀ w, Rep K H' ι' z w → Q w H'
def MC (g : G) (EX : XK) (X : Cx) (f : Value) (F : Fn) : Prop := CallR X f (xRA X.K g EX F)
theorem CallR.by {f : Value} {r' : List V → Hp → VK → Prop} (h : ∀ xs H Q, r' xs H Q → ∃ r, CallR X f r ∧ r xs H Q) : CallR X f r' := fun pins s σ H xs us Q I rs q =>
  let ⟨_, o, z⟩ := h xs H Q q
  o pins s σ H xs us Q I rs z
theorem me_callTy {T : String} {F : Fn} {A : AM} (hc : MC g EX X (.type T) F) (hm : X.mg x = none) (hv : bootBuiltins x = some (.type T)) (ha : MA g EX X (e :: es) A) (hg : Gl X x := by rfl) (hn : x ≠ "__name__" := by decide) (hdb : (x == ("__debug__" : Str)) = false := by decide)
    (he : starEach (e :: es) X.env = (false, eval e X.env) :: starEach es X.env := by rfl) (hpl : (backTo pos (starEach es X.env)).any (·.1) = false := by rfl) : ME g EX X (.Call (.Name x p) (e :: es) [] pos) (eCall F A) :=
  PE.imp (pe_callTy hc hg hm hv ha hn hdb he hpl) fun σ H Q ⟨ι, Λ, S, R, E, p⟩ => ⟨ι, Λ, S, R, E, (Post.bind p).mono fun xs ι1 S1 H1 G1 R1 ⟨_, p1⟩ vs r => ⟨ι1, S1, xs, R1, r, p1⟩⟩
theorem me_callTy0 {T : String} {F : Fn} (hc : MC g EX X (.type T) F) (hm : X.mg x = none) (hv : bootBuiltins x = some (.type T)) (hg : Gl X x := by rfl) (hn : x ≠ "__name__" := by decide) (hdb : (x == ("__debug__" : Str)) = false := by decide) : ME g EX X (.Call (.Name x p) [] [] pos) (eCall F aNil) :=
  PE.imp (pe_callTy0 hc hg hm hv hn hdb) fun σ H Q ⟨ι, Λ, S, R, E, p⟩ => (show xRA X.K g EX F [] H Q from ⟨ι, S, [], R, rfl, ((Post.bind p).now R).2⟩)
theorem me_callB {id : String} {F : Fn} {A : AM} (hc : MC g EX X (.builtin id) F) (hm : X.mg x = none) (hv : bootBuiltins x = some (.builtin id)) (ha : MA g EX X (e :: es) A) (hg : Gl X x := by rfl) (hn : x ≠ "__name__" := by decide) (hdb : (x == ("__debug__" : Str)) = false := by decide)
    (he : starEach (e :: es) X.env = (false, eval e X.env) :: starEach es X.env := by rfl) (hpl : (backTo pos (starEach es X.env)).any (·.1) = false := by rfl) : ME g EX X (.Call (.Name x p) (e :: es) [] pos) (eCall F A) :=
  PE.imp (pe_callB hc hg hm hv ha hn hdb he hpl) fun σ H Q ⟨ι, Λ, S, R, E, p⟩ => ⟨ι, Λ, S, R, E, (Post.bind p).mono fun xs ι1 S1 H1 G1 R1 ⟨_, p1⟩ vs r => ⟨ι1, S1, xs, R1, r, p1⟩⟩
end
end Mir
end

section
set_option Elab.async false
set_option linter.all false
set_option maxRecDepth 100000
set_option maxHeartbeats 1000000
/-! MirH: subscripts, slices, stores, deletes. -/
namespace Mir
open PySem PySem.Spec PyProof.Rows L2

/-- x[i] -/
def opIx (x y : AV) (S : Store) : Res AV := match seqOf S x with
  | some xs => match y with
    | .int i => match atI xs i with
      | some v => .ok v S
      | none => .stuck
    | _ => .stuck
  | none => match x with
    | .str z => match y with
      | .int i => if z.length ≤ szL then (match atI z i with
        | some c => .ok (.str [c]) S
        | none => .stuck) else .stuck
      | _ => .stuck
    | _ => match keyOf y with
      | some k => match dlk S x k with
        | some (some v) => .ok v S
        | _ => .stuck
      | none => .stuck
/-- the parts of a slice -/
abbrev OM := LEnv → Store → Res (Option Int)
def oNone : OM := fun _ S => .ok none S
def oSome (a : EM) : OM := fun Λ S => (a Λ S).bind fun x S1 => match x with
  | .int i => .ok (some i) S1
  | _ => .stuck
def cutA {α : Type} (xs : List α) (lo hi : Option Int) : List α := (xs.drop (HT.sIx xs.length 0 lo)).take (HT.sIx xs.length xs.length hi - HT.sIx xs.length 0 lo)
def opSl (x : AV) (lo hi : Option Int) (S : Store) : Res AV := match x with
  | .str z => if z.length ≤ szL then .ok (.str (cutA z lo hi)) S else .stuck
  | .tup xs => .ok (.tup (cutA xs lo hi)) S
  | .ktp xs => if HT.sIx xs.length 0 lo = 0 ∧ HT.sIx xs.length xs.length hi = xs.length then .ok (.ktp xs) S else .ok (.tup (cutA xs lo hi)) S
  | .kst xs => .ok (.lst (cutA xs lo hi)) S
  | x => match lstOf S x with
    | some xs => .ok (.lst (cutA xs lo hi)) S
    | none => .stuck
def eSl (a : EM) (lo hi : OM) : EM := fun Λ S => (a Λ S).bind fun x S1 => (lo Λ S1).bind fun l S2 => (hi Λ S2).bind fun h S3 => opSl x l h S3
/-- x[i] = v -/
def opPut (x y v : AV) (S : Store) : Option Store := match x with
  | .ref n => match S[n]? with
    | some (.lst xs) => match y with
      | .int i => match ixN xs.length i with
        | some j => some (S.set n (.lst (xs.set j v)))
        | none => none
      | _ => none
    | some (.dct kvs) => match keyOf y with
      | some k => if fits k kvs = true ∧ kvs.length < szL then some (S.set n (.dct (dput k v kvs))) else none
      | none => none
    | _ => none
  | _ => none
def Res.gbind {α : Type} : Res α → (α → Store → SRes) → SRes
  | .ok a S, f => f a S
  | _, _ => .stuck
@[simp] theorem Res.gbind_ok {α : Type} (a : α) (S : Store) (f : α → Store → SRes) : (Res.ok a S).gbind f = f a S := rfl
def gSubM (o i : EM) : GM := fun v Λ S => (o Λ S).gbind fun x S1 => (i Λ S1).gbind fun y S2 => match opPut x y v S2 with
  | some S3 => .nx Λ S3
  | none => .stuck
def sSubA (f : AV → AV → Store → Res AV) (o i e : EM) : SM := fun Λ S => (o Λ S).sbind fun x S1 => (i Λ S1).sbind fun y S2 => (opIx x y S2).sbind fun old S3 => (e Λ S3).sbind fun v S4 => (f old v S4).sbind fun new S5 => match opPut x y new S5 with
  | some S6 => .nx Λ S6
  | none => .stuck
/-- del x[k] -/
def opDel (x y : AV) (S : Store) : Option Store := match x with
  | .ref n => match S[n]? with
    | some (.dct kvs) => match keyOf y with
      | some (.a k) => if fits (.a k) kvs = true ∧ (dlook (.a k) kvs).isSome = true then some (S.set n (.dct (ddrop (.a k) kvs))) else none
      | _ => none
    | _ => none
  | _ => none
def sDel (o i : EM) : SM := fun Λ S => (o Λ S).sbind fun x S1 => (i Λ S1).sbind fun y S2 => match opDel x y S2 with
  | some S3 => .nx Λ S3
  | none => .stuck

section
variable {K : PySem.W.Frag} {g : G} {EX : XK} {X : Cx} {H : Hp} {ι : List Addr} {S : Store}
variable {a b c e o i : Expr} {A B C O : EM} {pos pos' p2 tpos : Pos}
theorem Reps.atI {xs : List AV} {vs : List V} {i : Int} {x : AV} (r : Reps K H ι xs vs) (h : L2.atI xs i = some x) : ∃ v, L2.atI vs i = some v ∧ Rep K H ι x v := by
  unfold L2.atI at h ⊢
  rw [r.len]
  cases e : ixN xs.length i with
  | none => rw [e] at h; cases h
  | some j => rw [e] at h; exact r.get h
theorem ix_gen (hu : X.A.units + 1 < cLine) : IxR X (xR2 X.K g EX opIx) := by
  rintro value slice pins s σ H x y v u Q I rx ry ⟨ι, S, p, q, R, rp, rq, h⟩ hs
  unfold opIx at h
  split at h
  · rename_i xs ex
    split at h
    · rename_i n
      split at h
      · rename_i z ez
        obtain ⟨a, vs, rfl, hq, r⟩ := R.seq rp ex
        cases rq
        obtain ⟨w, ew, rw'⟩ := r.atI ez
        have fin := h.now R w rw'
        rcases hq with hq | hq
        · exact ix_list value slice pins s σ H _ _ v u Q I rx ry ⟨a, vs, n, w, rfl, rfl, hq, ew, fin⟩ hs
        · exact ix_tup value slice pins s σ H _ _ v u Q I rx ry ⟨a, vs, n, w, rfl, rfl, hq, ew, fin⟩ hs
      · exact h.elim
    · exact h.elim
  · split at h
    · rename_i z _
      split at h
      · rename_i n
        split at h
        · rename_i hz
          split at h
          · rename_i c ec
            cases rp; cases rq
            refine ix_str value slice pins s σ H _ _ v u Q I rx ry ⟨toS z, n, c, rfl, rfl, by rw [toS_len, ← szL_eq]; exact hz, by rw [toS_cps]; exact ec, ?_⟩ hs
            exact h.now R _ rfl
          · exact h.elim
        · exact h.elim
      · exact h.elim
    · split at h
      · rename_i k ek
        split at h
        · rename_i z ez
          obtain ⟨H1, a, o', rfl, J, R1, G1, dg, ro⟩ := dget_of I R rp rq ek ez
          cases rx
          cases o' with
          | none => exact ro.elim
          | some w =>
            have fin := h.ok G1 R1 w ro
            exact tail_any (dict_typeIs J dg) PySem.F.slot_dict_getitem.lookup (d_getItem hu J dg ry fun w' s3 I3 rw' => ⟨w, H1, I3, rw', fin⟩) hs
        · exact h.elim
      · exact h.elim
theorem me_ix (gx : X.A.units + 64 < cLine) (ha : ME g EX X a A) (hb : ME g EX X b B) (hs : PlainIx b := by intros _ _; rfl) : ME g EX X (.Subscript a b pos) (eOp opIx A B) :=
  PE.imp (pe_ix (ix_gen (g := g) (EX := EX) (by omega)) ha hb hs) fun _ _ _ h => two h

/-! ### slices -/
def xO (K : PySem.W.Frag) (g : G) (EX : XK) (F : OM) : TO := fun σ H Q => ∃ ι Λ S, Rel K H ι g S ∧ REnv K H ι Λ σ ∧ Post K g EX ι H (F Λ S) fun o _ _ H' => Q o H'
theorem mo_none : PO X none (xO X.K g EX oNone) := by
  refine ⟨fun pins s σ H Q I ⟨ι, Λ, S, R, E, p⟩ => po_none.run pins s σ H Q I ?_⟩
  exact p.now R
theorem mo_some (ha : ME g EX X a A) : PO X (some a) (xO X.K g EX (oSome A)) := by
  refine ⟨fun pins s σ H Q I ⟨ι, Λ, S, R, E, p⟩ => (po_some ha).run pins s σ H Q I ⟨ι, Λ, S, R, E, (Post.bind p).mono fun x ι1 S1 H1 G1 R1 ⟨_, p1⟩ v r => ?_⟩⟩
  cases x with
  | int i => exact ⟨i, r, p1.now R1⟩
  | _ => exact p1.elim
theorem Reps.cut {xs : List AV} {vs : List V} (lo hi : Option Int) (r : Reps K H ι xs vs) : Reps K H ι (cutA xs lo hi) (cutV vs lo hi) := by
  unfold cutA cutV
  rw [r.len]
  exact (r.drop _).take _
theorem cut_whole {α : Type} {xs : List α} {lo hi : Option Int} (h : HT.sIx xs.length 0 lo = 0 ∧ HT.sIx xs.length xs.length hi = xs.length) : cutA xs lo hi = xs := by
  unfold cutA
  rw [h.1, h.2]
  simp
theorem toS_cut (z : Sg) (lo hi : Option Int) : cutS (toS z) lo hi = toS (cutA z lo hi) := by
  unfold cutS cutA toS
  simp [Str.length]
def xSl (K : PySem.W.Frag) (g : G) (EX : XK) : V → Option Int → Option Int → Hp → VK → Prop := fun v lo hi H Q => ∃ ι S x, Rel K H ι g S ∧ Rep K H ι x v ∧ Post K g EX ι H (opSl x lo hi S) fun z ι' _ H' => ∀ w, Rep K H' ι' z w → Q w H'
theorem sl_gen : SlR X (xSl X.K g EX) := by
  rintro pins s σ H v v' vl vu lo hi sl Q I rx hs pl pu ⟨ι, S, x, R, rp, h⟩
  have list : ∀ (a : Addr) (vs : List V) (xs : List AV), v = .ref a → SqL X.K H a vs → Reps X.K H ι xs vs → (∀ p, H p = none → Q (.ref p) (upd H p (.lst (cutV vs lo hi)))) → _ := fun a vs xs e hq r q =>
    sl_list pins s σ H v v' vl vu lo hi sl Q I rx hs pl pu ⟨a, vs, e, hq, q⟩
  unfold opSl at h
  split at h
  · rename_i z
    split at h
    · rename_i hz
      cases rp
      refine sl_str pins s σ H _ v' vl vu lo hi sl Q I rx hs pl pu ⟨toS z, rfl, by rw [toS_len, ← szL_eq]; exact hz, ?_⟩
      rw [toS_cut]
      exact h.now R _ rfl
    · exact h.elim
  · rename_i xs
    obtain ⟨a, vs, rfl, t, r⟩ := rp
    refine sl_tupA pins s σ H _ v' vl vu lo hi sl Q I rx hs pl pu ⟨a, vs, rfl, t.sq, fun hw => ?_, fun hw p hp => ?_⟩
    · rw [r.len] at hw
      rw [cut_whole hw] at h
      exact h.now R _ ⟨a, vs, rfl, t, r⟩
    · exact h.ok (.fresh hp) (R.fresh hp) _ (R.newTup hp (r.cut lo hi))
  · rename_i xs
    obtain ⟨a, vs, rfl, t, r⟩ := rp
    refine sl_tupA pins s σ H _ v' vl vu lo hi sl Q I rx hs pl pu ⟨a, vs, rfl, .inr t, fun hw => ?_, fun hw p hp => ?_⟩
    · rw [r.len] at hw
      rw [if_pos hw] at h
      exact h.now R _ ⟨a, vs, rfl, t, r⟩
    · rw [r.len] at hw
      rw [if_neg hw] at h
      exact h.ok (.fresh hp) (R.fresh hp) _ (R.newTup hp (r.cut lo hi))
  · rename_i xs
    obtain ⟨a, vs, rfl, t, r⟩ := rp
    exact list a vs xs rfl t.sq r fun p hp => h.ok (.fresh hp) (R.fresh hp) _ (R.newLst hp (r.cut lo hi))
  · split at h
    · rename_i xs ex
      obtain ⟨a, vs, e, hr, r⟩ := R.list rp ex
      exact list a vs xs e (.inl hr) r fun p hp => h.ok (.fresh hp) (R.fresh hp) _ (R.newLst hp (r.cut lo hi))
    · exact h.elim
theorem me_sl {lo hi : Option Expr} {L U : OM} (ha : ME g EX X a A) (hl : PO X lo (xO X.K g EX L)) (hh : PO X hi (xO X.K g EX U)) : ME g EX X (.Subscript a (.Slice lo hi none p2) pos) (eSl A L U) :=
  PE.imp (pe_slice (sl_gen (g := g) (EX := EX)) ha hl hh) fun σ H Q ⟨ι, Λ, S, R, E, p⟩ => ⟨ι, Λ, S, R, E, (Post.bind p).mono fun x ι1 S1 H1 G1 R1 ⟨_, p1⟩ v r =>
    ⟨ι1, Λ, S1, R1, E.mono G1, (Post.bind p1).mono fun l ι2 S2 H2 G2 R2 ⟨_, p2⟩ => ⟨ι2, Λ, S2, R2, E.mono (G1.trans G2), (Post.bind p2).mono fun u ι3 S3 H3 G3 R3 ⟨_, p3⟩ =>
      ⟨ι3, S3, x, R3, Rep.mono (G2.trans G3) x v r, p3⟩⟩⟩⟩

/-! ### stores -/
theorem anyK {kvs : List (DK × AV)} {ps : List (Key × V)} {q : AK} (r : RepK K H ι kvs ps) : (kvs.any fun p => decide (p.1 = DK.a q)) = (ps.any fun kv => decide (kv.1 = q.k)) := by
  induction kvs generalizing ps with
  | nil => cases (show ps = [] from r); rfl
  | cons p kvs ih =>
    obtain ⟨k, y⟩ := p
    obtain ⟨q', u, qs, e, e2, h1, h2⟩ := r
    subst e e2
    rw [List.any_cons, List.any_cons, ih h2]
    congr 1
    rw [Bool.eq_iff_iff, decide_eq_true_iff, decide_eq_true_iff]
    exact ⟨fun z => by rw [DK.a.inj z], fun z => by rw [AK.k_inj z]⟩
theorem anyT {kvs : List (DK × AV)} {ps : List (List Key × V)} {q : List AK} (r : RepT K H ι kvs ps) : (kvs.any fun p => decide (p.1 = DK.t q)) = (ps.any fun kv => decide (kv.1 = q.map AK.k)) := by
  induction kvs generalizing ps with
  | nil => cases (show ps = [] from r); rfl
  | cons p kvs ih =>
    obtain ⟨k, y⟩ := p
    obtain ⟨q', u, qs, e, e2, h1, h2⟩ := r
    subst e e2
    rw [List.any_cons, List.any_cons, ih h2]
    congr 1
    rw [Bool.eq_iff_iff, decide_eq_true_iff, decide_eq_true_iff]
    exact ⟨fun z => by rw [DK.t.inj z], fun z => by rw [ks_inj z]⟩
theorem RepK.snoc {kvs : List (DK × AV)} {ps : List (Key × V)} {q : AK} {x : AV} {v : V} (r : RepK K H ι kvs ps) (rv : Rep K H ι x v) : RepK K H ι (kvs ++ [(.a q, x)]) (ps ++ [(q.k, v)]) := by
  induction kvs generalizing ps with
  | nil => cases (show ps = [] from r); exact ⟨q, v, [], rfl, rfl, rv, rfl⟩
  | cons p kvs ih =>
    obtain ⟨k, y⟩ := p
    obtain ⟨q', u, qs, e, e2, h1, h2⟩ := r
    subst e e2
    exact ⟨q', u, _, rfl, rfl, h1, ih h2⟩
theorem RepT.snoc {kvs : List (DK × AV)} {ps : List (List Key × V)} {q : List AK} {x : AV} {v : V} (r : RepT K H ι kvs ps) (rv : Rep K H ι x v) : RepT K H ι (kvs ++ [(.t q, x)]) (ps ++ [(q.map AK.k, v)]) := by
  induction kvs generalizing ps with
  | nil => cases (show ps = [] from r); exact ⟨q, v, [], rfl, rfl, rv, rfl⟩
  | cons p kvs ih =>
    obtain ⟨k, y⟩ := p
    obtain ⟨q', u, qs, e, e2, h1, h2⟩ := r
    subst e e2
    exact ⟨q', u, _, rfl, rfl, h1, ih h2⟩
theorem RepK.setk {kvs : List (DK × AV)} {ps : List (Key × V)} {q : AK} {x : AV} {v : V} (r : RepK K H ι kvs ps) (rv : Rep K H ι x v) : RepK K H ι (kvs.map fun p => if p.1 = .a q then (p.1, x) else p) (ps.map fun kv => if kv.1 = q.k then (kv.1, v) else kv) := by
  induction kvs generalizing ps with
  | nil => cases (show ps = [] from r); rfl
  | cons p kvs ih =>
    obtain ⟨k, y⟩ := p
    obtain ⟨q', u, qs, e, e2, h1, h2⟩ := r
    subst e e2
    rw [List.map_cons, List.map_cons]
    by_cases hq : q' = q
    · subst hq
      rw [if_pos rfl, if_pos rfl]
      exact ⟨q', v, _, rfl, rfl, rv, ih h2⟩
    · rw [if_neg fun z => hq (DK.a.inj z), if_neg fun z => hq (AK.k_inj z)]
      exact ⟨q', u, _, rfl, rfl, h1, ih h2⟩
theorem RepT.setk {kvs : List (DK × AV)} {ps : List (List Key × V)} {q : List AK} {x : AV} {v : V} (r : RepT K H ι kvs ps) (rv : Rep K H ι x v) : RepT K H ι (kvs.map fun p => if p.1 = .t q then (p.1, x) else p) (ps.map fun kv => if kv.1 = q.map AK.k then (kv.1, v) else kv) := by
  induction kvs generalizing ps with
  | nil => cases (show ps = [] from r); rfl
  | cons p kvs ih =>
    obtain ⟨k, y⟩ := p
    obtain ⟨q', u, qs, e, e2, h1, h2⟩ := r
    subst e e2
    rw [List.map_cons, List.map_cons]
    by_cases hq : q' = q
    · subst hq
      rw [if_pos rfl, if_pos rfl]
      exact ⟨q', v, _, rfl, rfl, rv, ih h2⟩
    · rw [if_neg fun z => hq (DK.t.inj z), if_neg fun z => hq (ks_inj z)]
      exact ⟨q', u, _, rfl, rfl, h1, ih h2⟩
theorem dputK {kvs : List (DK × AV)} {ps : List (Key × V)} {q : AK} {x : AV} {v : V} (r : RepK K H ι kvs ps) (rv : Rep K H ι x v) : RepK K H ι (dput (.a q) x kvs) (putK ps q.k v) := by
  unfold dput putK
  rw [anyK r]
  split
  · exact r.setk rv
  · exact r.snoc rv
theorem dputT {kvs : List (DK × AV)} {ps : List (List Key × V)} {q : List AK} {x : AV} {v : V} (r : RepT K H ι kvs ps) (rv : Rep K H ι x v) : RepT K H ι (dput (.t q) x kvs) (putK ps (q.map AK.k) v) := by
  unfold dput putK
  rw [anyT r]
  split
  · exact r.setk rv
  · exact r.snoc rv
theorem ddropK {kvs : List (DK × AV)} {ps : List (Key × V)} {q : AK} (r : RepK K H ι kvs ps) : RepK K H ι (ddrop (.a q) kvs) (dropK ps q.k) := by
  induction kvs generalizing ps with
  | nil =>
    cases (show ps = [] from r)
    rfl
  | cons p kvs ih =>
    obtain ⟨k, y⟩ := p
    obtain ⟨q', u, qs, e, e2, h1, h2⟩ := r
    subst e e2
    by_cases hq : q' = q
    · subst hq
      have := ih h2
      simpa [ddrop, dropK] using this
    · have hk : ¬ (DK.a q' = DK.a q) := fun z => hq (DK.a.inj z)
      have hk2 : ¬ (q'.k = q.k) := fun z => hq (AK.k_inj z)
      have := ih h2
      simp only [ddrop, if_neg hk]
      simp only [dropK, List.filter_cons, decide_eq_true_eq, ne_eq, hk2, not_false_eq_true, if_true]
      exact ⟨q', u, _, rfl, rfl, h1, this⟩
def xPut (K : PySem.W.Frag) (g : G) : TSet := fun o i v H Q => ∃ ι S x y z S', Rel K H ι g S ∧ Rep K H ι x o ∧ Rep K H ι y i ∧ Rep K H ι z v ∧ opPut x y z S = some S' ∧ ∀ H', Grow ι H ι H' → Rel K H' ι g S' → Q H'
theorem put_gen (hu : X.A.units + 1 < cLine) : PSet X (xPut X.K g) := by
  rintro pins s σ H o i v ov iv u Q I ro ri rv ⟨ι, S, x, y, z, S', R, rx, ry, rz, e, q⟩
  unfold opPut at e
  cases x with
  | ref n =>
    obtain ⟨a, rfl, ha⟩ := rx
    dsimp only at e
    split at e
    · rename_i xs es
      split at e
      · rename_i k
        split at e
        · rename_i j ej
          cases e
          cases ry
          obtain ⟨a', ha', vs, h1, h2⟩ := R.at es
          rw [ha] at ha'; cases ha'
          refine set_list pins s σ H _ _ v ov iv u Q I ro ri rv ⟨a, vs, k, j, rfl, rfl, h1, by rw [h2.len]; exact ej, ?_⟩
          have Gc : Grow ι H ι (upd H a (.lst (vs.set j v))) := .cell ha h1
          exact q _ Gc (R.write ha ⟨_, upd_same, Reps.mono Gc _ _ (h2.set j rz)⟩)
        · cases e
      · cases e
    · rename_i kvs es
      split at e
      · rename_i k ek
        split at e
        · rename_i c
          cases e
          obtain ⟨a', ha', h1⟩ := R.at es
          rw [ha] at ha'; cases ha'
          cases ro
          cases k with
          | a k =>
            have fin : ∀ (ps : List (Key × V)) (w0 : HO) (hw0 : H a = some w0) (hw1 : ∀ o u, w0 ≠ .frz o u) (H0 : Hp) (I0 : L2.Inv X pins σ H0 s), H0 a = some (.dK ps) → RepK X.K H ι kvs ps → (∀ H1, upd H0 a H1 = upd H a H1) → wpAny (model X.prog X.w) X.A (setItem (.ref a) iv u) (fun _ s' => ∃ H', L2.Inv X pins σ H' s' ∧ Q H') X.xe s := fun ps w0 hw0 hw1 H0 I0 h r hH => by
              have hy := keyOf_a ek ry
              subst hy
              refine d_setItem hu I0 (.k h (by rw [r.len, ← szL_eq]; exact c.2)) ri rv fun s' I' => ⟨_, I', ?_⟩
              rw [hH]
              have Gc : Grow ι H ι (upd H a (.dK (putK ps k.k v))) := .cell ha hw0 hw1
              exact q _ Gc (R.write ha (.inl ⟨_, upd_same, RepK.mono Gc _ _ (dputK r rz)⟩))
            rcases h1 with ⟨ps, h, r⟩ | ⟨ps, h, r⟩
            · exact fin ps _ h (by intro _ _ z; cases z) H I h r fun _ => rfl
            · obtain ⟨rfl, rfl⟩ := fits_a c.1 r
              exact fin [] _ h (by intro _ _ z; cases z) _ (Inv.emptyK I h) upd_same rfl fun _ => by funext b; by_cases z : b = a <;> simp [upd, z]
          | t k =>
            obtain ⟨b, rfl, eb⟩ := keyOf_t ek ry
            have fin : ∀ (ps : List (List Key × V)) (w0 : HO) (hw0 : H a = some w0) (hw1 : ∀ o u, w0 ≠ .frz o u) (H0 : Hp) (I0 : L2.Inv X pins σ H0 s), H0 a = some (.dT ps) → H0 b = some (.tup ((k.map AK.k).map kV)) → RepT X.K H ι kvs ps → (∀ H1, upd H0 a H1 = upd H a H1) → wpAny (model X.prog X.w) X.A (setItem (.ref a) iv u) (fun _ s' => ∃ H', L2.Inv X pins σ H' s' ∧ Q H') X.xe s := fun ps w0 hw0 hw1 H0 I0 h hb r hH => by
              refine d_setItem hu I0 (.t h hb (by rw [r.len, ← szL_eq]; exact c.2)) ri rv fun s' I' => ⟨_, I', ?_⟩
              rw [hH]
              have Gc : Grow ι H ι (upd H a (.dT (putK ps (k.map AK.k) v))) := .cell ha hw0 hw1
              exact q _ Gc (R.write ha (.inr ⟨_, upd_same, RepT.mono Gc _ _ (dputT r rz)⟩))
            rcases h1 with ⟨ps, h, r⟩ | ⟨ps, h, r⟩
            · obtain ⟨rfl, rfl⟩ := fits_t c.1 r
              exact fin [] _ h (by intro _ _ z; cases z) _ (Inv.emptyT I h) upd_same (by rw [upd_ne (ne_of eb h fun z => nomatch z)]; exact eb) rfl fun _ => by funext d; by_cases z : d = a <;> simp [upd, z]
            · exact fin ps _ h (by intro _ _ z; cases z) H I h eb r fun _ => rfl
        · cases e
      · cases e
    · cases e
  | _ => cases e
theorem mg_sub {k : Nat} (gx : GX EX k X) (ho : ME g EX X o O) (hi : ME g EX X i A) (ha : ∀ v, assign (.Subscript o i pos) X.env v = (do
      let ov ← holding [v] (eval o X.env)
      let iv ← holding [v, ov] (eval i X.env)
      standAt pos
      holding [v, ov, iv] (setItem ov iv v)
      release [v, ov, iv] []) := by intro _; rfl) : MG g X (.Subscript o i pos) (gSubM O A) := by
  have h := pg_sub (pos := pos) ho hi (put_gen (g := g) (X := X) (by have := gx.hu; omega)) ha
  refine ⟨fun pins s σ H v u Q I r q => h.run pins s σ H v u Q I r ?_⟩
  obtain ⟨ι, Λ, S, x, R, E, rv, p⟩ := q
  refine ⟨ι, Λ, S, R, E, ?_⟩
  unfold gSubM at p
  cases eo : O Λ S with
  | ok xo S1 =>
    rw [eo] at p
    intro ι1 H1 G1 R1 vo ro
    refine ⟨ι1, Λ, S1, R1, E.mono G1, ?_⟩
    simp only [Res.gbind_ok] at p
    cases ei : A Λ S1 with
    | ok y S2 =>
      rw [ei] at p
      simp only [Res.gbind_ok] at p
      intro ι2 H2 G2 R2 w rw'
      cases ep : opPut xo y x S2 with
      | none => rw [ep] at p; exact p.elim
      | some S3 =>
        rw [ep] at p
        refine ⟨ι2, S2, xo, y, x, S3, R2, Rep.mono G2 _ _ ro, rw', Rep.mono (G1.trans G2) _ _ rv, ep, fun H' G' R' => ?_⟩
        exact p ι2 H' σ ((G1.trans G2).trans G') R' (E.mono ((G1.trans G2).trans G'))
    | exc c S' => rw [ei] at p; exact p.elim
    | stuck => rw [ei] at p; exact p.elim
  | exc c S' => rw [eo] at p; exact p.elim
  | stuck => rw [eo] at p; exact p.elim
end
end Mir
end

section
set_option Elab.async false
set_option linter.all false
set_option maxRecDepth 100000
set_option maxHeartbeats 1000000
/-! MirI: what is walked; for. -/
namespace Mir
open PySem PySem.Spec PyProof.Rows L2

/-! ### values alike -/
mutual
def AV.eqb : AV → AV → Bool
  | .non, .non => true
  | .bl a, .bl b => a == b
  | .int a, .int b => a == b
  | .str a, .str b => a == b
  | .tup a, .tup b => AV.eqbs a b
  | .ktp a, .ktp b => AV.eqbs a b
  | .lst a, .lst b => AV.eqbs a b
  | .kst a, .kst b => AV.eqbs a b
  | .dct a, .dct b => AV.eqbd a b
  | .ref a, .ref b => a == b
  | .clo a, .clo b => a == b
  | _, _ => false
def AV.eqbs : List AV → List AV → Bool
  | [], [] => true
  | x :: xs, y :: ys => AV.eqb x y && AV.eqbs xs ys
  | _, _ => false
def AV.eqbd : List (DK × AV) → List (DK × AV) → Bool
  | [], [] => true
  | (k, x) :: xs, (l, y) :: ys => decide (k = l) && AV.eqb x y && AV.eqbd xs ys
  | _, _ => false
end
mutual
theorem AV.eqb_eq : ∀ (x y : AV), AV.eqb x y = true → x = y
  | .non, y, h => by cases y <;> simp_all [AV.eqb]
  | .bl a, y, h => by cases y <;> simp_all [AV.eqb]
  | .int a, y, h => by cases y <;> simp_all [AV.eqb]
  | .str a, y, h => by cases y <;> simp_all [AV.eqb]
  | .tup a, y, h => by cases y with
    | tup b => rw [AV.eqbs_eq a b (by simpa [AV.eqb] using h)]
    | _ => simp [AV.eqb] at h
  | .ktp a, y, h => by cases y with
    | ktp b => rw [AV.eqbs_eq a b (by simpa [AV.eqb] using h)]
    | _ => simp [AV.eqb] at h
  | .lst a, y, h => by cases y with
    | lst b => rw [AV.eqbs_eq a b (by simpa [AV.eqb] using h)]
    | _ => simp [AV.eqb] at h
  | .kst a, y, h => by cases y with
    | kst b => rw [AV.eqbs_eq a b (by simpa [AV.eqb] using h)]
    | _ => simp [AV.eqb] at h
  | .dct a, y, h => by cases y with
    | dct b => rw [AV.eqbd_eq a b (by simpa [AV.eqb] using h)]
    | _ => simp [AV.eqb] at h
  | .ref a, y, h => by cases y <;> simp_all [AV.eqb]
  | .clo a, y, h => by cases y <;> simp_all [AV.eqb]
theorem AV.eqbs_eq : ∀ (x y : List AV), AV.eqbs x y = true → x = y
  | [], [], _ => rfl
  | [], _ :: _, h => by simp [AV.eqbs] at h
  | _ :: _, [], h => by simp [AV.eqbs] at h
  | x :: xs, y :: ys, h => by
    simp only [AV.eqbs, Bool.and_eq_true] at h
    rw [AV.eqb_eq x y h.1, AV.eqbs_eq xs ys h.2]
theorem AV.eqbd_eq : ∀ (x y : List (DK × AV)), AV.eqbd x y = true → x = y
  | [], [], _ => rfl
  | [], _ :: _, h => by simp [AV.eqbd] at h
  | _ :: _, [], h => by simp [AV.eqbd] at h
  | (k, x) :: xs, (l, y) :: ys, h => by
    simp only [AV.eqbd, Bool.and_eq_true, decide_eq_true_eq] at h
    rw [h.1.1, AV.eqb_eq x y h.1.2, AV.eqbd_eq xs ys h.2]
end
mutual
theorem AV.eqb_self : ∀ (x : AV), AV.eqb x x = true
  | .non => by simp [AV.eqb]
  | .bl a => by simp [AV.eqb]
  | .int a => by simp [AV.eqb]
  | .str a => by simp [AV.eqb]
  | .tup a => by simp [AV.eqb, AV.eqbs_self a]
  | .ktp a => by simp [AV.eqb, AV.eqbs_self a]
  | .lst a => by simp [AV.eqb, AV.eqbs_self a]
  | .kst a => by simp [AV.eqb, AV.eqbs_self a]
  | .dct a => by simp [AV.eqb, AV.eqbd_self a]
  | .ref a => by simp [AV.eqb]
  | .clo a => by simp [AV.eqb]
theorem AV.eqbs_self : ∀ (x : List AV), AV.eqbs x x = true
  | [] => rfl
  | x :: xs => by simp [AV.eqbs, AV.eqb_self x, AV.eqbs_self xs]
theorem AV.eqbd_self : ∀ (x : List (DK × AV)), AV.eqbd x x = true
  | [] => rfl
  | (k, x) :: xs => by simp [AV.eqbd, AV.eqb_self x, AV.eqbd_self xs]
end
/-- the cell n still holds just these -/
def stays (n : Nat) (xs : List AV) (S : Store) : Bool := match S[n]? with
  | some (.lst ys) => AV.eqbs ys xs
  | _ => false
theorem stays_of {n : Nat} {xs : List AV} {S : Store} (h : stays n xs S = true) : S[n]? = some (.lst xs) := by
  unfold stays at h
  split at h
  · rename_i ys e
    rw [e, AV.eqbs_eq ys xs h]
  · cases h
theorem stays_iff {n : Nat} {xs : List AV} {S : Store} (h : S[n]? = some (.lst xs)) : stays n xs S = true := by
  unfold stays
  rw [h]
  exact AV.eqbs_self xs

/-! ### what is walked -/
structure Src where
  items : List AV
  keep : Store → Bool := fun _ => true
  lock : Option Nat := none
abbrev IM := LEnv → Store → Res Src
def unlS (l : Option Nat) (S : Store) : Store := match l with
  | none => S
  | some n => match S[n]? with
    | some (.lk kvs) => S.set n (.dct kvs)
    | _ => S
def SRes.unl (l : Option Nat) : SRes → SRes
  | .nx Λ S => .nx Λ (unlS l S)
  | .bk Λ S => .bk Λ (unlS l S)
  | .ct Λ S => .ct Λ (unlS l S)
  | .rt v S => .rt v (unlS l S)
  | .exc c S => .exc c S
  | .stuck => .stuck
def forL (keep : Store → Bool) (g : GM) (b : SM) : List AV → SM
  | [] => fun Λ S => if keep S = true then .nx Λ S else .stuck
  | x :: xs => fun Λ S => if keep S = true then (match g x Λ S with
    | .nx Λ1 S1 => match b Λ1 S1 with
      | .nx Λ2 S2 => forL keep g b xs Λ2 S2
      | .ct Λ2 S2 => forL keep g b xs Λ2 S2
      | .bk Λ2 S2 => .nx Λ2 S2
      | .rt v S2 => .rt v S2
      | .exc c S2 => .exc c S2
      | .stuck => .stuck
    | _ => .stuck) else .stuck
def sFor (it : IM) (g : GM) (b : SM) : SM := fun Λ S => (it Λ S).sbind fun src S1 => (forL src.keep g b src.items Λ S1).unl src.lock

/-! a thing that is locked as its value comes -/
section
variable {X : Cx} {e : Expr}
theorem pe_lk {t : TE} (h : PE X e t) : PE X e (fun σ H Q => t σ H fun x H1 => (∃ d u, x = .ref d ∧ H1 d = some u ∧ Mut (some u) ∧ ((∀ o' u', X.H_0 d ≠ some (.frz o' u')) → ∀ od, Q x (upd H1 d (.frz od u)))) ∨ Q x H1) := by
  refine ⟨fun pins s σ H Q I q => thn (h.run pins s σ H _ I q) fun v s1 ⟨x, H1, I1, r, q1⟩ => ?_⟩
  rcases q1 with ⟨d, u, ex, hd, mu, q1⟩ | q1
  · obtain ⟨od, I2⟩ := I1.lock hd mu
    exact ⟨x, _, I2, r, q1 (I1.nofrz hd mu) od⟩
  · exact ⟨x, H1, I1, r, q1⟩
/-- an empty dict taken for one of the other kind, as its value comes -/
theorem pe_asK {t : TE} (h : PE X e t) : PE X e (fun σ H Q => t σ H fun x H1 => (∃ d, x = .ref d ∧ H1 d = some (.dT []) ∧ Q x (upd H1 d (.dK []))) ∨ Q x H1) := by
  refine ⟨fun pins s σ H Q I q => thn (h.run pins s σ H _ I q) fun v s1 ⟨x, H1, I1, r, q1⟩ => ?_⟩
  rcases q1 with ⟨d, ex, hd, q1⟩ | q1
  · exact ⟨x, _, Inv.emptyK I1 hd, r, q1⟩
  · exact ⟨x, H1, I1, r, q1⟩
/-- behind the statement a thing is unlocked -/
def Unl (X : Cx) (P : Hp → Prop) (H : Hp) : Prop := P H ∨ ∃ d od u, H d = some (.frz od u) ∧ (∀ o' u', X.H_0 d ≠ some (.frz o' u')) ∧ P (upd H d u)
theorem ps_unl {st : Stmt} {t : TS} (h : PS X st t) : PS X st (fun D σ H => t ⟨fun σ' => Unl X (D.nx σ'), fun v => Unl X (D.rt v), fun σ' => Unl X (D.bk σ'), fun σ' => Unl X (D.ct σ')⟩ σ H) := by
  refine ⟨fun pins s σ H D I hw => thn (h.run pins s σ H _ I hw) fun f s1 q => ?_⟩
  cases f with
  | next =>
    obtain ⟨σ', H', I2, q⟩ := q
    rcases q with q | ⟨d, od, u, e, hn, q⟩
    · exact ⟨σ', H', I2, q⟩
    · exact ⟨σ', _, I2.unlock e hn, q⟩
  | brk =>
    obtain ⟨σ', H', I2, q⟩ := q
    rcases q with q | ⟨d, od, u, e, hn, q⟩
    · exact ⟨σ', H', I2, q⟩
    · exact ⟨σ', _, I2.unlock e hn, q⟩
  | cont =>
    obtain ⟨σ', H', I2, q⟩ := q
    rcases q with q | ⟨d, od, u, e, hn, q⟩
    · exact ⟨σ', H', I2, q⟩
    · exact ⟨σ', _, I2.unlock e hn, q⟩
  | ret v =>
    obtain ⟨x, σ', H', I2, r, q⟩ := q
    rcases q with q | ⟨d, od, u, e, hn, q⟩
    · exact ⟨x, σ', H', I2, r, q⟩
    · exact ⟨x, σ', _, I2.unlock e hn, r, q⟩
theorem pe_unl {t : TE} (h : PE X e t) : PE X e (fun σ H Q => t σ H fun x => Unl X (Q x)) := by
  refine ⟨fun pins s σ H Q I hw => thn (h.run pins s σ H _ I hw) fun v s1 ⟨x, H1, I1, r, q⟩ => ?_⟩
  rcases q with q | ⟨d, od, u, ed, hn, q⟩
  · exact ⟨x, H1, I1, r, q⟩
  · exact ⟨x, _, I1.unlock ed hn, r, q⟩
end

/-- H is the heap Hh, hidden things shown -/
structure Sees (Hh H : Hp) : Prop where
  up : ∀ a o, Hh a = some o → (∀ od, o ≠ .frz od (.own 0)) → H a = some o
  tup : ∀ a vs, H a = some (.tup vs) → Hh a = some (.tup vs)
theorem Sees.refl (H : Hp) : Sees H H := ⟨fun _ _ h _ => h, fun _ _ h => h⟩
theorem Sees.sqL {K : PySem.W.Frag} {Hh H : Hp} (s : Sees Hh H) {a : Addr} {vs : List V} (h : SqL K Hh a vs) : SqL K H a vs := by
  rcases h with h | h
  · rcases h with h | ⟨o, h⟩
    · exact .inl (.inl (s.up _ _ h (by intro _ z; cases z)))
    · exact .inl (.inr ⟨o, s.up _ _ h (by intro _ z; cases z)⟩)
  · exact .inr h
theorem Sees.sqT {K : PySem.W.Frag} {Hh H : Hp} (s : Sees Hh H) {a : Addr} {vs : List V} (h : SqT K Hh a vs) : SqT K H a vs := by
  rcases h with h | h
  · rcases h with h | ⟨o, h⟩
    · exact .inl (.inl (s.up _ _ h (by intro _ z; cases z)))
    · exact .inl (.inr ⟨o, s.up _ _ h (by intro _ z; cases z)⟩)
  · exact .inr h
/-- J walks src's items, from where the heap is H0 -/
def WalkM (K : PySem.W.Frag) (g : G) (ι0 : List Addr) (H0 : Hp) (J : It) (src : Src) : Prop := ∃ (G : Hp → Prop) (Y : Nat → Hp → V → Hp → Prop), Walk J src.items.length G Y ∧
  (∀ ι S Hh H, Grow ι0 H0 ι Hh → Rel K Hh ι g S → src.keep S = true → Sees Hh H → G H) ∧
  ∀ i ι S Hh H v H' x, Grow ι0 H0 ι Hh → Rel K Hh ι g S → src.keep S = true → Sees Hh H → src.items[i]? = some x → Y i H v H' →
    (H' = H ∧ Rep K Hh ι x v) ∨ ∃ T xs ws, x = .tup xs ∧ v = .ref T ∧ H T = none ∧ H' = upd H T (.tup ws) ∧ Reps K Hh ι xs ws
/-- the lock may be undone -/
def LkOk (X : Cx) (ι : List Addr) (l : Option Nat) : Prop := ∀ n, l = some n → ∃ a, ι[n]? = some a ∧ ∀ o' u', X.H_0 a ≠ some (.frz o' u')
def xI (X : Cx) (g : G) (EX : XK) (F : IM) : TI := fun σ H R => ∃ ι Λ S, Rel X.K H ι g S ∧ REnv X.K H ι Λ σ ∧ Post X.K g EX ι H (F Λ S) fun src ι' S' H' => LkOk X ι' src.lock → (∀ n a, src.lock = some n → ι'[n]? = some a → ∀ o u, H a ≠ some (.frz o u)) → ∀ J, WalkM X.K g ι' H' J src → R J H'
def MI (g : G) (EX : XK) (X : Cx) (tg e : Expr) (F : IM) : Prop := PI X tg e (xI X g EX F)
theorem PI.imp {X : Cx} {tg e : Expr} {t t' : TI} (h : PI X tg e t) (k : ∀ σ H R, t' σ H R → t σ H R) : PI X tg e t' := ⟨fun pins s σ H R I q => h.run pins s σ H R I (k _ _ _ q)⟩
theorem PI.or {X : Cx} {tg e : Expr} {t t' : TI} (h : PI X tg e t) (h' : PI X tg e t') : PI X tg e (fun σ H R => t σ H R ∨ t' σ H R) := ⟨fun pins s σ H R I q => q.elim (h.run pins s σ H R I) (h'.run pins s σ H R I)⟩
section
variable {g : G} {EX : XK} {X : Cx} {H : Hp} {ι : List Addr} {S : Store}
variable {a b c e o tg : Expr} {A B C O : EM} {F : IM} {pos : Pos}
/-- the lock undone -/
theorem unl_ok {P : Hp → Prop} {l : Option Nat} {ι0 : List Addr} {H0 : Hp} (G0 : Grow ι0 H0 ι H) (hl : LkOk X ι l) (hn : ∀ n a, l = some n → ι[n]? = some a → ∀ o u, H0 a ≠ some (.frz o u)) (R : Rel X.K H ι g S) (h : ∀ H', GrowW ι H ι H' → Grow ι0 H0 ι H' → Rel X.K H' ι g (unlS l S) → P H') : Unl X P H := by
  cases l with
  | none => exact .inl (h H (Grow.refl _ _).toGrowW G0 R)
  | some n =>
    unfold unlS at h
    dsimp only at h
    split at h
    · rename_i kvs es
      obtain ⟨a, ha, hx⟩ := hl n rfl
      obtain ⟨a', ha', od, h1⟩ := R.at es
      rw [ha] at ha'; cases ha'
      have hf := hn n a rfl ha
      have Gw : ∀ w : HO, (∀ ps, w ≠ .tbl ps) → Grow ι0 H0 ι (upd H a w) := fun w hw => ⟨G0.toGrowW.trans (.cell ha hw), fun b o u e => by
        rw [upd_ne fun z => by rw [z] at e; exact hf _ _ e]
        exact G0.frz b o u e⟩
      rcases h1 with ⟨ps, h1, r⟩ | ⟨ps, h1, r⟩
      · have Gc : GrowW ι H ι (upd H a (.dK ps)) := .cell ha
        exact .inr ⟨a, od, _, h1, hx, h _ Gc (Gw _ (fun _ z => by cases z)) (R.write ha (.inl ⟨ps, upd_same, RepK.monoW Gc _ _ r⟩))⟩
      · have Gc : GrowW ι H ι (upd H a (.dT ps)) := .cell ha
        exact .inr ⟨a, od, _, h1, hx, h _ Gc (Gw _ (fun _ z => by cases z)) (R.write ha (.inr ⟨ps, upd_same, RepT.monoW Gc _ _ r⟩))⟩
    · exact .inl (h H (Grow.refl _ _).toGrowW G0 R)
theorem LkOk.grow {ι' : List Addr} {H' : Hp} {l : Option Nat} (h : LkOk X ι l) (G : Grow ι H ι' H') : LkOk X ι' l := fun n e => let ⟨a, h1, h2⟩ := h n e; ⟨a, G.at h1, h2⟩
theorem forL_keep {keep : Store → Bool} {P : GM} {M : SM} {xs : List AV} {Λ : LEnv} {D : Ends} (h : SPost X.K g EX ι H (forL keep P M xs Λ S) D) : keep S = true := by
  by_cases k : keep S = true
  · exact k
  · cases xs with
    | nil => unfold forL at h; rw [if_neg k] at h; exact h.elim
    | cons x xs => unfold forL at h; rw [if_neg k] at h; exact h.elim
theorem ms_for {body : List Stmt} {P : GM} {M : SM} (hp : PassesOwn (model X.prog X.w) X.A X.env X.xe) (hc : X.calm = true) (hi : MI g EX X tg e F) (hg : MG g X tg P) (hb : MSs g EX X body M) (hs : ∀ x, foldedSetIterable e X.env x = pure x := by intro _; rfl) :
    MS g EX X (.For tg e body [] pos) (sFor F P M) := by
  refine PS.imp (ps_unl (ps_for hp hc hi hg hb hs)) fun D σ H ⟨ι, Λ, S, R, E, p⟩ => ⟨ι, Λ, S, R, E, (Post.sbind' p).mono fun src ι1 S1 H1 G1 R1 ⟨_, p1⟩ lk nf J ⟨G, Y, W, hG, hY⟩ => ?_⟩
  have E1 := E.mono G1
  -- what is wanted of the loop
  have lnf : ∀ {ι' : List Addr} {H' : Hp}, Grow ι1 H1 ι' H' → ∀ n a, src.lock = some n → ι'[n]? = some a → ∀ o u, H a ≠ some (.frz o u) := fun G' n a e1 e2 => by
    obtain ⟨a', h1, _⟩ := lk n e1
    have h2 := G'.at h1
    rw [e2] at h2
    cases h2
    exact nf n a e1 h1
  have q1 : SPost X.K g EX ι1 H1 (forL src.keep P M src.items Λ S1) ⟨fun σ' => Unl X (D.nx σ'), fun v => Unl X (D.rt v), fun σ' => Unl X (D.bk σ'), fun σ' => Unl X (D.ct σ')⟩ := by
    cases er : forL src.keep P M src.items Λ S1 with
    | nx Λ' S' => rw [er] at p1; exact fun ι' H' σ' G' R' E' => unl_ok (G1.trans G') (lk.grow G') (lnf G') R' fun H2 Gw G2 R2 => p1 ι' H2 σ' G2 R2 (E'.monoW Gw)
    | bk Λ' S' => rw [er] at p1; exact fun ι' H' σ' G' R' E' => unl_ok (G1.trans G') (lk.grow G') (lnf G') R' fun H2 Gw G2 R2 => p1 ι' H2 σ' G2 R2 (E'.monoW Gw)
    | ct Λ' S' => rw [er] at p1; exact fun ι' H' σ' G' R' E' => unl_ok (G1.trans G') (lk.grow G') (lnf G') R' fun H2 Gw G2 R2 => p1 ι' H2 σ' G2 R2 (E'.monoW Gw)
    | rt v S' => rw [er] at p1; exact fun ι' H' w G' R' E' => unl_ok (G1.trans G') (lk.grow G') (lnf G') R' fun H2 Gw G2 R2 => p1 ι' H2 w G2 R2 (Rep.monoW Gw v w E')
    | exc c S' => rw [er] at p1; exact fun ι' H' d G' R' => p1 ι' H' d (G1.trans G') R'
    | stuck => rw [er] at p1; exact p1.elim
  generalize hD : (⟨fun σ' => Unl X (D.nx σ'), fun v => Unl X (D.rt v), fun σ' => Unl X (D.bk σ'), fun σ' => Unl X (D.ct σ')⟩ : Ends) = D' at q1 ⊢
  refine for_it W (fun i σ H => ∃ ι Λ S, Grow ι1 H1 ι H ∧ Rel X.K H ι g S ∧ REnv X.K H ι Λ σ ∧ SPost X.K g EX ι H (forL src.keep P M (src.items.drop i) Λ S) D') ⟨ι1, Λ, S1, .refl _ _, R1, E1, q1⟩ ?_ ?_ ?_
  · rintro i σ H hi ⟨ι, Λ, S, G2, R2, E2, q⟩
    exact hG ι S H H G2 R2 (forL_keep q) (.refl _)
  · rintro i v σ H H' hi ⟨ι, Λ, S, G2, R2, E2, q⟩ y
    have hk := forL_keep q
    have hy := hY i ι S H H v H' src.items[i] G2 R2 hk (.refl _) (List.getElem?_eq_getElem hi) y
    obtain ⟨G3, R3, hx⟩ : Grow ι H ι H' ∧ Rel X.K H' ι g S ∧ Rep X.K H' ι src.items[i] v := by
      rcases hy with ⟨rfl, r⟩ | ⟨T, xs, ws, e, rfl, hT, rfl, r⟩
      · exact ⟨.refl _ _, R2, r⟩
      · exact ⟨.fresh hT, R2.fresh hT, by rw [e]; exact R2.newTup hT r⟩
    have ei : src.items.drop i = src.items[i] :: src.items.drop (i + 1) := by rw [List.drop_eq_getElem_cons hi]
    rw [ei] at q
    simp only [forL, if_pos hk] at q
    refine ⟨ι, Λ, S, src.items[i], R3, E2.mono G3, hx, ?_⟩
    cases ep : P src.items[i] Λ S with
    | nx Λ1 S1' =>
      rw [ep] at q
      dsimp only at q ⊢
      refine fun ι' H2 σ' G4 R4 E4 => ⟨ι', Λ1, S1', R4, E4, ?_⟩
      have G5 : Grow ι1 H1 ι' H2 := (G2.trans G3).trans G4
      cases eb : M Λ1 S1' with
      | nx Λ2 S2 => rw [eb] at q; exact fun ι3 H3 σ3 G6 R6 E6 => ⟨ι3, Λ2, S2, G5.trans G6, R6, E6, SPost.grow ((G3.trans G4).trans G6) q⟩
      | ct Λ2 S2 => rw [eb] at q; exact fun ι3 H3 σ3 G6 R6 E6 => ⟨ι3, Λ2, S2, G5.trans G6, R6, E6, SPost.grow ((G3.trans G4).trans G6) q⟩
      | bk Λ2 S2 => rw [eb] at q; exact fun ι3 H3 σ3 G6 R6 E6 => q ι3 H3 σ3 ((G3.trans G4).trans G6) R6 E6
      | rt w S2 => rw [eb] at q; exact fun ι3 H3 w3 G6 R6 E6 => q ι3 H3 w3 ((G3.trans G4).trans G6) R6 E6
      | exc c S2 => rw [eb] at q; exact fun ι3 H3 d G6 R6 => q ι3 H3 d ((G3.trans G4).trans G6) R6
      | stuck => rw [eb] at q; exact q.elim
    | _ => rw [ep] at q; exact q.elim
  · rintro σ H ⟨ι, Λ, S, G2, R2, E2, q⟩
    have hk := forL_keep q
    rw [List.drop_length] at q
    simp only [forL, if_pos hk] at q
    exact q ι H σ (.refl _ _) R2 E2

/-! ### the things walked -/
/-- a list, a tuple, the script, a dict's keys (locked), a text -/
def srcOf (S : Store) (x : AV) : Option (Src × Store) := match x with
  | .kst xs => some ({ items := xs }, S)
  | .lst xs => some ({ items := xs }, S)
  | .tup xs => some ({ items := xs }, S)
  | .ktp xs => some ({ items := xs }, S)
  | .str z => some ({ items := z.map fun c => .str [c] }, S)
  | .ref n => match S[n]? with
    | some (.lst xs) => some ({ items := xs, keep := stays n xs }, S)
    | _ => none
  | _ => none
def iSeq (a : EM) : IM := fun Λ S => (a Λ S).bind fun x S1 => match srcOf S1 x with
  | some (src, S2) => .ok src S2
  | none => .stuck
theorem walkM_list {K : PySem.W.Frag} {ι0 : List Addr} {H0 : Hp} {xs : List AV} {a : Addr} {keep : Store → Bool} {l : Option Nat} (h : ∀ ι S H, Grow ι0 H0 ι H → Rel K H ι g S → keep S = true → ∃ vs, SqL K H a vs ∧ Reps K H ι xs vs) : WalkM K g ι0 H0 (Itl K a) ⟨xs, keep, l⟩ := by
  refine ⟨fun H => ∃ vs : List V, vs.length = xs.length ∧ SqL K H a vs, fun i H x H' => H' = H ∧ ∀ vs, SqL K H a vs → vs[i]? = some x, ⟨?_, ?_, ?_⟩, ?_, ?_⟩
  · rintro i H hi ⟨vs', e, q⟩
    have hi : i < xs.length := hi
    exact ⟨vs', vs'[i]'(by omega), q, by simp [show i < vs'.length by omega]⟩
  · rintro H ⟨vs', e, q⟩
    exact ⟨vs', q, by show vs'.length ≤ xs.length; omega⟩
  · rintro i H x H' hi _ y
    exact y
  · intro ι S Hh H G R k sh
    obtain ⟨vs', q, r⟩ := h ι S Hh G R k
    exact ⟨vs', r.len, sh.sqL q⟩
  · rintro i ι S Hh H v H' x G R k sh ex ⟨e, y⟩
    obtain ⟨vs2, q2, r2⟩ := h ι S Hh G R k
    obtain ⟨w, ew, rw'⟩ := r2.get ex
    rw [y _ (sh.sqL q2)] at ew
    cases ew
    exact .inl ⟨e, rw'⟩
theorem walkM_tup {K : PySem.W.Frag} {ι0 : List Addr} {H0 : Hp} {xs : List AV} {a : Addr} {keep : Store → Bool} {l : Option Nat} (h : ∀ ι S H, Grow ι0 H0 ι H → Rel K H ι g S → keep S = true → ∃ vs, SqT K H a vs ∧ Reps K H ι xs vs) : WalkM K g ι0 H0 (Itt K a) ⟨xs, keep, l⟩ := by
  refine ⟨fun H => ∃ vs : List V, vs.length = xs.length ∧ SqT K H a vs, fun i H x H' => H' = H ∧ ∀ vs, SqT K H a vs → vs[i]? = some x, ⟨?_, ?_, ?_⟩, ?_, ?_⟩
  · rintro i H hi ⟨vs', e, q⟩
    have hi : i < xs.length := hi
    exact ⟨vs', vs'[i]'(by omega), q, by simp [show i < vs'.length by omega]⟩
  · rintro H ⟨vs', e, q⟩
    exact ⟨vs', q, by show vs'.length ≤ xs.length; omega⟩
  · rintro i H x H' hi _ y
    exact y
  · intro ι S Hh H G R k sh
    obtain ⟨vs', q, r⟩ := h ι S Hh G R k
    exact ⟨vs', r.len, sh.sqT q⟩
  · rintro i ι S Hh H v H' x G R k sh ex ⟨e, y⟩
    obtain ⟨vs2, q2, r2⟩ := h ι S Hh G R k
    obtain ⟨w, ew, rw'⟩ := r2.get ex
    rw [y _ (sh.sqT q2)] at ew
    cases ew
    exact .inl ⟨e, rw'⟩
/-- what stays as it is -/
theorem walkM_pure {K : PySem.W.Frag} {ι0 : List Addr} {H0 : Hp} {xs : List AV} {J : It} {l : Option Nat} {G : Hp → Prop} {Y : Nat → Hp → V → Hp → Prop} (W : Walk J xs.length G Y) (hG : ∀ ι S Hh H, Grow ι0 H0 ι Hh → Rel K Hh ι g S → Sees Hh H → G H)
    (hY : ∀ i ι S Hh H v H' x, Grow ι0 H0 ι Hh → Rel K Hh ι g S → Sees Hh H → Y i H v H' → xs[i]? = some x → H' = H ∧ Rep K Hh ι x v) : WalkM K g ι0 H0 J ⟨xs, fun _ => true, l⟩ :=
  ⟨G, Y, W, fun ι S Hh H G R _ sh => hG ι S Hh H G R sh, fun i ι S Hh H v H' x G R _ sh ex y => .inl (hY i ι S Hh H v H' x G R sh y ex)⟩
theorem mi_seq (ha : ME g EX X a A) : MI g EX X tg a (iSeq A) := by
  refine PI.imp (PI.or (pi_list ha) (PI.or (pi_tup ha) (pi_str ha))) fun σ H Rr ⟨ι, Λ, S, R, E, p⟩ => ?_
  unfold iSeq at p
  -- which of the three it is, by the value
  cases ea : A Λ S with
  | exc c S' =>
    rw [ea] at p
    refine .inl ⟨ι, Λ, S, R, E, ?_⟩
    rw [ea]
    exact p
  | stuck => rw [ea] at p; exact p.elim
  | ok x S1 =>
    rw [ea] at p
    simp only [Res.bind_ok] at p
    have list : ∀ (xs : List AV), srcOf S1 x = some ({ items := xs }, S1) → (∀ ι' H' v, Grow ι H ι' H' → Rel X.K H' ι' g S1 → Rep X.K H' ι' x v → ∃ a vs, v = .ref a ∧ ∀ ι2 S2 H2, Grow ι' H' ι2 H2 → Rel X.K H2 ι2 g S2 → SqL X.K H2 a vs ∧ Reps X.K H2 ι2 xs vs) →
        xE X.K g EX A σ H (fun x H1 => ∃ a, x = .ref a ∧ (∃ xs, SqL X.K H1 a xs) ∧ Rr (Itl X.K a) H1) := fun xs es hq => by
      rw [es] at p
      refine ⟨ι, Λ, S, R, E, ?_⟩
      rw [ea]
      intro ι' H' G' R' v rv
      obtain ⟨a, vs, e, h⟩ := hq ι' H' v G' R' rv
      exact ⟨a, e, ⟨vs, (h ι' S1 H' (.refl _ _) R').1⟩, p ι' H' G' R' (fun _ h => nomatch h) (fun _ _ h => nomatch h) _ (walkM_list fun ι2 S2 H2 G2 R2 _ => ⟨vs, h ι2 S2 H2 G2 R2⟩)⟩
    have tup : ∀ (xs : List AV), srcOf S1 x = some ({ items := xs }, S1) → (∀ ι' H' v, Grow ι H ι' H' → Rel X.K H' ι' g S1 → Rep X.K H' ι' x v → ∃ a vs, v = .ref a ∧ ∀ ι2 S2 H2, Grow ι' H' ι2 H2 → Rel X.K H2 ι2 g S2 → SqT X.K H2 a vs ∧ Reps X.K H2 ι2 xs vs) →
        xE X.K g EX A σ H (fun x H1 => ∃ a, x = .ref a ∧ (∃ xs, SqT X.K H1 a xs) ∧ Rr (Itt X.K a) H1) := fun xs es hq => by
      rw [es] at p
      refine ⟨ι, Λ, S, R, E, ?_⟩
      rw [ea]
      intro ι' H' G' R' v rv
      obtain ⟨a, vs, e, h⟩ := hq ι' H' v G' R' rv
      exact ⟨a, e, ⟨vs, (h ι' S1 H' (.refl _ _) R').1⟩, p ι' H' G' R' (fun _ h => nomatch h) (fun _ _ h => nomatch h) _ (walkM_tup fun ι2 S2 H2 G2 R2 _ => ⟨vs, h ι2 S2 H2 G2 R2⟩)⟩
    cases x with
    | lst xs =>
      refine .inl (list xs rfl fun ι' H' v G' R' ⟨a, vs, e, t, r⟩ => ⟨a, vs, e, fun ι2 S2 H2 G2 R2 => ⟨(G2.lst t).sq, Reps.mono G2 _ _ r⟩⟩)
    | kst xs =>
      refine .inl (list xs rfl fun ι' H' v G' R' ⟨a, vs, e, t, r⟩ => ⟨a, vs, e, fun ι2 S2 H2 G2 R2 => ⟨(G2.kst t).sq, Reps.mono G2 _ _ r⟩⟩)
    | tup xs =>
      refine .inr (.inl (tup xs rfl fun ι' H' v G' R' ⟨a, vs, e, t, r⟩ => ⟨a, vs, e, fun ι2 S2 H2 G2 R2 => ⟨(G2.tup t).sq, Reps.mono G2 _ _ r⟩⟩))
    | ktp xs =>
      refine .inr (.inl (tup xs rfl fun ι' H' v G' R' ⟨a, vs, e, t, r⟩ => ⟨a, vs, e, fun ι2 S2 H2 G2 R2 => ⟨.inr t, Reps.mono G2 _ _ r⟩⟩))
    | str z =>
      refine .inr (.inr ⟨ι, Λ, S, R, E, ?_⟩)
      rw [ea]
      intro ι' H' G' R' v rv
      cases rv
      refine ⟨_, rfl, p ι' H' G' R' (fun _ h => nomatch h) (fun _ _ h => nomatch h) _ ?_⟩
      have hz : (toS z).cps.size = (z.map fun c => AV.str [c]).length := by simp [toS]
      refine walkM_pure (by rw [← hz]; exact walk_str) (fun _ _ _ _ _ _ _ => trivial) fun i ι S Hh H v H' x _ _ _ y ex => ?_
      obtain ⟨h1, c, h2, h3⟩ := y
      refine ⟨h1, ?_⟩
      subst h3
      have h2 : z[i]? = some c := by simpa [toS] using h2
      rw [List.getElem?_map, h2] at ex
      cases ex
      rfl
    | ref n =>
      cases es : S1[n]? with
      | none => simp [srcOf, es] at p; exact p.elim
      | some cl =>
        cases cl with
        | lst xs =>
          simp only [srcOf, es] at p
          refine .inl ⟨ι, Λ, S, R, E, ?_⟩
          rw [ea]
          intro ι' H' G' R' v rv
          obtain ⟨a, e, ha⟩ := rv
          have key : ∀ ι2 S2 H2, Grow ι' H' ι2 H2 → Rel X.K H2 ι2 g S2 → S2[n]? = some (.lst xs) → ∃ vs, SqL X.K H2 a vs ∧ Reps X.K H2 ι2 xs vs := fun ι2 S2 H2 G2 R2 e2 => by
            obtain ⟨a', ha', vs, h1, h2⟩ := R2.at e2
            rw [G2.at ha] at ha'; cases ha'
            exact ⟨vs, .inl (.inl h1), h2⟩
          obtain ⟨vs, h1, _⟩ := key ι' S1 H' (.refl _ _) R' es
          exact ⟨a, e, ⟨vs, h1⟩, p ι' H' G' R' (fun _ h => nomatch h) (fun _ _ h => nomatch h) _ (walkM_list fun ι2 S2 H2 G2 R2 k => key ι2 S2 H2 G2 R2 (stays_of k))⟩
        | _ => simp [srcOf, es] at p; exact p.elim
    | _ => simp [srcOf] at p; exact p.elim
end
end Mir
end

section
set_option Elab.async false
set_option linter.all false
set_option maxRecDepth 100000
set_option maxHeartbeats 1000000
/-! MirJ: ranges, dicts, enumerate, zip walked. -/
namespace Mir
open PySem PySem.Spec PyProof.Rows L2

def rng62 (i : Int) : Bool := decide (-(2 ^ 62) ≤ i) && decide (i < 2 ^ 62)
def iRange1 (a : EM) : IM := fun Λ S => (a Λ S).bind fun x S1 => match x with
  | .int j => if rng62 j = true then .ok { items := (List.range j.toNat).map fun (k : Nat) => .int k } S1 else .stuck
  | _ => .stuck
def iRange2 (a b : EM) : IM := fun Λ S => (a Λ S).bind fun x S1 => (b Λ S1).bind fun y S2 => match x, y with
  | .int i, .int j => if rng62 i = true ∧ rng62 j = true then .ok { items := (List.range (j - i).toNat).map fun (k : Nat) => .int (i + k) } S2 else .stuck
  | _, _ => .stuck
def iRange3 (a b c : EM) : IM := fun Λ S => (a Λ S).bind fun x S1 => (b Λ S1).bind fun y S2 => (c Λ S2).bind fun z S3 => match x, y, z with
  | .int i, .int j, .int c => if c ≠ 0 ∧ c.natAbs < 1073741824 ∧ Builtin.Range.small i j c = true ∧ 0 ≤ Builtin.Range.rangeSize i j c then .ok { items := (List.range (Builtin.Range.rangeSize i j c).toNat).map fun (k : Nat) => .int (i + k * c) } S3 else .stuck
  | _, _, _ => .stuck
def akV : AK → AV
  | .i n => .int n
  | .s x => .str x
def dkV : DK → AV
  | .a k => akV k
  | .t ks => .tup (ks.map akV)
def dKeys (kvs : List (DK × AV)) : List AV := kvs.map fun p => dkV p.1
def dVals (kvs : List (DK × AV)) : List AV := kvs.map (·.2)
def dItems (kvs : List (DK × AV)) : List AV := kvs.map fun p => .tup [dkV p.1, p.2]
/-- all keys are ints and texts -/
def flatK (kvs : List (DK × AV)) : Bool := kvs.all fun p => isAk p.1
/-- a dict's walk: all kinds of keys (t), or ints and texts alone -/
def dSrc (t : Bool) (f : List (DK × AV) → List AV) (S : Store) (x : AV) : Option (Src × Store) := match x with
  | .dct kvs => if (t || flatK kvs) = true then some ({ items := f kvs }, S) else none
  | .ref n => match S[n]? with
    | some (.dct kvs) => if (t || flatK kvs) = true then some ({ items := f kvs, lock := some n }, S.set n (.lk kvs)) else none
    | some (.lk kvs) => if (t || flatK kvs) = true ∧ kvs ≠ [] then some ({ items := f kvs }, S) else none
    | _ => none
  | _ => none
def iDict (t : Bool) (f : List (DK × AV) → List AV) (a : EM) : IM := fun Λ S => (a Λ S).bind fun x S1 => match dSrc t f S1 x with
  | some (src, S2) => .ok src S2
  | none => .stuck
/-- enumerate(list) -/
def enumA (xs : List AV) : List AV := (List.range xs.length).zipWith (fun (i : Nat) x => .tup [.int i, x]) xs
def seqSrc (S : Store) (x : AV) : Option (List AV × (Store → Bool)) := match x with
  | .lst xs => some (xs, fun _ => true)
  | .kst xs => some (xs, fun _ => true)
  | .ref n => match S[n]? with
    | some (.lst xs) => some (xs, stays n xs)
    | _ => none
  | _ => none
def iEnumM (a : EM) : IM := fun Λ S => (a Λ S).bind fun x S1 => match seqSrc S1 x with
  | some (ys, k) => .ok { items := enumA ys, keep := k } S1
  | none => .stuck
def zipA (xs ys : List AV) : List AV := xs.zipWith (fun x y => .tup [x, y]) ys
def iZipM (a b : EM) : IM := fun Λ S => (a Λ S).bind fun x S1 => (b Λ S1).bind fun y S2 => match seqSrc S2 x, seqSrc S2 y with
  | some (xs, k), some (ys, l) => .ok { items := zipA xs ys, keep := fun S => k S && l S } S2
  | _, _ => match tupOf x, tupOf y with
    | some xs, some ys => .ok { items := zipA xs ys } S2
    | _, _ => .stuck
section
variable {g : G} {EX : XK} {X : Cx} {H : Hp} {ι : List Addr} {S : Store}
variable {a b c e o tg : Expr} {A B C O : EM} {F : AM} {pos p tpos apos cpos : Pos} {elts : List Expr} {kk : Nat}
theorem Reps.one' {K : PySem.W.Frag} {x : AV} {vs : List V} (r : Reps K H ι [x] vs) : ∃ v, vs = [v] ∧ Rep K H ι x v := by
  obtain ⟨v, ws, e, h, h2⟩ := r
  have : ws = [] := h2
  subst this
  exact ⟨v, e, h⟩
theorem Reps.two' {K : PySem.W.Frag} {x y : AV} {vs : List V} (r : Reps K H ι [x, y] vs) : ∃ v w, vs = [v, w] ∧ Rep K H ι x v ∧ Rep K H ι y w := by
  obtain ⟨v, ws, e, h, h2⟩ := r
  obtain ⟨w, rfl, h3⟩ := h2.one'
  exact ⟨v, w, e, h, h3⟩
theorem walkM_rng {K : PySem.W.Frag} {ι0 : List Addr} {H0 : Hp} {i : Int} {n : Nat} : WalkM K g ι0 H0 (Itr i n) { items := (List.range n).map fun (k : Nat) => AV.int (i + k) } := by
  refine walkM_pure (by rw [List.length_map, List.length_range]; exact walk_range) (fun _ _ _ _ _ _ _ => trivial) fun j ι S Hh H v H' x _ _ _ y ex => ?_
  obtain ⟨h1, h2⟩ := y
  rw [List.getElem?_map] at ex
  by_cases hj : j < n
  · rw [List.getElem?_range hj] at ex
    cases ex
    exact ⟨h1, h2⟩
  · rw [List.getElem?_eq_none (by simpa using hj)] at ex
    cases ex
theorem rng62_of {j : Int} (h : rng62 j = true) : -(2 ^ 62) ≤ j ∧ j < 2 ^ 62 := by
  unfold rng62 at h
  rw [Bool.and_eq_true, decide_eq_true_iff, decide_eq_true_iff] at h
  exact h
theorem mi_range1 (hm : X.mg "range" = none) (ha : ME g EX X a A) (hg : Gl X "range" := by rfl) (hs : starEach [a] X.env = [(false, eval a X.env)] := by rfl) : MI g EX X tg (.Call (.Name "range" p) [a] [] pos) (iRange1 A) := by
  refine PI.imp (pi_range1 hg hm (pa_cons ha pa_nil hs) hs) fun σ H Rr ⟨ι, Λ, S, R, E, p⟩ => ⟨ι, Λ, S, R, E, (Post.bind' p).mono fun x ι1 S1 H1 G1 R1 ⟨_, p1⟩ v r => ?_⟩
  cases x with
  | int j =>
    cases r
    dsimp only at p1
    split at p1
    · rename_i hj
      obtain ⟨h1, h2⟩ := rng62_of hj
      have := walkM_rng (g := g) (K := X.K) (ι0 := ι1) (H0 := H1) (i := 0) (n := j.toNat)
      exact ⟨j, rfl, h1, h2, p1 ι1 H1 G1 R1 (fun _ h => nomatch h) (fun _ _ h => nomatch h) _ (by simpa using this)⟩
    · exact p1.elim
  | _ => exact p1.elim
theorem mi_range2 (hm : X.mg "range" = none) (ha : ME g EX X a A) (hb : ME g EX X b B) (hg : Gl X "range" := by rfl) (hs : starEach [a, b] X.env = [(false, eval a X.env), (false, eval b X.env)] := by rfl) (hs2 : starEach [b] X.env = [(false, eval b X.env)] := by rfl) : MI g EX X tg (.Call (.Name "range" p) [a, b] [] pos) (iRange2 A B) := by
  refine PI.imp (pi_range2 hg hm (pa_cons ha (pa_cons hb pa_nil hs2) (by rw [hs, hs2])) hs hs2) fun σ H Rr ⟨ι, Λ, S, R, E, p⟩ => ⟨ι, Λ, S, R, E, (Post.bind' p).mono fun x ι1 S1 H1 G1 R1 ⟨_, p1⟩ v r => ?_⟩
  refine ⟨ι1, Λ, S1, R1, E.mono G1, (Post.bind' p1).mono' G1 fun y ι2 S2 H2 G2 R2 p2 u r2 => ?_⟩
  cases x with
  | int i =>
    cases r
    cases y with
    | int j =>
      cases r2
      dsimp only at p2
      split at p2
      · rename_i hj
        obtain ⟨h1, h2⟩ := rng62_of hj.1
        obtain ⟨h3, h4⟩ := rng62_of hj.2
        exact ⟨i, j, rfl, ⟨h1, h2, h3, h4⟩, p2 ι2 H2 (G1.trans G2) R2 (fun _ h => nomatch h) (fun _ _ h => nomatch h) _ walkM_rng⟩
      · exact p2.elim
    | _ => exact p2.elim
  | _ => exact p2.elim
theorem flat_T {K : PySem.W.Frag} : ∀ {kvs : List (DK × AV)} {ps : List (List Key × V)}, flatK kvs = true → RepT K H ι kvs ps → kvs = [] ∧ ps = []
  | [], _, _, h => ⟨rfl, h⟩
  | (k, x) :: r, _, f, ⟨q, v, qs, e, _⟩ => by subst e; simp [flatK, isAk] at f
theorem dict_post {t : Bool} {f : List (DK × AV) → List AV} {σ : L2.St} {Rr : It → Hp → Prop} (h : xI X g EX (iDict t f A) σ H Rr) {Q : V → Hp → Prop}
    (hK : ∀ d o ps kvs ι' S' H', Rel X.K H' ι' g S' → H' d = some (.frz o (.dK ps)) → RepK X.K H' ι' kvs ps → (∀ J, WalkM X.K g ι' H' J { items := f kvs } → Rr J H') → Q (.ref d) H')
    (hT : t = true → ∀ d o ps kvs ι' S' H', Rel X.K H' ι' g S' → H' d = some (.frz o (.dT ps)) → RepT X.K H' ι' kvs ps → (∀ J, WalkM X.K g ι' H' J { items := f kvs } → Rr J H') → Q (.ref d) H') :
    xE X.K g EX A σ H fun x H0 => (∃ d, x = .ref d ∧ H0 d = some (.dT []) ∧ ((∃ d u, x = .ref d ∧ upd H0 d (.dK []) d = some u ∧ Mut (some u) ∧ ((∀ o' u', X.H_0 d ≠ some (.frz o' u')) → ∀ od, Q x (upd (upd H0 d (.dK [])) d (.frz od u)))) ∨ Q x (upd H0 d (.dK [])))) ∨
      ((∃ d u, x = .ref d ∧ H0 d = some u ∧ Mut (some u) ∧ ((∀ o' u', X.H_0 d ≠ some (.frz o' u')) → ∀ od, Q x (upd H0 d (.frz od u)))) ∨ Q x H0) := by
  obtain ⟨ι, Λ, S, R, E, p⟩ := h
  refine ⟨ι, Λ, S, R, E, (Post.bind' p).mono fun x ι1 S1 H1 G1 R1 ⟨_, p1⟩ v r => ?_⟩
  cases x with
  | dct kvs =>
    simp only [dSrc] at p1
    by_cases c : (t || flatK kvs) = true
    case neg => rw [if_neg c] at p1; exact p1.elim
    rw [if_pos c] at p1
    have fin := fun J W => p1 ι1 H1 G1 R1 (fun _ h => nomatch h) (fun _ _ h => nomatch h) J W
    obtain ⟨a, o, rfl, hn, h1⟩ := r
    refine .inr (.inr ?_)
    rcases h1 with ⟨ps, h1, r⟩ | ⟨ne, ps, h1, r⟩
    · exact hK a o ps kvs ι1 S1 H1 R1 h1 r fin
    · cases t with
      | true => exact hT rfl a o ps kvs ι1 S1 H1 R1 h1 r fin
      | false => exact absurd (flat_T (by simpa using c) r).1 ne
  | ref n =>
    obtain ⟨a, rfl, ha⟩ := r
    cases es : S1[n]? with
    | none => simp [dSrc, es] at p1; exact p1.elim
    | some cl =>
      cases cl with
      | dct kvs =>
        simp only [dSrc, es] at p1
        by_cases c : (t || flatK kvs) = true
        case neg => rw [if_neg c] at p1; exact p1.elim
        rw [if_pos c] at p1
        obtain ⟨a', ha', h1⟩ := R1.at es
        rw [ha] at ha'; cases ha'
        have nfz : ∀ w : HO, H1 a = some w → (∀ o u, w ≠ .frz o u) → ∀ n' a', (some n : Option Nat) = some n' → ι1[n']? = some a' → ∀ o u, H a' ≠ some (.frz o u) := fun w hw hf n' a' e1 e2 o u e3 => by
          cases e1
          rw [ha] at e2; cases e2
          have := G1.frz _ _ _ e3
          rw [hw] at this
          exact hf _ _ (Option.some.inj this)
        have lkok : (∀ o' u', X.H_0 a ≠ some (.frz o' u')) → LkOk X ι1 (some n) := fun hn n' e => by cases e; exact ⟨a, ha, hn⟩
        rcases h1 with ⟨ps, h1, r⟩ | ⟨ps, h1, r⟩
        · refine .inr (.inl ⟨a, _, rfl, h1, trivial, fun hn od => ?_⟩)
          have Gc : Grow ι1 H1 ι1 (upd H1 a (.frz od (.dK ps))) := .cell ha h1
          have r' := RepK.mono Gc _ _ r
          have R2 := R1.write (o := .frz od (.dK ps)) (c := .lk kvs) ha ⟨od, .inl ⟨ps, upd_same, r'⟩⟩
          exact hK a od ps kvs ι1 _ _ R2 upd_same r' fun J W => p1 ι1 _ (G1.trans Gc) R2 (lkok hn) (nfz _ h1 (by intro _ _ z; cases z)) J W
        · cases t with
          | true =>
            refine .inr (.inl ⟨a, _, rfl, h1, trivial, fun hn od => ?_⟩)
            have Gc : Grow ι1 H1 ι1 (upd H1 a (.frz od (.dT ps))) := .cell ha h1
            have r' := RepT.mono Gc _ _ r
            have R2 := R1.write (o := .frz od (.dT ps)) (c := .lk kvs) ha ⟨od, .inr ⟨ps, upd_same, r'⟩⟩
            exact hT rfl a od ps kvs ι1 _ _ R2 upd_same r' fun J W => p1 ι1 _ (G1.trans Gc) R2 (lkok hn) (nfz _ h1 (by intro _ _ z; cases z)) J W
          | false =>
            obtain ⟨rfl, rfl⟩ := flat_T (by simpa using c) r
            refine .inl ⟨a, rfl, h1, .inl ⟨a, _, rfl, upd_same, trivial, fun hn od => ?_⟩⟩
            have Gc : Grow ι1 H1 ι1 (upd H1 a (.frz od (.dK []))) := .cell ha h1
            have R2 := R1.write (o := .frz od (.dK [])) (c := .lk []) ha ⟨od, .inl ⟨[], upd_same, rfl⟩⟩
            rw [upd_upd]
            exact hK a od [] [] ι1 _ _ R2 upd_same rfl fun J W => p1 ι1 _ (G1.trans Gc) R2 (lkok hn) (nfz _ h1 (by intro _ _ z; cases z)) J W
      | lk kvs =>
        simp only [dSrc, es] at p1
        by_cases c : (t || flatK kvs) = true ∧ kvs ≠ []
        case neg => rw [if_neg c] at p1; exact p1.elim
        rw [if_pos c] at p1
        obtain ⟨a', ha', o, h1⟩ := R1.at es
        rw [ha] at ha'; cases ha'
        have fin := fun J W => p1 ι1 H1 G1 R1 (fun _ h => nomatch h) (fun _ _ h => nomatch h) J W
        refine .inr (.inr ?_)
        rcases h1 with ⟨ps, h1, r⟩ | ⟨ps, h1, r⟩
        · exact hK a o ps kvs ι1 S1 H1 R1 h1 r fin
        · cases t with
          | true => exact hT rfl a o ps kvs ι1 S1 H1 R1 h1 r fin
          | false => exact absurd (flat_T (by simpa using c.1) r).1 c.2
      | _ => simp [dSrc, es] at p1; exact p1.elim
  | _ => simp [dSrc] at p1; exact p1.elim
theorem RepK.get {K : PySem.W.Frag} : ∀ {kvs : List (DK × AV)} {ps : List (Key × V)} {i : Nat} {p : DK × AV}, RepK K H ι kvs ps → kvs[i]? = some p → ∃ q v, p.1 = .a q ∧ ps[i]? = some (q.k, v) ∧ Rep K H ι p.2 v
  | (k, x) :: r, _, 0, p, ⟨q, v, qs, e, e2, h, _⟩, ei => by simp at ei; subst ei; exact ⟨q, v, e, by rw [e2]; rfl, h⟩
  | (k, x) :: r, _, i + 1, p, ⟨q, v, qs, e, e2, h, hr⟩, ei => by
    obtain ⟨q', v', h1, h2, h3⟩ := RepK.get (i := i) (p := p) hr (by simpa using ei)
    exact ⟨q', v', h1, by rw [e2]; simpa using h2, h3⟩
theorem RepT.get {K : PySem.W.Frag} : ∀ {kvs : List (DK × AV)} {ps : List (List Key × V)} {i : Nat} {p : DK × AV}, RepT K H ι kvs ps → kvs[i]? = some p → ∃ q v, p.1 = .t q ∧ ps[i]? = some (q.map AK.k, v) ∧ Rep K H ι p.2 v
  | (k, x) :: r, _, 0, p, ⟨q, v, qs, e, e2, h, _⟩, ei => by simp at ei; subst ei; exact ⟨q, v, e, by rw [e2]; rfl, h⟩
  | (k, x) :: r, _, i + 1, p, ⟨q, v, qs, e, e2, h, hr⟩, ei => by
    obtain ⟨q', v', h1, h2, h3⟩ := RepT.get (i := i) (p := p) hr (by simpa using ei)
    exact ⟨q', v', h1, by rw [e2]; simpa using h2, h3⟩
theorem rep_akV {K : PySem.W.Frag} (k : AK) : Rep K H ι (akV k) (kV k.k) := by cases k <;> rfl
theorem reps_akV {K : PySem.W.Frag} : ∀ ks : List AK, Reps K H ι (ks.map akV) ((ks.map AK.k).map kV)
  | [] => rfl
  | k :: ks => ⟨_, _, rfl, rep_akV k, reps_akV ks⟩
theorem Rel.ntup {K : PySem.W.Frag} (R : Rel K H ι g S) {q : Addr} {vs : List V} (h : H q = some (.tup vs)) : q ∉ ι := fun z => by
  obtain ⟨n, hn, e⟩ := List.getElem_of_mem z
  have hl : n < S.length := by rw [← R.len]; exact hn
  have c := R.cell n S[n] q (List.getElem?_eq_getElem hl) (by rw [List.getElem?_eq_getElem hn, e])
  cases hc : S[n] with
  | lst xs => rw [hc] at c; obtain ⟨_, h1, _⟩ := c; rw [h] at h1; cases h1
  | dct xs => rw [hc] at c; rcases c with ⟨_, h1, _⟩ | ⟨_, h1, _⟩ <;> · rw [h] at h1; cases h1
  | lk xs => rw [hc] at c; obtain ⟨_, ⟨_, h1, _⟩ | ⟨_, h1, _⟩⟩ := c <;> · rw [h] at h1; cases h1
  | ins c' fs => rw [hc] at c; obtain ⟨_, _, h1, _⟩ := c; rw [h] at h1; cases h1
theorem mi_keys (ha : ME g EX X a A) : MI g EX X tg a (iDict true dKeys A) := by
  refine PI.imp (pi_keys (pe_lk (pe_asK ha))) fun σ H Rr h => ?_
  have q := dict_post h (Q := fun x H1 => ∃ d o, x = .ref d ∧ ((∃ kvs, H1 d = some (.frz o (.dK kvs)) ∧ Rr (Itk d o kvs) H1) ∨ ∃ kvs, H1 d = some (.frz o (.dT kvs)) ∧ Rr (Itkt d o kvs) H1)) ?_ ?_
  · obtain ⟨ι, Λ, S, R, E, p⟩ := q
    refine ⟨ι, Λ, S, R, E, p.mono fun x ι1 S1 H1 G1 R1 k v r => ?_⟩
    rcases k v r with ⟨d, e, h1, h2⟩ | h2
    · exact .inl ⟨d, e, h1, h2.elim (fun ⟨d2, u, a1, a2, a3, a4⟩ => by
        rw [e] at a1; cases a1
        exact .inl ⟨d, u, e, a2, a3, a4⟩) .inr⟩
    · exact .inr h2
  · intro d o ps kvs ι' S' H' R' hd r fin
    refine ⟨d, o, rfl, .inl ⟨ps, hd, fin _ (walkM_pure (G := fun H => H d = some (.frz o (.dK ps))) (by unfold dKeys; rw [List.length_map, ← r.len]; exact walk_keys) (fun _ _ Hh H2 G2 _ sh => sh.up _ _ (G2.frz _ _ _ hd) (by intro _ z; cases z)) fun i ι2 S2 Hh H2 v H3 x G2 R2 sh y ex => ?_)⟩⟩
    obtain ⟨h1, k, w, h2, h3⟩ := y
    refine ⟨h1, ?_⟩
    subst h3
    unfold dKeys at ex
    rw [List.getElem?_map, Option.map_eq_some_iff] at ex
    obtain ⟨p, e1, e2⟩ := ex
    obtain ⟨q, w', q1, q2, q3⟩ := r.get e1
    rw [h2] at q2; cases q2
    rw [← e2, q1]
    exact rep_akV q
  · intro _ d o ps kvs ι' S' H' R' hd r fin
    refine ⟨d, o, rfl, .inr ⟨ps, hd, fin _ (walkM_pure (G := fun H => H d = some (.frz o (.dT ps))) (by unfold dKeys; rw [List.length_map, ← r.len]; exact walk_keysT) (fun _ _ Hh H2 G2 _ sh => sh.up _ _ (G2.frz _ _ _ hd) (by intro _ z; cases z)) fun i ι2 S2 Hh H2 v H3 x G2 R2 sh y ex => ?_)⟩⟩
    obtain ⟨h1, k, w, q, h2, h3, h4⟩ := y
    refine ⟨h1, ?_⟩
    subst h3
    unfold dKeys at ex
    rw [List.getElem?_map, Option.map_eq_some_iff] at ex
    obtain ⟨p, e1, e2⟩ := ex
    obtain ⟨q', w', q1, q2, q3⟩ := r.get e1
    rw [h2] at q2; cases q2
    rw [← e2, q1]
    exact ⟨q, _, rfl, ⟨R2.ntup (sh.tup _ _ h4), sh.tup _ _ h4⟩, reps_akV q'⟩
/-- both look alike: what the lock's reading asks -/
theorem lk_post {Q : V → Hp → Prop} {σ : L2.St} (q : xE X.K g EX A σ H fun x H0 => (∃ d, x = .ref d ∧ H0 d = some (.dT []) ∧ ((∃ d u, x = .ref d ∧ upd H0 d (.dK []) d = some u ∧ Mut (some u) ∧ ((∀ o' u', X.H_0 d ≠ some (.frz o' u')) → ∀ od, Q x (upd (upd H0 d (.dK [])) d (.frz od u)))) ∨ Q x (upd H0 d (.dK [])))) ∨
      ((∃ d u, x = .ref d ∧ H0 d = some u ∧ Mut (some u) ∧ ((∀ o' u', X.H_0 d ≠ some (.frz o' u')) → ∀ od, Q x (upd H0 d (.frz od u)))) ∨ Q x H0)) :
    (fun σ H Q => (fun σ H Q => xE X.K g EX A σ H fun x H1 => (∃ d, x = .ref d ∧ H1 d = some (.dT []) ∧ Q x (upd H1 d (.dK []))) ∨ Q x H1) σ H fun x H1 => (∃ d u, x = .ref d ∧ H1 d = some u ∧ Mut (some u) ∧ ((∀ o' u', X.H_0 d ≠ some (.frz o' u')) → ∀ od, Q x (upd H1 d (.frz od u)))) ∨ Q x H1) σ H Q := by
  obtain ⟨ι, Λ, S, R, E, p⟩ := q
  refine ⟨ι, Λ, S, R, E, p.mono fun x ι1 S1 H1 G1 R1 k v r => ?_⟩
  rcases k v r with ⟨d, e, h1, h2⟩ | h2
  · exact .inl ⟨d, e, h1, h2.elim (fun ⟨d2, u, a1, a2, a3, a4⟩ => by
      rw [e] at a1; cases a1
      exact .inl ⟨d, u, e, a2, a3, a4⟩) .inr⟩
  · exact .inr h2
theorem mi_values (ha : ME g EX X a A) (hbase : attributeBase a "values" X.env (eval a X.env) = eval a X.env := by rfl) (hline : (apos.endLine == cpos.line) = true := by rfl) : MI g EX X tg (.Call (.Attribute a "values" apos) [] [] cpos) (iDict false dVals A) := by
  refine PI.imp (pi_values (pe_lk (pe_asK ha)) hbase hline) fun σ H Rr h => ?_
  have q := dict_post h (Q := fun x H1 => ∃ d o kvs, x = .ref d ∧ H1 d = some (.frz o (.dK kvs)) ∧ Rr (Itd d o kvs) H1) ?_ (fun z => nomatch z)
  exact lk_post (X := X) (g := g) (EX := EX) (A := A) (Q := fun x H1 => ∃ d o kvs, x = .ref d ∧ H1 d = some (.frz o (.dK kvs)) ∧ Rr (Itd d o kvs) H1) q
  intro d o ps kvs ι' S' H' R' hd r fin
  refine ⟨d, o, ps, rfl, hd, fin _ (walkM_pure (G := fun H => H d = some (.frz o (.dK ps))) (by unfold dVals; rw [List.length_map, ← r.len]; exact walk_values) (fun _ _ Hh H2 G2 _ sh => sh.up _ _ (G2.frz _ _ _ hd) (by intro _ z; cases z)) fun i ι2 S2 Hh H2 v H3 x G2 R2 sh y ex => ?_)⟩
  obtain ⟨h1, k, h2⟩ := y
  refine ⟨h1, ?_⟩
  unfold dVals at ex
  rw [List.getElem?_map, Option.map_eq_some_iff] at ex
  obtain ⟨p, e1, e2⟩ := ex
  obtain ⟨q, w', q1, q2, q3⟩ := r.get e1
  rw [h2] at q2; cases q2
  rw [← e2]
  exact Rep.mono G2 _ _ q3
/-- new pairs -/
theorem walkM_pair {K : PySem.W.Frag} {ι0 : List Addr} {H0 : Hp} {xs : List AV} {J : It} {keep : Store → Bool} {l : Option Nat} {G : Hp → Prop} {ys zs : Nat → Option V} (W : Walk J xs.length G (YPair ys zs)) (hG : ∀ ι S Hh H, Grow ι0 H0 ι Hh → Rel K Hh ι g S → keep S = true → Sees Hh H → G H)
    (hY : ∀ i ι S Hh v w x, Grow ι0 H0 ι Hh → Rel K Hh ι g S → keep S = true → ys i = some v → zs i = some w → xs[i]? = some x → ∃ x1 x2, x = .tup [x1, x2] ∧ Rep K Hh ι x1 v ∧ Rep K Hh ι x2 w) : WalkM K g ι0 H0 J ⟨xs, keep, l⟩ := by
  refine ⟨G, _, W, hG, fun i ι S Hh H v H' x G R k sh ex y => .inr ?_⟩
  obtain ⟨T, a, w, rfl, hT, rfl, h1, h2⟩ := y
  obtain ⟨x1, x2, rfl, r1, r2⟩ := hY i ι S Hh a w x G R k h1 h2 ex
  exact ⟨T, _, _, rfl, rfl, hT, rfl, a, [w], rfl, r1, w, [], rfl, r2, rfl⟩
theorem mi_items (ha : ME g EX X a A) (hbase : attributeBase a "items" X.env (eval a X.env) = eval a X.env := by rfl) (hline : (apos.endLine == cpos.line) = true := by rfl) : MI g EX X (.Tuple elts kk tpos) (.Call (.Attribute a "items" apos) [] [] cpos) (iDict false dItems A) := by
  refine PI.imp (pi_items (pe_lk (pe_asK ha)) hbase hline) fun σ H Rr h => ?_
  have q := dict_post h (Q := fun x H1 => ∃ d o kvs, x = .ref d ∧ H1 d = some (.frz o (.dK kvs)) ∧ Rr (Iti d o kvs) H1) ?_ (fun z => nomatch z)
  exact lk_post (X := X) (g := g) (EX := EX) (A := A) (Q := fun x H1 => ∃ d o kvs, x = .ref d ∧ H1 d = some (.frz o (.dK kvs)) ∧ Rr (Iti d o kvs) H1) q
  intro d o ps kvs ι' S' H' R' hd r fin
  refine ⟨d, o, ps, rfl, hd, fin _ (walkM_pair (G := fun H => H d = some (.frz o (.dK ps))) (by unfold dItems; rw [List.length_map, ← r.len]; exact walk_items) (fun _ _ Hh H2 G2 _ _ sh => sh.up _ _ (G2.frz _ _ _ hd) (by intro _ z; cases z)) fun i ι2 S2 Hh v w x G2 R2 _ h1 h2 ex => ?_)⟩
  unfold dItems at ex
  rw [List.getElem?_map, Option.map_eq_some_iff] at ex
  obtain ⟨p, e1, e2⟩ := ex
  obtain ⟨q, w', q1, q2, q3⟩ := r.get e1
  rw [q2] at h1 h2
  cases h1; cases h2
  refine ⟨_, _, e2.symm, ?_, Rep.mono G2 _ _ q3⟩
  rw [q1]
  exact rep_akV q
/-- a list to be walked with its places -/
theorem seq_src {K : PySem.W.Frag} {x : AV} {v : V} {xs : List AV} {k : Store → Bool} (R : Rel K H ι g S) (r : Rep K H ι x v) (h : seqSrc S x = some (xs, k)) :
    k S = true ∧ ∃ a, v = .ref a ∧ ∀ ι2 S2 H2, Grow ι H ι2 H2 → Rel K H2 ι2 g S2 → k S2 = true → ∃ vs, SqL K H2 a vs ∧ Reps K H2 ι2 xs vs := by
  cases x with
  | lst ys =>
    cases h
    obtain ⟨a, vs, e, t, q⟩ := r
    exact ⟨rfl, a, e, fun ι2 S2 H2 G2 R2 _ => ⟨vs, (G2.lst t).sq, Reps.mono G2 _ _ q⟩⟩
  | kst ys =>
    cases h
    obtain ⟨a, vs, e, t, q⟩ := r
    exact ⟨rfl, a, e, fun ι2 S2 H2 G2 R2 _ => ⟨vs, (G2.kst t).sq, Reps.mono G2 _ _ q⟩⟩
  | ref n =>
    obtain ⟨a, e, ha⟩ := r
    simp only [seqSrc] at h
    split at h
    · rename_i ys es
      cases h
      refine ⟨stays_iff es, a, e, fun ι2 S2 H2 G2 R2 k2 => ?_⟩
      obtain ⟨a', ha', vs, h1, h2⟩ := R2.at (stays_of k2)
      rw [G2.at ha] at ha'; cases ha'
      exact ⟨vs, .inl (.inl h1), h2⟩
    · cases h
  | _ => simp [seqSrc] at h
theorem mi_enum (hm : X.mg "enumerate" = none) (ha : ME g EX X a A) (hg : Gl X "enumerate" := by rfl) (hs : starEach [a] X.env = [(false, eval a X.env)] := by rfl) : MI g EX X (.Tuple elts kk tpos) (.Call (.Name "enumerate" p) [a] [] pos) (iEnumM A) := by
  refine PI.imp (pi_enum hg hm (pa_cons ha pa_nil hs) hs) fun σ H Rr ⟨ι, Λ, S, R, E, p⟩ => ⟨ι, Λ, S, R, E, (Post.bind' p).mono fun x ι1 S1 H1 G1 R1 ⟨_, p1⟩ v r => ?_⟩
  split at p1
  · rename_i xs k es
    obtain ⟨hk, a, rfl, key⟩ := seq_src R1 r es
    obtain ⟨vs, h1, h2⟩ := key ι1 S1 H1 (.refl _ _) R1 hk
    refine ⟨a, vs, rfl, h1, p1 ι1 H1 G1 R1 (fun _ h => nomatch h) (fun _ _ h => nomatch h) _ ?_⟩
    refine ⟨fun H => ∃ vs, vs.length = xs.length ∧ SqL X.K H a vs, fun i H v H' => ∃ T x, v = .ref T ∧ H T = none ∧ H' = upd H T (.tup [.int (i : Nat), x]) ∧ ∀ xs, SqL X.K H a xs → xs[i]? = some x, ⟨?_, ?_, fun i H x H' _ _ y => y⟩, ?_, ?_⟩
    · rintro i H hi ⟨vs', e, q⟩
      have hi : i < xs.length := by simpa [enumA] using hi
      exact ⟨vs', vs'[i]'(by omega), q, by simp [show i < vs'.length by omega]⟩
    · rintro H ⟨vs', e, q⟩
      exact ⟨vs', q, by simp [enumA]; omega⟩
    · intro ι2 S2 Hh H2 G2 R2 k2 sh
      obtain ⟨vs', q1, q2⟩ := key ι2 S2 Hh G2 R2 k2
      exact ⟨vs', q2.len, sh.sqL q1⟩
    · rintro i ι2 S2 Hh H2 v H3 z G2 R2 k2 sh ez ⟨T, x, rfl, hT, rfl, y⟩
      obtain ⟨vs', q1, q2⟩ := key ι2 S2 Hh G2 R2 k2
      have hi : i < xs.length := by have := (List.getElem?_eq_some_iff.mp ez).1; simpa [enumA] using this
      have ez' : z = .tup [.int i, xs[i]] := by
        simp [enumA, List.getElem?_zipWith, hi] at ez
        exact ez.symm
      obtain ⟨w, ew, rw'⟩ := q2.get (List.getElem?_eq_getElem hi)
      rw [y _ (sh.sqL q1)] at ew
      cases ew
      exact .inr ⟨T, _, _, ez', rfl, hT, rfl, _, [_], rfl, rfl, _, [], rfl, rw', rfl⟩
  · exact p1.elim
theorem mi_zip (hm : X.mg "zip" = none) (ha : ME g EX X a A) (hb : ME g EX X b B) (hg : Gl X "zip" := by rfl) (hs : starEach [a, b] X.env = (false, eval a X.env) :: starEach [b] X.env := by rfl) (hs2 : starEach [b] X.env = (false, eval b X.env) :: starEach [] X.env := by rfl) (hpl : (backTo pos (starEach [b] X.env)).any (·.1) = false := by rfl) : MI g EX X (.Tuple elts kk tpos) (.Call (.Name "zip" p) [a, b] [] pos) (iZipM A B) := by
  refine PI.imp (RZ.pi_zipA hg hm (pa_cons ha (pa_cons hb pa_nil hs2) hs) hs hpl) fun σ H Rr ⟨ι, Λ, S, R, E, p⟩ => ⟨ι, Λ, S, R, E, (Post.bind' p).mono fun x ι1 S1 H1 G1 R1 ⟨_, p1⟩ v r => ?_⟩
  refine ⟨ι1, Λ, S1, R1, E.mono G1, (Post.bind' p1).mono' G1 fun y ι2 S2 H2 G2 R2 p2 u r2 => ?_⟩
  have r := Rep.mono G2 _ _ r
  split at p2
  · rename_i xs k ys l e1 e2
    obtain ⟨hk, a, rfl, key⟩ := seq_src R2 r e1
    obtain ⟨hk2, b, rfl, key2⟩ := seq_src R2 r2 e2
    obtain ⟨vs, h1, h2⟩ := key ι2 S2 H2 (.refl _ _) R2 hk
    obtain ⟨ws, h3, h4⟩ := key2 ι2 S2 H2 (.refl _ _) R2 hk2
    refine ⟨a, b, vs, ws, rfl, .inl ⟨h1, h3, p2 ι2 H2 (G1.trans G2) R2 (fun _ h => nomatch h) (fun _ _ h => nomatch h) _ ?_⟩⟩
    refine ⟨fun H => ∃ vs ws, vs.length = xs.length ∧ ws.length = ys.length ∧ SqL X.K H a vs ∧ SqL X.K H b ws, fun i H v H' => ∃ T x y, v = .ref T ∧ H T = none ∧ H' = upd H T (.tup [x, y]) ∧ (∀ xs, SqL X.K H a xs → xs[i]? = some x) ∧ ∀ ys, SqL X.K H b ys → ys[i]? = some y, ⟨?_, ?_, fun i H x H' _ _ y => y⟩, ?_, ?_⟩
    · rintro i H hi ⟨vs', ws', e, e', q, q'⟩
      have hi : i < min xs.length ys.length := by simpa [zipA] using hi
      exact ⟨vs', ws', vs'[i]'(by omega), ws'[i]'(by omega), q, q', by simp [show i < vs'.length by omega], by simp [show i < ws'.length by omega]⟩
    · rintro H ⟨vs', ws', e, e', q, q'⟩
      exact ⟨vs', ws', q, q', by simp [zipA]; omega⟩
    · intro ι2 S2 Hh H2 G2 R2 k2 sh
      rw [Bool.and_eq_true] at k2
      obtain ⟨vs', q1, q2⟩ := key ι2 S2 Hh G2 R2 k2.1
      obtain ⟨ws', q3, q4⟩ := key2 ι2 S2 Hh G2 R2 k2.2
      exact ⟨vs', ws', q2.len, q4.len, sh.sqL q1, sh.sqL q3⟩
    · rintro i ι3 S3 Hh H3 v H4 z G3 R3 k2 sh ez ⟨T, x, y, rfl, hT, rfl, y1, y2⟩
      rw [Bool.and_eq_true] at k2
      obtain ⟨vs', q1, q2⟩ := key ι3 S3 Hh G3 R3 k2.1
      obtain ⟨ws', q3, q4⟩ := key2 ι3 S3 Hh G3 R3 k2.2
      have hi : i < min xs.length ys.length := by have := (List.getElem?_eq_some_iff.mp ez).1; simpa [zipA] using this
      have hx : i < xs.length := by omega
      have hy : i < ys.length := by omega
      have ez' : z = .tup [xs[i], ys[i]] := by
        simp [zipA, List.getElem?_zipWith, hx, hy] at ez
        exact ez.symm
      obtain ⟨w, ew, rw'⟩ := q2.get (List.getElem?_eq_getElem hx)
      obtain ⟨w2, ew2, rw2⟩ := q4.get (List.getElem?_eq_getElem hy)
      rw [y1 _ (sh.sqL q1)] at ew; cases ew
      rw [y2 _ (sh.sqL q3)] at ew2; cases ew2
      exact .inr ⟨T, _, _, ez', rfl, hT, rfl, _, [_], rfl, rw', _, [], rfl, rw2, rfl⟩
  · split at p2
    · rename_i xs ys e1 e2
      obtain ⟨a, vs, rfl, h1, h2⟩ := r.tup e1
      obtain ⟨b, ws, rfl, h3, h4⟩ := r2.tup e2
      have st : ∀ {x : AV} {xs : List AV} {v : V}, tupOf x = some xs → Rep X.K H2 ι2 x v → ∃ a vs, v = .ref a ∧ ∀ ι3 H3, Grow ι2 H2 ι3 H3 → SqT X.K H3 a vs ∧ Reps X.K H3 ι3 xs vs := fun {x xs v} e r => by
        cases x with
        | tup ys =>
          cases e
          obtain ⟨a, vs, e, t, q⟩ := r
          exact ⟨a, vs, e, fun ι3 H3 G3 => ⟨(G3.tup t).sq, Reps.mono G3 _ _ q⟩⟩
        | ktp ys =>
          cases e
          obtain ⟨a, vs, e, t, q⟩ := r
          exact ⟨a, vs, e, fun ι3 H3 G3 => ⟨.inr t, Reps.mono G3 _ _ q⟩⟩
        | _ => simp [tupOf] at e
      obtain ⟨a', vs', ea, key⟩ := st e1 r
      obtain ⟨b', ws', eb, key2⟩ := st e2 r2
      cases ea; cases eb
      obtain ⟨g1, g2⟩ := key ι2 H2 (.refl _ _)
      obtain ⟨g3, g4⟩ := key2 ι2 H2 (.refl _ _)
      refine ⟨a, b, vs', ws', rfl, .inr ⟨g1, g3, p2 ι2 H2 (G1.trans G2) R2 (fun _ h => nomatch h) (fun _ _ h => nomatch h) _ ?_⟩⟩
      refine ⟨fun H => SqT X.K H a vs' ∧ SqT X.K H b ws', fun i H v H' => ∃ T x y, v = .ref T ∧ H T = none ∧ H' = upd H T (.tup [x, y]) ∧ (∀ xs, SqT X.K H a xs → xs[i]? = some x) ∧ ∀ ys, SqT X.K H b ys → ys[i]? = some y, ⟨?_, ?_, fun i H x H' _ _ y => y⟩, ?_, ?_⟩
      · rintro i H hi ⟨q, q'⟩
        have hi : i < min xs.length ys.length := by simpa [zipA] using hi
        have l1 := g2.len
        have l2 := g4.len
        exact ⟨vs', ws', vs'[i]'(by omega), ws'[i]'(by omega), q, q', by simp [show i < vs'.length by omega], by simp [show i < ws'.length by omega]⟩
      · rintro H ⟨q, q'⟩
        have l1 := g2.len
        have l2 := g4.len
        exact ⟨vs', ws', q, q', by simp [zipA]; omega⟩
      · intro ι3 S3 Hh H3 G3 R3 _ sh
        exact ⟨sh.sqT (key ι3 Hh G3).1, sh.sqT (key2 ι3 Hh G3).1⟩
      · rintro i ι3 S3 Hh H3 v H4 z G3 R3 k2 sh ez ⟨T, x, y, rfl, hT, rfl, y1, y2⟩
        obtain ⟨q1, q2⟩ := key ι3 Hh G3
        obtain ⟨q3, q4⟩ := key2 ι3 Hh G3
        have hi : i < min xs.length ys.length := by have := (List.getElem?_eq_some_iff.mp ez).1; simpa [zipA] using this
        have hx : i < xs.length := by omega
        have hy : i < ys.length := by omega
        have ez' : z = .tup [xs[i], ys[i]] := by
          simp [zipA, List.getElem?_zipWith, hx, hy] at ez
          exact ez.symm
        obtain ⟨w, ew, rw'⟩ := q2.get (List.getElem?_eq_getElem hx)
        obtain ⟨w2, ew2, rw2⟩ := q4.get (List.getElem?_eq_getElem hy)
        rw [y1 _ (sh.sqT q1)] at ew; cases ew
        rw [y2 _ (sh.sqT q3)] at ew2; cases ew2
        exact .inr ⟨T, _, _, ez', rfl, hT, rfl, _, [_], rfl, rw', _, [], rfl, rw2, rfl⟩
    · exact p2.elim
end
end Mir
end

section
set_option Elab.async false
set_option linter.all false
set_option maxRecDepth 100000
set_option maxHeartbeats 1000000
/-! MirK: comprehensions. -/
namespace Mir
open PySem PySem.Spec PyProof.Rows L2

/-! ### a thing hidden while an expression runs -/
def Hid (u : HO) : Prop := (∃ xs, u = .lst xs) ∨ ∃ kvs, u = .dK kvs
abbrev hd (od : Obj) : HO := .frz od (.own 0)
section
variable {X : Cx} {pins : List (Addr × Obj)} {σ : L2.St} {H : Hp} {s : Shared} {D : Addr} {u : HO}
theorem Hid.mut (h : Hid u) : Mut (some u) := by rcases h with ⟨_, rfl⟩ | ⟨_, rfl⟩ <;> trivial
theorem Inv.hide (I : L2.Inv X pins σ H s) (h : H D = some u) (hu : Hid u) : ∃ od, (∀ H' h', h'.get? D = some od → ObjOk X.prog X.w H' h' D u) ∧ L2.Inv X pins σ (upd H D (hd od)) s := by
  have x := I.hok D u h
  have ex : ∃ od, s.heap.get? D = some od ∧ ∀ H' h', h'.get? D = some od → ObjOk X.prog X.w H' h' D u := by
    rcases hu with ⟨xs, rfl⟩ | ⟨kvs, rfl⟩
    · obtain ⟨z, its, n, r, e⟩ := x
      exact ⟨_, e, fun H' h' e' => ⟨z, its, n, r, e'⟩⟩
    · obtain ⟨z, y, vs, r, ob, es, ep, e, c⟩ := x
      exact ⟨ob, e, fun H' h' e' => ⟨z, y, vs, r, ob, es, ep, e', c⟩⟩
  obtain ⟨od, e, hx⟩ := ex
  have J := I.write (x := D) (e := D) (t' := s.toks) (h' := s.heap) (o := hd od) (by rw [h]; exact hu.mut) (.inl rfl) (fun b v _ q => q) ⟨od, e⟩ ⟨e, od, e⟩
  exact ⟨od, hx, J⟩
theorem Inv.unhide {od : Obj} (I : L2.Inv X pins σ H s) (h : H D = some (hd od)) (hx : ∀ H' h', h'.get? D = some od → ObjOk X.prog X.w H' h' D u) (hn : ∀ o' u', X.H_0 D ≠ some (.frz o' u')) : L2.Inv X pins σ (upd H D u) s := by
  have neH : ∀ b o, H b = some o → (∀ o' u', o ≠ .frz o' u') → b ≠ D := fun b o e hne z => by
    rw [z, h] at e
    cases e
    exact hne _ _ rfl
  have neN : ∀ b, H b = none → b ≠ D := fun b e z => by rw [z, h] at e; cases e
  refine ⟨I.ok, I.os, I.bare, ⟨I.base.keep, I.base.slot, fun b o e n hx => ?_, I.base.there, fun b xs e => ?_, fun b o x e => ?_, fun b ps e => ?_⟩, I.loc, I.cell, ?_, fun x c e => ?_, fun p hp => ?_, fun b o e => ?_, I.len⟩
  · rw [upd_ne (neN b (I.base.free b o e n hx))]; exact I.base.free b o e n hx
  · have q := I.base.tups b xs e
    rw [upd_ne (neH b _ q (fun _ _ z => nomatch z))]; exact q
  · have q := I.base.frzs b o x e
    rw [upd_ne (fun z => by rw [z] at e; exact hn _ _ e)]; exact q
  · obtain ⟨m, q⟩ := I.base.tbls b ps e
    exact ⟨m, by rw [upd_ne (neH b _ q (fun _ _ z => nomatch z))]; exact q⟩
  · rw [upd_ne (neN _ I.free)]; exact I.free
  · rw [upd_ne (neN c (I.freeC x c e))]; exact I.freeC x c e
  · obtain ⟨e, n, r⟩ := I.pin p hp
    exact ⟨e, by rw [upd_ne (neN _ n)]; exact n, r⟩
  · by_cases hb : b = D
    · rw [hb, upd_same] at e
      cases e
      rw [hb]
      obtain ⟨e1, _⟩ := I.hok D _ h
      exact hx _ _ e1
    · rw [upd_ne hb] at e
      exact (I.hok b o e).stay (fun c v _ q => q) (fun c q => by rw [upd_ne (neH c _ q (fun _ _ z => nomatch z))]; exact q) fun c xs q => by rw [upd_ne (neH c _ q (fun _ _ z => nomatch z))]; exact q
/-- the readings with D hidden -/
def hE (t : TE) : TE := fun σ H Q => ∃ D u, H D = some u ∧ Hid u ∧ ∀ od, t σ (upd H D (hd od)) fun v H' => H' D = some (hd od) ∧ Q v (upd H' D u)
def hT (t : TT) : TT := fun σ H Q => ∃ D u, H D = some u ∧ Hid u ∧ ∀ od, t σ (upd H D (hd od)) fun b H' => H' D = some (hd od) ∧ Q b (upd H' D u)
def hG (t : TG) : TG := fun v σ H Q => ∃ D u, H D = some u ∧ Hid u ∧ ∀ od, t v σ (upd H D (hd od)) fun σ' H' => H' D = some (hd od) ∧ Q σ' (upd H' D u)
theorem pe_hide {e : Expr} {t : TE} (h : PE X e t) : PE X e (hE t) := by
  refine ⟨fun pins s σ H Q I q => ?_⟩
  obtain ⟨D, u, hd, hu, q⟩ := q
  obtain ⟨od, hx, I1⟩ := Inv.hide I hd hu
  exact thn (h.run pins s σ _ _ I1 (q od)) fun v s1 ⟨x, H1, I2, r, e1, q1⟩ => ⟨x, _, Inv.unhide I2 e1 hx (I.nofrz hd hu.mut), r, q1⟩
theorem pts_hide {es : List Expr} {t : TT} (h : PTs X es t) : PTs X es (hT t) := by
  refine ⟨fun pins s σ H Q I q => ?_⟩
  obtain ⟨D, u, hd, hu, q⟩ := q
  obtain ⟨od, hx, I1⟩ := Inv.hide I hd hu
  exact thn (h.run pins s σ _ _ I1 (q od)) fun v s1 ⟨H1, I2, e1, q1⟩ => ⟨_, Inv.unhide I2 e1 hx (I.nofrz hd hu.mut), q1⟩
theorem pg_hide {e : Expr} {t : TG} (h : PG X e t) : PG X e (hG t) := by
  refine ⟨fun pins s σ H v w Q I r q => ?_⟩
  obtain ⟨D, u, hd, hu, q⟩ := q
  obtain ⟨od, hx, I1⟩ := Inv.hide I hd hu
  exact thn (h.run pins s σ _ v w _ I1 r (q od)) fun _ s1 ⟨σ1, H1, I2, e1, q1⟩ => ⟨σ1, _, Inv.unhide I2 e1 hx (I.nofrz hd hu.mut), q1⟩
end

/-! ### patterns of targets -/
inductive Pt where
  | nm (i : Nat) | tp (ps : List Pt)
mutual
def dest : Pt → AV → Option (List (Nat × AV))
  | .nm i, x => some [(i, x)]
  | .tp ps, x => match tupOf x with
    | some xs => dests ps xs
    | none => none
def dests : List Pt → List AV → Option (List (Nat × AV))
  | [], [] => some []
  | p :: ps, x :: xs => match dest p x, dests ps xs with
    | some a, some b => some (a ++ b)
    | _, _ => none
  | _, _ => none
end
mutual
def DestV (K : PySem.W.Frag) (H : Hp) : Pt → V → List (Nat × V) → Prop
  | .nm i => fun v as => as = [(i, v)]
  | .tp ps => fun v as => ∃ a vs, v = .ref a ∧ SqT K H a vs ∧ DestVs K H ps vs as
def DestVs (K : PySem.W.Frag) (H : Hp) : List Pt → List V → List (Nat × V) → Prop
  | [] => fun vs as => vs = [] ∧ as = []
  | p :: ps => fun vs as => ∃ v ws a b, vs = v :: ws ∧ DestV K H p v a ∧ DestVs K H ps ws b ∧ as = a ++ b
end
def putA (Λ : LEnv) (as : List (Nat × AV)) : LEnv := as.foldl (fun Λ p => Λ.set p.1 (some p.2)) Λ
def putV (σ : L2.St) (as : List (Nat × V)) : L2.St := as.foldl (fun σ p => σ.set p.1 (some p.2)) σ
theorem putV_app (σ : L2.St) (a b : List (Nat × V)) : putV σ (a ++ b) = putV (putV σ a) b := by unfold putV; rw [List.foldl_append]
def gP (K : PySem.W.Frag) (p : Pt) : TG := fun v σ H Q => ∃ as, DestV K H p v as ∧ Q (putV σ as) H
def gPs (K : PySem.W.Frag) (ps : List Pt) : TGs := fun vs σ H Q => ∃ as, DestVs K H ps vs as ∧ Q (putV σ as) H
mutual
def Pt.vars : Pt → List Nat
  | .nm i => [i]
  | .tp ps => Pt.varss ps
def Pt.varss : List Pt → List Nat
  | [] => []
  | p :: ps => Pt.vars p ++ Pt.varss ps
end
def MP (X : Cx) (tg : Expr) (p : Pt) : Prop := PG X tg (gP X.K p)
def MPs (X : Cx) (tgs : List Expr) (ps : List Pt) : Prop := PGs X tgs (gPs X.K ps)
def gPat (p : Pt) : GM := fun v Λ S => match dest p v with
  | some as => .nx (putA Λ as) S
  | none => .stuck
section
variable {X : Cx} {K : PySem.W.Frag} {g : G} {EX : XK} {H : Hp} {ι : List Addr} {S : Store} {pos : Pos}
theorem mp_name {i : Nat} {x : Str} (h : PG X (.Name x pos) (L2.gName i)) : MP X (.Name x pos) (.nm i) :=
  ⟨fun pins s σ H v u Q I r ⟨as, e, q⟩ => h.run pins s σ H v u Q I r (by have e : as = [(i, v)] := e; subst e; exact q)⟩
theorem mps_nil : MPs X [] [] := ⟨fun pins s σ H vs us Q I r ⟨as, e, q⟩ => by
  obtain ⟨e1, e2⟩ := e
  subst e2
  exact pgs_nil.run pins s σ H vs us Q I r ⟨e1, q⟩⟩
theorem mps_cons {t : Expr} {ts : List Expr} {p : Pt} {ps : List Pt} (h1 : MP X t p) (h2 : MPs X ts ps) (hs : (assignEach (t :: ts) X.env).map (·.2) = assign t X.env :: (assignEach ts X.env).map (·.2) := by rfl) : MPs X (t :: ts) (p :: ps) := ⟨fun pins s σ H vs us Q I r ⟨as, e, q⟩ => by
  obtain ⟨v, ws, a, b, e1, e2, e3, e4⟩ := e
  subst e4
  rw [putV_app] at q
  exact (pgs_cons h1 h2 hs).run pins s σ H vs us Q I r ⟨v, ws, e1, a, e2, b, e3, q⟩⟩
theorem DestVs.len {ps : List Pt} {vs : List V} {as : List (Nat × V)} (h : DestVs K H ps vs as) : vs.length = ps.length := by
  induction ps generalizing vs as with
  | nil => obtain ⟨rfl, _⟩ := h; rfl
  | cons p ps ih => obtain ⟨v, ws, a, b, rfl, _, e3, _⟩ := h; rw [List.length_cons, List.length_cons, ih e3]
theorem mp_tup {es : List Expr} {kk : Nat} {ps : List Pt} (hc : X.calm = true) (h : MPs X es ps) (hn : (assignEach es X.env).length = ps.length := by rfl) (hst : (assignEach es X.env).findIdx? (·.1) = none := by rfl) : MP X (.Tuple es kk pos) (.tp ps) := ⟨fun pins s σ H v u Q I r ⟨as, e, q⟩ => by
  obtain ⟨a, vs, e1, e2, e3⟩ := e
  exact (pg_tup hc h hn hst).run pins s σ H v u Q I r ⟨a, vs, e1, e2, e3.len, as, e3, q⟩⟩
mutual
theorem dest_v : ∀ (p : Pt) (x : AV) (v : V) (as : List (Nat × AV)), dest p x = some as → Rep K H ι x v → ∃ bs, DestV K H p v bs ∧ as.map (·.1) = bs.map (·.1) ∧ Reps K H ι (as.map (·.2)) (bs.map (·.2))
  | .nm i, x, v, as, h, r => by
    cases h
    exact ⟨[(i, v)], rfl, rfl, v, [], rfl, r, rfl⟩
  | .tp ps, x, v, as, h, r => by
    simp only [dest] at h
    split at h
    · rename_i xs e
      obtain ⟨a, vs, e1, e2, e3⟩ := r.tup e
      obtain ⟨bs, h1, h2, h3⟩ := dests_v ps xs vs as h e3
      exact ⟨bs, ⟨a, vs, e1, e2, h1⟩, h2, h3⟩
    · cases h
theorem dests_v : ∀ (ps : List Pt) (xs : List AV) (vs : List V) (as : List (Nat × AV)), dests ps xs = some as → Reps K H ι xs vs → ∃ bs, DestVs K H ps vs bs ∧ as.map (·.1) = bs.map (·.1) ∧ Reps K H ι (as.map (·.2)) (bs.map (·.2))
  | [], [], vs, as, h, r => by
    cases h
    cases (show vs = [] from r)
    exact ⟨[], ⟨rfl, rfl⟩, rfl, rfl⟩
  | [], _ :: _, _, _, h, _ => by simp [dests] at h
  | _ :: _, [], _, _, h, _ => by simp [dests] at h
  | p :: ps, x :: xs, vs, as, h, ⟨v, ws, e, r1, r2⟩ => by
    simp only [dests] at h
    split at h
    · rename_i a b ea eb
      cases h
      obtain ⟨a', h1, h2, h3⟩ := dest_v p x v a ea r1
      obtain ⟨b', k1, k2, k3⟩ := dests_v ps xs ws b eb r2
      refine ⟨a' ++ b', ⟨v, ws, a', b', e, h1, k1, rfl⟩, by rw [List.map_append, List.map_append, h2, k2], ?_⟩
      rw [List.map_append, List.map_append]
      exact h3.app k3
    · cases h
end
mutual
theorem dest_vars : ∀ (p : Pt) (x : AV) (as : List (Nat × AV)), dest p x = some as → as.map (·.1) = p.vars
  | .nm i, x, as, h => by cases h; rfl
  | .tp ps, x, as, h => by
    simp only [dest] at h
    split at h
    · exact dests_vars ps _ as h
    · cases h
theorem dests_vars : ∀ (ps : List Pt) (xs : List AV) (as : List (Nat × AV)), dests ps xs = some as → as.map (·.1) = Pt.varss ps
  | [], [], as, h => by cases h; rfl
  | [], _ :: _, _, h => by simp [dests] at h
  | _ :: _, [], _, h => by simp [dests] at h
  | p :: ps, x :: xs, as, h => by
    simp only [dests] at h
    split at h
    · rename_i a b ea eb
      cases h
      rw [List.map_append, dest_vars p x a ea, dests_vars ps xs b eb]; rfl
    · cases h
end
theorem REnv.put : ∀ {as : List (Nat × AV)} {bs : List (Nat × V)} {Λ : LEnv} {σ : L2.St}, REnv K H ι Λ σ → as.map (·.1) = bs.map (·.1) → Reps K H ι (as.map (·.2)) (bs.map (·.2)) → REnv K H ι (putA Λ as) (putV σ bs)
  | [], bs, Λ, σ, E, h, _ => by
    cases bs with
    | nil => exact E
    | cons b bs => simp at h
  | a :: as, [], _, _, _, h, _ => by simp at h
  | a :: as, b :: bs, Λ, σ, E, h, ⟨v, ws, e, r1, r2⟩ => by
    simp only [List.map_cons, List.cons.injEq] at h e
    obtain ⟨e1, e2⟩ := e
    subst e2
    show REnv K H ι (putA (Λ.set a.1 (some a.2)) as) (putV (σ.set b.1 (some b.2)) bs)
    rw [← h.1]
    exact REnv.put (E.set a.1 (by rw [e1]; exact r1)) h.2 r2
theorem mg_pat {tg : Expr} {p : Pt} (h : MP X tg p) : MG g X tg (gPat p) := ⟨fun pins s σ H v u Q I r ⟨ι, Λ, S, x, R, E, rx, q⟩ => by
  unfold gPat at q
  cases e : dest p x with
  | none => rw [e] at q; exact q.elim
  | some as =>
    rw [e] at q
    obtain ⟨bs, h1, h2, h3⟩ := dest_v p x v as e rx
    exact h.run pins s σ H v u Q I r ⟨bs, h1, q ι H _ (.refl _ _) R (E.put h2 h3)⟩⟩
/-- the own names forgotten -/
def wipeA (Λ : LEnv) : List Nat → LEnv
  | [] => Λ
  | v :: vs => (wipeA Λ vs).set v none
theorem REnv.wipe {Λ : LEnv} {σ : L2.St} (E : REnv K H ι Λ σ) : ∀ vs : List Nat, REnv K H ι (wipeA Λ vs) (L2.wipe σ vs)
  | [] => E
  | v :: vs => by
    have ih := REnv.wipe E vs
    refine ⟨by show ((wipeA Λ vs).set v none).length = ((L2.wipe σ vs).set v none).length; rw [List.length_set, List.length_set]; exact ih.1, fun i x e => ?_⟩
    show ∃ w, ((L2.wipe σ vs).set v none)[i]? = some (some w) ∧ Rep K H ι x w
    have e : ((wipeA Λ vs).set v none)[i]? = some (some x) := e
    by_cases hi : i = v
    · subst hi
      have hl : i < (wipeA Λ vs).length := by have := (List.getElem?_eq_some_iff.mp e).1; simpa using this
      rw [List.getElem?_set_self hl] at e
      cases e
    · rw [List.getElem?_set_ne (Ne.symm hi)] at e ⊢
      exact ih.2 i x e
theorem wipe_put (σ : L2.St) (vs : List Nat) : ∀ (bs : List (Nat × V)), (∀ i ∈ bs.map (·.1), i ∈ vs) → L2.wipe (putV (L2.wipe σ vs) bs) vs = L2.wipe σ vs := by
  have out : ∀ (τ : L2.St) (vs : List Nat) (i : Nat), (L2.wipe τ vs)[i]? = if i ∈ vs ∧ i < τ.length then some none else τ[i]? := by
    intro τ vs
    induction vs with
    | nil => intro i; simp [L2.wipe]
    | cons v vs ih =>
      intro i
      show ((L2.wipe τ vs).set v none)[i]? = _
      by_cases hi : i = v
      · subst hi
        by_cases hl : i < τ.length
        · rw [List.getElem?_set_self (by rw [wipe_length]; exact hl), if_pos ⟨List.mem_cons_self, hl⟩]
        · rw [List.getElem?_eq_none (by rw [List.length_set, wipe_length]; omega), if_neg (fun z => hl z.2), List.getElem?_eq_none (by omega)]
      · rw [List.getElem?_set_ne (Ne.symm hi), ih i]
        simp [hi]
  have putlen : ∀ (bs : List (Nat × V)) (τ : L2.St), (putV τ bs).length = τ.length := by
    intro bs
    induction bs with
    | nil => intro τ; rfl
    | cons b bs ih => intro τ; show (putV (τ.set b.1 (some b.2)) bs).length = _; rw [ih, List.length_set]
  have putout : ∀ (bs : List (Nat × V)) (τ : L2.St) (i : Nat), i ∉ bs.map (·.1) → (putV τ bs)[i]? = τ[i]? := by
    intro bs
    induction bs with
    | nil => intro τ i _; rfl
    | cons b bs ih =>
      intro τ i h
      simp only [List.map_cons, List.mem_cons, not_or] at h
      show (putV (τ.set b.1 (some b.2)) bs)[i]? = _
      rw [ih _ i h.2, List.getElem?_set_ne (Ne.symm h.1)]
  intro bs h
  apply List.ext_getElem?
  intro i
  rw [out, out, putlen, wipe_length]
  by_cases hi : i ∈ vs
  · by_cases hl : i < σ.length
    · rw [if_pos ⟨hi, hl⟩, if_pos ⟨hi, hl⟩]
    · rw [if_neg fun z => hl z.2, if_neg fun z => hl z.2, List.getElem?_eq_none (by rw [putlen, wipe_length]; omega), List.getElem?_eq_none (by omega)]
  · rw [if_neg fun z => hi z.1, if_neg fun z => hi z.1, putout bs _ i (fun z => hi (h i z)), out, if_neg fun z => hi z.1]
end
end Mir
end

section
set_option Elab.async false
set_option linter.all false
set_option maxRecDepth 100000
set_option maxHeartbeats 1000000
/-! MirL: list and dict comprehensions. -/
namespace Mir
open PySem PySem.Spec PyProof.Rows L2

/-- within a block no exception may leave -/
abbrev never : XK := fun _ _ _ => False
def Res.nb {α β : Type} : Res α → (α → Store → Res β) → Res β
  | .ok a S, f => f a S
  | _, _ => .stuck
@[simp] theorem Res.nb_ok {α β : Type} (a : α) (S : Store) (f : α → Store → Res β) : (Res.ok a S).nb f = f a S := rfl
def tYesM : TM := fun _ S => .ok true S
def lcL (keep : Store → Bool) (p : Pt) (t : TM) (e : EM) (Λ : LEnv) : List AV → List AV → Store → Res (List AV)
  | [], acc, S => if keep S = true then .ok acc S else .stuck
  | x :: xs, acc, S => if keep S = true then (match dest p x with
    | some as => (t (putA Λ as) S).nb fun b S1 => if b = true then (e (putA Λ as) S1).nb fun v S2 => if acc.length < szL then lcL keep p t e Λ xs (acc ++ [v]) S2 else .stuck else lcL keep p t e Λ xs acc S1
    | none => .stuck) else .stuck
def eLc (it : IM) (own : List Nat) (p : Pt) (t : TM) (e : EM) : EM := fun Λ S => (it Λ S).bind fun src S1 => (lcL src.keep p t e (wipeA Λ own) src.items [] S1).nb fun xs S2 => .ok (.lst xs) (unlS src.lock S2)
/-- .. as a cell -/
def eLcR (it : IM) (own : List Nat) (p : Pt) (t : TM) (e : EM) : EM := fun Λ S => (it Λ S).bind fun src S1 => (lcL src.keep p t e (wipeA Λ own) src.items [] S1).nb fun xs S2 => .ok (.ref S2.length) (unlS src.lock (S2 ++ [.lst xs]))
def dcL (keep : Store → Bool) (p : Pt) (t : TM) (k e : EM) (Λ : LEnv) : List AV → List (DK × AV) → Store → Res (List (DK × AV))
  | [], acc, S => if keep S = true then .ok acc S else .stuck
  | x :: xs, acc, S => if keep S = true then (match dest p x with
    | some as => (t (putA Λ as) S).nb fun b S1 => if b = true then (k (putA Λ as) S1).nb fun u S2 => (e (putA Λ as) S2).nb fun v S3 => match akOf u with
      | some q => if acc.length < szL then dcL keep p t k e Λ xs (dput (.a q) v acc) S3 else .stuck
      | none => .stuck
      else dcL keep p t k e Λ xs acc S1
    | none => .stuck) else .stuck
/-- a new dict in a cell -/
def eDc (it : IM) (own : List Nat) (p : Pt) (t : TM) (k e : EM) : EM := fun Λ S => (it Λ S).bind fun src S1 => (dcL src.keep p t k e (wipeA Λ own) src.items [] S1).nb fun xs S2 => .ok (.ref S2.length) (unlS src.lock (S2 ++ [.dct xs]))
section
variable {X : Cx} {K : PySem.W.Frag} {g : G} {EX : XK} {H : Hp} {ι : List Addr} {S : Store} {pos : Pos} {D : Addr}
theorem unseen_hd (od : Obj) : Unseen (hd od) := .inl ⟨od, rfl⟩
/-- the unseen thing's place holds another thing -/
theorem GrowV.offU {u o : HO} (h : H D = some u) (hu : Unseen u) : GrowV ι H ι (upd H D o) :=
  ⟨⟨[], by simp, fun _ h => nomatch h⟩, fun a w ha _ hn => by
    rw [upd_ne fun z => ?_]
    · exact ha
    · rw [z, h] at ha
      cases ha
      exact hn hu⟩
theorem GrowV.off {od : Obj} {o : HO} (h : H D = some (hd od)) : GrowV ι H ι (upd H D o) := .offU h (unseen_hd od)
theorem unseen_ext {u : HO} (hu : Unseen u) : ∀ φ, u ≠ .ext φ := by
  rcases hu with ⟨_, rfl⟩ | ⟨_, rfl⟩ | ⟨_, rfl⟩ <;> exact fun _ z => (by cases z)
theorem Tab.offU {T : List (Addr × Str)} {u o : HO} (t : LamX.Tabs T H) (h : H D = some u) (hu : Unseen u) (ht : ∀ ps, u ≠ .tbl ps) : LamX.Tabs T (upd H D o) := fun p hp => by
  obtain ⟨ps, h1, h2, h3⟩ := t p hp
  have ne : p.1 ≠ D := fun z => by rw [z, h] at h1; exact ht _ (Option.some.inj h1)
  refine ⟨ps, by rw [upd_ne ne]; exact h1, h2, fun q cv e => ?_⟩
  obtain ⟨c, e1, e2⟩ := h3 q cv e
  exact ⟨c, e1, by rw [upd_ne fun z => by rw [z, h] at e2; exact unseen_ext hu _ (Option.some.inj e2)]; exact e2⟩
theorem Rel.off {od : Obj} {o : HO} (R : Rel K H ι g S) (h : H D = some (hd od)) (hn : D ∉ ι) : Rel K (upd H D o) ι g S :=
  ⟨R.len, R.nd, fun n c a h1 h2 => (R.cell n c a h1 h2).monoV (GrowV.off h) (upd_ne fun z => hn (by rw [← z]; exact List.mem_of_getElem? h2)), Tab.offU R.tab h (unseen_hd od) (fun _ z => by cases z)⟩
/-- the unseen thing becomes a cell -/
theorem GrowV.cellOffU {u o : HO} (h : H D = some u) (hu : Unseen u) : GrowV ι H (ι ++ [D]) (upd H D o) :=
  ⟨⟨[D], rfl, fun a ha => .inr ⟨u, by rw [List.mem_singleton.mp ha]; exact h, hu⟩⟩, (GrowV.offU h hu).keep⟩
theorem GrowV.cellOff {od : Obj} {o : HO} (h : H D = some (hd od)) : GrowV ι H (ι ++ [D]) (upd H D o) := .cellOffU h (unseen_hd od)
theorem Rel.cellOffU {u o : HO} {c : Cell} (R : Rel K H ι g S) (h : H D = some u) (hu : Unseen u) (ht : ∀ ps, u ≠ .tbl ps) (hn : D ∉ ι) (hc : CellR K (upd H D o) (ι ++ [D]) g c D) : Rel K (upd H D o) (ι ++ [D]) g (S ++ [c]) := by
  refine ⟨by rw [List.length_append, List.length_append, R.len]; rfl, ?_, fun n d a h1 h2 => ?_, Tab.offU R.tab h hu ht⟩
  · rw [List.nodup_append]
    exact ⟨R.nd, by simp, fun a ha b hb z => hn (by rw [List.mem_singleton.mp hb] at z; rw [← z]; exact ha)⟩
  · by_cases hl : n < S.length
    · rw [List.getElem?_append_left hl] at h1
      rw [List.getElem?_append_left (by rw [R.len]; exact hl)] at h2
      exact (R.cell n d a h1 h2).monoV (GrowV.cellOffU h hu) (upd_ne fun z => hn (by rw [← z]; exact List.mem_of_getElem? h2))
    · have e : n = S.length := by
        have := (List.getElem?_eq_some_iff.mp h1).1
        simp at this
        omega
      subst e
      rw [List.getElem?_append_right (Nat.le_refl _)] at h1
      rw [List.getElem?_append_right (by rw [R.len]; exact Nat.le_refl _), R.len] at h2
      simp at h1 h2
      subst h1 h2
      exact hc
theorem Rel.cellOff {od : Obj} {o : HO} {c : Cell} (R : Rel K H ι g S) (h : H D = some (hd od)) (hn : D ∉ ι) (hc : CellR K (upd H D o) (ι ++ [D]) g c D) : Rel K (upd H D o) (ι ++ [D]) g (S ++ [c]) := R.cellOffU h (unseen_hd od) (fun _ z => by cases z) hn hc
theorem Grow.cellAdd {ι1 : List Addr} {H1 : Hp} (G : Grow ι1 H1 ι H) (h : H1 D = none) : Grow ι1 H1 (ι ++ [D]) H := by
  obtain ⟨ν, e, hν⟩ := G.ext
  refine ⟨⟨⟨ν ++ [D], by rw [e, List.append_assoc], fun a ha => ?_⟩, G.keep, G.there, G.tbl⟩, G.frz⟩
  rcases List.mem_append.mp ha with z | z
  · exact hν a z
  · rw [List.mem_singleton.mp z]; exact .inl h
theorem Grow.off {ι1 : List Addr} {H1 : Hp} {o : HO} (G : Grow ι1 H1 ι H) (h : H1 D = none) : Grow ι1 H1 ι (upd H D o) := by
  have ne : ∀ a, H1 a ≠ none → a ≠ D := fun a ha z => ha (by rw [z]; exact h)
  refine ⟨⟨G.ext, fun a u ha hn ht => ?_, fun a ha => ?_, fun a ps h1 h2 => ?_⟩, fun a u w ha => ?_⟩
  · rw [upd_ne (ne a (by rw [ha]; simp))]; exact G.keep a u ha hn ht
  · rw [upd_ne (ne a ha)]; exact G.there a ha
  · rw [upd_ne (ne a h2)] at h1; exact G.tbl a ps h1 h2
  · rw [upd_ne (ne a (by rw [ha]; simp))]; exact G.frz a u w ha
theorem nb_ok {α β : Type} {m : Res α} {f : α → Store → Res β} {b : β} {S' : Store} (h : m.nb f = .ok b S') : ∃ a S1, m = .ok a S1 ∧ f a S1 = .ok b S' := by
  cases m with
  | ok a S1 => exact ⟨a, S1, rfl, h⟩
  | _ => cases h
theorem lcL_keep {keep : Store → Bool} {p : Pt} {t : TM} {e : EM} {Λ : LEnv} {xs acc : List AV} {r : List AV} {S' : Store} (h : lcL keep p t e Λ xs acc S = .ok r S') : keep S = true := by
  by_cases k : keep S = true
  · exact k
  · cases xs <;> (unfold lcL at h; rw [if_neg k] at h; cases h)
/-- the state at a turn: D, hidden, holds what is made so far -/
def LcAt (K : PySem.W.Frag) (g : G) (ι1 : List Addr) (H1 : Hp) (D : Addr) (Λ : LEnv) (τ : L2.St) (F : Store → List AV → Prop) (H : Hp) : Prop :=
  ∃ ι S acc vs od, H D = some (.lst vs) ∧ D ∉ ι ∧ Grow ι1 H1 ι (upd H D (hd od)) ∧ Rel K (upd H D (hd od)) ι g S ∧ REnv K (upd H D (hd od)) ι Λ τ ∧ Reps K (upd H D (hd od)) ι acc vs ∧ vs.length ≤ sizeLine ∧ F S acc
variable {elt tg iter : Expr} {scope : Scope} {own : List (Str × Nat)} {p : Pt} {IT : IM} {T : TM} {E : EM} {ifs : List Expr}
theorem lc_read (frzn : Bool) {σ : L2.St} {Q : VK} (hpv : ∀ i ∈ p.vars, i ∈ own.map (·.2))
    (h : xE X.K g EX (fun Λ S => (IT Λ S).bind fun src S1 => (lcL src.keep p T E (wipeA Λ (own.map (·.2))) src.items [] S1).nb fun xs S2 => if frzn = true then .ok (.lst xs) (unlS src.lock S2) else .ok (.ref S2.length) (unlS src.lock (S2 ++ [.lst xs]))) σ H Q) :
    tLc (xI X g EX IT) (hG (gP X.K p)) (hT (xT X.K g never T)) (hE (xE X.K g never E)) (own.map (·.2)) σ H (fun x => Unl X (Q x)) := by
  obtain ⟨ι, Λ, S, R, E0, q⟩ := h
  refine ⟨ι, Λ, S, R, E0, (Post.bind' q).mono fun src ι1 S1 H1 G1 R1 ⟨_, q1⟩ lk nf J ⟨G, Y, W, hG, hY⟩ => ?_⟩
  intro D hD
  obtain ⟨fin, Sf, hfin, q2⟩ : ∃ fin Sf, lcL src.keep p T E (wipeA Λ (own.map (·.2))) src.items [] S1 = .ok fin Sf ∧ Post X.K g EX ι H (if frzn = true then .ok (.lst fin) (unlS src.lock Sf) else .ok (.ref Sf.length) (unlS src.lock (Sf ++ [.lst fin]))) fun x ι' x_1 H' => ∀ v, Rep X.K H' ι' x v → Q v H' := by
    cases e : lcL src.keep p T E (wipeA Λ (own.map (·.2))) src.items [] S1 with
    | ok fin Sf => rw [e] at q1; exact ⟨fin, Sf, rfl, q1⟩
    | _ => rw [e] at q1; exact q1.elim
  generalize hΛ : wipeA Λ (own.map (·.2)) = Λ0 at hfin
  have E1 : REnv X.K H1 ι1 Λ0 (L2.wipe σ (own.map (·.2))) := by rw [← hΛ]; exact (E0.mono G1).wipe _
  have hDn : D ∉ ι1 := R1.nin hD
  have lnf : ∀ {ι' : List Addr} {H' : Hp}, (∀ n a, ι1[n]? = some a → ι'[n]? = some a) → ∀ n a, src.lock = some n → ι'[n]? = some a → ∀ o u, H a ≠ some (.frz o u) := fun {ι' H'} G' n a e1 e2 => by
    obtain ⟨a', h1, _⟩ := lk n e1
    have h2 := G' n a' h1
    rw [e2] at h2
    cases h2
    exact nf n a e1 h1
  have back : ∀ {H : Hp} {vs : List V}, H D = some (.lst vs) → upd H D (.lst vs) = H := fun {H vs} h => by funext b; by_cases z : b = D <;> simp [upd, z, h]
  refine lc_it W (fun i H => LcAt X.K g ι1 H1 D Λ0 (L2.wipe σ (own.map (·.2))) (fun S acc => lcL src.keep p T E Λ0 (src.items.drop i) acc S = .ok fin Sf) H) ?_ ?_ ?_ ?_
  · refine ⟨ι1, S1, [], [], default, upd_same, hDn, ?_, ?_, ?_, rfl, Nat.zero_le _, hfin⟩
    · rw [upd_upd]; exact .fresh hD
    · rw [upd_upd]; exact R1.fresh hD
    · rw [upd_upd]; exact E1.mono (.fresh hD)
  · rintro i H hi ⟨ι, S, acc, vs, od, h1, h2, G2, R2, E2, r2, hz, hf⟩
    refine hG ι S _ H G2 R2 (lcL_keep hf) ⟨fun a o ha hn => ?_, fun a ws ha => ?_⟩
    · by_cases z : a = D
      · rw [z, upd_same] at ha; exact absurd (Option.some.inj ha).symm (hn od)
      · rw [upd_ne z] at ha; exact ha
    · rw [upd_ne fun z => by rw [z, h1] at ha; cases ha]; exact ha
  · rintro i v H H' hi ⟨ι, S, acc, vs, od, h1, h2, G2, R2, E2, r2, hz, hf⟩ y
    have hk := lcL_keep hf
    have sees : Sees (upd H D (hd od)) H := ⟨fun a o ha hn => by
      by_cases z : a = D
      · rw [z, upd_same] at ha; exact absurd (Option.some.inj ha).symm (hn od)
      · rw [upd_ne z] at ha; exact ha, fun a ws ha => by rw [upd_ne fun z => by rw [z, h1] at ha; cases ha]; exact ha⟩
    have hy := hY i ι S _ H v H' src.items[i] G2 R2 hk sees (List.getElem?_eq_getElem hi) y
    -- behind the yield
    obtain ⟨hD', G3, R3, rx⟩ : H' D = some (.lst vs) ∧ Grow ι (upd H D (hd od)) ι (upd H' D (hd od)) ∧ Rel X.K (upd H' D (hd od)) ι g S ∧ Rep X.K (upd H' D (hd od)) ι src.items[i] v := by
      rcases hy with ⟨rfl, r⟩ | ⟨T', xs, ws, e, rfl, hT, rfl, r⟩
      · exact ⟨h1, .refl _ _, R2, r⟩
      · have hne : T' ≠ D := fun z => by rw [z, h1] at hT; cases hT
        have hT2 : upd H D (hd od) T' = none := by rw [upd_ne hne]; exact hT
        have ec : upd (upd H T' (.tup ws)) D (hd od) = upd (upd H D (hd od)) T' (.tup ws) := by
          funext b
          by_cases z : b = D
          · subst z; rw [upd_same, upd_ne (Ne.symm hne), upd_same]
          · rw [upd_ne z]
            by_cases z2 : b = T'
            · subst z2; rw [upd_same, upd_same]
            · rw [upd_ne z2, upd_ne z2, upd_ne z]
        refine ⟨by rw [upd_ne (Ne.symm hne)]; exact h1, ?_, ?_, ?_⟩
        · rw [ec]; exact .fresh hT2
        · rw [ec]; exact R2.fresh hT2
        · rw [ec, e]; exact R2.newTup hT2 r
    have G4 := G2.trans G3
    have E4 := E2.mono G3
    have r4 := Reps.mono G3 _ _ r2
    have ei : src.items.drop i = src.items[i] :: src.items.drop (i + 1) := by rw [List.drop_eq_getElem_cons hi]
    rw [ei] at hf
    simp only [lcL, if_pos hk] at hf
    cases ed : dest p src.items[i] with
    | none => rw [ed] at hf; cases hf
    | some as =>
      rw [ed] at hf
      dsimp only at hf
      obtain ⟨b, S2, et, hf⟩ := nb_ok hf
      -- the target
      refine ⟨D, .lst vs, hD', .inl ⟨vs, rfl⟩, fun od2 => ?_⟩
      have V2 : GrowV ι (upd H' D (hd od)) ι (upd H' D (hd od2)) := by
        have := GrowV.off (ι := ι) (H := upd H' D (hd od)) (D := D) (o := hd od2) upd_same
        rwa [upd_upd] at this
      obtain ⟨bs, d1, d2, d3⟩ := dest_v p _ v as ed (Rep.monoV V2 _ _ rx)
      refine ⟨bs, d1, upd_same, ?_⟩
      rw [upd_upd, back hD']
      refine ⟨wipe_put σ _ bs fun i hi => hpv i (by rw [← dest_vars p _ as ed, d2]; exact hi), ?_⟩
      -- the test
      refine ⟨D, .lst vs, hD', .inl ⟨vs, rfl⟩, fun od3 => ?_⟩
      have V3 : GrowV ι (upd H' D (hd od)) ι (upd H' D (hd od3)) := by
        have := GrowV.off (ι := ι) (H := upd H' D (hd od)) (D := D) (o := hd od3) upd_same
        rwa [upd_upd] at this
      have R5 : Rel X.K (upd H' D (hd od3)) ι g S := by
        have := R3.off (o := hd od3) upd_same h2
        rwa [upd_upd] at this
      have V23 : GrowV ι (upd H' D (hd od2)) ι (upd H' D (hd od3)) := by
        have := GrowV.off (ι := ι) (H := upd H' D (hd od2)) (D := D) (o := hd od3) upd_same
        rwa [upd_upd] at this
      have E5 : REnv X.K (upd H' D (hd od3)) ι (putA Λ0 as) (putV (L2.wipe σ (own.map (·.2))) bs) := (E4.monoV V3).put d2 (Reps.monoV V23 _ _ d3)
      have G5 : Grow ι1 H1 ι (upd H' D (hd od3)) := by
        have := G4.off (o := hd od3) hD
        rwa [upd_upd] at this
      have r5 := Reps.monoV V3 _ _ r4
      refine ⟨ι, putA Λ0 as, S, R5, E5, ?_⟩
      rw [et]
      intro ι6 H6 G6 R6
      have hD6 : H6 D = some (hd od3) := G6.keep D _ upd_same h2 (by intro _ z; cases z)
      have n6 : D ∉ ι6 := by
        obtain ⟨ν, rfl, hν⟩ := G6.ext
        intro z
        rcases List.mem_append.mp z with z | z
        · exact h2 z
        · have := hν D z; rw [upd_same] at this; rcases this with e | ⟨_, e⟩ <;> cases e
      refine ⟨hD6, ?_⟩
      have G16 := G5.trans G6
      cases b with
      | false =>
        simp only [Bool.false_eq_true, if_false] at hf ⊢
        refine ⟨ι6, S2, acc, vs, od3, upd_same, n6, ?_, ?_, ?_, ?_, hz, hf⟩
        · rw [upd_upd]; exact G16.off hD
        · rw [upd_upd]; exact R6.off hD6 n6
        · rw [upd_upd]; exact ((E4.monoV V3).mono G6).monoV (GrowV.off hD6)
        · rw [upd_upd]; exact Reps.monoV (GrowV.off hD6) _ _ (Reps.mono G6 _ _ r5)
      | true =>
        simp only [if_true] at hf ⊢
        obtain ⟨w, S3, ew, hf⟩ := nb_ok hf
        by_cases hl : acc.length < szL
        case neg => rw [if_neg hl] at hf; cases hf
        rw [if_pos hl] at hf
        refine ⟨D, .lst vs, upd_same, .inl ⟨vs, rfl⟩, fun od7 => ?_⟩
        rw [upd_upd]
        refine ⟨ι6, putA Λ0 as, S2, R6.off hD6 n6, (E5.mono G6).monoV (GrowV.off hD6), ?_⟩
        rw [ew]
        intro ι8 H8 G8 R8 v8 r8
        have hD8 : H8 D = some (hd od7) := G8.keep D _ upd_same n6 (by intro _ z; cases z)
        have n8 : D ∉ ι8 := by
          obtain ⟨ν, rfl, hν⟩ := G8.ext
          intro z
          rcases List.mem_append.mp z with z | z
          · exact n6 z
          · have := hν D z; rw [upd_same] at this; rcases this with e | ⟨_, e⟩ <;> cases e
        have hlen : vs.length = acc.length := r2.len
        refine ⟨hD8, vs, upd_same, by rw [hlen, ← szL_eq]; exact hl, ι8, S3, acc ++ [w], vs ++ [v8], od7, upd_same, n8, ?_, ?_, ?_, ?_, by rw [List.length_append, hlen, ← szL_eq]; show acc.length + 1 ≤ szL; omega, hf⟩
        · rw [upd_upd, upd_upd]; exact ((G16.off hD).trans G8).off hD
        · rw [upd_upd, upd_upd]; exact R8.off hD8 n8
        · rw [upd_upd, upd_upd]; exact ((((E4.monoV V3).mono G6).monoV (GrowV.off hD6)).mono G8).monoV (GrowV.off hD8)
        · rw [upd_upd, upd_upd]
          exact Reps.monoV (GrowV.off hD8) _ _ ((Reps.mono G8 _ _ (Reps.monoV (GrowV.off hD6) _ _ (Reps.mono G6 _ _ r5))).app (Reps.one r8))
  · rintro H2 ⟨ι2, S2, acc, vs, od, h1, h2, G2, R2, E2, r2, hz, hf⟩
    have hk := lcL_keep hf
    rw [List.drop_length] at hf
    simp only [lcL, if_pos hk, Res.ok.injEq] at hf
    obtain ⟨rfl, rfl⟩ := hf
    have eH : upd (upd H2 D (hd od)) D (.lst vs) = H2 := by rw [upd_upd]; exact back h1
    have G3 : Grow ι1 H1 ι2 H2 := by
      have := G2.off (o := .lst vs) hD
      rwa [eH] at this
    cases frzn with
    | true =>
      have R3 : Rel X.K H2 ι2 g S2 := by
        have := R2.off (o := .lst vs) upd_same h2
        rwa [eH] at this
      have r3 : Reps X.K H2 ι2 acc vs := by
        have := Reps.monoV (GrowV.off (o := .lst vs) (ι := ι2) (H := upd H2 D (hd od)) (D := D) upd_same) _ _ r2
        rwa [eH] at this
      refine unl_ok (G1.trans G3) (lk.grow G3) (lnf (H' := H2) fun n a e => G3.at e) R3 fun H4 Gw G4 R4 => ?_
      rw [if_pos rfl] at q2
      exact q2 ι2 H4 G4 R4 (.ref D) (Rep.monoW Gw (.lst acc) (.ref D) ⟨D, vs, rfl, ⟨h2, .inl h1⟩, r3⟩)
    | false =>
      have Vc := GrowV.cellOff (o := .lst vs) (ι := ι2) (H := upd H2 D (hd od)) (D := D) upd_same
      have R3 : Rel X.K H2 (ι2 ++ [D]) g (S2 ++ [.lst acc]) := by
        have := R2.cellOff (o := .lst vs) (c := .lst acc) upd_same h2 ⟨vs, upd_same, Reps.monoV Vc _ _ r2⟩
        rwa [eH] at this
      have G3' := G3.cellAdd hD
      refine unl_ok (G1.trans G3') (lk.grow G3') (lnf (H' := H2) fun n a e => G3'.at e) R3 fun H4 Gw G4 R4 => ?_
      rw [if_neg (by decide)] at q2
      exact q2 _ H4 G4 R4 (.ref D) ⟨D, rfl, by rw [← R2.len, List.getElem?_append_right (Nat.le_refl _), Nat.sub_self]; rfl⟩
theorem me_lc0 (frzn : Bool) (hc : X.calm = true) (hN : X.N.Nodup) (hi : MI g EX X tg iter IT) (ok : BlkOk X.N X.env.scope scope own) (hpv : ∀ i ∈ p.vars, i ∈ own.map (·.2))
    (hg : ∀ (s : Shared) (H : Hp) (C : Addr) (cl : List (Str × Addr)) (fp : List Addr), MP (X.blk s H scope (compEnvC scope cl C X.env) fp) tg p)
    (ht : ∀ (s : Shared) (H : Hp) (C : Addr) (cl : List (Str × Addr)) (fp : List Addr), PTs (X.blk s H scope (compEnvC scope cl C X.env) fp) ifs (xT X.K g never T))
    (he : ∀ (s : Shared) (H : Hp) (C : Addr) (cl : List (Str × Addr)) (fp : List Addr), ME g never (X.blk s H scope (compEnvC scope cl C X.env) fp) elt E) (hs : ∀ x, foldedSetIterable iter X.env x = pure x := by intro _; rfl) :
    ME g EX X (.ListComp elt [⟨tg, iter, ifs, 0⟩] scope pos) (fun Λ S => (IT Λ S).bind fun src S1 => (lcL src.keep p T E (wipeA Λ (own.map (·.2))) src.items [] S1).nb fun xs S2 => if frzn = true then .ok (.lst xs) (unlS src.lock S2) else .ok (.ref S2.length) (unlS src.lock (S2 ++ [.lst xs]))) :=
  PE.imp (pe_unl (pe_lc hc hN hi ok (fun s H C cl fp => pg_hide (t := gP X.K p) (hg s H C cl fp)) (fun s H C cl fp => pts_hide (ht s H C cl fp)) (fun s H C cl fp => pe_hide (t := xE X.K g never E) (he s H C cl fp)) hs)) fun σ H Q h => lc_read frzn hpv h
/-- name = [..] -/
theorem ms_setLc0 (frzn : Bool) {n : Nat} {y : Str} {py spos : Pos} (hc : X.calm = true) (hN : X.N.Nodup) (hy : X.N[n]? = some y) (hyl : X.env.scope.names.lookup y = some .local) (hsw : swapsWith (.ListComp elt [⟨tg, iter, ifs, 0⟩] scope pos) (some (.Name y py)) spos.line X.env = pure true)
    (hi : MI g EX X tg iter IT) (ok : BlkOk X.N X.env.scope scope own) (hpv : ∀ i ∈ p.vars, i ∈ own.map (·.2))
    (hg : ∀ (s : Shared) (H : Hp) (C : Addr) (cl : List (Str × Addr)) (fp : List Addr), MP (X.blk s H scope (compEnvC scope cl C X.env) fp) tg p)
    (ht : ∀ (s : Shared) (H : Hp) (C : Addr) (cl : List (Str × Addr)) (fp : List Addr), PTs (X.blk s H scope (compEnvC scope cl C X.env) fp) ifs (xT X.K g never T))
    (he : ∀ (s : Shared) (H : Hp) (C : Addr) (cl : List (Str × Addr)) (fp : List Addr), ME g never (X.blk s H scope (compEnvC scope cl C X.env) fp) elt E) (hs : ∀ x, foldedSetIterable iter X.env x = pure x := by intro _; rfl) :
    MS g EX X (.Assign [.Name y py] (.ListComp elt [⟨tg, iter, ifs, 0⟩] scope pos) spos) (sAsg (fun Λ S => (IT Λ S).bind fun src S1 => (lcL src.keep p T E (wipeA Λ (own.map (·.2))) src.items [] S1).nb fun xs S2 => if frzn = true then .ok (.lst xs) (unlS src.lock S2) else .ok (.ref S2.length) (unlS src.lock (S2 ++ [.lst xs]))) (gName n)) := by
  refine PS.imp (ps_unl (ps_setLc hc hN hy hyl hsw hi ok (fun s H C cl fp => pg_hide (t := gP X.K p) (hg s H C cl fp)) (fun s H C cl fp => pts_hide (ht s H C cl fp)) (fun s H C cl fp => pe_hide (t := xE X.K g never E) (he s H C cl fp)) hs)) fun D σ H h => ?_
  refine lc_read (g := g) (EX := EX) (X := X) frzn (Q := fun x H1 => D.nx (σ.set n (some x)) H1) hpv ?_
  obtain ⟨ι, Λ, S, R, E0, q⟩ := h
  exact ⟨ι, Λ, S, R, E0, (Post.sbind q).mono fun x ι1 S1 H1 G1 R1 q1 v r => q1 ι1 H1 _ (.refl _ _) R1 ((E0.mono G1).set n r)⟩
end
end Mir
end

section
set_option Elab.async false
set_option linter.all false
set_option maxRecDepth 100000
set_option maxHeartbeats 1000000
/-! MirM: dict comprehensions; comprehensions with and without a test. -/
namespace Mir
open PySem PySem.Spec PyProof.Rows L2
section
variable {X : Cx} {K : PySem.W.Frag} {g : G} {EX : XK} {H : Hp} {ι : List Addr} {S : Store} {pos : Pos} {D : Addr}
variable {elt tg iter : Expr} {scope : Scope} {own : List (Str × Nat)} {p : Pt} {IT : IM} {T : TM} {E : EM} {ifs : List Expr}

theorem pts_yes {K : PySem.W.Frag} : PTs X [] (xT K g never tYesM) := ⟨fun pins s σ H Q I ⟨ι, Λ, S, R, E, p⟩ => pts_nil.run pins s σ H Q I (p ι H (.refl _ _) R)⟩
theorem pts_if {c : Expr} (h : MT g never X c T) : PTs X [c] (xT X.K g never T) := pts_one h
theorem me_lc (hc : X.calm = true) (hN : X.N.Nodup) (hi : MI g EX X tg iter IT) (ok : BlkOk X.N X.env.scope scope own) (hpv : ∀ i ∈ p.vars, i ∈ own.map (·.2))
    (hg : ∀ (s : Shared) (H : Hp) (C : Addr) (cl : List (Str × Addr)) (fp : List Addr), MP (X.blk s H scope (compEnvC scope cl C X.env) fp) tg p)
    (ht : ∀ (s : Shared) (H : Hp) (C : Addr) (cl : List (Str × Addr)) (fp : List Addr), PTs (X.blk s H scope (compEnvC scope cl C X.env) fp) ifs (xT X.K g never T))
    (he : ∀ (s : Shared) (H : Hp) (C : Addr) (cl : List (Str × Addr)) (fp : List Addr), ME g never (X.blk s H scope (compEnvC scope cl C X.env) fp) elt E) (hs : ∀ x, foldedSetIterable iter X.env x = pure x := by intro _; rfl) :
    ME g EX X (.ListComp elt [⟨tg, iter, ifs, 0⟩] scope pos) (eLc IT (own.map (·.2)) p T E) := by
  have h := me_lc0 true hc hN hi ok hpv hg ht he hs (pos := pos)
  exact h
theorem me_lcR (hc : X.calm = true) (hN : X.N.Nodup) (hi : MI g EX X tg iter IT) (ok : BlkOk X.N X.env.scope scope own) (hpv : ∀ i ∈ p.vars, i ∈ own.map (·.2))
    (hg : ∀ (s : Shared) (H : Hp) (C : Addr) (cl : List (Str × Addr)) (fp : List Addr), MP (X.blk s H scope (compEnvC scope cl C X.env) fp) tg p)
    (ht : ∀ (s : Shared) (H : Hp) (C : Addr) (cl : List (Str × Addr)) (fp : List Addr), PTs (X.blk s H scope (compEnvC scope cl C X.env) fp) ifs (xT X.K g never T))
    (he : ∀ (s : Shared) (H : Hp) (C : Addr) (cl : List (Str × Addr)) (fp : List Addr), ME g never (X.blk s H scope (compEnvC scope cl C X.env) fp) elt E) (hs : ∀ x, foldedSetIterable iter X.env x = pure x := by intro _; rfl) :
    ME g EX X (.ListComp elt [⟨tg, iter, ifs, 0⟩] scope pos) (eLcR IT (own.map (·.2)) p T E) := by
  have h := me_lc0 false hc hN hi ok hpv hg ht he hs (pos := pos)
  exact h

theorem dcL_keep {keep : Store → Bool} {p : Pt} {t : TM} {k e : EM} {Λ : LEnv} {xs : List AV} {acc r : List (DK × AV)} {S' : Store} (h : dcL keep p t k e Λ xs acc S = .ok r S') : keep S = true := by
  by_cases kk : keep S = true
  · exact kk
  · cases xs <;> (unfold dcL at h; rw [if_neg kk] at h; cases h)
def DcAt (K : PySem.W.Frag) (g : G) (ι1 : List Addr) (H1 : Hp) (D : Addr) (Λ : LEnv) (τ : L2.St) (F : Store → List (DK × AV) → Prop) (H : Hp) : Prop :=
  ∃ ι S acc vs od, H D = some (.dK vs) ∧ D ∉ ι ∧ Grow ι1 H1 ι (upd H D (hd od)) ∧ Rel K (upd H D (hd od)) ι g S ∧ REnv K (upd H D (hd od)) ι Λ τ ∧ RepK K (upd H D (hd od)) ι acc vs ∧ vs.length ≤ sizeLine ∧ F S acc
theorem dc_it {J : It} {n : Nat} {G : Hp → Prop} {Y : Nat → Hp → V → Hp → Prop} (w : Walk J n G Y) {g : TG} {tt : TT} {tk tv : TE} {vs : List Nat} {σ : L2.St} {H1 : Hp} {D : Addr} {Qd : Hp → Prop} (Pv : Nat → Hp → Prop) (h0 : Pv 0 (upd H1 D (.dK []))) (hG : ∀ i H, i ≤ n → Pv i H → G H)
    (hs : ∀ i x H H', i < n → Pv i H → Y i H x H' → g x (L2.wipe σ vs) H' fun σ2 H2 => L2.wipe σ2 vs = L2.wipe σ vs ∧ tt σ2 H2 fun b H3 =>
      if b = true then tk σ2 H3 fun y H4 => tv σ2 H4 fun z H5 => ∃ kvs k, y = kV k ∧ H5 D = some (.dK kvs) ∧ kvs.length < sizeLine ∧ Pv (i + 1) (upd H5 D (.dK (putK kvs k z))) else Pv (i + 1) H3) (hd : ∀ H, Pv n H → Qd H) :
    ∃ W : Nat → Nat → Hp → Prop, (∃ m, W 0 m (upd H1 D (.dK []))) ∧ ∀ i m H, W i m H →
      (J.stop i H ∧ Qd H) ∨ (J.go i H ∧ ∃ Nx : Hp → Prop, (∀ H', Nx H' → ∃ m', m' < m ∧ W (i + 1) m' H') ∧ ∀ x H', J.yld i H x H' → g x (L2.wipe σ vs) H' fun σ2 H2 => L2.wipe σ2 vs = L2.wipe σ vs ∧ tt σ2 H2 fun b H3 =>
        if b = true then tk σ2 H3 fun y H4 => tv σ2 H4 fun z H5 => ∃ kvs k, y = kV k ∧ H5 D = some (.dK kvs) ∧ kvs.length < sizeLine ∧ Nx (upd H5 D (.dK (putK kvs k z))) else Nx H3) := by
  refine ⟨fun i m H => m = n - i ∧ i ≤ n ∧ Pv i H, ⟨n, by simp, Nat.zero_le _, h0⟩, ?_⟩
  rintro i m H ⟨rfl, hi, p⟩
  have q := hG i H hi p
  by_cases hlt : i < n
  · refine .inr ⟨w.goes i H hlt q, Pv (i + 1), fun H' p' => ⟨n - (i + 1), by omega, rfl, hlt, p'⟩, fun x H' y => hs i x H H' hlt p (w.yields i H x H' hlt q y)⟩
  · have e : i = n := by omega
    subst e
    exact .inl ⟨w.stops H q, hd H p⟩
variable {kx : Expr} {U : EM}
theorem dc_read {σ : L2.St} {Q : VK} (hpv : ∀ i ∈ p.vars, i ∈ own.map (·.2)) (h : xE X.K g EX (eDc IT (own.map (·.2)) p T U E) σ H Q) :
    tDc (xI X g EX IT) (hG (gP X.K p)) (hT (xT X.K g never T)) (hE (xE X.K g never U)) (hE (xE X.K g never E)) (own.map (·.2)) σ H (fun x => Unl X (Q x)) := by
  obtain ⟨ι, Λ, S, R, E0, q⟩ := h
  refine ⟨ι, Λ, S, R, E0, (Post.bind' q).mono fun src ι1 S1 H1 G1 R1 ⟨_, q1⟩ lk nf J ⟨G, Y, W, hG, hY⟩ => ?_⟩
  intro D hD
  obtain ⟨fin, Sf, hfin, q2⟩ : ∃ fin Sf, dcL src.keep p T U E (wipeA Λ (own.map (·.2))) src.items [] S1 = .ok fin Sf ∧ Post X.K g EX ι H (.ok (.ref Sf.length) (unlS src.lock (Sf ++ [.dct fin]))) fun x ι' x_1 H' => ∀ v, Rep X.K H' ι' x v → Q v H' := by
    cases e : dcL src.keep p T U E (wipeA Λ (own.map (·.2))) src.items [] S1 with
    | ok fin Sf => rw [e] at q1; exact ⟨fin, Sf, rfl, q1⟩
    | _ => rw [e] at q1; exact q1.elim
  generalize hΛ : wipeA Λ (own.map (·.2)) = Λ0 at hfin
  have E1 : REnv X.K H1 ι1 Λ0 (L2.wipe σ (own.map (·.2))) := by rw [← hΛ]; exact (E0.mono G1).wipe _
  have hDn : D ∉ ι1 := R1.nin hD
  have lnf : ∀ {ι' : List Addr} {H' : Hp}, (∀ n a, ι1[n]? = some a → ι'[n]? = some a) → ∀ n a, src.lock = some n → ι'[n]? = some a → ∀ o u, H a ≠ some (.frz o u) := fun {ι' H'} G' n a e1 e2 => by
    obtain ⟨a', h1, _⟩ := lk n e1
    have h2 := G' n a' h1
    rw [e2] at h2
    cases h2
    exact nf n a e1 h1
  have back : ∀ {H : Hp} {vs : List (Key × V)}, H D = some (.dK vs) → upd H D (.dK vs) = H := fun {H vs} h => by funext b; by_cases z : b = D <;> simp [upd, z, h]
  refine dc_it W (fun i H => DcAt X.K g ι1 H1 D Λ0 (L2.wipe σ (own.map (·.2))) (fun S acc => dcL src.keep p T U E Λ0 (src.items.drop i) acc S = .ok fin Sf) H) ?_ ?_ ?_ ?_
  · refine ⟨ι1, S1, [], [], default, upd_same, hDn, ?_, ?_, ?_, rfl, Nat.zero_le _, hfin⟩
    · rw [upd_upd]; exact .fresh hD
    · rw [upd_upd]; exact R1.fresh hD
    · rw [upd_upd]; exact E1.mono (.fresh hD)
  · rintro i H hi ⟨ι, S, acc, vs, od, h1, h2, G2, R2, E2, r2, hz, hf⟩
    refine hG ι S _ H G2 R2 (dcL_keep hf) ⟨fun a o ha hn => ?_, fun a ws ha => ?_⟩
    · by_cases z : a = D
      · rw [z, upd_same] at ha; exact absurd (Option.some.inj ha).symm (hn od)
      · rw [upd_ne z] at ha; exact ha
    · rw [upd_ne fun z => by rw [z, h1] at ha; cases ha]; exact ha
  · rintro i v H H' hi ⟨ι, S, acc, vs, od, h1, h2, G2, R2, E2, r2, hz, hf⟩ y
    have hk := dcL_keep hf
    have sees : Sees (upd H D (hd od)) H := ⟨fun a o ha hn => by
      by_cases z : a = D
      · rw [z, upd_same] at ha; exact absurd (Option.some.inj ha).symm (hn od)
      · rw [upd_ne z] at ha; exact ha, fun a ws ha => by rw [upd_ne fun z => by rw [z, h1] at ha; cases ha]; exact ha⟩
    have hy := hY i ι S _ H v H' src.items[i] G2 R2 hk sees (List.getElem?_eq_getElem hi) y
    -- behind the yield
    obtain ⟨hD', G3, R3, rx⟩ : H' D = some (.dK vs) ∧ Grow ι (upd H D (hd od)) ι (upd H' D (hd od)) ∧ Rel X.K (upd H' D (hd od)) ι g S ∧ Rep X.K (upd H' D (hd od)) ι src.items[i] v := by
      rcases hy with ⟨rfl, r⟩ | ⟨T', xs, ws, e, rfl, hT, rfl, r⟩
      · exact ⟨h1, .refl _ _, R2, r⟩
      · have hne : T' ≠ D := fun z => by rw [z, h1] at hT; cases hT
        have hT2 : upd H D (hd od) T' = none := by rw [upd_ne hne]; exact hT
        have ec : upd (upd H T' (.tup ws)) D (hd od) = upd (upd H D (hd od)) T' (.tup ws) := by
          funext b
          by_cases z : b = D
          · subst z; rw [upd_same, upd_ne (Ne.symm hne), upd_same]
          · rw [upd_ne z]
            by_cases z2 : b = T'
            · subst z2; rw [upd_same, upd_same]
            · rw [upd_ne z2, upd_ne z2, upd_ne z]
        refine ⟨by rw [upd_ne (Ne.symm hne)]; exact h1, ?_, ?_, ?_⟩
        · rw [ec]; exact .fresh hT2
        · rw [ec]; exact R2.fresh hT2
        · rw [ec, e]; exact R2.newTup hT2 r
    have G4 := G2.trans G3
    have E4 := E2.mono G3
    have r4 := RepK.mono G3 _ _ r2
    have ei : src.items.drop i = src.items[i] :: src.items.drop (i + 1) := by rw [List.drop_eq_getElem_cons hi]
    rw [ei] at hf
    simp only [dcL, if_pos hk] at hf
    cases ed : dest p src.items[i] with
    | none => rw [ed] at hf; cases hf
    | some as =>
      rw [ed] at hf
      dsimp only at hf
      obtain ⟨b, S2, et, hf⟩ := nb_ok hf
      -- the target
      refine ⟨D, .dK vs, hD', .inr ⟨vs, rfl⟩, fun od2 => ?_⟩
      have V2 : GrowV ι (upd H' D (hd od)) ι (upd H' D (hd od2)) := by
        have := GrowV.off (ι := ι) (H := upd H' D (hd od)) (D := D) (o := hd od2) upd_same
        rwa [upd_upd] at this
      obtain ⟨bs, d1, d2, d3⟩ := dest_v p _ v as ed (Rep.monoV V2 _ _ rx)
      refine ⟨bs, d1, upd_same, ?_⟩
      rw [upd_upd, back hD']
      refine ⟨wipe_put σ _ bs fun i hi => hpv i (by rw [← dest_vars p _ as ed, d2]; exact hi), ?_⟩
      -- the test
      refine ⟨D, .dK vs, hD', .inr ⟨vs, rfl⟩, fun od3 => ?_⟩
      have V3 : GrowV ι (upd H' D (hd od)) ι (upd H' D (hd od3)) := by
        have := GrowV.off (ι := ι) (H := upd H' D (hd od)) (D := D) (o := hd od3) upd_same
        rwa [upd_upd] at this
      have R5 : Rel X.K (upd H' D (hd od3)) ι g S := by
        have := R3.off (o := hd od3) upd_same h2
        rwa [upd_upd] at this
      have V23 : GrowV ι (upd H' D (hd od2)) ι (upd H' D (hd od3)) := by
        have := GrowV.off (ι := ι) (H := upd H' D (hd od2)) (D := D) (o := hd od3) upd_same
        rwa [upd_upd] at this
      have E5 : REnv X.K (upd H' D (hd od3)) ι (putA Λ0 as) (putV (L2.wipe σ (own.map (·.2))) bs) := (E4.monoV V3).put d2 (Reps.monoV V23 _ _ d3)
      have G5 : Grow ι1 H1 ι (upd H' D (hd od3)) := by
        have := G4.off (o := hd od3) hD
        rwa [upd_upd] at this
      have r5 := RepK.monoV V3 _ _ r4
      refine ⟨ι, putA Λ0 as, S, R5, E5, ?_⟩
      rw [et]
      intro ι6 H6 G6 R6
      have hD6 : H6 D = some (hd od3) := G6.keep D _ upd_same h2 (by intro _ z; cases z)
      have n6 : D ∉ ι6 := by
        obtain ⟨ν, rfl, hν⟩ := G6.ext
        intro z
        rcases List.mem_append.mp z with z | z
        · exact h2 z
        · have := hν D z; rw [upd_same] at this; rcases this with e | ⟨_, e⟩ <;> cases e
      refine ⟨hD6, ?_⟩
      have G16 := G5.trans G6
      cases b with
      | false =>
        simp only [Bool.false_eq_true, if_false] at hf ⊢
        refine ⟨ι6, S2, acc, vs, od3, upd_same, n6, ?_, ?_, ?_, ?_, hz, hf⟩
        · rw [upd_upd]; exact G16.off hD
        · rw [upd_upd]; exact R6.off hD6 n6
        · rw [upd_upd]; exact ((E4.monoV V3).mono G6).monoV (GrowV.off hD6)
        · rw [upd_upd]; exact RepK.monoV (GrowV.off hD6) _ _ (RepK.mono G6 _ _ r5)
      | true =>
        simp only [if_true] at hf ⊢
        obtain ⟨kq, S3, ek, hf⟩ := nb_ok hf
        obtain ⟨w, S4, ew, hf⟩ := nb_ok hf
        cases eq : akOf kq with
        | none => rw [eq] at hf; cases hf
        | some q =>
        rw [eq] at hf
        dsimp only at hf
        by_cases hl : acc.length < szL
        case neg => rw [if_neg hl] at hf; cases hf
        rw [if_pos hl] at hf
        refine ⟨D, .dK vs, upd_same, .inr ⟨vs, rfl⟩, fun od7 => ?_⟩
        rw [upd_upd]
        refine ⟨ι6, putA Λ0 as, S2, R6.off hD6 n6, (E5.mono G6).monoV (GrowV.off hD6), ?_⟩
        rw [ek]
        intro ι8 H8 G8 R8 v8 r8
        have hD8 : H8 D = some (hd od7) := G8.keep D _ upd_same n6 (by intro _ z; cases z)
        have n8 : D ∉ ι8 := by
          obtain ⟨ν, rfl, hν⟩ := G8.ext
          intro z
          rcases List.mem_append.mp z with z | z
          · exact n6 z
          · have := hν D z; rw [upd_same] at this; rcases this with e | ⟨_, e⟩ <;> cases e
        refine ⟨hD8, ?_⟩
        refine ⟨D, .dK vs, upd_same, .inr ⟨vs, rfl⟩, fun od9 => ?_⟩
        rw [upd_upd]
        have E8 := ((E5.mono G6).monoV (GrowV.off hD6)).mono G8
        refine ⟨ι8, putA Λ0 as, S3, R8.off hD8 n8, E8.monoV (GrowV.off hD8), ?_⟩
        rw [ew]
        intro ι10 H10 G10 R10 v10 r10
        have hD10 : H10 D = some (hd od9) := G10.keep D _ upd_same n8 (by intro _ z; cases z)
        have n10 : D ∉ ι10 := by
          obtain ⟨ν, rfl, hν⟩ := G10.ext
          intro z
          rcases List.mem_append.mp z with z | z
          · exact n8 z
          · have := hν D z; rw [upd_same] at this; rcases this with e | ⟨_, e⟩ <;> cases e
        have hlen : vs.length = acc.length := r2.len
        have hzn : (putK vs q.k v10).length ≤ sizeLine := by
          have := length_putK vs q.k v10
          rw [← szL_eq]; omega
        refine ⟨hD10, vs, q.k, kV_ak eq r8, upd_same, by rw [hlen, ← szL_eq]; exact hl, ι10, S4, dput (.a q) w acc, putK vs q.k v10, od9, upd_same, n10, ?_, ?_, ?_, ?_, hzn, hf⟩
        · rw [upd_upd, upd_upd]; exact ((((G16.off hD).trans G8).off hD).trans G10).off hD
        · rw [upd_upd, upd_upd]; exact R10.off hD10 n10
        · rw [upd_upd, upd_upd]; exact ((((((E4.monoV V3).mono G6).monoV (GrowV.off hD6)).mono G8).monoV (GrowV.off hD8)).mono G10).monoV (GrowV.off hD10)
        · rw [upd_upd, upd_upd]
          exact RepK.monoV (GrowV.off hD10) _ _ (dputK (RepK.mono G10 _ _ (RepK.monoV (GrowV.off hD8) _ _ (RepK.mono G8 _ _ (RepK.monoV (GrowV.off hD6) _ _ (RepK.mono G6 _ _ r5))))) r10)
  · rintro H2 ⟨ι2, S2, acc, vs, od, h1, h2, G2, R2, E2, r2, hz, hf⟩
    have hk := dcL_keep hf
    rw [List.drop_length] at hf
    simp only [dcL, if_pos hk, Res.ok.injEq] at hf
    obtain ⟨rfl, rfl⟩ := hf
    have eH : upd (upd H2 D (hd od)) D (.dK vs) = H2 := by rw [upd_upd]; exact back h1
    have G3 : Grow ι1 H1 ι2 H2 := by
      have := G2.off (o := .dK vs) hD
      rwa [eH] at this
    have Vc := GrowV.cellOff (o := .dK vs) (ι := ι2) (H := upd H2 D (hd od)) (D := D) upd_same
    have R3 : Rel X.K H2 (ι2 ++ [D]) g (S2 ++ [.dct acc]) := by
      have := R2.cellOff (o := .dK vs) (c := .dct acc) upd_same h2 (.inl ⟨vs, upd_same, RepK.monoV Vc _ _ r2⟩)
      rwa [eH] at this
    have G3' := G3.cellAdd hD
    refine unl_ok (G1.trans G3') (lk.grow G3') (lnf (H' := H2) fun n a e => G3'.at e) R3 fun H4 Gw G4 R4 => ?_
    exact q2 _ H4 G4 R4 (.ref D) ⟨D, rfl, by rw [← R2.len, List.getElem?_append_right (Nat.le_refl _), Nat.sub_self]; rfl⟩
theorem me_dc (hc : X.calm = true) (hN : X.N.Nodup) (hi : MI g EX X tg iter IT) (ok : BlkOk X.N X.env.scope scope own) (hpv : ∀ i ∈ p.vars, i ∈ own.map (·.2))
    (hg : ∀ (s : Shared) (H : Hp) (C : Addr) (cl : List (Str × Addr)) (fp : List Addr), MP (X.blk s H scope (compEnvC scope cl C X.env) fp) tg p)
    (ht : ∀ (s : Shared) (H : Hp) (C : Addr) (cl : List (Str × Addr)) (fp : List Addr), PTs (X.blk s H scope (compEnvC scope cl C X.env) fp) ifs (xT X.K g never T))
    (hkx : ∀ (s : Shared) (H : Hp) (C : Addr) (cl : List (Str × Addr)) (fp : List Addr), ME g never (X.blk s H scope (compEnvC scope cl C X.env) fp) kx U)
    (he : ∀ (s : Shared) (H : Hp) (C : Addr) (cl : List (Str × Addr)) (fp : List Addr), ME g never (X.blk s H scope (compEnvC scope cl C X.env) fp) elt E) (hs : ∀ x, foldedSetIterable iter X.env x = pure x := by intro _; rfl) :
    ME g EX X (.DictComp kx elt [⟨tg, iter, ifs, 0⟩] scope pos) (eDc IT (own.map (·.2)) p T U E) :=
  PE.imp (pe_unl (pe_dc hc hN hi ok (fun s H C cl fp => pg_hide (t := gP X.K p) (hg s H C cl fp)) (fun s H C cl fp => pts_hide (ht s H C cl fp)) (fun s H C cl fp => pe_hide (t := xE X.K g never U) (hkx s H C cl fp)) (fun s H C cl fp => pe_hide (t := xE X.K g never E) (he s H C cl fp)) hs)) fun σ H Q h => dc_read hpv h
/-- name = {..} on one line, the name a local -/
theorem ps_setDc {i : Nat} {y : Str} {py : Pos} {spos : Pos} {wi : TI} {g : TG} {tt : TT} {tk tv : TE} (hc : X.calm = true) (hN : X.N.Nodup) (hy : X.N[i]? = some y) (hyl : X.env.scope.names.lookup y = some .local)
    (hsw : swapsWith (.DictComp kx elt [⟨tg, iter, ifs, 0⟩] scope pos) (some (.Name y py)) spos.line X.env = pure true) (hi : PI X tg iter wi) (ok : BlkOk X.N X.env.scope scope own)
    (hg : ∀ (s : Shared) (H : Hp) (C : Addr) (cl : List (Str × Addr)) (fp : List Addr), PG (X.blk s H scope (compEnvC scope cl C X.env) fp) tg g) (ht : ∀ (s : Shared) (H : Hp) (C : Addr) (cl : List (Str × Addr)) (fp : List Addr), PTs (X.blk s H scope (compEnvC scope cl C X.env) fp) ifs tt)
    (hk : ∀ (s : Shared) (H : Hp) (C : Addr) (cl : List (Str × Addr)) (fp : List Addr), PE (X.blk s H scope (compEnvC scope cl C X.env) fp) kx tk)
    (he : ∀ (s : Shared) (H : Hp) (C : Addr) (cl : List (Str × Addr)) (fp : List Addr), PE (X.blk s H scope (compEnvC scope cl C X.env) fp) elt tv) (hs : ∀ x, foldedSetIterable iter X.env x = pure x := by intro _; rfl) :
    PS X (.Assign [.Name y py] (.DictComp kx elt [⟨tg, iter, ifs, 0⟩] scope pos) spos) (tAsg (tDc wi g tt tk tv (own.map (·.2))) (L2.gName i)) := by
  refine ⟨fun pins s σ H D I h => ?_⟩
  rw [exec_Assign_Name_used _ _ _ _ hsw]
  refine wpAny_bind (wpAny_standAt (wpAny_bind ?_))
  show wpAny _ X.A (do let _ ← comprehension (.DictComp kx elt [⟨tg, iter, ifs, 0⟩] scope pos) scope X.env (firstIterPos [⟨tg, iter, ifs, 0⟩] pos) newDict false (eval iter X.env) (some (assign (.Name y py) X.env))) _ _ s
  have h : tDc wi g tt tk tv (own.map (·.2)) σ H (fun x H1 => L2.gName i x σ H1 D.nx) := h
  refine wpAny_bind (thn (dc_core (Qf := fun _ s' => SP X pins D .next s') hc hN I hi ok hg ht hk he hs h fun L C s' m H' I' q hn f => ?_) fun _ s' hq => wpAny_pure (wpAny_pure hq))
  show wpAny _ _ (assign (.Name y py) X.env (.ref L)) _ _ _
  refine wpAny_assign_Name (store_ok2 (v := V.ref L) I' hN hy (.inl hyl) rfl (fun s2 I2 ⟨a, sb, ha⟩ => ?_) (.inr hyl))
  obtain ⟨f0, f1, f2, f3, f4, f5⟩ := f
  have haC : C ≠ a := by
    rcases ha with z | z
    · rw [z]; exact f1
    · exact fun e => f4 y a z e.symm
  refine ⟨m, hn.sameBut sb haC, fun h3 sb3 => ?_⟩
  exact ⟨_, H', I2.turned (t' := s2.toks) (fun b o hb e => (sb3.2 b hb).trans e) f0 f1 f3 f4 f5, q⟩
theorem swD_true {kx vx : Expr} {gs : List Comprehension} {scope : Scope} {pos py : Pos} {y : Str} {l : Nat} {env : Env} (hk : env.scope.kind = .function) (hy : env.scope.names.lookup y = some .local) (hl : (py.line == pos.line) = true)
    (ha : (scope.names.any fun (n, k) => n == y && (k == .local || k == .cell)) = false) : swapsWith (.DictComp kx vx gs scope pos) (some (.Name y py)) l env = pure true := by
  have ky : env.kindOf y = some .local := hy
  have hb : env.blockKind = .function := by unfold Env.blockKind; rw [hk]; rfl
  unfold swapsWith
  simp only [hb, ky, ha, Expr.pos, hl]
  rfl
theorem ms_setDc {n : Nat} {y : Str} {py spos : Pos} (hc : X.calm = true) (hy : X.N[n]? = some y) (hyl : X.env.scope.names.lookup y = some .local) (hsw : swapsWith (.DictComp kx elt [⟨tg, iter, ifs, 0⟩] scope pos) (some (.Name y py)) spos.line X.env = pure true)
    (hN : X.N.Nodup) (hi : MI g EX X tg iter IT) (ok : BlkOk X.N X.env.scope scope own) (hpv : ∀ i ∈ p.vars, i ∈ own.map (·.2))
    (hg : ∀ (s : Shared) (H : Hp) (C : Addr) (cl : List (Str × Addr)) (fp : List Addr), MP (X.blk s H scope (compEnvC scope cl C X.env) fp) tg p)
    (ht : ∀ (s : Shared) (H : Hp) (C : Addr) (cl : List (Str × Addr)) (fp : List Addr), PTs (X.blk s H scope (compEnvC scope cl C X.env) fp) ifs (xT X.K g never T))
    (hkx : ∀ (s : Shared) (H : Hp) (C : Addr) (cl : List (Str × Addr)) (fp : List Addr), ME g never (X.blk s H scope (compEnvC scope cl C X.env) fp) kx U)
    (he : ∀ (s : Shared) (H : Hp) (C : Addr) (cl : List (Str × Addr)) (fp : List Addr), ME g never (X.blk s H scope (compEnvC scope cl C X.env) fp) elt E) (hs : ∀ x, foldedSetIterable iter X.env x = pure x := by intro _; rfl) :
    MS g EX X (.Assign [.Name y py] (.DictComp kx elt [⟨tg, iter, ifs, 0⟩] scope pos) spos) (sAsg (eDc IT (own.map (·.2)) p T U E) (gName n)) := by
  refine PS.imp (ps_unl (ps_setDc hc hN hy hyl hsw hi ok (fun s H C cl fp => pg_hide (t := gP X.K p) (hg s H C cl fp)) (fun s H C cl fp => pts_hide (ht s H C cl fp)) (fun s H C cl fp => pe_hide (t := xE X.K g never U) (hkx s H C cl fp)) (fun s H C cl fp => pe_hide (t := xE X.K g never E) (he s H C cl fp)) hs)) fun D σ H h => ?_
  refine dc_read (g := g) (EX := EX) (X := X) (Q := fun x H1 => D.nx (σ.set n (some x)) H1) hpv ?_
  obtain ⟨ι, Λ, S, R, E0, q⟩ := h
  exact ⟨ι, Λ, S, R, E0, (Post.sbind q).mono fun x ι1 S1 H1 G1 R1 q1 v r => q1 ι1 H1 _ (.refl _ _) R1 ((E0.mono G1).set n r)⟩
end
end Mir
end

section
set_option Elab.async false
set_option linter.all false
set_option maxRecDepth 100000
set_option maxHeartbeats 1000000
/-! MirN: data that are ordered: max, min, sorted. -/
namespace Mir
open PySem PySem.Spec PyProof.Rows L2

mutual
def pd : AV → PyData
  | .int i => .int i
  | .str x => .str (toS x)
  | .bl b => .bool b
  | .tup xs => .tuple (pds xs)
  | .ktp xs => .tuple (pds xs)
  | _ => .none
def pds : List AV → List PyData
  | [] => []
  | x :: xs => pd x :: pds xs
end
mutual
def pdOk : AV → Bool
  | .int _ => true
  | .str _ => true
  | .bl _ => true
  | .tup xs => pdOks xs
  | .ktp xs => pdOks xs
  | _ => false
def pdOks : List AV → Bool
  | [] => true
  | x :: xs => pdOk x && pdOks xs
end
theorem pds_map : ∀ xs : List AV, pds xs = xs.map pd
  | [] => rfl
  | x :: xs => by rw [pds, pds_map xs]; rfl
def alikeB (ds : List PyData) : Bool := ds.all fun x => ds.all fun y => PySem.W.alike x y
def shallow (ds : List PyData) : Bool := decide (PyData.depthAll ds ≤ 50)
/-- may be compared with one another -/
def ordOk (ys : List AV) : Bool := pdOks ys && alikeB (ys.map pd) && shallow (ys.map pd)
def bestAt (gt : Bool) (ds : List PyData) : Nat := argBest (if gt = true then fun i j => PySem.W.dataLt (ds.getD j .none) (ds.getD i .none) else fun i j => PySem.W.dataLt (ds.getD i .none) (ds.getD j .none)) (ds.length - 1)
def bestA (gt : Bool) (ys : List AV) (S : Store) : Res AV := if ys ≠ [] ∧ ordOk ys = true then (match ys[bestAt gt (ys.map pd)]? with
  | some y => .ok y S
  | none => .stuck) else .stuck
def fBest (gt : Bool) : Fn := fun xs S => match xs with
  | [x] => match seqOf S x with
    | some ys => bestA gt ys S
    | none => .stuck
  | [x, y] => bestA gt [x, y] S
  | _ => .stuck
/-- what sorted takes -/
def sortOk (ys : List AV) : Bool := ordOk ys && (ys.all (fun y => match pd y with | .tuple (_ :: _) => true | _ => false) || ys.all fun y => match pd y with | .tuple _ => false | .none => false | _ => true) && decide (ys.length ≤ szL)
def sortA (ys : List AV) : List AV := ys.mergeSort (PySem.W.dataLe false pd)
def fSorted : Fn := fun xs S => match xs with
  | [x] => match (match x with | .kst ys => some ys | x => lstOf S x) with
    | some ys => if sortOk ys = true then .ok (.lst (sortA ys)) S else .stuck
    | none => .stuck
  | _ => .stuck
section
variable {X : Cx} {K : PySem.W.Frag} {g : G} {EX : XK} {H : Hp} {ι : List Addr} {S : Store}
mutual
theorem pd_reads0 {pins : List (Addr × Obj)} {σ : L2.St} {s : Shared} (I : L2.Inv X pins σ H s) : ∀ (x : AV) (v : V) (v' : Value), pdOk x = true → Rep X.K H ι x v → L2.RelV v v' → Reads s.heap v' (pd x) []
  | .int i, v, v', _, r, q => by cases r; obtain ⟨t, rfl⟩ := q; exact .int i t
  | .str x, v, v', _, r, q => by cases r; obtain ⟨t, rfl⟩ := q; exact .str _ t
  | .bl b, v, v', _, r, q => by cases r; cases q; exact .bool b
  | .tup xs, v, v', h, ⟨a, vs, e, t, r⟩, q => by
    subst e
    cases q
    obtain ⟨its, rv, ⟨o, ho, hc, n, hd⟩, _⟩ := I.tuple t.sq
    have hr := pds_reads0 I xs vs its (by simpa [pdOk] using h) r rv
    exact .tuple ho hc hd (by simpa using hr)
  | .ktp xs, v, v', h, ⟨a, vs, e, t, r⟩, q => by
    subst e
    cases q
    obtain ⟨its, rv, ⟨o, ho, hc, n, hd⟩, _⟩ := I.tuple (.inr t)
    have hr := pds_reads0 I xs vs its (by simpa [pdOk] using h) r rv
    exact .tuple ho hc hd (by simpa using hr)
  | .non, _, _, h, _, _ => by simp [pdOk] at h
  | .lst _, _, _, h, _, _ => by simp [pdOk] at h
  | .kst _, _, _, h, _, _ => by simp [pdOk] at h
  | .dct _, _, _, h, _, _ => by simp [pdOk] at h
  | .ref _, _, _, h, _, _ => by simp [pdOk] at h
  | .clo _, _, _, h, _, _ => by simp [pdOk] at h
theorem pds_reads0 {pins : List (Addr × Obj)} {σ : L2.St} {s : Shared} (I : L2.Inv X pins σ H s) : ∀ (xs : List AV) (vs : List V) (us : List Value), pdOks xs = true → Reps X.K H ι xs vs → L2.Vals vs us → ReadsAll s.heap us (pds xs) []
  | [], vs, us, _, r, q => by
    cases (show vs = [] from r)
    cases q
    exact .nil
  | x :: xs, vs, us, h, ⟨v, ws, e, r1, r2⟩, q => by
    subst e
    cases q with
    | cons q1 q2 =>
      simp only [pdOks, Bool.and_eq_true] at h
      exact .cons (as := []) (bs := []) (pd_reads0 I x v _ h.1 r1 q1) (pds_reads0 I xs ws _ h.2 r2 q2)
end
theorem pd_reads {pins : List (Addr × Obj)} {σ : L2.St} {s : Shared} (I : L2.Inv X pins σ H s) (x : AV) (v : V) (v' : Value) (h : pdOk x = true) (r : Rep X.K H ι x v) (q : L2.RelV v v') : ∃ as, Reads s.heap v' (pd x) as := ⟨_, pd_reads0 I x v v' h r q⟩
theorem pds_reads {pins : List (Addr × Obj)} {σ : L2.St} {s : Shared} (I : L2.Inv X pins σ H s) (xs : List AV) (vs : List V) (us : List Value) (h : pdOks xs = true) (r : Reps X.K H ι xs vs) (q : L2.Vals vs us) : ∃ as, ReadsAll s.heap us (pds xs) as := ⟨_, pds_reads0 I xs vs us h r q⟩
theorem pd_some : ∀ x : AV, pdOk x = true → pd x ≠ .none
  | .int _, _ => by simp [pd]
  | .str _, _ => by simp [pd]
  | .bl _, _ => by simp [pd]
  | .tup _, _ => by simp [pd]
  | .ktp _, _ => by simp [pd]
  | .non, h => by simp [pdOk] at h
  | .lst _, h => by simp [pdOk] at h
  | .kst _, h => by simp [pdOk] at h
  | .dct _, h => by simp [pdOk] at h
  | .ref _, h => by simp [pdOk] at h
  | .clo _, h => by simp [pdOk] at h
theorem pdOks_mem : ∀ {xs : List AV}, pdOks xs = true → ∀ x ∈ xs, pdOk x = true
  | [], _, x, h => nomatch h
  | y :: ys, h, x, hx => by
    simp only [pdOks, Bool.and_eq_true] at h
    rcases List.mem_cons.mp hx with rfl | hx
    · exact h.1
    · exact pdOks_mem h.2 x hx
theorem ordOk_of {ys : List AV} (h : ordOk ys = true) : pdOks ys = true ∧ PySem.W.AlikeAll (ys.map pd) ∧ PyData.depthAll (ys.map pd) ≤ 50 := by
  simp only [ordOk, Bool.and_eq_true, alikeB, shallow, decide_eq_true_eq, List.all_eq_true] at h
  refine ⟨h.1.1, ⟨fun x hx y hy => h.1.2 x hx y hy, fun x hx => ?_⟩, h.2⟩
  obtain ⟨z, hz, rfl⟩ := List.mem_map.mp hx
  exact pd_some z (pdOks_mem h.1.1 z hz)
theorem best_case {gt : Bool} {ys : List AV} {k : AV → List Addr → Store → Hp → Prop} (p : Post K g EX ι H (bestA gt ys S) k) : ys ≠ [] ∧ ordOk ys = true ∧ ∃ y, ys[bestAt gt (ys.map pd)]? = some y ∧ Post K g EX ι H (.ok y S) k := by
  unfold bestA at p
  split at p
  · rename_i c
    refine ⟨c.1, c.2, ?_⟩
    split at p
    · rename_i y e
      exact ⟨y, e, p⟩
    · exact p.elim
  · exact p.elim
theorem max_two_H {prog : Program} {w : World} {A : Around} {E : Value → Shared → Prop} {s : Shared} {a b : Value} {Q : Value → Shared → Prop}
    (h : wpAny (model prog w) A.in1 (pyIter (.ref s.heap.objs.size)) (fun it s₂ => ∃ I fp wr G n P St H bt, it = .ref I ∧ WalksS prog w A.in1 I fp wr G n P St ∧ St 0 s₂ ∧ (∀ b ∈ fp, b < s₂.heap.objs.size) ∧ 0 < n ∧
      (∀ b o, H.get? b = some o → b ∉ wr) ∧ (∀ b o, H.get? b = some o → s₂.heap.get? b = some o) ∧ CmpIn prog w A.in1 .Gt H P bt ∧ ∀ v s', P (argBest bt (n - 1)) v → Moved wr G s₂ s' → Q v s') E
      { s with heap := s.heap.push { cls := .type "tuple", data := .seq #[a, b] } }) :
    wpAny (model prog w) A (call (.builtin "max") [a, b]) Q E s := by
  have hname : (toString "max" ++ toString ".loop" : String) = "max.loop" := by decide
  refine call_function_tree F.kind_max F.plain_max F.entry_max (F.args_max2 _ _) ?_
  show wpAny _ A.in1 (Builtin.Builtins.bindParams "max" ["key", "default"] 0 ⟨[], []⟩ >>= _) _ _ s
  refine wpAny_bind (wpAny_of_eq (show Builtin.Builtins.bindParams "max" ["key", "default"] 0 ⟨[], []⟩ = pure [none, none] from rfl) ?_)
  show wpAny _ A.in1 (newTuple [a, b] >>= _) _ _ s
  refine wpAny_bind (wpAny_newObj_type ?_)
  refine wpAny_bind (wpAny_mono h (fun it s₂ h₂ => ?_) fun _ _ e => e)
  obtain ⟨I, fp, wr, G, n, P, St, H, bt, rfl, W, hst, hfp, hn, hw, hkeep, hcmp, hQ⟩ := h₂
  refine wpAny_bind (wpAny_newObj_type ?_)
  have hSf : s₂.heap.objs.size ∉ fp := fun hm => Nat.lt_irrefl _ (hfp _ hm)
  rw [hname]
  refine wpAny_pure ⟨plainId_quiet F.plain_max_loop _, codeAny_max_loop_firstH W H hw bt hcmp s₂.heap.objs.size hSf (fresh_in hkeep) _ hn (fun b o e => Heap.get?_push_of_some _ (hkeep b o e)) (W.frame 0 s₂ _ s₂.toks hst (Nat.le_refl _) fun b _ o e => Heap.get?_push_of_some _ e) (Heap.get?_push_size _ rfl) fun v s' hP hm => ?_⟩
  exact hQ v s' hP (Moved.drop_new (tk := s₂.toks) hm (Nat.le_refl _))
theorem min_two_H {prog : Program} {w : World} {A : Around} {E : Value → Shared → Prop} {s : Shared} {a b : Value} {Q : Value → Shared → Prop}
    (h : wpAny (model prog w) A.in1 (pyIter (.ref s.heap.objs.size)) (fun it s₂ => ∃ I fp wr G n P St H bt, it = .ref I ∧ WalksS prog w A.in1 I fp wr G n P St ∧ St 0 s₂ ∧ (∀ b ∈ fp, b < s₂.heap.objs.size) ∧ 0 < n ∧
      (∀ b o, H.get? b = some o → b ∉ wr) ∧ (∀ b o, H.get? b = some o → s₂.heap.get? b = some o) ∧ CmpIn prog w A.in1 .Lt H P bt ∧ ∀ v s', P (argBest bt (n - 1)) v → Moved wr G s₂ s' → Q v s') E
      { s with heap := s.heap.push { cls := .type "tuple", data := .seq #[a, b] } }) :
    wpAny (model prog w) A (call (.builtin "min") [a, b]) Q E s := by
  have hname : (toString "min" ++ toString ".loop" : String) = "min.loop" := by decide
  refine call_function_tree F.kind_min F.plain_min F.entry_min (F.args_min2 _ _) ?_
  show wpAny _ A.in1 (Builtin.Builtins.bindParams "min" ["key", "default"] 0 ⟨[], []⟩ >>= _) _ _ s
  refine wpAny_bind (wpAny_of_eq (show Builtin.Builtins.bindParams "min" ["key", "default"] 0 ⟨[], []⟩ = pure [none, none] from rfl) ?_)
  show wpAny _ A.in1 (newTuple [a, b] >>= _) _ _ s
  refine wpAny_bind (wpAny_newObj_type ?_)
  refine wpAny_bind (wpAny_mono h (fun it s₂ h₂ => ?_) fun _ _ e => e)
  obtain ⟨I, fp, wr, G, n, P, St, H, bt, rfl, W, hst, hfp, hn, hw, hkeep, hcmp, hQ⟩ := h₂
  refine wpAny_bind (wpAny_newObj_type ?_)
  have hSf : s₂.heap.objs.size ∉ fp := fun hm => Nat.lt_irrefl _ (hfp _ hm)
  rw [hname]
  refine wpAny_pure ⟨plainId_quiet F.plain_min_loop _, codeAny_min_loop_firstH W H hw bt hcmp s₂.heap.objs.size hSf (fresh_in hkeep) _ hn (fun b o e => Heap.get?_push_of_some _ (hkeep b o e)) (W.frame 0 s₂ _ s₂.toks hst (Nat.le_refl _) fun b _ o e => Heap.get?_push_of_some _ e) (Heap.get?_push_size _ rfl) fun v s' hP hm => ?_⟩
  exact hQ v s' hP (Moved.drop_new (tk := s₂.toks) hm (Nat.le_refl _))
theorem mc_max (gx : GX EX 0 X) : MC g EX X (.builtin "max") (fBest true) := by
  rintro pins s σ H vs us Q I r ⟨ι, S, xs, R, rs, p⟩
  have hh := I.ok.hd gx.calm
  unfold fBest at p
  split at p
  · rename_i x
    obtain ⟨v, rfl, rv⟩ := rs.one'
    obtain ⟨u, rfl, qu⟩ := vals1 r
    split at p
    · rename_i ys ey
      obtain ⟨ne, ok, y, hy, p⟩ := best_case p
      obtain ⟨hp, hal, hd⟩ := ordOk_of ok
      obtain ⟨a, vs, rfl, hq, rr⟩ := R.seq rv ey
      cases qu
      have hlen : ys.length ≠ 0 := fun z => ne (List.eq_nil_of_length_eq_zero z)
      have fin : ∀ (its : List Value), L2.Vals vs its → ∀ (j : Value) (s' : Shared), its.toArray[bestAt true (ys.map pd)]? = some j → (∃ h' tk, s' = { s with heap := h', toks := tk } ∧ ∀ b o, s.heap.get? b = some o → h'.get? b = some o) → EP X pins σ Q j s' := fun its rvs j s' hj ⟨h', tk, e, hk⟩ => by
        subst e
        obtain ⟨w, ew, rw'⟩ := rr.get hy
        obtain ⟨u, eu, ru⟩ := rvs.get ew
        have : u = j := by
          have e2 : its[bestAt true (ys.map pd)]? = some j := by simpa using hj
          rw [eu] at e2; exact Option.some.inj e2
        subst this
        exact ⟨w, H, I.kept hk, ru, p.now R w rw'⟩
      have hu : X.A.in1.units + PyData.depthAll (ys.map pd) < cLine := by
        have := gx.hu
        show X.A.units + 1 + _ < _
        omega
      rcases hq with hq | hq
      · obtain ⟨its, rvs, pl, _⟩ := I.list hq
        obtain ⟨as, hr⟩ := pds_reads I ys vs its hp rr rvs
        rw [pds_map] at hr
        have hr' : ReadsAll s.heap its.toArray.toList (ys.map pd) as := by simpa using hr
        have hn : its.toArray.size = (ys.map pd).length := PySem.W.readsAll_len hr'
        refine call_max_walkH (PySem.W.iter_listW (A := X.A.in1) hh pl.isList fun s₂ e W st hfp hw hk => ?_)
        refine ⟨_, _, _, _, _, _, _, s.heap, _, rfl, W, st, hfp, by rw [hn, List.length_map]; omega, hw, hk, PySem.W.cmpIn_gt (A := X.A.in1) hr' hal hu, fun v s' hP m => ?_⟩
        rw [hn] at hP
        exact fin its rvs v s' hP (PySem.W.moved_old e rfl m)
      · obtain ⟨its, rvs, pl, _⟩ := I.tuple hq
        obtain ⟨as, hr⟩ := pds_reads I ys vs its hp rr rvs
        rw [pds_map] at hr
        have hr' : ReadsAll s.heap its.toArray.toList (ys.map pd) as := by simpa using hr
        have hn : its.toArray.size = (ys.map pd).length := PySem.W.readsAll_len hr'
        refine call_max_walkH (PySem.W.iter_tupleW (A := X.A.in1) hh pl fun s₂ e W st hfp hw hk => ?_)
        refine ⟨_, _, _, _, _, _, _, s.heap, _, rfl, W, st, hfp, by rw [hn, List.length_map]; omega, hw, hk, PySem.W.cmpIn_gt (A := X.A.in1) hr' hal hu, fun v s' hP m => ?_⟩
        rw [hn] at hP
        exact fin its rvs v s' hP (PySem.W.moved_old e rfl m)
    · exact p.elim
  · rename_i x y
    obtain ⟨v, w, rfl, rv, rw'⟩ := rs.two'
    obtain ⟨u, u2, rfl, qu, qu2⟩ := vals2 r
    obtain ⟨ne, ok, z, hz, p⟩ := best_case p
    obtain ⟨hp, hal, hd⟩ := ordOk_of ok
    have hu : X.A.in1.units + PyData.depthAll ([x, y].map pd) < cLine := by
      have := gx.hu
      show X.A.units + 1 + _ < _
      omega
    have rvs : L2.Vals [v, w] [u, u2] := .cons qu (.cons qu2 .nil)
    have rr : Reps X.K H ι [x, y] [v, w] := ⟨v, [w], rfl, rv, w, [], rfl, rw', rfl⟩
    obtain ⟨as, hr⟩ := pds_reads I [x, y] [v, w] [u, u2] hp rr rvs
    rw [pds_map] at hr
    refine max_two_H ?_
    generalize hs1 : ({ s with heap := s.heap.push { cls := .type "tuple", data := .seq #[u, u2] } } : Shared) = s1
    have h1 : s1.heap = s.heap.push { cls := .type "tuple", data := .seq #[u, u2] } := by rw [← hs1]
    have kk : ∀ b o, s.heap.get? b = some o → s1.heap.get? b = some o := fun b o e => by rw [h1]; exact Heap.get?_push_of_some _ e
    have hT : s1.heap.IsTuple s.heap.objs.size #[u, u2] := ⟨_, by rw [h1]; exact Heap.get?_push_size _ rfl, rfl, 0, rfl⟩
    have hr' : ReadsAll s1.heap (#[u, u2] : Array Value).toList ([x, y].map pd) as := ReadsAll.keeps kk (by simpa using hr)
    refine PySem.W.iter_tupleW (A := X.A.in1) hh hT fun s₂ e W st hfp hw hk => ?_
    refine ⟨_, _, _, _, _, _, _, s1.heap, _, rfl, W, st, hfp, by simp, hw, hk, PySem.W.cmpIn_gt (A := X.A.in1) hr' hal hu, fun v' s' hP m => ?_⟩
    obtain ⟨h', tk, e2, hk2⟩ := PySem.W.moved_old e rfl m
    subst e2
    obtain ⟨w2, ew, rw2⟩ := rr.get hz
    obtain ⟨u', eu, ru⟩ := rvs.get ew
    have : u' = v' := by
      have e2 : (#[u, u2] : Array Value)[bestAt true ([x, y].map pd)]? = some v' := hP
      have e3 : [u, u2][bestAt true ([x, y].map pd)]? = some v' := by simpa using e2
      rw [eu] at e3; exact Option.some.inj e3
    subst this
    subst hs1
    exact ⟨w2, H, I.kept fun b o eb => hk2 b o (kk b o eb), ru, p.now R w2 rw2⟩
  · exact p.elim
theorem mc_min (gx : GX EX 0 X) : MC g EX X (.builtin "min") (fBest false) := by
  rintro pins s σ H vs us Q I r ⟨ι, S, xs, R, rs, p⟩
  have hh := I.ok.hd gx.calm
  unfold fBest at p
  split at p
  · rename_i x
    obtain ⟨v, rfl, rv⟩ := rs.one'
    obtain ⟨u, rfl, qu⟩ := vals1 r
    split at p
    · rename_i ys ey
      obtain ⟨ne, ok, y, hy, p⟩ := best_case p
      obtain ⟨hp, hal, hd⟩ := ordOk_of ok
      obtain ⟨a, vs, rfl, hq, rr⟩ := R.seq rv ey
      cases qu
      have hlen : ys.length ≠ 0 := fun z => ne (List.eq_nil_of_length_eq_zero z)
      have fin : ∀ (its : List Value), L2.Vals vs its → ∀ (j : Value) (s' : Shared), its.toArray[bestAt false (ys.map pd)]? = some j → (∃ h' tk, s' = { s with heap := h', toks := tk } ∧ ∀ b o, s.heap.get? b = some o → h'.get? b = some o) → EP X pins σ Q j s' := fun its rvs j s' hj ⟨h', tk, e, hk⟩ => by
        subst e
        obtain ⟨w, ew, rw'⟩ := rr.get hy
        obtain ⟨u, eu, ru⟩ := rvs.get ew
        have : u = j := by
          have e2 : its[bestAt false (ys.map pd)]? = some j := by simpa using hj
          rw [eu] at e2; exact Option.some.inj e2
        subst this
        exact ⟨w, H, I.kept hk, ru, p.now R w rw'⟩
      have hu : X.A.in1.units + PyData.depthAll (ys.map pd) < cLine := by
        have := gx.hu
        show X.A.units + 1 + _ < _
        omega
      rcases hq with hq | hq
      · obtain ⟨its, rvs, pl, _⟩ := I.list hq
        obtain ⟨as, hr⟩ := pds_reads I ys vs its hp rr rvs
        rw [pds_map] at hr
        have hr' : ReadsAll s.heap its.toArray.toList (ys.map pd) as := by simpa using hr
        have hn : its.toArray.size = (ys.map pd).length := PySem.W.readsAll_len hr'
        refine call_min_walkH (PySem.W.iter_listW (A := X.A.in1) hh pl.isList fun s₂ e W st hfp hw hk => ?_)
        refine ⟨_, _, _, _, _, _, _, s.heap, _, rfl, W, st, hfp, by rw [hn, List.length_map]; omega, hw, hk, PySem.W.cmpIn_lt (A := X.A.in1) hr' hal hu, fun v s' hP m => ?_⟩
        rw [hn] at hP
        exact fin its rvs v s' hP (PySem.W.moved_old e rfl m)
      · obtain ⟨its, rvs, pl, _⟩ := I.tuple hq
        obtain ⟨as, hr⟩ := pds_reads I ys vs its hp rr rvs
        rw [pds_map] at hr
        have hr' : ReadsAll s.heap its.toArray.toList (ys.map pd) as := by simpa using hr
        have hn : its.toArray.size = (ys.map pd).length := PySem.W.readsAll_len hr'
        refine call_min_walkH (PySem.W.iter_tupleW (A := X.A.in1) hh pl fun s₂ e W st hfp hw hk => ?_)
        refine ⟨_, _, _, _, _, _, _, s.heap, _, rfl, W, st, hfp, by rw [hn, List.length_map]; omega, hw, hk, PySem.W.cmpIn_lt (A := X.A.in1) hr' hal hu, fun v s' hP m => ?_⟩
        rw [hn] at hP
        exact fin its rvs v s' hP (PySem.W.moved_old e rfl m)
    · exact p.elim
  · rename_i x y
    obtain ⟨v, w, rfl, rv, rw'⟩ := rs.two'
    obtain ⟨u, u2, rfl, qu, qu2⟩ := vals2 r
    obtain ⟨ne, ok, z, hz, p⟩ := best_case p
    obtain ⟨hp, hal, hd⟩ := ordOk_of ok
    have hu : X.A.in1.units + PyData.depthAll ([x, y].map pd) < cLine := by
      have := gx.hu
      show X.A.units + 1 + _ < _
      omega
    have rvs : L2.Vals [v, w] [u, u2] := .cons qu (.cons qu2 .nil)
    have rr : Reps X.K H ι [x, y] [v, w] := ⟨v, [w], rfl, rv, w, [], rfl, rw', rfl⟩
    obtain ⟨as, hr⟩ := pds_reads I [x, y] [v, w] [u, u2] hp rr rvs
    rw [pds_map] at hr
    refine min_two_H ?_
    generalize hs1 : ({ s with heap := s.heap.push { cls := .type "tuple", data := .seq #[u, u2] } } : Shared) = s1
    have h1 : s1.heap = s.heap.push { cls := .type "tuple", data := .seq #[u, u2] } := by rw [← hs1]
    have kk : ∀ b o, s.heap.get? b = some o → s1.heap.get? b = some o := fun b o e => by rw [h1]; exact Heap.get?_push_of_some _ e
    have hT : s1.heap.IsTuple s.heap.objs.size #[u, u2] := ⟨_, by rw [h1]; exact Heap.get?_push_size _ rfl, rfl, 0, rfl⟩
    have hr' : ReadsAll s1.heap (#[u, u2] : Array Value).toList ([x, y].map pd) as := ReadsAll.keeps kk (by simpa using hr)
    refine PySem.W.iter_tupleW (A := X.A.in1) hh hT fun s₂ e W st hfp hw hk => ?_
    refine ⟨_, _, _, _, _, _, _, s1.heap, _, rfl, W, st, hfp, by simp, hw, hk, PySem.W.cmpIn_lt (A := X.A.in1) hr' hal hu, fun v' s' hP m => ?_⟩
    obtain ⟨h', tk, e2, hk2⟩ := PySem.W.moved_old e rfl m
    subst e2
    obtain ⟨w2, ew, rw2⟩ := rr.get hz
    obtain ⟨u', eu, ru⟩ := rvs.get ew
    have : u' = v' := by
      have e2 : (#[u, u2] : Array Value)[bestAt false ([x, y].map pd)]? = some v' := hP
      have e3 : [u, u2][bestAt false ([x, y].map pd)]? = some v' := by simpa using e2
      rw [eu] at e3; exact Option.some.inj e3
    subst this
    subst hs1
    exact ⟨w2, H, I.kept fun b o eb => hk2 b o (kk b o eb), ru, p.now R w2 rw2⟩
  · exact p.elim

theorem eachIs_of {α β : Type} {R : α → β → Prop} : ∀ {as : List α} {bs : List β}, as.length = bs.length → (∀ (i : Nat) (a : α) (b : β), as[i]? = some a → bs[i]? = some b → R a b) → PySem.W.EachIs R as bs
  | [], [], _, _ => .nil
  | a :: as, b :: bs, h, f => .cons (f 0 a b rfl rfl) (eachIs_of (by simpa using h) fun i a b ha hb => f (i + 1) a b (by simpa using ha) (by simpa using hb))
  | [], _ :: _, h, _ => by simp at h
  | _ :: _, [], h, _ => by simp at h
theorem reps_each : ∀ {us : List Value} {ys : List AV}, PySem.W.EachIs (fun u y => ∃ v, Rep K H ι y v ∧ L2.RelV v u) us ys → ∃ vs, Reps K H ι ys vs ∧ L2.Vals vs us
  | _, _, .nil => ⟨[], rfl, .nil⟩
  | _, _, .cons ⟨v, r, q⟩ t => by
    obtain ⟨vs, h1, h2⟩ := reps_each t
    exact ⟨v :: vs, ⟨v, vs, rfl, r, h1⟩, .cons q h2⟩
theorem sortOk_of {ys : List AV} (h : sortOk ys = true) : ordOk ys = true ∧ PySem.W.Sortable (ys.map pd) ∧ ys.length ≤ sizeLine := by
  simp only [sortOk, Bool.and_eq_true, Bool.or_eq_true, decide_eq_true_eq, List.all_eq_true] at h
  obtain ⟨⟨h1, h2⟩, h3⟩ := h
  refine ⟨h1, ?_, by rw [← szL_eq]; exact h3⟩
  rcases h2 with h2 | h2
  · refine .inl fun d hd => ?_
    obtain ⟨y, hy, rfl⟩ := List.mem_map.mp hd
    have := h2 y hy
    split at this
    · rename_i x r e; exact ⟨x, r, e⟩
    · cases this
  · refine .inr fun d hd => ?_
    obtain ⟨y, hy, rfl⟩ := List.mem_map.mp hd
    have := h2 y hy
    refine ⟨fun z => ?_, fun xs z => ?_⟩ <;> · rw [z] at this; simp at this
/-- the data of a row of values that stand for ys -/
theorem sort_facts {pins : List (Addr × Obj)} {σ : L2.St} {s : Shared} (I : L2.Inv X pins σ H s) {ys : List AV} {vs : List V} {its : List Value} (ok : sortOk ys = true) (rr : Reps X.K H ι ys vs) (rvs : L2.Vals vs its) :
    PySem.W.EachIs (fun u y => ∃ v, Rep X.K H ι y v ∧ L2.RelV v u) its ys ∧ PySem.W.EachIs (fun v b => Reads s.heap v (pd b) []) its ys ∧ PySem.W.AllAlike (ys.map pd) ∧ PySem.W.Sortable (ys.map pd) ∧ ys.length ≤ sizeLine ∧ ∀ b, b ∈ ys → (pd b).depth ≤ 50 := by
  obtain ⟨h1, h2, h3⟩ := sortOk_of ok
  obtain ⟨hp, hal, hd⟩ := ordOk_of h1
  have hl : its.length = ys.length := by rw [← rvs.length, rr.len]
  have at_ : ∀ (i : Nat) (u : Value) (y : AV), its[i]? = some u → ys[i]? = some y → ∃ v, Rep X.K H ι y v ∧ L2.RelV v u := fun i u y hu hy => by
    obtain ⟨v, ev, rv⟩ := rr.get hy
    obtain ⟨u', eu, ru⟩ := rvs.get ev
    rw [hu] at eu; cases eu
    exact ⟨v, rv, ru⟩
  refine ⟨eachIs_of hl at_, eachIs_of hl fun i u y hu hy => ?_, fun d hd d' hd' => hal.1 d hd d' hd', h2, h3, fun b hb => ?_⟩
  · obtain ⟨v, rv, ru⟩ := at_ i u y hu hy
    exact pd_reads0 I y v u (pdOks_mem hp y (List.mem_of_getElem? hy)) rv ru
  · obtain ⟨i, hi, e⟩ := List.getElem_of_mem hb
    obtain ⟨as, hr⟩ := pds_reads I ys vs its hp rr rvs
    rw [pds_map] at hr
    have hi' : i < its.length := by omega
    obtain ⟨_, _, _, _, q⟩ := PySem.W.readsAll_at hr i its[i] (List.getElem?_eq_getElem hi')
    have e2 : (ys.map pd).getD i .none = pd b := by
      rw [List.getD_eq_getElem?_getD, List.getElem?_map, List.getElem?_eq_getElem hi, e]; rfl
    rw [e2] at q
    omega
theorem mc_sorted (gx : GX EX 0 X) : MC g EX X (.builtin "sorted") fSorted := by
  rintro pins s σ H vs us Q I r ⟨ι, S, xs, R, rs, p⟩
  unfold fSorted at p
  split at p
  · rename_i x
    obtain ⟨v, rfl, rv⟩ := rs.one'
    obtain ⟨u, rfl, qu⟩ := vals1 r
    have go : ∀ (ys : List AV) (a : Addr) (ws : List V), v = .ref a → SqL X.K H a ws → Reps X.K H ι ys ws → Post X.K g EX ι H (if sortOk ys = true then (.ok (.lst (sortA ys)) S : Res AV) else .stuck) (fun z ι' _ H' => ∀ w, Rep X.K H' ι' z w → Q w H') → wpAny (model X.prog X.w) X.A (call (.builtin "sorted") [u]) (EP X pins σ Q) X.xe s := fun ys a ws ev hq rr p => by
      subst ev
      cases qu
      split at p
      · rename_i ok
        obtain ⟨its, rvs, pl, _⟩ := I.list hq
        obtain ⟨e1, e2, e3, e4, e5, e6⟩ := sort_facts I ok rr rvs
        refine PySem.W.sorted_data (R := fun u y => ∃ v, Rep X.K H ι y v ∧ L2.RelV v u) (enc := pd) (bs := ys) pl.isList e1 (e2.mono fun _ _ h => ⟨_, h⟩) e3 e4 e5 (fun b hb => by have := e6 b hb; have := gx.hu; omega) fun out hl he => ?_
        obtain ⟨zs, h1, h2⟩ := reps_each he
        obtain ⟨ep, he'⟩ := PyProof.Rows.sortedAll_at s.heap its out.toArray
        have hlen : zs.length ≤ sizeLine := by rw [h2.length, hl]; exact e5
        have hf : H (s.heap.objs.size + 1) = none := I.hok.fresh (Nat.le_succ _)
        refine ⟨.ref (s.heap.objs.size + 1), upd H (s.heap.objs.size + 1) (.lst zs), I.laid (t' := s.toks) (fun _ _ => PyProof.Rows.sortedAll_old) (Nat.le_succ _) ⟨hlen, out, ep, h2, he'⟩, rfl, ?_⟩
        exact p.ok (.fresh hf) (R.fresh hf) _ (R.newLst hf h1)
      · exact p.elim
    cases x with
    | kst ys =>
      obtain ⟨a, ws, e, t, q⟩ := rv
      exact go ys a ws e t.sq q p
    | lst ys =>
      obtain ⟨a, ws, e, t, q⟩ := rv
      exact go ys a ws e t.sq q p
    | ref n =>
      dsimp only at p
      split at p
      · rename_i ys ey
        obtain ⟨a, ws, e, hr, q⟩ := R.list rv ey
        exact go ys a ws e (.inl hr) q p
      · exact p.elim
    | _ => exact p.elim
  · exact p.elim
end
end Mir
end

section
set_option Elab.async false
set_option linter.all false
set_option maxRecDepth 100000
set_option maxHeartbeats 1000000
/-! MirP: built-ins called. -/
namespace Mir
open PySem PySem.Spec PyProof.Rows L2

def lenOf (S : Store) (x : AV) : Option Nat := match seqOf S x with
  | some xs => some xs.length
  | none => match x with
    | .str z => if z.length ≤ szL then some z.length else none
    | .ref n => match S[n]? with
      | some (.dct kvs) => some kvs.length
      | some (.lk kvs) => if flatK kvs = true ∧ kvs ≠ [] then some kvs.length else none
      | _ => none
    | _ => none
def fLen : Fn := fun xs S => match xs with
  | [x] => match lenOf S x with
    | some n => .ok (.int n) S
    | none => .stuck
  | _ => .stuck
def fAbs : Fn := fun xs S => match xs with
  | [.int i] => .ok (.int (if i < 0 then -i else i)) S
  | _ => .stuck
def fInt : Fn := fun xs S => match xs with
  | [.int i] => .ok (.int i) S
  | [.bl b] => .ok (.int (b01 b)) S
  | _ => .stuck
def fTuple : Fn := fun xs S => match xs with
  | [.tup ys] => .ok (.tup ys) S
  | [.ktp ys] => .ok (.ktp ys) S
  | [.kst ys] => .ok (.tup ys) S
  | [x] => match lstOf S x with
    | some ys => .ok (.tup ys) S
    | none => .stuck
  | _ => .stuck
/-- the keys of a dict whose keys are ints and texts -/
def flatOf (S : Store) (x : AV) : Option (List (DK × AV)) := match x with
  | .dct kvs => if flatK kvs = true then some kvs else none
  | .ref n => match S[n]? with
    | some (.dct kvs) => if flatK kvs = true then some kvs else none
    | some (.lk kvs) => if flatK kvs = true ∧ kvs ≠ [] then some kvs else none
    | _ => none
  | _ => none
/-- list(x): one that nobody will change -/
def fList : Fn := fun xs S => match xs with
  | [x] => match seqOf S x with
    | some ys => .ok (.lst ys) S
    | none => match flatOf S x with
      | some kvs => .ok (.lst (dKeys kvs)) S
      | none => .stuck
  | _ => .stuck
/-- .. in a cell -/
def fListR : Fn := fun xs S => match xs with
  | [x] => match seqOf S x with
    | some ys => .ok (.ref S.length) (S ++ [.lst ys])
    | none => match flatOf S x with
      | some kvs => .ok (.ref S.length) (S ++ [.lst (dKeys kvs)])
      | none => .stuck
  | _ => .stuck
def pairsOf : List AV → Option (List (AK × AV))
  | [] => some []
  | .tup [k, v] :: r => match akOf k, pairsOf r with
    | some q, some ps => some ((q, v) :: ps)
    | _, _ => none
  | _ => none
def mergeD (kvs : List (DK × AV)) (ps : List (AK × AV)) : List (DK × AV) := ps.foldl (fun acc p => dput (.a p.1) p.2 acc) kvs
/-- dict(list of pairs), dict(d) -/
def fDict : Fn := fun xs S => match xs with
  | [x] => match (match x with | .kst ys => some ys | x => lstOf S x) with
    | some ys => match pairsOf ys with
      | some ps => .ok (.ref S.length) (S ++ [.dct (mergeD [] ps)])
      | none => .stuck
    | none => match flatOf S x with
      | some kvs => .ok (.ref S.length) (S ++ [.dct kvs])
      | none => .stuck
  | _ => .stuck
def intsOf : List AV → Option (List Int)
  | [] => some []
  | .int i :: r => (intsOf r).map (i :: ·)
  | _ => none
def fSum : Fn := fun xs S => match xs with
  | [x] => match (match x with | .kst ys => some ys | x => lstOf S x) with
    | some ys => match intsOf ys with
      | some is => .ok (.int is.sum) S
      | none => .stuck
    | none => .stuck
  | _ => .stuck
section
variable {X : Cx} {K : PySem.W.Frag} {g : G} {EX : XK} {H : Hp} {ι : List Addr} {S : Store}
/-- a dict with keys ints and texts, read as such -/
theorem flat_of {pins : List (Addr × Obj)} {σ : L2.St} {s : Shared} (I : L2.Inv X pins σ H s) (R : Rel X.K H ι g S) {x : AV} {v : V} {kvs : List (DK × AV)} (rx : Rep X.K H ι x v) (h : flatOf S x = some kvs) :
    ∃ H1 a ps, v = .ref a ∧ L2.Inv X pins σ H1 s ∧ Rel X.K H1 ι g S ∧ Grow ι H ι H1 ∧ Rd H1 a (.dK ps) ∧ RepK X.K H1 ι kvs ps := by
  cases x with
  | dct kvs' =>
    simp only [flatOf] at h
    split at h
    · rename_i c
      cases h
      obtain ⟨a, o, e, hn, h⟩ := rx
      rcases h with ⟨ps, h, r⟩ | ⟨ne, ps, h, r⟩
      · exact ⟨H, a, ps, e, I, R, .refl _ _, .inr ⟨o, h⟩, r⟩
      · exact absurd (flat_T c r).1 ne
    · cases h
  | ref n =>
    obtain ⟨a, e, ha⟩ := rx
    simp only [flatOf] at h
    split at h
    · rename_i kvs' es
      split at h
      · rename_i c
        cases h
        obtain ⟨a', ha', h1⟩ := R.at es
        rw [ha] at ha'; cases ha'
        rcases h1 with ⟨ps, h, r⟩ | ⟨ps, h, r⟩
        · exact ⟨H, a, ps, e, I, R, .refl _ _, .inl h, r⟩
        · obtain ⟨rfl, rfl⟩ := flat_T c r
          have R1 := R.write (o := .dK []) (c := .dct []) ha (.inl ⟨[], upd_same, rfl⟩)
          rw [set_self es] at R1
          exact ⟨upd H a (.dK []), a, [], e, Inv.emptyK I h, R1, .cell ha h, .inl upd_same, rfl⟩
      · cases h
    · rename_i kvs' es
      split at h
      · rename_i c
        cases h
        obtain ⟨a', ha', o, h1⟩ := R.at es
        rw [ha] at ha'; cases ha'
        rcases h1 with ⟨ps, h, r⟩ | ⟨ps, h, r⟩
        · exact ⟨H, a, ps, e, I, R, .refl _ _, .inr ⟨o, h⟩, r⟩
        · exact absurd (flat_T c.1 r).1 c.2
      · cases h
    · cases h
  | _ => simp [flatOf] at h
/-- a new object in a cell -/
theorem Rep.newCell (R : Rel K H ι g S) (p : Addr) : ∀ {H' : Hp}, Rep K H' (ι ++ [p]) (.ref S.length) (.ref p) := ⟨p, rfl, by rw [← R.len, List.getElem?_append_right (Nat.le_refl _), Nat.sub_self]; rfl⟩
theorem mc_len : MC g EX X (.builtin "len") fLen := by
  rintro pins s σ H vs us Q I r ⟨ι, S, xs, R, rs, p⟩
  unfold fLen at p
  split at p
  · rename_i x
    obtain ⟨v, rfl, rv⟩ := rs.one'
    split at p
    · rename_i n en
      unfold lenOf at en
      split at en
      · rename_i ys ey
        cases en
        obtain ⟨a, ws, rfl, hq, rr⟩ := R.seq rv ey
        exact call_len_seq pins s σ H _ us Q I r ⟨a, ws, rfl, hq, by rw [rr.len]; exact p.now R _ rfl⟩
      · split at en
        · rename_i z _
          split at en
          · rename_i hz
            cases en
            cases rv
            exact call_len_str pins s σ H _ us Q I r ⟨toS z, rfl, by rw [toS_len, ← szL_eq]; exact hz, by rw [toS_len]; exact p.now R _ rfl⟩
          · cases en
        · rename_i k _
          obtain ⟨a, rfl, ha⟩ := rv
          split at en
          · rename_i kvs es
            cases en
            obtain ⟨a', ha', h1⟩ := R.at es
            rw [ha] at ha'; cases ha'
            rcases h1 with ⟨ps, h, rr⟩ | ⟨ps, h, rr⟩
            · exact call_lenD pins s σ H _ us Q I r ⟨a, ps, rfl, h, by rw [rr.len]; exact p.now R _ rfl⟩
            · exact call_len_dT pins s σ H _ us Q I r ⟨a, ps, rfl, h, by rw [rr.len]; exact p.now R _ rfl⟩
          · rename_i kvs es
            split at en
            · rename_i c
              cases en
              obtain ⟨a', ha', o, h1⟩ := R.at es
              rw [ha] at ha'; cases ha'
              rcases h1 with ⟨ps, h, rr⟩ | ⟨ps, h, rr⟩
              · obtain ⟨u, rfl, ru⟩ := vals1 r
                cases ru
                exact d_len I (.inr ⟨o, h⟩) fun t s' I' => ⟨.int ps.length, H, I', ⟨t, rfl⟩, by rw [rr.len]; exact p.now R _ rfl⟩
              · exact absurd (flat_T c.1 rr).1 c.2
            · cases en
          · cases en
        · cases en
    · exact p.elim
  · exact p.elim
theorem mc_abs : MC g EX X (.builtin "abs") fAbs := by
  rintro pins s σ H vs us Q I r ⟨ι, S, xs, R, rs, p⟩
  unfold fAbs at p
  split at p
  · obtain ⟨v, rfl, rv⟩ := rs.one'
    cases rv
    exact call_abs pins s σ H _ us Q I r ⟨_, rfl, p.now R _ rfl⟩
  · exact p.elim
theorem mc_int : MC g EX X (.type "int") fInt := by
  rintro pins s σ H vs us Q I r ⟨ι, S, xs, R, rs, p⟩
  unfold fInt at p
  split at p
  · obtain ⟨v, rfl, rv⟩ := rs.one'
    cases rv
    exact call_int1 pins s σ H _ us Q I r (.inl ⟨_, rfl, p.now R _ rfl⟩)
  · rename_i b
    obtain ⟨v, rfl, rv⟩ := rs.one'
    cases rv
    refine call_int1 pins s σ H _ us Q I r (.inr ⟨b, rfl, ?_⟩)
    have := p.now R _ rfl
    cases b <;> exact this
  · exact p.elim
theorem mc_tuple : MC g EX X (.type "tuple") fTuple := by
  rintro pins s σ H vs us Q I r ⟨ι, S, xs, R, rs, p⟩
  have list : ∀ (a : Addr) (ws : List V) (ys : List AV), vs = [.ref a] → SqL X.K H a ws → Reps X.K H ι ys ws → Post X.K g EX ι H (.ok (.tup ys) S : Res AV) (fun z ι' _ H' => ∀ w, Rep X.K H' ι' z w → Q w H') → wpAny (model X.prog X.w) X.A (call (.type "tuple") us) (EP X pins σ Q) X.xe s := fun a ws ys e hq rr p =>
    call_tuple_of pins s σ H _ us Q I r ⟨a, ws, e, .inl ⟨hq, fun l hl => p.ok (.fresh hl) (R.fresh hl) _ (R.newTup hl rr)⟩⟩
  unfold fTuple at p
  split at p
  · rename_i ys
    obtain ⟨v, rfl, a, ws, rfl, t, rr⟩ := rs.one'
    exact call_tuple_of pins s σ H _ us Q I r ⟨a, ws, rfl, .inr ⟨t.sq, p.now R _ ⟨a, ws, rfl, t, rr⟩⟩⟩
  · rename_i ys
    obtain ⟨v, rfl, a, ws, rfl, t, rr⟩ := rs.one'
    exact call_tuple_of pins s σ H _ us Q I r ⟨a, ws, rfl, .inr ⟨.inr t, p.now R _ ⟨a, ws, rfl, t, rr⟩⟩⟩
  · rename_i ys
    obtain ⟨v, rfl, a, ws, rfl, t, rr⟩ := rs.one'
    exact list a ws ys rfl t.sq rr p
  · split at p
    · rename_i ys ey
      obtain ⟨v, rfl, rv⟩ := rs.one'
      obtain ⟨a, ws, rfl, hr, rr⟩ := R.list rv ey
      exact list a ws ys rfl (.inl hr) rr p
    · exact p.elim
  · exact p.elim
theorem reps_keys : ∀ {kvs : List (DK × AV)} {ps : List (Key × V)}, RepK K H ι kvs ps → Reps K H ι (dKeys kvs) (ps.map fun kv => kV kv.1)
  | [], _, h => by rw [show _ = [] from h]; rfl
  | (k, x) :: r, _, ⟨q, v, qs, e, e2, h1, h⟩ => by
    subst e e2
    exact ⟨kV q.k, _, rfl, rep_akV q, reps_keys h⟩
theorem mc_list0 (fz : Bool) (hc : X.calm = true) : MC g EX X (.type "list") (if fz = true then fList else fListR) := by
  rintro pins s σ H vs us Q I r ⟨ι, S, xs, R, rs, p⟩
  have fin : ∀ {H1 : Hp} {ys : List AV} {ws : List V}, Rel X.K H1 ι g S → Grow ι H ι H1 → Reps X.K H1 ι ys ws → Post X.K g EX ι H (if fz = true then (.ok (.lst ys) S : Res AV) else .ok (.ref S.length) (S ++ [.lst ys])) (fun z ι' _ H' => ∀ w, Rep X.K H' ι' z w → Q w H') → ∀ l, H1 l = none → Q (.ref l) (upd H1 l (.lst ws)) := fun {H1 ys ws} R1 G1 rr p l hl => by
    cases fz with
    | true => exact p.ok (G1.trans (.fresh hl)) (R1.fresh hl) _ (R1.newLst hl rr)
    | false =>
      have Ga := Grow.alloc R1 (o := .lst ws) hl
      exact p.ok (G1.trans Ga) (R1.alloc hl ⟨ws, upd_same, Reps.mono Ga _ _ rr⟩) _ (Rep.newCell R1 l)
  have main : ∀ x v, vs = [v] → Rep X.K H ι x v → Post X.K g EX ι H (match seqOf S x with
    | some ys => if fz = true then (.ok (.lst ys) S : Res AV) else .ok (.ref S.length) (S ++ [.lst ys])
    | none => match flatOf S x with
      | some kvs => if fz = true then .ok (.lst (dKeys kvs)) S else .ok (.ref S.length) (S ++ [.lst (dKeys kvs)])
      | none => .stuck) (fun z ι' _ H' => ∀ w, Rep X.K H' ι' z w → Q w H') → wpAny (model X.prog X.w) X.A (call (.type "list") us) (EP X pins σ Q) X.xe s := fun x v e rv p => by
    subst e
    split at p
    · rename_i ys ey
      obtain ⟨a, ws, rfl, hq, rr⟩ := R.seq rv ey
      exact call_list_of pins s σ H _ us Q I r ⟨a, ws, rfl, hq, fin R (.refl _ _) rr p⟩
    · split at p
      · rename_i kvs ek
        obtain ⟨H1, a, ps, rfl, J, R1, G1, hd, rr⟩ := flat_of I R rv ek
        exact call_listD hc pins s σ H1 _ us Q J r ⟨a, ps, rfl, hd, fin R1 G1 (reps_keys rr) p⟩
      · exact p.elim
  cases fz with
  | true =>
    simp only [if_true, fList] at p
    split at p
    · obtain ⟨v, e, rv⟩ := rs.one'
      exact main _ v e rv (by simpa using p)
    · exact p.elim
  | false =>
    simp only [Bool.false_eq_true, if_false, fListR] at p
    split at p
    · obtain ⟨v, e, rv⟩ := rs.one'
      exact main _ v e rv (by simpa using p)
    · exact p.elim
theorem mc_list (hc : X.calm = true) : MC g EX X (.type "list") fList := mc_list0 true hc
theorem mc_listR (hc : X.calm = true) : MC g EX X (.type "list") fListR := mc_list0 false hc
theorem pairs_of : ∀ {ys : List AV} {ws : List V} {ps : List (AK × AV)}, pairsOf ys = some ps → Reps K H ι ys ws →
    ∃ (as : List Addr) (kvs : List (Key × V)), ws = as.map V.ref ∧ Paired (fun p kv => SqT K H p [kV kv.1, kv.2]) as kvs ∧ RepK K H ι (ps.map fun p => (DK.a p.1, p.2)) kvs
  | [], ws, ps, h, r => by
    cases h
    cases (show ws = [] from r)
    exact ⟨[], [], rfl, .nil, rfl⟩
  | y :: ys, ws, ps, h, r => by
    unfold pairsOf at h
    split at h
    · rename_i h0; cases h0
    · rename_i k v r' e
      cases e
      split at h
      · rename_i q qs eq er
        cases h
        obtain ⟨w, ws', e, ⟨a, vs, rfl, t, rr⟩, r2⟩ := r
        subst e
        obtain ⟨as, kvs, e1, e2, e3⟩ := pairs_of er r2
        obtain ⟨w1, w2, rfl, r3, r4⟩ := rr.two'
        have hk := kV_ak eq r3
        subst hk
        exact ⟨a :: as, (q.k, w2) :: kvs, by rw [e1]; rfl, .cons t.sq e2, ⟨q, w2, kvs, rfl, rfl, r4, e3⟩⟩
      · cases h
    · cases h
theorem merge_rep : ∀ {ps : List (AK × AV)} {kvs : List (Key × V)} {acc : List (DK × AV)} {vs : List (Key × V)}, RepK K H ι (ps.map fun p => (DK.a p.1, p.2)) kvs → RepK K H ι acc vs → RepK K H ι (mergeD acc ps) (mergeK vs kvs)
  | [], kvs, acc, vs, h, r => by
    cases (show kvs = [] from h)
    exact r
  | p :: ps, kvs, acc, vs, ⟨q, v, qs, e, e2, h1, h⟩, r => by
    cases e
    subst e2
    exact merge_rep (acc := dput (.a p.1) p.2 acc) (vs := putK vs p.1.k v) h (dputK r h1)
theorem mc_dict (hc : X.calm = true) : MC g EX X (.type "dict") fDict := by
  rintro pins s σ H vs us Q I r ⟨ι, S, xs, R, rs, p⟩
  have fin : ∀ {H1 : Hp} {ys : List (DK × AV)} {ws : List (Key × V)}, Rel X.K H1 ι g S → Grow ι H ι H1 → RepK X.K H1 ι ys ws → Post X.K g EX ι H (.ok (.ref S.length) (S ++ [.dct ys]) : Res AV) (fun z ι' _ H' => ∀ w, Rep X.K H' ι' z w → Q w H') → ∀ l, H1 l = none → Q (.ref l) (upd H1 l (.dK ws)) := fun {H1 ys ws} R1 G1 rr p l hl => by
    have Ga := Grow.alloc R1 (o := .dK ws) hl
    exact p.ok (G1.trans Ga) (R1.alloc hl (.inl ⟨ws, upd_same, RepK.mono Ga _ _ rr⟩)) _ (Rep.newCell R1 l)
  unfold fDict at p
  split at p
  · rename_i x
    obtain ⟨v, rfl, rv⟩ := rs.one'
    have list : ∀ (ys : List AV) (a : Addr) (ws : List V), v = .ref a → SqL X.K H a ws → Reps X.K H ι ys ws → Post X.K g EX ι H (match pairsOf ys with | some ps => (.ok (.ref S.length) (S ++ [.dct (mergeD [] ps)]) : Res AV) | none => .stuck) (fun z ι' _ H' => ∀ w, Rep X.K H' ι' z w → Q w H') → wpAny (model X.prog X.w) X.A (call (.type "dict") us) (EP X pins σ Q) X.xe s := fun ys a ws e hq rr p => by
      subst e
      split at p
      · rename_i ps ep
        obtain ⟨as, kvs, rfl, h2, h3⟩ := pairs_of ep rr
        exact call_dictP hc pins s σ H _ us Q I r ⟨a, as, kvs, rfl, hq, h2, fin R (.refl _ _) (merge_rep (acc := []) (vs := []) h3 (show RepK X.K H ι [] [] from rfl)) p⟩
      · exact p.elim
    have dict : flatOf S x ≠ none → Post X.K g EX ι H (match flatOf S x with | some kvs => (.ok (.ref S.length) (S ++ [.dct kvs]) : Res AV) | none => .stuck) (fun z ι' _ H' => ∀ w, Rep X.K H' ι' z w → Q w H') → wpAny (model X.prog X.w) X.A (call (.type "dict") us) (EP X pins σ Q) X.xe s := fun _ p => by
      split at p
      · rename_i kvs ek
        obtain ⟨H1, a, ps, rfl, J, R1, G1, hd, rr⟩ := flat_of I R rv ek
        exact call_dictD pins s σ H1 _ us Q J r ⟨a, ps, rfl, hd, fin R1 G1 rr p⟩
      · exact p.elim
    split at p
    · rename_i ys ey
      split at ey
      · cases ey
        obtain ⟨a, ws, e, t, q⟩ := rv
        exact list ys a ws e t.sq q p
      · obtain ⟨a, ws, e, hr, q⟩ := R.list rv ey
        exact list ys a ws e (.inl hr) q p
    · by_cases hf : flatOf S x = none
      · rw [hf] at p; exact p.elim
      · exact dict hf p
  · exact p.elim
theorem ints_of : ∀ {ys : List AV} {ws : List V} {is : List Int}, intsOf ys = some is → Reps K H ι ys ws → ws = is.map V.int
  | [], ws, is, h, r => by cases h; exact r
  | y :: ys, ws, is, h, r => by
    unfold intsOf at h
    split at h
    · rename_i e; cases e
    · rename_i i r' e
      cases e
      rw [Option.map_eq_some_iff] at h
      obtain ⟨js, h1, rfl⟩ := h
      obtain ⟨w, ws', e, rw', r2⟩ := r
      cases rw'
      rw [e, ints_of h1 r2]; rfl
    · cases h
theorem mc_sum (hc : X.calm = true) : MC g EX X (.builtin "sum") fSum := by
  rintro pins s σ H vs us Q I r ⟨ι, S, xs, R, rs, p⟩
  unfold fSum at p
  split at p
  · rename_i x
    obtain ⟨v, rfl, rv⟩ := rs.one'
    split at p
    · rename_i ys ey
      split at p
      · rename_i is ei
        have go : ∀ (a : Addr) (ws : List V), v = .ref a → SqL X.K H a ws → Reps X.K H ι ys ws → wpAny (model X.prog X.w) X.A (call (.builtin "sum") us) (EP X pins σ Q) X.xe s := fun a ws e hq rr => by
          subst e
          have := ints_of ei rr
          subst this
          exact cr_sum hc pins s σ H _ us Q I r ⟨a, is, rfl, hq, p.now R _ rfl⟩
        split at ey
        · cases ey
          obtain ⟨a, ws, e, t, q⟩ := rv
          exact go a ws e t.sq q
        · obtain ⟨a, ws, e, hr, q⟩ := R.list rv ey
          exact go a ws e (.inl hr) q
      · exact p.elim
    · exact p.elim
  · exact p.elim
end
end Mir
end

section
set_option Elab.async false
set_option linter.all false
set_option maxRecDepth 100000
set_option maxHeartbeats 1000000
/-! MirQ: methods of built-in types, dicts displayed, stores with an operator, del, while. -/
namespace Mir
open PySem PySem.Spec PyProof.Rows L2

inductive BT where | lst | dct | str
def BT.is (S : Store) : BT → AV → Bool
  | .lst, .kst _ => true
  | .lst, x => (lstOf S x).isSome
  | .dct, x => (dctOf S x).isSome
  | .str, .str _ => true
  | .str, _ => false
def BT.nm : BT → String
  | .lst => "list"
  | .dct => "dict"
  | .str => "str"
/-- o.m(..), o of a built-in type -/
def eBM (T : BT) (F : Fn) (o : EM) (a : AM) : EM := fun Λ S => (o Λ S).bind fun x S1 => if T.is S1 x = true then (a Λ S1).bind fun xs S2 => F (x :: xs) S2 else .stuck
def fAppend : Fn := fun xs S => match xs with
  | [.ref n, y] => match S[n]? with
    | some (.lst ys) => if ys.length < szL then .ok .non (S.set n (.lst (ys ++ [y]))) else .stuck
    | _ => .stuck
  | _ => .stuck
def fGet : Fn := fun xs S => match xs with
  | [d, k] => match keyOf k with
    | some q => match dlk S d q with
      | some (some v) => .ok v S
      | some none => .ok .non S
      | none => .stuck
    | none => .stuck
  | [d, k, z] => match keyOf k with
    | some q => match dlk S d q with
      | some (some v) => .ok v S
      | some none => .ok z S
      | none => .stuck
    | none => .stuck
  | _ => .stuck
def mergeM (kvs more : List (DK × AV)) : List (DK × AV) := more.foldl (fun acc p => dput p.1 p.2 acc) kvs
def apart (n : Nat) : AV → Bool
  | .ref m => decide (m ≠ n)
  | _ => true
def fUpdate : Fn := fun xs S => match xs with
  | [.ref n, y] => match S[n]? with
    | some (.dct kvs) => match flatOf S y with
      | some more => if flatK kvs = true ∧ kvs.length + more.length ≤ szL ∧ apart n y = true then .ok .non (S.set n (.dct (mergeM kvs more))) else .stuck
      | none => .stuck
    | _ => .stuck
  | _ => .stuck
/-- {} -/
def eDct0 : EM := fun _ S => .ok (.ref S.length) (S ++ [.dct []])
/-- {k: v, ..} -/
abbrev PM := LEnv → Store → Res (List (AK × AV))
def pNil : PM := fun _ S => .ok [] S
def pCons (k v : EM) (r : PM) : PM := fun Λ S => (k Λ S).bind fun x S1 => (v Λ S1).bind fun y S2 => match akOf x with
  | some q => (r Λ S2).bind fun ps S3 => .ok ((q, y) :: ps) S3
  | none => .stuck
def eDctP (p : PM) : EM := fun Λ S => (p Λ S).bind fun ps S1 => if ps.length ≤ 15 then .ok (.ref S1.length) (S1 ++ [.dct (mergeD [] ps)]) else .stuck
/-- x op= y -/
def opIAdd (x y : AV) (S : Store) : Res AV := match x, y with
  | .int i, .int j => .ok (.int (i + j)) S
  | .str a, .str b => if a.length + b.length ≤ szL then .ok (.str (a ++ b)) S else .stuck
  | .ref n, .ref m => match S[n]?, S[m]? with
    | some (.lst xs), some (.lst ys) => if xs.length + ys.length ≤ szL then .ok (.ref n) (S.set n (.lst (xs ++ ys))) else .stuck
    | _, _ => .stuck
  | _, _ => .stuck
def opISub (x y : AV) (S : Store) : Res AV := match x, y with
  | .int i, .int j => .ok (.int (i - j)) S
  | _, _ => .stuck
def opIDiv (x y : AV) (S : Store) : Res AV := match x, y with
  | .int i, .int j => if 0 < j ∧ j < 1073741824 then .ok (.int (i / j)) S else .stuck
  | _, _ => .stuck
/-- name op= e -/
def sAug (i : Nat) (f : AV → AV → Store → Res AV) (e : EM) : SM := fun Λ S => match Λ[i]? with
  | some (some x) => (e Λ S).sbind fun y S1 => (f x y S1).sbind fun z S2 => .nx (Λ.set i (some z)) S2
  | _ => .stuck
/-- while -/
def whileM (t : TM) (b : SM) : Nat → SM
  | 0 => fun _ _ => .stuck
  | n + 1 => fun Λ S => (t Λ S).sbind fun c S1 => if c = true then (match b Λ S1 with
    | .nx Λ2 S2 => whileM t b n Λ2 S2
    | .ct Λ2 S2 => whileM t b n Λ2 S2
    | .bk Λ2 S2 => .nx Λ2 S2
    | .rt v S2 => .rt v S2
    | .exc c S2 => .exc c S2
    | .stuck => .stuck) else .nx Λ S1
/-- with fuel that is enough -/
def sWhile (n : Nat) (t : TM) (b : SM) : SM := whileM t b n
section
variable {X : Cx} {K : PySem.W.Frag} {g : G} {EX : XK} {H : Hp} {ι : List Addr} {S : Store}
variable {a b c e o i : Expr} {A B C O : EM} {es : List Expr} {AA : AM} {pos p apos cpos tpos : Pos} {T : BT} {F : Fn} {id : String} {name : Str}
def xRM (K : PySem.W.Frag) (g : G) (EX : XK) (F : Fn) : V → List V → Hp → VK → Prop := fun v vs H Q => ∃ ι S x xs, Rel K H ι g S ∧ Rep K H ι x v ∧ Reps K H ι xs vs ∧ Post K g EX ι H (F (x :: xs) S) fun z ι' _ H' => ∀ w, Rep K H' ι' z w → Q w H'
def MM (g : G) (EX : XK) (X : Cx) (id : String) (F : Fn) : Prop := MtR X id (xRM X.K g EX F)
theorem bt_is {pins : List (Addr × Obj)} {σ : L2.St} {s : Shared} (I : L2.Inv X pins σ H s) (R : Rel X.K H ι g S) {x : AV} {v : V} {v' : Value} (rx : Rep X.K H ι x v) (rv : L2.RelV v v') (h : T.is S x = true) :
    s.TypeIs v' T.nm ∧ ∀ a, v' = .ref a → ∃ ob, s.heap.get? a = some ob ∧ ob.dict = none := by
  have list : ∀ (a : Addr) (ws : List V), v = .ref a → SqL X.K H a ws → s.TypeIs v' "list" ∧ ∀ a, v' = .ref a → ∃ ob, s.heap.get? a = some ob ∧ ob.dict = none := fun a ws e hq => by
    subst e
    exact tyV_is (T := "list") I rv (.inl ⟨rfl, ws, hq⟩)
  cases T with
  | lst =>
    have gen : ∀ xs, lstOf S x = some xs → s.TypeIs v' "list" ∧ ∀ a, v' = .ref a → ∃ ob, s.heap.get? a = some ob ∧ ob.dict = none := fun xs hx => by
      obtain ⟨a, ws, e, hr, _⟩ := R.list rx hx
      exact list a ws e (.inl hr)
    cases x with
    | kst ys =>
      obtain ⟨a, ws, e, t, _⟩ := rx
      exact list a ws e t.sq
    | lst ys => exact gen ys rfl
    | ref n =>
      have h : (lstOf S (.ref n)).isSome = true := h
      obtain ⟨xs, hx⟩ := Option.isSome_iff_exists.mp h
      exact gen xs hx
    | _ => simp [BT.is, lstOf] at h
  | dct =>
    have h : (dctOf S x).isSome = true := h
    have dct : ∀ (a : Addr), v = .ref a → IsD H a → s.TypeIs v' "dict" ∧ ∀ a, v' = .ref a → ∃ ob, s.heap.get? a = some ob ∧ ob.dict = none := fun a e hd => by
      subst e
      cases rv
      obtain ⟨t1, t2, _⟩ := isD_at I hd
      exact ⟨t1, t2⟩
    cases x with
    | dct kvs =>
      obtain ⟨a, o, e, _, h⟩ := rx
      rcases h with ⟨ps, h, _⟩ | ⟨_, ps, h, _⟩
      · exact dct a e (.inl ⟨ps, .inr ⟨o, h⟩⟩)
      · exact dct a e (.inr ⟨ps, .inr ⟨o, h⟩⟩)
    | ref n =>
      obtain ⟨a, e, ha⟩ := rx
      cases es : S[n]? with
      | none => simp [dctOf, es] at h
      | some cl =>
        cases cl with
        | dct kvs =>
          obtain ⟨a', ha', h1⟩ := R.at es
          rw [ha] at ha'; cases ha'
          rcases h1 with ⟨ps, h1, _⟩ | ⟨ps, h1, _⟩
          · exact dct a e (.inl ⟨ps, .inl h1⟩)
          · exact dct a e (.inr ⟨ps, .inl h1⟩)
        | lk kvs =>
          obtain ⟨a', ha', o, h1⟩ := R.at es
          rw [ha] at ha'; cases ha'
          rcases h1 with ⟨ps, h1, _⟩ | ⟨ps, h1, _⟩
          · exact dct a e (.inl ⟨ps, .inr ⟨o, h1⟩⟩)
          · exact dct a e (.inr ⟨ps, .inr ⟨o, h1⟩⟩)
        | _ => simp [dctOf, es] at h
    | _ => simp [dctOf] at h
  | str =>
    cases x with
    | str z =>
      cases rx
      obtain ⟨t, rfl⟩ := rv
      exact ⟨typeIs_str _ _ _, fun _ e => nomatch e⟩
    | _ => simp [BT.is] at h
theorem me_bm (pa : PlainAttrs T.nm) (slot : Slot T.nm name id) (hty : typeOf (.builtin id) = pure (.type "method_descriptor")) (hm : MM g EX X id F) (ho : ME g EX X o O) (ha : MA g EX X (e :: es) AA)
    (hbase : attributeBase o name X.env (eval o X.env) = eval o X.env := by rfl)
    (hfew : ((backTo cpos (starEach (e :: es) X.env)).all (fun x => !x.1) && (backToKw cpos (keywordEach [] X.env)).all (fun x => x.1.isSome)
      && decide ((e :: es).length + ([] : List Keyword).length + (if ([] : List Keyword).isEmpty then 0 else 1) < 30)) = true := by rfl)
    (hline : (apos.endLine == cpos.line) = true := by rfl) (hs : starEach (e :: es) X.env = (false, eval e X.env) :: starEach es X.env := by rfl) (hplain : (backTo cpos (starEach es X.env)).any (·.1) = false := by rfl) :
    ME g EX X (.Call (.Attribute o name apos) (e :: es) [] cpos) (eBM T F O AA) := by
  refine ⟨fun pins s σ H Q I ⟨ι, Λ, S, R, E, q⟩ => ?_⟩
  refine wpAny_Call_method_late hbase hfew hline rfl (thn (ho.run pins s σ H (fun x H1 => ∃ ι1 S1 y, Rel X.K H1 ι1 g S1 ∧ REnv X.K H1 ι1 Λ σ ∧ Rep X.K H1 ι1 y x ∧ Post X.K g EX ι1 H1 (if T.is S1 y = true then (AA Λ S1).bind fun xs S2 => F (y :: xs) S2 else .stuck) (fun z ι' _ H' => ∀ w, Rep X.K H' ι' z w → Q w H')) I ⟨ι, Λ, S, R, E, (Post.bind q).mono fun x ι1 S1 H1 G1 R1 ⟨_, p1⟩ v r => ⟨ι1, S1, x, R1, E.mono G1, r, p1⟩⟩) fun v s1 ⟨x, H1, I1, r1, ι1, S1, y, R1, E1, ry, p1⟩ => ?_)
  by_cases ht : T.is S1 y = true
  case neg => rw [if_neg ht] at p1; exact p1.elim
  rw [if_pos ht] at p1
  obtain ⟨h1, h2⟩ := bt_is I1 R1 ry r1 ht
  refine ⟨T.nm, id, pa, slot, hty, h1, h2, ?_⟩
  have hA := ha.run cpos pins s1 σ H1 (fun vs H2 => xRM X.K g EX F x vs H2 Q) I1 ⟨ι1, Λ, S1, R1, E1, (Post.bind p1).mono fun xs ι2 S2 H2 G2 R2 ⟨_, p2⟩ vs r => ⟨ι2, S2, y, xs, R2, Rep.mono G2 _ _ ry, r, p2⟩⟩
  rw [hs] at hA ⊢
  refine Calls.callWith_builtin (by show (false || (backTo cpos (starEach es X.env)).any (·.1)) = false; rw [hplain] <;> rfl) (Calls.evalArgs_plain ?_)
  exact thn hA fun us s2 ⟨vs, H2, I2, r2, q2⟩ => hm pins s2 σ H2 x vs v us Q I2 r1 r2 q2
theorem me_bm0 (pa : PlainAttrs T.nm) (slot : Slot T.nm name id) (hty : typeOf (.builtin id) = pure (.type "method_descriptor")) (hm : MM g EX X id F) (ho : ME g EX X o O)
    (hbase : attributeBase o name X.env (eval o X.env) = eval o X.env := by rfl) (hline : (apos.endLine == cpos.line) = true := by rfl) : ME g EX X (.Call (.Attribute o name apos) [] [] cpos) (eBM T F O aNil) := by
  refine ⟨fun pins s σ H Q I ⟨ι, Λ, S, R, E, q⟩ => ?_⟩
  refine wpAny_Call_method0_late hbase hline (thn (ho.run pins s σ H (fun x H1 => ∃ ι1 S1 y, Rel X.K H1 ι1 g S1 ∧ Rep X.K H1 ι1 y x ∧ Post X.K g EX ι1 H1 (if T.is S1 y = true then (aNil Λ S1).bind fun xs S2 => F (y :: xs) S2 else .stuck) (fun z ι' _ H' => ∀ w, Rep X.K H' ι' z w → Q w H')) I ⟨ι, Λ, S, R, E, (Post.bind q).mono fun x ι1 S1 H1 G1 R1 ⟨_, p1⟩ v r => ⟨ι1, S1, x, R1, r, p1⟩⟩) fun v s1 ⟨x, H1, I1, r1, ι1, S1, y, R1, ry, p1⟩ => ?_)
  by_cases ht : T.is S1 y = true
  case neg => rw [if_neg ht] at p1; exact p1.elim
  rw [if_pos ht] at p1
  obtain ⟨h1, h2⟩ := bt_is I1 R1 ry r1 ht
  exact ⟨T.nm, id, pa, slot, hty, h1, h2, Calls.callWith_builtin rfl (PySem.evalArgs_none (hm pins s1 σ H1 x [] v [] Q I1 r1 .nil ⟨ι1, S1, y, [], R1, ry, rfl, p1⟩))⟩
theorem mm_append : MM g EX X "list.append" fAppend := by
  rintro pins s σ H v vs v' us Q I rv rs ⟨ι, S, x, xs, R, rx, rxs, p⟩
  unfold fAppend at p
  split at p
  · rename_i n y e
    cases e
    obtain ⟨w, rfl, rw'⟩ := rxs.one'
    obtain ⟨a, rfl, ha⟩ := rx
    split at p
    · rename_i ys es
      split at p
      · rename_i hl
        obtain ⟨a', ha', ws, h1, h2⟩ := R.at es
        rw [ha] at ha'; cases ha'
        refine mt_append pins s σ H _ _ v' us Q I rv rs ⟨a, ws, w, rfl, rfl, h1, by rw [h2.len, ← szL_eq]; exact hl, ?_⟩
        have Gc : Grow ι H ι (upd H a (.lst (ws ++ [w]))) := .cell ha h1
        exact p.ok Gc (R.write ha ⟨_, upd_same, Reps.mono Gc _ _ (h2.app (Reps.one rw'))⟩) _ rfl
      · exact p.elim
    · exact p.elim
  · exact p.elim
theorem optD {o : Option AV} {o' : Option V} {z : AV} {w : V} (h : RepOpt K H ι o o') (rz : Rep K H ι z w) : Rep K H ι (o.getD z) (o'.getD w) := by
  cases o with
  | none => cases o' with
    | none => exact rz
    | some _ => exact h.elim
  | some x => cases o' with
    | none => exact h.elim
    | some v => exact h
theorem mm_get (hu : X.A.units + 64 < cLine) : MM g EX X "dict.get" fGet := by
  rintro pins s σ H v vs v' us Q I rv rs ⟨ι, S, x, xs, R, rx, rxs, p⟩
  unfold fGet at p
  split at p
  · rename_i d k e
    cases e
    obtain ⟨w, rfl, rw'⟩ := rxs.one'
    obtain ⟨u, rfl, ru⟩ := vals1 rs
    split at p
    · rename_i q ek
      cases ed : dlk S x q with
      | none => rw [ed] at p; exact p.elim
      | some o =>
        rw [ed] at p
        obtain ⟨H1, a, o', rfl, J, R1, G1, dg, ro⟩ := dget_of I R rx rw' ek ed
        cases rv
        have p : Post X.K g EX ι H (.ok (o.getD .non) S : Res AV) (fun z ι' _ H' => ∀ w, Rep X.K H' ι' z w → Q w H') := by cases o <;> exact p
        refine d_get1 (by omega) J dg ru fun w' s' I' rw2 => ⟨_, H1, I', rw2, p.ok G1 R1 _ (optD ro rfl)⟩
    · exact p.elim
  · rename_i d k z e
    cases e
    obtain ⟨w, w2, rfl, rw', rz⟩ := rxs.two'
    obtain ⟨u, u2, rfl, ru, ru2⟩ := vals2 rs
    split at p
    · rename_i q ek
      cases ed : dlk S x q with
      | none => rw [ed] at p; exact p.elim
      | some o =>
        rw [ed] at p
        obtain ⟨H1, a, o', rfl, J, R1, G1, dg, ro⟩ := dget_of I R rx rw' ek ed
        cases rv
        have p : Post X.K g EX ι H (.ok (o.getD z) S : Res AV) (fun z ι' _ H' => ∀ w, Rep X.K H' ι' z w → Q w H') := by cases o <;> exact p
        refine d_get2 (by omega) J dg ru ru2 fun w' s' I' rw2 => ⟨_, H1, I', rw2, p.ok G1 R1 _ (optD ro (Rep.mono G1 _ _ rz))⟩
    · exact p.elim
  · exact p.elim
theorem mergeM_rep : ∀ {more kvs : List (DK × AV)} {ms ps : List (Key × V)}, RepK K H ι more ms → RepK K H ι kvs ps → RepK K H ι (mergeM kvs more) (mergeK ps ms)
  | [], kvs, ms, ps, h, r => by
    cases (show ms = [] from h)
    exact r
  | (k, x) :: more, kvs, ms, ps, ⟨q, v, qs, e, e2, h1, h⟩, r => by
    subst e e2
    exact mergeM_rep (kvs := dput (.a q) x kvs) (ps := putK ps q.k v) h (dputK r h1)
theorem d_update {pins : List (Addr × Obj)} {σ : L2.St} {s : Shared} {A : Around} {E : Value → Shared → Prop} {Q : Value → Shared → Prop} {a b : Addr} {ks ls : List (Key × V)} (I : L2.Inv X pins σ H s) (ha : H a = some (.dK ks)) (hb : Rd H b (.dK ls)) (hne : a ≠ b) (hz : ks.length + ls.length ≤ sizeLine)
    (h : ∀ s', L2.Inv X pins σ (upd H a (.dK (mergeK ks ls))) s' → Q .none s') : wpAny (model X.prog X.w) A (call (.builtin "dict.update") [.ref a, .ref b]) Q E s := by
  obtain ⟨z, hd, vs, rel, dd⟩ := dk_of I.hok ha
  obtain ⟨z2, hd2, vs2, rel2, dd2⟩ := dk_rd I.hok hb
  refine call_meetsIn PySem.F.slot_dict_update dd.typeIs PySem.F.entry_dict_update (PySem.F.args_dict_update_2 _ _) (meets_dict_update (mixKind X.prog X.w) a b hne hd2) ⟨vs, vs2, dd, dd2, by rw [← rel.length, ← rel2.length]; exact hz, fun h' dd' _ hs => h { s with heap := h' } ?_⟩
  have he : ∃ q, h'.get? a = some q := let ⟨q, _, _, hq, _⟩ := dd'; ⟨q, hq⟩
  have hl : (mergeK ks ls).length ≤ sizeLine := Nat.le_trans (length_mergeK ls ks) hz
  exact d_write (t' := s.toks) I (by rw [ha]; exact True.intro) hs he (dk_new hl hd (rel2.merge rel) dd')
theorem mm_update : MM g EX X "dict.update" fUpdate := by
  rintro pins s σ H v vs v' us Q I rv rs ⟨ι, S, x, xs, R, rx, rxs, p⟩
  unfold fUpdate at p
  split at p
  · rename_i n y e
    cases e
    obtain ⟨w, rfl, rw'⟩ := rxs.one'
    obtain ⟨u, rfl, ru⟩ := vals1 rs
    split at p
    · rename_i kvs es
      split at p
      · rename_i more em
        split at p
        · rename_i c
          obtain ⟨c1, c2, c3⟩ := c
          rw [szL_eq] at c2
          -- the dict itself, read as one of flat keys
          obtain ⟨H0, a0, ps0, e0, I0, R0, G0, hd0, r0⟩ := flat_of I R (x := .ref n) rx (kvs := kvs) (by simp [flatOf, es, c1])
          subst e0
          cases rv
          obtain ⟨H1, b, ps, rfl, J, R1, G1, hd, rr⟩ := flat_of I0 R0 (Rep.mono G0 _ _ rw') em
          cases ru
          obtain ⟨a', ea, ha⟩ := rx
          cases ea
          have hr0 : RepK X.K H1 ι kvs ps0 := RepK.mono G1 _ _ r0
          obtain ⟨a', ha', h1⟩ := R1.at es
          rw [ha] at ha'; cases ha'
          have hne : a0 ≠ b := fun z => by
            subst z
            cases y with
            | ref m =>
              obtain ⟨b', eb, hb⟩ := rw'
              cases eb
              have : m ≠ n := by simpa [apart] using c3
              exact this (nodup_at R.nd hb ha)
            | dct _ =>
              obtain ⟨b', o, eb, hb, _⟩ := rw'
              cases eb
              exact hb (List.mem_of_getElem? ha)
            | _ => simp [flatOf] at em
          rcases h1 with ⟨qs, hq, rq⟩ | ⟨qs, hq, rq⟩
          · have Gc : Grow ι H1 ι (upd H1 a0 (.dK (mergeK qs ps))) := .cell ha hq
            refine d_update J hq hd hne (by rw [rq.len, rr.len]; exact c2) fun s' I' => ⟨.non, _, I', rfl, ?_⟩
            exact p.ok ((G0.trans G1).trans Gc) (R1.write ha (.inl ⟨_, upd_same, RepK.mono Gc _ _ (mergeM_rep rr rq)⟩)) _ rfl
          · obtain ⟨rfl, rfl⟩ := flat_T c1 rq
            have hd' : Rd (upd H1 a0 (.dK [])) b (.dK ps) := by
              rcases hd with hd | ⟨o, hd⟩
              · exact .inl (by rw [upd_ne (Ne.symm hne)]; exact hd)
              · exact .inr ⟨o, by rw [upd_ne (Ne.symm hne)]; exact hd⟩
            have Gc : Grow ι H1 ι (upd H1 a0 (.dK (mergeK [] ps))) := .cell ha hq
            refine d_update (Inv.emptyK J hq) upd_same hd' hne (by rw [rr.len]; simpa using c2) fun s' I' => ⟨.non, _, I', rfl, ?_⟩
            rw [upd_upd]
            exact p.ok ((G0.trans G1).trans Gc) (R1.write ha (.inl ⟨_, upd_same, RepK.mono Gc _ _ (mergeM_rep rr (show RepK X.K H1 ι [] [] from rfl))⟩)) _ rfl
        · exact p.elim
      · exact p.elim
    · exact p.elim
  · exact p.elim
end
end Mir
end

section
set_option Elab.async false
set_option linter.all false
set_option maxRecDepth 100000
set_option maxHeartbeats 1000000
/-! MirR: raise; dicts displayed; stores with an operator; del; while; names exchanged. -/
namespace Mir
open PySem PySem.Spec PyProof.Rows L2
section
variable {X : Cx} {K : PySem.W.Frag} {g : G} {EX : XK} {H : Hp} {ι : List Addr} {S : Store}
variable {a b c e o i : Expr} {A B C O : EM} {es : List Expr} {pos p p2 apos cpos tpos pos' : Pos} {x m : Str}
theorem ms_raise {C : Addr} {bmB : List Value} {Bs newId initId : String} {cn j : Nat} {k : Nat} (gx : GX EX k X) (F : ExcBaseFacts Bs newId initId bmB) (q : PySem.W.excIn X.K C bmB newId = true) (gC : X.mg x = some (.ref C)) (kC : PySem.W.keepIn X.K (.ref C) = true) (r : Raises X (.ref C)) (hC : g.cls cn = C) (hg : Gl X x := by rfl)
    (hdb : (x == ("__debug__" : Str)) = false := by decide) : MS g EX X (.Raise (some (.Call (.Name x p) [.Constant (.str m) j p2] [] pos')) none pos) (sRaise cn) := by
  subst hC
  refine PS.imp (ps_raise gx.calm gx.tk (pmk_own F q gC kC r hg hdb)) fun D σ H ⟨ι, Λ, S, R, E, p⟩ => ?_
  exact p ι H none (.refl _ _) R
theorem me_dct0 : ME g EX X (.Dict [] [] pos) eDct0 := by
  refine PE.imp pe_dnewK fun σ H Q ⟨ι, Λ, S, R, E, p⟩ q hq => ?_
  have Ga := Grow.alloc R (o := .dK []) hq
  exact p.ok Ga (R.alloc hq (.inl ⟨[], upd_same, rfl⟩)) _ (Rep.newCell R q)
/-- the pairs of a display -/
def MPr (g : G) (EX : XK) (X : Cx) (pos : Pos) (keys : List (Option Expr)) (values : List Expr) (F : PM) (trs : List (TE × TE)) : Prop := PPs X pos keys values trs ∧
  ∀ σ H (Q : List (V × V) → Hp → Prop), (∃ ι Λ S, Rel X.K H ι g S ∧ REnv X.K H ι Λ σ ∧ Post X.K g EX ι H (F Λ S) fun ps ι' _ H' => ∀ kvs, RepK X.K H' ι' (ps.map fun p => (DK.a p.1, p.2)) kvs → Q (kvs.map fun kv => (kV kv.1, kv.2)) H') → tPairs trs σ H Q
theorem mpr_nil : MPr g EX X pos [] [] pNil [] := ⟨pps_nil, fun σ H Q ⟨ι, Λ, S, R, E, p⟩ => p.now R [] rfl⟩
theorem mpr_cons {k v : Expr} {ks : List (Option Expr)} {vs : List Expr} {trs : List (TE × TE)} {Ak Av : EM} {F : PM} (hk : ME g EX X k Ak) (hv : ME g EX X v Av) (hr : MPr g EX X pos ks vs F trs) : MPr g EX X pos (some k :: ks) (v :: vs) (pCons Ak Av F) ((xE X.K g EX Ak, xE X.K g EX Av) :: trs) := by
  refine ⟨pps_cons hk hv hr.1, fun σ H Q ⟨ι, Λ, S, R, E, p⟩ => ?_⟩
  refine ⟨ι, Λ, S, R, E, (Post.bind p).mono fun x ι1 S1 H1 G1 R1 ⟨_, p1⟩ u ru => ?_⟩
  refine ⟨ι1, Λ, S1, R1, E.mono G1, (Post.bind p1).mono fun y ι2 S2 H2 G2 R2 ⟨_, p2⟩ w rw' => ?_⟩
  split at p2
  · rename_i q eq
    have hq := kV_ak eq (Rep.mono G2 _ _ ru)
    subst hq
    refine hr.2 σ H2 _ ⟨ι2, Λ, S2, R2, (E.mono G1).mono G2, (Post.bind p2).mono fun ps ι3 S3 H3 G3 R3 ⟨_, p3⟩ kvs rk => ?_⟩
    exact p3.now R3 ((q.k, w) :: kvs) ⟨q, w, kvs, rfl, rfl, Rep.mono G3 _ _ rw', rk⟩
  · exact p2.elim
theorem me_dctP {keys : List (Option Expr)} {values : List Expr} {trs : List (TE × TE)} {F : PM} (h : MPr g EX X pos keys values F trs) (hall : keys.all (·.isSome) = true) (hl : keys.length = values.length) (h0 : keys ≠ []) (h15 : keys.length ≤ 15) : ME g EX X (.Dict keys values pos) (eDctP F) := by
  refine ⟨fun pins s σ H Q I ⟨ι, Λ, S, R, E, p⟩ => ?_⟩
  refine (pe_disp h.1 hall hl h0 h15).run pins s σ H Q I fun q hq => ?_
  have Gf : Grow ι H ι (upd H q (.dK [])) := .fresh hq
  have p' : Post X.K g EX ι (upd H q (.dK [])) ((F Λ S).bind fun ps S1 => if ps.length ≤ 15 then (.ok (.ref S1.length) (S1 ++ [.dct (mergeD [] ps)]) : Res AV) else .stuck) (fun x ι' _ H' => Grow ι H ι' H' → ∀ v, Rep X.K H' ι' x v → Q v H') := by
    have p : Post X.K g EX ι H ((F Λ S).bind fun ps S1 => if ps.length ≤ 15 then (.ok (.ref S1.length) (S1 ++ [.dct (mergeD [] ps)]) : Res AV) else .stuck) (fun x ι' _ H' => ∀ v, Rep X.K H' ι' x v → Q v H') := p
    generalize ((F Λ S).bind fun ps S1 => if ps.length ≤ 15 then (.ok (.ref S1.length) (S1 ++ [.dct (mergeD [] ps)]) : Res AV) else .stuck) = r at p ⊢
    cases r with
    | ok x S' => exact fun ι' H' G' R' G0 => p ι' H' G0 R'
    | exc c S' => exact fun ι' H' d G' R' => p ι' H' d (Gf.trans G') R'
    | stuck => exact p
  refine h.2 σ _ _ ⟨ι, Λ, S, R.fresh hq, E.mono Gf, ?_⟩
  cases ef : F Λ S with
  | exc c S' => rw [ef] at p'; exact p'
  | stuck => rw [ef] at p'; exact p'.elim
  | ok ps S1 =>
    rw [ef] at p'
    simp only [Res.bind_ok] at p'
    by_cases hl : ps.length ≤ 15
    case neg => rw [if_neg hl] at p'; exact p'.elim
    rw [if_pos hl] at p'
    intro ι1 H1 G1 R1 kvs rk
    have hqn : q ∉ ι := R.nin hq
    have hq1 : H1 q = some (.dK []) := G1.keep q _ upd_same hqn (by intro _ z; cases z)
    have n1 : q ∉ ι1 := by
      obtain ⟨ν, rfl, hν⟩ := G1.ext
      intro z
      rcases List.mem_append.mp z with z | z
      · exact hqn z
      · have := hν q z; rw [upd_same] at this; rcases this with e | ⟨_, e⟩ <;> cases e
    refine ⟨hq1, kvs, rfl, by have := rk.len; rw [List.length_map] at this; omega, ?_⟩
    have hu : Unseen (.dK []) := .inr (.inl ⟨[], rfl⟩)
    have Vc := GrowV.cellOffU (o := .dK (mergeK [] kvs)) (ι := ι1) (H := H1) (D := q) hq1 hu
    have rk' := RepK.monoV Vc _ _ rk
    have R2 := R1.cellOffU (o := .dK (mergeK [] kvs)) (c := .dct (mergeD [] ps)) hq1 hu (fun _ z => by cases z) n1 (.inl ⟨_, upd_same, merge_rep (acc := []) (vs := []) rk' (show RepK _ _ _ [] [] from rfl)⟩)
    have Gn : Grow ι H (ι1 ++ [q]) (upd H1 q (.dK (mergeK [] kvs))) := ((Gf.trans G1).off (o := .dK (mergeK [] kvs)) hq).cellAdd hq
    have p2 : Post X.K g EX ι H (.ok (.ref S1.length) (S1 ++ [.dct (mergeD [] ps)]) : Res AV) (fun x ι' _ H' => ∀ v, Rep X.K H' ι' x v → Q v H') := by
      have p : Post X.K g EX ι H ((F Λ S).bind fun ps S1 => if ps.length ≤ 15 then (.ok (.ref S1.length) (S1 ++ [.dct (mergeD [] ps)]) : Res AV) else .stuck) (fun x ι' _ H' => ∀ v, Rep X.K H' ι' x v → Q v H') := p
      rw [ef, Res.bind_ok, if_pos hl] at p
      exact p
    exact p2 _ _ Gn R2 (.ref q) ⟨q, rfl, by rw [← R1.len, List.getElem?_append_right (Nat.le_refl _), Nat.sub_self]; rfl⟩
/-! ### x op= y -/
theorem mo_isub : MO g EX X (inplaceOp .Sub) opISub := by
  refine OpR.by fun v u H Q ⟨ι, S, x, y, R, rx, ry, p⟩ => ?_
  unfold opISub at p
  split at p
  · cases rx; cases ry
    exact ⟨_, iop_sub, _, _, rfl, rfl, p.now R _ rfl⟩
  · exact p.elim
theorem mo_iadd : MO g EX X (inplaceOp .Add) opIAdd := by
  refine OpR.by fun v u H Q ⟨ι, S, x, y, R, rx, ry, p⟩ => ?_
  unfold opIAdd at p
  split at p
  · cases rx; cases ry
    exact ⟨_, iop_add, _, _, rfl, rfl, p.now R _ rfl⟩
  · rename_i a b
    split at p
    · rename_i hl
      cases rx; cases ry
      exact ⟨_, iop_add_str, _, _, rfl, rfl, by rw [toS_len, toS_len, ← szL_eq]; exact hl, by rw [toS_app]; exact p.now R _ rfl⟩
    · exact p.elim
  · rename_i n k
    split at p
    · rename_i xs ys e1 e2
      split at p
      · rename_i hl
        obtain ⟨a, rfl, ha⟩ := rx
        obtain ⟨b, rfl, hb⟩ := ry
        obtain ⟨a', ha', vs, h1, h2⟩ := R.at e1
        rw [ha] at ha'; cases ha'
        obtain ⟨b', hb', ws, h3, h4⟩ := R.at e2
        rw [hb] at hb'; cases hb'
        have Gc : Grow ι H ι (upd H a (.lst (vs ++ ws))) := .cell ha h1
        refine ⟨_, iop_ext, a, b, vs, ws, rfl, rfl, h1, h3, by rw [h2.len, h4.len, ← szL_eq]; exact hl, ?_⟩
        exact p.ok Gc (R.write ha ⟨_, upd_same, Reps.mono Gc _ _ (h2.app h4)⟩) _ ⟨a, rfl, ha⟩
      · exact p.elim
    · exact p.elim
  · exact p.elim
theorem ms_aug {n : Nat} {op : Operator} {f : AV → AV → Store → Res AV} (hN : X.N.Nodup) (hi : X.N[n]? = some x) (hx : Loc X.env.scope x) (he : ME g EX X e A) (ho : MO g EX X (inplaceOp op) f) (hf : X.fn x = true ∨ X.env.scope.names.lookup x = some .local := by first | exact .inl rfl | exact .inr rfl | assumption) :
    MS g EX X (.AugAssign (.Name x pos') op e pos) (sAug n f A) := by
  refine PS.imp (ps_aug hN hi hx he (ti := xR2 X.K g EX f) (fun pins s σ H x y v u Q I rx ry q => ho pins s σ H x y v u Q I rx ry q) hf) fun D σ H ⟨ι, Λ, S, R, E, p⟩ => ?_
  unfold sAug at p
  split at p
  · rename_i y ey
    obtain ⟨v, e2, rv⟩ := E.2 n y ey
    refine ⟨v, e2, ι, Λ, S, R, E, (Post.sbind p).mono fun z ι1 S1 H1 G1 R1 p1 w rw' => ?_⟩
    exact ⟨ι1, S1, y, z, R1, Rep.mono G1 _ _ rv, rw', (Post.sbind p1).mono fun t ι2 S2 H2 G2 R2 p2 q rq => p2 ι2 H2 _ (.refl _ _) R2 (((E.mono G1).mono G2).set n rq)⟩
  · exact p.elim
/-! ### del x[k] -/
theorem ms_del (ho : ME g EX X o O) (hi : ME g EX X i A) : MS g EX X (.Delete [.Subscript o i tpos] pos) (sDel O A) := by
  refine ⟨fun pins s σ H D I ⟨ι, Λ, S, R, E, p⟩ => ?_⟩
  refine wpAny_Delete (wpAny_deleteEach_cons (wpAny_delete_Subscript (thn (ho.run pins s σ H (fun x H1 => ∃ ι1 S1 y, Rel X.K H1 ι1 g S1 ∧ REnv X.K H1 ι1 Λ σ ∧ Rep X.K H1 ι1 y x ∧ SPost X.K g EX ι1 H1 ((A Λ S1).sbind fun z S2 => match opDel y z S2 with | some S3 => .nx Λ S3 | none => .stuck) D) I ⟨ι, Λ, S, R, E, (Post.sbind p).mono fun x ι1 S1 H1 G1 R1 p1 v r => ⟨ι1, S1, x, R1, E.mono G1, r, p1⟩⟩) fun u s1 ⟨x, H1, I1, rx, ι1, S1, y, R1, E1, ry, p1⟩ =>
    thn (hi.run pins s1 σ H1 (fun z H2 => ∃ ι2 S2 w, Rel X.K H2 ι2 g S2 ∧ REnv X.K H2 ι2 Λ σ ∧ Rep X.K H2 ι2 y x ∧ Rep X.K H2 ι2 w z ∧ SPost X.K g EX ι2 H2 (match opDel y w S2 with | some S3 => .nx Λ S3 | none => .stuck) D) I1 ⟨ι1, Λ, S1, R1, E1, (Post.sbind p1).mono fun w ι2 S2 H2 G2 R2 p2 v r => ⟨ι2, S2, w, R2, E1.mono G2, Rep.mono G2 _ _ ry, r, p2⟩⟩) fun iv s2 ⟨z, H2, I2, rz, ι2, S2, w, R2, E2, ry2, rw', p2⟩ => ?_)))
  split at p2
  · rename_i S3 e3
    unfold opDel at e3
    cases y with
    | ref n =>
      dsimp only at e3
      split at e3
      · rename_i kvs es
        split at e3
        · rename_i q ek
          split at e3
          · rename_i c
            cases e3
            obtain ⟨a, rfl, ha⟩ := ry2
            cases rx
            obtain ⟨a', ha', h1⟩ := R2.at es
            rw [ha] at ha'; cases ha'
            have hz := keyOf_a ek rw'
            subst hz
            rcases h1 with ⟨ps, h1, r1⟩ | ⟨ps, h1, r1⟩
            · have ho := opt_k (q := q) r1
              have hs : (valV ps q.k).isSome = true := by
                cases e1 : dlook (.a q) kvs with
                | none => rw [e1] at c; exact absurd c.2 (by simp)
                | some y =>
                  rw [e1] at ho
                  cases e2 : valV ps q.k with
                  | none => rw [e2] at ho; exact ho.elim
                  | some _ => rfl
              refine d_delItem I2 h1 rz hs fun s3 I3 => wpAny_deleteEach_nil ⟨σ, _, I3, ?_⟩
              have Gc : Grow ι2 H2 ι2 (upd H2 a (.dK (dropK ps q.k))) := .cell ha h1
              exact p2 ι2 _ σ Gc (R2.write ha (.inl ⟨_, upd_same, RepK.mono Gc _ _ (ddropK r1)⟩)) (E2.mono Gc)
            · obtain ⟨rfl, rfl⟩ := fits_a c.1 r1
              simp [dlook] at c
          · cases e3
        · cases e3
      · cases e3
    | _ => simp at e3
  · exact p2.elim
/-! ### while -/
theorem ms_while {body : List Stmt} {t : TM} {M : SM} (fuel : Nat) (hp : PassesOwn (model X.prog X.w) X.A X.env X.xe) (ht : MT g EX X c t) (hb : MSs g EX X body M) : MS g EX X (.While c body [] pos) (sWhile fuel t M) := by
  refine PS.imp (ps_while hp ht hb) fun D σ H ⟨ι, Λ, S, R, E, p⟩ => ?_
  refine ⟨fun n σ' H' => ∃ ι' Λ' S', Rel X.K H' ι' g S' ∧ REnv X.K H' ι' Λ' σ' ∧ SPost X.K g EX ι' H' (whileM t M n Λ' S') D, ⟨fuel, ι, Λ, S, R, E, p⟩, ?_⟩
  rintro n σ1 H1 ⟨ι1, Λ1, S1, R1, E1, p1⟩
  cases n with
  | zero => exact p1.elim
  | succ n =>
    refine ⟨ι1, Λ1, S1, R1, E1, (Post.sbind p1).mono fun b ι2 S2 H2 G2 R2 p2 => ?_⟩
    cases b with
    | false => exact (if_neg Bool.false_ne_true).mpr (p2 ι2 H2 σ1 (.refl _ _) R2 (E1.mono G2))
    | true =>
      simp only [if_true] at p2 ⊢
      refine ⟨fun σ' H' => ∃ ι' Λ' S', Rel X.K H' ι' g S' ∧ REnv X.K H' ι' Λ' σ' ∧ SPost X.K g EX ι' H' (whileM t M n Λ' S') D, fun σ' H' h => ⟨n, Nat.lt_succ_self _, h⟩, ι2, Λ1, S2, R2, E1.mono G2, ?_⟩
      cases eb : M Λ1 S2 with
      | nx Λ3 S3 => rw [eb] at p2; exact fun ι' H' σ' G' R' E' => ⟨ι', Λ3, S3, R', E', SPost.grow G' p2⟩
      | ct Λ3 S3 => rw [eb] at p2; exact fun ι' H' σ' G' R' E' => ⟨ι', Λ3, S3, R', E', SPost.grow G' p2⟩
      | bk Λ3 S3 => rw [eb] at p2; exact p2
      | rt v S3 => rw [eb] at p2; exact p2
      | exc c S3 => rw [eb] at p2; exact p2
      | stuck => rw [eb] at p2; exact p2
end
end Mir
end

section
set_option Elab.async false
set_option linter.all false
set_option maxRecDepth 100000
set_option maxHeartbeats 1000000
/-! MirT: x(lambda: e), x told. -/
namespace Mir
open PySem PySem.Spec PyProof.Rows L2

/-- told(lambda: e): e's value, or the text for an error of these classes -/
def eTold (cs : List Nat) (ret : Sg) (e : EM) : EM := fun Λ S => match e Λ S with
  | .ok v S1 => .ok v S1
  | .exc c S1 => if c ∈ cs then .ok (.str ret) S1 else .stuck
  | .stuck => .stuck
section
variable {X : Cx} {K : PySem.W.Frag} {g : G} {EX : XK} {H : Hp} {ι : List Addr} {S : Store}
theorem Grow.extN {H' : Hp} (e : LamX.ExtN H H') (t : ∀ p ∈ ([] : List Nat), True) (hb : ∀ a ps, H' a = some (.tbl ps) → H a ≠ none → ∃ ps, H a = some (.tbl ps)) : Grow ι H ι H' :=
  ⟨⟨⟨[], by simp, by simp⟩, fun a o h _ ht => e a o h ht, fun a h => by
    cases q : H a with
    | none => exact absurd q h
    | some o =>
      by_cases ht : ∃ ps, o = .tbl ps
      · obtain ⟨ps, rfl⟩ := ht; exact .inr ⟨ps, rfl⟩
      · left; rw [e a o q fun ps z => ht ⟨ps, z⟩]; simp, hb⟩, fun a o u h => e a _ h (by intro _ z; cases z)⟩
theorem extN_tbl {H' : Hp} (e : LamX.ExtN H H') : ∀ a ps, H' a = some (.tbl ps) → H a ≠ none → ∃ ps, H a = some (.tbl ps) := fun a ps h hn => by
  cases q : H a with
  | none => exact absurd q hn
  | some o =>
    by_cases ht : ∃ ps, o = .tbl ps
    · obtain ⟨ps, rfl⟩ := ht; exact ⟨ps, rfl⟩
    · have := e a o q fun ps z => ht ⟨ps, z⟩
      rw [this] at h
      exact absurd ⟨ps, Option.some.inj h⟩ ht
theorem Rel.extN (R : Rel K H ι g S) {H' : Hp} (e : LamX.ExtN H H') (t : LamX.Tabs g.tabs H') : Rel K H' ι g S :=
  ⟨R.len, R.nd, fun n c a h1 h2 => by
    have h := R.cell n c a h1 h2
    obtain ⟨o, ho, ht⟩ := h.some
    exact h.mono (Grow.extN e (fun _ _ => trivial) (extN_tbl e)) (by rw [e a o ho ht, ho]), t⟩
theorem told_post {CS : Addr} {ret : Sg} {cs : List Nat} {B : EM} {σ : L2.St} {Q : VK} (hx : ∀ c ∈ cs, PySem.W.exmOne K (.ref (g.cls c)) (.ref CS) = some true) (h : xE K g EX (eTold cs ret B) σ H Q) :
    LamX.tLam g.tabs (LamX.TTold K CS (toS ret)) (fun E => xE K g E B) σ H Q := by
  obtain ⟨ι, Λ, S, R, E, p⟩ := h
  refine ⟨R.tab, fun H1 eN T1 => ?_⟩
  have G1 : Grow ι H ι H1 := Grow.extN eN (fun _ _ => trivial) (extN_tbl eN)
  refine ⟨ι, Λ, S, R.extN eN T1, E.mono G1, ?_⟩
  unfold eTold at p
  cases e : B Λ S with
  | ok v S1 => rw [e] at p; exact fun ι' H' G' R' => p ι' H' (G1.trans G') R'
  | exc c S1 =>
    rw [e] at p
    dsimp only at p
    by_cases hc : c ∈ cs
    case neg => rw [if_neg hc] at p; exact p.elim
    rw [if_pos hc] at p
    exact fun ι' H' d G' R' => ⟨true, hx c hc, fun _ => p ι' H' (G1.trans G') R' _ rfl, fun z => nomatch z⟩
  | stuck => rw [e] at p; exact p.elim
/-- the lambda's own context -/
theorem gx_lam {A : Around} {outer : List Env} {s : Shared} {E : XK} {scope : Scope} {f c' : Addr} {k : Nat} (hr : Room k (A.deeper (LamX.lamEnv X scope s.heap.objs.size f c'))) : GX E k (LamX.lamCx X A outer s H E scope f c') :=
  ⟨rfl, hr, L2.takes_of rfl rfl rfl rfl, L2.passes_of rfl⟩
end
end Mir
end

section
set_option Elab.async false
set_option linter.all false
set_option maxRecDepth 100000
set_option maxHeartbeats 1000000
/-! MirU: the contexts within; names exchanged; told. -/
namespace Mir
open PySem PySem.Spec PyProof.Rows L2
/-- a, b = x, y and a, b, c = x, y, z by exchange -/
def sPar (is : List Nat) (F : AM) : SM := fun Λ S => (F Λ S).sbind fun xs S1 => if xs.length = is.length then .nx (putA Λ (is.zip xs)) S1 else .stuck
section
variable {X : Cx} {K : PySem.W.Frag} {g : G} {EX : XK} {H : Hp} {ι : List Addr} {S : Store}
theorem gx_blk {k : Nat} (gx : GX EX k X) {s : Shared} {H : Hp} {scope : Scope} {cenv : Env} {fp : List Addr} : GX never k (X.blk s H scope cenv fp) :=
  ⟨gx.calm, gx.room, LamX.takes0, PassesOwn.never⟩
theorem Reps.three' {x y z : AV} {vs : List V} (r : Reps K H ι [x, y, z] vs) : ∃ u v w, vs = [u, v, w] ∧ Rep K H ι x u ∧ Rep K H ι y v ∧ Rep K H ι z w := by
  obtain ⟨v, ws, e, h, h2⟩ := r
  obtain ⟨a, b, rfl, h3, h4⟩ := h2.two'
  exact ⟨v, a, b, e, h, h3, h4⟩
theorem ms_par {i j : Nat} {x y : Str} {a b : Expr} {F : AM} {px py pt pos : Pos} {kt k2 pt2} (hc : X.calm = true) (hN : X.N.Nodup) (hi : X.N[i]? = some x) (hj : X.N[j]? = some y) (hij : i ≠ j)
    (hx : X.env.scope.names.lookup x = some .local) (hy : X.env.scope.names.lookup y = some .local) (ha : MA g EX X [a, b] F)
    (hw : swappedStores [.Tuple [.Name x px, .Name y py] kt pt] (.Tuple [a, b] k2 pt2) X.env = pure (some [x, y]))
    (hs : swapsWithSole [.Tuple [.Name x px, .Name y py] kt pt] (.Tuple [a, b] k2 pt2) pos.line X.env = pure false := by rfl) :
    MS g EX X (.Assign [.Tuple [.Name x px, .Name y py] kt pt] (.Tuple [a, b] k2 pt2) pos) (sPar [i, j] F) := by
  refine PS.imp (ps_par hc hN hi hj hij hx hy ha hw hs) fun D σ H ⟨ι, Λ, S, R, E, p⟩ => ⟨ι, Λ, S, R, E, (Post.sbind p).mono fun xs ι1 S1 H1 G1 R1 p1 vs r => ?_⟩
  match xs, r with
  | [u, v], r =>
    obtain ⟨a', b', rfl, ra, rb⟩ := r.two'
    have p1 : SPost X.K g EX ι1 H1 (.nx ((Λ.set i (some u)).set j (some v)) S1) D := p1
    exact ⟨a', b', rfl, p1 ι1 H1 _ (.refl _ _) R1 (((E.mono G1).set i ra).set j rb)⟩
  | [], _ => exact p1.elim
  | [_], _ => exact p1.elim
  | _ :: _ :: _ :: _, _ => (rw [if_neg (by simp)] at p1; exact p1.elim)
theorem ms_par3 {i j l : Nat} {x y z : Str} {a b c : Expr} {F : AM} {px py pz pt pos : Pos} {kt k2 pt2} (hc : X.calm = true) (hN : X.N.Nodup) (hi : X.N[i]? = some x) (hj : X.N[j]? = some y) (hl : X.N[l]? = some z) (hij : i ≠ j) (hil : i ≠ l) (hjl : j ≠ l)
    (hx : X.env.scope.names.lookup x = some .local) (hy : X.env.scope.names.lookup y = some .local) (hz : X.env.scope.names.lookup z = some .local) (ha : MA g EX X [a, b, c] F)
    (hw : swappedStores [.Tuple [.Name x px, .Name y py, .Name z pz] kt pt] (.Tuple [a, b, c] k2 pt2) X.env = pure (some [x, y, z]))
    (hs : swapsWithSole [.Tuple [.Name x px, .Name y py, .Name z pz] kt pt] (.Tuple [a, b, c] k2 pt2) pos.line X.env = pure false := by rfl) :
    MS g EX X (.Assign [.Tuple [.Name x px, .Name y py, .Name z pz] kt pt] (.Tuple [a, b, c] k2 pt2) pos) (sPar [i, j, l] F) := by
  refine PS.imp (L2.ps_par3 hc hN hi hj hl hij hil hjl hx hy hz ha hw hs) fun D σ H ⟨ι, Λ, S, R, E, p⟩ => ⟨ι, Λ, S, R, E, (Post.sbind p).mono fun xs ι1 S1 H1 G1 R1 p1 vs r => ?_⟩
  match xs, r with
  | [u, v, t], r =>
    obtain ⟨a', b', c', rfl, ra, rb, rc⟩ := r.three'
    have p1 : SPost X.K g EX ι1 H1 (.nx (((Λ.set i (some u)).set j (some v)).set l (some t)) S1) D := p1
    exact ⟨a', b', c', rfl, p1 ι1 H1 _ (.refl _ _) R1 ((((E.mono G1).set i ra).set j rb).set l rc)⟩
  | [], _ => exact p1.elim
  | [_], _ => exact p1.elim
  | [_, _], _ => exact p1.elim
  | _ :: _ :: _ :: _ :: _, _ => (rw [if_neg (by simp)] at p1; exact p1.elim)
end
end Mir
end

section
set_option Elab.async false
set_option linter.all false
set_option maxRecDepth 100000
set_option maxHeartbeats 1000000
/-! MirV: d.items() sorted, and in a row. -/
namespace Mir
open PySem PySem.Spec PyProof.Rows L2

/-- list(d.items()) -/
def eListIt (o : EM) : EM := fun Λ S => (o Λ S).bind fun x S1 => match flatOf S1 x with
  | some kvs => .ok (.lst (dItems kvs)) S1
  | none => .stuck
/-- sorted(d.items()) -/
def eSortIt (o : EM) : EM := fun Λ S => (o Λ S).bind fun x S1 => match flatOf S1 x with
  | some kvs => if sortOk (dItems kvs) = true then .ok (.lst (sortA (dItems kvs))) S1 else .stuck
  | none => .stuck
section
variable {X : Cx} {K : PySem.W.Frag} {g : G} {EX : XK} {H : Hp} {ι : List Addr} {S : Store} {o : Expr} {O : EM} {p pos apos cpos : Pos}
/-- d.items(): the view's object -/
def xIt (X : Cx) (g : G) (EX : XK) (O : EM) : TE := fun σ H Q => xE X.K g EX O σ H fun v H1 => ∃ ι1 S1 x kvs, Rel X.K H1 ι1 g S1 ∧ Rep X.K H1 ι1 x v ∧ flatOf S1 x = some kvs ∧
  ∀ H2 a ps q, Grow ι1 H1 ι1 H2 → Rel X.K H2 ι1 g S1 → Rd H2 a (.dK ps) → RepK X.K H2 ι1 kvs ps → H2 q = none → Q (.ref q) (upd H2 q (L2.DX.itemsO q a))
theorem flat_isD {x : AV} {v : V} {kvs : List (DK × AV)} (R : Rel K H ι g S) (r : Rep K H ι x v) (h : flatOf S x = some kvs) : (BT.dct).is S x = true := by
  show (dctOf S x).isSome = true
  cases x with
  | dct l => rfl
  | ref n =>
    simp only [flatOf] at h
    split at h
    · rename_i l e; simp [dctOf, e]
    · rename_i l e; simp [dctOf, e]
    · cases h
  | _ => simp [flatOf] at h
theorem pe_itv (ho : ME g EX X o O) (hbase : attributeBase o "items" X.env (eval o X.env) = eval o X.env := by rfl) (hline : (apos.endLine == cpos.line) = true := by rfl) : PE X (.Call (.Attribute o "items" apos) [] [] cpos) (xIt X g EX O) := by
  refine ⟨fun pins s σ H Q I q => ?_⟩
  refine wpAny_Call_method0_late hbase hline (thn (ho.run pins s σ H _ I q) fun v s1 ⟨x, H1, I1, r1, ι1, S1, y, kvs, R1, ry, ef, q1⟩ => ?_)
  obtain ⟨h1, h2⟩ := bt_is (T := .dct) I1 R1 ry r1 (flat_isD R1 ry ef)
  refine ⟨"dict", "dict.items", PySem.F.plainAttrs_dict, PySem.F.slot_dict_items, PySem.F.type_dict_items, h1, h2, Calls.callWith_builtin rfl (PySem.evalArgs_none ?_)⟩
  obtain ⟨H2, a, ps, rfl, J, R2, G2, hd, rr⟩ := flat_of I1 R1 ry ef
  cases r1
  obtain ⟨z, hs, vs, rel, ob, es, ep, ho', hx, hdat, _⟩ := dk_rd J.hok hd
  refine DT.callItems (es := es) (ep := ep) hs ⟨ob, ho', hx, hdat⟩ ?_
  have hf : H2 s1.heap.objs.size = none := J.hok.fresh (Nat.le_refl _)
  exact ⟨.ref s1.heap.objs.size, upd H2 s1.heap.objs.size (L2.DX.itemsO s1.heap.objs.size a), J.laid (t' := s1.toks) (fun b u e => Heap.get?_push_of_some _ e) (Nat.le_refl _) (L2.DX.itemsO_ok (Heap.get?_push_size _ rfl)), rfl, q1 H2 a ps _ G2 R2 hd rr hf⟩
theorem pairs_at {P : Program} {w : World} : ∀ {kvs : List (DK × AV)} {ps : List (Key × V)} {vs : List (Key × Value)} {es : List DictEntry}, RepK K H ι kvs ps → KV ps vs → Pairs (mixKind P w) es vs → ∀ (j : Nat) (e : DictEntry), es[j]? = some e →
    ∃ q x u, kvs[j]? = some (.a q, x) ∧ Rep K H ι x u ∧ keyIs q.k e.key = true ∧ L2.RelV u e.val
  | [], _, _, es, r, k, h, j, e, he => by
    cases (show _ = [] from r)
    cases k
    cases h
    simp at he
  | (d, x) :: kvs, _, _, es, ⟨q, v, qs, e1, e2, h1, r⟩, k, h, j, e, he => by
    subst e1 e2
    cases k with
    | @cons _ b _ bs k1 k2 =>
      cases h with
      | cons h3 h4 h5 =>
        cases j with
        | zero =>
          have he := Option.some.inj he
          subst he
          exact ⟨q, x, v, rfl, h1, by have := k1.1; rw [show b.1 = q.k from this.symm] at h3; exact h3, by rw [h4]; exact k1.2⟩
        | succ j =>
          obtain ⟨q', x', u, a1, a2, a3, a4⟩ := pairs_at r k2 h5 j e (by simpa using he)
          exact ⟨q', x', u, by simpa using a1, a2, a3, a4⟩
theorem relV_kV {k : Key} {v : Value} (h : keyIs k v = true) : L2.RelV (kV k) v := by
  rcases keyIs_shape h with ⟨i, t, rfl, rfl⟩ | ⟨x, t, rfl, rfl⟩
  · exact ⟨t, rfl⟩
  · exact ⟨t, rfl⟩
/-- the pairs made of a dict, tracked -/
theorem made_of1 {pins : List (Addr × Obj)} {σ : L2.St} {s : Shared} {H1 : Hp} {ps : List (Key × V)} {kvs : List (DK × AV)} {es : Array DictEntry} {h' : Heap} {tk : Nat} {as : List Addr} {vs : List (Key × Value)} {lo : Addr}
    (I : L2.Inv X pins σ H s) (I1 : L2.Inv X pins σ H1 { s with heap := h', toks := tk }) (R1 : Rel X.K H1 ι g S) (rr : RepK X.K H1 ι kvs ps) (rel : KV ps vs) (hp : Pairs (mixKind X.prog X.w) es.toList vs)
    (hl : as.length = es.size) (hG : DT.Made es lo h' as) (hlo : s.heap.objs.size ≤ lo) (fr : ∀ a ∈ as, H1 a = none) :
    ∃ H2, L2.Inv X pins σ H2 { s with heap := h', toks := tk } ∧ (∀ b o, H1 b = some o → H2 b = some o) ∧ Rel X.K H2 ι g S ∧ Reps X.K H2 ι (dItems kvs) (as.map V.ref) := by
  have nd : as.Nodup := List.Pairwise.imp (fun h => Nat.ne_of_lt h) hG.rise
  have lkv : es.size = kvs.length := by
    have h1 := hp.length
    have h2 := rel.length
    have h3 := rr.len
    rw [Array.length_toList] at h1
    omega
  obtain ⟨H2, I2, g2, q2⟩ := L2.DX.takeT (P := fun a ws => ∃ (j : Nat) (q : AK) (x : AV) (u : V), as[j]? = some a ∧ kvs[j]? = some (.a q, x) ∧ ws = [kV q.k, u] ∧ Rep X.K H1 ι x u) I as H1 I1 nd fun a ha => by
    obtain ⟨j, hj⟩ := List.mem_iff_getElem?.mp ha
    obtain ⟨e, he, hg⟩ := hG.pairs j a hj
    obtain ⟨q, x, u, h1, h2, h3, h4⟩ := pairs_at rr rel hp j e (by rw [Array.getElem?_toList]; exact he)
    refine ⟨Nat.le_trans hlo (Nat.le_of_lt (hG.above a ha)), fr a ha, [kV q.k, u], ⟨j, q, x, u, hj, h1, rfl, h2⟩, fun _ => ⟨by show 2 ≤ sizeLine; decide, [e.key, e.val], .cons (relV_kV h3) (.cons h4 .nil), ⟨_, hg, rfl, _, rfl⟩⟩⟩
  have G2 : Grow ι H1 ι H2 := .of_ext g2
  have R2 := R1.of_ext g2
  refine ⟨H2, I2, g2, R2, ?_⟩
  -- the row of the pairs
  have row : ∀ (L : List Addr) (M : List (DK × AV)), L.length = M.length → (∀ (j : Nat) (a : Addr) (p : DK × AV), L[j]? = some a → M[j]? = some p → Rep X.K H2 ι (.tup [dkV p.1, p.2]) (.ref a)) → Reps X.K H2 ι (dItems M) (L.map V.ref) := by
    intro L
    induction L with
    | nil =>
      intro M hM _
      cases M with
      | nil => rfl
      | cons _ _ => simp at hM
    | cons a L ih =>
      intro M hM f
      cases M with
      | nil => simp at hM
      | cons p M => exact ⟨.ref a, L.map V.ref, rfl, f 0 a p rfl rfl, ih M (by simpa using hM) fun j b r hb hr => f (j + 1) b r (by simpa using hb) (by simpa using hr)⟩
  refine row as kvs (by omega) fun j a p ha hpj => ?_
  obtain ⟨ws, ⟨j', q, x, u, h1, h2, rfl, h3⟩, h4⟩ := q2 a (List.mem_of_getElem? ha)
  have ej : j' = j := nodup_at nd h1 ha
  subst ej
  rw [h2] at hpj
  cases hpj
  exact ⟨a, _, rfl, ⟨R2.ntup h4, h4⟩, kV q.k, [u], rfl, rep_akV q, u, [], rfl, Rep.mono G2 _ _ h3, rfl⟩
theorem made_of {pins : List (Addr × Obj)} {σ : L2.St} {s : Shared} {ps : List (Key × V)} {kvs : List (DK × AV)} {es : Array DictEntry} {h' : Heap} {tk : Nat} {as : List Addr} {vs : List (Key × Value)} {lo : Addr}
    (I : L2.Inv X pins σ H s) (R : Rel X.K H ι g S) (rr : RepK X.K H ι kvs ps) (rel : KV ps vs) (hp : Pairs (mixKind X.prog X.w) es.toList vs)
    (hk : ∀ b o, s.heap.get? b = some o → h'.get? b = some o) (hl : as.length = es.size) (hG : DT.Made es lo h' as) (hlo : s.heap.objs.size ≤ lo) :
    ∃ H2, L2.Inv X pins σ H2 { s with heap := h', toks := tk } ∧ Grow ι H ι H2 ∧ Rel X.K H2 ι g S ∧ Reps X.K H2 ι (dItems kvs) (as.map V.ref) := by
  obtain ⟨H2, I2, g2, R2, rows⟩ := made_of1 I (I.kept hk) R rr rel hp hl hG hlo fun a ha => I.hok.fresh (Nat.le_trans hlo (Nat.le_of_lt (hG.above a ha)))
  exact ⟨H2, I2, .of_ext g2, R2, rows⟩
/-- sorted(d.items()) -/
theorem me_sortIt (gx : GX EX 0 X) (hm : X.mg "sorted" = none) (ho : ME g EX X o O) (hg : Gl X "sorted" := by rfl) (hbase : attributeBase o "items" X.env (eval o X.env) = eval o X.env := by rfl) (hline : (apos.endLine == cpos.line) = true := by rfl)
    (he : starEach [.Call (.Attribute o "items" apos) [] [] cpos] X.env = (false, eval (.Call (.Attribute o "items" apos) [] [] cpos) X.env) :: starEach [] X.env := by rfl) :
    ME g EX X (.Call (.Name "sorted" p) [.Call (.Attribute o "items" apos) [] [] cpos] [] pos) (eSortIt O) := by
  have hC : CallR X (.builtin "sorted") (fun vs H Q => ∃ ι S kvs ps a q, vs = [.ref q] ∧ Rel X.K H ι g S ∧ Rd H a (.dK ps) ∧ RepK X.K H ι kvs ps ∧ H q = some (L2.DX.itemsO q a) ∧ sortOk (dItems kvs) = true ∧ ∀ H' w, Grow ι H ι H' → Rel X.K H' ι g S → Rep X.K H' ι (.lst (sortA (dItems kvs))) w → Q w H') := by
    rintro pins s σ H vs us Q I r ⟨ι, S, kvs, ps, a, q, rfl, R, hd, rr, hq, ok, fin⟩
    obtain rfl := Vals.ref1 r
    have view : s.heap.IsItemsView q a := (show ObjOk X.prog X.w H s.heap q (L2.DX.itemsO q a) from I.hok q _ hq).1
    obtain ⟨z, hs, vs, rel, ob, es, ep, ho', hx, hdat, _, hp, _⟩ := dk_rd I.hok hd
    have hl1 := hp.length
    have hl2 := rel.length
    rw [Array.length_toList] at hl1
    refine DT.sortedI (es := es) (ep := ep) (I.ok.hd gx.calm) view ⟨ob, ho', hx, hdat⟩ (by omega) fun h' tk as hk hlt hl hG => ?_
    obtain ⟨H2, I2, G2, R2, rows⟩ := made_of (tk := tk) I R rr rel hp hk hl hG (Nat.le_refl _)
    have vals : L2.Vals (as.map V.ref) (as.map Value.ref) := by
      clear hl hG rows
      induction as with
      | nil => exact .nil
      | cons a as ih => exact .cons rfl ih
    have hob : (h'.push { cls := .type "list", data := .seq (as.map Value.ref).toArray }).get? h'.objs.size = some (seqObj "list" (as.map Value.ref).toArray 0) := Heap.get?_push_size _ rfl
    -- the heap with the new list
    have I3 : L2.Inv X pins σ H2 { s with heap := h'.push { cls := .type "list", data := .seq (as.map Value.ref).toArray }, toks := tk } := I2.kept (t' := tk) fun b u e => Heap.get?_push_of_some _ e
    obtain ⟨e1, e2, e3, e4, e5, e6⟩ := sort_facts I3 ok rows vals
    refine PySem.W.list_sort_data (R := fun u y => ∃ v, Rep X.K H2 ι y v ∧ L2.RelV v u) (enc := pd) (bs := dItems kvs) hob e1 (e2.mono fun _ _ h => ⟨_, h, List.not_mem_nil⟩) e3 e4 e5 (fun b hb => by have := e6 b hb; have := gx.hu; show X.A.units + 1 + 1 + _ < _; omega) fun out hlo he' => ?_
    obtain ⟨zs, h1, h2⟩ := reps_each he'
    obtain ⟨ec, hec⟩ := PyProof.Rows.sortedHeap_at (vs := as.map Value.ref) (out := out.toArray) hob
    have hlen : zs.length ≤ sizeLine := by rw [h2.length, hlo]; exact e5
    have hf : H2 h'.objs.size = none := I2.hok.fresh (Nat.le_refl _)
    refine ⟨.ref h'.objs.size, upd H2 h'.objs.size (.lst zs), I2.laid (t' := tk) (fun b u e => ?_) (Nat.le_refl _) ⟨hlen, out, ec, h2, hec⟩, rfl, ?_⟩
    · have hb : b < h'.objs.size := Heap.lt_size e
      rw [PyProof.Rows.sortedHeap_old (Nat.ne_of_lt hb) (by rw [Heap.size_push]; exact Nat.lt_succ_of_lt hb)]
      exact Heap.get?_push_of_some _ e
    · exact fin _ _ (G2.trans (.fresh hf)) (R2.fresh hf) (R2.newLst hf h1)
  refine PE.imp (pe_callB hC hg hm PyProof.Rows.boot_sorted (pa_cons (pe_itv ho hbase hline) pa_nil he) (by decide) (by decide) he rfl) fun σ H Q ⟨ι, Λ, S, R, E, p⟩ => ?_
  refine ⟨ι, Λ, S, R, E, (Post.bind p).mono fun y ι1 S1 H1 G1 R1 ⟨_, p1⟩ v r => ?_⟩
  split at p1
  · rename_i kvs ek
    split at p1
    · rename_i ok
      refine ⟨ι1, S1, y, kvs, R1, r, ek, fun H2 a ps q G2 R2 hd rr hq => ?_⟩
      have Gf : Grow ι1 H2 ι1 (upd H2 q (L2.DX.itemsO q a)) := .fresh hq
      refine ⟨ι1, S1, kvs, ps, a, q, rfl, R2.fresh hq, ?_, RepK.mono Gf _ _ rr, upd_same, ok, fun H' w G' R' rw' => ?_⟩
      · have : a ≠ q := fun z => by
          rcases hd with hd | ⟨_, hd⟩ <;> · rw [z, hq] at hd; cases hd
        rcases hd with hd | ⟨o, hd⟩
        · exact .inl (by rw [upd_ne this]; exact hd)
        · exact .inr ⟨o, by rw [upd_ne this]; exact hd⟩
      · exact p1.ok ((G2.trans Gf).trans G') R' w rw'
    · exact p1.elim
  · exact p1.elim
/-- list(view) up to the row of the pairs -/
theorem list_items {prog : Program} {w : World} {A : Around} {E : Value → Shared → Prop} {s : Shared} {r d : Addr} {es : Array DictEntry} {ep : Nat} {Q : Value → Shared → Prop} (hh : A.handled = none) (hv : s.heap.IsItemsView r d) (hm : DT.Raw s.heap d es ep) (hn : es.size ≤ sizeLine)
    (hQ : ∀ h' tk acc c as, (∀ b o, s.heap.get? b = some o → h'.get? b = some o) → h'.get? s.heap.objs.size = some { cls := .type "list", dict := none, data := .seq acc c, slots := #[] } → as.length = es.size → DT.Made es s.heap.objs.size h' as → acc.toList = as.map Value.ref → Q (.ref s.heap.objs.size) { s with heap := h', toks := tk }) :
    wpAny (model prog w) A (call (.type "list") [.ref r]) Q E s := by
  refine callType_codes (Q₁ := fun obj s₁ => obj = .ref s.heap.objs.size ∧ s₁ = { s with heap := s.heap.push { cls := .type "list", data := .seq #[] } }) PySem.F.called_list (PySem.F.typeCall_list_1 _) PySem.F.entry_list_init
    (code_list_new _ ⟨rfl, rfl⟩) fun obj s₁ h₁ => ?_
  obtain ⟨rfl, rfl⟩ := h₁
  have hS : (s.heap.push { cls := .type "list", data := .seq #[] }).get? s.heap.objs.size = some { cls := .type "list", data := .seq #[] } := Heap.get?_push_size _ rfl
  have hr : r < s.heap.objs.size := let ⟨_, ho, _⟩ := hv; Heap.lt_size ho
  have hd : d < s.heap.objs.size := hm.lt
  refine ⟨⟨_, hS, rfl⟩, PySem.F.args_list_init_2 _ _, ?_⟩
  generalize hs1 : s.heap.push { cls := .type "list", data := .seq #[] } = h1 at hS ⊢
  have k1 : ∀ b o, s.heap.get? b = some o → h1.get? b = some o := fun b o e => by rw [← hs1]; exact Heap.get?_push_of_some _ e
  have hsz1 : h1.objs.size = s.heap.objs.size + 1 := by rw [← hs1]; exact Heap.size_push ..
  show wpAny _ _ (do let old ← Builtin.List.listItems (.ref s.heap.objs.size); Builtin.List.listUpdate (.ref s.heap.objs.size) (fun _ => #[]); letGo old.toList.reverse; Builtin.List.listExtendWith (.ref s.heap.objs.size) (.ref r) .none) _ _ { s with heap := h1 }
  refine wpAny_bind ?_
  unfold Builtin.List.listItems
  refine wpAny_bind (wpAny_seqItems hS rfl (wpAny_pure ?_))
  show wpAny _ _ (updateSeq s.heap.objs.size (fun _ => #[]) >>= fun _ => letGo (#[] : Array Value).toList.reverse >>= fun _ => Builtin.List.listExtendWith (.ref s.heap.objs.size) (.ref r) .none) _ _ { s with heap := h1 }
  refine wpAny_bind (wpAny_updateSeq hS rfl ?_)
  have hS₂ := Heap.get?_update_self (Obj.mapSeq (fun _ => (#[] : Array Value))) hS rfl
  have oth : ∀ b o, b ≠ s.heap.objs.size → h1.get? b = some o → (h1.update s.heap.objs.size (Obj.mapSeq (fun _ => (#[] : Array Value)))).get? b = some o :=
    fun b o hb e => (Heap.get?_update_other _ _ (Ne.symm hb)).trans e
  refine wpAny_bind (wpAny_letGo ?_)
  refine DT.extI (A := A.in1) (es := es) (ep := ep) hh (let ⟨o, ho, x⟩ := hv; ⟨o, oth _ _ (Nat.ne_of_lt hr) (k1 _ _ ho), x⟩) (hm.at' fun o e => oth _ _ (Nat.ne_of_lt hd) (k1 _ _ e)) s.heap.objs.size (Nat.ne_of_gt hr) (Nat.ne_of_lt hd) .none _ hS₂ (fun h' tk acc c as hk hS' hl hG hacc => ?_) hn
  refine ⟨rfl, hQ h' tk acc c as (fun b o e => hk b o (Nat.ne_of_lt (Heap.lt_size e)) (oth _ _ (Nat.ne_of_lt (Heap.lt_size e)) (k1 b o e))) hS' hl (hG.low ?_) hacc⟩
  show s.heap.objs.size ≤ (h1.update _ _).objs.size
  rw [Heap.size_update, hsz1]
  exact Nat.le_succ _
theorem me_listIt (gx : GX EX 0 X) (hm : X.mg "list" = none) (ho : ME g EX X o O) (hg : Gl X "list" := by rfl) (hbase : attributeBase o "items" X.env (eval o X.env) = eval o X.env := by rfl) (hline : (apos.endLine == cpos.line) = true := by rfl)
    (he : starEach [.Call (.Attribute o "items" apos) [] [] cpos] X.env = (false, eval (.Call (.Attribute o "items" apos) [] [] cpos) X.env) :: starEach [] X.env := by rfl) :
    ME g EX X (.Call (.Name "list" p) [.Call (.Attribute o "items" apos) [] [] cpos] [] pos) (eListIt O) := by
  have hC : CallR X (.type "list") (fun vs H Q => ∃ ι S kvs ps a q, vs = [.ref q] ∧ Rel X.K H ι g S ∧ Rd H a (.dK ps) ∧ RepK X.K H ι kvs ps ∧ H q = some (L2.DX.itemsO q a) ∧ ∀ H' w, Grow ι H ι H' → Rel X.K H' ι g S → Rep X.K H' ι (.lst (dItems kvs)) w → Q w H') := by
    rintro pins s σ H vs us Q I r ⟨ι, S, kvs, ps, a, q, rfl, R, hd, rr, hq, fin⟩
    obtain rfl := Vals.ref1 r
    have view : s.heap.IsItemsView q a := (show ObjOk X.prog X.w H s.heap q (L2.DX.itemsO q a) from I.hok q _ hq).1
    obtain ⟨z, hs, vs, rel, ob, es, ep, ho', hx, hdat, _, hp, _⟩ := dk_rd I.hok hd
    have hl1 := hp.length
    have hl2 := rel.length
    rw [Array.length_toList] at hl1
    refine list_items (es := es) (ep := ep) (I.ok.hd gx.calm) view ⟨ob, ho', hx, hdat⟩ (by omega) fun h' tk acc c as hk hD hl hG hacc => ?_
    have vals : L2.Vals (as.map V.ref) acc.toList := by
      rw [hacc]
      clear hl hG hacc
      induction as with
      | nil => exact .nil
      | cons a as ih => exact .cons rfl ih
    have hf : H s.heap.objs.size = none := I.hok.fresh (Nat.le_refl _)
    have hlen : (as.map V.ref).length ≤ sizeLine := by rw [List.length_map, hl]; omega
    have I1 : L2.Inv X pins σ (upd H s.heap.objs.size (.lst (as.map V.ref))) { s with heap := h', toks := tk } :=
      (I.kept (t' := tk) hk).take (h' := h') (t' := tk) (fun b ob _ e => e) (I.fpOk (Nat.le_refl _) hf) ⟨hlen, acc.toList, c, vals, by rw [Array.toArray_toList]; exact hD⟩
    have Gf : Grow ι H ι (upd H s.heap.objs.size (.lst (as.map V.ref))) := .fresh hf
    obtain ⟨H2, I2, g2, R2, rows⟩ := made_of1 I I1 (R.fresh hf) (RepK.mono Gf _ _ rr) rel hp hl hG (Nat.le_refl _) fun b hb => by
      rw [upd_ne (Nat.ne_of_gt (hG.above b hb))]
      exact I.hok.fresh (Nat.le_of_lt (hG.above b hb))
    exact ⟨.ref s.heap.objs.size, H2, I2, rfl, fin H2 _ (Gf.trans (.of_ext g2)) R2 ⟨_, _, rfl, ⟨R.nin hf, .inl (g2 _ _ upd_same)⟩, rows⟩⟩
  refine PE.imp (pe_callTy hC hg hm PyProof.Rows.boot_list (pa_cons (pe_itv ho hbase hline) pa_nil he) (by decide) (by decide) he rfl) fun σ H Q ⟨ι, Λ, S, R, E, p⟩ => ?_
  refine ⟨ι, Λ, S, R, E, (Post.bind p).mono fun y ι1 S1 H1 G1 R1 ⟨_, p1⟩ v r => ?_⟩
  split at p1
  · rename_i kvs ek
    refine ⟨ι1, S1, y, kvs, R1, r, ek, fun H2 a ps q G2 R2 hd rr hq => ?_⟩
    have Gf : Grow ι1 H2 ι1 (upd H2 q (L2.DX.itemsO q a)) := .fresh hq
    refine ⟨ι1, S1, kvs, ps, a, q, rfl, R2.fresh hq, ?_, RepK.mono Gf _ _ rr, upd_same, fun H' w G' R' rw' => ?_⟩
    · have : a ≠ q := fun z => by
        rcases hd with hd | ⟨_, hd⟩ <;> · rw [z, hq] at hd; cases hd
      rcases hd with hd | ⟨o, hd⟩
      · exact .inl (by rw [upd_ne this]; exact hd)
      · exact .inr ⟨o, by rw [upd_ne this]; exact hd⟩
    · exact p1.ok ((G2.trans Gf).trans G') R' w rw'
  · exact p1.elim
end
end Mir
end

section
set_option Elab.async false
set_option linter.all false
set_option maxRecDepth 100000
set_option maxHeartbeats 1000000
/-! MirW: defs with code objects known; told(lambda: ..). -/
namespace Mir
open PySem PySem.Spec PyProof.Rows L2

/-- the def st stands at f, its code object at c -/
structure FunC (K : PySem.W.Frag) (x qual : Str) (st : Stmt) (f : Addr) (fd : FuncData) (c : Addr) : Prop where
  ex : ∃ (oc : Value) (od : Option Addr) (kV doc pm : Value) (an : Option Addr) (ct : Value) (osl : Array (Option Value)),
    fd = PySem.W.fnOf x qual (defArgs st) (defBody st) (defScope st) .none kV doc pm an (.ref c) ct ∧ K.lookup f = some ⟨oc, od, .func fd, osl⟩ ∧ PySem.W.codeIn K (.ref c) qual = true
  kp : PySem.W.keepIn K (.ref f) = true
section
variable {P : Program} {w : World} {K : PySem.W.Frag} {mg : Str → Option Value} {base : Heap} {g : G}
theorem fnM_ofC {x qual : Str} {st : Stmt} {f c : Addr} {fd : FuncData} {N ps : List Str} {k : Nat} {M : SM} (F : FunC K x qual st f fd c) (B : Binds K fd ps []) (Sc : FnScope N ps (defScope st)) (hN : ps.length ≤ N.length)
    (hb : ∀ (A : Around) (outer : List Env) (s : Shared) (H : Hp) (E : XK), GX E k (cxOf (L2.CX P w) P w K mg base N qual (defScope st) f (.ref c) A outer s H E) → MSs g E (cxOf (L2.CX P w) P w K mg base N qual (defScope st) f (.ref c) A outer s H E) (defBody st) M) :
    FnM P w K mg base g (k + 1) f ps (fdef N.length ps.length M) := by
  obtain ⟨oc, od, kV, doc, pm, an, ct, osl, e, lk, hcd⟩ := F.ex
  refine ⟨⟨fd, ?_, B⟩, F.kp⟩
  subst e
  refine fn_of lk hcd Sc (fun vs H Q E h => ?_) fun A outer s H vs Q E hr h => ?_
  · obtain ⟨ι, S, xs, _, r, l, _⟩ := h
    rw [r.len, l]
  · obtain ⟨ι, S, xs, R, r, l, p⟩ := h
    refine ⟨_, hb A outer s H E ⟨rfl, hr, L2.takes_of rfl rfl rfl rfl, L2.passes_of rfl⟩, ι, xs.map some ++ List.replicate (N.length - ps.length) none, S, R, ?_, ?_⟩
    · have e : L2.start N vs = vs.map some ++ List.replicate (N.length - ps.length) none := by
        unfold L2.start
        rw [r.len, l]
      rw [e]
      exact renv_start r
    · unfold fdef at p
      rw [if_pos l] at p
      cases e : M (xs.map some ++ List.replicate (N.length - ps.length) none) S with
      | nx Λ S' => rw [e] at p; exact fun ι' H' σ' G R' E' => p ι' H' G R' .non rfl
      | rt v S' => rw [e] at p; exact fun ι' H' v G R' r' => p ι' H' G R' v r'
      | exc c S' => rw [e] at p; exact p
      | bk Λ S' => rw [e] at p; exact p.elim
      | ct Λ S' => rw [e] at p; exact p.elim
      | stuck => rw [e] at p; exact p.elim
end
section
variable {X : Cx} {g : G} {EX : XK}
theorem me_told {x a : Str} {st : Stmt} {g' c P CS : Addr} {fd : FuncData} {k j : Nat} {Ng : List Str} {params : Arguments} {body : Expr} {scope : Scope} {Bd : EM} {p lpos pos : Pos} {cs : List Nat} {ret : Sg} (gx : GX EX j X) (hk : k + 2 ≤ j)
    (F : Fun X.K x x st g' fd) (B : Binds X.K fd [a] []) (Sg : FnScope Ng [a] (defScope st)) (hNg : Ng[0]? = some a) (hva : Vis (defScope st) a) (hm : X.mg x = some (.ref g'))
    (hG : ∀ cdv, LamX.GivesTo X Ng x (defScope st) g' cdv (defBody st) a (X.env.qual ++ "<lambda>") (LamX.TTold X.K CS (toS ret)))
    (TB : LamX.TabB X.base X.mg c P) (hcode : X.env.code = .ref c) (hmT : (P, X.env.qual ++ "<lambda>") ∈ g.tabs) (hu : ∀ p ∈ g.tabs, p.1 = P → p.2 = X.env.qual ++ "<lambda>") (hx : ∀ cn ∈ cs, PySem.W.exmOne X.K (.ref (g.cls cn)) (.ref CS) = some true)
    (L : LamX.LamS X.env.scope scope) (hbody : ∀ (A : Around) (outer : List Env) (s : Shared) (H : Hp) (E : XK) (f c' : Addr), GX E k (LamX.lamCx X A outer s H E scope f c') → ME g E (LamX.lamCx X A outer s H E scope f c') body Bd)
    (hdef : defaultsOf params X.env = ([], []) := by rfl) (hbind : ∀ (q : Str) (cl : List (Str × Addr)) (pm cv ctv : Value), bindArgs (PySem.W.kla_fn "<lambda>" q params body scope cl pm cv ctv) ⟨[], []⟩ = pure [] := by intros; rfl)
    (hg : Gl X x := by rfl) (hdb : (x == ("__debug__" : Str)) = false := by decide) (hd : (a == ("__debug__" : Str)) = false := by decide) (hcd : (a == ("__classdict__" : Str)) = false := by decide) :
    ME g EX X (.Call (.Name x p) [.Lambda params body scope lpos] [] pos) (eTold cs ret Bd) := by
  obtain ⟨oc, od, kV, doc, pm, an, cdv, ct, osl, rfl, lk, hcg⟩ := F.ex
  exact PE.imp (LamX.pe_lamcall (T := g.tabs) hg hm F.kp lk hcg B Sg hNg hva (hG cdv) TB hcode hmT hu (gx.room.mono hk) L hdef hbind (t := fun E => xE X.K g E Bd) (fun A outer s H E f c' hr => hbody A outer s H E f c' (gx_lam hr)) hdb hd hcd) fun σ H Q h => told_post hx h
end
end Mir
end

section
set_option Elab.async false
set_option linter.all false
set_option maxRecDepth 100000
set_option maxHeartbeats 1000000
/-! MirX: generator expressions: the frame that sleeps. -/
namespace Mir
open PySem PySem.Spec PyProof.Rows L2

/-- the generator expression's scope: the walked thing, the targets, captured names -/
structure GenOk (N : List Str) (sc scope : Scope) (own : List (Str × Nat)) : Prop where
  kind : scope.kind = .function
  co : scope.isCoroutine = false
  cell : ∀ y ∈ scope.names, y.2 ≠ .cell
  dot : scope.names.lookup (".0" : Str) = some NameKind.local
  dotN : (".0" : Str) ∉ N
  uniq : ∀ y ∈ scope.names, scope.names.lookup y.1 = some y.2
  ix : ∀ p ∈ own, N[p.2]? = some p.1
  free : ∀ y ∈ scope.names, y.2 = .free → sc.names.lookup y.1 = some .cell ∨ sc.names.lookup y.1 = some .free
  own : ∀ y ∈ scope.names, y.2 = .local → y.1 ∈ own.map (·.1) ∨ y.1 ∉ N
theorem GenOk.has {X : Cx} {scope : Scope} {own : List (Str × Nat)} (L : GenOk X.N X.env.scope scope own) (ok : X.Ok) : ∀ y ∈ scope.names, y.2 = .free → ∃ c, X.env.cells.lookup y.1 = some c := fun y hy e => by
  rcases L.free y hy e with k | k
  · exact ok.has _ (.inl k)
  · exact ok.has _ (.inr k)
abbrev gEnv (X : Cx) (scope : Scope) (C : Addr) (code : Value) : Env := genEnv scope (cloFrom X.env.cells scope.names []) C code builtinsNs X.env
/-- the context of the generator's turns: made at s, over the frames of X; a: the generator's own object; fp: its iterator's objects -/
def genCx (X : Cx) (A : Around) (s : Shared) (H : Hp) (scope : Scope) (code : Value) (fp : List Addr) (pn : List (Addr × Obj)) : Cx where
  prog := X.prog
  w := X.w
  K := X.K
  mg := X.mg
  base := X.base
  A := A.deeper (gEnv X scope s.heap.objs.size code)
  N := X.N
  s_0 := s
  H_0 := H
  env := gEnv X scope s.heap.objs.size code
  outer := X.stack
  stack := gEnv X scope s.heap.objs.size code :: X.stack
  ex := fp
  fn := fun _ => false
  calm := true
  pn := pn
  xe := fun _ _ => False
section
variable {X : Cx} {pins : List (Addr × Obj)} {σ : L2.St} {H : Hp} {s : Shared}
theorem gen_start {A : Around} {scope : Scope} {own : List (Str × Nat)} {fp : List Addr} {code it : Value} {a : Addr} {oa : Obj} {h₁ : Heap} {G : Array GenState} {tk : Nat} (I : Inv X pins σ H s) (L : GenOk X.N X.env.scope scope own) (hN : X.N.Nodup)
    (hfr : A.frames = some X.stack) (hd : A.handled = none) (hfp : ∀ b ∈ fp, FpOk X pins H b ∧ b < s.heap.objs.size)
    (hns : h₁.Ns s.heap.objs.size fun y => if y = (".0" : Str) then some it else none) (kp : ∀ b o, s.heap.get? b = some o → h₁.get? b = some o) (hG : AllBare G)
    (ha : h₁.get? a = some oa) (hna : s.heap.objs.size < a) (hoa : ∀ v, oa.data ≠ .cell v) :
    Inv (genCx X A s H scope code fp [(a, oa)]) [] (wipe σ (own.map (·.2))) H { s with heap := h₁, gens := G, toks := tk } := by
  have hfree := L.has I.ok
  have cm : ∀ {y c}, (cloFrom X.env.cells scope.names []).lookup y = some c → X.env.cells.lookup y = some c := fun {y c} e => by
    rcases cloFrom_mem (PySem.mem_of_lookup e) with hm | ⟨h1, h2⟩
    · cases hm
    · obtain ⟨c1, hc⟩ := hfree _ h1 rfl
      have hc : X.env.cells.lookup y = some c1 := hc
      have e2 : c = c1 := by
        rw [h2, hc] <;> rfl
      rw [e2]
      exact hc
  have look : ∀ {y}, scope.names.lookup y = some .free → ∃ c, (cloFrom X.env.cells scope.names []).lookup y = some c := fun {y} hl => by
    have hy : (y, NameKind.free) ∈ scope.names := PySem.mem_of_lookup hl
    exact mem_lookup (cloFrom_has (cells := X.env.cells) (acc := []) hy)
  have cellK : ∀ {c : Addr} {v : Option Value}, s.heap.IsCell c v → h₁.IsCell c v := fun {c v} ⟨o, ho, hd⟩ => ⟨o, kp _ _ ho, hd⟩
  have e0 := I.env0
  have lt : ∀ b ∈ fp, b < s.heap.objs.size := fun b hb => (hfp b hb).2
  refine ⟨⟨e0.mod, L.kind, I.ok.glob, rfl, Nat.le_refl _, fun y z c e1 e2 => I.ok.inj y z c (cm e1) (cm e2), fun y hy => ?_, fun y c z _ => ?_, fun _ => hd, Around.frames_deeper hfr, .inr ⟨rfl, rfl⟩, fun b hb => ⟨Nat.ne_of_lt (lt b hb), fun y c e => (hfp b hb).1.2.2.2.2.1 y c (cm e)⟩, e0.bs, e0.bsz, fun b o e hb => ?_,
      fun b hb z => ?_, e0.funs, e0.frf⟩,
    rfl, hG, Un.kept kp, ⟨_, hns, fun i y v e1 e2 e3 => ?_⟩, fun y c e => ?_, e0.hok.fresh (Nat.le_refl _), fun y c e => ?_, fun q hq => ?_, e0.hok.kept kp, ?_⟩
  · have hy : scope.names.lookup y = some .cell ∨ scope.names.lookup y = some .free := hy
    rcases hy with hy | hy
    · exact absurd rfl (L.cell _ (PySem.mem_of_lookup hy))
    · exact look hy
  · have z : false = true := z
    cases z
  · have hb : b ∈ fp := hb
    rcases (hfp b hb).1.2.2.2.1 with z | z
    · exact I.ok.noex b o e z
    · exact absurd (Nat.lt_of_lt_of_le (Nat.lt_of_lt_of_le (Heap.lt_size e) I.ok.bsz) z) (Nat.lt_irrefl _)
  · have z : b ∈ frs X.stack := z
    rcases List.mem_cons.mp (I.stkSub b z) with z | z
    · exact (hfp b hb).1.2.1 z
    · exact (hfp b hb).1.2.2.1 z
  · have e3 : Vis scope y := e3
    have e1 : X.N[i]? = some y := e1
    obtain ⟨e2, hi⟩ := wipe_some e2
    rcases e3 with k | k | k
    · rcases L.own _ (PySem.mem_of_lookup k) rfl with z | z
      · obtain ⟨p, hp, e⟩ := List.mem_map.mp z
        have := L.ix p hp
        have e : p.1 = y := e
        rw [e] at this
        exact absurd (List.mem_map.mpr ⟨p, hp, nodup_ix hN this e1⟩) hi
      · exact absurd (List.mem_of_getElem? e1) z
    · exact absurd rfl (L.cell _ (PySem.mem_of_lookup k))
    · obtain ⟨m, hn, hl⟩ := I.loc
      have hvis : Vis X.env.scope y := (L.free _ (PySem.mem_of_lookup k) rfl).elim (fun k => .inr (.inl k)) (fun k => .inr (.inr k))
      obtain ⟨w', r, q⟩ := hl i y v e1 e2 hvis
      obtain ⟨c2, h2⟩ := look k
      refine ⟨w', r, .inr ⟨.inr k, c2, h2, ?_⟩⟩
      have c1 := cm h2
      rcases q with ⟨k', _⟩ | ⟨_, c3, e', z⟩
      · have k' : X.env.scope.names.lookup y = some .local := k'
        rcases L.free _ (PySem.mem_of_lookup k) rfl with k2 | k2 <;> rw [show X.env.scope.names.lookup y = _ from k2] at k' <;> cases k'
      · rw [c1] at e'
        cases e'
        exact cellK z
  · obtain ⟨w', z⟩ := I.cell y c (cm e)
    exact ⟨w', cellK z⟩
  · exact I.freeC y c (cm e)
  · have hq : q ∈ [(a, oa)] ++ [] := hq
    simp only [List.append_nil, List.mem_singleton] at hq
    subst hq
    refine ⟨ha, I.hok.fresh (Nat.le_of_lt hna), Nat.ne_of_gt hna, fun z => ?_, hoa⟩
    have z : a ∈ frs X.stack := z
    have := I.stack.mem z
    obtain ⟨_, o, e, _⟩ := this
    exact absurd (Nat.lt_trans (Heap.lt_size e) hna) (Nat.lt_irrefl _)
  · rw [wipe_length]; exact I.len
end
end Mir
end

section
set_option Elab.async false
set_option linter.all false
set_option maxRecDepth 100000
set_option maxHeartbeats 1000000
/-! MirX2: the turns of a generator expression. -/
namespace Mir
open PySem PySem.Spec PyProof.Rows L2

theorem over_comp {A : Around} {e : Expr} {gs : List Comprehension} {sc : Scope} {p : Pos} {it acc : Value} {env : Env} : A.over (.compLoop (.GeneratorExp e gs sc p) 0 it acc env) [] = A.deeper env := by
  first
    | rfl
    | (obtain ⟨hd, d, fr, gs, u⟩ := A; simp [Around.over, Around.deeper, marksOver, frameCount, unitsOf, envsOf, guardsOf, pushEnvs, pushGuards, Code.envs, Code.env?, Code.isFrame, Code.guards, Code.isGuard, Code.weight, Code.frames, Code.isCreation, Code.isCaller, Code.cUnits])
/-- the consumer's own objects stand apart from the generator's frame -/
def Apt (X : Cx) (cp : List (Addr × Obj)) : Prop := ∀ p ∈ cp, X.s_0.heap.objs.size ≤ p.1 ∧ p.1 ∉ X.ex ∧ ∀ q ∈ X.pn, q.1 ≠ p.1
/-- while the generator sleeps only the consumer's objects turn -/
structure Wake (cp cp' : List (Addr × Obj)) (s s' : Shared) : Prop where
  os : s'.os = s.os
  bare : AllBare s'.gens
  keep : ∀ b o, b ∉ cp.map (·.1) → s.heap.get? b = some o → s'.heap.get? b = some o
  same : cp'.map (·.1) = cp.map (·.1)
  at_ : ∀ p ∈ cp', s'.heap.get? p.1 = some p.2 ∧ ∀ v, p.2.data ≠ .cell v
theorem Inv.gens {X : Cx} {pins : List (Addr × Obj)} {σ : L2.St} {H : Hp} {s : Shared} {G : Array GenState} {tk : Nat} {d : Drawn} (I : Inv X pins σ H s) (hG : AllBare G) : Inv X pins σ H { s with gens := G, toks := tk, drawn := d } :=
  I.call (h' := s.heap) (g' := G) (d' := d) (t' := tk) (ch := []) .refl I.hok hG fun b z => absurd z (by simp)
theorem Inv.woken {X : Cx} {cp cp' : List (Addr × Obj)} {σ : L2.St} {H : Hp} {s s' : Shared} (hA : Apt X cp) (I : Inv X cp σ H s) (z : Wake cp cp' s s') : Inv X cp' σ H s' := by
  have hf : ∀ b ∈ cp.map (·.1), FpOk X [] H b := fun b hb => by
    obtain ⟨p, hp, rfl⟩ := List.mem_map.mp hb
    obtain ⟨h1, h2, h3, h4, h5⟩ := I.pin p (List.mem_append_right _ hp)
    refine ⟨h2, h3, h4, .inr (hA p hp).1, fun x c e q => ?_, fun q hq => ?_⟩
    · obtain ⟨v, o, ho, hd⟩ := I.cell x c e
      rw [q, h1] at ho
      cases ho
      exact h5 _ hd
    · rw [List.append_nil] at hq
      exact (hA p hp).2.2 q hq
  have I0 : Inv X [] σ H s := I.pins_of fun p hp => absurd hp (by simp)
  obtain ⟨hh, g, d, t, o⟩ := s'
  have ho : o = s.os := z.os
  subst ho
  have I1 := I0.turnedL (t' := s.toks) (ch := cp.map (·.1)) z.keep hf
  have I2 : Inv X [] σ H { s with heap := hh, gens := g, toks := t, drawn := d } := Inv.gens (G := g) (tk := t) (d := d) I1 z.bare
  refine I2.pins_of fun p hp => ?_
  have hp' : p.1 ∈ cp.map (·.1) := by rw [← z.same]; exact List.mem_map.mpr ⟨p, hp, rfl⟩
  obtain ⟨f1, f2, f3, _⟩ := hf p.1 hp'
  exact ⟨(z.at_ p hp).1, f1, f2, f3, (z.at_ p hp).2⟩
/-- an item is handed out: YD of the item, the heap, what the next turn asks -/
def YG (X : Cx) (YD : V → Hp → (Hp → Prop) → Prop) : Protocol := fun n s₀ v s kap =>
  ∃ cp σ H y Nx, Apt X cp ∧ Inv X cp σ H s ∧ RelV y v ∧ YD y H Nx ∧ (Nx H → ∀ s' cp', Wake cp cp' s s' → kap (.send .none) s')
def RG (X : Cx) (QE : Hp → Prop) : GenEnd := fun n s₀ r s => r = .ok .next ∧ ∃ cp σ H, Apt X cp ∧ Inv X cp σ H s ∧ QE H
/-- what a turn asks -/
def GTurn (J : It) (g : TG) (tt : TT) (te : TE) (σ : L2.St) (vs : List Nat) (YD : V → Hp → (Hp → Prop) → Prop) (QE : Hp → Prop) (W : Nat → Nat → Hp → Prop) : Prop := ∀ i m H, W i m H →
  (J.stop i H ∧ QE H) ∨ (J.go i H ∧ ∃ Nx : Hp → Prop, (∀ H', Nx H' → ∃ m', m' < m ∧ W (i + 1) m' H') ∧ ∀ x H', J.yld i H x H' → g x (wipe σ vs) H' fun σ2 H2 => wipe σ2 vs = wipe σ vs ∧ tt σ2 H2 fun b H3 =>
    if b = true then te σ2 H3 fun y H4 => YD y H4 Nx else Nx H3)
section
variable {X : Cx} {A : Around} {elt tg iter : Expr} {ifs : List Expr} {scope : Scope} {pos : Pos} {it : Addr} {fp : List Addr} {tn : Nat → Heap → Prop} {J : It} {g : TG} {tt : TT} {te : TE} {σ : L2.St} {vs : List Nat} {YD : V → Hp → (Hp → Prop) → Prop} {QE : Hp → Prop} {W : Nat → Nat → Hp → Prop}
theorem gen_loop (hA : X.A = A.deeper X.env) (hex : X.ex = fp) (hc : X.calm = true) (hxe : X.xe = fun _ _ => False) (T : Turn X.prog X.w X.K tg J fp it tn) (hco : X.env.scope.isCoroutine = false)
    (hpn : ∀ q ∈ X.pn, q.1 ∉ fp)
    (pg : PG X tg g) (pt : PTs X ifs tt) (pe : PE X elt te) (turn : GTurn J g tt te σ vs YD QE W) : ∀ (n m i : Nat) (s₀ s : Shared) (H : Hp) (cp : List (Addr × Obj)), m ≤ n → W i m H → Apt X cp → Inv X cp (wipe σ vs) H s → tn i s.heap → (∀ b ∈ fp, H b = none) →
      Seg (model X.prog X.w) A (RG X QE) (YG X YD) (n + 1) s₀ (.compLoop (.GeneratorExp elt [⟨tg, iter, ifs, 0⟩] scope pos) 0 (.ref it) .none X.env)
        ((model X.prog X.w).den (.compLoop (.GeneratorExp elt [⟨tg, iter, ifs, 0⟩] scope pos) 0 (.ref it) .none X.env)) [] s := by
  have stat : ∀ {cp : List (Addr × Obj)} {σ' : L2.St} {H' : Hp} {s' : Shared}, Apt X cp → Inv X cp σ' H' s' → (∀ b ∈ fp, H' b = none) → ∀ b ∈ fp, FpOk X cp H' b := fun {cp σ' H' s'} ha I' hn b hb => by
    have hb' : b ∈ X.ex := by rw [hex]; exact hb
    refine ⟨hn b hb, (I'.ok.exf b hb').1, I'.ok.exfs b hb', .inl hb', fun x c e => (I'.ok.exf b hb').2 x c e, fun p hp => ?_⟩
    rcases List.mem_append.mp hp with z | z
    · exact fun e => hpn p z (e ▸ hb)
    · exact fun e => (ha p z).2.1 (e ▸ hb')
  have key : ∀ (k n m i : Nat) (s₀ s : Shared) (H : Hp) (cp : List (Addr × Obj)), m = k → m ≤ n → W i m H → Apt X cp → Inv X cp (wipe σ vs) H s → tn i s.heap → (∀ b ∈ fp, H b = none) →
      Seg (model X.prog X.w) A (RG X QE) (YG X YD) (n + 1) s₀ (.compLoop (.GeneratorExp elt [⟨tg, iter, ifs, 0⟩] scope pos) 0 (.ref it) .none X.env)
        ((model X.prog X.w).den (.compLoop (.GeneratorExp elt [⟨tg, iter, ifs, 0⟩] scope pos) 0 (.ref it) .none X.env)) [] s := by
    intro k
    induction k using Nat.strongRecOn with
    | ind k ih =>
    intro n m i s₀ s H cp hk hm w ha I st hn
    subst hk
    show Seg _ A _ _ _ s₀ _ ((compTurn (.GeneratorExp elt [⟨tg, iter, ifs, 0⟩] scope pos) 0 (.ref it) .none X.env).onRaise (leaving X.env)) [] s
    rw [compTurn_gen, Sem.onRaise_eq_wrap]
    refine seg_bind_wrap (wpAny_standAt ?_)
    rcases turn i m H w with ⟨stop, qe⟩ | ⟨go, Nx, hNx, step⟩
    · refine seg_bind_wrap ?_
      rw [over_comp, ← hA]
      refine thnF (T.done X rfl rfl rfl hc i cp s _ H (fun _ _ => False) I (stat ha I hn) st stop) fun r s6 ⟨hr, I6⟩ => ?_
      subst hr
      exact seg_end (.ok .next) ⟨rfl, cp, _, H, ha, I6, qe⟩
    · refine seg_bind_wrap ?_
      rw [over_comp, ← hA]
      refine thnF (T.item X rfl rfl rfl hc i cp s _ H (fun _ _ => False) I (stat ha I hn) st go) fun r s6 ⟨u, hr, h6⟩ => ?_
      subst hr
      refine seg_bind_wrap ?_
      rw [over_comp, ← hA]
      refine thnF h6 fun _ s7 ⟨x, H7, I7, r7, y7, st7, n7⟩ => ?_
      have I7' := I7.pinned (stat ha I7 n7) (T.obj _ _ st7)
      refine seg_bind_wrap ?_
      rw [over_comp, ← hA]
      refine wpAny_mono (pg.run _ s7 _ H7 x u _ I7' r7 (step x H7 y7)) (fun _ s8 ⟨σ8, H8, I8, hw8, q8⟩ => ?_) fun _ _ z => False.elim (by rw [hxe] at z; exact z)
      refine seg_bind_wrap ?_
      rw [over_comp, ← hA]
      refine wpAny_mono (pt.run _ s8 σ8 H8 _ I8 q8) (fun b s9 ⟨H9, I9, q9⟩ => ?_) fun _ _ z => False.elim (by rw [hxe] at z; exact z)
      have weakI : ∀ {s' : Shared} {H' : Hp}, Inv X (cp ++ pinsAt fp s7.heap) σ8 H' s' → Inv X cp (wipe σ vs) H' s' ∧ tn (i + 1) s'.heap ∧ ∀ b ∈ fp, H' b = none := fun {s' H'} I' => by
        have pin' : ∀ b ∈ fp, ∀ o, s7.heap.get? b = some o → s'.heap.get? b = some o ∧ H' b = none := fun b hb o e =>
          let z := I'.pin (b, o) (List.mem_append_right _ (List.mem_append_right _ (mem_pinsAt hb e)))
          ⟨z.1, z.2.1⟩
        have hl : (wipe σ vs).length = σ8.length := by rw [← hw8, wipe_length]
        refine ⟨(I'.unpinned (pins := cp)).weak hl (fun j v e => ?_), T.keep _ _ _ st7 fun b hb o e => (pin' b hb o e).1, fun b hb => ?_⟩
        · rw [← hw8] at e
          exact (wipe_some e).1
        · obtain ⟨o, e, _⟩ := T.obj _ _ st7 b hb
          exact (pin' b hb o e).2
      cases b with
      | false =>
        simp only [Bool.false_eq_true, if_false] at q9 ⊢
        obtain ⟨J1, J2, J3⟩ := weakI I9
        obtain ⟨m', hm', w'⟩ := hNx _ q9
        exact seg_again rfl (ih m' hm' n m' (i + 1) s₀ s9 H9 cp rfl (by omega) w' ha J1 J2 J3)
      | true =>
        simp only [if_true] at q9 ⊢
        have hy : ∀ v, yieldOut X.env v = yieldValue v := fun v => by simp only [yieldOut, hco, Bool.false_eq_true, if_false]
        simp only [hy]
        rw [Sem.bind_eq_wrap', Sem.bind_eq_wrap', Sem.wrap_wrap, Sem.wrap_wrap]
        refine seg_wrap ?_
        rw [over_comp, ← hA]
        refine wpAny_mono (pe.run _ s9 σ8 H9 _ I9 q9) (fun z s10 ⟨yv, H10, I10, r10, yd⟩ => ?_) fun _ _ z => False.elim (by rw [hxe] at z; exact z)
        obtain ⟨J1, J2, J3⟩ := weakI I10
        refine seg_at (seg_yield rfl rfl rfl ⟨cp, _, H10, yv, Nx, ha, J1, r10, yd, fun nx s' cp' z' => ?_⟩)
        obtain ⟨m', hm', w'⟩ := hNx _ nx
        obtain ⟨n, rfl⟩ : ∃ n', n = n' + 1 := ⟨n - 1, by omega⟩
        have apt' : Apt X cp' := fun p hp => by
          have hp' : p.1 ∈ cp.map (·.1) := by rw [← z'.same]; exact List.mem_map.mpr ⟨p, hp, rfl⟩
          obtain ⟨q, hq, e⟩ := List.mem_map.mp hp'
          have e : q.1 = p.1 := e
          rw [← e]
          exact ha q hq
        have kp : ∀ b ∈ fp, ∀ o, s10.heap.get? b = some o → s'.heap.get? b = some o := fun b hb o e => z'.keep b o (fun hm => by
          obtain ⟨q, hq, e⟩ := List.mem_map.mp hm
          have e : q.1 = b := e
          exact (ha q hq).2.1 (by rw [e, hex]; exact hb)) e
        exact seg_again rfl (ih m' hm' n m' (i + 1) s' s' H10 cp' rfl (by omega) w' apt' (Inv.woken ha J1 z') (T.keep _ _ _ J2 kp) J3)
  exact fun n m i s₀ s H cp hm => key m n m i s₀ s H cp rfl hm
theorem over_start {A : Around} {e : Expr} {gs : List Comprehension} {sc : Scope} {p : Pos} {it acc : Value} {env : Env} : A.over (.compStart (.GeneratorExp e gs sc p) 0 it acc env) [] = A.deeper env := by
  first
    | rfl
    | (obtain ⟨hd, d, fr, gs, u⟩ := A; simp [Around.over, Around.deeper, marksOver, frameCount, unitsOf, envsOf, guardsOf, pushEnvs, pushGuards, Code.envs, Code.env?, Code.isFrame, Code.guards, Code.isGuard, Code.weight, Code.frames, Code.isCreation, Code.isCaller, Code.cUnits])
theorem gen_begin (hA : X.A = A.deeper X.env) (hex : X.ex = fp) (hc : X.calm = true) (hxe : X.xe = fun _ _ => False) (T : Turn X.prog X.w X.K tg J fp it tn) (hco : X.env.scope.isCoroutine = false)
    (hpn : ∀ q ∈ X.pn, q.1 ∉ fp)
    (pg : PG X tg g) (pt : PTs X ifs tt) (pe : PE X elt te) (turn : GTurn J g tt te σ vs YD QE W) {n m : Nat} {s₀ s : Shared} {H : Hp} {cp : List (Addr × Obj)} (hm : m ≤ n) (w : W 0 m H) (ha : Apt X cp) (I : Inv X cp (wipe σ vs) H s) (st : tn 0 s.heap) (hn : ∀ b ∈ fp, H b = none) :
      Seg (model X.prog X.w) A (RG X QE) (YG X YD) (n + 1) s₀ (.compStart (.GeneratorExp elt [⟨tg, iter, ifs, 0⟩] scope pos) 0 (.ref it) .none X.env)
        ((model X.prog X.w).den (.compStart (.GeneratorExp elt [⟨tg, iter, ifs, 0⟩] scope pos) 0 (.ref it) .none X.env)) [] s := by
  have loop := gen_loop (iter := iter) (scope := scope) (pos := pos) hA hex hc hxe T hco hpn pg pt pe turn n m 0 s₀ s H cp hm w ha I st hn
  show Seg _ A _ _ _ s₀ _ ((compStart (.GeneratorExp elt [⟨tg, iter, ifs, 0⟩] scope pos) 0 (.ref it) .none X.env).onRaise (leaving X.env)) [] s
  unfold compStart
  rw [Sem.onRaise_eq_wrap]
  show Seg _ A _ _ _ s₀ _ ((ask >>= _).wrap _ _ _ _) [] s
  refine seg_bind_wrap (wpAny_askSetting ?_)
  split
  · exact seg_again rfl loop
  · first
      | exact seg_bind_wrap (wpAny_rule (seg_bind_wrap (wpAny_standAt (seg_bind_wrap (T.self _ 0 s _ _ st (seg_again rfl loop))))))
end
end Mir
end

section
set_option Elab.async false
set_option linter.all false
set_option maxRecDepth 100000
set_option maxHeartbeats 1000000
/-! MirX3: any, all of a generator expression. -/
namespace Mir
open PySem PySem.Spec PyProof.Rows L2 GenW

/-- any / all stop at st -/
def YB (st : Bool) (QT : Hp → Prop) : V → Hp → (Hp → Prop) → Prop := fun y H Nx => ∃ b, y = .bl b ∧ if b = st then QT H else Nx H
section
variable {Xg : Cx} {A : Around} {R : Result → Shared → Prop} {a : Addr} {gn : Nat} {QE QT : Hp → Prop}
theorem wake0 {cp : List (Addr × Obj)} {σ : L2.St} {H : Hp} {s s' : Shared} (I : Inv Xg cp σ H s) (os : s'.os = s.os) (hb : AllBare s'.gens) (h : s'.heap = s.heap) : Wake cp cp s s' := ⟨os, hb, fun b o _ e => by rw [h]; exact e, rfl, fun p hp => by rw [h]; exact ⟨(I.pin p (List.mem_append_right _ hp)).1, (I.pin p (List.mem_append_right _ hp)).2.2.2.2⟩⟩
theorem any_loop (hh : A.handled = none) (hd : A.depth < recursionLimit) (hg : ∀ σ H s, Inv Xg [] σ H s → s.heap.IsGen a gn)
    (hT : ∀ σ H s, Inv Xg [] σ H s → QT H → R (.ok (.ret (.bool true))) s) (hE : ∀ σ H s, Inv Xg [] σ H s → QE H → R (.ok (.ret (.bool false))) s) :
    ∀ (n : Nat) (s : Shared), s.heap.IsGen a gn → s.heap.NoLimit →
      (∃ gs, s.gens[gn]? = some gs ∧ gs.Goes (model Xg.prog Xg.w) A.in1.in1 (RG Xg QE) (YG Xg (YB true QT)) n (.send .none) (s.setGen gn .running)) →
      codeAny (model Xg.prog Xg.w) A (.builtin "any.loop" ⟨[.ref a], []⟩) R s := by
  have goes : ∀ {gs : GenState} {B : Around} {n : Nat} {r : Resume} {s : Shared}, gs.Goes (model Xg.prog Xg.w) B (RG Xg QE) (YG Xg (YB true QT)) n r s →
      gs.Goes (model Xg.prog Xg.w) B (fun n s₀ r s1 => r = .ok .next ∧ ∃ cp σ H, Apt Xg cp ∧ Inv Xg cp σ H s1 ∧ QE H) (YG Xg (YB true QT)) n r s := fun h => h
  intro n
  induction n with
  | zero =>
    intro s hgs0 hl ⟨gs, hgs, hgo⟩
    refine codeAny_builtin F.entry_any_loop ?_
    rw [Around.under_plainId F.plain_any_loop _]
    show wpAny _ A.in1 (pyNext (.ref a) >>= _) _ _ s
    refine wpAny_bind (wpAny_pyNext_genexpQ (A := A.in1) (P := fun n s₀ s1 => ∃ cp σ H, Apt Xg cp ∧ Inv Xg cp σ H s1 ∧ QE H) hh hl hd hgs0 hgs (goes hgo) (fun v s₁ gs' hbare hv => ?_) (fun s₁ hp h' hk => ?_))
    · obtain ⟨cp, σ, H, y, Nx, ha, I, r, ⟨b, rfl, hb⟩, hk⟩ := hv
      obtain rfl : v = .bool b := r
      have I0 : Inv Xg [] σ H s₁ := I.pins_of fun p hp => absurd hp (by simp)
      have I1 : Inv Xg [] σ H (s₁.setGen gn gs') := Inv.gens (tk := s₁.toks) (d := s₁.drawn) I0 (allBare_setGen I0.bare hbare)
      show wpAny _ A.in1 (holding [Value.bool b] (truthy (.bool b)) >>= _) _ _ _
      refine wpAny_bind (wpAny_holding (wpAny_truthy_bool ?_))
      refine wpAny_bind (wpAny_letGo ?_)
      cases b with
      | true =>
        simp only [if_true] at hb ⊢
        exact wpAny_bind (wpAny_rule (wpAny_pure (hT _ _ _ I1 hb)))
      | false =>
        rw [if_neg (by decide)] at hb
        exact False.elim (hk hb s₁ cp (wake0 I rfl I0.bare rfl))
    · obtain ⟨cp, σ, H, ha, I, qe⟩ := hp
      have I0 : Inv Xg [] σ H s₁ := I.pins_of fun p hp => absurd hp (by simp)
      refine wpAny_bind (wpAny_rule (wpAny_pure (hE σ H _ ?_ qe)))
      exact Inv.gens (s := { s₁ with heap := h' }) (tk := s₁.toks) (d := s₁.drawn) (I0.kept (t' := s₁.toks) hk) (allBare_setGen I0.bare rfl)
  | succ m ih =>
    intro s hgs0 hl ⟨gs, hgs, hgo⟩
    have hgl : gn < s.gens.size := (Array.getElem?_eq_some_iff.mp hgs).1
    refine codeAny_builtin F.entry_any_loop ?_
    rw [Around.under_plainId F.plain_any_loop _]
    show wpAny _ A.in1 (pyNext (.ref a) >>= _) _ _ s
    refine wpAny_bind (wpAny_gsz (n := gn + 1) hgl (wpAny_pyNext_genexpQ (A := A.in1) (P := fun n s₀ s1 => ∃ cp σ H, Apt Xg cp ∧ Inv Xg cp σ H s1 ∧ QE H) hh hl hd hgs0 hgs (goes hgo) (fun v s₁ gs' hbare hv => ?_) (fun s₁ hp h' hk => ?_)))
    · intro hsz
      obtain ⟨cp, σ, H, y, Nx, ha, I, r, ⟨b, rfl, hb⟩, hk⟩ := hv
      obtain rfl : v = .bool b := r
      have I0 : Inv Xg [] σ H s₁ := I.pins_of fun p hp => absurd hp (by simp)
      have I1 : Inv Xg [] σ H (s₁.setGen gn gs') := Inv.gens (tk := s₁.toks) (d := s₁.drawn) I0 (allBare_setGen I0.bare hbare)
      show wpAny _ A.in1 (holding [Value.bool b] (truthy (.bool b)) >>= _) _ _ _
      refine wpAny_bind (wpAny_holding (wpAny_truthy_bool ?_))
      refine wpAny_bind (wpAny_letGo ?_)
      cases b with
      | true =>
        simp only [if_true] at hb ⊢
        exact wpAny_bind (wpAny_rule (wpAny_pure (hT _ _ _ I1 hb)))
      | false =>
        rw [if_neg (by decide)] at hb
        have hsz1 : gn < s₁.gens.size := by
          have q : (s₁.setGen gn gs').gens.size = s₁.gens.size := setGen_size _ _ _
          have hsz' : gn + 1 ≤ (s₁.setGen gn gs').gens.size := hsz
          omega
        simp only [Bool.false_eq_true, if_false]
        refine wpAny_pure ⟨plainId_quiet F.plain_any_loop _, ih _ (hg _ _ _ I1) I1.nolimit ⟨gs', setGen_at hsz1, ?_⟩⟩
        exact hk hb ((s₁.setGen gn gs').setGen gn .running) cp (wake0 I rfl (allBare_setGen (s := s₁.setGen gn gs') (allBare_setGen I0.bare hbare) (x := .running) rfl) rfl)
    · intro hsz
      obtain ⟨cp, σ, H, ha, I, qe⟩ := hp
      have I0 : Inv Xg [] σ H s₁ := I.pins_of fun p hp => absurd hp (by simp)
      refine wpAny_bind (wpAny_rule (wpAny_pure (hE σ H _ ?_ qe)))
      exact Inv.gens (s := { s₁ with heap := h' }) (tk := s₁.toks) (d := s₁.drawn) (I0.kept (t' := s₁.toks) hk) (allBare_setGen I0.bare rfl)
theorem all_loop (hh : A.handled = none) (hd : A.depth < recursionLimit) (hg : ∀ σ H s, Inv Xg [] σ H s → s.heap.IsGen a gn)
    (hT : ∀ σ H s, Inv Xg [] σ H s → QT H → R (.ok (.ret (.bool false))) s) (hE : ∀ σ H s, Inv Xg [] σ H s → QE H → R (.ok (.ret (.bool true))) s) :
    ∀ (n : Nat) (s : Shared), s.heap.IsGen a gn → s.heap.NoLimit →
      (∃ gs, s.gens[gn]? = some gs ∧ gs.Goes (model Xg.prog Xg.w) A.in1.in1 (RG Xg QE) (YG Xg (YB false QT)) n (.send .none) (s.setGen gn .running)) →
      codeAny (model Xg.prog Xg.w) A (.builtin "all.loop" ⟨[.ref a], []⟩) R s := by
  have goes : ∀ {gs : GenState} {B : Around} {n : Nat} {r : Resume} {s : Shared}, gs.Goes (model Xg.prog Xg.w) B (RG Xg QE) (YG Xg (YB false QT)) n r s →
      gs.Goes (model Xg.prog Xg.w) B (fun n s₀ r s1 => r = .ok .next ∧ ∃ cp σ H, Apt Xg cp ∧ Inv Xg cp σ H s1 ∧ QE H) (YG Xg (YB false QT)) n r s := fun h => h
  intro n
  induction n with
  | zero =>
    intro s hgs0 hl ⟨gs, hgs, hgo⟩
    refine codeAny_builtin F.entry_all_loop ?_
    rw [Around.under_plainId F.plain_all_loop _]
    show wpAny _ A.in1 (pyNext (.ref a) >>= _) _ _ s
    refine wpAny_bind (wpAny_pyNext_genexpQ (A := A.in1) (P := fun n s₀ s1 => ∃ cp σ H, Apt Xg cp ∧ Inv Xg cp σ H s1 ∧ QE H) hh hl hd hgs0 hgs (goes hgo) (fun v s₁ gs' hbare hv => ?_) (fun s₁ hp h' hk => ?_))
    · obtain ⟨cp, σ, H, y, Nx, ha, I, r, ⟨b, rfl, hb⟩, hk⟩ := hv
      obtain rfl : v = .bool b := r
      have I0 : Inv Xg [] σ H s₁ := I.pins_of fun p hp => absurd hp (by simp)
      have I1 : Inv Xg [] σ H (s₁.setGen gn gs') := Inv.gens (tk := s₁.toks) (d := s₁.drawn) I0 (allBare_setGen I0.bare hbare)
      show wpAny _ A.in1 (holding [Value.bool b] (truthy (.bool b)) >>= _) _ _ _
      refine wpAny_bind (wpAny_holding (wpAny_truthy_bool ?_))
      refine wpAny_bind (wpAny_letGo ?_)
      cases b with
      | false =>
        simp only [if_true, Bool.false_eq_true, if_false] at hb ⊢
        exact wpAny_bind (wpAny_rule (wpAny_pure (hT _ _ _ I1 hb)))
      | true =>
        rw [if_neg (by decide)] at hb
        exact False.elim (hk hb s₁ cp (wake0 I rfl I0.bare rfl))
    · obtain ⟨cp, σ, H, ha, I, qe⟩ := hp
      have I0 : Inv Xg [] σ H s₁ := I.pins_of fun p hp => absurd hp (by simp)
      refine wpAny_bind (wpAny_rule (wpAny_pure (hE σ H _ ?_ qe)))
      exact Inv.gens (s := { s₁ with heap := h' }) (tk := s₁.toks) (d := s₁.drawn) (I0.kept (t' := s₁.toks) hk) (allBare_setGen I0.bare rfl)
  | succ m ih =>
    intro s hgs0 hl ⟨gs, hgs, hgo⟩
    have hgl : gn < s.gens.size := (Array.getElem?_eq_some_iff.mp hgs).1
    refine codeAny_builtin F.entry_all_loop ?_
    rw [Around.under_plainId F.plain_all_loop _]
    show wpAny _ A.in1 (pyNext (.ref a) >>= _) _ _ s
    refine wpAny_bind (wpAny_gsz (n := gn + 1) hgl (wpAny_pyNext_genexpQ (A := A.in1) (P := fun n s₀ s1 => ∃ cp σ H, Apt Xg cp ∧ Inv Xg cp σ H s1 ∧ QE H) hh hl hd hgs0 hgs (goes hgo) (fun v s₁ gs' hbare hv => ?_) (fun s₁ hp h' hk => ?_)))
    · intro hsz
      obtain ⟨cp, σ, H, y, Nx, ha, I, r, ⟨b, rfl, hb⟩, hk⟩ := hv
      obtain rfl : v = .bool b := r
      have I0 : Inv Xg [] σ H s₁ := I.pins_of fun p hp => absurd hp (by simp)
      have I1 : Inv Xg [] σ H (s₁.setGen gn gs') := Inv.gens (tk := s₁.toks) (d := s₁.drawn) I0 (allBare_setGen I0.bare hbare)
      show wpAny _ A.in1 (holding [Value.bool b] (truthy (.bool b)) >>= _) _ _ _
      refine wpAny_bind (wpAny_holding (wpAny_truthy_bool ?_))
      refine wpAny_bind (wpAny_letGo ?_)
      cases b with
      | false =>
        simp only [if_true, Bool.false_eq_true, if_false] at hb ⊢
        exact wpAny_bind (wpAny_rule (wpAny_pure (hT _ _ _ I1 hb)))
      | true =>
        rw [if_neg (by decide)] at hb
        have hsz1 : gn < s₁.gens.size := by
          have q : (s₁.setGen gn gs').gens.size = s₁.gens.size := setGen_size _ _ _
          have hsz' : gn + 1 ≤ (s₁.setGen gn gs').gens.size := hsz
          omega
        simp only [if_true]
        refine wpAny_pure ⟨plainId_quiet F.plain_all_loop _, ih _ (hg _ _ _ I1) I1.nolimit ⟨gs', setGen_at hsz1, ?_⟩⟩
        exact hk hb ((s₁.setGen gn gs').setGen gn .running) cp (wake0 I rfl (allBare_setGen (s := s₁.setGen gn gs') (allBare_setGen I0.bare hbare) (x := .running) rfl) rfl)
    · intro hsz
      obtain ⟨cp, σ, H, ha, I, qe⟩ := hp
      have I0 : Inv Xg [] σ H s₁ := I.pins_of fun p hp => absurd hp (by simp)
      refine wpAny_bind (wpAny_rule (wpAny_pure (hE σ H _ ?_ qe)))
      exact Inv.gens (s := { s₁ with heap := h' }) (tk := s₁.toks) (d := s₁.drawn) (I0.kept (t' := s₁.toks) hk) (allBare_setGen I0.bare rfl)
end
end Mir
end

section
set_option Elab.async false
set_option linter.all false
set_option maxRecDepth 100000
set_option maxHeartbeats 1000000
/-! MirX4: a generator expression's code object; the expression any(..), all(..). -/
namespace Mir
open PySem PySem.Spec PyProof.Rows L2 GenW

section
variable {X : Cx} {pins : List (Addr × Obj)} {σ : L2.St} {H : Hp} {s : Shared}
theorem gen_code {T : List (Addr × Str)} {c P : Addr} {q : Str} {scope : Scope} {pos : Pos} {E : Value → Shared → Prop} {Q : Value → Shared → Prop} (I : Inv X pins σ H s) (TB : LamX.TabB X.base X.mg c P) (hcode : X.env.code = .ref c)
    (hm : (P, q) ∈ T) (hu : ∀ p ∈ T, p.1 = P → p.2 = q) (hT : LamX.Tabs T H)
    (h : ∀ (code : Value) (H1 : Hp) (s' : Shared), Inv X pins σ H1 s' → LamX.ExtN H H1 → LamX.Tabs T H1 → (∀ b, s.heap.objs.size > b → b ≠ P → H1 b = H b) → (∀ b o, b ≠ P → s.heap.get? b = some o → s'.heap.get? b = some o) → s.heap.objs.size ≤ s'.heap.objs.size → Q code s') :
    wpAny (model X.prog X.w) X.A (genexprCode X.env pos q scope) Q E s := by
  obtain ⟨ps, hP, ht, ha⟩ := hT _ hm
  have hP' : s.heap.get? P = some { cls := .none, data := .fields ps } := I.hok P _ hP
  obtain ⟨o, vs, file, tf, flags, tg, inF, text, tt, ho, hcl, hd, h11', h11, h2, h7, h9, h10, hne⟩ := TB.code.keeps I.bk
  unfold genexprCode codeAt
  rw [hcode, if_neg (show ¬ ((Value.ref c == Value.none) = true) from Bool.false_ne_true)]
  refine wpAny_bind (wpAny_fieldsOf ho hd ?_)
  rw [h11]
  refine wpAny_bind (wpAny_fieldsOf hP' rfl ?_)
  cases hnf : codeAmong pos ps.toList with
  | some cv => exact wpAny_pure (h cv H s I (.refl H) hT (fun _ _ _ => rfl) (fun _ _ _ e => e) (Nat.le_refl _))
  | none =>
    rw [h2, h7, h9, h10]
    refine wpAny_bind (wpAny_newCode fun c' P2 h' tk hk hc' hP2 hcode' hrec' => ?_)
    have hop' := hk _ _ hP'
    refine wpAny_bind (wpAny_updateFieldsOfTheText hop' rfl ?_)
    have hnew : (Obj.mapFields (fun vs => if (codeAmong pos vs.toList).isSome = true then vs else vs ++ #[rawInt pos.line, rawInt pos.col, .ref c']) ({ cls := .none, data := .fields ps } : Obj)) =
        { cls := .none, data := .fields (ps ++ #[rawInt pos.line, rawInt pos.col, .ref c']) } := by
      simp only [Obj.mapFields, hnf]; rfl
    have hget := Heap.get?_update_self (h := h') (fun o => Obj.mapFields (fun vs => if (codeAmong pos vs.toList).isSome = true then vs else
      vs ++ #[rawInt pos.line, rawInt pos.col, .ref c']) o) hop' (Obj.isFreed_of_fields (by rw [hnew]))
    rw [hnew] at hget
    refine wpAny_bind (wpAny_fieldsOf hget rfl ?_)
    have eL : (ps ++ #[rawInt pos.line, rawInt pos.col, Value.ref c']).toList = ps.toList ++ [rawInt pos.line, rawInt pos.col, .ref c'] := by simp
    rw [eL, codeAmong_snoc _ ht hnf]
    obtain ⟨c2, oc, vs2, t, e2, hoc, hd2, hv2⟩ := hrec'
    cases e2
    have nC : H c' = none := I.hok.fresh hc'
    have nPc : P ≠ c' := ne_of_none hP nC
    have I1 := LamX.inv_table (t' := tk) (q := q) (more := #[rawInt pos.line, rawInt pos.col, .ref c']) (c := c') (h' := h'.update P fun o => Obj.mapFields (fun vs => if (codeAmong pos vs.toList).isSome = true then vs else vs ++ #[rawInt pos.line, rawInt pos.col, .ref c']) o) I hP
      (fun b o hb e => (Heap.get?_update_other _ _ (Ne.symm hb)).trans (hk _ _ e)) hget hc' ⟨oc, vs2, t, (Heap.get?_update_other _ _ nPc).trans hoc, hd2, hv2⟩
    have hE : LamX.ExtN H (upd (upd H P (.tbl (ps ++ #[rawInt pos.line, rawInt pos.col, .ref c']))) c' (LamX.CodeO c' q)) := fun b o e n => by
      rw [upd_ne (ne_of_none e nC), upd_ne (fun z => n ps (Option.some.inj (e.symm.trans (by rw [z]; exact hP))))]
      exact e
    refine wpAny_pure (h _ _ _ I1 hE (fun p hp => ?_) (fun b hb hbP => ?_) (fun b o hb e => (Heap.get?_update_other _ _ (Ne.symm hb)).trans (hk _ _ e)) ?_)
    · by_cases hb : p.1 = P
      · rw [hu p hp hb, hb]
        refine ⟨_, by rw [upd_ne (ne_of_none hP nC), upd_same], by rw [eL]; exact PySem.TriplesOk_snoc _ _ _ _ ht, fun p' cv hcv => ?_⟩
        rw [eL] at hcv
        rcases LamX.among_app _ ht hcv with z | z
        · obtain ⟨c0, e1, e2⟩ := ha p' cv z
          exact ⟨c0, e1, hE _ _ e2 LamX.codeO_ne⟩
        · exact ⟨c', z, upd_same⟩
      · obtain ⟨ps', a1, a2, a3⟩ := hT p hp
        refine ⟨ps', by rw [upd_ne (ne_of_none a1 nC), upd_ne hb]; exact a1, a2, fun p' cv hcv => ?_⟩
        obtain ⟨c0, e1, e2⟩ := a3 p' cv hcv
        exact ⟨c0, e1, hE _ _ e2 LamX.codeO_ne⟩
    · rw [upd_ne (Nat.ne_of_lt (Nat.lt_of_lt_of_le hb hc')), upd_ne hbP]
    · show s.heap.objs.size ≤ (h'.update P _).objs.size
      exact Nat.le_trans hc' (Nat.le_of_lt (Heap.lt_size ((Heap.get?_update_other _ _ nPc).trans hoc)))
end
end Mir
end

section
set_option Elab.async false
set_option linter.all false
set_option maxRecDepth 100000
set_option maxHeartbeats 1000000
/-! MirX5: a generator expression's code object; the expression any(..), all(..). -/
namespace Mir
open PySem PySem.Spec PyProof.Rows L2 GenW

section
variable {X : Cx} {pins : List (Addr × Obj)} {σ : L2.St} {H : Hp} {s : Shared}
/-- any(elt for tg in iter if ..): from where the walk begins -/
def tGx (T : List (Addr × Str)) (wi : TI) (g : TG) (tt : TT) (te : TE) (vs : List Nat) (st : Bool) : TE := fun σ H Q => wi σ H fun J H1 => LamX.Tabs T H1 ∧ ∀ H2, LamX.ExtN H1 H2 → LamX.Tabs T H2 →
  ∃ W : Nat → Nat → Hp → Prop, (∃ m, W 0 m H2) ∧ GTurn J g tt te σ vs (YB st fun H' => Q (.bl st) H') (fun H' => Q (.bl (!st)) H') W
theorem pe_anyG {T : List (Addr × Str)} {c P : Addr} {elt tg iter : Expr} {ifs : List Expr} {p pos gpos : Pos} {scope : Scope} {own : List (Str × Nat)} {wi : TI} {g : TG} {tt : TT} {te : TE} {k : Nat}
    (hr : Room (k + 3) X.A) (hc : X.calm = true) (hN : X.N.Nodup) (hg : Gl X "any") (hm : X.mg "any" = none) (TB : LamX.TabB X.base X.mg c P) (hcode : X.env.code = .ref c) (hmT : (P, X.env.qual ++ "<genexpr>") ∈ T) (hu : ∀ p ∈ T, p.1 = P → p.2 = X.env.qual ++ "<genexpr>") (L : GenOk X.N X.env.scope scope own)
    (hi : PI X tg iter wi)
    (pg : ∀ (s : Shared) (H : Hp) (code : Value) (fp : List Addr) (pn : List (Addr × Obj)), Room k (genCx X X.A.in1.in1 s H scope code fp pn).A → PG (genCx X X.A.in1.in1 s H scope code fp pn) tg g)
    (pt : ∀ (s : Shared) (H : Hp) (code : Value) (fp : List Addr) (pn : List (Addr × Obj)), Room k (genCx X X.A.in1.in1 s H scope code fp pn).A → PTs (genCx X X.A.in1.in1 s H scope code fp pn) ifs tt)
    (pe : ∀ (s : Shared) (H : Hp) (code : Value) (fp : List Addr) (pn : List (Addr × Obj)), Room k (genCx X X.A.in1.in1 s H scope code fp pn).A → PE (genCx X X.A.in1.in1 s H scope code fp pn) elt te)
    (hs : ∀ v, genFold iter X.env v = pure v)
    (he : starEach [.GeneratorExp elt [⟨tg, iter, ifs, 0⟩] scope gpos] X.env = (false, eval (.GeneratorExp elt [⟨tg, iter, ifs, 0⟩] scope gpos) X.env) :: starEach [] X.env := by rfl) :
    PE X (.Call (.Name "any" p) [.GeneratorExp elt [⟨tg, iter, ifs, 0⟩] scope gpos] [] pos) (tGx T wi g tt te (own.map (·.2)) true) := by
  refine ⟨fun pins s σ H Q I h => ?_⟩
  refine wpAny_Call_Name_kw (ld_blt I hg hm boot_any ?_)
  refine PyProof.Rows.callWith_builtin1 ?_ he (by rfl)
  rw [he]
  show wpAny _ _ (spliced ((false, eval (.GeneratorExp elt [⟨tg, iter, ifs, 0⟩] scope gpos) X.env) :: backTo pos (starEach [] X.env))) _ _ s
  refine Calls.spliced_cons (wpAny_GeneratorExp_make L.co (closure_ok (L.has I.ok)) L.cell L.dot L.kind (by have := hr.dp; omega) ?_ hs)
  refine thn (hi.run pins s σ H _ I h) fun xv s1 hx => thn hx fun itv s2 h2 => ?_
  obtain ⟨it, fp, tn, J, H2, e, I2, Tn, st2, f2, hT2, q⟩ := h2
  subst e
  refine ⟨I2.nolimit, gen_code I2 TB hcode hmT hu hT2 fun code H3 s3 I3 hE hT3 hEq hK hsz3 => ?_⟩
  obtain ⟨bm, ob, e1, e2, e3, e4, e5, e6, e7, e8⟩ := TB.bm
  refine wpAny_builtinsFor (m := X.mg) (by rw [I3.ok.glob]; exact I3.mod.glob.keeps I3.bk) e1 e2 (I3.bk _ _ e5) e6 e7 e8 ?_
  intro h' hn' hs'
  obtain ⟨ps, hP, _, _⟩ := hT2 _ hmT
  have lt2 : ∀ b ∈ fp, b < s2.heap.objs.size := fun b hb => by
    obtain ⟨o, e, _⟩ := Tn.obj _ _ st2 b hb
    exact Heap.lt_size e
  have nP : ∀ b ∈ fp, b ≠ P := fun b hb z => by
    have := (f2 b hb).1
    rw [z, hP] at this
    cases this
  have f3 : ∀ b ∈ fp, FpOk X pins H3 b ∧ b < s3.heap.objs.size := fun b hb => ⟨⟨(hEq b (lt2 b hb) (nP b hb)).trans (f2 b hb).1, (f2 b hb).2⟩, Nat.lt_of_lt_of_le (lt2 b hb) hsz3⟩
  have st3 : tn 0 s3.heap := Tn.keep _ _ _ st2 fun b hb o e => hK b o (nP b hb) e
  have hsz : h'.objs.size = s3.heap.objs.size + 1 := by rw [hs'.1, Heap.size_push]
  have keep' : ∀ b o, s3.heap.get? b = some o → h'.get? b = some o := fun b o e => hs'.extBut b o (Nat.ne_of_lt (Heap.lt_size e)) (Heap.get?_push_of_some _ e)
  obtain ⟨W, ⟨m, w0⟩, turn⟩ := q H3 hE hT3
  refine Calls.spliced_nil ?_
  generalize hgo : ({ cls := .type "generator", data := .fields #[.int s3.gens.size 0, .str "<genexpr>" (s3.toks + 1), .str (X.env.qual ++ "<genexpr>") (s3.toks + 1 + 1)] } : Obj) = go
  have keep5 : ∀ b o, s3.heap.get? b = some o → (h'.push go).get? b = some o := fun b o e => Heap.get?_push_of_some _ (keep' b o e)
  have hgoa : (h'.push go).get? h'.objs.size = some go := Heap.get?_push_size _ (by rw [← hgo]; rfl)
  have gen : (h'.push go).IsGen h'.objs.size s3.gens.size := ⟨go, _, _, hgoa, by rw [← hgo], by rw [← hgo], by rw [← hgo]⟩
  have rk : Room k (genCx X X.A.in1.in1 s3 H3 scope code fp [(h'.objs.size, go)]).A := (Room.deeper (hr.in1.in1.mono (by omega)) _)
  refine call_function_tree F.kind_any F.plain_any F.entry_any (F.args_any1 _) ?_
  unfold Builtin.«any»
  refine wpAny_bind (m := oneArg "any" _) (wpAny_pure ?_)
  refine wpAny_bind (wpAny_pyIter_gen (g := s3.gens.size) gen ?_)
  have back : ∀ σ' H' s', Inv (genCx X X.A.in1.in1 s3 H3 scope code fp [(h'.objs.size, go)]) [] σ' H' s' → Inv X pins σ H' s' := fun σ' H' s' I6 => I3.call' (ch := fp) I6.os I6.base I6.hok I6.bare fun b hb => ⟨(f3 b hb).1.2.2.2.1, (f3 b hb).1.2.1, (f3 b hb).1.2.2.2.2.1, (f3 b hb).1.2.2.2.2.2⟩
  have hgb : ∀ (sZ : Shared) (x : GenState), sZ.gens = s3.gens.push x → x.bare = true → AllBare (sZ.setGen s3.gens.size .running).gens := fun sZ x eq hx => allBare_setGen (s := sZ) (fun y hy => by
    rw [eq] at hy
    rcases Array.mem_push.mp hy with z | z
    · exact I3.bare y z
    · rw [z]; exact hx) rfl
  refine wpAny_pure ⟨plainId_quiet F.plain_any_loop _, any_loop (Xg := genCx X X.A.in1.in1 s3 H3 scope code fp [(h'.objs.size, go)]) (gn := s3.gens.size) (QE := fun H' => Q (.bl false) H') (QT := fun H' => Q (.bl true) H') hr.hd (by have := hr.dp; omega)
    (fun σ' H' s' I' => ⟨go, _, _, (I'.pin (h'.objs.size, go) (List.mem_append_left _ List.mem_cons_self)).1, by rw [← hgo], by rw [← hgo], by rw [← hgo]⟩)
    (fun σ' H' s' I' qt => ⟨.bl true, H', back _ _ _ I', rfl, qt⟩) (fun σ' H' s' I' qe => ⟨.bl false, H', back _ _ _ I', rfl, qe⟩) (m + 1) _ gen (I3.nolimit.keeps keep5) ⟨_, Array.getElem?_push_size .., rfl, ?_⟩⟩
  refine gen_begin (X := genCx X X.A.in1.in1 s3 H3 scope code fp [(h'.objs.size, go)]) rfl rfl rfl rfl Tn L.co (fun z hz => ?_) (pg _ _ _ _ _ rk) (pt _ _ _ _ _ rk) (pe _ _ _ _ _ rk) turn (Nat.le_refl m) w0 (cp := []) (fun p hp => absurd hp (by simp)) ?_ ?_ (fun b hb => (f3 b hb).1.1)
  · obtain rfl := List.mem_singleton.mp hz
    intro hb
    have := (f3 _ hb).2
    have : h'.objs.size < s3.heap.objs.size := this
    omega
  · exact gen_start I3 L hN I3.ok.frames hr.hd f3 (hn'.push _) keep5 (hgb { s3 with gens := s3.gens.push (.fresh (.compStart (.GeneratorExp elt [⟨tg, iter, ifs, 0⟩] scope gpos) 0 (.ref it) .none (genEnv scope (cloFrom X.env.cells scope.names []) s3.heap.objs.size code builtinsNs X.env))) } _ rfl rfl) hgoa (by omega) (by rw [← hgo]; intro v z; cases z)
  · exact Tn.keep _ _ _ st3 fun b _ o e => keep5 b o e
theorem boot_all : bootBuiltins "all" = some (.builtin "all") := by decide +kernel
theorem pe_allG {T : List (Addr × Str)} {c P : Addr} {elt tg iter : Expr} {ifs : List Expr} {p pos gpos : Pos} {scope : Scope} {own : List (Str × Nat)} {wi : TI} {g : TG} {tt : TT} {te : TE} {k : Nat}
    (hr : Room (k + 3) X.A) (hc : X.calm = true) (hN : X.N.Nodup) (hg : Gl X "all") (hm : X.mg "all" = none) (TB : LamX.TabB X.base X.mg c P) (hcode : X.env.code = .ref c) (hmT : (P, X.env.qual ++ "<genexpr>") ∈ T) (hu : ∀ p ∈ T, p.1 = P → p.2 = X.env.qual ++ "<genexpr>") (L : GenOk X.N X.env.scope scope own)
    (hi : PI X tg iter wi)
    (pg : ∀ (s : Shared) (H : Hp) (code : Value) (fp : List Addr) (pn : List (Addr × Obj)), Room k (genCx X X.A.in1.in1 s H scope code fp pn).A → PG (genCx X X.A.in1.in1 s H scope code fp pn) tg g)
    (pt : ∀ (s : Shared) (H : Hp) (code : Value) (fp : List Addr) (pn : List (Addr × Obj)), Room k (genCx X X.A.in1.in1 s H scope code fp pn).A → PTs (genCx X X.A.in1.in1 s H scope code fp pn) ifs tt)
    (pe : ∀ (s : Shared) (H : Hp) (code : Value) (fp : List Addr) (pn : List (Addr × Obj)), Room k (genCx X X.A.in1.in1 s H scope code fp pn).A → PE (genCx X X.A.in1.in1 s H scope code fp pn) elt te)
    (hs : ∀ v, genFold iter X.env v = pure v)
    (he : starEach [.GeneratorExp elt [⟨tg, iter, ifs, 0⟩] scope gpos] X.env = (false, eval (.GeneratorExp elt [⟨tg, iter, ifs, 0⟩] scope gpos) X.env) :: starEach [] X.env := by rfl) :
    PE X (.Call (.Name "all" p) [.GeneratorExp elt [⟨tg, iter, ifs, 0⟩] scope gpos] [] pos) (tGx T wi g tt te (own.map (·.2)) false) := by
  refine ⟨fun pins s σ H Q I h => ?_⟩
  refine wpAny_Call_Name_kw (ld_blt I hg hm boot_all ?_)
  refine PyProof.Rows.callWith_builtin1 ?_ he (by rfl)
  rw [he]
  show wpAny _ _ (spliced ((false, eval (.GeneratorExp elt [⟨tg, iter, ifs, 0⟩] scope gpos) X.env) :: backTo pos (starEach [] X.env))) _ _ s
  refine Calls.spliced_cons (wpAny_GeneratorExp_make L.co (closure_ok (L.has I.ok)) L.cell L.dot L.kind (by have := hr.dp; omega) ?_ hs)
  refine thn (hi.run pins s σ H _ I h) fun xv s1 hx => thn hx fun itv s2 h2 => ?_
  obtain ⟨it, fp, tn, J, H2, e, I2, Tn, st2, f2, hT2, q⟩ := h2
  subst e
  refine ⟨I2.nolimit, gen_code I2 TB hcode hmT hu hT2 fun code H3 s3 I3 hE hT3 hEq hK hsz3 => ?_⟩
  obtain ⟨bm, ob, e1, e2, e3, e4, e5, e6, e7, e8⟩ := TB.bm
  refine wpAny_builtinsFor (m := X.mg) (by rw [I3.ok.glob]; exact I3.mod.glob.keeps I3.bk) e1 e2 (I3.bk _ _ e5) e6 e7 e8 ?_
  intro h' hn' hs'
  obtain ⟨ps, hP, _, _⟩ := hT2 _ hmT
  have lt2 : ∀ b ∈ fp, b < s2.heap.objs.size := fun b hb => by
    obtain ⟨o, e, _⟩ := Tn.obj _ _ st2 b hb
    exact Heap.lt_size e
  have nP : ∀ b ∈ fp, b ≠ P := fun b hb z => by
    have := (f2 b hb).1
    rw [z, hP] at this
    cases this
  have f3 : ∀ b ∈ fp, FpOk X pins H3 b ∧ b < s3.heap.objs.size := fun b hb => ⟨⟨(hEq b (lt2 b hb) (nP b hb)).trans (f2 b hb).1, (f2 b hb).2⟩, Nat.lt_of_lt_of_le (lt2 b hb) hsz3⟩
  have st3 : tn 0 s3.heap := Tn.keep _ _ _ st2 fun b hb o e => hK b o (nP b hb) e
  have hsz : h'.objs.size = s3.heap.objs.size + 1 := by rw [hs'.1, Heap.size_push]
  have keep' : ∀ b o, s3.heap.get? b = some o → h'.get? b = some o := fun b o e => hs'.extBut b o (Nat.ne_of_lt (Heap.lt_size e)) (Heap.get?_push_of_some _ e)
  obtain ⟨W, ⟨m, w0⟩, turn⟩ := q H3 hE hT3
  refine Calls.spliced_nil ?_
  generalize hgo : ({ cls := .type "generator", data := .fields #[.int s3.gens.size 0, .str "<genexpr>" (s3.toks + 1), .str (X.env.qual ++ "<genexpr>") (s3.toks + 1 + 1)] } : Obj) = go
  have keep5 : ∀ b o, s3.heap.get? b = some o → (h'.push go).get? b = some o := fun b o e => Heap.get?_push_of_some _ (keep' b o e)
  have hgoa : (h'.push go).get? h'.objs.size = some go := Heap.get?_push_size _ (by rw [← hgo]; rfl)
  have gen : (h'.push go).IsGen h'.objs.size s3.gens.size := ⟨go, _, _, hgoa, by rw [← hgo], by rw [← hgo], by rw [← hgo]⟩
  have rk : Room k (genCx X X.A.in1.in1 s3 H3 scope code fp [(h'.objs.size, go)]).A := (Room.deeper (hr.in1.in1.mono (by omega)) _)
  refine call_function_tree F.kind_all F.plain_all F.entry_all (F.args_all1 _) ?_
  unfold Builtin.«all»
  refine wpAny_bind (m := oneArg "all" _) (wpAny_pure ?_)
  refine wpAny_bind (wpAny_pyIter_gen (g := s3.gens.size) gen ?_)
  have back : ∀ σ' H' s', Inv (genCx X X.A.in1.in1 s3 H3 scope code fp [(h'.objs.size, go)]) [] σ' H' s' → Inv X pins σ H' s' := fun σ' H' s' I6 => I3.call' (ch := fp) I6.os I6.base I6.hok I6.bare fun b hb => ⟨(f3 b hb).1.2.2.2.1, (f3 b hb).1.2.1, (f3 b hb).1.2.2.2.2.1, (f3 b hb).1.2.2.2.2.2⟩
  have hgb : ∀ (sZ : Shared) (x : GenState), sZ.gens = s3.gens.push x → x.bare = true → AllBare (sZ.setGen s3.gens.size .running).gens := fun sZ x eq hx => allBare_setGen (s := sZ) (fun y hy => by
    rw [eq] at hy
    rcases Array.mem_push.mp hy with z | z
    · exact I3.bare y z
    · rw [z]; exact hx) rfl
  refine wpAny_pure ⟨plainId_quiet F.plain_all_loop _, all_loop (Xg := genCx X X.A.in1.in1 s3 H3 scope code fp [(h'.objs.size, go)]) (gn := s3.gens.size) (QE := fun H' => Q (.bl true) H') (QT := fun H' => Q (.bl false) H') hr.hd (by have := hr.dp; omega)
    (fun σ' H' s' I' => ⟨go, _, _, (I'.pin (h'.objs.size, go) (List.mem_append_left _ List.mem_cons_self)).1, by rw [← hgo], by rw [← hgo], by rw [← hgo]⟩)
    (fun σ' H' s' I' qt => ⟨.bl false, H', back _ _ _ I', rfl, qt⟩) (fun σ' H' s' I' qe => ⟨.bl true, H', back _ _ _ I', rfl, qe⟩) (m + 1) _ gen (I3.nolimit.keeps keep5) ⟨_, Array.getElem?_push_size .., rfl, ?_⟩⟩
  refine gen_begin (X := genCx X X.A.in1.in1 s3 H3 scope code fp [(h'.objs.size, go)]) rfl rfl rfl rfl Tn L.co (fun z hz => ?_) (pg _ _ _ _ _ rk) (pt _ _ _ _ _ rk) (pe _ _ _ _ _ rk) turn (Nat.le_refl m) w0 (cp := []) (fun p hp => absurd hp (by simp)) ?_ ?_ (fun b hb => (f3 b hb).1.1)
  · obtain rfl := List.mem_singleton.mp hz
    intro hb
    have := (f3 _ hb).2
    have : h'.objs.size < s3.heap.objs.size := this
    omega
  · exact gen_start I3 L hN I3.ok.frames hr.hd f3 (hn'.push _) keep5 (hgb { s3 with gens := s3.gens.push (.fresh (.compStart (.GeneratorExp elt [⟨tg, iter, ifs, 0⟩] scope gpos) 0 (.ref it) .none (genEnv scope (cloFrom X.env.cells scope.names []) s3.heap.objs.size code builtinsNs X.env))) } _ rfl rfl) hgoa (by omega) (by rw [← hgo]; intro v z; cases z)
  · exact Tn.keep _ _ _ st3 fun b _ o e => keep5 b o e
end
end Mir
end

section
set_option Elab.async false
set_option linter.all false
set_option maxRecDepth 100000
set_option maxHeartbeats 1000000
/-! MirY: any, all of a generator expression, mirrored. -/
namespace Mir
open PySem PySem.Spec PyProof.Rows L2

/-- st = true: any; st = false: all -/
def gxL (st : Bool) (keep : Store → Bool) (p : Pt) (t : TM) (e : EM) (Λ : LEnv) : List AV → Store → Res Bool
  | [], S => if keep S = true then .ok (!st) S else .stuck
  | x :: xs, S => if keep S = true then (match dest p x with
    | some as => (t (putA Λ as) S).nb fun b S1 => if b = true then (e (putA Λ as) S1).nb fun v S2 => match v with
      | .bl c => if c = st then .ok st S2 else gxL st keep p t e Λ xs S2
      | _ => .stuck
      else gxL st keep p t e Λ xs S1
    | none => .stuck) else .stuck
def eGx (st : Bool) (it : IM) (own : List Nat) (p : Pt) (t : TM) (e : EM) : EM := fun Λ S => (it Λ S).bind fun src S1 => (gxL st src.keep p t e (wipeA Λ own) src.items S1).nb fun b S2 => .ok (.bl b) (unlS src.lock S2)
section
variable {X : Cx} {K : PySem.W.Frag} {g : G} {EX : XK} {H : Hp} {ι : List Addr} {S : Store} {pos : Pos}
variable {elt tg iter : Expr} {scope : Scope} {own : List (Str × Nat)} {p : Pt} {IT : IM} {T : TM} {E : EM} {ifs : List Expr} {st : Bool}
theorem gxL_keep {keep : Store → Bool} {Λ : LEnv} {xs : List AV} {r : Bool} {S' : Store} (h : gxL st keep p T E Λ xs S = .ok r S') : keep S = true := by
  by_cases k : keep S = true
  · exact k
  · cases xs <;> (unfold gxL at h; rw [if_neg k] at h; cases h)
def GxAt (K : PySem.W.Frag) (g : G) (ι1 : List Addr) (H1 : Hp) (Λ : LEnv) (τ : L2.St) (F : Store → Prop) (H : Hp) : Prop :=
  ∃ ι S, Grow ι1 H1 ι H ∧ Rel K H ι g S ∧ REnv K H ι Λ τ ∧ F S
theorem gx_read {σ : L2.St} {Q : VK} (hpv : ∀ i ∈ p.vars, i ∈ own.map (·.2)) (h : xE X.K g EX (eGx st IT (own.map (·.2)) p T E) σ H Q) :
    tGx g.tabs (xI X g EX IT) (gP X.K p) (xT X.K g never T) (xE X.K g never E) (own.map (·.2)) st σ H (fun x => Unl X (Q x)) := by
  obtain ⟨ι, Λ, S, R, E0, q⟩ := h
  refine ⟨ι, Λ, S, R, E0, (Post.bind' q).mono fun src ι1 S1 H0 G1 R1 ⟨_, q1⟩ lk nf J ⟨G, Y, W, hG, hY⟩ => ?_⟩
  refine ⟨R1.tab, fun H1 eN T1 => ?_⟩
  obtain ⟨fin, Sf, hfin, q2⟩ : ∃ fin Sf, gxL st src.keep p T E (wipeA Λ (own.map (·.2))) src.items S1 = .ok fin Sf ∧ Post X.K g EX ι H (.ok (.bl fin) (unlS src.lock Sf)) fun x ι' x_1 H' => ∀ v, Rep X.K H' ι' x v → Q v H' := by
    cases e : gxL st src.keep p T E (wipeA Λ (own.map (·.2))) src.items S1 with
    | ok fin Sf => rw [e] at q1; exact ⟨fin, Sf, rfl, q1⟩
    | _ => rw [e] at q1; exact q1.elim
  generalize hΛ : wipeA Λ (own.map (·.2)) = Λ0 at hfin
  have G01 : Grow ι1 H0 ι1 H1 := Grow.extN eN (fun _ _ => trivial) (extN_tbl eN)
  have R01 := R1.extN eN T1
  have E1 : REnv X.K H1 ι1 Λ0 (L2.wipe σ (own.map (·.2))) := by rw [← hΛ]; exact ((E0.mono G1).mono G01).wipe _
  have lnf : ∀ {ι' : List Addr} {H' : Hp}, (∀ n a, ι1[n]? = some a → ι'[n]? = some a) → ∀ n a, src.lock = some n → ι'[n]? = some a → ∀ o u, H a ≠ some (.frz o u) := fun {ι' H'} G' n a e1 e2 => by
    obtain ⟨a', h1, _⟩ := lk n e1
    have h2 := G' n a' h1
    rw [e2] at h2
    cases h2
    exact nf n a e1 h1
  have fin_ok : ∀ ι2 H2 , Grow ι1 H0 ι2 H2 → Rel X.K H2 ι2 g Sf → Unl X (Q (.bl fin)) H2 := fun ι2 H2 G3 R3 => by
    refine unl_ok (G1.trans G3) (lk.grow G3) (lnf (H' := H2) fun n a e => G3.at e) R3 fun H4 Gw G4 R4 => ?_
    exact q2 ι2 H4 G4 R4 (.bl fin) rfl
  refine ⟨fun i m H => m = src.items.length - i ∧ i ≤ src.items.length ∧ GxAt X.K g ι1 H0 Λ0 (L2.wipe σ (own.map (·.2))) (fun S => gxL st src.keep p T E Λ0 (src.items.drop i) S = .ok fin Sf) H, ⟨_, rfl, Nat.zero_le _, ι1, S1, G01, R01, E1, hfin⟩, ?_⟩
  rintro i m H2 ⟨rfl, hi, ι2, S2, G2, R2, E2, hf⟩
  have hk := gxL_keep hf
  have hgo := hG ι2 S2 H2 H2 G2 R2 hk (.refl _)
  by_cases hi' : i < src.items.length
  · refine .inr ⟨W.goes i H2 hi' hgo, fun H' => GxAt X.K g ι1 H0 Λ0 (L2.wipe σ (own.map (·.2))) (fun S => gxL st src.keep p T E Λ0 (src.items.drop (i + 1)) S = .ok fin Sf) H', fun H' n => ⟨_, by omega, rfl, by omega, n⟩, fun x H' y => ?_⟩
    have hy := hY i ι2 S2 H2 H2 x H' src.items[i] G2 R2 hk (.refl _) (List.getElem?_eq_getElem hi') (W.yields i H2 x H' hi' hgo y)
    obtain ⟨G3, R3, rx⟩ : Grow ι2 H2 ι2 H' ∧ Rel X.K H' ι2 g S2 ∧ Rep X.K H' ι2 src.items[i] x := by
      rcases hy with ⟨rfl, r⟩ | ⟨T', xs, ws, e, rfl, hT, rfl, r⟩
      · exact ⟨.refl _ _, R2, r⟩
      · exact ⟨.fresh hT, R2.fresh hT, by rw [e]; exact R2.newTup hT r⟩
    have ei : src.items.drop i = src.items[i] :: src.items.drop (i + 1) := by rw [List.drop_eq_getElem_cons hi']
    rw [ei] at hf
    simp only [gxL, if_pos hk] at hf
    cases ed : dest p src.items[i] with
    | none => rw [ed] at hf; cases hf
    | some as =>
      rw [ed] at hf
      dsimp only at hf
      obtain ⟨b, S3, et, hf⟩ := nb_ok hf
      obtain ⟨bs, d1, d2, d3⟩ := dest_v p _ x as ed rx
      refine ⟨bs, d1, ?_⟩
      refine ⟨wipe_put σ _ bs fun i hi => hpv i (by rw [← dest_vars p _ as ed, d2]; exact hi), ?_⟩
      have E5 : REnv X.K H' ι2 (putA Λ0 as) (putV (L2.wipe σ (own.map (·.2))) bs) := (E2.mono G3).put d2 d3
      refine ⟨ι2, putA Λ0 as, S2, R3, E5, ?_⟩
      rw [et]
      intro ι6 H6 G6 R6
      have G16 := (G2.trans G3).trans G6
      cases b with
      | false =>
        simp only [Bool.false_eq_true, if_false] at hf ⊢
        exact ⟨ι6, S3, G16, R6, (E2.mono G3).mono G6, hf⟩
      | true =>
        simp only [if_true] at hf ⊢
        obtain ⟨w, S4, ew, hf⟩ := nb_ok hf
        refine ⟨ι6, putA Λ0 as, S3, R6, E5.mono G6, ?_⟩
        rw [ew]
        intro ι8 H8 G8 R8 v8 r8
        cases w with
        | bl c =>
          obtain rfl : v8 = .bl c := r8
          dsimp only at hf
          refine ⟨c, rfl, ?_⟩
          by_cases hc : c = st
          · rw [if_pos hc] at hf ⊢
            simp only [Res.ok.injEq] at hf
            obtain ⟨rfl, rfl⟩ := hf
            exact fin_ok _ _ (G16.trans G8) R8
          · rw [if_neg hc] at hf ⊢
            exact ⟨ι8, S4, G16.trans G8, R8, ((E2.mono G3).mono G6).mono G8, hf⟩
        | _ => cases hf
  · have hl : i = src.items.length := by omega
    subst hl
    rw [List.drop_length] at hf
    simp only [gxL, if_pos hk, Res.ok.injEq] at hf
    obtain ⟨rfl, rfl⟩ := hf
    exact .inl ⟨W.stops H2 hgo, fin_ok _ _ G2 R2⟩
theorem gx_gen {k : Nat} {A : Around} {s : Shared} {scope : Scope} {code : Value} {fp : List Addr} {pn : List (Addr × Obj)} (hr : Room k (genCx X A s H scope code fp pn).A) : GX never k (genCx X A s H scope code fp pn) :=
  ⟨rfl, hr, LamX.takes0, PassesOwn.never⟩
theorem me_anyG {j k : Nat} {c P' : Addr} {gpos pp : Pos} (gx : GX EX j X) (hk : k + 3 ≤ j) (hN : X.N.Nodup) (hm : X.mg "any" = none) (TB : LamX.TabB X.base X.mg c P') (hcode : X.env.code = .ref c) (hmT : (P', X.env.qual ++ "<genexpr>") ∈ g.tabs) (hu : ∀ p ∈ g.tabs, p.1 = P' → p.2 = X.env.qual ++ "<genexpr>")
    (L : GenOk X.N X.env.scope scope own) (hi : MI g EX X tg iter IT) (hpv : ∀ i ∈ p.vars, i ∈ own.map (·.2))
    (hg : ∀ (s : Shared) (H : Hp) (code : Value) (fp : List Addr) (pn : List (Addr × Obj)), GX never k (genCx X X.A.in1.in1 s H scope code fp pn) → MP (genCx X X.A.in1.in1 s H scope code fp pn) tg p)
    (ht : ∀ (s : Shared) (H : Hp) (code : Value) (fp : List Addr) (pn : List (Addr × Obj)), GX never k (genCx X X.A.in1.in1 s H scope code fp pn) → PTs (genCx X X.A.in1.in1 s H scope code fp pn) ifs (xT X.K g never T))
    (he : ∀ (s : Shared) (H : Hp) (code : Value) (fp : List Addr) (pn : List (Addr × Obj)), GX never k (genCx X X.A.in1.in1 s H scope code fp pn) → ME g never (genCx X X.A.in1.in1 s H scope code fp pn) elt E)
    (hs : ∀ v, genFold iter X.env v = pure v := by intro _; rfl) (hgl : Gl X "any" := by rfl)
    (hst : starEach [.GeneratorExp elt [⟨tg, iter, ifs, 0⟩] scope gpos] X.env = (false, eval (.GeneratorExp elt [⟨tg, iter, ifs, 0⟩] scope gpos) X.env) :: starEach [] X.env := by rfl) :
    ME g EX X (.Call (.Name "any" pp) [.GeneratorExp elt [⟨tg, iter, ifs, 0⟩] scope gpos] [] pos) (eGx true IT (own.map (·.2)) p T E) :=
  PE.imp (pe_unl (pe_anyG (T := g.tabs) (k := k) (g := gP X.K p) (te := xE X.K g never E) (tt := xT X.K g never T) (gx.room.mono hk) gx.calm hN hgl hm TB hcode hmT hu L hi (fun s H code fp pn hr => hg s H code fp pn (gx_gen hr)) (fun s H code fp pn hr => ht s H code fp pn (gx_gen hr)) (fun s H code fp pn hr => he s H code fp pn (gx_gen hr)) hs hst)) fun σ H Q h => gx_read hpv h
theorem me_allG {j k : Nat} {c P' : Addr} {gpos pp : Pos} (gx : GX EX j X) (hk : k + 3 ≤ j) (hN : X.N.Nodup) (hm : X.mg "all" = none) (TB : LamX.TabB X.base X.mg c P') (hcode : X.env.code = .ref c) (hmT : (P', X.env.qual ++ "<genexpr>") ∈ g.tabs) (hu : ∀ p ∈ g.tabs, p.1 = P' → p.2 = X.env.qual ++ "<genexpr>")
    (L : GenOk X.N X.env.scope scope own) (hi : MI g EX X tg iter IT) (hpv : ∀ i ∈ p.vars, i ∈ own.map (·.2))
    (hg : ∀ (s : Shared) (H : Hp) (code : Value) (fp : List Addr) (pn : List (Addr × Obj)), GX never k (genCx X X.A.in1.in1 s H scope code fp pn) → MP (genCx X X.A.in1.in1 s H scope code fp pn) tg p)
    (ht : ∀ (s : Shared) (H : Hp) (code : Value) (fp : List Addr) (pn : List (Addr × Obj)), GX never k (genCx X X.A.in1.in1 s H scope code fp pn) → PTs (genCx X X.A.in1.in1 s H scope code fp pn) ifs (xT X.K g never T))
    (he : ∀ (s : Shared) (H : Hp) (code : Value) (fp : List Addr) (pn : List (Addr × Obj)), GX never k (genCx X X.A.in1.in1 s H scope code fp pn) → ME g never (genCx X X.A.in1.in1 s H scope code fp pn) elt E)
    (hs : ∀ v, genFold iter X.env v = pure v := by intro _; rfl) (hgl : Gl X "all" := by rfl)
    (hst : starEach [.GeneratorExp elt [⟨tg, iter, ifs, 0⟩] scope gpos] X.env = (false, eval (.GeneratorExp elt [⟨tg, iter, ifs, 0⟩] scope gpos) X.env) :: starEach [] X.env := by rfl) :
    ME g EX X (.Call (.Name "all" pp) [.GeneratorExp elt [⟨tg, iter, ifs, 0⟩] scope gpos] [] pos) (eGx false IT (own.map (·.2)) p T E) :=
  PE.imp (pe_unl (pe_allG (T := g.tabs) (k := k) (g := gP X.K p) (te := xE X.K g never E) (tt := xT X.K g never T) (gx.room.mono hk) gx.calm hN hgl hm TB hcode hmT hu L hi (fun s H code fp pn hr => hg s H code fp pn (gx_gen hr)) (fun s H code fp pn hr => ht s H code fp pn (gx_gen hr)) (fun s H code fp pn hr => he s H code fp pn (gx_gen hr)) hs hst)) fun σ H Q h => gx_read hpv h
end
end Mir
end

section
set_option Elab.async false
set_option linter.all false
set_option maxRecDepth 100000
set_option maxHeartbeats 1000000
/-! MirZ: a generator expression's scope, by computation. -/
namespace Mir
open PySem PySem.Spec PyProof.Rows L2
def genSB (N : List Str) (sc scope : Scope) (own : List (Str × Nat)) : Bool :=
  decide (scope.kind = .function) && !scope.isCoroutine && decide (scope.names.lookup (".0" : Str) = some NameKind.local) && !decide ((".0" : Str) ∈ N) && own.all (fun p => decide (N[p.2]? = some p.1)) &&
  scope.names.all fun y => !decide (y.2 = .cell) && decide (scope.names.lookup y.1 = some y.2) && (!decide (y.2 = .free) || decide (sc.names.lookup y.1 = some .cell) || decide (sc.names.lookup y.1 = some .free)) && (!decide (y.2 = .local) || decide (y.1 ∈ own.map (·.1)) || !decide (y.1 ∈ N))
theorem genOk_by {N : List Str} {sc scope : Scope} {own : List (Str × Nat)} (h : genSB N sc scope own = true) : GenOk N sc scope own := by
  unfold genSB at h
  simp only [Bool.and_eq_true, Bool.or_eq_true, Bool.not_eq_true', decide_eq_true_eq, decide_eq_false_iff_not, List.all_eq_true] at h
  obtain ⟨⟨⟨⟨⟨h1, h2⟩, h3⟩, h4⟩, h5⟩, h6⟩ := h
  refine ⟨h1, h2, fun y hy => (h6 y hy).1.1.1, h3, h4, fun y hy => (h6 y hy).1.1.2, h5, fun y hy e => ?_, fun y hy e => ?_⟩
  · rcases (h6 y hy).1.2 with (z | z) | z
    · exact absurd e z
    · exact .inl z
    · exact .inr z
  · rcases (h6 y hy).2 with (z | z) | z
    · exact absurd e z
    · exact .inl z
    · exact .inr z
end Mir
end

section
set_option Elab.async false
set_option linter.all false
set_option maxRecDepth 100000
set_option maxHeartbeats 1000000
/-! MirAA: a list of lambdas, each told. -/
namespace Mir
open PySem PySem.Spec PyProof.Rows L2

section
variable {X : Cx}
/-- a list comprehension whose tests may lean on the maker's own state -/
theorem lcB_core {pins : List (Addr × Obj)} {s : Shared} {σ : L2.St} {H : Hp} {Q : VK} {elt tg iter : Expr} {ifs : List Expr} {scope : Scope} {own : List (Str × Nat)} {pos pos' : Pos} {wi : TI} {gg : TG} {tt : TT} {te : TE} {use : Option (Value → Sem Unit)} {Qf : Value → Shared → Prop}
    (hc : X.calm = true) (hN : X.N.Nodup) (I : Inv X pins σ H s) (hi : PI X tg iter wi) (bok : BlkOk X.N X.env.scope scope own)
    (hg : ∀ (s : Shared) (H : Hp) (C : Addr) (cl : List (Str × Addr)) (fo : List Addr), PG (X.blk s H scope (compEnvC scope cl C X.env) fo) tg gg) 
    (ht : ∀ (s : Shared) (H : Hp) (C : Addr) (cl : List (Str × Addr)) (fo : List Addr), (∀ pins' σ' H' s', Inv (X.blk s H scope (compEnvC scope cl C X.env) fo) pins' σ' H' s' → Inv X pins σ H' s') → PTs (X.blk s H scope (compEnvC scope cl C X.env) fo) ifs tt)
    (he : ∀ (s : Shared) (H : Hp) (C : Addr) (cl : List (Str × Addr)) (fo : List Addr), PE (X.blk s H scope (compEnvC scope cl C X.env) fo) elt te) (hs : ∀ x, foldedSetIterable iter X.env x = pure x)
    (h : tLc wi gg tt te (own.map (·.2)) σ H Q)
    (hEnd : ∀ D C s' m H', Inv X pins σ H' s' → Q (.ref D) H' → s'.heap.Ns C m → FpOk X pins H' C → compPost (model X.prog X.w) X.A X.xe use Qf (.ref D) C (.ok .next) s') :
    wpAny (model X.prog X.w) X.A (comprehension (.ListComp elt [⟨tg, iter, ifs, 0⟩] scope pos) scope X.env pos' (newList []) false (eval iter X.env) use) Qf X.xe s := by
  have hfr : ∀ y ∈ scope.names, y.2 = .free → ∃ c, X.env.cells.lookup y.1 = some c := fun y hy e => by
    rcases bok.free y hy e with k | k
    · exact I.ok.has _ (.inl k)
    · exact I.ok.has _ (.inr k)
  refine wpAny_comprehension_free (use := use) rfl hs (closure_ok hfr) bok.kind (fun y hy e => by rw [bok.uniq y hy, e])
    (thn (hi.run pins s σ H _ I h) fun xw s1 x1 => thn x1 fun itw r2 x2 => ?_)
  obtain ⟨itr, fo, tk, J, B2, e, J2, T, sT2, fI, q0⟩ := x2
  subst e
  refine wpAny_newObj_type (newEnv_comp ?_) (by show 0 ≤ sizeLine; decide)
  generalize hD : r2.heap.objs.size = D
  have nD : B2 D = none := J2.hok.fresh (Nat.le_of_eq hD)
  obtain ⟨WW, ⟨m_0, w_0⟩, step1⟩ := q0 D nD
  -- the new list
  generalize hr3 : ({ r2 with heap := r2.heap.push { cls := .type "list", data := .seq ([] : List Value).toArray } } : Shared) = r3
  have J3 : Inv X pins σ (upd B2 D (.lst [])) r3 := by
    rw [← hr3]
    refine J2.laid (t' := r2.toks) (fun b o e => Heap.get?_push_of_some _ e) (Nat.le_of_eq hD) ⟨Nat.zero_le _, [], 0, .nil, ?_⟩
    rw [← hD]
    exact Heap.get?_push_size _ rfl
  have e3 : r3.heap = r2.heap.push { cls := .type "list", data := .seq ([] : List Value).toArray } := by rw [← hr3]
  have lts : ∀ b ∈ fo, b < r2.heap.objs.size := fun b hb => by
    obtain ⟨o, e, _⟩ := T.obj _ _ sT2 b hb
    exact Heap.lt_size e
  have fO : ∀ b ∈ fo, FpOk X pins (upd B2 D (.lst [])) b ∧ b < r3.heap.objs.size := fun b hb => by
    have hlt := lts b hb
    refine ⟨⟨?_, (fI b hb).2⟩, by rw [e3, Heap.size_push]; exact Nat.lt_succ_of_lt hlt⟩
    rw [upd_ne (by rw [← hD]; exact Nat.ne_of_lt hlt)]
    exact (fI b hb).1
  have sT3 : tk 0 r3.heap := T.keep _ _ _ sT2 fun b _ o e => by rw [e3]; exact Heap.get?_push_of_some _ e
  have J4 := block_start J3 bok hN fO
  have qg := hg r3 (upd B2 D (.lst [])) r3.heap.objs.size (cellsFrom (r3.heap.objs.size + 1) scope.names (cloFrom X.env.cells scope.names [])) fo
  have qt := ht r3 (upd B2 D (.lst [])) r3.heap.objs.size (cellsFrom (r3.heap.objs.size + 1) scope.names (cloFrom X.env.cells scope.names [])) fo
    fun pins' σ' H' s' J' => J3.call' (ch := fo) J'.os J'.base J'.hok J'.bare fun b hb => ⟨(fO b hb).1.2.2.2.1, (fO b hb).1.2.1, (fO b hb).1.2.2.2.2.1, (fO b hb).1.2.2.2.2.2⟩
  have qe := he r3 (upd B2 D (.lst [])) r3.heap.objs.size (cellsFrom (r3.heap.objs.size + 1) scope.names (cloFrom X.env.cells scope.names [])) fo
  show codeAny _ _ (.compStart (.ListComp elt [⟨tg, iter, ifs, 0⟩] scope pos) 0 (.ref itr) (.ref D) (compEnvC scope (cellsFrom (r3.heap.objs.size + 1) scope.names (cloFrom X.env.cells scope.names [])) r3.heap.objs.size X.env)) (compPost (model X.prog X.w) X.A X.xe use Qf (.ref D) r3.heap.objs.size) { r3 with heap := pushCells (r3.heap.push { cls := .type "dict", data := .dict #[] }) scope.names }
  have nof : ∀ b ∈ fo, (upd B2 D (.lst [])) b = none := fun b hb => (fO b hb).1.1
  generalize hcE : compEnvC scope (cellsFrom (r3.heap.objs.size + 1) scope.names (cloFrom X.env.cells scope.names [])) r3.heap.objs.size X.env = ce at J4 qg qt qe ⊢
  have ceL : ce.locals = r3.heap.objs.size := by subst hcE; rfl
  generalize hB3 : upd B2 D (.lst []) = B3 at J3 J4 qg qt qe w_0 nof fO
  generalize hr4 : ({ r3 with heap := pushCells (r3.heap.push { cls := .type "dict", data := .dict #[] }) scope.names } : Shared) = r4 at J4 ⊢
  have sT4 : tk 0 r4.heap := T.keep _ _ _ sT3 fun b _ o e => by rw [← hr4]; exact pushCells_keeps _ _ _ _ (Heap.get?_push_of_some _ e)
  have okf : ∀ {σ' : L2.St} {H' : Hp} {s' : Shared}, Inv (X.blk r3 B3 scope ce fo) [] σ' H' s' → (∀ b ∈ fo, H' b = none) → ∀ b ∈ fo, FpOk (X.blk r3 B3 scope ce fo) [] H' b := fun {σ' H' s'} J' hNs b hb =>
    ⟨hNs b hb, (J'.ok.exf b hb).1, J'.ok.exfs b hb, .inl hb, fun x c e => (J'.ok.exf b hb).2 x c e, fun p hp => absurd (show p ∈ ([] : List (Addr × Obj)) ++ [] from hp) (by simp)⟩
  have walk : codeAny (model X.prog X.w) X.A (.compLoop (.ListComp elt [⟨tg, iter, ifs, 0⟩] scope pos) 0 (.ref itr) (.ref D) ce) (compPost (model X.prog X.w) X.A X.xe use Qf (.ref D) r3.heap.objs.size) r4 := by
    refine compLoop_any (fun n s' => ∃ i H', Inv (X.blk r3 B3 scope ce fo) [] (wipe σ (own.map (·.2))) H' s' ∧ tk i s'.heap ∧ (∀ b ∈ fo, H' b = none) ∧ WW i n H') ?_ m_0 ⟨0, B3, J4, sT4, nof, w_0⟩
    rintro n r5 ⟨i, B5, J5, sT5, n_5, w_5⟩
    rcases step1 i n B5 w_5 with ⟨halt, qz⟩ | ⟨go, NX, hnx, stp⟩
    · have tdn := T.done (X.blk r3 B3 scope ce fo) rfl rfl rfl hc i [] r5 _ B5 (fun _ _ => False) J5 (okf J5 n_5) sT5 halt
      refine thnF tdn fun r r6 ⟨hr, J6⟩ => ?_
      subst hr
      -- back in the def's context
      have J7 : Inv X pins σ B5 r6 := J3.call' (ch := fo) J6.os J6.base J6.hok J6.bare fun b hb => ⟨(fO b hb).1.2.2.2.1, (fO b hb).1.2.1, (fO b hb).1.2.2.2.2.1, (fO b hb).1.2.2.2.2.2⟩
      have noC : B5 r3.heap.objs.size = none := by
        have z : B5 ce.locals = none := J6.free
        rw [ceL] at z
        exact z
      obtain ⟨m, hNs, _⟩ := J6.loc
      have hNs : r6.heap.Ns ce.locals m := hNs
      rw [ceL] at hNs
      exact hEnd D r3.heap.objs.size r6 m B5 J7 qz hNs (J3.fpOk (Nat.le_refl _) noC)
    · have tit := T.item (X.blk r3 B3 scope ce fo) rfl rfl rfl hc i [] r5 _ B5 (fun _ _ => False) J5 (okf J5 n_5) sT5 go
      refine thnF tit fun r r6 ⟨u, hr, h6⟩ => ?_
      subst hr
      refine thnF h6 fun _ r7 ⟨x, B7, J7, rv7, y_7, sT7, n_7⟩ => ?_
      have J7' := J7.pinned (okf J7 n_7) (T.obj _ _ sT7)
      refine thnF (qg.run _ r7 _ B7 x u _ J7' rv7 (stp x B7 y_7)) fun _ r8 ⟨σ8, B8, J8, hw_8, q_8⟩ => ?_
      refine thnF (qt.run _ r8 σ8 B8 _ J8 q_8) fun b r9 ⟨B9, J9, q_9⟩ => ?_
      -- the turn's end
      have over : ∀ {s' : Shared} {H' : Hp}, Inv (X.blk r3 B3 scope ce fo) ([] ++ pinsAt fo r7.heap) σ8 H' s' → NX H' → ∃ m, m < n ∧ ∃ i H', Inv (X.blk r3 B3 scope ce fo) [] (wipe σ (own.map (·.2))) H' s' ∧ tk i s'.heap ∧ (∀ b ∈ fo, H' b = none) ∧ WW i m H' := fun {s' H'} J' nx => by
        obtain ⟨k', hlt, w'⟩ := hnx H' nx
        have pn' : ∀ b ∈ fo, ∀ o, r7.heap.get? b = some o → s'.heap.get? b = some o ∧ H' b = none := fun b hb o e =>
          let z := J'.pin (b, o) (List.mem_append_right _ (List.mem_append_right _ (mem_pinsAt hb e)))
          ⟨z.1, z.2.1⟩
        have hlen : (wipe σ (own.map (·.2))).length = σ8.length := by rw [← hw_8, wipe_length]
        refine ⟨k', hlt, i + 1, H', (J'.unpinned (pins := [])).weak hlen (fun j v e => ?_), T.keep _ _ _ sT7 fun b hb o e => (pn' b hb o e).1, fun b hb => ?_, w'⟩
        · rw [← hw_8] at e
          exact (wipe_some e).1
        · obtain ⟨o, e, _⟩ := T.obj _ _ sT7 b hb
          exact (pn' b hb o e).2
      cases b with
      | false =>
        simp only [Bool.false_eq_true, if_false] at q_9 ⊢
        exact over J9 q_9
      | true =>
        simp only [if_true] at q_9 ⊢
        refine thnF (qe.run _ r9 σ8 B9 _ J9 q_9) fun z r10 ⟨yw, B10, J10, rv10, acc, hd10, hy10, nx⟩ => ?_
        exact app_ok (X := X.blk r3 B3 scope ce fo) J10 hd10 hy10 rv10 fun r11 J11 => over J11 nx
  exact codeAny_compStart_list walk (T.self X.A 0 _ _ _ sT4 walk)
end

/-! ### the lambdas made -/
structure Lm where
  params : Arguments
  body : Expr
  scope : Scope
  pos : Pos
def Lm.e (l : Lm) : Expr := .Lambda l.params l.body l.scope l.pos
abbrev LamObj (X : Cx) (l : Lm) (c' : Addr) (pm ctv : Value) : Obj := PySem.W.kla_obj "<lambda>" (X.env.qual ++ "<lambda>") l.params l.body l.scope (cloFrom X.env.cells l.scope.names []) pm c' ctv
def MadeAt (X : Cx) (pins : List (Addr × Obj)) (H : Hp) (l : Lm) (f : Addr) : Prop :=
  ∃ c' pm ctv, (f, LamObj X l c' pm ctv) ∈ pins ∧ f ∉ frs X.stack ∧ H c' = some (LamX.CodeO c' (X.env.qual ++ "<lambda>"))
def MadeAll (X : Cx) (pins : List (Addr × Obj)) (H : Hp) : List Lm → List Addr → Prop
  | [], fs => fs = []
  | l :: ls, fs => ∃ f gs, fs = f :: gs ∧ MadeAt X pins H l f ∧ MadeAll X pins H ls gs
theorem MadeAt.mono {X : Cx} {pins pins' : List (Addr × Obj)} {H H' : Hp} {l : Lm} {f : Addr} (h : MadeAt X pins H l f) (hp : ∀ p ∈ pins, p ∈ pins') (hH : ∀ c q, H c = some (LamX.CodeO c q) → H' c = some (LamX.CodeO c q)) : MadeAt X pins' H' l f := by
  obtain ⟨c', pm, ctv, h1, h2, h3⟩ := h
  exact ⟨c', pm, ctv, hp _ h1, h2, hH _ _ h3⟩
theorem MadeAll.mono {X : Cx} {pins pins' : List (Addr × Obj)} {H H' : Hp} (hp : ∀ p ∈ pins, p ∈ pins') (hH : ∀ c q, H c = some (LamX.CodeO c q) → H' c = some (LamX.CodeO c q)) : ∀ {ls : List Lm} {fs : List Addr}, MadeAll X pins H ls fs → MadeAll X pins' H' ls fs
  | [], _, h => h
  | l :: ls, _, ⟨f, gs, e, h1, h2⟩ => ⟨f, gs, e, h1.mono hp hH, MadeAll.mono hp hH h2⟩
theorem MadeAll.len {X : Cx} {pins : List (Addr × Obj)} {H : Hp} : ∀ {ls : List Lm} {fs : List Addr}, MadeAll X pins H ls fs → fs.length = ls.length
  | [], _, h => by cases h; rfl
  | l :: ls, _, ⟨f, gs, e, h1, h2⟩ => by rw [e, List.length_cons, List.length_cons, h2.len]
theorem MadeAll.at {X : Cx} {pins : List (Addr × Obj)} {H : Hp} : ∀ {ls : List Lm} {fs : List Addr} {i : Nat} {f : Addr}, MadeAll X pins H ls fs → fs[i]? = some f → ∃ l, ls[i]? = some l ∧ MadeAt X pins H l f
  | [], _, i, f, h, e => by cases h; simp at e
  | l :: ls, _, 0, f, ⟨f', gs, e', h1, h2⟩, e => by
    rw [e'] at e
    cases e
    exact ⟨l, rfl, h1⟩
  | l :: ls, _, i + 1, f, ⟨f', gs, e', h1, h2⟩, e => by
    rw [e'] at e
    exact h2.at (i := i) e
section
variable {X : Cx} {g : G} {EX : XK}
theorem pin_made {pins : List (Addr × Obj)} {σ : L2.St} {H : Hp} {s : Shared} {f : Addr} {o : Obj} (I : Inv X pins σ H s) (hf : s.heap.get? f = some o) (hn : H f = none) (hfr : f ∉ frs X.stack) (hd : ∃ fd, o.data = .func fd) : Inv X ((f, o) :: pins) σ H s := by
  obtain ⟨fd, hd⟩ := hd
  refine I.pins_of fun p hp => ?_
  rcases List.mem_cons.mp hp with e | hp
  · subst e
    refine ⟨hf, hn, fun z => ?_, fun z => ?_, fun v z => by rw [hd] at z; cases z⟩
    · obtain ⟨m, ⟨o', es, ep, ho', hd', _⟩, _⟩ := I.loc
      have z : f = X.env.locals := z
      rw [← z, hf] at ho'
      cases ho'
      rw [hd] at hd'
      cases hd'
    · rcases I.ok.stk with e | ⟨e, _⟩
      · exact hfr (by rw [e]; exact z)
      · refine hfr ?_
        rw [e]
        unfold frs
        rw [List.filterMap_cons]
        split
        · exact z
        · exact List.mem_cons_of_mem _ z
  · exact I.pin p (List.mem_append_right _ hp)
theorem lams_make {T : List (Addr × Str)} {c P : Addr} (TB : LamX.TabB X.base X.mg c P) (hcode : X.env.code = .ref c) (hm : (P, X.env.qual ++ "<lambda>") ∈ T) (hu : ∀ p ∈ T, p.1 = P → p.2 = X.env.qual ++ "<lambda>") {E : Value → Shared → Prop} {pos : Pos} :
    ∀ (ls : List Lm) {pins : List (Addr × Obj)} {σ : L2.St} {H : Hp} {s : Shared} {Q : List Value → Shared → Prop}, (∀ l ∈ ls, LamX.LamS X.env.scope l.scope ∧ defaultsOf l.params X.env = ([], [])) → Inv X pins σ H s → LamX.Tabs T H →
    (∀ fs pins' H' s', Inv X pins' σ H' s' → LamX.ExtN H H' → LamX.Tabs T H' → (∀ p ∈ pins, p ∈ pins') → MadeAll X pins' H' ls fs → Q (fs.map Value.ref) s') →
    wpAny (model X.prog X.w) X.A (spliced (backTo pos (starEach (ls.map Lm.e) X.env))) Q E s
  | [], pins, σ, H, s, Q, hl, I, hT, h => Calls.spliced_nil (h [] pins H s I (.refl _) hT (fun _ h => h) rfl)
  | l :: ls, pins, σ, H, s, Q, hl, I, hT, h => by
    obtain ⟨L, hdef⟩ := hl l List.mem_cons_self
    show wpAny _ _ (spliced ((false, eval (.Lambda l.params l.body l.scope l.pos) X.env) :: backTo pos (starEach (ls.map Lm.e) X.env))) _ _ s
    refine Calls.spliced_cons (LamX.lam_make2 I TB hcode hm hu hT hdef (LamX.LamS.has L I.ok) fun f c' pm ctv H1 s1 I1 e1 T1 hf hn hfr hco => ?_)
    refine lams_make TB hcode hm hu ls (fun l' hl' => hl l' (List.mem_cons_of_mem _ hl')) (pin_made I1 hf hn hfr ⟨_, rfl⟩) T1 fun fs pins' H' s' I' e2 T2 hp M => ?_
    exact h (f :: fs) pins' H' s' I' (e1.trans e2) T2 (fun p hp' => hp p (List.mem_cons_of_mem _ hp')) ⟨f, fs, rfl, ⟨c', pm, ctv, hp _ List.mem_cons_self, hfr, e2 _ _ hco LamX.codeO_ne⟩, M⟩
end
end Mir
end

section
set_option Elab.async false
set_option linter.all false
set_option maxRecDepth 100000
set_option maxHeartbeats 1000000
/-! MirAB: bad = [lambda: .., ..], and that each raises. -/
namespace Mir
open PySem PySem.Spec PyProof.Rows L2

/-- each raises one of these errors -/
def badL (cs : List Nat) : List EM → LEnv → Store → Option Store
  | [], _, S => some S
  | B :: Bs, Λ, S => match B Λ S with
    | .exc c S1 => if c ∈ cs then badL cs Bs Λ S1 else none
    | _ => none
def sBad (cs : List Nat) (ib : Nat) (Bs : List EM) (M : SM) : SM := fun Λ S => match badL cs Bs (Λ.set ib none) S with
  | some S1 => M (Λ.set ib none) S1
  | none => .stuck
structure LamOk (g : G) (X : Cx) (k : Nat) (l : Lm) (B : EM) : Prop where
  sc : LamX.LamS X.env.scope l.scope
  df : defaultsOf l.params X.env = ([], [])
  bind : ∀ (q : Str) (cl : List (Str × Addr)) (pm cv ctv : Value), bindArgs (PySem.W.kla_fn "<lambda>" q l.params l.body l.scope cl pm cv ctv) ⟨[], []⟩ = pure []
  body : ∀ (A : Around) (outer : List Env) (s : Shared) (H : Hp) (E : XK) (f c' : Addr), GX E k (LamX.lamCx X A outer s H E l.scope f c') → ME g E (LamX.lamCx X A outer s H E l.scope f c') l.body B
def LamsP (g : G) (X : Cx) (k : Nat) (es : List Expr) (Bs : List EM) : Prop := ∃ ls : List (Lm × EM), es = (ls.map (·.1)).map Lm.e ∧ Bs = ls.map (·.2) ∧ ∀ p ∈ ls, LamOk g X k p.1 p.2
section
variable {X : Cx} {g : G} {EX : XK}
theorem lams_nil {k : Nat} : LamsP g X k [] [] := ⟨[], rfl, rfl, by simp⟩
theorem lams_cons {k : Nat} {params : Arguments} {body : Expr} {scope : Scope} {pos : Pos} {es : List Expr} {B : EM} {Bs : List EM} (L : LamX.LamS X.env.scope scope)
    (hbody : ∀ (A : Around) (outer : List Env) (s : Shared) (H : Hp) (E : XK) (f c' : Addr), GX E k (LamX.lamCx X A outer s H E scope f c') → ME g E (LamX.lamCx X A outer s H E scope f c') body B)
    (hr : LamsP g X k es Bs) (hdef : defaultsOf params X.env = ([], []) := by rfl) (hbind : ∀ (q : Str) (cl : List (Str × Addr)) (pm cv ctv : Value), bindArgs (PySem.W.kla_fn "<lambda>" q params body scope cl pm cv ctv) ⟨[], []⟩ = pure [] := by intros; rfl) :
    LamsP g X k (.Lambda params body scope pos :: es) (B :: Bs) := by
  obtain ⟨ls, rfl, rfl, h⟩ := hr
  refine ⟨(⟨params, body, scope, pos⟩, B) :: ls, rfl, rfl, fun p hp => ?_⟩
  rcases List.mem_cons.mp hp with e | hp
  · subst e; exact ⟨L, hdef, hbind, hbody⟩
  · exact h p hp
theorem Rel.ninExt {K : PySem.W.Frag} {H : Hp} {ι : List Addr} {S : Store} (R : Rel K H ι g S) {c : Addr} {φ : Heap → Prop} (h : H c = some (.ext φ)) : c ∉ ι := fun z => by
  obtain ⟨n, hn, e⟩ := List.getElem_of_mem z
  have hl : n < S.length := by rw [← R.len]; exact hn
  have q := R.cell n S[n] c (List.getElem?_eq_getElem hl) (by rw [List.getElem?_eq_getElem hn, e])
  revert q
  cases S[n] with
  | lst xs => rintro ⟨vs, z, _⟩; rw [h] at z; cases z
  | dct kvs => rintro (⟨ps, z, _⟩ | ⟨ps, z, _⟩) <;> (rw [h] at z; cases z)
  | lk kvs => rintro ⟨o, ⟨ps, z, _⟩ | ⟨ps, z, _⟩⟩ <;> (rw [h] at z; cases z)
  | ins c fs => rintro ⟨dx, vs, z, _⟩; rw [h] at z; cases z
theorem Grow.code {K : PySem.W.Frag} {H H' : Hp} {ι ι' : List Addr} {S : Store} (R : Rel K H ι g S) (G : Grow ι H ι' H') : ∀ c q, H c = some (LamX.CodeO c q) → H' c = some (LamX.CodeO c q) := fun c q h =>
  G.keep c _ h (R.ninExt (by rw [h]; rfl)) LamX.codeO_ne
/-- what the told def's call asks, in the block -/
def tToldB (X : Cx) (g : G) (pinsM : List (Addr × Obj)) (σM : L2.St) (ΛM : LEnv) (cs : List Nat) (ret : Sg) (jf : Nat) (ls : List Lm) (Bs : List EM) (fs : List Addr) : TE := fun σ H Q =>
  ∃ (i : Nat) (f : Addr) (Bd : EM), fs[i]? = some f ∧ Bs[i]? = some Bd ∧ σ[jf]? = some (some (.ref f)) ∧ MadeAll X pinsM H ls fs ∧ ∃ ι S, Rel X.K H ι g S ∧ REnv X.K H ι ΛM σM ∧
    ∃ c S1, Bd ΛM S = .exc c S1 ∧ c ∈ cs ∧ ∀ ι' H', Grow ι H ι' H' → Rel X.K H' ι' g S1 → Q (.str (toS ret)) H'
variable {x a y : Str} {st : Stmt} {g' c P CS : Addr} {fd : FuncData} {k j jf : Nat} {Ng : List Str} {cs : List Nat} {ret : Sg} {p1 p2 pos : Pos}
theorem pe_toldB {pinsM : List (Addr × Obj)} {σM : L2.St} {ΛM : LEnv} {ls : List (Lm × EM)} {fs : List Addr} {s0 : Shared} {H0 : Hp} {scope : Scope} {cenv : Env} {fp : List Addr} (gx : GX EX j X) (hk : k + 2 ≤ j)
    (F : Fun X.K x x st g' fd) (B : Binds X.K fd [a] []) (Sg : FnScope Ng [a] (defScope st)) (hNg : Ng[0]? = some a) (hva : Vis (defScope st) a) (hm : X.mg x = some (.ref g'))
    (hG : ∀ cdv, LamX.GivesTo X Ng x (defScope st) g' cdv (defBody st) a (X.env.qual ++ "<lambda>") (LamX.TTold X.K CS (toS ret)))
    (hx : ∀ cn ∈ cs, PySem.W.exmOne X.K (.ref (g.cls cn)) (.ref CS) = some true)
    (hls : ∀ p ∈ ls, LamOk g X k p.1 p.2) (hback : ∀ pins' σ' H' s', Inv (X.blk s0 H0 scope cenv fp) pins' σ' H' s' → Inv X pinsM σM H' s')
    (hv : PE (X.blk s0 H0 scope cenv fp) (.Name y p2) (tVar jf)) (hg : Gl (X.blk s0 H0 scope cenv fp) x)
    (hdb : (x == ("__debug__" : Str)) = false := by decide) (hd : (a == ("__debug__" : Str)) = false := by decide) (hcd : (a == ("__classdict__" : Str)) = false := by decide) :
    PE (X.blk s0 H0 scope cenv fp) (.Call (.Name x p1) [.Name y p2] [] pos) (tToldB X g pinsM σM ΛM cs ret jf (ls.map (·.1)) (ls.map (·.2)) fs) := by
  obtain ⟨oc, od, kV, doc, pm, an, cdv, ct, osl, rfl, lk, hcg⟩ := F.ex
  refine ⟨fun pins s σ H Q I h => ?_⟩
  obtain ⟨i, f, Bd, hfi, hBi, hσ, M, ι, S, R, E, c1, S1, eB, hc1, hQ⟩ := h
  refine wpAny_Call_Name_kw (ld_glob I hg hm ?_ hdb)
  refine PySem.W.callWith_K (h₀ := X.base) I.ok.mod.kin F.kp ?_ (by rfl) (by rfl)
  show wpAny _ _ (spliced ((false, eval (.Name y p2) (X.blk s0 H0 scope cenv fp).env) :: backTo pos (starEach [] (X.blk s0 H0 scope cenv fp).env))) _ _ s
  refine Calls.spliced_cons (thn (hv.run pins s σ H (fun v H1 => v = .ref f ∧ H1 = H) I ⟨_, hσ, rfl, rfl⟩) fun u s1 ⟨v, H1, I1, rv, e1, e2⟩ => ?_)
  subst e1 e2
  obtain rfl : u = Value.ref f := rv
  refine Calls.spliced_nil ⟨I1.kIn, ?_⟩
  have Im := hback _ _ _ _ I1
  obtain ⟨l, hl, c', pm', ctv, hp, hfr, hco⟩ := M.at hfi
  rw [List.getElem?_map, Option.map_eq_some_iff] at hl hBi
  obtain ⟨p, hpl, rfl⟩ := hl
  obtain ⟨p', hpl', rfl⟩ := hBi
  rw [hpl] at hpl'
  cases hpl'
  have ok := hls p (List.mem_of_getElem? hpl)
  have pf := Im.pin (f, _) (List.mem_append_right _ hp)
  have rc : codeAny (model X.prog X.w) X.A (.call (.ref g') ⟨[.ref f], []⟩) (CR C8.CX0 X.stack X.prog X.w H1 s1 Q C8.E0) s1 := by
    refine LamX.run_ofS (N := Ng) (ps := [a]) (us := [.ref f]) (vs := [.ref f]) lk hcg Sg (gx.room.mono hk) Im.env0 (B s1 [.ref f] Im.kIn rfl) (.cons rfl .nil) rfl fun hr' => ?_
    obtain ⟨t', ht', hq'⟩ := hG cdv f c' s1 H1 Q (fun E H' Q' => xE X.K g E p.2 σM H' Q')
      (fun W pn xe E p1 p2 tk hW => LamX.pe_act (i := 0) Im ok.sc pf.1 pf.2.1 hfr (ok.bind _ _ _ _ _) tk hW hr' (fun A outer s H hr2 => ok.body A outer s H E f c' (gx_lam hr2)) hNg hva hd hcd) hco
      ⟨ι, ΛM, S, R, E, by rw [eB]; exact fun ι' H' d G' R' => ⟨true, hx c1 hc1, fun _ => hQ ι' H' G' R', fun z => nomatch z⟩⟩
    exact ⟨t', ht'.nox, hq'⟩
  refine wpAny_call (codeAny_mono rc fun r s2 hq => ?_)
  cases r with
  | error e => exact (show False from hq).elim
  | ok fl =>
    cases fl with
    | ret u => exact I1.after hq
    | next => exact False.elim hq
    | brk => exact False.elim hq
    | cont => exact False.elim hq
end
end Mir
end

section
set_option Elab.async false
set_option linter.all false
set_option maxRecDepth 100000
set_option maxHeartbeats 1000000
/-! MirAC: the test over the lambdas; the two statements. -/
namespace Mir
open PySem PySem.Spec PyProof.Rows L2

section
variable {X : Cx} {g : G} {EX : XK}
/-- what is told of the world that the test leans on -/
structure BadW (X : Cx) (g : G) (j k : Nat) (cs : List Nat) (ret : Sg) (x a : Str) (st : Stmt) (g' CS : Addr) (fd : FuncData) (Ng : List Str) : Prop where
  hk : k + 2 ≤ j
  F : Fun X.K x x st g' fd
  B : Binds X.K fd [a] []
  Sg : FnScope Ng [a] (defScope st)
  hNg : Ng[0]? = some a
  hva : Vis (defScope st) a
  hm : X.mg x = some (.ref g')
  hG : ∀ cdv, LamX.GivesTo X Ng x (defScope st) g' cdv (defBody st) a (X.env.qual ++ "<lambda>") (LamX.TTold X.K CS (toS ret))
  hx : ∀ cn ∈ cs, PySem.W.exmOne X.K (.ref (g.cls cn)) (.ref CS) = some true
  hdb : (x == ("__debug__" : Str)) = false
  hd : (a == ("__debug__" : Str)) = false
  hcd : (a == ("__classdict__" : Str)) = false
variable {x a y bd : Str} {st : Stmt} {g' c P CS : Addr} {fd : FuncData} {k j jf ib : Nat} {Ng : List Str} {cs : List Nat} {ret : Sg} {p1 p2 p3 p4 p5 p6 p7 p8 p9 pos : Pos} {kk k2 : Nat} {r2 : Str}
variable {pinsM : List (Addr × Obj)} {σ : L2.St} {Λ : LEnv} {ls : List (Lm × EM)} {fs : List Addr} {H : Hp} {s : Shared} {ι : List Addr} {S Sf : Store} {scope : Scope} {L : Addr}
theorem badL_cons {B : EM} {Bs : List EM} (h : badL cs (B :: Bs) Λ S = some Sf) : ∃ c S1, B Λ S = .exc c S1 ∧ c ∈ cs ∧ badL cs Bs Λ S1 = some Sf := by
  unfold badL at h
  split at h
  · rename_i c S1 e
    split at h
    · rename_i hc; exact ⟨c, S1, e, hc, h⟩
    · cases h
  · cases h
theorem bad_lc (gx : GX EX j X) (W : BadW X g j k cs ret x a st g' CS fd Ng) (hls : ∀ p ∈ ls, LamOk g X k p.1 p.2) (hN : X.N.Nodup) (ok : BlkOk X.N X.env.scope scope [(y, jf)])
    (hib : PE X (.Name bd p3) (tVar ib)) (hpg : ∀ (s : Shared) (H : Hp) (C : Addr) (cl : List (Str × Addr)) (fp : List Addr), PG (X.blk s H scope (compEnvC scope cl C X.env) fp) (.Name y p4) (L2.gName jf))
    (hv : ∀ (s : Shared) (H : Hp) (C : Addr) (cl : List (Str × Addr)) (fp : List Addr), PE (X.blk s H scope (compEnvC scope cl C X.env) fp) (.Name y p2) (tVar jf)) (hgl : ∀ (s : Shared) (H : Hp) (C : Addr) (cl : List (Str × Addr)) (fp : List Addr), Gl (X.blk s H scope (compEnvC scope cl C X.env) fp) x)
    (hr2 : r2 = toS ret) (hne : ∀ S, opNe (.str ret) (.str ret) S = .ok (.bl false) S) (I : Inv X pinsM σ H s) (R : Rel X.K H ι g S) (E : REnv X.K H ι Λ σ) (hσ : σ[ib]? = some (some (.ref L))) (hL : H L = some (.lst (fs.map V.ref))) (hLn : L ∉ ι) (M : MadeAll X pinsM H (ls.map (·.1)) fs)
    (hb : badL cs (ls.map (·.2)) Λ S = some Sf) :
    wpAny (model X.prog X.w) X.A (eval (.ListComp (.Constant (.int 1) kk p5) [⟨.Name y p4, .Name bd p3, [.Compare (.Call (.Name x p1) [.Name y p2] [] p6) [.NotEq] [.Constant (.str r2) k2 p7] p8], 0⟩] scope pos) X.env)
      (EP X pinsM σ fun v H' => ∃ D ι', v = .ref D ∧ Grow ι H ι' H' ∧ Rel X.K H' ι' g Sf ∧ D ∉ ι' ∧ H' D = some (.lst [])) X.xe s := by
  subst hr2
  have hfs : fs.length = ls.length := by rw [M.len, List.length_map]
  have jl : jf < X.N.length := (List.getElem?_eq_some_iff.mp (ok.ix _ List.mem_cons_self)).1
  have key : tLc (iList X.K (tVar ib)) (L2.gName jf) (tTest (tOp (xR2 X.K g never opNe) (tToldB X g pinsM σ Λ cs ret jf (ls.map (·.1)) (ls.map (·.2)) fs) (tC (.str (toS ret))))) (tC (.int 1)) ([(y, jf)].map (·.2)) σ H
      (fun v H' => ∃ D ι', v = .ref D ∧ Grow ι H ι' H' ∧ Rel X.K H' ι' g Sf ∧ D ∉ ι' ∧ H' D = some (.lst [])) := by
    refine ⟨_, hσ, L, rfl, ⟨_, .inl (.inl hL)⟩, fun D hD => ?_⟩
    have hDn : D ∉ ι := R.nin hD
    have G0 : Grow ι H ι (upd H D (.lst [])) := .fresh hD
    have R0 : Rel X.K (upd H D (.lst [])) ι g S := R.fresh hD
    refine lc_list (K := X.K) (a := L) (xs := fs.map V.ref) (fun i H' => ∃ ι' S', Grow ι (upd H D (.lst [])) ι' H' ∧ Rel X.K H' ι' g S' ∧ badL cs ((ls.map (·.2)).drop i) Λ S' = some Sf) ⟨ι, S, .refl _ _, R0, hb⟩
      (fun i H' _ ⟨ι', S', G, _⟩ => .inl (.inl (G.keep L _ (by rw [upd_ne fun z => by rw [z, hD] at hL; cases hL]; exact hL) hLn fun _ z => nomatch z))) (fun i v H' hi ⟨ι', S', G, R', hb'⟩ => ?_) fun H' ⟨ι', S', G, R', hb'⟩ => ?_
    · rw [List.getElem?_map, Option.map_eq_some_iff] at hi
      obtain ⟨f, hf, rfl⟩ := hi
      have hil : i < ls.length := by rw [← hfs]; exact (List.getElem?_eq_some_iff.mp hf).1
      have e1 : (ls.map (·.2)).drop i = ls[i].2 :: (ls.map (·.2)).drop (i + 1) := by
        rw [List.drop_eq_getElem_cons (by rw [List.length_map]; exact hil), List.getElem_map]
      rw [e1] at hb'
      obtain ⟨c1, S1, q1, q2, q3⟩ := badL_cons hb'
      have Gt := G0.trans G
      refine ⟨by simp [wipe, List.set_set], i, f, ls[i].2, hf, by rw [List.getElem?_map, List.getElem?_eq_getElem hil]; rfl, ?_, M.mono (fun _ h => h) (Grow.code R Gt), ι', S', R', E.mono Gt, c1, S1, q1, q2, fun ι2 H2 G2 R2 => ?_⟩
      · rw [List.getElem?_set_self (by rw [wipe_length, I.len]; exact jl)]
      · refine ⟨ι2, S1, .str ret, .str ret, R2, rfl, rfl, ?_⟩
        rw [hne]
        intro ι3 H3 G3 R3 w hw
        cases hw
        exact ⟨false, rfl, (if_neg (by decide)).mpr ⟨ι3, S1, G.trans (G2.trans G3), R3, q3⟩⟩
    · rw [List.length_map, hfs, List.drop_of_length_le (by simp)] at hb'
      cases hb'
      have Gt := G0.trans G
      refine ⟨D, ι', rfl, Gt, R', ?_, G.keep D _ upd_same hDn fun _ z => nomatch z⟩
      exact G.nin (upd_same (H := H) (a := D)) hDn fun _ z => nomatch z
  rw [eval_ListComp]
  refine lcB_core (s := s) gx.calm hN I (pi_list hib) ok hpg (fun s0 H0 C cl fp hback => pts_one (pt_cmpR (r := xR2 X.K g never opNe) (mo_ne (g := g) (X := X.blk s0 H0 scope (compEnvC scope cl C X.env) fp) (EX := never) gx.hu) (pe_toldB gx W.hk W.F W.B W.Sg W.hNg W.hva W.hm W.hG W.hx hls hback (hv s0 H0 C cl fp) (hgl s0 H0 C cl fp) W.hdb W.hd W.hcd) pe_str rfl))
    (fun s H C cl fp => pe_int) (fun _ => rfl) key fun D C s' m H' I' q hn f => ⟨m, hn, fun h'' sb => ?_⟩
  obtain ⟨f0, f1, f2, f3, f4, f5⟩ := f
  exact ⟨.ref D, H', I'.turned (t' := s'.toks) (fun b o hb e => (sb.2 b hb).trans e) f0 f1 f3 f4 f5, rfl, q⟩
end
end Mir
end

section
set_option Elab.async false
set_option linter.all false
set_option maxRecDepth 100000
set_option maxHeartbeats 1000000
/-! MirAD: bad = [lambda: .., ..]; if [1 for f in bad if told(f) != ..] != [] or ..: .. -/
namespace Mir
open PySem PySem.Spec PyProof.Rows L2

section
variable {X : Cx} {g : G} {EX : XK}
variable {x a y bd : Str} {st : Stmt} {g' c P CS : Addr} {fd : FuncData} {k j jf ib : Nat} {Ng : List Str} {cs : List Nat} {ret : Sg} {p1 p2 p3 p4 p5 p6 p7 p8 p9 pb pl pa pi pc pos : Pos} {kk k2 : Nat} {r2 : Str}
variable {pins pinsM : List (Addr × Obj)} {σ : L2.St} {Λ : LEnv} {ls : List (Lm × EM)} {fs : List Addr} {H : Hp} {s : Shared} {ι : List Addr} {S Sf : Store} {scope : Scope} {L : Addr} {es : List Expr} {Bs : List EM}
theorem sp_unpin {D : Ends} {f : Flow} (h : SP X pinsM D f s) (hp : ∀ p ∈ pins, p ∈ pinsM) : SP X pins D f s := by
  have un : ∀ {σ' H'}, Inv X pinsM σ' H' s → Inv X pins σ' H' s := fun I => I.pins_of fun p h => I.pin p (List.mem_append_right _ (hp p h))
  cases f with
  | next => obtain ⟨σ', H', I, q⟩ := h; exact ⟨σ', H', un I, q⟩
  | brk => obtain ⟨σ', H', I, q⟩ := h; exact ⟨σ', H', un I, q⟩
  | cont => obtain ⟨σ', H', I, q⟩ := h; exact ⟨σ', H', un I, q⟩
  | ret u => obtain ⟨v, σ', H', I, r, q⟩ := h; exact ⟨v, σ', H', un I, r, q⟩
/-- what the rule's contexts must serve -/
structure BadN (X : Cx) (scope : Scope) (x y bd : Str) (jf ib : Nat) (p2 p3 p4 : Pos) : Prop where
  hN : X.N.Nodup
  ok : BlkOk X.N X.env.scope scope [(y, jf)]
  hib : PE X (.Name bd p3) (tVar ib)
  hpg : ∀ (s : Shared) (H : Hp) (C : Addr) (cl : List (Str × Addr)) (fp : List Addr), PG (X.blk s H scope (compEnvC scope cl C X.env) fp) (.Name y p4) (L2.gName jf)
  hv : ∀ (s : Shared) (H : Hp) (C : Addr) (cl : List (Str × Addr)) (fp : List Addr), PE (X.blk s H scope (compEnvC scope cl C X.env) fp) (.Name y p2) (tVar jf)
  hgl : ∀ (s : Shared) (H : Hp) (C : Addr) (cl : List (Str × Addr)) (fp : List Addr), Gl (X.blk s H scope (compEnvC scope cl C X.env) fp) x
abbrev badLc (x y bd : Str) (r2 : Str) (scope : Scope) (kk k2 : Nat) (p1 p2 p3 p4 p5 p6 p7 p8 pos : Pos) : Expr :=
  .ListComp (.Constant (.int 1) kk p5) [⟨.Name y p4, .Name bd p3, [.Compare (.Call (.Name x p1) [.Name y p2] [] p6) [.NotEq] [.Constant (.str r2) k2 p7] p8], 0⟩] scope pos
theorem bad_test (gx : GX EX j X) (W : BadW X g j k cs ret x a st g' CS fd Ng) (hls : ∀ p ∈ ls, LamOk g X k p.1 p.2) (N : BadN X scope x y bd jf ib p2 p3 p4)
    (hr2 : r2 = toS ret) (hne : ∀ S, opNe (.str ret) (.str ret) S = .ok (.bl false) S) (I : Inv X pinsM σ H s) (R : Rel X.K H ι g S) (E : REnv X.K H ι Λ σ) (hσ : σ[ib]? = some (some (.ref L))) (hL : H L = some (.lst (fs.map V.ref))) (hLn : L ∉ ι) (M : MadeAll X pinsM H (ls.map (·.1)) fs)
    (hb : badL cs (ls.map (·.2)) Λ S = some Sf) (wh : Sem Value) :
    wpAny (model X.prog X.w) X.A (isTrue (.Compare (badLc x y bd r2 scope kk k2 p1 p2 p3 p4 p5 p6 p7 p8 pos) [.NotEq] [.List [] p9] pc) X.env wh)
      (TP X pinsM σ fun b H' => b = false ∧ ∃ ι', Grow ι H ι' H' ∧ Rel X.K H' ι' g Sf) X.xe s := by
  refine wpAny_isTrue_Compare1 (thn (bad_lc gx W hls N.hN N.ok N.hib N.hpg N.hv N.hgl hr2 hne I R E hσ hL hLn M hb) fun v s1 ⟨x1, H1, I1, r1, D, ι1, e1, G1, R1, hDn, hD⟩ => ?_) rfl
  subst e1
  refine thn ((pe_lst pa_nil).run pinsM s1 σ H1 (fun y H2 => ∃ p, y = .ref p ∧ H1 p = none ∧ H2 = upd H1 p (.lst [])) I1 ⟨by decide, fun p hp => ⟨p, rfl, hp, rfl⟩⟩) fun u s2 ⟨y1, H2, I2, r2, p, e2, hp, eH⟩ => ?_
  subst e2 eH
  have hpn : p ∉ ι1 := R1.nin hp
  have hDp : D ≠ p := fun z => by rw [z, hp] at hD; cases hD
  refine thn ((mo_ne (X := X) (EX := EX) (g := g) gx.hu) pinsM s2 σ _ _ _ v u (fun z H3 => z = .bl false ∧ ∃ ι', Grow ι H ι' H3 ∧ Rel X.K H3 ι' g Sf) I2 r1 r2
    ⟨ι1, Sf, .lst [], .lst [], R1.fresh hp, ⟨D, [], rfl, ⟨hDn, .inl (by rw [upd_ne hDp]; exact hD)⟩, rfl⟩, ⟨p, [], rfl, ⟨hpn, .inl upd_same⟩, rfl⟩, fun ι' H' G' R' w hw => ⟨hw, ι', G1.trans ((Grow.fresh hp).trans G'), R'⟩⟩) fun c s3 ⟨z, H3, I3, r3, e, q3⟩ => ?_
  subst e
  cases r3
  exact wpAny_truthy_bool ⟨H3, I3, rfl, q3⟩
/-- the list is made and stored -/
theorem bad_made (gx : GX EX j X) (TB : LamX.TabB X.base X.mg c P) (hcode : X.env.code = .ref c) (hmT : (P, X.env.qual ++ "<lambda>") ∈ g.tabs) (hu : ∀ p ∈ g.tabs, p.1 = P → p.2 = X.env.qual ++ "<lambda>") (hls : ∀ p ∈ ls, LamOk g X k p.1 p.2) (hN : X.N.Nodup) (hi : X.N[ib]? = some bd)
    (hbd : X.env.scope.names.lookup bd = some .local) (hz : ls.length ≤ sizeLine) (I : Inv X pins σ H s) (R : Rel X.K H ι g S) {Q : Flow → Shared → Prop}
    (hs : swapsWith (.List ((ls.map (·.1)).map Lm.e) pl) (some (.Name bd pb)) pa.line X.env = pure false)
    (h : ∀ L fs pinsM H' s', Inv X pinsM (σ.set ib (some (.ref L))) H' s' → Grow ι H ι H' → Rel X.K H' ι g S → H' L = some (.lst (fs.map V.ref)) → L ∉ ι → MadeAll X pinsM H' (ls.map (·.1)) fs → (∀ p ∈ pins, p ∈ pinsM) → Q .next s') :
    wpAny (model X.prog X.w) X.A (exec (.Assign [.Name bd pb] (.List ((ls.map (·.1)).map Lm.e) pl) pa) X.env) Q X.xe s := by
  refine wpAny_Assign_Name (wpAny_List_spliced (lams_make TB hcode hmT hu _ (fun l hl => ?_) I R.tab fun fs pinsM H1 s1 I1 e1 T1 hp M => ?_)) hs
  · obtain ⟨p, hp, rfl⟩ := List.mem_map.mp hl
    exact ⟨(hls p hp).sc, (hls p hp).df⟩
  · have hl := M.len
    rw [List.length_map] at hl
    refine ⟨by rw [List.length_map, hl]; exact hz, ?_⟩
    have hf : H1 s1.heap.objs.size = none := I1.hok.fresh (Nat.le_refl _)
    have rv : Vals (fs.map V.ref) (fs.map Value.ref) := by
      clear M hl
      induction fs with
      | nil => exact .nil
      | cons f fs ih => exact .cons rfl ih
    have I2 : Inv X pinsM σ (upd H1 s1.heap.objs.size (.lst (fs.map V.ref))) { s1 with heap := s1.heap.push { cls := .type "list", data := .seq (fs.map Value.ref).toArray } } :=
      I1.laid (t' := s1.toks) (fun b u e => Heap.get?_push_of_some _ e) (Nat.le_refl _) ⟨by rw [List.length_map, hl]; exact hz, fs.map Value.ref, 0, rv, Heap.get?_push_size _ rfl⟩
    have G1 : Grow ι H ι H1 := Grow.extN e1 (fun _ _ => trivial) (extN_tbl e1)
    have R1 := R.extN e1 T1
    exact store_ok I2 hN hi (.inl hbd) (v := .ref s1.heap.objs.size) rfl (fun s2 I3 => h _ fs pinsM _ s2 I3 (G1.trans (.fresh hf)) (R1.fresh hf) upd_same (R1.nin hf) (M.mono (fun _ h => h) fun c q hc => upd_ext hf _ _ hc) hp) (.inr hbd)
/-- and then the test, alone -/
theorem mss_bad1 {body rest : List Stmt} {M : SM} (gx : GX EX j X) (W : BadW X g j k cs ret x a st g' CS fd Ng) (TB : LamX.TabB X.base X.mg c P) (hcode : X.env.code = .ref c) (hmT : (P, X.env.qual ++ "<lambda>") ∈ g.tabs) (hu : ∀ p ∈ g.tabs, p.1 = P → p.2 = X.env.qual ++ "<lambda>")
    (hL : LamsP g X k es Bs) (N : BadN X scope x y bd jf ib p2 p3 p4) (hi : X.N[ib]? = some bd) (hbd : X.env.scope.names.lookup bd = some .local) (hrest : MSs g EX X rest M) (hr2 : r2 = toS ret) (hne : ∀ S, opNe (.str ret) (.str ret) S = .ok (.bl false) S) (hz : es.length ≤ sizeLine)
    (hs : swapsWith (.List es pl) (some (.Name bd pb)) pa.line X.env = pure false := by rfl) :
    MSs g EX X (.Assign [.Name bd pb] (.List es pl) pa :: .If (.Compare (badLc x y bd r2 scope kk k2 p1 p2 p3 p4 p5 p6 p7 p8 pos) [.NotEq] [.List [] p9] pc) body [] pi :: rest) (sBad cs ib Bs M) := by
  obtain ⟨ls, rfl, rfl, hls⟩ := hL
  refine ⟨fun pins s σ H D I ⟨ι, Λ, S, R, E, p⟩ => ?_⟩
  unfold sBad at p
  refine wpAny_execs_cons (bad_made gx TB hcode hmT hu hls N.hN hi hbd (by simpa using hz) I R hs fun L fs pinsM H1 s1 I1 G1 R1 hL hLn Md hp => ?_)
  have ibl : ib < σ.length := by rw [I.len]; exact (List.getElem?_eq_some_iff.mp hi).1
  have E1 : REnv X.K H1 ι (Λ.set ib none) (σ.set ib (some (.ref L))) := by
    obtain ⟨e1, e2⟩ := E.mono G1
    refine ⟨by rw [List.length_set, List.length_set]; exact e1, fun i v hv => ?_⟩
    by_cases hi : i = ib
    · subst hi
      rw [List.getElem?_set_self (by rw [e1]; exact ibl)] at hv
      cases hv
    · rw [List.getElem?_set_ne (Ne.symm hi)] at hv ⊢
      exact e2 i v hv
  cases eb : badL cs (ls.map (·.2)) (Λ.set ib none) S with
  | none => rw [eb] at p; exact p.elim
  | some Sf =>
    rw [eb] at p
    refine wpAny_execs_cons (wpAny_If (thn (bad_test gx W hls N hr2 hne I1 R1 E1 (List.getElem?_set_self ibl) hL hLn Md eb _) fun b s2 ⟨H2, I2, e, ι2, G2, R2⟩ => ?_))
    subst e
    refine (if_neg (by decide)).mpr (thn ((pss_nil (X := X)).run pinsM s2 _ H2 ⟨fun σ' H' => σ' = _ ∧ H' = H2, fun _ _ => False, fun _ _ => False, fun _ _ => False⟩ I2 ⟨rfl, rfl⟩) fun f s3 q => ?_)
    cases f with
    | next =>
      obtain ⟨σ3, H3, I3, e1, e2⟩ := q
      subst e1 e2
      exact thn (hrest.run pinsM s3 _ _ D I3 ⟨ι2, _, Sf, R2, E1.mono G2, SPost.grow (G1.trans G2) p⟩) fun f s4 q => sp_unpin q hp
    | brk => obtain ⟨_, _, _, z⟩ := q; exact z.elim
    | cont => obtain ⟨_, _, _, z⟩ := q; exact z.elim
    | ret u => obtain ⟨_, _, _, _, _, z⟩ := q; exact z.elim
/-- .. with more tests behind it -/
theorem mss_badOr {body orelse rest : List Stmt} {e2 : Expr} {es2 : List Expr} {M MB ME2 : SM} {TM2 : TM} {pw : Pos} (gx : GX EX j X) (W : BadW X g j k cs ret x a st g' CS fd Ng) (TB : LamX.TabB X.base X.mg c P) (hcode : X.env.code = .ref c) (hmT : (P, X.env.qual ++ "<lambda>") ∈ g.tabs) (hu : ∀ p ∈ g.tabs, p.1 = P → p.2 = X.env.qual ++ "<lambda>")
    (hL : LamsP g X k es Bs) (N : BadN X scope x y bd jf ib p2 p3 p4) (hi : X.N[ib]? = some bd) (hbd : X.env.scope.names.lookup bd = some .local) (hw : MW g EX X (.BoolOp .Or (e2 :: es2) pw) TM2) (hbody : MSs g EX X body MB) (hels : MSs g EX X orelse ME2) (hrest : MSs g EX X rest M)
    (hr2 : r2 = toS ret) (hne : ∀ S, opNe (.str ret) (.str ret) S = .ok (.bl false) S) (hz : es.length ≤ sizeLine)
    (hs : swapsWith (.List es pl) (some (.Name bd pb)) pa.line X.env = pure false := by rfl) :
    MSs g EX X (.Assign [.Name bd pb] (.List es pl) pa :: .If (.BoolOp .Or (.Compare (badLc x y bd r2 scope kk k2 p1 p2 p3 p4 p5 p6 p7 p8 pos) [.NotEq] [.List [] p9] pc :: e2 :: es2) pw) body orelse pi :: rest) (sBad cs ib Bs (sSeq (sIf TM2 MB ME2) M)) := by
  obtain ⟨ls, rfl, rfl, hls⟩ := hL
  refine ⟨fun pins s σ H D I ⟨ι, Λ, S, R, E, p⟩ => ?_⟩
  unfold sBad at p
  refine wpAny_execs_cons (bad_made gx TB hcode hmT hu hls N.hN hi hbd (by simpa using hz) I R hs fun L fs pinsM H1 s1 I1 G1 R1 hL hLn Md hp => ?_)
  have ibl : ib < σ.length := by rw [I.len]; exact (List.getElem?_eq_some_iff.mp hi).1
  have E1 : REnv X.K H1 ι (Λ.set ib none) (σ.set ib (some (.ref L))) := by
    obtain ⟨e1, e2⟩ := E.mono G1
    refine ⟨by rw [List.length_set, List.length_set]; exact e1, fun i v hv => ?_⟩
    by_cases hi : i = ib
    · subst hi
      rw [List.getElem?_set_self (by rw [e1]; exact ibl)] at hv
      cases hv
    · rw [List.getElem?_set_ne (Ne.symm hi)] at hv ⊢
      exact e2 i v hv
  cases eb : badL cs (ls.map (·.2)) (Λ.set ib none) S with
  | none => rw [eb] at p; exact p.elim
  | some Sf =>
    rw [eb] at p
    have p2' := seq_split (SPost.grow G1 p)
    refine wpAny_execs_cons (wpAny_If (thn (Q := fun b s3 => ∃ H3, Inv X pinsM (σ.set ib (some (.ref L))) H3 s3 ∧ if b = true then xS X.K g EX MB { D with nx := xS X.K g EX M D } (σ.set ib (some (.ref L))) H3 else xS X.K g EX ME2 { D with nx := xS X.K g EX M D } (σ.set ib (some (.ref L))) H3) (isTrue_or (thn (bad_test gx W hls N hr2 hne I1 R1 E1 (List.getElem?_set_self ibl) hL hLn Md eb _) fun b s2 ⟨H2, I2, e, ι2, G2, R2⟩ => ?_)) fun b s5 q => ?_))
    · subst e
      refine hw.run _ pinsM s2 _ H2 _ I2 ⟨ι2, _, Sf, R2, E1.mono G2, ?_⟩
      refine (Post.sbind (SPost.grow G2 p2')).mono fun t ι3 S3 H3 G3 R3 p3 => ?_
      cases t with
      | true => exact (if_pos rfl).mpr ⟨ι3, _, S3, R3, (E1.mono G2).mono G3, p3⟩
      | false => exact (if_neg (by decide)).mpr ⟨ι3, _, S3, R3, (E1.mono G2).mono G3, p3⟩
    · obtain ⟨H5, I5, q5⟩ := q
      have fin : ∀ f s4, SP X pinsM { D with nx := xS X.K g EX M D } f s4 → (match (motive := Flow → Prop) f with | .next => wpAny (model X.prog X.w) X.A (execs rest X.env) (SP X pins D) X.xe s4 | f => SP X pins D f s4) := fun f s4 q => by
        cases f with
        | next =>
          obtain ⟨σ3, H3, I3, q3⟩ := q
          exact thn (hrest.run pinsM s4 _ _ D I3 q3) fun f s4 q => sp_unpin q hp
        | brk => exact sp_unpin (D := D) (f := .brk) (pinsM := pinsM) q hp
        | cont => exact sp_unpin (D := D) (f := .cont) (pinsM := pinsM) q hp
        | ret u => exact sp_unpin (D := D) (f := .ret u) (pinsM := pinsM) q hp
      cases b with
      | true => exact (if_pos rfl).mpr (thn (hbody.run pinsM s5 _ H5 _ I5 ((if_pos rfl).mp q5)) fun f s4 q => by have := fin f s4 q; cases f <;> exact this)
      | false => exact (if_neg (by decide)).mpr (thn (hels.run pinsM s5 _ H5 _ I5 ((if_neg (by decide)).mp q5)) fun f s4 q => by have := fin f s4 q; cases f <;> exact this)
end
end Mir
end

section
set_option Elab.async false
set_option linter.all false
set_option maxRecDepth 100000
set_option maxHeartbeats 1000000
/-! MirAE: sorted(d); a call from an empty store. -/
namespace Mir
open PySem PySem.Spec PyProof.Rows L2

/-- sorted, of dicts too -/
def fSortedD : Fn := fun xs S => match xs with
  | [x] => match flatOf S x with
    | some kvs => if sortOk (dKeys kvs) = true then .ok (.lst (sortA (dKeys kvs))) S else .stuck
    | none => match tupOf x with
      | some ys => if sortOk ys = true then .ok (.lst (sortA ys)) S else .stuck
      | none => fSorted [x] S
  | _ => .stuck
section
open PySem.Calls PyProof.V PySem.W
variable {prog : Program} {w : World} {A : Around} {E : Value → Shared → Prop} {s : Shared} {T : String} {r d : Addr} {n : Nat} {P : Nat → Value → Prop} {OK : Heap → Prop}
theorem sorted_src {Q : Value → Shared → Prop} (S : PySem.W.KdlSrc prog w T r d n P OK) (hh : A.handled = none) (ok : OK s.heap) (hz : n ≤ sizeLine)
    (go : ∀ (h' : Heap) (tk : Nat) (acc : Array Value), (∀ b o, s.heap.get? b = some o → h'.get? b = some o) → ItemsOf P acc n →
      wpAny (model prog w) A.in1 (call (.builtin "list.sort") [.ref h'.objs.size]) (fun _ s' => Q (.ref h'.objs.size) s') E { s with heap := h'.push { cls := .type "list", data := .seq acc.toList.toArray }, toks := tk }) :
    wpAny (model prog w) A (call (.builtin "sorted") [.ref r]) Q E s := by
  refine call_function_entry kind_sorted plain_sorted entry_sorted (args_sorted1 _) (show wpAny _ _ (Builtin.«sorted» _) _ _ _ from ?_)
  unfold Builtin.«sorted»
  refine wpAny_bind (m := checkCount "sorted" 1 1 _) (wpAny_pure (wpAny_bind (PySem.W.kdu_collect (A := A.in1) S hh ok hz fun h' tk acc kept items => ?_)))
  have len : acc.toList.length = n := by rw [Array.length_toList]; exact items.1
  refine wpAny_bind (wpAny_newList (wpAny_bind (wpAny_holding (wpAny_mono (go h' tk acc kept items) (fun _ s' x => wpAny_pure ⟨_, rfl, x⟩) fun _ _ e => e))) (by rw [len]; exact hz))
end
section
open PySem.Calls PyProof.V PySem.W
variable {prog : Program} {w : World} {A : Around} {E : Value → Shared → Prop} {s : Shared}
theorem sorted_tup {Q : Value → Shared → Prop} {a : Addr} {its : List Value} (ht : IsTup s.heap a its.toArray) (hz : its.length ≤ sizeLine)
    (go : ∀ (h' : Heap), (∀ b o, s.heap.get? b = some o → h'.get? b = some o) →
      wpAny (model prog w) A.in1 (call (.builtin "list.sort") [.ref h'.objs.size]) (fun _ s' => Q (.ref h'.objs.size) s') E { s with heap := h'.push { cls := .type "list", data := .seq its.toArray } }) :
    wpAny (model prog w) A (call (.builtin "sorted") [.ref a]) Q E s := by
  refine call_function_entry kind_sorted plain_sorted entry_sorted (args_sorted1 _) (show wpAny _ _ (Builtin.«sorted» _) _ _ _ from ?_)
  unfold Builtin.«sorted»
  obtain ⟨o, ho, hc, n, hd⟩ := ht
  refine wpAny_bind (m := checkCount "sorted" 1 1 _) (wpAny_pure (wpAny_bind (PySem.wpAny_collect_seq (A := A.in1) a (.inr rfl) ho hc hd (fun h' kept => ?_) (by simpa using hz))))
  refine wpAny_bind (wpAny_newList (wpAny_bind (wpAny_holding (wpAny_mono (go h' kept) (fun _ s' x => wpAny_pure ⟨_, rfl, x⟩) fun _ _ e => e))) hz)
end
section
variable {X : Cx} {g : G} {EX : XK} {H : Hp} {ι : List Addr} {S : Store}
theorem mc_sortedD (gx : GX EX 0 X) : MC g EX X (.builtin "sorted") fSortedD := by
  rintro pins s σ H vs us Q I r ⟨ι, S, xs, R, rs, p⟩
  unfold fSortedD at p
  split at p
  · rename_i x
    obtain ⟨v, e, rv⟩ := rs.one'
    subst e
    split at p
    · rename_i kvs ek
      split at p
      · rename_i ok
        obtain ⟨H1, a, ps, e, J, R1, G1, hd, rr⟩ := flat_of I R rv ek
        subst e
        obtain rfl := Vals.ref1 r
        obtain ⟨z, lo, ws, rel, dd⟩ := dk_rd J.hok hd
        obtain ⟨ep, hat⟩ := dd.dictAt
        have ek' : (ps.map fun kv => kV kv.1) = ws.map fun p => kV p.1 := by
          have e := congrArg (List.map kV) rel.keys
          rw [List.map_map, List.map_map] at e
          exact e
        refine sorted_src (PySem.W.kdl_dict (knd := mixKind X.prog X.w) (kvs := ws) (ep := ep) lo) (I.ok.hd gx.calm) hat (by rw [← rel.length]; exact z) fun h' tk acc hk hacc => ?_
        have hv : L2.Vals (ps.map fun p => kV p.1) acc.toList := by
          rw [ek']
          exact keys_at (by rw [Array.length_toList]; exact hacc.1) fun j v e => hacc.2 j v (by rw [← Array.getElem?_toList]; exact e)
        have hob : (h'.push { cls := .type "list", data := .seq acc.toList.toArray }).get? h'.objs.size = some (seqObj "list" acc.toList.toArray 0) := Heap.get?_push_size _ rfl
        have J3 : L2.Inv X pins σ H1 { s with heap := h'.push { cls := .type "list", data := .seq acc.toList.toArray }, toks := tk } := J.kept (t' := tk) fun b u e => Heap.get?_push_of_some _ (hk b u e)
        obtain ⟨e1, e2, e3, e4, e5, e6⟩ := sort_facts J3 ok (reps_keys rr) hv
        refine PySem.W.list_sort_data (R := fun u y => ∃ v, Rep X.K H1 ι y v ∧ L2.RelV v u) (enc := pd) (bs := dKeys kvs) hob e1 (e2.mono fun _ _ h => ⟨_, h, List.not_mem_nil⟩) e3 e4 e5 (fun b hb => by have := e6 b hb; have := gx.hu; show X.A.units + 1 + 1 + _ < _; omega) fun out hlo he' => ?_
        obtain ⟨zs, h1, h2⟩ := reps_each he'
        obtain ⟨ec, hec⟩ := PyProof.Rows.sortedHeap_at (vs := acc.toList) (out := out.toArray) hob
        have hlen : zs.length ≤ sizeLine := by rw [h2.length, hlo]; exact e5
        have hf : H1 h'.objs.size = none := (J.kept (t' := tk) hk).hok.fresh (Nat.le_refl _)
        refine ⟨.ref h'.objs.size, upd H1 h'.objs.size (.lst zs), (J.kept (t' := tk) hk).laid (t' := tk) (fun b u e => ?_) (Nat.le_refl _) ⟨hlen, out, ec, h2, hec⟩, rfl, ?_⟩
        · have hb : b < h'.objs.size := Heap.lt_size e
          rw [PyProof.Rows.sortedHeap_old (Nat.ne_of_lt hb) (by rw [Heap.size_push]; exact Nat.lt_succ_of_lt hb)]
          exact Heap.get?_push_of_some _ e
        · exact p.ok (G1.trans (.fresh hf)) (R1.fresh hf) _ (R1.newLst hf h1)
      · exact p.elim
    · split at p
      · rename_i ys ey
        split at p
        · rename_i ok
          obtain ⟨a, ws, e, hs, rr⟩ := rv.tup ey
          subst e
          obtain rfl := Vals.ref1 r
          obtain ⟨its, hv, ht, hz⟩ := I.tuple hs
          refine sorted_tup ht (by rw [← hv.length]; exact hz) fun h' hk => ?_
          have J := I.kept (t' := s.toks) hk
          have hob : (h'.push { cls := .type "list", data := .seq its.toArray }).get? h'.objs.size = some (seqObj "list" its.toArray 0) := Heap.get?_push_size _ rfl
          have J3 : L2.Inv X pins σ H { s with heap := h'.push { cls := .type "list", data := .seq its.toArray } } := I.kept (t' := s.toks) fun b u e => Heap.get?_push_of_some _ (hk b u e)
          obtain ⟨e1, e2, e3, e4, e5, e6⟩ := sort_facts J3 ok rr hv
          refine PySem.W.list_sort_data (R := fun u y => ∃ v, Rep X.K H ι y v ∧ L2.RelV v u) (enc := pd) (bs := ys) hob e1 (e2.mono fun _ _ h => ⟨_, h, List.not_mem_nil⟩) e3 e4 e5 (fun b hb => by have := e6 b hb; have := gx.hu; show X.A.units + 1 + 1 + _ < _; omega) fun out hlo he' => ?_
          obtain ⟨zs, h1, h2⟩ := reps_each he'
          obtain ⟨ec, hec⟩ := PyProof.Rows.sortedHeap_at (vs := its) (out := out.toArray) hob
          have hlen : zs.length ≤ sizeLine := by rw [h2.length, hlo]; exact e5
          have hf : H h'.objs.size = none := J.hok.fresh (Nat.le_refl _)
          refine ⟨.ref h'.objs.size, upd H h'.objs.size (.lst zs), J.laid (t' := s.toks) (fun b u e => ?_) (Nat.le_refl _) ⟨hlen, out, ec, h2, hec⟩, rfl, ?_⟩
          · have hb : b < h'.objs.size := Heap.lt_size e
            rw [PyProof.Rows.sortedHeap_old (Nat.ne_of_lt hb) (by rw [Heap.size_push]; exact Nat.lt_succ_of_lt hb)]
            exact Heap.get?_push_of_some _ e
          · exact p.ok (.fresh hf) (R.fresh hf) _ (R.newLst hf h1)
        · exact p.elim
      · exact mc_sorted gx pins s σ H _ us Q I r ⟨ι, S, [x], R, rs, p⟩
  · exact p.elim
end
/-- a def without parameters called, its own cells forgotten -/
def flatV : AV → Bool
  | .non => true | .bl _ => true | .int _ => true | .str _ => true
  | _ => false
def eCallF (m : Fn) : EM := fun _ S => match m [] [] with
  | .ok v _ => if flatV v = true then .ok v S else .stuck
  | .exc c _ => .exc c S
  | .stuck => .stuck
section
variable {X : Cx} {K : PySem.W.Frag} {g : G} {EX : XK} {H : Hp} {ι : List Addr} {S : Store}
theorem Grow.none {ι' : List Addr} {H' : Hp} (G : Grow [] H ι' H') : Grow ι H ι H' := ⟨⟨⟨[], by simp, by simp⟩, fun a o h _ ht => G.keep a o h (by simp) ht, G.there, G.tbl⟩, G.frz⟩
theorem Rel.again {ι' : List Addr} {H' : Hp} {S' : Store} (R : Rel K H ι g S) (G : Grow [] H ι' H') (R' : Rel K H' ι' g S') : Rel K H' ι g S :=
  ⟨R.len, R.nd, fun n c a h1 h2 => by
    have h := R.cell n c a h1 h2
    obtain ⟨o, ho, ht⟩ := h.some
    exact h.mono (Grow.none G) (by rw [G.keep a o ho (by simp) ht, ho]), R'.tab⟩
theorem Rel.nil (R : Rel K H ι g S) : Rel K H [] g [] := ⟨rfl, .nil, fun n c a h => by simp at h, R.tab⟩
theorem rep_flat {H' : Hp} {ι ι' : List Addr} {x : AV} {v : V} (h : flatV x = true) (r : Rep K H ι x v) : Rep K H' ι' x v := by
  cases x <;> first | exact r | cases h
variable {x : Str} {p pos : Pos} {k j : Nat} {f : Addr} {m : Fn}
theorem me_call0F (gx : GX EX j X) (Fm : FnM X.prog X.w X.K X.mg X.base g k f [] m) (hk : k ≤ j) (hm : X.mg x = some (.ref f)) (hg : Gl X x := by rfl) (hdb : (x == ("__debug__" : Str)) = false := by decide) : ME g EX X (.Call (.Name x p) [] [] pos) (eCallF m) := by
  obtain ⟨⟨fd, Fo, B⟩, kp⟩ := Fm
  refine PE.imp (pe_call0 Fo (gx.room.mono hk) hg hm kp B .nil gx.passes hdb) fun σ H Q ⟨ι, Λ, S, R, E, p⟩ => ⟨[], [], [], R.nil, rfl, rfl, ?_⟩
  unfold eCallF at p
  cases e : m [] [] with
  | ok v S1 =>
    rw [e] at p
    dsimp only at p
    intro ι' H' G' R' w rw'
    split at p
    · rename_i hv
      exact p ι H' (Grow.none G') (R.again G' R') w (rep_flat hv rw')
    · exact p.elim
  | exc c S1 => rw [e] at p; exact fun ι' H' d G' R' => p ι H' d (Grow.none G') (R.again G' R')
  | stuck => rw [e] at p; exact p.elim
end
end Mir
end

section
set_option Elab.async false
set_option linter.all false
set_option maxRecDepth 100000
set_option maxHeartbeats 1000000
/-! MirEnd: the defs' facts from the head; the law's end. -/
namespace Mir
open PySem PySem.Spec PyProof.Rows L2

section
variable {P : Program} {w : World} {K : PySem.W.Frag} {mg : Str → Option Value} {base : Heap} {g : G}
theorem body_ok {N ps : List Str} {M : SM} {H : Hp} {E : XK} {Q : VK} {vs : List V} {X : Cx} {sts : List Stmt} (eK : X.K = K) (hb : MSs g E X sts M) (h : spM K g (fdef N.length ps.length M) ps.length vs H Q E) :
    ∃ t, PSs X sts t ∧ t { nx := fun _ H' => Q .non H', rt := Q } (L2.start N vs) H := by
  obtain ⟨ι, S, xs, R, r, l, p⟩ := h
  subst eK
  refine ⟨_, hb, ι, xs.map some ++ List.replicate (N.length - ps.length) none, S, R, ?_, ?_⟩
  · have e : L2.start N vs = vs.map some ++ List.replicate (N.length - ps.length) none := by
      unfold L2.start
      rw [r.len, l]
    rw [e]
    exact renv_start r
  · unfold fdef at p
    rw [if_pos l] at p
    cases e : M (xs.map some ++ List.replicate (N.length - ps.length) none) S with
    | nx Λ S' => rw [e] at p; exact fun ι' H' σ' G R' E' => p ι' H' G R' .non rfl
    | rt v S' => rw [e] at p; exact fun ι' H' v G R' r' => p ι' H' G R' v r'
    | exc c S' => rw [e] at p; exact p
    | bk Λ S' => rw [e] at p; exact p.elim
    | ct Λ S' => rw [e] at p; exact p.elim
    | stuck => rw [e] at p; exact p.elim
/-- as fnM_of, the function's data told -/
theorem fnOk_of {x qual : Str} {st : Stmt} {f : Addr} {fd : FuncData} {N ps : List Str} {k : Nat} {M : SM} (F : Fun K x qual st f fd) (Sc : FnScope N ps (defScope st)) (hN : ps.length ≤ N.length)
    (hb : ∀ (cdv : Value) (A : Around) (outer : List Env) (s : Shared) (H : Hp) (E : XK), GX E k (cxOf (L2.CX P w) P w K mg base N qual (defScope st) f cdv A outer s H E) → MSs g E (cxOf (L2.CX P w) P w K mg base N qual (defScope st) f cdv A outer s H E) (defBody st) M) :
    FnOk P w K mg base (L2.CX P w) (k + 1) f fd ps (spM K g (fdef N.length ps.length M) ps.length) :=
  F.okX Sc (fun vs H Q E ⟨ι, S, xs, _, r, l, _⟩ => by rw [r.len, l]) fun cdv A outer s H vs Q E hr h => body_ok rfl (hb cdv A outer s H E ⟨rfl, hr, L2.takes_of rfl rfl rfl rfl, L2.passes_of rfl⟩) h
theorem fnOk_ofC {x qual : Str} {st : Stmt} {f c : Addr} {fd : FuncData} {N ps : List Str} {k : Nat} {M : SM} (F : FunC K x qual st f fd c) (Sc : FnScope N ps (defScope st)) (hN : ps.length ≤ N.length)
    (hb : ∀ (A : Around) (outer : List Env) (s : Shared) (H : Hp) (E : XK), GX E k (cxOf (L2.CX P w) P w K mg base N qual (defScope st) f (.ref c) A outer s H E) → MSs g E (cxOf (L2.CX P w) P w K mg base N qual (defScope st) f (.ref c) A outer s H E) (defBody st) M) :
    FnOk P w K mg base (L2.CX P w) (k + 1) f fd ps (spM K g (fdef N.length ps.length M) ps.length) := by
  obtain ⟨oc, od, kV, doc, pm, an, ct, osl, e, lk, hcd⟩ := F.ex
  subst e
  exact fn_of lk hcd Sc (fun vs H Q E ⟨ι, S, xs, _, r, l, _⟩ => by rw [r.len, l]) fun A outer s H vs Q E hr h => body_ok rfl (hb A outer s H E ⟨rfl, hr, L2.takes_of rfl rfl rfl rfl, L2.passes_of rfl⟩) h
theorem fun_ofD {x qual : Str} {st : Stmt} {f : Addr} {fd : FuncData} (D : FunD K x qual (defArgs st) (defBody st) (defScope st) [] [] f fd) : Fun K x qual st f fd := by
  obtain ⟨⟨oc, od, dV, kV, doc, pm, an, cdv, ct, osl, e, lk, hcd, hD, _⟩, kp⟩ := D
  rcases hD with ⟨_, rfl⟩ | ⟨z, _⟩
  · exact ⟨⟨oc, od, kV, doc, pm, an, cdv, ct, osl, e, lk, hcd⟩, kp⟩
  · exact absurd rfl z
theorem funC_ofD {x qual : Str} {st : Stmt} {p : Str × Option Str} {fd : FuncData} (D : FunD K x qual (defArgs st) (defBody st) (defScope st) [] [] (He.fAd K p) fd) : FunC K x qual st (He.fAd K p) fd (He.codeOf K p) := by
  obtain ⟨⟨oc, od, dV, kV, doc, pm, an, cdv, ct, osl, e, lk, hcd, hD, _⟩, kp⟩ := D
  rcases hD with ⟨_, rfl⟩ | ⟨z, _⟩
  · obtain ⟨c, rfl⟩ := He.codeIn_ref hcd
    have ec : He.codeOf K p = c := He.codeOf_eq lk (by rw [e] <;> rfl)
    rw [ec]
    exact ⟨⟨oc, od, kV, doc, pm, an, ct, osl, e, lk, hcd⟩, kp⟩
  · exact absurd rfl z
theorem fnM_stuck {x qual : Str} {st : Stmt} {f : Addr} {fd : FuncData} {N ps : List Str} {k : Nat} (F : Fun K x qual st f fd) (B : Binds K fd ps []) (Sc : FnScope N ps (defScope st)) : FnM P w K mg base g k f ps fun _ _ => .stuck :=
  ⟨⟨fd, ⟨fun vs H Q E ⟨ι, S, xs, _, _, _, p⟩ => p.elim, fun A outer s H args us vs Q E hr e0 hb r ⟨ι, S, xs, _, _, _, p⟩ => p.elim⟩, B⟩, F.kp⟩
theorem tabs_uniq : ∀ {T : List (Addr × Str)} {P : Addr} {q : Str}, (T.map (·.1)).Nodup → (P, q) ∈ T → ∀ p ∈ T, p.1 = P → p.2 = q
  | [], _, _, _, h => by cases h
  | t :: r, P, q, nd, h => by
    rw [List.map_cons, List.nodup_cons] at nd
    intro p hp e
    rcases List.mem_cons.mp h with z | z <;> rcases List.mem_cons.mp hp with y | y
    · rw [y, ← z]
    · refine absurd (List.mem_map.mpr ⟨p, y, ?_⟩) nd.1
      rw [e, ← z]
    · refine absurd (List.mem_map.mpr ⟨_, z, ?_⟩) nd.1
      rw [← y, e]
    · exact tabs_uniq nd.2 z p y e
theorem reps_ints {H : Hp} {ι : List Addr} : ∀ ns : List Int, Reps K H ι (ns.map AV.int) (ns.map V.int)
  | [] => rfl
  | n :: ns => ⟨_, _, rfl, rfl, reps_ints ns⟩
/-- the law's end -/
theorem law_at {l : PySem.W.OpenLaw} {fa : Addr} {h : Heap} {k : Nat} {fd : FuncData} {m : Fn} {cs : List (Addr × Addr)} {x : Str} {n : Nat} (hT : ∀ p ∈ cs, h.get? p.2 = some { cls := .none, data := .fields #[] }) (nT : ∀ p ∈ cs, K.lookup p.2 = none) (C : ∀ p ∈ cs, PySem.W.CodeHd h p.1 p.2)
    (hb : ∀ (s : Shared) (u : Value), BindsTo s fd ⟨[u], []⟩ [(x, u)]) (hg : ∀ p ∈ g.tabs, ∃ c, (c, p.1) ∈ cs)
    (hF : ∀ base : Heap, K.In base → base.Ns mainGlobals mg → (∀ p ∈ cs, LamX.TabB base mg p.1 p.2) → FnOk l.prog w K mg base (L2.CX l.prog w) k fa fd [x] (spM K g m 1))
    (plain : ∀ ns : List Int, ns.length ≤ n → (∀ z ∈ ns, Builtin.Int.intBits z ≤ 1048576) → ∃ S', m [.kst (ns.map AV.int)] [] = .ok (.bl true) S') : LamX.LawAtS l w K (L2.CX l.prog w) k n x mg fa h := by
  refine ⟨fd, cs, spM K g m 1, hT, nT, C, hb, fun H a ns hl hz hH hS => ?_, hF⟩
  obtain ⟨S', e⟩ := plain ns hl hz
  refine ⟨[], [], [.kst (ns.map AV.int)], ⟨rfl, .nil, fun n c a e => (by simp at e), fun p hp => ?_⟩, ⟨_, _, rfl, ⟨a, _, rfl, ?_, reps_ints ns⟩, rfl⟩, rfl, ?_⟩
  · obtain ⟨c, hc⟩ := hg p hp
    exact LamX.TabS.nil (hH _ hc)
  · rcases hS with z | z
    · exact .inl ⟨by simp, z⟩
    · exact .inr z
  · rw [e]
    exact fun ι' H' _ _ v r => r
theorem cx_end {P : Program} {w : World} {H : Hp} {s s' : Shared} {e : Value} (h : L2.CX P w [] H s (fun _ _ _ => False) e s') : False := by
  obtain ⟨_, _, _, _, _, _, _, _, _, _, _, _, z⟩ := h
  exact z
end
end Mir
end

section
set_option Elab.async false
set_option linter.all false
set_option maxRecDepth 100000
set_option maxHeartbeats 1000000
/-! MirWp: what a mirror's run ends in, step by step (for the plain laws). -/
namespace Mir
open PySem PySem.Spec PyProof.Rows L2
abbrev Xp := Nat → Store → Prop
abbrev noX : Xp := fun _ _ => False
/-- a reading's end -/
def RP {α : Type} (r : Res α) (Q : α → Store → Prop) (X : Xp) : Prop := match r with
  | .ok v S => Q v S
  | .exc c S => X c S
  | .stuck => False
/-- a statement's end: on, or with a value -/
def SW (r : SRes) (N : LEnv → Store → Prop) (R : AV → Store → Prop) (X : Xp) : Prop := match r with
  | .nx Λ S => N Λ S
  | .rt v S => R v S
  | .exc c S => X c S
  | _ => False
def GW (r : SRes) (N : LEnv → Store → Prop) : Prop := match r with
  | .nx Λ S => N Λ S
  | _ => False
section
variable {α β : Type} {Q : AV → Store → Prop} {QA : List AV → Store → Prop} {QB : Bool → Store → Prop} {X : Xp} {N : LEnv → Store → Prop} {R : AV → Store → Prop} {Λ : LEnv} {S : Store} {a b c o : EM} {t u : TM} {A B : SM} {F : AM} {m : Fn} {f f2 : AV → AV → Store → Res AV}
theorem RP.mono {r : Res α} {Q Q' : α → Store → Prop} (h : RP r Q X) (k : ∀ v S, Q v S → Q' v S) : RP r Q' X := by
  cases r <;> first | exact k _ _ h | exact h
theorem rp_bind {r : Res α} {f : α → Store → Res β} {Q : β → Store → Prop} (h : RP r (fun v S => RP (f v S) Q X) X) : RP (r.bind f) Q X := by
  cases r <;> exact h
theorem rp_sbind {r : Res α} {f : α → Store → SRes} (h : RP r (fun v S => SW (f v S) N R X) X) : SW (r.sbind f) N R X := by
  cases r <;> exact h
theorem rp_eq {r : Res α} {v : α} {S' : Store} (h : RP r (fun u S => u = v ∧ S = S') noX) : r = .ok v S' := by
  cases r with
  | ok u S => obtain ⟨rfl, rfl⟩ := h; rfl
  | exc c S => exact h.elim
  | stuck => exact h.elim
theorem rp_of {r : Res α} {Q : α → Store → Prop} {v : α} {S' : Store} (e : r = .ok v S') (q : Q v S') : RP r Q X := by rw [e]; exact q
theorem rp_ex {r : Res α} {Q : α → Store → Prop} (h : RP r Q noX) : ∃ v S', r = .ok v S' ∧ Q v S' := by
  cases r with
  | ok u S => exact ⟨u, S, rfl, h⟩
  | exc c S => exact h.elim
  | stuck => exact h.elim
theorem w_var {i : Nat} {v : AV} (e : Λ[i]? = some (some v)) (q : Q v S) : RP (eVar i Λ S) Q X := by unfold eVar; rw [e]; exact q
theorem w_c {v : AV} (q : Q v S) : RP (eC v Λ S) Q X := q
theorem w_op (h : RP (a Λ S) (fun x S1 => RP (b Λ S1) (fun y S2 => RP (f x y S2) Q X) X) X) : RP (eOp f a b Λ S) Q X := rp_bind (h.mono fun _ _ h => rp_bind h)
theorem w_un {f : AV → Store → Res AV} (h : RP (a Λ S) (fun x S1 => RP (f x S1) Q X) X) : RP (eUn f a Λ S) Q X := rp_bind h
theorem w_nil (q : QA [] S) : RP (aNil Λ S) QA X := q
theorem w_cons (h : RP (a Λ S) (fun x S1 => RP (F Λ S1) (fun xs S2 => QA (x :: xs) S2) X) X) : RP (aCons a F Λ S) QA X := rp_bind (h.mono fun _ _ h => rp_bind h)
theorem w_tup (h : RP (F Λ S) (fun xs S1 => xs.length ≤ szL ∧ Q (.tup xs) S1) X) : RP (eTup F Λ S) Q X := rp_bind (h.mono fun xs S1 ⟨l, q⟩ => by rw [if_pos l]; exact q)
theorem w_lstF (h : RP (F Λ S) (fun xs S1 => xs.length ≤ szL ∧ Q (.lst xs) S1) X) : RP (eLstF F Λ S) Q X := rp_bind (h.mono fun xs S1 ⟨l, q⟩ => by rw [if_pos l]; exact q)
theorem w_lstR (h : RP (F Λ S) (fun xs S1 => xs.length ≤ szL ∧ Q (.ref S1.length) (S1 ++ [.lst xs])) X) : RP (eLstR F Λ S) Q X := rp_bind (h.mono fun xs S1 ⟨l, q⟩ => by rw [if_pos l]; exact q)
theorem w_dct0 (q : Q (.ref S.length) (S ++ [.dct []])) : RP (eDct0 Λ S) Q X := q
theorem w_val (h : RP (a Λ S) (fun x S1 => ∃ b, x = .bl b ∧ QB b S1) X) : RP (tVal a Λ S) QB X := rp_bind (h.mono fun x S1 ⟨b, e, q⟩ => by rw [e]; exact q)
theorem w_tru (h : RP (a Λ S) (fun x S1 => ∃ b, tru S1 x = some b ∧ QB b S1) X) : RP (tTru a Λ S) QB X := rp_bind (h.mono fun x S1 ⟨b, e, q⟩ => by rw [e]; exact q)
theorem w_chain (h : RP (a Λ S) (fun x S1 => RP (b Λ S1) (fun y S2 => RP (f x y S2) (fun z S3 => ∃ k, z = .bl k ∧ (k = true → RP (c Λ S3) (fun w S4 => RP (f2 y w S4) Q X) X) ∧ (k = false → Q (.bl false) S3)) X) X) X) : RP (eChain f f2 a b c Λ S) Q X :=
  rp_bind (h.mono fun _ _ h => rp_bind (h.mono fun _ _ h => rp_bind (h.mono fun z S3 ⟨k, e, q1, q2⟩ => by
    subst e
    cases k with
    | true => exact rp_bind (q1 rfl)
    | false => exact q2 rfl)))
theorem w_ife (h : RP (t Λ S) (fun k S1 => (k = true → RP (a Λ S1) Q X) ∧ (k = false → RP (b Λ S1) Q X)) X) : RP (eIf t a b Λ S) Q X := rp_bind (h.mono fun k S1 ⟨q1, q2⟩ => by
  cases k with
  | true => exact q1 rfl
  | false => exact q2 rfl)
theorem w_eand (h : RP (a Λ S) (fun x S1 => ∃ k, tru0 S1 x = some k ∧ (k = true → RP (b Λ S1) Q X) ∧ (k = false → Q x S1)) X) : RP (eAnd a b Λ S) Q X := rp_bind (h.mono fun x S1 ⟨k, e, q1, q2⟩ => by
  rw [e]
  cases k with
  | true => exact q1 rfl
  | false => exact q2 rfl)
theorem w_eor (h : RP (a Λ S) (fun x S1 => ∃ k, tru0 S1 x = some k ∧ (k = true → Q x S1) ∧ (k = false → RP (b Λ S1) Q X)) X) : RP (eOr a b Λ S) Q X := rp_bind (h.mono fun x S1 ⟨k, e, q1, q2⟩ => by
  rw [e]
  cases k with
  | true => exact q1 rfl
  | false => exact q2 rfl)
theorem w_and (h : RP (t Λ S) (fun k S1 => (k = true → RP (u Λ S1) QB X) ∧ (k = false → QB false S1)) X) : RP (tAnd t u Λ S) QB X := rp_bind (h.mono fun k S1 ⟨q1, q2⟩ => by
  cases k with
  | true => exact q1 rfl
  | false => exact q2 rfl)
theorem w_or (h : RP (t Λ S) (fun k S1 => (k = true → QB true S1) ∧ (k = false → RP (u Λ S1) QB X)) X) : RP (tOr t u Λ S) QB X := rp_bind (h.mono fun k S1 ⟨q1, q2⟩ => by
  cases k with
  | true => exact q1 rfl
  | false => exact q2 rfl)
/-- .. where the first test is false -/
theorem w_orF (h : RP (t Λ S) (fun k S1 => k = false ∧ RP (u Λ S1) QB X) X) : RP (tOr t u Λ S) QB X := w_or (h.mono fun k S1 ⟨e, q⟩ => ⟨fun z => (by rw [e] at z; cases z), fun _ => q⟩)
theorem w_not (h : RP (t Λ S) (fun k S1 => QB (!k) S1) X) : RP (tNot t Λ S) QB X := rp_bind h
theorem w_call (h : RP (F Λ S) (fun xs S1 => RP (m xs S1) Q X) X) : RP (eCall m F Λ S) Q X := rp_bind h
theorem w_meth {k : Nat} (h : RP (o Λ S) (fun x S1 => ∃ n fs, x = .ref n ∧ S1[n]? = some (.ins k fs) ∧ RP (F Λ S1) (fun xs S2 => RP (m (x :: xs) S2) Q X) X) X) : RP (eMeth k m o F Λ S) Q X := rp_bind (h.mono fun x S1 ⟨n, fs, e, e2, q⟩ => by
  subst e
  dsimp only
  rw [e2]
  dsimp only
  rw [if_pos rfl]
  exact rp_bind q)
theorem w_make {k : Nat} (h : RP (F Λ S) (fun xs S1 => RP (m (.ref S1.length :: xs) (S1 ++ [.ins k []])) (fun r S2 => r = .non ∧ Q (.ref S1.length) S2) X) X) : RP (eMake k m F Λ S) Q X := rp_bind (h.mono fun xs S1 h => rp_bind (h.mono fun r S2 ⟨e, q⟩ => by subst e; exact q))
theorem w_attr {i : Nat} (h : RP (o Λ S) (fun x S1 => ∃ n k fs v, x = .ref n ∧ S1[n]? = some (.ins k fs) ∧ flook i fs = some v ∧ Q v S1) X) : RP (eAttr i o Λ S) Q X := rp_bind (h.mono fun x S1 ⟨n, k, fs, v, e, e2, e3, q⟩ => by
  subst e
  dsimp only
  rw [e2]
  dsimp only
  rw [e3]
  exact q)
theorem w_told {cs : List Nat} {ret : Sg} (h : RP (b Λ S) Q (fun k S1 => k ∈ cs ∧ Q (.str ret) S1)) : RP (eTold cs ret b Λ S) Q X := by
  unfold eTold
  cases e : b Λ S with
  | ok v S1 => rw [e] at h; exact h
  | exc k S1 => rw [e] at h; dsimp only; rw [if_pos h.1]; exact h.2
  | stuck => rw [e] at h; exact h.elim
theorem w_bm {T : BT} (h : RP (o Λ S) (fun x S1 => T.is S1 x = true ∧ RP (F Λ S1) (fun xs S2 => RP (m (x :: xs) S2) Q X) X) X) : RP (eBM T m o F Λ S) Q X := rp_bind (h.mono fun x S1 ⟨e, q⟩ => by rw [if_pos e]; exact rp_bind q)
theorem w_sl {lo hi : OM} (h : RP (a Λ S) (fun x S1 => RP (lo Λ S1) (fun l S2 => RP (hi Λ S2) (fun k S3 => RP (opSl x l k S3) Q X) X) X) X) : RP (eSl a lo hi Λ S) Q X := rp_bind (h.mono fun _ _ h => rp_bind (h.mono fun _ _ h => rp_bind h))
theorem w_oN {Q : Option Int → Store → Prop} (q : Q none S) : RP (oNone Λ S) Q X := q
theorem w_oS {Q : Option Int → Store → Prop} (h : RP (a Λ S) (fun x S1 => ∃ i, x = .int i ∧ Q (some i) S1) X) : RP (oSome a Λ S) Q X := rp_bind (h.mono fun x S1 ⟨i, e, q⟩ => by subst e; exact q)
theorem w_dctP {p : PM} (h : RP (p Λ S) (fun ps S1 => ps.length ≤ 15 ∧ Q (.ref S1.length) (S1 ++ [.dct (mergeD [] ps)])) X) : RP (eDctP p Λ S) Q X := rp_bind (h.mono fun ps S1 ⟨e, q⟩ => by rw [if_pos e]; exact q)
theorem w_pN {Q : List (AK × AV) → Store → Prop} (q : Q [] S) : RP (pNil Λ S) Q X := q
theorem w_pC {Q : List (AK × AV) → Store → Prop} {p : PM} (h : RP (a Λ S) (fun x S1 => RP (b Λ S1) (fun y S2 => ∃ k, akOf x = some k ∧ RP (p Λ S2) (fun ps S3 => Q ((k, y) :: ps) S3) X) X) X) : RP (pCons a b p Λ S) Q X := rp_bind (h.mono fun _ _ h => rp_bind (h.mono fun y S2 ⟨k, e, q⟩ => by rw [e]; exact rp_bind q))
theorem w_fdef {nN np : Nat} {M : SM} {xs : List AV} (l : xs.length = np) (h : SW (M (xs.map some ++ List.replicate (nN - np) none) S) (fun _ S' => Q .non S') Q X) : RP (fdef nN np M xs S) Q X := by
  unfold fdef
  rw [if_pos l]
  cases e : M (xs.map some ++ List.replicate (nN - np) none) S <;> rw [e] at h <;> exact h
theorem w_callF {v : AV} {S' : Store} (e : m [] [] = .ok v S') (hv : flatV v = true) (q : Q v S) : RP (eCallF m Λ S) Q X := by
  unfold eCallF
  rw [e]
  dsimp only
  rw [if_pos hv]
  exact q
/-! statements -/
theorem s_next (q : N Λ S) : SW (sNext Λ S) N R X := q
theorem s_seq (h : SW (A Λ S) (fun Λ1 S1 => SW (B Λ1 S1) N R X) R X) : SW (sSeq A B Λ S) N R X := by
  unfold sSeq
  cases e : A Λ S <;> rw [e] at h <;> exact h
theorem s_asg {g : GM} (h : RP (a Λ S) (fun v S1 => GW (g v Λ S1) N) X) : SW (sAsg a g Λ S) N R X := rp_sbind (h.mono fun v S1 q => by
  cases e : g v Λ S1 <;> rw [e] at q <;> exact q)
theorem g_name {i : Nat} {v : AV} (q : N (Λ.set i (some v)) S) : GW (gName i v Λ S) N := q
theorem g_pat {p : Pt} {v : AV} {as : List (Nat × AV)} (e : dest p v = some as) (q : N (putA Λ as) S) : GW (gPat p v Λ S) N := by unfold gPat; rw [e]; exact q
theorem g_sub {v : AV} (h : RP (a Λ S) (fun x S1 => RP (b Λ S1) (fun y S2 => ∃ S3, opPut x y v S2 = some S3 ∧ N Λ S3) noX) noX) : GW (gSubM a b v Λ S) N := by
  obtain ⟨x, S1, e1, h⟩ := rp_ex h
  obtain ⟨y, S2, e2, S3, e3, q⟩ := rp_ex h
  unfold gSubM
  rw [e1, Res.gbind_ok, e2, Res.gbind_ok, e3]
  exact q
theorem s_par {is : List Nat} (h : RP (F Λ S) (fun xs S1 => xs.length = is.length ∧ N (putA Λ (is.zip xs)) S1) X) : SW (sPar is F Λ S) N R X := rp_sbind (h.mono fun xs S1 ⟨e, q⟩ => by rw [if_pos e]; exact q)
theorem s_if (h : RP (t Λ S) (fun k S1 => (k = true → SW (A Λ S1) N R X) ∧ (k = false → SW (B Λ S1) N R X)) X) : SW (sIf t A B Λ S) N R X := rp_sbind (h.mono fun k S1 ⟨q1, q2⟩ => by
  cases k with
  | true => exact q1 rfl
  | false => exact q2 rfl)
/-- .. where the test is false -/
theorem s_ifF (h : RP (t Λ S) (fun k S1 => k = false ∧ SW (B Λ S1) N R X) X) : SW (sIf t A B Λ S) N R X := s_if (h.mono fun k S1 ⟨e, q⟩ => ⟨fun z => (by rw [e] at z; cases z), fun _ => q⟩)
theorem s_ret (h : RP (a Λ S) R X) : SW (sRet a Λ S) N R X := rp_sbind h
theorem s_retN (q : R .non S) : SW (sRetN Λ S) N R X := q
theorem s_drop (h : RP (a Λ S) (fun _ S1 => N Λ S1) X) : SW (sDrop a Λ S) N R X := rp_sbind h
theorem s_raise {k : Nat} (q : X k S) : SW (sRaise k Λ S) N R X := q
theorem s_attr {k i : Nat} (h : RP (a Λ S) (fun y S1 => RP (o Λ S1) (fun x S2 => ∃ n fs, x = .ref n ∧ S2[n]? = some (.ins k fs) ∧ fs.length < 1000 ∧ N Λ (S2.set n (.ins k (fput i y fs)))) X) X) : SW (sAttr k i o a Λ S) N R X :=
  rp_sbind (h.mono fun y S1 h => rp_sbind (h.mono fun x S2 ⟨n, fs, e, e2, l, q⟩ => by
    subst e
    dsimp only
    rw [e2]
    dsimp only
    rw [if_pos ⟨rfl, l⟩]
    exact q))
theorem s_attrA {k i : Nat} (h : RP (o Λ S) (fun x S1 => ∃ n fs old, x = .ref n ∧ S1[n]? = some (.ins k fs) ∧ flook i fs = some old ∧ RP (a Λ S1) (fun y S2 => RP (f old y S2) (fun z S3 => ∃ fs', S3[n]? = some (.ins k fs') ∧ fs'.length < 1000 ∧ N Λ (S3.set n (.ins k (fput i z fs')))) X) X) X) : SW (sAttrA k i f o a Λ S) N R X :=
  rp_sbind (h.mono fun x S1 ⟨n, fs, old, e, e2, e3, h⟩ => by
    subst e
    dsimp only
    rw [e2]
    dsimp only
    rw [if_pos rfl, e3]
    refine rp_sbind (h.mono fun y S2 h => rp_sbind (h.mono fun z S3 ⟨fs', e4, l, q⟩ => ?_))
    rw [e4]
    dsimp only
    rw [if_pos ⟨rfl, l⟩]
    exact q)
theorem s_del (h : RP (a Λ S) (fun x S1 => RP (b Λ S1) (fun y S2 => ∃ S3, opDel x y S2 = some S3 ∧ N Λ S3) X) X) : SW (sDel a b Λ S) N R X := rp_sbind (h.mono fun _ _ h => rp_sbind (h.mono fun y S2 ⟨S3, e, q⟩ => by rw [e]; exact q))
theorem s_aug {i : Nat} {x : AV} (e : Λ[i]? = some (some x)) (h : RP (a Λ S) (fun y S1 => RP (f x y S1) (fun z S2 => N (Λ.set i (some z)) S2) X) X) : SW (sAug i f a Λ S) N R X := by
  unfold sAug
  rw [e]
  exact rp_sbind (h.mono fun _ _ h => rp_sbind h)
/-! walks -/
/-- a loop that goes to its end: I i: ahead of the turn i -/
theorem s_forL {keep : Store → Bool} {g : GM} {items : List AV} (I : Nat → LEnv → Store → Prop) (h0 : I 0 Λ S) (hk : ∀ i Λ S, I i Λ S → keep S = true)
    (h : ∀ i x Λ S, items[i]? = some x → I i Λ S → GW (g x Λ S) fun Λ1 S1 => SW (B Λ1 S1) (I (i + 1)) R X) (hN : ∀ Λ S, I items.length Λ S → N Λ S) : SW (forL keep g B items Λ S) N R X := by
  induction items generalizing I Λ S with
  | nil => unfold forL; rw [if_pos (hk _ _ _ h0)]; exact hN _ _ h0
  | cons x xs ih =>
    unfold forL
    rw [if_pos (hk _ _ _ h0)]
    have q := h 0 x Λ S rfl h0
    cases e : g x Λ S with
    | nx Λ1 S1 =>
      rw [e] at q
      dsimp only
      have q : SW (B Λ1 S1) (I 1) R X := q
      cases e2 : B Λ1 S1 with
      | nx Λ2 S2 =>
        rw [e2] at q
        exact ih (fun i => I (i + 1)) q (fun i => hk (i + 1)) (fun i y Λ S hy => h (i + 1) y Λ S hy) hN
      | rt v S2 => rw [e2] at q; exact q
      | exc k S2 => rw [e2] at q; exact q
      | bk Λ2 S2 => rw [e2] at q; exact q.elim
      | ct Λ2 S2 => rw [e2] at q; exact q.elim
      | stuck => rw [e2] at q; exact q.elim
    | _ => rw [e] at q; exact q.elim
theorem s_for {it : IM} {g : GM} (h : RP (it Λ S) (fun src S1 => src.lock = none ∧ SW (forL src.keep g B src.items Λ S1) N R X) X) : SW (sFor it g B Λ S) N R X := rp_sbind (h.mono fun src S1 ⟨e, q⟩ => by
  rw [e]
  cases e2 : forL src.keep g B src.items Λ S1 <;> rw [e2] at q <;> exact q)
theorem i_seq {Q : Src → Store → Prop} (h : RP (a Λ S) (fun x S1 => ∃ src S2, srcOf S1 x = some (src, S2) ∧ Q src S2) X) : RP (iSeq a Λ S) Q X := rp_bind (h.mono fun x S1 ⟨src, S2, e, q⟩ => by rw [e]; exact q)
theorem i_range1 {Q : Src → Store → Prop} (h : RP (a Λ S) (fun x S1 => ∃ j, x = .int j ∧ rng62 j = true ∧ Q { items := (List.range j.toNat).map fun (k : Nat) => .int k } S1) X) : RP (iRange1 a Λ S) Q X := rp_bind (h.mono fun x S1 ⟨j, e, e2, q⟩ => by subst e; dsimp only; rw [if_pos e2]; exact q)
theorem i_range2 {Q : Src → Store → Prop} (h : RP (a Λ S) (fun x S1 => RP (b Λ S1) (fun y S2 => ∃ i j, x = .int i ∧ y = .int j ∧ rng62 i = true ∧ rng62 j = true ∧ Q { items := (List.range (j - i).toNat).map fun (k : Nat) => .int (i + k) } S2) X) X) : RP (iRange2 a b Λ S) Q X := rp_bind (h.mono fun x S1 h => rp_bind (h.mono fun y S2 ⟨i, j, e, e2, e3, e4, q⟩ => by subst e e2; dsimp only; rw [if_pos ⟨e3, e4⟩]; exact q))
theorem i_enum {Q : Src → Store → Prop} (h : RP (a Λ S) (fun x S1 => ∃ ys k, seqSrc S1 x = some (ys, k) ∧ Q { items := enumA ys, keep := k } S1) X) : RP (iEnumM a Λ S) Q X := rp_bind (h.mono fun x S1 ⟨ys, k, e, q⟩ => by rw [e]; exact q)
theorem i_dict {Q : Src → Store → Prop} {z : Bool} {f : List (DK × AV) → List AV} (h : RP (a Λ S) (fun x S1 => ∃ src S2, dSrc z f S1 x = some (src, S2) ∧ Q src S2) X) : RP (iDict z f a Λ S) Q X := rp_bind (h.mono fun x S1 ⟨src, S2, e, q⟩ => by rw [e]; exact q)
/-- a list comprehension over data, that changes nothing -/
theorem lcL_pure {T : Type} {keep : Store → Bool} {p : Pt} {e : EM} (enc : T → AV) (f : T → Bool) (g : T → AV) (hk : keep S = true) : ∀ (L : List T) (acc : List AV), (∀ x ∈ L, ∃ as, dest p (enc x) = some as ∧ RP (t (putA Λ as) S) (fun b S' => b = f x ∧ S' = S) noX ∧ (f x = true → RP (e (putA Λ as) S) (fun v S' => v = g x ∧ S' = S) noX)) → acc.length + L.length ≤ szL →
    lcL keep p t e Λ (L.map enc) acc S = .ok (acc ++ (L.filter f).map g) S
  | [], acc, _, _ => by
    show lcL keep p t e Λ [] acc S = _
    unfold lcL
    rw [if_pos hk]; simp
  | x :: L, acc, h, hl => by
    obtain ⟨as, e1, e2, e3⟩ := h x List.mem_cons_self
    rw [List.map_cons]
    unfold lcL
    rw [if_pos hk, e1]
    dsimp only
    rw [rp_eq e2, Res.nb_ok]
    have ih := fun acc => lcL_pure enc f g hk L acc (fun y hy => h y (List.mem_cons_of_mem _ hy))
    rw [List.length_cons] at hl
    cases hb : f x with
    | true =>
      rw [if_pos rfl, rp_eq (e3 hb), Res.nb_ok, if_pos (by omega), ih _ (by rw [List.length_append, List.length_singleton]; omega), List.filter_cons_of_pos hb]
      simp
    | false =>
      rw [if_neg (by decide), ih _ (by omega), List.filter_cons_of_neg (by rw [hb]; decide)]
theorem w_lc {it : IM} {own : List Nat} {p : Pt} {e : EM} (h : RP (it Λ S) (fun src S1 => ∃ xs S2, lcL src.keep p t e (wipeA Λ own) src.items [] S1 = .ok xs S2 ∧ Q (.lst xs) (unlS src.lock S2)) X) : RP (eLc it own p t e Λ S) Q X := rp_bind (h.mono fun src S1 ⟨xs, S2, e, q⟩ => by rw [e, Res.nb_ok]; exact q)
theorem w_lcR {it : IM} {own : List Nat} {p : Pt} {e : EM} (h : RP (it Λ S) (fun src S1 => ∃ xs S2, lcL src.keep p t e (wipeA Λ own) src.items [] S1 = .ok xs S2 ∧ Q (.ref S2.length) (unlS src.lock (S2 ++ [.lst xs]))) X) : RP (eLcR it own p t e Λ S) Q X := rp_bind (h.mono fun src S1 ⟨xs, S2, e, q⟩ => by rw [e, Res.nb_ok]; exact q)
theorem w_yes (q : QB true S) : RP (tYesM Λ S) QB X := q
/-- .. that may change the store: I is what holds of the store and of what is made -/
theorem lcL_inv {keep : Store → Bool} {p : Pt} {e : EM} (I : Nat → List AV → Store → Prop) (hk : ∀ i acc S, I i acc S → keep S = true) : ∀ (items : List AV) (i : Nat) (acc : List AV) (S : Store), I i acc S →
    (∀ j x acc S, items[j]? = some x → I (i + j) acc S → ∃ as, dest p x = some as ∧ RP (t (putA Λ as) S) (fun b S1 => (b = true → RP (e (putA Λ as) S1) (fun v S2 => acc.length < szL ∧ I (i + j + 1) (acc ++ [v]) S2) noX) ∧ (b = false → I (i + j + 1) acc S1)) noX) →
    ∃ xs S', lcL keep p t e Λ items acc S = .ok xs S' ∧ I (i + items.length) xs S'
  | [], i, acc, S, h0, _ => ⟨acc, S, by unfold lcL; rw [if_pos (hk _ _ _ h0)], h0⟩
  | x :: items, i, acc, S, h0, h => by
    obtain ⟨as, e1, q⟩ := h 0 x acc S rfl h0
    obtain ⟨b, S1, e2, q1, q2⟩ := rp_ex q
    have more : ∀ acc' S', I (i + 1) acc' S' → ∃ xs S'', lcL keep p t e Λ items acc' S' = .ok xs S'' ∧ I (i + (items.length + 1)) xs S'' := fun acc' S' h1 => by
      obtain ⟨xs, S'', e3, q3⟩ := lcL_inv I hk items (i + 1) acc' S' h1 fun j y acc S hy hI => by
        have := h (j + 1) y acc S hy (by rw [show i + (j + 1) = i + 1 + j by omega]; exact hI)
        rw [show i + (j + 1) = i + 1 + j by omega] at this
        exact this
      exact ⟨xs, S'', e3, by rw [show i + (items.length + 1) = i + 1 + items.length by omega]; exact q3⟩
    unfold lcL
    rw [if_pos (hk _ _ _ h0), e1]
    dsimp only
    rw [e2, Res.nb_ok]
    cases b with
    | true =>
      obtain ⟨v, S2, e3, l, q3⟩ := rp_ex (q1 rfl)
      rw [if_pos rfl, e3, Res.nb_ok, if_pos l]
      exact more _ _ q3
    | false =>
      rw [if_neg (by decide)]
      exact more _ _ (q2 rfl)
end
/-- an operation that is computed -/
theorem w_is {α : Type} {r : Res α} {Q : α → Store → Prop} {X : Xp} {v : α} {S' : Store} (e : r = .ok v S') (q : Q v S') : RP r Q X := by rw [e]; exact q
section
variable {Q : AV → Store → Prop} {X : Xp} {S : Store} {i j : Int}
theorem w_mod (h : 0 < j) (q : Q (.int (i % j)) S) : RP (opMod (.int i) (.int j) S) Q X := w_is (if_pos h) q
theorem w_div (h : 0 < j) (h2 : j < 1073741824) (q : Q (.int (i / j)) S) : RP (opDiv (.int i) (.int j) S) Q X := w_is (if_pos ⟨h, h2⟩) q
theorem w_mul (h : mulOk i j = true) (q : Q (.int (i * j)) S) : RP (opMul (.int i) (.int j) S) Q X := w_is (if_pos h) q
theorem mulR (h : -18446744073709551616 < j ∧ j < 18446744073709551616) : mulOk i j = true := by
  unfold mulOk
  rw [Bool.or_eq_true, Bool.and_eq_true, Bool.and_eq_true]
  exact .inr ⟨decide_eq_true (by omega), decide_eq_true (by omega)⟩
theorem mulL (h : -18446744073709551616 < i ∧ i < 18446744073709551616) : mulOk i j = true := by
  unfold mulOk
  rw [Bool.or_eq_true, Bool.and_eq_true, Bool.and_eq_true]
  exact .inl ⟨decide_eq_true (by omega), decide_eq_true (by omega)⟩
theorem w_addI (q : Q (.int (i + j)) S) : RP (opAdd (.int i) (.int j) S) Q X := w_is rfl q
theorem w_subI (q : Q (.int (i - j)) S) : RP (opSub (.int i) (.int j) S) Q X := w_is rfl q
theorem w_iaddI (q : Q (.int (i + j)) S) : RP (opIAdd (.int i) (.int j) S) Q X := w_is rfl q
theorem w_negI (q : Q (.int (-i)) S) : RP (opNeg (.int i) S) Q X := w_is rfl q
theorem w_intI (q : Q (.int i) S) : RP (fInt [.int i] S) Q X := w_is rfl q
theorem w_intB {b : Bool} (q : Q (.int (b01 b)) S) : RP (fInt [.bl b] S) Q X := w_is rfl q
theorem w_lt (q : Q (.bl (decide (i < j))) S) : RP (opCmp .lt (.int i) (.int j) S) Q X := w_is rfl q
theorem w_le (q : Q (.bl (decide (i ≤ j))) S) : RP (opCmp .le (.int i) (.int j) S) Q X := w_is rfl q
theorem w_gt (q : Q (.bl (decide (j < i))) S) : RP (opCmp .gt (.int i) (.int j) S) Q X := w_is rfl q
theorem w_ge (q : Q (.bl (decide (j ≤ i))) S) : RP (opCmp .ge (.int i) (.int j) S) Q X := w_is rfl q
theorem w_eqI (q : Q (.bl (decide (i = j))) S) : RP (opEq (.int i) (.int j) S) Q X := w_is rfl q
theorem w_neI (q : Q (.bl (decide (i ≠ j))) S) : RP (opNe (.int i) (.int j) S) Q X := w_is (by
  have e : (decide (i ≠ j)) = !(i == j) := by
    by_cases h : i = j
    · subst h; simp
    · rw [decide_eq_true h, beq_eq_false_iff_ne.mpr h]; rfl
  rw [e]; rfl) q
end
section
variable {Q : AV → Store → Prop} {X : Xp} {S : Store} {Λ : LEnv} {t u : TM} {QB : Bool → Store → Prop} {N : LEnv → Store → Prop} {R : AV → Store → Prop} {A B : SM}
theorem w_eqS {x y : Sg} (q : Q (.bl (decide (x = y))) S) : RP (opEq (.str x) (.str y) S) Q X := w_is (by
  have e : decide (x = y) = (x == y) := by
    by_cases h : x = y
    · subst h; simp
    · rw [decide_eq_false h, beq_eq_false_iff_ne.mpr h]
  rw [e]; rfl) q
theorem w_neS {x y : Sg} (q : Q (.bl (decide (x ≠ y))) S) : RP (opNe (.str x) (.str y) S) Q X := w_is (by
  have e : decide (x ≠ y) = !(x == y) := by
    by_cases h : x = y
    · subst h; simp
    · rw [decide_eq_true h, beq_eq_false_iff_ne.mpr h]; rfl
  rw [e]; rfl) q
theorem w_andF (h : RP (t Λ S) (fun k S1 => k = false ∧ QB false S1) X) : RP (tAnd t u Λ S) QB X := w_and (h.mono fun k S1 ⟨e, q⟩ => ⟨fun z => (by rw [e] at z; cases z), fun _ => q⟩)
theorem w_andT (h : RP (t Λ S) (fun k S1 => k = true ∧ RP (u Λ S1) QB X) X) : RP (tAnd t u Λ S) QB X := w_and (h.mono fun k S1 ⟨e, q⟩ => ⟨fun _ => q, fun z => (by rw [e] at z; cases z)⟩)
theorem w_orT (h : RP (t Λ S) (fun k S1 => k = true ∧ QB true S1) X) : RP (tOr t u Λ S) QB X := w_or (h.mono fun k S1 ⟨e, q⟩ => ⟨fun _ => q, fun z => (by rw [e] at z; cases z)⟩)
theorem s_ifT (h : RP (t Λ S) (fun k S1 => k = true ∧ SW (A Λ S1) N R X) X) : SW (sIf t A B Λ S) N R X := s_if (h.mono fun k S1 ⟨e, q⟩ => ⟨fun _ => q, fun z => (by rw [e] at z; cases z)⟩)
theorem w_ifT {a b : EM} (h : RP (t Λ S) (fun k S1 => k = true ∧ RP (a Λ S1) Q X) X) : RP (eIf t a b Λ S) Q X := w_ife (h.mono fun k S1 ⟨e, q⟩ => ⟨fun _ => q, fun z => (by rw [e] at z; cases z)⟩)
theorem w_ifF {a b : EM} (h : RP (t Λ S) (fun k S1 => k = false ∧ RP (b Λ S1) Q X) X) : RP (eIf t a b Λ S) Q X := w_ife (h.mono fun k S1 ⟨e, q⟩ => ⟨fun z => (by rw [e] at z; cases z), fun _ => q⟩)
theorem w_eandF {a b : EM} (h : RP (a Λ S) (fun x S1 => tru0 S1 x = some false ∧ Q x S1) X) : RP (eAnd a b Λ S) Q X := w_eand (h.mono fun x S1 ⟨e, q⟩ => ⟨false, e, fun z => (by cases z), fun _ => q⟩)
theorem w_eandT {a b : EM} (h : RP (a Λ S) (fun x S1 => tru0 S1 x = some true ∧ RP (b Λ S1) Q X) X) : RP (eAnd a b Λ S) Q X := w_eand (h.mono fun x S1 ⟨e, q⟩ => ⟨true, e, fun _ => q, fun z => (by cases z)⟩)
theorem w_notB {b : Bool} (q : Q (.bl (!b)) S) : RP (opNot (.bl b) S) Q X := w_is rfl q
end
section
variable {Q : AV → Store → Prop} {X : Xp} {S : Store} {Λ : LEnv} {t u : TM} {QB : Bool → Store → Prop} {N : LEnv → Store → Prop} {R : AV → Store → Prop} {A B : SM} {a b : EM}
/-- a test that is told apart, and changes nothing -/
theorem s_ifF' (h : RP (t Λ S) (fun k S1 => k = false ∧ S1 = S) noX) (q : SW (B Λ S) N R X) : SW (sIf t A B Λ S) N R X := by unfold sIf; rw [rp_eq h]; exact q
theorem s_ifT' (h : RP (t Λ S) (fun k S1 => k = true ∧ S1 = S) noX) (q : SW (A Λ S) N R X) : SW (sIf t A B Λ S) N R X := by unfold sIf; rw [rp_eq h]; exact q
theorem w_ifF' (h : RP (t Λ S) (fun k S1 => k = false ∧ S1 = S) noX) (q : RP (b Λ S) Q X) : RP (eIf t a b Λ S) Q X := by unfold eIf; rw [rp_eq h]; exact q
theorem w_ifT' (h : RP (t Λ S) (fun k S1 => k = true ∧ S1 = S) noX) (q : RP (a Λ S) Q X) : RP (eIf t a b Λ S) Q X := by unfold eIf; rw [rp_eq h]; exact q
theorem w_at {α : Type} {r : Res α} {Q : α → Store → Prop} {v : α} {S' : Store} (h : RP r (fun u S => u = v ∧ S = S') noX) (q : Q v S') : RP r Q X := by rw [rp_eq h]; exact q
/-- and, or of tests that change nothing, as one test -/
theorem t_and {x y : Bool} (h : RP (t Λ S) (fun k S1 => k = x ∧ S1 = S) noX) (h2 : x = true → RP (u Λ S) (fun k S1 => k = y ∧ S1 = S) noX) : RP (tAnd t u Λ S) (fun k S1 => k = (x && y) ∧ S1 = S) noX := by
  unfold tAnd
  rw [rp_eq h]
  cases x with
  | true => rw [Res.bind_ok, if_pos rfl, rp_eq (h2 rfl)]; exact ⟨by simp, rfl⟩
  | false => exact ⟨rfl, rfl⟩
theorem t_or {x y : Bool} (h : RP (t Λ S) (fun k S1 => k = x ∧ S1 = S) noX) (h2 : x = false → RP (u Λ S) (fun k S1 => k = y ∧ S1 = S) noX) : RP (tOr t u Λ S) (fun k S1 => k = (x || y) ∧ S1 = S) noX := by
  unfold tOr
  rw [rp_eq h]
  cases x with
  | false => rw [Res.bind_ok, if_neg (by decide), rp_eq (h2 rfl)]; exact ⟨by simp, rfl⟩
  | true => exact ⟨rfl, rfl⟩
theorem t_as {x y : Bool} (h : RP (t Λ S) (fun k S1 => k = x ∧ S1 = S) noX) (e : x = y) : RP (t Λ S) (fun k S1 => k = y ∧ S1 = S) noX := by rw [← e]; exact h
end
theorem RP.imp {α : Type} {r : Res α} {Q Q' : α → Store → Prop} {X X' : Xp} (h : RP r Q X) (k : ∀ v S, Q v S → Q' v S) (k2 : ∀ c S, X c S → X' c S) : RP r Q' X' := by
  cases r <;> first | exact k _ _ h | exact k2 _ _ h | exact h
theorem RP.weak {α : Type} {r : Res α} {Q Q' : α → Store → Prop} {X : Xp} (h : RP r Q noX) (k : ∀ v S, Q v S → Q' v S) : RP r Q' X := h.imp k fun _ _ z => z.elim
section
variable {Q : AV → Store → Prop} {X : Xp} {S : Store}
theorem atI_ok {α : Type} {xs : List α} {i : Int} (h0 : 0 ≤ i) (h1 : i < xs.length) : ∃ x, atI xs i = some x ∧ x ∈ xs ∧ xs[i.toNat]? = some x := by
  have hl : i.toNat < xs.length := by omega
  refine ⟨xs[i.toNat], ?_, List.getElem_mem hl, List.getElem?_eq_getElem hl⟩
  unfold atI ixN
  rw [if_pos h0, if_pos h1]
  exact List.getElem?_eq_getElem hl
theorem w_ixS {z : Sg} {i : Int} (h0 : 0 ≤ i) (h1 : i < z.length) (hz : z.length ≤ szL) (q : ∀ c, c ∈ z → Q (.str [c]) S) : RP (opIx (.str z) (.int i) S) Q X := by
  obtain ⟨c, e, hc, _⟩ := atI_ok h0 h1
  refine w_is (v := .str [c]) (S' := S) ?_ (q c hc)
  simp only [opIx, seqOf, lstOf, if_pos hz, e]
/-- pairs of texts, of numbers, compared -/
theorem w_neP {a b c d : Sg} (q : Q (.bl (decide (¬(a = c ∧ b = d)))) S) : RP (opNe (.tup [.str a, .str b]) (.tup [.str c, .str d]) S) Q X := w_is (by
  have e : decide (¬(a = c ∧ b = d)) = !((a == c && (b == d && true)) && true) := by
    by_cases h1 : a = c <;> by_cases h2 : b = d <;> simp [h1, h2]
  rw [e]; rfl) q
theorem w_eqP {a b c d : Int} (q : Q (.bl (decide (a = c ∧ b = d))) S) : RP (opEq (.tup [.int a, .int b]) (.tup [.int c, .int d]) S) Q X := w_is (by
  have e : decide (a = c ∧ b = d) = ((a == c && (b == d && true)) && true) := by
    by_cases h1 : a = c <;> by_cases h2 : b = d <;> simp [h1, h2]
  rw [e]; rfl) q
theorem w_nePI {a b c d : Int} (q : Q (.bl (decide (¬(a = c ∧ b = d)))) S) : RP (opNe (.tup [.int a, .int b]) (.tup [.int c, .int d]) S) Q X := w_is (by
  have e : decide (¬(a = c ∧ b = d)) = !((a == c && (b == d && true)) && true) := by
    by_cases h1 : a = c <;> by_cases h2 : b = d <;> simp [h1, h2]
  rw [e]; rfl) q
theorem w_eqB {a b : Bool} (q : Q (.bl (a == b)) S) : RP (opEq (.bl a) (.bl b) S) Q X := w_is rfl q
theorem w_neB {a b : Bool} (q : Q (.bl (!(a == b))) S) : RP (opNe (.bl a) (.bl b) S) Q X := w_is rfl q
theorem unl_lk {n : Nat} {kvs : List (DK × AV)} (h : S[n]? = some (.dct kvs)) : unlS (some n) (S.set n (.lk kvs)) = S := by
  have hl : n < S.length := (List.getElem?_eq_some_iff.mp h).1
  have e : (S.set n (.lk kvs))[n]? = some (.lk kvs) := List.getElem?_set_self hl
  unfold unlS
  dsimp only
  rw [e]
  dsimp only
  rw [List.set_set]
  refine List.ext_getElem? fun i => ?_
  by_cases hi : i = n
  · subst hi; rw [List.getElem?_set_self hl, h]
  · rw [List.getElem?_set_ne (Ne.symm hi)]
end
section
variable {N : LEnv → Store → Prop} {Λ : LEnv} {S : Store} {i j k l m : Nat} {x y z u v : AV} {X : Xp} {R : AV → Store → Prop} {F : AM}
theorem g_pat1 (q : N (Λ.set i (some x)) S) : GW (gPat (.nm i) x Λ S) N := q
theorem g_pat2 (q : N ((Λ.set i (some x)).set j (some y)) S) : GW (gPat (.tp [.nm i, .nm j]) (.tup [x, y]) Λ S) N := q
theorem g_pat3 (q : N (((Λ.set i (some x)).set j (some y)).set k (some z)) S) : GW (gPat (.tp [.nm i, .nm j, .nm k]) (.tup [x, y, z]) Λ S) N := q
theorem g_pat4 (q : N ((((Λ.set i (some x)).set j (some y)).set k (some z)).set l (some u)) S) : GW (gPat (.tp [.nm i, .nm j, .nm k, .nm l]) (.tup [x, y, z, u]) Λ S) N := q
theorem g_pat5 (q : N (((((Λ.set i (some x)).set j (some y)).set k (some z)).set l (some u)).set m (some v)) S) : GW (gPat (.tp [.nm i, .nm j, .nm k, .nm l, .nm m]) (.tup [x, y, z, u, v]) Λ S) N := q
theorem s_par2 (h : RP (F Λ S) (fun xs S1 => ∃ x y, xs = [x, y] ∧ N ((Λ.set i (some x)).set j (some y)) S1) X) : SW (sPar [i, j] F Λ S) N R X := s_par (h.mono fun xs S1 ⟨x, y, e, q⟩ => by subst e; exact ⟨rfl, q⟩)
theorem s_par3 (h : RP (F Λ S) (fun xs S1 => ∃ x y z, xs = [x, y, z] ∧ N (((Λ.set i (some x)).set j (some y)).set k (some z)) S1) X) : SW (sPar [i, j, k] F Λ S) N R X := s_par (h.mono fun xs S1 ⟨x, y, z, e, q⟩ => by subst e; exact ⟨rfl, q⟩)
end
theorem w_sl32 {x y z : AV} {S : Store} {Q : AV → Store → Prop} {X : Xp} (q : Q (.tup [x, y]) S) : RP (opSl (.tup [x, y, z]) none (some 2) S) Q X := q
theorem w_sl31 {x y z : AV} {S : Store} {Q : AV → Store → Prop} {X : Xp} (q : Q (.tup [y, z]) S) : RP (opSl (.tup [x, y, z]) (some 1) none S) Q X := q
theorem w_addL {xs ys : List AV} {S : Store} {Q : AV → Store → Prop} {X : Xp} (h : xs.length + ys.length ≤ szL) (q : Q (.lst (xs ++ ys)) S) : RP (opAdd (.lst xs) (.lst ys) S) Q X := w_is (if_pos h) q
theorem w_same {e : EM} {Λ : LEnv} {v : AV} {S : Store} {Q : AV → Store → Prop} {X : Xp} (h : RP (e Λ S) (fun u S' => u = v ∧ S' = S) noX) (q : Q v S) : RP (e Λ S) Q X := by rw [rp_eq h]; exact q
theorem sort2 {α : Type} (le : α → α → Bool) (a b : α) : List.mergeSort [a, b] le = if le a b = true then [a, b] else [b, a] := by
  rw [List.mergeSort]
  simp [List.merge]
theorem dput_new {k : DK} {v : AV} {acc : List (DK × AV)} (h : ∀ p ∈ acc, p.1 ≠ k) : dput k v acc = acc ++ [(k, v)] := by
  unfold dput
  rw [if_neg]
  intro z
  obtain ⟨p, hp, e⟩ := List.any_eq_true.mp z
  exact h p hp (of_decide_eq_true e)
/-- a dict comprehension over data, that changes nothing -/
theorem dcL_pure {T : Type} {keep : Store → Bool} {p : Pt} {t : TM} {k e : EM} {Λ : LEnv} {S : Store} (enc : T → AV) (f : T → Bool) (kf : T → AK) (g : T → AV) (hk : keep S = true) : ∀ (L : List T) (acc : List (DK × AV)), (∀ x ∈ L, ∃ as, dest p (enc x) = some as ∧ RP (t (putA Λ as) S) (fun b S' => b = f x ∧ S' = S) noX ∧
      (f x = true → RP (k (putA Λ as) S) (fun v S' => akOf v = some (kf x) ∧ S' = S) noX ∧ RP (e (putA Λ as) S) (fun v S' => v = g x ∧ S' = S) noX)) →
    (acc.map (·.1) ++ (L.filter f).map fun x => DK.a (kf x)).Nodup → acc.length + L.length ≤ szL → dcL keep p t k e Λ (L.map enc) acc S = .ok (acc ++ (L.filter f).map fun x => (DK.a (kf x), g x)) S
  | [], acc, _, _, _ => by
    show dcL keep p t k e Λ [] acc S = _
    unfold dcL
    rw [if_pos hk]; simp
  | x :: L, acc, h, hn, hl => by
    obtain ⟨as, e1, e2, e3⟩ := h x List.mem_cons_self
    rw [List.map_cons]
    unfold dcL
    rw [if_pos hk, e1]
    dsimp only
    rw [rp_eq e2, Res.nb_ok]
    rw [List.length_cons] at hl
    cases hb : f x with
    | true =>
      obtain ⟨e4, e5⟩ := e3 hb
      obtain ⟨u, S1, q1, q2, rfl⟩ := rp_ex e4
      rw [List.filter_cons_of_pos hb, List.map_cons] at hn
      rw [if_pos rfl, q1, Res.nb_ok, rp_eq e5, Res.nb_ok, q2]
      dsimp only
      rw [if_pos (by omega), dput_new (fun p hp z => by
        rw [List.nodup_append] at hn
        exact hn.2.2 p.1 (List.mem_map_of_mem hp) _ List.mem_cons_self z), dcL_pure enc f kf g hk L _ (fun y hy => h y (List.mem_cons_of_mem _ hy)) (by simpa using hn) (by rw [List.length_append, List.length_singleton]; omega), List.filter_cons_of_pos hb]
      simp
    | false =>
      rw [List.filter_cons_of_neg (by rw [hb]; decide)] at hn
      rw [if_neg (by decide), dcL_pure enc f kf g hk L _ (fun y hy => h y (List.mem_cons_of_mem _ hy)) hn (by omega), List.filter_cons_of_neg (by rw [hb]; decide)]
section
variable {Q : AV → Store → Prop} {X : Xp} {S : Store} {Λ : LEnv}
theorem w_dc {it : IM} {own : List Nat} {p : Pt} {t : TM} {k e : EM} (h : RP (it Λ S) (fun src S1 => ∃ xs S2, dcL src.keep p t k e (wipeA Λ own) src.items [] S1 = .ok xs S2 ∧ Q (.ref S2.length) (unlS src.lock (S2 ++ [.dct xs]))) X) : RP (eDc it own p t k e Λ S) Q X := rp_bind (h.mono fun src S1 ⟨xs, S2, e, q⟩ => by rw [e, Res.nb_ok]; exact q)
theorem w_listIt {o : EM} (h : RP (o Λ S) (fun x S1 => ∃ kvs, flatOf S1 x = some kvs ∧ Q (.lst (dItems kvs)) S1) X) : RP (eListIt o Λ S) Q X := rp_bind (h.mono fun x S1 ⟨kvs, e, q⟩ => by rw [e]; exact q)
theorem w_sortIt {o : EM} (h : RP (o Λ S) (fun x S1 => ∃ kvs, flatOf S1 x = some kvs ∧ sortOk (dItems kvs) = true ∧ Q (.lst (sortA (dItems kvs))) S1) X) : RP (eSortIt o Λ S) Q X := rp_bind (h.mono fun x S1 ⟨kvs, e, e2, q⟩ => by rw [e]; dsimp only; rw [if_pos e2]; exact q)
end
section
variable {keep : Store → Bool} {g : GM} {B : SM} {x : AV} {xs : List AV} {Λ : LEnv} {S : Store} {N : LEnv → Store → Prop} {R : AV → Store → Prop} {X : Xp}
theorem s_forNil (k : keep S = true) (q : N Λ S) : SW (forL keep g B [] Λ S) N R X := by unfold forL; rw [if_pos k]; exact q
theorem s_forCons (k : keep S = true) (q : GW (g x Λ S) fun Λ1 S1 => SW (B Λ1 S1) (fun Λ2 S2 => SW (forL keep g B xs Λ2 S2) N R X) R X) : SW (forL keep g B (x :: xs) Λ S) N R X := by
  unfold forL
  rw [if_pos k]
  cases e : g x Λ S with
  | nx Λ1 S1 =>
    rw [e] at q
    dsimp only
    have q : SW (B Λ1 S1) (fun Λ2 S2 => SW (forL keep g B xs Λ2 S2) N R X) R X := q
    cases e2 : B Λ1 S1 with
    | nx Λ2 S2 => rw [e2] at q; exact q
    | rt v S2 => rw [e2] at q; exact q
    | exc k S2 => rw [e2] at q; exact q
    | bk Λ2 S2 => rw [e2] at q; exact q.elim
    | ct Λ2 S2 => rw [e2] at q; exact q.elim
    | stuck => rw [e2] at q; exact q.elim
  | _ => rw [e] at q; exact q.elim
end
theorem get_ne {Λ : LEnv} {i j : Nat} {v w : AV} (h : i ≠ j) (e : Λ[j]? = some (some v)) : (Λ.set i (some w))[j]? = some (some v) := by rw [List.getElem?_set_ne h]; exact e
theorem get_eq {Λ : LEnv} {i : Nat} {v : AV} (h : i < Λ.length) : (Λ.set i (some v))[i]? = some (some v) := List.getElem?_set_self h
theorem get_neN {Λ : LEnv} {i j : Nat} {v : AV} (h : i ≠ j) (e : Λ[j]? = some (some v)) : (Λ.set i none)[j]? = some (some v) := by rw [List.getElem?_set_ne h]; exact e
end Mir
end

section
set_option Elab.async false
set_option linter.all false
namespace Mir
open PySem
/-- merge and mergeSort, by fuel: these compute in the kernel -/
def mgF {α : Type} (le : α → α → Bool) : Nat → List α → List α → List α
  | 0, xs, ys => xs ++ ys
  | _ + 1, [], ys => ys
  | _ + 1, xs, [] => xs
  | n + 1, x :: xs, y :: ys => if le x y = true then x :: mgF le n xs (y :: ys) else y :: mgF le n (x :: xs) ys
theorem mgF_eq {α : Type} (le : α → α → Bool) : ∀ (n : Nat) (xs ys : List α), xs.length + ys.length ≤ n → mgF le n xs ys = List.merge xs ys le
  | 0, [], [], _ => by simp [mgF, List.merge]
  | 0, _ :: _, _, h => by simp at h
  | 0, [], _ :: _, h => by simp at h
  | n + 1, [], ys, _ => by simp [mgF, List.merge]
  | n + 1, x :: xs, [], _ => by simp [mgF, List.merge]
  | n + 1, x :: xs, y :: ys, h => by
    simp only [List.length_cons] at h
    unfold mgF List.merge
    rw [mgF_eq le n xs (y :: ys) (by simp only [List.length_cons]; omega), mgF_eq le n (x :: xs) ys (by simp only [List.length_cons]; omega)]
def msF {α : Type} (le : α → α → Bool) : Nat → List α → List α
  | 0, xs => xs
  | _ + 1, [] => []
  | _ + 1, [a] => [a]
  | n + 1, a :: b :: xs => mgF le (xs.length + 2) (msF le n ((a :: b :: xs).take ((xs.length + 3) / 2))) (msF le n ((a :: b :: xs).drop ((xs.length + 3) / 2)))
theorem msF_eq {α : Type} (le : α → α → Bool) : ∀ (n : Nat) (xs : List α), xs.length ≤ n → msF le n xs = xs.mergeSort le
  | 0, [], _ => by simp [msF]
  | 0, _ :: _, h => by simp at h
  | n + 1, [], _ => by simp [msF]
  | n + 1, [a], _ => by simp [msF]
  | n + 1, a :: b :: xs, h => by
    simp only [List.length_cons] at h
    unfold msF
    rw [msF_eq le n _ (by simp only [List.length_take, List.length_cons]; omega), msF_eq le n _ (by simp only [List.length_drop, List.length_cons]; omega)]
    rw [mgF_eq _ _ _ _ (by simp only [List.length_mergeSort, List.length_take, List.length_drop, List.length_cons]; omega)]
    rw [List.mergeSort]
    simp [List.MergeSort.Internal.splitInTwo_fst, List.MergeSort.Internal.splitInTwo_snd]
def sortK (ys : List AV) : List AV := msF (PySem.W.dataLe false pd) ys.length ys
theorem sortA_K : sortA = sortK := funext fun ys => (msF_eq _ _ _ (Nat.le_refl _)).symm
end Mir
end

section
set_option Elab.async false
set_option linter.all false
set_option maxRecDepth 100000
set_option maxHeartbeats 4000000
namespace K
open PySem PySem.Spec PyProof.Rows L2 Mir
def top (i : Nat) : Stmt := PySem.Challenge.pw_syncstack_k16_leases_and_clocks.main.body.getD i (.Pass ⟨0, 0, 0, 0⟩)
abbrev s_Leases_init0 : Stmt := (inClass (top 4) 0)
abbrev s_Leases_ask : Stmt := (inClass (top 4) 1)
abbrev s_Leases_free : Stmt := (inClass (top 4) 2)
abbrev s_Leases_may_act : Stmt := (inClass (top 4) 3)
abbrev s_Leases_who_holds : Stmt := (inClass (top 4) 4)
abbrev s_Gate_init0 : Stmt := (inClass (top 5) 0)
abbrev s_Gate_act : Stmt := (inClass (top 5) 1)
abbrev s_set_right : Stmt := (top 6)
abbrev s_best_set : Stmt := (top 7)
abbrev s_least_of : Stmt := (top 8)
abbrev s_agreed_span : Stmt := (top 9)
abbrev s_how_many_at : Stmt := (top 10)
abbrev s_spots_of : Stmt := (top 11)
abbrev s_middle_of : Stmt := (top 12)
abbrev s_Marked_init0 : Stmt := (inClass (top 13) 0)
abbrev s_Marked_next_mark : Stmt := (inClass (top 13) 1)
abbrev s_Marked_hear : Stmt := (inClass (top 13) 2)
abbrev s_wait_out : Stmt := (top 14)
abbrev s__law_dice : Stmt := (top 16)
abbrev s__law_roll : Stmt := (top 17)
abbrev s__law_rounds : Stmt := (top 18)
abbrev s__law_deed : Stmt := (top 20)
abbrev s__law_safe : Stmt := (top 21)
abbrev s__law_spans : Stmt := (top 22)
abbrev s__law_marks : Stmt := (top 23)
abbrev s__law_plain : Stmt := (top 24)
abbrev s_law : Stmt := (top 25)
structure Ad where
  (f_Leases_init0 f_Leases_ask f_Leases_free f_Leases_may_act f_Leases_who_holds f_Gate_init0 f_Gate_act f_set_right f_best_set f_least_of f_agreed_span f_how_many_at f_spots_of f_middle_of f_Marked_init0 f_Marked_next_mark f_Marked_hear f_wait_out f__law_dice f__law_roll f__law_rounds f__law_told f__law_deed f__law_safe f__law_spans f__law_marks f__law_plain f_law g_Leases g_Gate g_Marked g_SyncFault g_LeaseError : Addr)
  (p_agreed_span q_agreed_span p__law_deed q__law_deed p__law_plain q__law_plain : Addr)
def tabsOf (A : Ad) : List (Addr × Str) := [(A.p_agreed_span, (envOfC "agreed_span" (defScope s_agreed_span) 0 0 .none).qual ++ "<genexpr>"), (A.p__law_deed, (envOfC "_law_deed" (defScope s__law_deed) 0 0 .none).qual ++ "<lambda>"), (A.p__law_plain, (envOfC "_law_plain" (defScope s__law_plain) 0 0 .none).qual ++ "<lambda>")]
def clsOf (A : Ad) : Nat → Addr
  | 0 => A.g_Leases
  | 1 => A.g_Gate
  | 2 => A.g_Marked
  | 3 => A.g_SyncFault
  | 4 => A.g_LeaseError
  | _ => 0
def fldOf : Nat → Str
  | 0 => "long"
  | 1 => "drift"
  | 2 => "rows"
  | 3 => "many"
  | 4 => "seen"
  | 5 => "taken"
  | 6 => "mark"
  | _ => ""
def G0 (A : Ad) : G := ⟨clsOf A, fldOf, 7, fun i j hi hj h => (by decide +kernel : ∀ i, i < 7 → ∀ j, j < 7 → fldOf i = fldOf j → i = j) i hi j hj h, tabsOf A⟩
structure Txt (K : PySem.W.Frag) (mg : Str → Option Value) (A : Ad) : Prop where
  f_set_right : mg "set_right" = some (.ref A.f_set_right)
  f_best_set : mg "best_set" = some (.ref A.f_best_set)
  f_least_of : mg "least_of" = some (.ref A.f_least_of)
  f_agreed_span : mg "agreed_span" = some (.ref A.f_agreed_span)
  f_how_many_at : mg "how_many_at" = some (.ref A.f_how_many_at)
  f_spots_of : mg "spots_of" = some (.ref A.f_spots_of)
  f_middle_of : mg "middle_of" = some (.ref A.f_middle_of)
  f_wait_out : mg "wait_out" = some (.ref A.f_wait_out)
  f__law_dice : mg "_law_dice" = some (.ref A.f__law_dice)
  f__law_roll : mg "_law_roll" = some (.ref A.f__law_roll)
  f__law_rounds : mg "_law_rounds" = some (.ref A.f__law_rounds)
  f__law_told : mg "_law_told" = some (.ref A.f__law_told)
  f__law_deed : mg "_law_deed" = some (.ref A.f__law_deed)
  f__law_safe : mg "_law_safe" = some (.ref A.f__law_safe)
  f__law_spans : mg "_law_spans" = some (.ref A.f__law_spans)
  f__law_marks : mg "_law_marks" = some (.ref A.f__law_marks)
  f__law_plain : mg "_law_plain" = some (.ref A.f__law_plain)
  f_law : mg "law" = some (.ref A.f_law)
  g_Leases : mg "Leases" = some (.ref A.g_Leases)
  c_Leases : Cls K A.g_Leases
  mk_Leases : Mk K A.g_Leases A.f_Leases_init0
  n_Leases_long : NoAttr K A.g_Leases "long"
  n_Leases_drift : NoAttr K A.g_Leases "drift"
  n_Leases_rows : NoAttr K A.g_Leases "rows"
  n_Leases_many : NoAttr K A.g_Leases "many"
  t_Leases_ask : Meth K A.g_Leases "ask" A.f_Leases_ask
  t_Leases_free : Meth K A.g_Leases "free" A.f_Leases_free
  t_Leases_may_act : Meth K A.g_Leases "may_act" A.f_Leases_may_act
  t_Leases_who_holds : Meth K A.g_Leases "who_holds" A.f_Leases_who_holds
  g_Gate : mg "Gate" = some (.ref A.g_Gate)
  c_Gate : Cls K A.g_Gate
  mk_Gate : Mk K A.g_Gate A.f_Gate_init0
  n_Gate_seen : NoAttr K A.g_Gate "seen"
  n_Gate_taken : NoAttr K A.g_Gate "taken"
  t_Gate_act : Meth K A.g_Gate "act" A.f_Gate_act
  g_Marked : mg "Marked" = some (.ref A.g_Marked)
  c_Marked : Cls K A.g_Marked
  mk_Marked : Mk K A.g_Marked A.f_Marked_init0
  n_Marked_mark : NoAttr K A.g_Marked "mark"
  t_Marked_next_mark : Meth K A.g_Marked "next_mark" A.f_Marked_next_mark
  t_Marked_hear : Meth K A.g_Marked "hear" A.f_Marked_hear
  g_SyncFault : mg "SyncFault" = some (.ref A.g_SyncFault)
  x_SyncFault : PySem.W.excIn K A.g_SyncFault [.type "ValueError", .type "Exception", .type "BaseException", .type "object"] "ValueError.__new__" = true
  k_SyncFault : PySem.W.keepIn K (.ref A.g_SyncFault) = true
  s_SyncFault : PySem.W.subIn K (.ref A.g_SyncFault) (.type "BaseException") = some true
  y_SyncFault : PySem.W.typeIn K (.ref A.g_SyncFault) = some (.type "type")
  g_LeaseError : mg "LeaseError" = some (.ref A.g_LeaseError)
  x_LeaseError : PySem.W.excIn K A.g_LeaseError [.type "ValueError", .type "Exception", .type "BaseException", .type "object"] "ValueError.__new__" = true
  k_LeaseError : PySem.W.keepIn K (.ref A.g_LeaseError) = true
  s_LeaseError : PySem.W.subIn K (.ref A.g_LeaseError) (.type "BaseException") = some true
  y_LeaseError : PySem.W.typeIn K (.ref A.g_LeaseError) = some (.type "type")
  told : ∀ cn ∈ [4], PySem.W.exmOne K (.ref (clsOf A cn)) (.ref A.g_LeaseError) = some true
  b_abs : mg "abs" = none
  b_any : mg "any" = none
  b_dict : mg "dict" = none
  b_enumerate : mg "enumerate" = none
  b_int : mg "int" = none
  b_len : mg "len" = none
  b_list : mg "list" = none
  b_max : mg "max" = none
  b_min : mg "min" = none
  b_range : mg "range" = none
  b_sorted : mg "sorted" = none
  b_tuple : mg "tuple" = none
section
variable {P : Program} {w : World} {K : PySem.W.Frag} {mg : Str → Option Value} {base : Heap} {A : Ad}
theorem fok_Leases_long (T : Txt K mg A) : FOk K (G0 A) 0 0 := ⟨by show 0 < 7; decide, T.c_Leases, T.n_Leases_long⟩
theorem fok_Leases_drift (T : Txt K mg A) : FOk K (G0 A) 0 1 := ⟨by show 1 < 7; decide, T.c_Leases, T.n_Leases_drift⟩
theorem fok_Leases_rows (T : Txt K mg A) : FOk K (G0 A) 0 2 := ⟨by show 2 < 7; decide, T.c_Leases, T.n_Leases_rows⟩
theorem fok_Leases_many (T : Txt K mg A) : FOk K (G0 A) 0 3 := ⟨by show 3 < 7; decide, T.c_Leases, T.n_Leases_many⟩
theorem fok_Gate_seen (T : Txt K mg A) : FOk K (G0 A) 1 4 := ⟨by show 4 < 7; decide, T.c_Gate, T.n_Gate_seen⟩
theorem fok_Gate_taken (T : Txt K mg A) : FOk K (G0 A) 1 5 := ⟨by show 5 < 7; decide, T.c_Gate, T.n_Gate_taken⟩
theorem fok_Marked_mark (T : Txt K mg A) : FOk K (G0 A) 2 6 := ⟨by show 6 < 7; decide, T.c_Marked, T.n_Marked_mark⟩
theorem nf_ask : ∀ i, i < (G0 A).nf → (G0 A).fld i ≠ "ask" := fun i (hi : i < 7) => (by decide +kernel : ∀ i, i < 7 → fldOf i ≠ "ask") i hi
theorem nf_free : ∀ i, i < (G0 A).nf → (G0 A).fld i ≠ "free" := fun i (hi : i < 7) => (by decide +kernel : ∀ i, i < 7 → fldOf i ≠ "free") i hi
theorem nf_may_act : ∀ i, i < (G0 A).nf → (G0 A).fld i ≠ "may_act" := fun i (hi : i < 7) => (by decide +kernel : ∀ i, i < 7 → fldOf i ≠ "may_act") i hi
theorem nf_who_holds : ∀ i, i < (G0 A).nf → (G0 A).fld i ≠ "who_holds" := fun i (hi : i < 7) => (by decide +kernel : ∀ i, i < 7 → fldOf i ≠ "who_holds") i hi
theorem nf_act : ∀ i, i < (G0 A).nf → (G0 A).fld i ≠ "act" := fun i (hi : i < 7) => (by decide +kernel : ∀ i, i < 7 → fldOf i ≠ "act") i hi
theorem nf_next_mark : ∀ i, i < (G0 A).nf → (G0 A).fld i ≠ "next_mark" := fun i (hi : i < 7) => (by decide +kernel : ∀ i, i < 7 → fldOf i ≠ "next_mark") i hi
theorem nf_hear : ∀ i, i < (G0 A).nf → (G0 A).fld i ≠ "hear" := fun i (hi : i < 7) => (by decide +kernel : ∀ i, i < 7 → fldOf i ≠ "hear") i hi
abbrev s__law_told : Stmt := (top 19)
theorem sc__law_told : FnScope ["what"] ["what"] (defScope s__law_told) := ⟨rfl, rfl, rfl, by decide +kernel, rfl, by decide +kernel, by decide +kernel⟩
structure Told (K : PySem.W.Frag) (A : Ad) (fd : FuncData) : Prop where
  F : Fun K "_law_told" "_law_told" s__law_told A.f__law_told fd
  B : Binds K fd ["what"] []
theorem sc_Leases_init0 : FnScope (("self" : Str) :: ("long" : Str) :: ("drift" : Str) :: []) ["self", "long", "drift"] (defScope s_Leases_init0) := ⟨rfl, rfl, rfl, by decide +kernel, rfl, by decide +kernel, by decide +kernel⟩
def m_Leases_init0 : Fn := fdef 3 3
    (sSeq (sIf (tOr (tVal (eOp (opCmp .lt) (eVar 1) (eC (.int 1)))) (tNot (tVal (eChain (opCmp .le) (opCmp .lt) (eC (.int 0)) (eVar 2) (eVar 1))))) (sRaise 4) sNext)
    (sSeq (sAttr 0 0 (eVar 0) (eVar 1))
    (sSeq (sAttr 0 1 (eVar 0) (eVar 2))
    (sSeq (sAttr 0 2 (eVar 0) eDct0)
    (sAttr 0 3 (eVar 0) (eC (.int 0)))))))
theorem ar_Leases_init0 : Ar ["self", "long", "drift"].length m_Leases_init0 := ar_fdef
theorem ok_Leases_init0 (T : Txt K mg A) {fd : FuncData} (F : Fun K "__init__" "Leases.__init__" s_Leases_init0 A.f_Leases_init0 fd) (B : Binds K fd ["self", "long", "drift"] []) : FnM P w K mg base (G0 A) 1 A.f_Leases_init0 ["self", "long", "drift"] m_Leases_init0 :=
  have scN := sc_Leases_init0.nd
  fnM_of F B sc_Leases_init0 (by decide) fun cdv A' outer s H E gx =>
    (mss_cons (ms_if (mt_w (mw_or (mt_cmp (mo_lt gx.hu) (me_var 1 (pv 1)) me_int) (mw_or1 (mt_not (mt_chain (mo_le gx.hu) (mo_lt gx.hu) me_int (me_var 2 (pv 2)) (me_var 1 (pv 1))))))) (mss_one (ms_raise (cn := 4) gx PySem.F.excBase_ValueError T.x_LeaseError T.g_LeaseError T.k_LeaseError (raises_own T.s_LeaseError T.y_LeaseError) rfl)) mss_nil)
    (mss_cons (ms_attr (c := 0) (i := 0) (fok_Leases_long T) (me_var 0 (pv 0)) (me_var 1 (pv 1)) rfl)
    (mss_cons (ms_attr (c := 0) (i := 1) (fok_Leases_drift T) (me_var 0 (pv 0)) (me_var 2 (pv 2)) rfl)
    (mss_cons (ms_attr (c := 0) (i := 2) (fok_Leases_rows T) (me_var 0 (pv 0)) me_dct0 rfl)
    (mss_one (ms_attr (c := 0) (i := 3) (fok_Leases_many T) (me_var 0 (pv 0)) me_int rfl))))))
theorem sc_Leases_ask : FnScope (("self" : Str) :: ("who" : Str) :: ("thing" : Str) :: ("now" : Str) :: ("old" : Str) :: ("number" : Str) :: []) ["self", "who", "thing", "now"] (defScope s_Leases_ask) := ⟨rfl, rfl, rfl, by decide +kernel, rfl, by decide +kernel, by decide +kernel⟩
def m_Leases_ask : Fn := fdef 6 4
    (sSeq (sIf (tOr (tVal (eOp opIn (eC (.str [])) (eTup (aCons (eVar 1) (aCons (eVar 2) aNil))))) (tVal (eOp (opCmp .lt) (eVar 3) (eC (.int 0))))) (sRaise 4) sNext)
    (sSeq (sAsg (eBM .dct fGet (eAttr 2 (eVar 0)) (aCons (eVar 2) aNil)) (gName 4))
    (sSeq (sIf (tAnd (tVal (eOp opNotN (eVar 4) (eC .non))) (tAnd (tVal (eOp opNe (eOp opIx (eVar 4) (eC (.int 0))) (eVar 1))) (tVal (eOp (opCmp .lt) (eVar 3) (eOp opAdd (eOp opIx (eVar 4) (eC (.int 1))) (eAttr 1 (eVar 0))))))) (sRet (eC .non)) sNext)
    (sSeq (sIf (tAnd (tVal (eOp opNotN (eVar 4) (eC .non))) (tAnd (tVal (eOp opEq (eOp opIx (eVar 4) (eC (.int 0))) (eVar 1))) (tVal (eOp (opCmp .lt) (eVar 3) (eOp opAdd (eOp opIx (eVar 4) (eC (.int 1))) (eAttr 1 (eVar 0))))))) (sAsg (eOp opIx (eVar 4) (eC (.int 2))) (gName 5)) (sSeq (sAttrA 0 3 opIAdd (eVar 0) (eC (.int 1)))
    (sAsg (eAttr 3 (eVar 0)) (gName 5))))
    (sSeq (sAsg (eTup (aCons (eVar 1) (aCons (eOp opAdd (eVar 3) (eAttr 0 (eVar 0))) (aCons (eVar 5) aNil)))) (gSubM (eAttr 2 (eVar 0)) (eVar 2)))
    (sRet (eTup (aCons (eOp opAdd (eVar 3) (eAttr 0 (eVar 0))) (aCons (eVar 5) aNil)))))))))
theorem ar_Leases_ask : Ar ["self", "who", "thing", "now"].length m_Leases_ask := ar_fdef
theorem ok_Leases_ask (T : Txt K mg A) {fd : FuncData} (F : Fun K "ask" "Leases.ask" s_Leases_ask A.f_Leases_ask fd) (B : Binds K fd ["self", "who", "thing", "now"] []) : FnM P w K mg base (G0 A) 1 A.f_Leases_ask ["self", "who", "thing", "now"] m_Leases_ask :=
  have scN := sc_Leases_ask.nd
  fnM_of F B sc_Leases_ask (by decide) fun cdv A' outer s H E gx =>
    (mss_cons (ms_if (mt_w (mw_or (mt_cmp (mo_in gx.hu) (me_str (by decide +kernel)) (me_tup (ma_cons (me_var 1 (pv 1)) (ma_cons (me_var 2 (pv 2)) ma_nil)))) (mw_or1 (mt_cmp (mo_lt gx.hu) (me_var 3 (pv 3)) me_int)))) (mss_one (ms_raise (cn := 4) gx PySem.F.excBase_ValueError T.x_LeaseError T.g_LeaseError T.k_LeaseError (raises_own T.s_LeaseError T.y_LeaseError) rfl)) mss_nil)
    (mss_cons (ms_set (ps_set (i := 4) scN rfl (by first | exact .inl rfl | exact .inr rfl) (me_bm (T := .dct) PySem.F.plainAttrs_dict PySem.F.slot_dict_get PySem.F.type_dict_get (mm_get gx.hu) (me_attr (i := 2) (me_var 0 (pv 0)) rfl (by show 2 < 7; decide)) (ma_cons (me_var 2 (pv 2)) ma_nil))))
    (mss_cons (ms_if (mt_w (mw_and (mt_cmp mo_notN (me_var 4 (pv 4)) me_non) (mw_and (mt_cmp (mo_ne gx.hu) (me_ix gx.hu (me_var 4 (pv 4)) me_int) (me_var 1 (pv 1))) (mw_and1 (mt_cmp (mo_lt gx.hu) (me_var 3 (pv 3)) (me_op mo_add (me_ix gx.hu (me_var 4 (pv 4)) me_int) (me_attr (i := 1) (me_var 0 (pv 0)) rfl (by show 1 < 7; decide)))))))) (mss_one (ms_ret me_non)) mss_nil)
    (mss_cons (ms_if (mt_w (mw_and (mt_cmp mo_notN (me_var 4 (pv 4)) me_non) (mw_and (mt_cmp (mo_eq gx.hu) (me_ix gx.hu (me_var 4 (pv 4)) me_int) (me_var 1 (pv 1))) (mw_and1 (mt_cmp (mo_lt gx.hu) (me_var 3 (pv 3)) (me_op mo_add (me_ix gx.hu (me_var 4 (pv 4)) me_int) (me_attr (i := 1) (me_var 0 (pv 0)) rfl (by show 1 < 7; decide)))))))) (mss_one (ms_set (ps_set (i := 5) scN rfl (by first | exact .inl rfl | exact .inr rfl) (me_ix gx.hu (me_var 4 (pv 4)) me_int)))) (mss_cons (ms_attrA (c := 0) (i := 3) (fok_Leases_many T) mo_iadd (me_var 0 (pv 0)) me_int rfl)
    (mss_one (ms_set (ps_set (i := 5) scN rfl (by first | exact .inl rfl | exact .inr rfl) (me_attr (i := 3) (me_var 0 (pv 0)) rfl (by show 3 < 7; decide)))))))
    (mss_cons (ms_asg (me_tup (ma_cons (me_var 1 (pv 1)) (ma_cons (me_op mo_add (me_var 3 (pv 3)) (me_attr (i := 0) (me_var 0 (pv 0)) rfl (by show 0 < 7; decide))) (ma_cons (me_var 5 (pv 5)) ma_nil)))) (mg_sub gx (me_attr (i := 2) (me_var 0 (pv 0)) rfl (by show 2 < 7; decide)) (me_var 2 (pv 2))))
    (mss_one (ms_ret (me_tup (ma_cons (me_op mo_add (me_var 3 (pv 3)) (me_attr (i := 0) (me_var 0 (pv 0)) rfl (by show 0 < 7; decide))) (ma_cons (me_var 5 (pv 5)) ma_nil))))))))))
theorem sc_Leases_free : FnScope (("self" : Str) :: ("who" : Str) :: ("thing" : Str) :: []) ["self", "who", "thing"] (defScope s_Leases_free) := ⟨rfl, rfl, rfl, by decide +kernel, rfl, by decide +kernel, by decide +kernel⟩
def m_Leases_free : Fn := fdef 3 3
    (sSeq (sIf (tOr (tVal (eOp opNotIn (eVar 2) (eAttr 2 (eVar 0)))) (tVal (eOp opNe (eOp opIx (eOp opIx (eAttr 2 (eVar 0)) (eVar 2)) (eC (.int 0))) (eVar 1)))) (sRaise 4) sNext)
    (sDel (eAttr 2 (eVar 0)) (eVar 2)))
theorem ar_Leases_free : Ar ["self", "who", "thing"].length m_Leases_free := ar_fdef
theorem ok_Leases_free (T : Txt K mg A) {fd : FuncData} (F : Fun K "free" "Leases.free" s_Leases_free A.f_Leases_free fd) (B : Binds K fd ["self", "who", "thing"] []) : FnM P w K mg base (G0 A) 1 A.f_Leases_free ["self", "who", "thing"] m_Leases_free :=
  have scN := sc_Leases_free.nd
  fnM_of F B sc_Leases_free (by decide) fun cdv A' outer s H E gx =>
    (mss_cons (ms_if (mt_w (mw_or (mt_cmp (mo_notIn gx.hu) (me_var 2 (pv 2)) (me_attr (i := 2) (me_var 0 (pv 0)) rfl (by show 2 < 7; decide))) (mw_or1 (mt_cmp (mo_ne gx.hu) (me_ix gx.hu (me_ix gx.hu (me_attr (i := 2) (me_var 0 (pv 0)) rfl (by show 2 < 7; decide)) (me_var 2 (pv 2))) me_int) (me_var 1 (pv 1)))))) (mss_one (ms_raise (cn := 4) gx PySem.F.excBase_ValueError T.x_LeaseError T.g_LeaseError T.k_LeaseError (raises_own T.s_LeaseError T.y_LeaseError) rfl)) mss_nil)
    (mss_one (ms_del (me_attr (i := 2) (me_var 0 (pv 0)) rfl (by show 2 < 7; decide)) (me_var 2 (pv 2)))))
theorem sc_Leases_may_act : FnScope (("self" : Str) :: ("until" : Str) :: ("now" : Str) :: []) ["self", "until", "now"] (defScope s_Leases_may_act) := ⟨rfl, rfl, rfl, by decide +kernel, rfl, by decide +kernel, by decide +kernel⟩
def m_Leases_may_act : Fn := fdef 3 3
    (sRet (eOp (opCmp .lt) (eVar 2) (eOp opSub (eVar 1) (eAttr 1 (eVar 0)))))
theorem ar_Leases_may_act : Ar ["self", "until", "now"].length m_Leases_may_act := ar_fdef
theorem ok_Leases_may_act (T : Txt K mg A) {fd : FuncData} (F : Fun K "may_act" "Leases.may_act" s_Leases_may_act A.f_Leases_may_act fd) (B : Binds K fd ["self", "until", "now"] []) : FnM P w K mg base (G0 A) 1 A.f_Leases_may_act ["self", "until", "now"] m_Leases_may_act :=
  have scN := sc_Leases_may_act.nd
  fnM_of F B sc_Leases_may_act (by decide) fun cdv A' outer s H E gx =>
    (mss_one (ms_ret (me_cmp (mo_lt gx.hu) (me_var 2 (pv 2)) (me_op mo_sub (me_var 1 (pv 1)) (me_attr (i := 1) (me_var 0 (pv 0)) rfl (by show 1 < 7; decide))))))
theorem sc_Leases_who_holds : FnScope (("self" : Str) :: ("now" : Str) :: ("rows" : Str) :: ("thing" : Str) :: ("row" : Str) :: []) ["self", "now"] (defScope s_Leases_who_holds) := ⟨rfl, rfl, rfl, by decide +kernel, rfl, by decide +kernel, by decide +kernel⟩
def m_Leases_who_holds : Fn := fdef 5 2
    (sSeq (sAsg (eDc (iDict false dItems (eAttr 2 (eVar 0))) [3, 4] (.tp [(.nm 3), (.nm 4)]) (tVal (eOp (opCmp .lt) (eVar 1) (eOp opAdd (eOp opIx (eVar 4) (eC (.int 1))) (eAttr 1 (eVar 0))))) (eVar 3) (eOp opIx (eVar 4) (eC (.int 0)))) (gName 2))
    (sRet (eDc (iSeq (eCall fSortedD (aCons (eVar 2) aNil))) [3] (.nm 3) tYesM (eVar 3) (eOp opIx (eVar 2) (eVar 3)))))
theorem ar_Leases_who_holds : Ar ["self", "now"].length m_Leases_who_holds := ar_fdef
theorem ok_Leases_who_holds (T : Txt K mg A) {fd : FuncData} (F : Fun K "who_holds" "Leases.who_holds" s_Leases_who_holds A.f_Leases_who_holds fd) (B : Binds K fd ["self", "now"] []) : FnM P w K mg base (G0 A) 1 A.f_Leases_who_holds ["self", "now"] m_Leases_who_holds :=
  have scN := sc_Leases_who_holds.nd
  fnM_of F B sc_Leases_who_holds (by decide) fun cdv A' outer s H E gx =>
    (mss_cons (ms_set (ps_set (i := 2) scN rfl (by first | exact .inl rfl | exact .inr rfl) (me_dc (own := [(("thing" : Str), 3), (("row" : Str), 4)]) (p := (.tp [(.nm 3), (.nm 4)])) rfl scN (mi_items (me_attr (i := 2) (me_var 0 (pv 0)) rfl (by show 2 < 7; decide))) (blkOk_by (by kernel_rfl)) (by decide) (fun _ _ _ _ _ => (mp_tup rfl (mps_cons (mp_name (pg_name (i := 3) scN rfl (by first | exact .inl rfl | exact .inr rfl))) (mps_cons (mp_name (pg_name (i := 4) scN rfl (by first | exact .inl rfl | exact .inr rfl))) mps_nil)))) (fun _ _ _ _ _ => (pts_if (mt_cmp (mo_lt (gx_blk gx).hu) (me_var 1 (pv 1)) (me_op mo_add (me_ix (gx_blk gx).hu (me_var 4 (pv 4)) me_int) (me_attr (i := 1) (me_var 0 (pv 0)) rfl (by show 1 < 7; decide)))))) (fun _ _ _ _ _ => (me_var 3 (pv 3))) (fun _ _ _ _ _ => (me_ix (gx_blk gx).hu (me_var 4 (pv 4)) me_int)))))
    (mss_one (ms_ret (me_dc (own := [(("thing" : Str), 3)]) (p := (.nm 3)) rfl scN (mi_seq (me_callB (mc_sortedD (gx.mono (Nat.zero_le _))) T.b_sorted (by decide +kernel) (ma_cons (me_var 2 (pv 2)) ma_nil))) (blkOk_by (by kernel_rfl)) (by decide) (fun _ _ _ _ _ => (mp_name (pg_name (i := 3) scN rfl (by first | exact .inl rfl | exact .inr rfl)))) (fun _ _ _ _ _ => pts_yes) (fun _ _ _ _ _ => (me_var 3 (pv 3))) (fun _ _ _ _ _ => (me_ix (gx_blk gx).hu (me_var 2 (pv 2)) (me_var 3 (pv 3))))))))
theorem sc_Gate_init0 : FnScope (("self" : Str) :: []) ["self"] (defScope s_Gate_init0) := ⟨rfl, rfl, rfl, by decide +kernel, rfl, by decide +kernel, by decide +kernel⟩
def m_Gate_init0 : Fn := fdef 1 1
    (sSeq (sAttr 1 4 (eVar 0) (eC (.int 0)))
    (sAttr 1 5 (eVar 0) (eLstR aNil)))
theorem ar_Gate_init0 : Ar ["self"].length m_Gate_init0 := ar_fdef
theorem ok_Gate_init0 (T : Txt K mg A) {fd : FuncData} (F : Fun K "__init__" "Gate.__init__" s_Gate_init0 A.f_Gate_init0 fd) (B : Binds K fd ["self"] []) : FnM P w K mg base (G0 A) 1 A.f_Gate_init0 ["self"] m_Gate_init0 :=
  have scN := sc_Gate_init0.nd
  fnM_of F B sc_Gate_init0 (by decide) fun cdv A' outer s H E gx =>
    (mss_cons (ms_attr (c := 1) (i := 4) (fok_Gate_seen T) (me_var 0 (pv 0)) me_int rfl)
    (mss_one (ms_attr (c := 1) (i := 5) (fok_Gate_taken T) (me_var 0 (pv 0)) (me_lstR ma_nil) rfl)))
theorem sc_Gate_act : FnScope (("self" : Str) :: ("number" : Str) :: ("what" : Str) :: []) ["self", "number", "what"] (defScope s_Gate_act) := ⟨rfl, rfl, rfl, by decide +kernel, rfl, by decide +kernel, by decide +kernel⟩
def m_Gate_act : Fn := fdef 3 3
    (sSeq (sIf (tVal (eOp (opCmp .lt) (eVar 1) (eC (.int 1)))) (sRaise 4) sNext)
    (sSeq (sIf (tVal (eOp (opCmp .lt) (eVar 1) (eAttr 4 (eVar 0)))) (sRet (eC (.bl false))) sNext)
    (sSeq (sAttr 1 4 (eVar 0) (eVar 1))
    (sSeq (sDrop (eBM .lst fAppend (eAttr 5 (eVar 0)) (aCons (eTup (aCons (eVar 1) (aCons (eVar 2) aNil))) aNil)))
    (sRet (eC (.bl true)))))))
theorem ar_Gate_act : Ar ["self", "number", "what"].length m_Gate_act := ar_fdef
theorem ok_Gate_act (T : Txt K mg A) {fd : FuncData} (F : Fun K "act" "Gate.act" s_Gate_act A.f_Gate_act fd) (B : Binds K fd ["self", "number", "what"] []) : FnM P w K mg base (G0 A) 1 A.f_Gate_act ["self", "number", "what"] m_Gate_act :=
  have scN := sc_Gate_act.nd
  fnM_of F B sc_Gate_act (by decide) fun cdv A' outer s H E gx =>
    (mss_cons (ms_if (mt_cmp (mo_lt gx.hu) (me_var 1 (pv 1)) me_int) (mss_one (ms_raise (cn := 4) gx PySem.F.excBase_ValueError T.x_LeaseError T.g_LeaseError T.k_LeaseError (raises_own T.s_LeaseError T.y_LeaseError) rfl)) mss_nil)
    (mss_cons (ms_if (mt_cmp (mo_lt gx.hu) (me_var 1 (pv 1)) (me_attr (i := 4) (me_var 0 (pv 0)) rfl (by show 4 < 7; decide))) (mss_one (ms_ret me_bl)) mss_nil)
    (mss_cons (ms_attr (c := 1) (i := 4) (fok_Gate_seen T) (me_var 0 (pv 0)) (me_var 1 (pv 1)) rfl)
    (mss_cons (ms_expr (me_bm (T := .lst) PySem.F.plainAttrs_list PySem.F.slot_list_append PySem.F.type_list_append mm_append (me_attr (i := 5) (me_var 0 (pv 0)) rfl (by show 5 < 7; decide)) (ma_cons (me_tup (ma_cons (me_var 1 (pv 1)) (ma_cons (me_var 2 (pv 2)) ma_nil))) ma_nil)))
    (mss_one (ms_ret me_bl))))))
theorem sc_set_right : FnScope (("sent" : Str) :: ("taken" : Str) :: ("answered" : Str) :: ("come" : Str) :: []) ["sent", "taken", "answered", "come"] (defScope s_set_right) := ⟨rfl, rfl, rfl, by decide +kernel, rfl, by decide +kernel, by decide +kernel⟩
def m_set_right : Fn := fdef 4 4
    (sSeq (sIf (tOr (tVal (eOp (opCmp .lt) (eVar 3) (eVar 0))) (tOr (tVal (eOp (opCmp .lt) (eVar 2) (eVar 1))) (tVal (eOp (opCmp .lt) (eOp opSub (eVar 3) (eVar 0)) (eOp opSub (eVar 2) (eVar 1)))))) (sRaise 4) sNext)
    (sRet (eTup (aCons (eOp opAdd (eOp opSub (eVar 1) (eVar 0)) (eOp opSub (eVar 2) (eVar 3))) (aCons (eOp opSub (eOp opSub (eVar 3) (eVar 0)) (eOp opSub (eVar 2) (eVar 1))) aNil)))))
theorem ar_set_right : Ar ["sent", "taken", "answered", "come"].length m_set_right := ar_fdef
theorem ok_set_right (T : Txt K mg A) {fd : FuncData} (F : Fun K "set_right" "set_right" s_set_right A.f_set_right fd) (B : Binds K fd ["sent", "taken", "answered", "come"] []) : FnM P w K mg base (G0 A) 1 A.f_set_right ["sent", "taken", "answered", "come"] m_set_right :=
  have scN := sc_set_right.nd
  fnM_of F B sc_set_right (by decide) fun cdv A' outer s H E gx =>
    (mss_cons (ms_if (mt_w (mw_or (mt_cmp (mo_lt gx.hu) (me_var 3 (pv 3)) (me_var 0 (pv 0))) (mw_or (mt_cmp (mo_lt gx.hu) (me_var 2 (pv 2)) (me_var 1 (pv 1))) (mw_or1 (mt_cmp (mo_lt gx.hu) (me_op mo_sub (me_var 3 (pv 3)) (me_var 0 (pv 0))) (me_op mo_sub (me_var 2 (pv 2)) (me_var 1 (pv 1)))))))) (mss_one (ms_raise (cn := 4) gx PySem.F.excBase_ValueError T.x_LeaseError T.g_LeaseError T.k_LeaseError (raises_own T.s_LeaseError T.y_LeaseError) rfl)) mss_nil)
    (mss_one (ms_ret (me_tup (ma_cons (me_op mo_add (me_op mo_sub (me_var 1 (pv 1)) (me_var 0 (pv 0))) (me_op mo_sub (me_var 2 (pv 2)) (me_var 3 (pv 3)))) (ma_cons (me_op mo_sub (me_op mo_sub (me_var 3 (pv 3)) (me_var 0 (pv 0))) (me_op mo_sub (me_var 2 (pv 2)) (me_var 1 (pv 1)))) ma_nil))))))
theorem sc_least_of : FnScope (("rows" : Str) :: ("best" : Str) :: ("row" : Str) :: []) ["rows"] (defScope s_least_of) := ⟨rfl, rfl, rfl, by decide +kernel, rfl, by decide +kernel, by decide +kernel⟩
def m_least_of : Fn := fdef 3 1
    (sSeq (sAsg (eOp opIx (eVar 0) (eC (.int 0))) (gName 1))
    (sSeq (sFor (iSeq (eVar 0)) (gPat (.nm 2))
    (sIf (tVal (eOp (opCmp .lt) (eOp opIx (eVar 2) (eC (.int 1))) (eOp opIx (eVar 1) (eC (.int 1))))) (sAsg (eVar 2) (gName 1)) sNext))
    (sRet (eVar 1))))
theorem ar_least_of : Ar ["rows"].length m_least_of := ar_fdef
theorem ok_least_of (T : Txt K mg A) {fd : FuncData} (F : Fun K "least_of" "least_of" s_least_of A.f_least_of fd) (B : Binds K fd ["rows"] []) : FnM P w K mg base (G0 A) 1 A.f_least_of ["rows"] m_least_of :=
  have scN := sc_least_of.nd
  fnM_of F B sc_least_of (by decide) fun cdv A' outer s H E gx =>
    (mss_cons (ms_set (ps_set (i := 1) scN rfl (by first | exact .inl rfl | exact .inr rfl) (me_ix gx.hu (me_var 0 (pv 0)) me_int)))
    (mss_cons (ms_for gx.own gx.calm (mi_seq (me_var 0 (pv 0))) (mg_pat (mp_name (pg_name (i := 2) scN rfl (by first | exact .inl rfl | exact .inr rfl))))
    (mss_one (ms_if (mt_cmp (mo_lt gx.hu) (me_ix gx.hu (me_var 2 (pv 2)) me_int) (me_ix gx.hu (me_var 1 (pv 1)) me_int)) (mss_one (ms_set (ps_set (i := 1) scN rfl (by first | exact .inl rfl | exact .inr rfl) (me_var 2 (pv 2))))) mss_nil)))
    (mss_one (ms_ret (me_var 1 (pv 1))))))
theorem sc_how_many_at : FnScope (("spans" : Str) :: ("spot" : Str) :: ("low" : Str) :: ("high" : Str) :: []) ["spans", "spot"] (defScope s_how_many_at) := ⟨rfl, rfl, rfl, by decide +kernel, rfl, by decide +kernel, by decide +kernel⟩
def m_how_many_at : Fn := fdef 4 2
    (sRet (eCall fLen (aCons (eLc (iSeq (eVar 0)) [2, 3] (.tp [(.nm 2), (.nm 3)]) (tVal (eChain (opCmp .le) (opCmp .le) (eVar 2) (eVar 1) (eVar 3))) (eC (.int 1))) aNil)))
theorem ar_how_many_at : Ar ["spans", "spot"].length m_how_many_at := ar_fdef
theorem ok_how_many_at (T : Txt K mg A) {fd : FuncData} (F : Fun K "how_many_at" "how_many_at" s_how_many_at A.f_how_many_at fd) (B : Binds K fd ["spans", "spot"] []) : FnM P w K mg base (G0 A) 1 A.f_how_many_at ["spans", "spot"] m_how_many_at :=
  have scN := sc_how_many_at.nd
  fnM_of F B sc_how_many_at (by decide) fun cdv A' outer s H E gx =>
    (mss_one (ms_ret (me_callB mc_len T.b_len (by decide +kernel) (ma_cons (me_lc (own := [(("low" : Str), 2), (("high" : Str), 3)]) (p := (.tp [(.nm 2), (.nm 3)])) rfl scN (mi_seq (me_var 0 (pv 0))) (blkOk_by (by kernel_rfl)) (by decide) (fun _ _ _ _ _ => (mp_tup rfl (mps_cons (mp_name (pg_name (i := 2) scN rfl (by first | exact .inl rfl | exact .inr rfl))) (mps_cons (mp_name (pg_name (i := 3) scN rfl (by first | exact .inl rfl | exact .inr rfl))) mps_nil)))) (fun _ _ _ _ _ => (pts_if (mt_chain (mo_le (gx_blk gx).hu) (mo_le (gx_blk gx).hu) (me_var 2 (pv 2)) (me_var 1 (pv 1)) (me_var 3 (pv 3))))) (fun _ _ _ _ _ => me_int)) ma_nil))))
theorem sc_spots_of : FnScope (("spans" : Str) :: ("found" : Str) :: ("low" : Str) :: ("high" : Str) :: []) ["spans"] (defScope s_spots_of) := ⟨rfl, rfl, rfl, by decide +kernel, rfl, by decide +kernel, by decide +kernel⟩
def m_spots_of : Fn := fdef 4 1
    (sSeq (sAsg eDct0 (gName 1))
    (sSeq (sFor (iSeq (eVar 0)) (gPat (.tp [(.nm 2), (.nm 3)]))
    (sDrop (eBM .dct fUpdate (eVar 1) (aCons (eDctP (pCons (eVar 2) (eC (.bl true)) (pCons (eVar 3) (eC (.bl true)) pNil))) aNil))))
    (sRet (eCall fSortedD (aCons (eVar 1) aNil)))))
theorem ar_spots_of : Ar ["spans"].length m_spots_of := ar_fdef
theorem ok_spots_of (T : Txt K mg A) {fd : FuncData} (F : Fun K "spots_of" "spots_of" s_spots_of A.f_spots_of fd) (B : Binds K fd ["spans"] []) : FnM P w K mg base (G0 A) 1 A.f_spots_of ["spans"] m_spots_of :=
  have scN := sc_spots_of.nd
  fnM_of F B sc_spots_of (by decide) fun cdv A' outer s H E gx =>
    (mss_cons (ms_set (ps_set (i := 1) scN rfl (by first | exact .inl rfl | exact .inr rfl) me_dct0))
    (mss_cons (ms_for gx.own gx.calm (mi_seq (me_var 0 (pv 0))) (mg_pat (mp_tup rfl (mps_cons (mp_name (pg_name (i := 2) scN rfl (by first | exact .inl rfl | exact .inr rfl))) (mps_cons (mp_name (pg_name (i := 3) scN rfl (by first | exact .inl rfl | exact .inr rfl))) mps_nil))))
    (mss_one (ms_expr (me_bm (T := .dct) PySem.F.plainAttrs_dict PySem.F.slot_dict_update PySem.F.type_dict_update mm_update (me_var 1 (pv 1)) (ma_cons (me_dctP (mpr_cons (me_var 2 (pv 2)) me_bl (mpr_cons (me_var 3 (pv 3)) me_bl mpr_nil)) rfl rfl (by simp) (by decide)) ma_nil)))))
    (mss_one (ms_ret (me_callB (mc_sortedD (gx.mono (Nat.zero_le _))) T.b_sorted (by decide +kernel) (ma_cons (me_var 1 (pv 1)) ma_nil))))))
theorem sc_middle_of : FnScope (("clocks" : Str) :: ("rows" : Str) :: []) ["clocks"] (defScope s_middle_of) := ⟨rfl, rfl, rfl, by decide +kernel, rfl, by decide +kernel, by decide +kernel⟩
def m_middle_of : Fn := fdef 2 1
    (sSeq (sIf (tVal (eOp opEq (eCall fLen (aCons (eVar 0) aNil)) (eC (.int 0)))) (sRaise 4) sNext)
    (sSeq (sAsg (eCall fSortedD (aCons (eVar 0) aNil)) (gName 1))
    (sSeq (sAsg (eIf (tVal (eOp (opCmp .gt) (eCall fLen (aCons (eVar 1) aNil)) (eC (.int 2)))) (eSl (eVar 1) (oSome (eC (.int 1))) (oSome (eUn opNeg (eC (.int 1))))) (eVar 1)) (gName 1))
    (sRet (eOp opIx (eVar 1) (eOp opDiv (eOp opSub (eCall fLen (aCons (eVar 1) aNil)) (eC (.int 1))) (eC (.int 2))))))))
theorem ar_middle_of : Ar ["clocks"].length m_middle_of := ar_fdef
theorem ok_middle_of (T : Txt K mg A) {fd : FuncData} (F : Fun K "middle_of" "middle_of" s_middle_of A.f_middle_of fd) (B : Binds K fd ["clocks"] []) : FnM P w K mg base (G0 A) 1 A.f_middle_of ["clocks"] m_middle_of :=
  have scN := sc_middle_of.nd
  fnM_of F B sc_middle_of (by decide) fun cdv A' outer s H E gx =>
    (mss_cons (ms_if (mt_cmp (mo_eq gx.hu) (me_callB mc_len T.b_len (by decide +kernel) (ma_cons (me_var 0 (pv 0)) ma_nil)) me_int) (mss_one (ms_raise (cn := 4) gx PySem.F.excBase_ValueError T.x_LeaseError T.g_LeaseError T.k_LeaseError (raises_own T.s_LeaseError T.y_LeaseError) rfl)) mss_nil)
    (mss_cons (ms_set (ps_set (i := 1) scN rfl (by first | exact .inl rfl | exact .inr rfl) (me_callB (mc_sortedD (gx.mono (Nat.zero_le _))) T.b_sorted (by decide +kernel) (ma_cons (me_var 0 (pv 0)) ma_nil))))
    (mss_cons (ms_set (ps_set (i := 1) scN rfl (by first | exact .inl rfl | exact .inr rfl) (me_if (mt_cmp (mo_gt gx.hu) (me_callB mc_len T.b_len (by decide +kernel) (ma_cons (me_var 1 (pv 1)) ma_nil)) me_int) (me_sl (me_var 1 (pv 1)) (mo_some me_int) (mo_some (me_un mu_neg me_int))) (me_var 1 (pv 1)))))
    (mss_one (ms_ret (me_ix gx.hu (me_var 1 (pv 1)) (me_op mo_div (me_op mo_sub (me_callB mc_len T.b_len (by decide +kernel) (ma_cons (me_var 1 (pv 1)) ma_nil)) me_int) me_int)))))))
theorem sc_Marked_init0 : FnScope (("self" : Str) :: []) ["self"] (defScope s_Marked_init0) := ⟨rfl, rfl, rfl, by decide +kernel, rfl, by decide +kernel, by decide +kernel⟩
def m_Marked_init0 : Fn := fdef 1 1
    (sAttr 2 6 (eVar 0) (eTup (aCons (eC (.int 0)) (aCons (eC (.int 0)) aNil))))
theorem ar_Marked_init0 : Ar ["self"].length m_Marked_init0 := ar_fdef
theorem ok_Marked_init0 (T : Txt K mg A) {fd : FuncData} (F : Fun K "__init__" "Marked.__init__" s_Marked_init0 A.f_Marked_init0 fd) (B : Binds K fd ["self"] []) : FnM P w K mg base (G0 A) 1 A.f_Marked_init0 ["self"] m_Marked_init0 :=
  have scN := sc_Marked_init0.nd
  fnM_of F B sc_Marked_init0 (by decide) fun cdv A' outer s H E gx =>
    (mss_one (ms_attr (c := 2) (i := 6) (fok_Marked_mark T) (me_var 0 (pv 0)) (me_tup (ma_cons me_int (ma_cons me_int ma_nil))) rfl))
theorem sc_Marked_next_mark : FnScope (("self" : Str) :: ("now" : Str) :: []) ["self", "now"] (defScope s_Marked_next_mark) := ⟨rfl, rfl, rfl, by decide +kernel, rfl, by decide +kernel, by decide +kernel⟩
def m_Marked_next_mark : Fn := fdef 2 2
    (sSeq (sIf (tVal (eOp (opCmp .lt) (eVar 1) (eC (.int 0)))) (sRaise 4) sNext)
    (sSeq (sAttr 2 6 (eVar 0) (eIf (tVal (eOp (opCmp .gt) (eVar 1) (eOp opIx (eAttr 6 (eVar 0)) (eC (.int 0))))) (eTup (aCons (eVar 1) (aCons (eC (.int 0)) aNil))) (eTup (aCons (eOp opIx (eAttr 6 (eVar 0)) (eC (.int 0))) (aCons (eOp opAdd (eOp opIx (eAttr 6 (eVar 0)) (eC (.int 1))) (eC (.int 1))) aNil)))))
    (sRet (eAttr 6 (eVar 0)))))
theorem ar_Marked_next_mark : Ar ["self", "now"].length m_Marked_next_mark := ar_fdef
theorem ok_Marked_next_mark (T : Txt K mg A) {fd : FuncData} (F : Fun K "next_mark" "Marked.next_mark" s_Marked_next_mark A.f_Marked_next_mark fd) (B : Binds K fd ["self", "now"] []) : FnM P w K mg base (G0 A) 1 A.f_Marked_next_mark ["self", "now"] m_Marked_next_mark :=
  have scN := sc_Marked_next_mark.nd
  fnM_of F B sc_Marked_next_mark (by decide) fun cdv A' outer s H E gx =>
    (mss_cons (ms_if (mt_cmp (mo_lt gx.hu) (me_var 1 (pv 1)) me_int) (mss_one (ms_raise (cn := 4) gx PySem.F.excBase_ValueError T.x_LeaseError T.g_LeaseError T.k_LeaseError (raises_own T.s_LeaseError T.y_LeaseError) rfl)) mss_nil)
    (mss_cons (ms_attr (c := 2) (i := 6) (fok_Marked_mark T) (me_var 0 (pv 0)) (me_if (mt_cmp (mo_gt gx.hu) (me_var 1 (pv 1)) (me_ix gx.hu (me_attr (i := 6) (me_var 0 (pv 0)) rfl (by show 6 < 7; decide)) me_int)) (me_tup (ma_cons (me_var 1 (pv 1)) (ma_cons me_int ma_nil))) (me_tup (ma_cons (me_ix gx.hu (me_attr (i := 6) (me_var 0 (pv 0)) rfl (by show 6 < 7; decide)) me_int) (ma_cons (me_op mo_add (me_ix gx.hu (me_attr (i := 6) (me_var 0 (pv 0)) rfl (by show 6 < 7; decide)) me_int) me_int) ma_nil)))) rfl)
    (mss_one (ms_ret (me_attr (i := 6) (me_var 0 (pv 0)) rfl (by show 6 < 7; decide))))))
theorem sc_Marked_hear : FnScope (("self" : Str) :: ("other" : Str) :: ("now" : Str) :: ("best" : Str) :: []) ["self", "other", "now"] (defScope s_Marked_hear) := ⟨rfl, rfl, rfl, by decide +kernel, rfl, by decide +kernel, by decide +kernel⟩
def m_Marked_hear : Fn := fdef 4 3
    (sSeq (sIf (tVal (eOp (opCmp .lt) (eVar 2) (eC (.int 0)))) (sRaise 4) sNext)
    (sSeq (sAsg (eCall (fBest true) (aCons (eAttr 6 (eVar 0)) (aCons (eCall fTuple (aCons (eVar 1) aNil)) aNil))) (gName 3))
    (sSeq (sAttr 2 6 (eVar 0) (eIf (tVal (eOp (opCmp .gt) (eVar 2) (eOp opIx (eVar 3) (eC (.int 0))))) (eTup (aCons (eVar 2) (aCons (eC (.int 0)) aNil))) (eTup (aCons (eOp opIx (eVar 3) (eC (.int 0))) (aCons (eOp opAdd (eOp opIx (eVar 3) (eC (.int 1))) (eC (.int 1))) aNil)))))
    (sRet (eAttr 6 (eVar 0))))))
theorem ar_Marked_hear : Ar ["self", "other", "now"].length m_Marked_hear := ar_fdef
theorem ok_Marked_hear (T : Txt K mg A) {fd : FuncData} (F : Fun K "hear" "Marked.hear" s_Marked_hear A.f_Marked_hear fd) (B : Binds K fd ["self", "other", "now"] []) : FnM P w K mg base (G0 A) 1 A.f_Marked_hear ["self", "other", "now"] m_Marked_hear :=
  have scN := sc_Marked_hear.nd
  fnM_of F B sc_Marked_hear (by decide) fun cdv A' outer s H E gx =>
    (mss_cons (ms_if (mt_cmp (mo_lt gx.hu) (me_var 2 (pv 2)) me_int) (mss_one (ms_raise (cn := 4) gx PySem.F.excBase_ValueError T.x_LeaseError T.g_LeaseError T.k_LeaseError (raises_own T.s_LeaseError T.y_LeaseError) rfl)) mss_nil)
    (mss_cons (ms_set (ps_set (i := 3) scN rfl (by first | exact .inl rfl | exact .inr rfl) (me_callB (mc_max (gx.mono (Nat.zero_le _))) T.b_max (by decide +kernel) (ma_cons (me_attr (i := 6) (me_var 0 (pv 0)) rfl (by show 6 < 7; decide)) (ma_cons (me_callTy mc_tuple T.b_tuple (by decide +kernel) (ma_cons (me_var 1 (pv 1)) ma_nil)) ma_nil)))))
    (mss_cons (ms_attr (c := 2) (i := 6) (fok_Marked_mark T) (me_var 0 (pv 0)) (me_if (mt_cmp (mo_gt gx.hu) (me_var 2 (pv 2)) (me_ix gx.hu (me_var 3 (pv 3)) me_int)) (me_tup (ma_cons (me_var 2 (pv 2)) (ma_cons me_int ma_nil))) (me_tup (ma_cons (me_ix gx.hu (me_var 3 (pv 3)) me_int) (ma_cons (me_op mo_add (me_ix gx.hu (me_var 3 (pv 3)) me_int) me_int) ma_nil)))) rfl)
    (mss_one (ms_ret (me_attr (i := 6) (me_var 0 (pv 0)) rfl (by show 6 < 7; decide)))))))
theorem sc_wait_out : FnScope (("time" : Str) :: ("drift" : Str) :: ("now" : Str) :: []) ["time", "drift", "now"] (defScope s_wait_out) := ⟨rfl, rfl, rfl, by decide +kernel, rfl, by decide +kernel, by decide +kernel⟩
def m_wait_out : Fn := fdef 3 3
    (sSeq (sIf (tVal (eOp (opCmp .lt) (eVar 1) (eC (.int 0)))) (sRaise 4) sNext)
    (sRet (eCall (fBest true) (aCons (eC (.int 0)) (aCons (eOp opSub (eOp opAdd (eOp opAdd (eVar 0) (eVar 1)) (eC (.int 1))) (eVar 2)) aNil)))))
theorem ar_wait_out : Ar ["time", "drift", "now"].length m_wait_out := ar_fdef
theorem ok_wait_out (T : Txt K mg A) {fd : FuncData} (F : Fun K "wait_out" "wait_out" s_wait_out A.f_wait_out fd) (B : Binds K fd ["time", "drift", "now"] []) : FnM P w K mg base (G0 A) 1 A.f_wait_out ["time", "drift", "now"] m_wait_out :=
  have scN := sc_wait_out.nd
  fnM_of F B sc_wait_out (by decide) fun cdv A' outer s H E gx =>
    (mss_cons (ms_if (mt_cmp (mo_lt gx.hu) (me_var 1 (pv 1)) me_int) (mss_one (ms_raise (cn := 4) gx PySem.F.excBase_ValueError T.x_LeaseError T.g_LeaseError T.k_LeaseError (raises_own T.s_LeaseError T.y_LeaseError) rfl)) mss_nil)
    (mss_one (ms_ret (me_callB (mc_max (gx.mono (Nat.zero_le _))) T.b_max (by decide +kernel) (ma_cons me_int (ma_cons (me_op mo_sub (me_op mo_add (me_op mo_add (me_var 0 (pv 0)) (me_var 1 (pv 1))) me_int) (me_var 2 (pv 2))) ma_nil))))))
theorem sc__law_dice : FnScope (("cell" : Str) :: []) ["cell"] (defScope s__law_dice) := ⟨rfl, rfl, rfl, by decide +kernel, rfl, by decide +kernel, by decide +kernel⟩
def m__law_dice : Fn := fdef 1 1
    (sSeq (sIf (tVal (eChain (opCmp .lt) (opCmp .lt) (eOp opSub (eC (.int 0)) (eC (.int 10))) (eVar 0) (eC (.int 10)))) (sRet (eLstR (aCons (eCall fAbs (aCons (eVar 0) aNil)) (aCons (eC (.int 0)) (aCons (eC (.int 2)) aNil))))) sNext)
    (sRet (eLstR (aCons (eVar 0) (aCons (eOp opAdd (eC (.int 1)) (eOp opMod (eCall fInt (aCons (eVar 0) aNil)) (eC (.int 1009)))) (aCons (eCall fInt (aCons (eOp (opCmp .ge) (eVar 0) (eOp opPow (eC (.int 10)) (eC (.int 18)))) aNil)) aNil))))))
theorem ar__law_dice : Ar ["cell"].length m__law_dice := ar_fdef
theorem ok__law_dice (T : Txt K mg A) {fd : FuncData} (F : Fun K "_law_dice" "_law_dice" s__law_dice A.f__law_dice fd) (B : Binds K fd ["cell"] []) : FnM P w K mg base (G0 A) 1 A.f__law_dice ["cell"] m__law_dice :=
  have scN := sc__law_dice.nd
  fnM_of F B sc__law_dice (by decide) fun cdv A' outer s H E gx =>
    (mss_cons (ms_if (mt_chain (mo_lt gx.hu) (mo_lt gx.hu) (me_op mo_sub me_int me_int) (me_var 0 (pv 0)) me_int) (mss_one (ms_ret (me_lstR (ma_cons (me_callB mc_abs T.b_abs (by decide +kernel) (ma_cons (me_var 0 (pv 0)) ma_nil)) (ma_cons me_int (ma_cons me_int ma_nil)))))) mss_nil)
    (mss_one (ms_ret (me_lstR (ma_cons (me_var 0 (pv 0)) (ma_cons (me_op mo_add me_int (me_op mo_mod (me_callTy mc_int T.b_int (by decide +kernel) (ma_cons (me_var 0 (pv 0)) ma_nil)) me_int)) (ma_cons (me_callTy mc_int T.b_int (by decide +kernel) (ma_cons (me_cmp (mo_ge gx.hu) (me_var 0 (pv 0)) (me_op mo_pow me_int me_int)) ma_nil)) ma_nil)))))))
theorem sc__law_spans : FnScope (("spans" : Str) :: ("wrong" : Str) :: ("need" : Str) :: ("spot" : Str) :: ("low" : Str) :: ("high" : Str) :: []) ["spans", "wrong"] (defScope s__law_spans) := ⟨rfl, rfl, rfl, by decide +kernel, rfl, by decide +kernel, by decide +kernel⟩
def m__law_spans : Fn := fdef 6 2
    (sSeq (sAsg (eOp opSub (eCall fLen (aCons (eVar 0) aNil)) (eVar 1)) (gName 2))
    (sRet (eLc (iRange2 (eC (.int 0)) (eC (.int 61))) [3] (.nm 3) (tVal (eOp (opCmp .ge) (eCall fLen (aCons (eLc (iSeq (eVar 0)) [4, 5] (.tp [(.nm 4), (.nm 5)]) (tVal (eChain (opCmp .le) (opCmp .le) (eOp opMul (eC (.int 2)) (eVar 4)) (eVar 3) (eOp opMul (eC (.int 2)) (eVar 5)))) (eC (.int 1))) aNil)) (eVar 2))) (eVar 3))))
theorem ar__law_spans : Ar ["spans", "wrong"].length m__law_spans := ar_fdef
theorem ok__law_spans (T : Txt K mg A) {fd : FuncData} (F : Fun K "_law_spans" "_law_spans" s__law_spans A.f__law_spans fd) (B : Binds K fd ["spans", "wrong"] []) : FnM P w K mg base (G0 A) 1 A.f__law_spans ["spans", "wrong"] m__law_spans :=
  have scN := sc__law_spans.nd
  fnM_of F B sc__law_spans (by decide) fun cdv A' outer s H E gx =>
    (mss_cons (ms_set (ps_set (i := 2) scN rfl (by first | exact .inl rfl | exact .inr rfl) (me_op mo_sub (me_callB mc_len T.b_len (by decide +kernel) (ma_cons (me_var 0 (pv 0)) ma_nil)) (me_var 1 (pv 1)))))
    (mss_one (ms_ret (me_lc (own := [(("spot" : Str), 3)]) (p := (.nm 3)) rfl scN (mi_range2 T.b_range me_int me_int) (blkOk_by (by kernel_rfl)) (by decide) (fun _ _ _ _ _ => (mp_name (pg_name (i := 3) scN rfl (by first | exact .inl rfl | exact .inr rfl)))) (fun _ _ _ _ _ => (pts_if (mt_cmp (mo_ge (gx_blk gx).hu) (me_callB mc_len T.b_len (by decide +kernel) (ma_cons (me_lc (own := [(("low" : Str), 4), (("high" : Str), 5)]) (p := (.tp [(.nm 4), (.nm 5)])) rfl scN (mi_seq (me_var 0 (pv 0))) (blkOk_by (by kernel_rfl)) (by decide) (fun _ _ _ _ _ => (mp_tup rfl (mps_cons (mp_name (pg_name (i := 4) scN rfl (by first | exact .inl rfl | exact .inr rfl))) (mps_cons (mp_name (pg_name (i := 5) scN rfl (by first | exact .inl rfl | exact .inr rfl))) mps_nil)))) (fun _ _ _ _ _ => (pts_if (mt_chain (mo_le (gx_blk (gx_blk gx)).hu) (mo_le (gx_blk (gx_blk gx)).hu) (me_op mo_mul me_int (me_var 4 (pv 4))) (me_var 3 (pv 3)) (me_op mo_mul me_int (me_var 5 (pv 5)))))) (fun _ _ _ _ _ => me_int)) ma_nil)) (me_var 2 (pv 2))))) (fun _ _ _ _ _ => (me_var 3 (pv 3)))))))
theorem sc_best_set : FnScope (("rows" : Str) :: ("row" : Str) :: []) ["rows"] (defScope s_best_set) := ⟨rfl, rfl, rfl, by decide +kernel, rfl, by decide +kernel, by decide +kernel⟩
def m_best_set : Fn := fdef 2 1
    (sSeq (sIf (tVal (eOp opEq (eCall fLen (aCons (eVar 0) aNil)) (eC (.int 0)))) (sRaise 4) sNext)
    (sRet (eCall m_least_of (aCons (eLc (iSeq (eVar 0)) [1] (.nm 1) tYesM (eCall m_set_right (aCons (eOp opIx (eVar 1) (eC (.int 0))) (aCons (eOp opIx (eVar 1) (eC (.int 1))) (aCons (eOp opIx (eVar 1) (eC (.int 2))) (aCons (eOp opIx (eVar 1) (eC (.int 3))) aNil)))))) aNil))))
theorem ar_best_set : Ar ["rows"].length m_best_set := ar_fdef
theorem ok_best_set (T : Txt K mg A) {fd : FuncData} (F : Fun K "best_set" "best_set" s_best_set A.f_best_set fd) (B : Binds K fd ["rows"] []) (M_set_right : FnM P w K mg base (G0 A) 1 A.f_set_right ["sent", "taken", "answered", "come"] m_set_right) (M_least_of : FnM P w K mg base (G0 A) 1 A.f_least_of ["rows"] m_least_of) : FnM P w K mg base (G0 A) 2 A.f_best_set ["rows"] m_best_set :=
  have scN := sc_best_set.nd
  fnM_of F B sc_best_set (by decide) fun cdv A' outer s H E gx =>
    (mss_cons (ms_if (mt_cmp (mo_eq gx.hu) (me_callB mc_len T.b_len (by decide +kernel) (ma_cons (me_var 0 (pv 0)) ma_nil)) me_int) (mss_one (ms_raise (cn := 4) gx PySem.F.excBase_ValueError T.x_LeaseError T.g_LeaseError T.k_LeaseError (raises_own T.s_LeaseError T.y_LeaseError) rfl)) mss_nil)
    (mss_one (ms_ret (me_call gx M_least_of (by decide) ar_least_of T.f_least_of (ma_cons (me_lc (own := [(("row" : Str), 1)]) (p := (.nm 1)) rfl scN (mi_seq (me_var 0 (pv 0))) (blkOk_by (by kernel_rfl)) (by decide) (fun _ _ _ _ _ => (mp_name (pg_name (i := 1) scN rfl (by first | exact .inl rfl | exact .inr rfl)))) (fun _ _ _ _ _ => pts_yes) (fun _ _ _ _ _ => (me_call (gx_blk gx) M_set_right (by decide) ar_set_right T.f_set_right (ma_cons (me_ix (gx_blk gx).hu (me_var 1 (pv 1)) me_int) (ma_cons (me_ix (gx_blk gx).hu (me_var 1 (pv 1)) me_int) (ma_cons (me_ix (gx_blk gx).hu (me_var 1 (pv 1)) me_int) (ma_cons (me_ix (gx_blk gx).hu (me_var 1 (pv 1)) me_int) ma_nil))))))) ma_nil)))))
theorem sc__law_roll : FnScope (("dice" : Str) :: ("many" : Str) :: ("found" : Str) :: []) ["dice", "many"] (defScope s__law_roll) := ⟨rfl, rfl, rfl, by decide +kernel, rfl, by decide +kernel, by decide +kernel⟩
def b__law_roll (rec : Fn) : Fn := fdef 3 2
    (sSeq (sIf (tOr (tVal (eOp opEq (eOp opIx (eVar 0) (eC (.int 2))) (eC (.int 2)))) (tAnd (tVal (eOp opEq (eOp opIx (eVar 0) (eC (.int 2))) (eC (.int 1)))) (tVal (eOp (opCmp .gt) (eOp opIx (eVar 0) (eC (.int 0))) (eC (.int 0)))))) (sSeq (sAsg (eOp opMod (eCall fInt (aCons (eOp opIx (eVar 0) (eC (.int 0))) aNil)) (eVar 1)) (gName 2))
    (sSeq (sAsg (eOp opDiv (eOp opIx (eVar 0) (eC (.int 0))) (eVar 1)) (gSubM (eVar 0) (eC (.int 0))))
    (sRet (eVar 2)))) sNext)
    (sSeq (sAsg (eC (.int 0)) (gSubM (eVar 0) (eC (.int 2))))
    (sSeq (sIf (tVal (eOp (opCmp .gt) (eVar 1) (eC (.int 100000000)))) (sRet (eOp opMod (eCall fInt (aCons (eOp opAdd (eOp opMul (eCall rec (aCons (eVar 0) (aCons (eOp opAdd (eOp opDiv (eVar 1) (eC (.int 100000000))) (eC (.int 1))) aNil))) (eC (.int 100000000))) (eCall rec (aCons (eVar 0) (aCons (eC (.int 100000000)) aNil)))) aNil)) (eVar 1))) sNext)
    (sSeq (sAsg (eOp opMod (eCall fInt (aCons (eOp opAdd (eOp opAdd (eOp opMul (eOp opIx (eVar 0) (eC (.int 0))) (eC (.int 48271))) (eOp opMul (eOp opIx (eVar 0) (eC (.int 1))) (eC (.int 69621)))) (eC (.int 11))) aNil)) (eC (.int 2147483647))) (gSubM (eVar 0) (eC (.int 0))))
    (sSeq (sAsg (eOp opAdd (eOp opIx (eVar 0) (eC (.int 1))) (eC (.int 1))) (gSubM (eVar 0) (eC (.int 1))))
    (sRet (eOp opMod (eCall fInt (aCons (eOp opDiv (eOp opIx (eVar 0) (eC (.int 0))) (eC (.int 7))) aNil)) (eVar 1))))))))
def m__law_roll : Fn := b__law_roll (b__law_roll fun _ _ => .stuck)
theorem ar__law_roll : Ar ["dice", "many"].length m__law_roll := fun xs S h => if_neg h
theorem ar1__law_roll : Ar ["dice", "many"].length (b__law_roll fun _ _ => .stuck) := fun xs S h => if_neg h
theorem st__law_roll (T : Txt K mg A) {fd : FuncData} (F : Fun K "_law_roll" "_law_roll" s__law_roll A.f__law_roll fd) (B : Binds K fd ["dice", "many"] []) {k : Nat} {rec : Fn} (hk : 1 ≤ k + 1) (hrec : FnM P w K mg base (G0 A) k A.f__law_roll ["dice", "many"] rec) (arec : Ar ["dice", "many"].length rec) : FnM P w K mg base (G0 A) (k + 1) A.f__law_roll ["dice", "many"] (b__law_roll rec) :=
  have scN := sc__law_roll.nd
  fnM_of F B sc__law_roll (by decide) fun cdv A' outer s H E gx =>
    (mss_cons (ms_if (mt_w (mw_or (mt_cmp (mo_eq gx.hu) (me_ix gx.hu (me_var 0 (pv 0)) me_int) me_int) (mw_or1 (mt_w (mw_and (mt_cmp (mo_eq gx.hu) (me_ix gx.hu (me_var 0 (pv 0)) me_int) me_int) (mw_and1 (mt_cmp (mo_gt gx.hu) (me_ix gx.hu (me_var 0 (pv 0)) me_int) me_int))))))) (mss_cons (ms_set (ps_set (i := 2) scN rfl (by first | exact .inl rfl | exact .inr rfl) (me_op mo_mod (me_callTy mc_int T.b_int (by decide +kernel) (ma_cons (me_ix gx.hu (me_var 0 (pv 0)) me_int) ma_nil)) (me_var 1 (pv 1)))))
    (mss_cons (ms_asg (me_op mo_div (me_ix gx.hu (me_var 0 (pv 0)) me_int) (me_var 1 (pv 1))) (mg_sub gx (me_var 0 (pv 0)) me_int))
    (mss_one (ms_ret (me_var 2 (pv 2)))))) mss_nil)
    (mss_cons (ms_asg me_int (mg_sub gx (me_var 0 (pv 0)) me_int))
    (mss_cons (ms_if (mt_cmp (mo_gt gx.hu) (me_var 1 (pv 1)) me_int) (mss_one (ms_ret (me_op mo_mod (me_callTy mc_int T.b_int (by decide +kernel) (ma_cons (me_op mo_add (me_op mo_mul (me_call gx hrec (Nat.le_refl _) arec T.f__law_roll (ma_cons (me_var 0 (pv 0)) (ma_cons (me_op mo_add (me_op mo_div (me_var 1 (pv 1)) me_int) me_int) ma_nil))) me_int) (me_call gx hrec (Nat.le_refl _) arec T.f__law_roll (ma_cons (me_var 0 (pv 0)) (ma_cons me_int ma_nil)))) ma_nil)) (me_var 1 (pv 1))))) mss_nil)
    (mss_cons (ms_asg (me_op mo_mod (me_callTy mc_int T.b_int (by decide +kernel) (ma_cons (me_op mo_add (me_op mo_add (me_op mo_mul (me_ix gx.hu (me_var 0 (pv 0)) me_int) me_int) (me_op mo_mul (me_ix gx.hu (me_var 0 (pv 0)) me_int) me_int)) me_int) ma_nil)) me_int) (mg_sub gx (me_var 0 (pv 0)) me_int))
    (mss_cons (ms_asg (me_op mo_add (me_ix gx.hu (me_var 0 (pv 0)) me_int) me_int) (mg_sub gx (me_var 0 (pv 0)) me_int))
    (mss_one (ms_ret (me_op mo_mod (me_callTy mc_int T.b_int (by decide +kernel) (ma_cons (me_op mo_div (me_ix gx.hu (me_var 0 (pv 0)) me_int) me_int) ma_nil)) (me_var 1 (pv 1))))))))))
theorem ok__law_roll (T : Txt K mg A) {fd : FuncData} (F : Fun K "_law_roll" "_law_roll" s__law_roll A.f__law_roll fd) (B : Binds K fd ["dice", "many"] []) : FnM P w K mg base (G0 A) 2 A.f__law_roll ["dice", "many"] m__law_roll :=
  st__law_roll T F B (by decide) (st__law_roll T F B (k := 0) (by decide) (fnM_stuck F B sc__law_roll) (fun _ _ _ => rfl)) ar1__law_roll
theorem sc__law_rounds : FnScope (("script" : Str) :: ("most" : Str) :: ("cells" : Str) :: ("cell" : Str) :: []) ["script", "most"] (defScope s__law_rounds) := ⟨rfl, rfl, rfl, by decide +kernel, rfl, by decide +kernel, by decide +kernel⟩
def m__law_rounds : Fn := fdef 4 2
    (sSeq (sAsg (eSl (eVar 0) oNone (oSome (eVar 1))) (gName 2))
    (sSeq (sIf (tVal (eOp opEq (eVar 2) (eLstF aNil))) (sAsg (eLstF (aCons (eC (.int 0)) aNil)) (gName 2)) sNext)
    (sRet (eLc (iSeq (eVar 2)) [3] (.nm 3) tYesM (eCall m__law_dice (aCons (eVar 3) aNil))))))
theorem ar__law_rounds : Ar ["script", "most"].length m__law_rounds := ar_fdef
theorem ok__law_rounds (T : Txt K mg A) {fd : FuncData} (F : Fun K "_law_rounds" "_law_rounds" s__law_rounds A.f__law_rounds fd) (B : Binds K fd ["script", "most"] []) (M__law_dice : FnM P w K mg base (G0 A) 1 A.f__law_dice ["cell"] m__law_dice) : FnM P w K mg base (G0 A) 2 A.f__law_rounds ["script", "most"] m__law_rounds :=
  have scN := sc__law_rounds.nd
  fnM_of F B sc__law_rounds (by decide) fun cdv A' outer s H E gx =>
    (mss_cons (ms_set (ps_set (i := 2) scN rfl (by first | exact .inl rfl | exact .inr rfl) (me_sl (me_var 0 (pv 0)) mo_none (mo_some (me_var 1 (pv 1))))))
    (mss_cons (ms_if (mt_cmp (mo_eq gx.hu) (me_var 2 (pv 2)) (me_lstF ma_nil)) (mss_one (ms_set (ps_set (i := 2) scN rfl (by first | exact .inl rfl | exact .inr rfl) (me_lstF (ma_cons me_int ma_nil))))) mss_nil)
    (mss_one (ms_ret (me_lc (own := [(("cell" : Str), 3)]) (p := (.nm 3)) rfl scN (mi_seq (me_var 2 (pv 2))) (blkOk_by (by kernel_rfl)) (by decide) (fun _ _ _ _ _ => (mp_name (pg_name (i := 3) scN rfl (by first | exact .inl rfl | exact .inr rfl)))) (fun _ _ _ _ _ => pts_yes) (fun _ _ _ _ _ => (me_call (gx_blk gx) M__law_dice (by decide) ar__law_dice T.f__law_dice (ma_cons (me_var 3 (pv 3)) ma_nil))))))))
theorem sc__law_safe : FnScope (("own" : Str) :: ("leases" : Str) :: ("now" : Str) :: ("drift" : Str) :: ("thing" : Str) :: ("able" : Str) :: ("who" : Str) :: ("one" : Str) :: ("until" : Str) :: []) ["own", "leases", "now", "drift"] (defScope s__law_safe) := ⟨rfl, rfl, rfl, by decide +kernel, rfl, by decide +kernel, by decide +kernel⟩
def m__law_safe : Fn := fdef 9 4
    (sSeq (sFor (iSeq (eC (.str [120, 121]))) (gPat (.nm 4))
    (sSeq (sAsg (eLc (iSeq (eOp opIx (eVar 0) (eC (.str [97, 99, 116, 115])))) [6, 7, 8] (.tp [(.nm 6), (.nm 7), (.nm 8)]) (tAnd (tVal (eOp opEq (eVar 7) (eVar 4))) (tTru (eMeth 0 m_Leases_may_act (eVar 1) (aCons (eVar 8) (aCons (eOp opSub (eVar 2) (eVar 3)) aNil))))) (eVar 6)) (gName 5))
    (sIf (tVal (eOp (opCmp .gt) (eCall fLen (aCons (eVar 5) aNil)) (eC (.int 1)))) (sRet (eC (.bl false))) sNext)))
    (sRet (eC (.bl true))))
theorem ar__law_safe : Ar ["own", "leases", "now", "drift"].length m__law_safe := ar_fdef
theorem ok__law_safe (T : Txt K mg A) {fd : FuncData} (F : Fun K "_law_safe" "_law_safe" s__law_safe A.f__law_safe fd) (B : Binds K fd ["own", "leases", "now", "drift"] []) (M_Leases_may_act : FnM P w K mg base (G0 A) 1 A.f_Leases_may_act ["self", "until", "now"] m_Leases_may_act) : FnM P w K mg base (G0 A) 2 A.f__law_safe ["own", "leases", "now", "drift"] m__law_safe :=
  have scN := sc__law_safe.nd
  fnM_of F B sc__law_safe (by decide) fun cdv A' outer s H E gx =>
    (mss_cons (ms_for gx.own gx.calm (mi_seq (me_str (by decide +kernel))) (mg_pat (mp_name (pg_name (i := 4) scN rfl (by first | exact .inl rfl | exact .inr rfl))))
    (mss_cons (ms_setLc0 true (n := 5) (own := [(("who" : Str), 6), (("one" : Str), 7), (("until" : Str), 8)]) (p := (.tp [(.nm 6), (.nm 7), (.nm 8)])) rfl scN rfl rfl (sw_true rfl rfl rfl (by decide +kernel)) (mi_seq (me_ix gx.hu (me_var 0 (pv 0)) (me_str (by decide +kernel)))) (blkOk_by (by kernel_rfl)) (by decide) (fun _ _ _ _ _ => (mp_tup rfl (mps_cons (mp_name (pg_name (i := 6) scN rfl (by first | exact .inl rfl | exact .inr rfl))) (mps_cons (mp_name (pg_name (i := 7) scN rfl (by first | exact .inl rfl | exact .inr rfl))) (mps_cons (mp_name (pg_name (i := 8) scN rfl (by first | exact .inl rfl | exact .inr rfl))) mps_nil))))) (fun _ _ _ _ _ => (pts_if (mt_w (mw_and (mt_cmp (mo_eq (gx_blk gx).hu) (me_var 7 (pv 7)) (me_var 4 (pv 4))) (mw_and1 (mt_val (me_meth (c := 0) (gx_blk gx) (me_var 1 (pv 1)) T.c_Leases T.t_Leases_may_act M_Leases_may_act (by decide) ar_Leases_may_act rfl nf_may_act (ma_cons (me_var 8 (pv 8)) (ma_cons (me_op mo_sub (me_var 2 (pv 2)) (me_var 3 (pv 3))) ma_nil))))))))) (fun _ _ _ _ _ => (me_var 6 (pv 6))))
    (mss_one (ms_if (mt_cmp (mo_gt gx.hu) (me_callB mc_len T.b_len (by decide +kernel) (ma_cons (me_var 5 (pv 5)) ma_nil)) me_int) (mss_one (ms_ret me_bl)) mss_nil))))
    (mss_one (ms_ret me_bl)))
theorem sc__law_marks : FnScope (("dice" : Str) :: ("clocks" : Str) :: ("marks" : Str) :: ("now" : Str) :: ("step" : Str) :: ("side" : Str) :: ("mine" : Str) :: ("best" : Str) :: ("told" : Str) :: ("due" : Str) :: ("k" : Str) :: ("mark" : Str) :: []) ["dice"] (defScope s__law_marks) := ⟨rfl, rfl, rfl, by decide +kernel, rfl, by decide +kernel, by decide +kernel⟩
def m__law_marks : Fn := fdef 12 1
    (sSeq (sPar [1, 2, 3] (aCons (eLstF (aCons (eMake 2 m_Marked_init0 aNil) (aCons (eMake 2 m_Marked_init0 aNil) aNil))) (aCons (eLstF (aCons (eTup (aCons (eC (.int 0)) (aCons (eC (.int 0)) aNil))) (aCons (eTup (aCons (eC (.int 0)) (aCons (eC (.int 0)) aNil))) aNil))) (aCons (eC (.int 0)) aNil))))
    (sSeq (sFor (iRange1 (eCall m__law_roll (aCons (eVar 0) (aCons (eC (.int 12)) aNil)))) (gPat (.nm 4))
    (sSeq (sAsg (eTup (aCons (eCall m__law_roll (aCons (eVar 0) (aCons (eC (.int 2)) aNil))) (aCons (eOp opAdd (eVar 3) (eCall m__law_roll (aCons (eVar 0) (aCons (eC (.int 3)) aNil)))) aNil))) (gPat (.tp [(.nm 5), (.nm 3)])))
    (sSeq (sAsg (eIf (tVal (eOp (opCmp .gt) (eVar 3) (eC (.int 2)))) (eOp opSub (eVar 3) (eOp opMul (eC (.int 2)) (eVar 5))) (eVar 3)) (gName 6))
    (sSeq (sAsg (eIf (tVal (eOp opEq (eCall m__law_roll (aCons (eVar 0) (aCons (eC (.int 2)) aNil))) (eC (.int 0)))) (eCall (fBest true) (aCons (eVar 2) aNil)) (eOp opIx (eVar 2) (eVar 5))) (gName 7))
    (sSeq (sAsg (eIf (tVal (eOp opNe (eVar 7) (eOp opIx (eVar 2) (eVar 5)))) (eMeth 2 m_Marked_hear (eOp opIx (eVar 1) (eVar 5)) (aCons (eVar 7) (aCons (eVar 6) aNil))) (eMeth 2 m_Marked_next_mark (eOp opIx (eVar 1) (eVar 5)) (aCons (eVar 6) aNil))) (gName 8))
    (sSeq (sAsg (eIf (tVal (eOp (opCmp .gt) (eVar 6) (eOp opIx (eVar 7) (eC (.int 0))))) (eTup (aCons (eVar 6) (aCons (eC (.int 0)) aNil))) (eTup (aCons (eOp opIx (eVar 7) (eC (.int 0))) (aCons (eOp opAdd (eOp opIx (eVar 7) (eC (.int 1))) (eC (.int 1))) aNil)))) (gName 9))
    (sSeq (sIf (tOr (tVal (eOp opNe (eVar 8) (eVar 9))) (tOr (tVal (eOp (opCmp .le) (eVar 8) (eOp opIx (eVar 2) (eVar 5)))) (tOr (tVal (eOp (opCmp .le) (eVar 8) (eVar 7))) (tVal (eOp opNe (eAttr 6 (eOp opIx (eVar 1) (eVar 5))) (eVar 8)))))) (sRet (eC (.bl false))) sNext)
    (sAsg (eLc (iEnumM (eVar 2)) [10, 11] (.tp [(.nm 10), (.nm 11)]) tYesM (eIf (tVal (eOp opEq (eVar 10) (eVar 5))) (eVar 9) (eVar 11))) (gName 2)))))))))
    (sRet (eC (.bl true)))))
theorem ar__law_marks : Ar ["dice"].length m__law_marks := ar_fdef
theorem ok__law_marks (T : Txt K mg A) {fd : FuncData} (F : Fun K "_law_marks" "_law_marks" s__law_marks A.f__law_marks fd) (B : Binds K fd ["dice"] []) (M_Marked_init0 : FnM P w K mg base (G0 A) 1 A.f_Marked_init0 ["self"] m_Marked_init0) (M__law_roll : FnM P w K mg base (G0 A) 2 A.f__law_roll ["dice", "many"] m__law_roll) (M_Marked_hear : FnM P w K mg base (G0 A) 1 A.f_Marked_hear ["self", "other", "now"] m_Marked_hear) (M_Marked_next_mark : FnM P w K mg base (G0 A) 1 A.f_Marked_next_mark ["self", "now"] m_Marked_next_mark) : FnM P w K mg base (G0 A) 3 A.f__law_marks ["dice"] m__law_marks :=
  have scN := sc__law_marks.nd
  fnM_of F B sc__law_marks (by decide) fun cdv A' outer s H E gx =>
    (mss_cons (ms_par3 (i := 1) (j := 2) (l := 3) rfl scN rfl rfl rfl (by decide) (by decide) (by decide) rfl rfl rfl (ma_cons (me_lstF (ma_cons (me_make0 (c := 2) gx T.mk_Marked M_Marked_init0 (by decide) ar_Marked_init0 rfl T.g_Marked) (ma_cons (me_make0 (c := 2) gx T.mk_Marked M_Marked_init0 (by decide) ar_Marked_init0 rfl T.g_Marked) ma_nil))) (ma_cons (me_lstF (ma_cons (me_tup (ma_cons me_int (ma_cons me_int ma_nil))) (ma_cons (me_tup (ma_cons me_int (ma_cons me_int ma_nil))) ma_nil))) (ma_cons me_int ma_nil))) rfl)
    (mss_cons (ms_for gx.own gx.calm (mi_range1 T.b_range (me_call gx M__law_roll (by decide) ar__law_roll T.f__law_roll (ma_cons (me_var 0 (pv 0)) (ma_cons me_int ma_nil)))) (mg_pat (mp_name (pg_name (i := 4) scN rfl (by first | exact .inl rfl | exact .inr rfl))))
    (mss_cons (ms_asg (me_tup (ma_cons (me_call gx M__law_roll (by decide) ar__law_roll T.f__law_roll (ma_cons (me_var 0 (pv 0)) (ma_cons me_int ma_nil))) (ma_cons (me_op mo_add (me_var 3 (pv 3)) (me_call gx M__law_roll (by decide) ar__law_roll T.f__law_roll (ma_cons (me_var 0 (pv 0)) (ma_cons me_int ma_nil)))) ma_nil))) (mg_pat (mp_tup rfl (mps_cons (mp_name (pg_name (i := 5) scN rfl (by first | exact .inl rfl | exact .inr rfl))) (mps_cons (mp_name (pg_name (i := 3) scN rfl (by first | exact .inl rfl | exact .inr rfl))) mps_nil)))))
    (mss_cons (ms_set (ps_set (i := 6) scN rfl (by first | exact .inl rfl | exact .inr rfl) (me_if (mt_cmp (mo_gt gx.hu) (me_var 3 (pv 3)) me_int) (me_op mo_sub (me_var 3 (pv 3)) (me_op mo_mul me_int (me_var 5 (pv 5)))) (me_var 3 (pv 3)))))
    (mss_cons (ms_set (ps_set (i := 7) scN rfl (by first | exact .inl rfl | exact .inr rfl) (me_if (mt_cmp (mo_eq gx.hu) (me_call gx M__law_roll (by decide) ar__law_roll T.f__law_roll (ma_cons (me_var 0 (pv 0)) (ma_cons me_int ma_nil))) me_int) (me_callB (mc_max (gx.mono (Nat.zero_le _))) T.b_max (by decide +kernel) (ma_cons (me_var 2 (pv 2)) ma_nil)) (me_ix gx.hu (me_var 2 (pv 2)) (me_var 5 (pv 5))))))
    (mss_cons (ms_set (ps_set (i := 8) scN rfl (by first | exact .inl rfl | exact .inr rfl) (me_if (mt_cmp (mo_ne gx.hu) (me_var 7 (pv 7)) (me_ix gx.hu (me_var 2 (pv 2)) (me_var 5 (pv 5)))) (me_meth (c := 2) gx (me_ix gx.hu (me_var 1 (pv 1)) (me_var 5 (pv 5))) T.c_Marked T.t_Marked_hear M_Marked_hear (by decide) ar_Marked_hear rfl nf_hear (ma_cons (me_var 7 (pv 7)) (ma_cons (me_var 6 (pv 6)) ma_nil))) (me_meth (c := 2) gx (me_ix gx.hu (me_var 1 (pv 1)) (me_var 5 (pv 5))) T.c_Marked T.t_Marked_next_mark M_Marked_next_mark (by decide) ar_Marked_next_mark rfl nf_next_mark (ma_cons (me_var 6 (pv 6)) ma_nil)))))
    (mss_cons (ms_set (ps_set (i := 9) scN rfl (by first | exact .inl rfl | exact .inr rfl) (me_if (mt_cmp (mo_gt gx.hu) (me_var 6 (pv 6)) (me_ix gx.hu (me_var 7 (pv 7)) me_int)) (me_tup (ma_cons (me_var 6 (pv 6)) (ma_cons me_int ma_nil))) (me_tup (ma_cons (me_ix gx.hu (me_var 7 (pv 7)) me_int) (ma_cons (me_op mo_add (me_ix gx.hu (me_var 7 (pv 7)) me_int) me_int) ma_nil))))))
    (mss_cons (ms_if (mt_w (mw_or (mt_cmp (mo_ne gx.hu) (me_var 8 (pv 8)) (me_var 9 (pv 9))) (mw_or (mt_cmp (mo_le gx.hu) (me_var 8 (pv 8)) (me_ix gx.hu (me_var 2 (pv 2)) (me_var 5 (pv 5)))) (mw_or (mt_cmp (mo_le gx.hu) (me_var 8 (pv 8)) (me_var 7 (pv 7))) (mw_or1 (mt_cmp (mo_ne gx.hu) (me_attr (i := 6) (me_ix gx.hu (me_var 1 (pv 1)) (me_var 5 (pv 5))) rfl (by show 6 < 7; decide)) (me_var 8 (pv 8)))))))) (mss_one (ms_ret me_bl)) mss_nil)
    (mss_one (ms_setLc0 true (n := 2) (own := [(("k" : Str), 10), (("mark" : Str), 11)]) (p := (.tp [(.nm 10), (.nm 11)])) rfl scN rfl rfl (sw_true rfl rfl rfl (by decide +kernel)) (mi_enum T.b_enumerate (me_var 2 (pv 2))) (blkOk_by (by kernel_rfl)) (by decide) (fun _ _ _ _ _ => (mp_tup rfl (mps_cons (mp_name (pg_name (i := 10) scN rfl (by first | exact .inl rfl | exact .inr rfl))) (mps_cons (mp_name (pg_name (i := 11) scN rfl (by first | exact .inl rfl | exact .inr rfl))) mps_nil)))) (fun _ _ _ _ _ => pts_yes) (fun _ _ _ _ _ => (me_if (mt_cmp (mo_eq (gx_blk gx).hu) (me_var 10 (pv 10)) (me_var 5 (pv 5))) (me_var 9 (pv 9)) (me_var 11 (pv 11)))))))))))))
    (mss_one (ms_ret me_bl))))
theorem sc_agreed_span : FnScope (("spans" : Str) :: ("wrong" : Str) :: ("need" : Str) :: ("good" : Str) :: ("spot" : Str) :: ("low" : Str) :: ("high" : Str) :: []) ["spans", "wrong"] (defScope s_agreed_span) := ⟨rfl, rfl, rfl, by decide +kernel, rfl, by decide +kernel, by decide +kernel⟩
def m_agreed_span : Fn := fdef 7 2
    (sSeq (sIf (tOr (tNot (tVal (eChain (opCmp .le) (opCmp .lt) (eC (.int 0)) (eVar 1) (eCall fLen (aCons (eVar 0) aNil))))) (tTru (eGx true (iSeq (eVar 0)) [5, 6] (.tp [(.nm 5), (.nm 6)]) tYesM (eOp (opCmp .gt) (eVar 5) (eVar 6))))) (sRaise 4) sNext)
    (sSeq (sAsg (eOp opSub (eCall fLen (aCons (eVar 0) aNil)) (eVar 1)) (gName 2))
    (sSeq (sAsg (eLc (iSeq (eCall m_spots_of (aCons (eVar 0) aNil))) [4] (.nm 4) (tVal (eOp (opCmp .ge) (eCall m_how_many_at (aCons (eVar 0) (aCons (eVar 4) aNil))) (eVar 2))) (eVar 4)) (gName 3))
    (sRet (eIf (tVal (eOp opNe (eVar 3) (eLstF aNil))) (eTup (aCons (eOp opIx (eVar 3) (eC (.int 0))) (aCons (eOp opIx (eVar 3) (eUn opNeg (eC (.int 1)))) aNil))) (eC .non))))))
theorem ar_agreed_span : Ar ["spans", "wrong"].length m_agreed_span := ar_fdef
theorem ok_agreed_span (T : Txt K mg A) {fdt : FuncData} (told : Told K A fdt) {fd : FuncData} (F : FunC K "agreed_span" "agreed_span" s_agreed_span A.f_agreed_span fd A.q_agreed_span) (B : Binds K fd ["spans", "wrong"] []) (TB : LamX.TabB base mg A.q_agreed_span A.p_agreed_span) (hmT : (A.p_agreed_span, (envOfC "agreed_span" (defScope s_agreed_span) 0 0 .none).qual ++ "<genexpr>") ∈ tabsOf A) (hu : ∀ p ∈ tabsOf A, p.1 = A.p_agreed_span → p.2 = (envOfC "agreed_span" (defScope s_agreed_span) 0 0 .none).qual ++ "<genexpr>") (M_spots_of : FnM P w K mg base (G0 A) 1 A.f_spots_of ["spans"] m_spots_of) (M_how_many_at : FnM P w K mg base (G0 A) 1 A.f_how_many_at ["spans", "spot"] m_how_many_at) : FnM P w K mg base (G0 A) 5 A.f_agreed_span ["spans", "wrong"] m_agreed_span :=
  have scN := sc_agreed_span.nd
  fnM_ofC F B sc_agreed_span (by decide) fun A' outer s H E gx =>
    (mss_cons (ms_if (mt_w (mw_or (mt_not (mt_chain (mo_le gx.hu) (mo_lt gx.hu) me_int (me_var 1 (pv 1)) (me_callB mc_len T.b_len (by decide +kernel) (ma_cons (me_var 0 (pv 0)) ma_nil)))) (mw_or1 (mt_val (me_anyG (k := 1) (own := [(("low" : Str), 5), (("high" : Str), 6)]) (p := (.tp [(.nm 5), (.nm 6)])) gx (by decide) scN T.b_any TB rfl hmT hu (genOk_by (by kernel_rfl)) (mi_seq (me_var 0 (pv 0))) (by decide) (fun _ _ _ _ _ gy => (mp_tup rfl (mps_cons (mp_name (pg_name (i := 5) scN rfl (by first | exact .inl rfl | exact .inr rfl))) (mps_cons (mp_name (pg_name (i := 6) scN rfl (by first | exact .inl rfl | exact .inr rfl))) mps_nil)))) (fun _ _ _ _ _ gy => pts_yes) (fun _ _ _ _ _ gy => (me_cmp (mo_gt gy.hu) (me_var 5 (pv 5)) (me_var 6 (pv 6))))))))) (mss_one (ms_raise (cn := 4) gx PySem.F.excBase_ValueError T.x_LeaseError T.g_LeaseError T.k_LeaseError (raises_own T.s_LeaseError T.y_LeaseError) rfl)) mss_nil)
    (mss_cons (ms_set (ps_set (i := 2) scN rfl (by first | exact .inl rfl | exact .inr rfl) (me_op mo_sub (me_callB mc_len T.b_len (by decide +kernel) (ma_cons (me_var 0 (pv 0)) ma_nil)) (me_var 1 (pv 1)))))
    (mss_cons (ms_setLc0 true (n := 3) (own := [(("spot" : Str), 4)]) (p := (.nm 4)) rfl scN rfl rfl (sw_true rfl rfl rfl (by decide +kernel)) (mi_seq (me_call gx M_spots_of (by decide) ar_spots_of T.f_spots_of (ma_cons (me_var 0 (pv 0)) ma_nil))) (blkOk_by (by kernel_rfl)) (by decide) (fun _ _ _ _ _ => (mp_name (pg_name (i := 4) scN rfl (by first | exact .inl rfl | exact .inr rfl)))) (fun _ _ _ _ _ => (pts_if (mt_cmp (mo_ge (gx_blk gx).hu) (me_call (gx_blk gx) M_how_many_at (by decide) ar_how_many_at T.f_how_many_at (ma_cons (me_var 0 (pv 0)) (ma_cons (me_var 4 (pv 4)) ma_nil))) (me_var 2 (pv 2))))) (fun _ _ _ _ _ => (me_var 4 (pv 4))))
    (mss_one (ms_ret (me_if (mt_cmp (mo_ne gx.hu) (me_var 3 (pv 3)) (me_lstF ma_nil)) (me_tup (ma_cons (me_ix gx.hu (me_var 3 (pv 3)) me_int) (ma_cons (me_ix gx.hu (me_var 3 (pv 3)) (me_un mu_neg me_int)) ma_nil))) me_non))))))
theorem sc__law_deed : FnScope (("dice" : Str) :: ("leases" : Str) :: ("own" : Str) :: ("who" : Str) :: ("thing" : Str) :: ("now" : Str) :: ("old" : Str) :: ("open_now" : Str) :: ("row" : Str) :: ("good" : Str) :: ("one" : Str) :: []) ["dice", "leases", "own"] (defScope s__law_deed) := ⟨rfl, rfl, rfl, by decide +kernel, rfl, by decide +kernel, by decide +kernel⟩
def m__law_deed : Fn := fdef 11 3
    (sSeq (sAsg (eTup (aCons (eOp opIx (eC (.str [97, 98, 99])) (eCall m__law_roll (aCons (eVar 0) (aCons (eC (.int 3)) aNil)))) (aCons (eOp opIx (eC (.str [120, 121])) (eCall m__law_roll (aCons (eVar 0) (aCons (eC (.int 2)) aNil)))) (aCons (eOp opIx (eVar 2) (eC (.str [110, 111, 119]))) aNil)))) (gPat (.tp [(.nm 3), (.nm 4), (.nm 5)])))
    (sSeq (sAsg (eBM .dct fGet (eOp opIx (eVar 2) (eC (.str [114, 111, 119, 115]))) (aCons (eVar 4) aNil)) (gName 6))
    (sSeq (sIf (tVal (eOp opEq (eCall m__law_roll (aCons (eVar 0) (aCons (eC (.int 6)) aNil))) (eC (.int 0)))) (sSeq (sAsg (eAnd (eOp opNotN (eVar 6) (eC .non)) (eOp opEq (eOp opIx (eVar 6) (eC (.int 0))) (eVar 3))) (gName 9))
    (sSeq (sAsg (eCall fDict (aCons (eLc (iDict false dItems (eOp opIx (eVar 2) (eC (.str [114, 111, 119, 115])))) [10, 8] (.tp [(.nm 10), (.nm 8)]) (tOr (tVal (eOp opNe (eVar 10) (eVar 4))) (tNot (tTru (eVar 9)))) (eTup (aCons (eVar 10) (aCons (eVar 8) aNil)))) aNil)) (gSubM (eVar 2) (eC (.str [114, 111, 119, 115]))))
    (sSeq (sAsg (eLc (iSeq (eOp opIx (eVar 2) (eC (.str [97, 99, 116, 115])))) [8] (.nm 8) (tOr (tVal (eOp opNe (eSl (eVar 8) oNone (oSome (eC (.int 2)))) (eTup (aCons (eVar 3) (aCons (eVar 4) aNil))))) (tNot (tTru (eVar 9)))) (eVar 8)) (gSubM (eVar 2) (eC (.str [97, 99, 116, 115]))))
    (sRet (eOp opEq (eOp opNe (eTold [4] [76, 101, 97, 115, 101, 69, 114, 114, 111, 114] (eMeth 0 m_Leases_free (eVar 1) (aCons (eVar 3) (aCons (eVar 4) aNil)))) (eC (.str [76, 101, 97, 115, 101, 69, 114, 114, 111, 114]))) (eVar 9)))))) sNext)
    (sSeq (sAsg (eAnd (eOp opNotN (eVar 6) (eC .non)) (eOp (opCmp .lt) (eVar 5) (eOp opAdd (eOp opIx (eVar 6) (eC (.int 1))) (eOp opIx (eVar 2) (eC (.str [100, 114, 105, 102, 116])))))) (gName 7))
    (sSeq (sIf (tAnd (tTru (eVar 7)) (tVal (eOp opNe (eOp opIx (eVar 6) (eC (.int 0))) (eVar 3)))) (sRet (eOp opIsN (eMeth 0 m_Leases_ask (eVar 1) (aCons (eVar 3) (aCons (eVar 4) (aCons (eVar 5) aNil)))) (eC .non))) sNext)
    (sSeq (sAsg (eOp opAdd (eOp opIx (eVar 2) (eC (.str [109, 97, 110, 121]))) (eCall fInt (aCons (eUn opNot (eVar 7)) aNil))) (gSubM (eVar 2) (eC (.str [109, 97, 110, 121]))))
    (sSeq (sAsg (eTup (aCons (eVar 3) (aCons (eOp opAdd (eVar 5) (eOp opIx (eVar 2) (eC (.str [108, 111, 110, 103])))) (aCons (eIf (tTru (eVar 7)) (eOp opIx (eVar 6) (eC (.int 2))) (eOp opIx (eVar 2) (eC (.str [109, 97, 110, 121])))) aNil)))) (gName 8))
    (sSeq (sAsg (eVar 8) (gSubM (eOp opIx (eVar 2) (eC (.str [114, 111, 119, 115]))) (eVar 4)))
    (sSeq (sAsg (eOp opAdd (eLc (iSeq (eOp opIx (eVar 2) (eC (.str [97, 99, 116, 115])))) [10] (.nm 10) (tVal (eOp opNe (eSl (eVar 10) oNone (oSome (eC (.int 2)))) (eTup (aCons (eVar 3) (aCons (eVar 4) aNil))))) (eVar 10)) (eLstF (aCons (eTup (aCons (eVar 3) (aCons (eVar 4) (aCons (eOp opAdd (eVar 5) (eOp opIx (eVar 2) (eC (.str [108, 111, 110, 103])))) aNil)))) aNil))) (gSubM (eVar 2) (eC (.str [97, 99, 116, 115]))))
    (sRet (eOp opEq (eMeth 0 m_Leases_ask (eVar 1) (aCons (eVar 3) (aCons (eVar 4) (aCons (eVar 5) aNil)))) (eSl (eVar 8) (oSome (eC (.int 1))) oNone))))))))))))
theorem ar__law_deed : Ar ["dice", "leases", "own"].length m__law_deed := ar_fdef
theorem ok__law_deed (T : Txt K mg A) {fdt : FuncData} (told : Told K A fdt) {fd : FuncData} (F : FunC K "_law_deed" "_law_deed" s__law_deed A.f__law_deed fd A.q__law_deed) (B : Binds K fd ["dice", "leases", "own"] []) (TB : LamX.TabB base mg A.q__law_deed A.p__law_deed) (hmT : (A.p__law_deed, (envOfC "_law_deed" (defScope s__law_deed) 0 0 .none).qual ++ "<lambda>") ∈ tabsOf A) (hu : ∀ p ∈ tabsOf A, p.1 = A.p__law_deed → p.2 = (envOfC "_law_deed" (defScope s__law_deed) 0 0 .none).qual ++ "<lambda>") (M__law_roll : FnM P w K mg base (G0 A) 2 A.f__law_roll ["dice", "many"] m__law_roll) (M_Leases_free : FnM P w K mg base (G0 A) 1 A.f_Leases_free ["self", "who", "thing"] m_Leases_free) (M_Leases_ask : FnM P w K mg base (G0 A) 1 A.f_Leases_ask ["self", "who", "thing", "now"] m_Leases_ask) : FnM P w K mg base (G0 A) 6 A.f__law_deed ["dice", "leases", "own"] m__law_deed :=
  have scN := sc__law_deed.nd
  fnM_ofC F B sc__law_deed (by decide) fun A' outer s H E gx =>
    (mss_cons (ms_asg (me_tup (ma_cons (me_ix gx.hu (me_str (by decide +kernel)) (me_call gx M__law_roll (by decide) ar__law_roll T.f__law_roll (ma_cons (me_var 0 (pv 0)) (ma_cons me_int ma_nil)))) (ma_cons (me_ix gx.hu (me_str (by decide +kernel)) (me_call gx M__law_roll (by decide) ar__law_roll T.f__law_roll (ma_cons (me_var 0 (pv 0)) (ma_cons me_int ma_nil)))) (ma_cons (me_ix gx.hu (me_var 2 (pv 2)) (me_str (by decide +kernel))) ma_nil)))) (mg_pat (mp_tup rfl (mps_cons (mp_name (pg_name (i := 3) scN rfl (by first | exact .inl rfl | exact .inr rfl))) (mps_cons (mp_name (pg_name (i := 4) scN rfl (by first | exact .inl rfl | exact .inr rfl))) (mps_cons (mp_name (pg_name (i := 5) scN rfl (by first | exact .inl rfl | exact .inr rfl))) mps_nil))))))
    (mss_cons (ms_set (ps_set (i := 6) scN rfl (by first | exact .inl rfl | exact .inr rfl) (me_bm (T := .dct) PySem.F.plainAttrs_dict PySem.F.slot_dict_get PySem.F.type_dict_get (mm_get gx.hu) (me_ix gx.hu (me_var 2 (pv 2)) (me_str (by decide +kernel))) (ma_cons (me_var 4 (pv 4)) ma_nil))))
    (mss_cons (ms_if (mt_cmp (mo_eq gx.hu) (me_call gx M__law_roll (by decide) ar__law_roll T.f__law_roll (ma_cons (me_var 0 (pv 0)) (ma_cons me_int ma_nil))) me_int) (mss_cons (ms_set (ps_set (i := 9) scN rfl (by first | exact .inl rfl | exact .inr rfl) (me_andV (me_cmp mo_notN (me_var 6 (pv 6)) me_non) (me_one (me_cmp (mo_eq gx.hu) (me_ix gx.hu (me_var 6 (pv 6)) me_int) (me_var 3 (pv 3)))))))
    (mss_cons (ms_asg (me_callTy (mc_dict gx.calm) T.b_dict (by decide +kernel) (ma_cons (me_lc (own := [(("one" : Str), 10), (("row" : Str), 8)]) (p := (.tp [(.nm 10), (.nm 8)])) rfl scN (mi_items (me_ix gx.hu (me_var 2 (pv 2)) (me_str (by decide +kernel)))) (blkOk_by (by kernel_rfl)) (by decide) (fun _ _ _ _ _ => (mp_tup rfl (mps_cons (mp_name (pg_name (i := 10) scN rfl (by first | exact .inl rfl | exact .inr rfl))) (mps_cons (mp_name (pg_name (i := 8) scN rfl (by first | exact .inl rfl | exact .inr rfl))) mps_nil)))) (fun _ _ _ _ _ => (pts_if (mt_w (mw_or (mt_cmp (mo_ne (gx_blk gx).hu) (me_var 10 (pv 10)) (me_var 4 (pv 4))) (mw_or1 (mt_not (mt_val (me_var 9 (pv 9))))))))) (fun _ _ _ _ _ => (me_tup (ma_cons (me_var 10 (pv 10)) (ma_cons (me_var 8 (pv 8)) ma_nil))))) ma_nil)) (mg_sub gx (me_var 2 (pv 2)) (me_str (by decide +kernel))))
    (mss_cons (ms_asg (me_lc (own := [(("row" : Str), 8)]) (p := (.nm 8)) rfl scN (mi_seq (me_ix gx.hu (me_var 2 (pv 2)) (me_str (by decide +kernel)))) (blkOk_by (by kernel_rfl)) (by decide) (fun _ _ _ _ _ => (mp_name (pg_name (i := 8) scN rfl (by first | exact .inl rfl | exact .inr rfl)))) (fun _ _ _ _ _ => (pts_if (mt_w (mw_or (mt_cmp (mo_ne (gx_blk gx).hu) (me_sl (me_var 8 (pv 8)) mo_none (mo_some me_int)) (me_tup (ma_cons (me_var 3 (pv 3)) (ma_cons (me_var 4 (pv 4)) ma_nil)))) (mw_or1 (mt_not (mt_val (me_var 9 (pv 9))))))))) (fun _ _ _ _ _ => (me_var 8 (pv 8)))) (mg_sub gx (me_var 2 (pv 2)) (me_str (by decide +kernel))))
    (mss_one (ms_ret (me_cmp (mo_eq gx.hu) (me_cmp (mo_ne gx.hu) (me_told (k := 2) (ret := [76, 101, 97, 115, 101, 69, 114, 114, 111, 114]) (cs := [4]) gx (by decide) told.F told.B sc__law_told rfl (.inl rfl) T.f__law_told (fun _ => LamX.told_gives rfl T.g_LeaseError (by decide) (fun _ => rfl)) TB rfl hmT hu T.told (LamX.lamS_by (by kernel_rfl)) (fun A outer s H E f c' gx => (me_meth (c := 0) gx (me_var 1 (pv 1)) T.c_Leases T.t_Leases_free M_Leases_free (by decide) ar_Leases_free rfl nf_free (ma_cons (me_var 3 (pv 3)) (ma_cons (me_var 4 (pv 4)) ma_nil))))) (me_str (by decide +kernel))) (me_var 9 (pv 9)))))))) mss_nil)
    (mss_cons (ms_set (ps_set (i := 7) scN rfl (by first | exact .inl rfl | exact .inr rfl) (me_andV (me_cmp mo_notN (me_var 6 (pv 6)) me_non) (me_one (me_cmp (mo_lt gx.hu) (me_var 5 (pv 5)) (me_op mo_add (me_ix gx.hu (me_var 6 (pv 6)) me_int) (me_ix gx.hu (me_var 2 (pv 2)) (me_str (by decide +kernel)))))))))
    (mss_cons (ms_if (mt_w (mw_and (mt_val (me_var 7 (pv 7))) (mw_and1 (mt_cmp (mo_ne gx.hu) (me_ix gx.hu (me_var 6 (pv 6)) me_int) (me_var 3 (pv 3)))))) (mss_one (ms_ret (me_cmp mo_isN (me_meth (c := 0) gx (me_var 1 (pv 1)) T.c_Leases T.t_Leases_ask M_Leases_ask (by decide) ar_Leases_ask rfl nf_ask (ma_cons (me_var 3 (pv 3)) (ma_cons (me_var 4 (pv 4)) (ma_cons (me_var 5 (pv 5)) ma_nil)))) me_non))) mss_nil)
    (mss_cons (ms_asg (me_op mo_add (me_ix gx.hu (me_var 2 (pv 2)) (me_str (by decide +kernel))) (me_callTy mc_int T.b_int (by decide +kernel) (ma_cons (me_notV (me_var 7 (pv 7))) ma_nil))) (mg_sub gx (me_var 2 (pv 2)) (me_str (by decide +kernel))))
    (mss_cons (ms_set (ps_set (i := 8) scN rfl (by first | exact .inl rfl | exact .inr rfl) (me_tup (ma_cons (me_var 3 (pv 3)) (ma_cons (me_op mo_add (me_var 5 (pv 5)) (me_ix gx.hu (me_var 2 (pv 2)) (me_str (by decide +kernel)))) (ma_cons (me_if (mt_val (me_var 7 (pv 7))) (me_ix gx.hu (me_var 6 (pv 6)) me_int) (me_ix gx.hu (me_var 2 (pv 2)) (me_str (by decide +kernel)))) ma_nil))))))
    (mss_cons (ms_asg (me_var 8 (pv 8)) (mg_sub gx (me_ix gx.hu (me_var 2 (pv 2)) (me_str (by decide +kernel))) (me_var 4 (pv 4))))
    (mss_cons (ms_asg (me_op mo_add (me_lc (own := [(("one" : Str), 10)]) (p := (.nm 10)) rfl scN (mi_seq (me_ix gx.hu (me_var 2 (pv 2)) (me_str (by decide +kernel)))) (blkOk_by (by kernel_rfl)) (by decide) (fun _ _ _ _ _ => (mp_name (pg_name (i := 10) scN rfl (by first | exact .inl rfl | exact .inr rfl)))) (fun _ _ _ _ _ => (pts_if (mt_cmp (mo_ne (gx_blk gx).hu) (me_sl (me_var 10 (pv 10)) mo_none (mo_some me_int)) (me_tup (ma_cons (me_var 3 (pv 3)) (ma_cons (me_var 4 (pv 4)) ma_nil)))))) (fun _ _ _ _ _ => (me_var 10 (pv 10)))) (me_lstF (ma_cons (me_tup (ma_cons (me_var 3 (pv 3)) (ma_cons (me_var 4 (pv 4)) (ma_cons (me_op mo_add (me_var 5 (pv 5)) (me_ix gx.hu (me_var 2 (pv 2)) (me_str (by decide +kernel)))) ma_nil)))) ma_nil))) (mg_sub gx (me_var 2 (pv 2)) (me_str (by decide +kernel))))
    (mss_one (ms_ret (me_cmp (mo_eq gx.hu) (me_meth (c := 0) gx (me_var 1 (pv 1)) T.c_Leases T.t_Leases_ask M_Leases_ask (by decide) ar_Leases_ask rfl nf_ask (ma_cons (me_var 3 (pv 3)) (ma_cons (me_var 4 (pv 4)) (ma_cons (me_var 5 (pv 5)) ma_nil)))) (me_sl (me_var 8 (pv 8)) (mo_some me_int) mo_none)))))))))))))
theorem sc__law_plain : FnScope (("leases" : Str) :: ("gate" : Str) :: ("marked" : Str) :: ("told" : Str) :: ("bad" : Str) :: ("f" : Str) :: []) ([] : List Str) (defScope s__law_plain) := ⟨rfl, rfl, rfl, by decide +kernel, rfl, by decide +kernel, by decide +kernel⟩
def m__law_plain : Fn := fdef 6 0
    (sSeq (sAsg (eTup (aCons (eMake 0 m_Leases_init0 (aCons (eC (.int 10)) (aCons (eC (.int 2)) aNil))) (aCons (eMake 1 m_Gate_init0 aNil) (aCons (eMake 2 m_Marked_init0 aNil) aNil)))) (gPat (.tp [(.nm 0), (.nm 1), (.nm 2)])))
    (sSeq (sAsg (eLstF (aCons (eMeth 0 m_Leases_ask (eVar 0) (aCons (eC (.str [97])) (aCons (eC (.str [120])) (aCons (eC (.int 0)) aNil)))) (aCons (eMeth 0 m_Leases_ask (eVar 0) (aCons (eC (.str [98])) (aCons (eC (.str [120])) (aCons (eC (.int 11)) aNil)))) (aCons (eMeth 0 m_Leases_ask (eVar 0) (aCons (eC (.str [98])) (aCons (eC (.str [120])) (aCons (eC (.int 12)) aNil)))) (aCons (eMeth 0 m_Leases_who_holds (eVar 0) (aCons (eC (.int 13)) aNil)) (aCons (eMeth 0 m_Leases_may_act (eVar 0) (aCons (eC (.int 10)) (aCons (eC (.int 8)) aNil))) (aCons (eMeth 0 m_Leases_may_act (eVar 0) (aCons (eC (.int 10)) (aCons (eC (.int 7)) aNil))) (aCons (eMeth 1 m_Gate_act (eVar 1) (aCons (eC (.int 2)) (aCons (eC (.str [112])) aNil))) (aCons (eMeth 1 m_Gate_act (eVar 1) (aCons (eC (.int 1)) (aCons (eC (.str [113])) aNil))) (aCons (eMeth 2 m_Marked_next_mark (eVar 2) (aCons (eC (.int 5)) aNil)) (aCons (eMeth 2 m_Marked_next_mark (eVar 2) (aCons (eC (.int 5)) aNil)) (aCons (eMeth 2 m_Marked_hear (eVar 2) (aCons (eTup (aCons (eC (.int 9)) (aCons (eC (.int 3)) aNil))) (aCons (eC (.int 6)) aNil))) (aCons (eMeth 2 m_Marked_next_mark (eVar 2) (aCons (eC (.int 7)) aNil)) aNil))))))))))))) (gName 3))
    (sBad [4] 4 [(eMake 0 m_Leases_init0 (aCons (eC (.int 0)) (aCons (eC (.int 0)) aNil))), (eMake 0 m_Leases_init0 (aCons (eC (.int 1)) (aCons (eUn opNeg (eC (.int 1))) aNil))), (eMake 0 m_Leases_init0 (aCons (eC (.int 1)) (aCons (eC (.int 1)) aNil))), (eMeth 0 m_Leases_ask (eVar 0) (aCons (eC (.str [])) (aCons (eC (.str [120])) (aCons (eC (.int 0)) aNil)))), (eMeth 0 m_Leases_ask (eVar 0) (aCons (eC (.str [97])) (aCons (eC (.str [])) (aCons (eC (.int 0)) aNil)))), (eMeth 0 m_Leases_ask (eVar 0) (aCons (eC (.str [97])) (aCons (eC (.str [120])) (aCons (eUn opNeg (eC (.int 1))) aNil)))), (eMeth 0 m_Leases_free (eVar 0) (aCons (eC (.str [97])) (aCons (eC (.str [120])) aNil))), (eMeth 1 m_Gate_act (eVar 1) (aCons (eC (.int 0)) (aCons (eC (.str [120])) aNil))), (eCall m_set_right (aCons (eC (.int 5)) (aCons (eC (.int 0)) (aCons (eC (.int 0)) (aCons (eC (.int 4)) aNil))))), (eCall m_set_right (aCons (eC (.int 0)) (aCons (eC (.int 1)) (aCons (eC (.int 0)) (aCons (eC (.int 5)) aNil))))), (eCall m_set_right (aCons (eC (.int 0)) (aCons (eC (.int 0)) (aCons (eC (.int 9)) (aCons (eC (.int 5)) aNil))))), (eCall m_best_set (aCons (eTup aNil) aNil)), (eCall m_agreed_span (aCons (eTup aNil) (aCons (eC (.int 0)) aNil))), (eCall m_agreed_span (aCons (eTup (aCons (eTup (aCons (eC (.int 1)) (aCons (eC (.int 2)) aNil))) aNil)) (aCons (eC (.int 1)) aNil))), (eCall m_agreed_span (aCons (eTup (aCons (eTup (aCons (eC (.int 2)) (aCons (eC (.int 1)) aNil))) aNil)) (aCons (eC (.int 0)) aNil))), (eCall m_middle_of (aCons (eTup aNil) aNil)), (eMeth 2 m_Marked_next_mark (eVar 2) (aCons (eUn opNeg (eC (.int 1))) aNil)), (eMeth 2 m_Marked_hear (eVar 2) (aCons (eTup (aCons (eC (.int 1)) (aCons (eC (.int 1)) aNil))) (aCons (eUn opNeg (eC (.int 1))) aNil))), (eCall m_wait_out (aCons (eC (.int 1)) (aCons (eUn opNeg (eC (.int 1))) (aCons (eC (.int 0)) aNil))))]
    (sSeq (sIf (tVal (eOp opNe (eVar 3) (eLstF (aCons (eTup (aCons (eC (.int 10)) (aCons (eC (.int 1)) aNil))) (aCons (eC .non) (aCons (eTup (aCons (eC (.int 22)) (aCons (eC (.int 2)) aNil))) (aCons (eDctP (pCons (eC (.str [120])) (eC (.str [98])) pNil)) (aCons (eC (.bl false)) (aCons (eC (.bl true)) (aCons (eC (.bl true)) (aCons (eC (.bl false)) (aCons (eTup (aCons (eC (.int 5)) (aCons (eC (.int 0)) aNil))) (aCons (eTup (aCons (eC (.int 5)) (aCons (eC (.int 1)) aNil))) (aCons (eTup (aCons (eC (.int 9)) (aCons (eC (.int 4)) aNil))) (aCons (eTup (aCons (eC (.int 9)) (aCons (eC (.int 5)) aNil))) aNil))))))))))))))) (sRet (eC (.bl false))) sNext)
    (sSeq (sIf (tNot (tAnd (tVal (eOp opEq (eAttr 5 (eVar 1)) (eLstF (aCons (eTup (aCons (eC (.int 2)) (aCons (eC (.str [112])) aNil))) aNil)))) (tVal (eOp opEq (eCall m_set_right (aCons (eC (.int 0)) (aCons (eC (.int 15)) (aCons (eC (.int 16)) (aCons (eC (.int 11)) aNil))))) (eTup (aCons (eC (.int 20)) (aCons (eC (.int 10)) aNil))))))) (sRet (eC (.bl false))) sNext)
    (sRet (eAnd (eOp opEq (eCall m_best_set (aCons (eTup (aCons (eTup (aCons (eC (.int 0)) (aCons (eC (.int 15)) (aCons (eC (.int 16)) (aCons (eC (.int 11)) aNil))))) (aCons (eTup (aCons (eC (.int 0)) (aCons (eC (.int 12)) (aCons (eC (.int 12)) (aCons (eC (.int 4)) aNil))))) aNil))) aNil)) (eTup (aCons (eC (.int 20)) (aCons (eC (.int 4)) aNil)))) (eAnd (eOp opEq (eCall m_agreed_span (aCons (eTup (aCons (eTup (aCons (eC (.int 1)) (aCons (eC (.int 5)) aNil))) (aCons (eTup (aCons (eC (.int 2)) (aCons (eC (.int 6)) aNil))) (aCons (eTup (aCons (eC (.int 9)) (aCons (eC (.int 12)) aNil))) aNil)))) (aCons (eC (.int 1)) aNil))) (eTup (aCons (eC (.int 2)) (aCons (eC (.int 5)) aNil)))) (eAnd (eOp opIsN (eCall m_agreed_span (aCons (eTup (aCons (eTup (aCons (eC (.int 1)) (aCons (eC (.int 2)) aNil))) (aCons (eTup (aCons (eC (.int 5)) (aCons (eC (.int 6)) aNil))) aNil))) (aCons (eC (.int 0)) aNil))) (eC .non)) (eAnd (eOp opEq (eCall m_middle_of (aCons (eTup (aCons (eC (.int 9)) (aCons (eC (.int 1)) (aCons (eC (.int 3)) aNil)))) aNil)) (eC (.int 3))) (eAnd (eOp opEq (eCall m_wait_out (aCons (eC (.int 10)) (aCons (eC (.int 2)) (aCons (eC (.int 11)) aNil)))) (eC (.int 2))) (eOp opEq (eCall m_wait_out (aCons (eC (.int 1)) (aCons (eC (.int 0)) (aCons (eC (.int 9)) aNil)))) (eC (.int 0))))))))))))))
theorem ar__law_plain : Ar ([] : List Str).length m__law_plain := ar_fdef
theorem ok__law_plain (T : Txt K mg A) {fdt : FuncData} (told : Told K A fdt) {fd : FuncData} (F : FunC K "_law_plain" "_law_plain" s__law_plain A.f__law_plain fd A.q__law_plain) (B : Binds K fd ([] : List Str) []) (TB : LamX.TabB base mg A.q__law_plain A.p__law_plain) (hmT : (A.p__law_plain, (envOfC "_law_plain" (defScope s__law_plain) 0 0 .none).qual ++ "<lambda>") ∈ tabsOf A) (hu : ∀ p ∈ tabsOf A, p.1 = A.p__law_plain → p.2 = (envOfC "_law_plain" (defScope s__law_plain) 0 0 .none).qual ++ "<lambda>") (M_Leases_init0 : FnM P w K mg base (G0 A) 1 A.f_Leases_init0 ["self", "long", "drift"] m_Leases_init0) (M_Gate_init0 : FnM P w K mg base (G0 A) 1 A.f_Gate_init0 ["self"] m_Gate_init0) (M_Marked_init0 : FnM P w K mg base (G0 A) 1 A.f_Marked_init0 ["self"] m_Marked_init0) (M_Marked_next_mark : FnM P w K mg base (G0 A) 1 A.f_Marked_next_mark ["self", "now"] m_Marked_next_mark) (M_Marked_hear : FnM P w K mg base (G0 A) 1 A.f_Marked_hear ["self", "other", "now"] m_Marked_hear) (M_Gate_act : FnM P w K mg base (G0 A) 1 A.f_Gate_act ["self", "number", "what"] m_Gate_act) (M_Leases_may_act : FnM P w K mg base (G0 A) 1 A.f_Leases_may_act ["self", "until", "now"] m_Leases_may_act) (M_Leases_who_holds : FnM P w K mg base (G0 A) 1 A.f_Leases_who_holds ["self", "now"] m_Leases_who_holds) (M_Leases_ask : FnM P w K mg base (G0 A) 1 A.f_Leases_ask ["self", "who", "thing", "now"] m_Leases_ask) (M_Leases_free : FnM P w K mg base (G0 A) 1 A.f_Leases_free ["self", "who", "thing"] m_Leases_free) (M_set_right : FnM P w K mg base (G0 A) 1 A.f_set_right ["sent", "taken", "answered", "come"] m_set_right) (M_best_set : FnM P w K mg base (G0 A) 2 A.f_best_set ["rows"] m_best_set) (M_agreed_span : FnM P w K mg base (G0 A) 5 A.f_agreed_span ["spans", "wrong"] m_agreed_span) (M_middle_of : FnM P w K mg base (G0 A) 1 A.f_middle_of ["clocks"] m_middle_of) (M_wait_out : FnM P w K mg base (G0 A) 1 A.f_wait_out ["time", "drift", "now"] m_wait_out) : FnM P w K mg base (G0 A) 9 A.f__law_plain ([] : List Str) m__law_plain :=
  have scN := sc__law_plain.nd
  fnM_ofC F B sc__law_plain (by decide) fun A' outer s H E gx =>
    (mss_cons (ms_asg (me_tup (ma_cons (me_make (c := 0) gx T.mk_Leases M_Leases_init0 (by decide) ar_Leases_init0 rfl T.g_Leases (ma_cons me_int (ma_cons me_int ma_nil))) (ma_cons (me_make0 (c := 1) gx T.mk_Gate M_Gate_init0 (by decide) ar_Gate_init0 rfl T.g_Gate) (ma_cons (me_make0 (c := 2) gx T.mk_Marked M_Marked_init0 (by decide) ar_Marked_init0 rfl T.g_Marked) ma_nil)))) (mg_pat (mp_tup rfl (mps_cons (mp_name (pg_name (i := 0) scN rfl (by first | exact .inl rfl | exact .inr rfl))) (mps_cons (mp_name (pg_name (i := 1) scN rfl (by first | exact .inl rfl | exact .inr rfl))) (mps_cons (mp_name (pg_name (i := 2) scN rfl (by first | exact .inl rfl | exact .inr rfl))) mps_nil))))))
    (mss_cons (ms_set (ps_set (i := 3) scN rfl (by first | exact .inl rfl | exact .inr rfl) (me_lstF (ma_cons (me_meth (c := 0) gx (me_var 0 (pv 0)) T.c_Leases T.t_Leases_ask M_Leases_ask (by decide) ar_Leases_ask rfl nf_ask (ma_cons (me_str (by decide +kernel)) (ma_cons (me_str (by decide +kernel)) (ma_cons me_int ma_nil)))) (ma_cons (me_meth (c := 0) gx (me_var 0 (pv 0)) T.c_Leases T.t_Leases_ask M_Leases_ask (by decide) ar_Leases_ask rfl nf_ask (ma_cons (me_str (by decide +kernel)) (ma_cons (me_str (by decide +kernel)) (ma_cons me_int ma_nil)))) (ma_cons (me_meth (c := 0) gx (me_var 0 (pv 0)) T.c_Leases T.t_Leases_ask M_Leases_ask (by decide) ar_Leases_ask rfl nf_ask (ma_cons (me_str (by decide +kernel)) (ma_cons (me_str (by decide +kernel)) (ma_cons me_int ma_nil)))) (ma_cons (me_meth (c := 0) gx (me_var 0 (pv 0)) T.c_Leases T.t_Leases_who_holds M_Leases_who_holds (by decide) ar_Leases_who_holds rfl nf_who_holds (ma_cons me_int ma_nil)) (ma_cons (me_meth (c := 0) gx (me_var 0 (pv 0)) T.c_Leases T.t_Leases_may_act M_Leases_may_act (by decide) ar_Leases_may_act rfl nf_may_act (ma_cons me_int (ma_cons me_int ma_nil))) (ma_cons (me_meth (c := 0) gx (me_var 0 (pv 0)) T.c_Leases T.t_Leases_may_act M_Leases_may_act (by decide) ar_Leases_may_act rfl nf_may_act (ma_cons me_int (ma_cons me_int ma_nil))) (ma_cons (me_meth (c := 1) gx (me_var 1 (pv 1)) T.c_Gate T.t_Gate_act M_Gate_act (by decide) ar_Gate_act rfl nf_act (ma_cons me_int (ma_cons (me_str (by decide +kernel)) ma_nil))) (ma_cons (me_meth (c := 1) gx (me_var 1 (pv 1)) T.c_Gate T.t_Gate_act M_Gate_act (by decide) ar_Gate_act rfl nf_act (ma_cons me_int (ma_cons (me_str (by decide +kernel)) ma_nil))) (ma_cons (me_meth (c := 2) gx (me_var 2 (pv 2)) T.c_Marked T.t_Marked_next_mark M_Marked_next_mark (by decide) ar_Marked_next_mark rfl nf_next_mark (ma_cons me_int ma_nil)) (ma_cons (me_meth (c := 2) gx (me_var 2 (pv 2)) T.c_Marked T.t_Marked_next_mark M_Marked_next_mark (by decide) ar_Marked_next_mark rfl nf_next_mark (ma_cons me_int ma_nil)) (ma_cons (me_meth (c := 2) gx (me_var 2 (pv 2)) T.c_Marked T.t_Marked_hear M_Marked_hear (by decide) ar_Marked_hear rfl nf_hear (ma_cons (me_tup (ma_cons me_int (ma_cons me_int ma_nil))) (ma_cons me_int ma_nil))) (ma_cons (me_meth (c := 2) gx (me_var 2 (pv 2)) T.c_Marked T.t_Marked_next_mark M_Marked_next_mark (by decide) ar_Marked_next_mark rfl nf_next_mark (ma_cons me_int ma_nil)) ma_nil)))))))))))))))
    (mss_bad1 (k := 5) (cs := [4]) (ret := [76, 101, 97, 115, 101, 69, 114, 114, 111, 114]) (ib := 4) (jf := 5) gx ⟨by decide, told.F, told.B, sc__law_told, rfl, .inl rfl, T.f__law_told, (fun _ => LamX.told_gives rfl T.g_LeaseError (by decide) (fun _ => rfl)), T.told, by decide, by decide, by decide⟩ TB rfl hmT hu (lams_cons (LamX.lamS_by (by kernel_rfl)) (fun A outer s H E f c' gx => (me_make (c := 0) gx T.mk_Leases M_Leases_init0 (by decide) ar_Leases_init0 rfl T.g_Leases (ma_cons me_int (ma_cons me_int ma_nil))))
      (lams_cons (LamX.lamS_by (by kernel_rfl)) (fun A outer s H E f c' gx => (me_make (c := 0) gx T.mk_Leases M_Leases_init0 (by decide) ar_Leases_init0 rfl T.g_Leases (ma_cons me_int (ma_cons (me_un mu_neg me_int) ma_nil))))
      (lams_cons (LamX.lamS_by (by kernel_rfl)) (fun A outer s H E f c' gx => (me_make (c := 0) gx T.mk_Leases M_Leases_init0 (by decide) ar_Leases_init0 rfl T.g_Leases (ma_cons me_int (ma_cons me_int ma_nil))))
      (lams_cons (LamX.lamS_by (by kernel_rfl)) (fun A outer s H E f c' gx => (me_meth (c := 0) gx (me_var 0 (pv 0)) T.c_Leases T.t_Leases_ask M_Leases_ask (by decide) ar_Leases_ask rfl nf_ask (ma_cons (me_str (by decide +kernel)) (ma_cons (me_str (by decide +kernel)) (ma_cons me_int ma_nil)))))
      (lams_cons (LamX.lamS_by (by kernel_rfl)) (fun A outer s H E f c' gx => (me_meth (c := 0) gx (me_var 0 (pv 0)) T.c_Leases T.t_Leases_ask M_Leases_ask (by decide) ar_Leases_ask rfl nf_ask (ma_cons (me_str (by decide +kernel)) (ma_cons (me_str (by decide +kernel)) (ma_cons me_int ma_nil)))))
      (lams_cons (LamX.lamS_by (by kernel_rfl)) (fun A outer s H E f c' gx => (me_meth (c := 0) gx (me_var 0 (pv 0)) T.c_Leases T.t_Leases_ask M_Leases_ask (by decide) ar_Leases_ask rfl nf_ask (ma_cons (me_str (by decide +kernel)) (ma_cons (me_str (by decide +kernel)) (ma_cons (me_un mu_neg me_int) ma_nil)))))
      (lams_cons (LamX.lamS_by (by kernel_rfl)) (fun A outer s H E f c' gx => (me_meth (c := 0) gx (me_var 0 (pv 0)) T.c_Leases T.t_Leases_free M_Leases_free (by decide) ar_Leases_free rfl nf_free (ma_cons (me_str (by decide +kernel)) (ma_cons (me_str (by decide +kernel)) ma_nil))))
      (lams_cons (LamX.lamS_by (by kernel_rfl)) (fun A outer s H E f c' gx => (me_meth (c := 1) gx (me_var 1 (pv 1)) T.c_Gate T.t_Gate_act M_Gate_act (by decide) ar_Gate_act rfl nf_act (ma_cons me_int (ma_cons (me_str (by decide +kernel)) ma_nil))))
      (lams_cons (LamX.lamS_by (by kernel_rfl)) (fun A outer s H E f c' gx => (me_call gx M_set_right (by decide) ar_set_right T.f_set_right (ma_cons me_int (ma_cons me_int (ma_cons me_int (ma_cons me_int ma_nil))))))
      (lams_cons (LamX.lamS_by (by kernel_rfl)) (fun A outer s H E f c' gx => (me_call gx M_set_right (by decide) ar_set_right T.f_set_right (ma_cons me_int (ma_cons me_int (ma_cons me_int (ma_cons me_int ma_nil))))))
      (lams_cons (LamX.lamS_by (by kernel_rfl)) (fun A outer s H E f c' gx => (me_call gx M_set_right (by decide) ar_set_right T.f_set_right (ma_cons me_int (ma_cons me_int (ma_cons me_int (ma_cons me_int ma_nil))))))
      (lams_cons (LamX.lamS_by (by kernel_rfl)) (fun A outer s H E f c' gx => (me_call gx M_best_set (by decide) ar_best_set T.f_best_set (ma_cons (me_tup ma_nil) ma_nil)))
      (lams_cons (LamX.lamS_by (by kernel_rfl)) (fun A outer s H E f c' gx => (me_call gx M_agreed_span (by decide) ar_agreed_span T.f_agreed_span (ma_cons (me_tup ma_nil) (ma_cons me_int ma_nil))))
      (lams_cons (LamX.lamS_by (by kernel_rfl)) (fun A outer s H E f c' gx => (me_call gx M_agreed_span (by decide) ar_agreed_span T.f_agreed_span (ma_cons (me_tup (ma_cons (me_tup (ma_cons me_int (ma_cons me_int ma_nil))) ma_nil)) (ma_cons me_int ma_nil))))
      (lams_cons (LamX.lamS_by (by kernel_rfl)) (fun A outer s H E f c' gx => (me_call gx M_agreed_span (by decide) ar_agreed_span T.f_agreed_span (ma_cons (me_tup (ma_cons (me_tup (ma_cons me_int (ma_cons me_int ma_nil))) ma_nil)) (ma_cons me_int ma_nil))))
      (lams_cons (LamX.lamS_by (by kernel_rfl)) (fun A outer s H E f c' gx => (me_call gx M_middle_of (by decide) ar_middle_of T.f_middle_of (ma_cons (me_tup ma_nil) ma_nil)))
      (lams_cons (LamX.lamS_by (by kernel_rfl)) (fun A outer s H E f c' gx => (me_meth (c := 2) gx (me_var 2 (pv 2)) T.c_Marked T.t_Marked_next_mark M_Marked_next_mark (by decide) ar_Marked_next_mark rfl nf_next_mark (ma_cons (me_un mu_neg me_int) ma_nil)))
      (lams_cons (LamX.lamS_by (by kernel_rfl)) (fun A outer s H E f c' gx => (me_meth (c := 2) gx (me_var 2 (pv 2)) T.c_Marked T.t_Marked_hear M_Marked_hear (by decide) ar_Marked_hear rfl nf_hear (ma_cons (me_tup (ma_cons me_int (ma_cons me_int ma_nil))) (ma_cons (me_un mu_neg me_int) ma_nil))))
      (lams_cons (LamX.lamS_by (by kernel_rfl)) (fun A outer s H E f c' gx => (me_call gx M_wait_out (by decide) ar_wait_out T.f_wait_out (ma_cons me_int (ma_cons (me_un mu_neg me_int) (ma_cons me_int ma_nil)))))
      lams_nil))))))))))))))))))) ⟨scN, blkOk_by (by kernel_rfl), pv 4, fun _ _ _ _ _ => pg_name (i := 5) scN rfl (by first | exact .inl rfl | exact .inr rfl), fun _ _ _ _ _ => pv 5, fun _ _ _ _ _ => rfl⟩ rfl rfl
    (mss_cons (ms_if (mt_cmp (mo_ne gx.hu) (me_var 3 (pv 3)) (me_lstF (ma_cons (me_tup (ma_cons me_int (ma_cons me_int ma_nil))) (ma_cons me_non (ma_cons (me_tup (ma_cons me_int (ma_cons me_int ma_nil))) (ma_cons (me_dctP (mpr_cons (me_str (by decide +kernel)) (me_str (by decide +kernel)) mpr_nil) rfl rfl (by simp) (by decide)) (ma_cons me_bl (ma_cons me_bl (ma_cons me_bl (ma_cons me_bl (ma_cons (me_tup (ma_cons me_int (ma_cons me_int ma_nil))) (ma_cons (me_tup (ma_cons me_int (ma_cons me_int ma_nil))) (ma_cons (me_tup (ma_cons me_int (ma_cons me_int ma_nil))) (ma_cons (me_tup (ma_cons me_int (ma_cons me_int ma_nil))) ma_nil)))))))))))))) (mss_one (ms_ret me_bl)) mss_nil)
    (mss_cons (ms_if (mt_not (mt_w (mw_and (mt_cmp (mo_eq gx.hu) (me_attr (i := 5) (me_var 1 (pv 1)) rfl (by show 5 < 7; decide)) (me_lstF (ma_cons (me_tup (ma_cons me_int (ma_cons (me_str (by decide +kernel)) ma_nil))) ma_nil))) (mw_and1 (mt_cmp (mo_eq gx.hu) (me_call gx M_set_right (by decide) ar_set_right T.f_set_right (ma_cons me_int (ma_cons me_int (ma_cons me_int (ma_cons me_int ma_nil))))) (me_tup (ma_cons me_int (ma_cons me_int ma_nil)))))))) (mss_one (ms_ret me_bl)) mss_nil)
    (mss_one (ms_ret (me_andV (me_cmp (mo_eq gx.hu) (me_call gx M_best_set (by decide) ar_best_set T.f_best_set (ma_cons (me_tup (ma_cons (me_tup (ma_cons me_int (ma_cons me_int (ma_cons me_int (ma_cons me_int ma_nil))))) (ma_cons (me_tup (ma_cons me_int (ma_cons me_int (ma_cons me_int (ma_cons me_int ma_nil))))) ma_nil))) ma_nil)) (me_tup (ma_cons me_int (ma_cons me_int ma_nil)))) (me_andV (me_cmp (mo_eq gx.hu) (me_call gx M_agreed_span (by decide) ar_agreed_span T.f_agreed_span (ma_cons (me_tup (ma_cons (me_tup (ma_cons me_int (ma_cons me_int ma_nil))) (ma_cons (me_tup (ma_cons me_int (ma_cons me_int ma_nil))) (ma_cons (me_tup (ma_cons me_int (ma_cons me_int ma_nil))) ma_nil)))) (ma_cons me_int ma_nil))) (me_tup (ma_cons me_int (ma_cons me_int ma_nil)))) (me_andV (me_cmp mo_isN (me_call gx M_agreed_span (by decide) ar_agreed_span T.f_agreed_span (ma_cons (me_tup (ma_cons (me_tup (ma_cons me_int (ma_cons me_int ma_nil))) (ma_cons (me_tup (ma_cons me_int (ma_cons me_int ma_nil))) ma_nil))) (ma_cons me_int ma_nil))) me_non) (me_andV (me_cmp (mo_eq gx.hu) (me_call gx M_middle_of (by decide) ar_middle_of T.f_middle_of (ma_cons (me_tup (ma_cons me_int (ma_cons me_int (ma_cons me_int ma_nil)))) ma_nil)) me_int) (me_andV (me_cmp (mo_eq gx.hu) (me_call gx M_wait_out (by decide) ar_wait_out T.f_wait_out (ma_cons me_int (ma_cons me_int (ma_cons me_int ma_nil)))) me_int) (me_one (me_cmp (mo_eq gx.hu) (me_call gx M_wait_out (by decide) ar_wait_out T.f_wait_out (ma_cons me_int (ma_cons me_int (ma_cons me_int ma_nil)))) me_int))))))))))) (by decide +kernel) (fun _ => rfl) (by decide))))
theorem sc_law : FnScope (("script" : Str) :: ("dice" : Str) :: ("long" : Str) :: ("drift" : Str) :: ("leases" : Str) :: ("own" : Str) :: ("step" : Str) :: ("gate" : Str) :: ("seen" : Str) :: ("taken" : Str) :: ("rows" : Str) :: ("k" : Str) :: ("told" : Str) :: ("few" : Str) :: ("spans" : Str) :: ("wrong" : Str) :: ("good" : Str) :: ("clocks" : Str) :: ("inner" : Str) :: ("time" : Str) :: ("now" : Str) :: ("wait" : Str) :: ("held" : Str) :: ("number" : Str) :: ("gap" : Str) :: ("there" : Str) :: ("back" : Str) :: ("start" : Str) :: ("row" : Str) :: ("half" : Str) :: ("ways" : Str) :: ("low" : Str) :: ("thing" : Str) :: ("spot" : Str) :: ("high" : Str) :: []) ["script"] (defScope s_law) := ⟨rfl, rfl, rfl, by decide +kernel, rfl, by decide +kernel, by decide +kernel⟩
def lw0 : SM := (sAsg (eOp opAdd (eOp opIx (eVar 5) (eC (.str [110, 111, 119]))) (eCall m__law_roll (aCons (eVar 1) (aCons (eC (.int 5)) aNil)))) (gSubM (eVar 5) (eC (.str [110, 111, 119]))))
def lw1 : SM := (sIf (tOr (tNot (tTru (eCall m__law_deed (aCons (eVar 1) (aCons (eVar 4) (aCons (eVar 5) aNil)))))) (tOr (tVal (eOp opNe (eAttr 2 (eVar 4)) (eOp opIx (eVar 5) (eC (.str [114, 111, 119, 115]))))) (tVal (eOp opNe (eAttr 3 (eVar 4)) (eOp opIx (eVar 5) (eC (.str [109, 97, 110, 121]))))))) (sRet (eC (.bl false))) sNext)
def lw2 : SM := (sAsg (eCall fDict (aCons (eLc (iSeq (eSortIt (eOp opIx (eVar 5) (eC (.str [114, 111, 119, 115]))))) [32, 28] (.tp [(.nm 32), (.nm 28)]) (tVal (eOp (opCmp .lt) (eOp opIx (eVar 5) (eC (.str [110, 111, 119]))) (eOp opAdd (eOp opIx (eVar 28) (eC (.int 1))) (eVar 3)))) (eTup (aCons (eVar 32) (aCons (eOp opIx (eVar 28) (eC (.int 0))) aNil)))) aNil)) (gName 22))
def lw3 : SM := (sIf (tVal (eOp opNe (eListIt (eMeth 0 m_Leases_who_holds (eVar 4) (aCons (eOp opIx (eVar 5) (eC (.str [110, 111, 119]))) aNil))) (eListIt (eVar 22)))) (sRet (eC (.bl false))) sNext)
def lw4 : SM := (sIf (tOr (tNot (tTru (eCall m__law_safe (aCons (eVar 5) (aCons (eVar 4) (aCons (eOp opIx (eVar 5) (eC (.str [110, 111, 119]))) (aCons (eVar 3) aNil))))))) (tNot (tTru (eCall m__law_safe (aCons (eVar 5) (aCons (eVar 4) (aCons (eOp opIx (eVar 5) (eC (.str [110, 111, 119]))) (aCons (eUn opNeg (eVar 3)) aNil)))))))) (sRet (eC (.bl false))) sNext)
def lw5 : SM := (sAsg (eOp opAdd (eC (.int 1)) (eCall m__law_roll (aCons (eVar 1) (aCons (eC (.int 6)) aNil)))) (gName 23))
def lw6 : SM := (sAsg (eOp (opCmp .ge) (eVar 23) (eVar 8)) (gName 16))
def lw7 : SM := (sPar [8, 9] (aCons (eCall (fBest true) (aCons (eVar 8) (aCons (eVar 23) aNil))) (aCons (eOp opAdd (eVar 9) (eOp opMul (eLstF (aCons (eTup (aCons (eVar 23) (aCons (eVar 6) aNil))) aNil)) (eCall fInt (aCons (eVar 16) aNil)))) aNil)))
def lw8 : SM := (sIf (tOr (tVal (eOp opNe (eMeth 1 m_Gate_act (eVar 7) (aCons (eVar 23) (aCons (eVar 6) aNil))) (eVar 16))) (tOr (tVal (eOp opNe (eAttr 5 (eVar 7)) (eVar 9))) (tVal (eOp opNe (eAttr 4 (eVar 7)) (eVar 8))))) (sRet (eC (.bl false))) sNext)
def lw9 : SM := (sAsg (eTup (aCons (eOp opSub (eCall m__law_roll (aCons (eVar 1) (aCons (eC (.int 40)) aNil))) (eC (.int 20))) (aCons (eCall m__law_roll (aCons (eVar 1) (aCons (eC (.int 9)) aNil))) (aCons (eCall m__law_roll (aCons (eVar 1) (aCons (eC (.int 4)) aNil))) (aCons (eCall m__law_roll (aCons (eVar 1) (aCons (eC (.int 9)) aNil))) (aCons (eOp opAdd (eC (.int 30)) (eCall m__law_roll (aCons (eVar 1) (aCons (eC (.int 9)) aNil)))) aNil)))))) (gPat (.tp [(.nm 24), (.nm 25), (.nm 22), (.nm 26), (.nm 27)])))
def lw10 : SM := (sAsg (eTup (aCons (eVar 27) (aCons (eOp opAdd (eOp opAdd (eVar 27) (eVar 25)) (eVar 24)) (aCons (eOp opAdd (eOp opAdd (eOp opAdd (eVar 27) (eVar 25)) (eVar 24)) (eVar 22)) (aCons (eOp opAdd (eOp opAdd (eOp opAdd (eVar 27) (eVar 25)) (eVar 22)) (eVar 26)) aNil))))) (gName 28))
def lw11 : SM := (sAsg (eOp opAdd (eVar 10) (eLstF (aCons (eVar 28) aNil))) (gName 10))
def lw12 : SM := (sAsg (eCall m_set_right (aCons (eOp opIx (eVar 28) (eC (.int 0))) (aCons (eOp opIx (eVar 28) (eC (.int 1))) (aCons (eOp opIx (eVar 28) (eC (.int 2))) (aCons (eOp opIx (eVar 28) (eC (.int 3))) aNil))))) (gPat (.tp [(.nm 29), (.nm 30)])))
def lw13 : SM := (sIf (tOr (tVal (eOp opNe (eVar 30) (eOp opAdd (eVar 25) (eVar 26)))) (tOr (tVal (eOp opNe (eVar 29) (eOp opSub (eOp opAdd (eOp opMul (eC (.int 2)) (eVar 24)) (eVar 25)) (eVar 26)))) (tNot (tVal (eChain (opCmp .le) (opCmp .le) (eOp opSub (eOp opMul (eC (.int 2)) (eVar 24)) (eVar 30)) (eVar 29) (eOp opAdd (eOp opMul (eC (.int 2)) (eVar 24)) (eVar 30))))))) (sRet (eC (.bl false))) sNext)
def lw14 : SM := (sAsg (eCall m__law_roll (aCons (eVar 1) (aCons (eC (.int 20)) aNil))) (gName 31))
def lw15 : SM := (sAsg (eOp opAdd (eVar 14) (eLstF (aCons (eTup (aCons (eVar 31) (aCons (eOp opAdd (eVar 31) (eCall m__law_roll (aCons (eVar 1) (aCons (eC (.int 10)) aNil)))) aNil))) aNil))) (gName 14))
def lw16 : SM := (sAsg (eOp opAdd (eC (.int 1)) (eCall m__law_roll (aCons (eVar 1) (aCons (eC (.int 8)) aNil)))) (gName 2))
def lw17 : SM := (sAsg (eCall m__law_roll (aCons (eVar 1) (aCons (eVar 2) aNil))) (gName 3))
def lw18 : SM := (sAsg (eTup (aCons (eMake 0 m_Leases_init0 (aCons (eVar 2) (aCons (eVar 3) aNil))) (aCons (eDctP (pCons (eC (.str [110, 111, 119])) (eC (.int 0)) (pCons (eC (.str [108, 111, 110, 103])) (eVar 2) (pCons (eC (.str [100, 114, 105, 102, 116])) (eVar 3) (pCons (eC (.str [114, 111, 119, 115])) eDct0 (pCons (eC (.str [109, 97, 110, 121])) (eC (.int 0)) (pCons (eC (.str [97, 99, 116, 115])) (eLstF aNil) pNil))))))) aNil))) (gPat (.tp [(.nm 4), (.nm 5)])))
def lw19 : SM := (sFor (iRange1 (eCall m__law_roll (aCons (eVar 1) (aCons (eC (.int 24)) aNil)))) (gPat (.nm 6))
    (sSeq lw0
    (sSeq lw1
    (sSeq lw2
    (sSeq lw3
    lw4)))))
def lw20 : SM := (sPar [7, 8, 9] (aCons (eMake 1 m_Gate_init0 aNil) (aCons (eC (.int 0)) (aCons (eLstF aNil) aNil))))
def lw21 : SM := (sFor (iRange1 (eCall m__law_roll (aCons (eVar 1) (aCons (eC (.int 8)) aNil)))) (gPat (.nm 6))
    (sSeq lw5
    (sSeq lw6
    (sSeq lw7
    lw8))))
def lw22 : SM := (sFor (iRange1 (eOp opAdd (eC (.int 1)) (eCall m__law_roll (aCons (eVar 1) (aCons (eC (.int 4)) aNil))))) (gPat (.nm 11))
    (sSeq lw9
    (sSeq lw10
    (sSeq lw11
    (sSeq lw12
    lw13)))))
def lw23 : SM := (sAsg (eLc (iSeq (eVar 10)) [28] (.nm 28) tYesM (eCall m_set_right (aCons (eOp opIx (eVar 28) (eC (.int 0))) (aCons (eOp opIx (eVar 28) (eC (.int 1))) (aCons (eOp opIx (eVar 28) (eC (.int 2))) (aCons (eOp opIx (eVar 28) (eC (.int 3))) aNil)))))) (gName 12))
def lw24 : SM := (sAsg (eCall (fBest false) (aCons (eLc (iSeq (eVar 12)) [29, 30] (.tp [(.nm 29), (.nm 30)]) tYesM (eVar 30)) aNil)) (gName 13))
def lw25 : SM := (sIf (tOr (tVal (eOp opNe (eCall m_best_set (aCons (eVar 10) aNil)) (eOp opIx (eLc (iSeq (eVar 12)) [28] (.nm 28) (tVal (eOp opEq (eOp opIx (eVar 28) (eC (.int 1))) (eVar 13))) (eVar 28)) (eC (.int 0))))) (tVal (eOp opNe (eCall m_least_of (aCons (eVar 12) aNil)) (eCall m_best_set (aCons (eVar 10) aNil))))) (sRet (eC (.bl false))) sNext)
def lw26 : SM := (sFor (iRange1 (eOp opAdd (eC (.int 1)) (eCall m__law_roll (aCons (eVar 1) (aCons (eC (.int 5)) aNil))))) (gPat (.nm 11))
    (sSeq lw14
    lw15))
def lw27 : SM := (sAsg (eCall m__law_roll (aCons (eVar 1) (aCons (eCall fLen (aCons (eVar 14) aNil)) aNil))) (gName 15))
def lw28 : SM := (sAsg (eCall m__law_spans (aCons (eVar 14) (aCons (eVar 15) aNil))) (gName 16))
def lw29 : SM := (sIf (tVal (eOp opNe (eCall m_agreed_span (aCons (eVar 14) (aCons (eVar 15) aNil))) (eIf (tVal (eOp opNe (eVar 16) (eLstF aNil))) (eTup (aCons (eOp opDiv (eOp opIx (eVar 16) (eC (.int 0))) (eC (.int 2))) (aCons (eOp opDiv (eOp opIx (eVar 16) (eUn opNeg (eC (.int 1)))) (eC (.int 2))) aNil))) (eC .non)))) (sRet (eC (.bl false))) sNext)
def lw30 : SM := (sIf (tAnd (tVal (eOp opNe (eVar 16) (eLstF aNil))) (tVal (eOp opNe (eTup (aCons (eOp opMul (eOp opDiv (eOp opIx (eVar 16) (eC (.int 0))) (eC (.int 2))) (eC (.int 2))) (aCons (eOp opMul (eOp opDiv (eOp opIx (eVar 16) (eUn opNeg (eC (.int 1)))) (eC (.int 2))) (eC (.int 2))) aNil))) (eTup (aCons (eOp opIx (eVar 16) (eC (.int 0))) (aCons (eOp opIx (eVar 16) (eUn opNeg (eC (.int 1)))) aNil)))))) (sRet (eC (.bl false))) sNext)
def lw31 : SM := (sAsg (eLc (iRange1 (eOp opAdd (eC (.int 1)) (eCall m__law_roll (aCons (eVar 1) (aCons (eC (.int 6)) aNil))))) [11] (.nm 11) tYesM (eCall m__law_roll (aCons (eVar 1) (aCons (eC (.int 30)) aNil)))) (gName 17))
def lw32 : SM := (sAsg (eIf (tVal (eOp (opCmp .gt) (eCall fLen (aCons (eVar 17) aNil)) (eC (.int 2)))) (eSl (eCall fSortedD (aCons (eVar 17) aNil)) (oSome (eC (.int 1))) (oSome (eUn opNeg (eC (.int 1))))) (eCall fSortedD (aCons (eVar 17) aNil))) (gName 18))
def lw33 : SM := (sIf (tOr (tVal (eOp opNe (eCall m_middle_of (aCons (eVar 17) aNil)) (eOp opIx (eVar 18) (eOp opDiv (eOp opSub (eCall fLen (aCons (eVar 18) aNil)) (eC (.int 1))) (eC (.int 2)))))) (tVal (eOp opNe (eLc (iSeq (eCall m_spots_of (aCons (eVar 14) aNil))) [33] (.nm 33) tYesM (eCall m_how_many_at (aCons (eVar 14) (aCons (eVar 33) aNil)))) (eLc (iSeq (eCall m_spots_of (aCons (eVar 14) aNil))) [33] (.nm 33) tYesM (eCall fLen (aCons (eLc (iSeq (eVar 14)) [31, 34] (.tp [(.nm 31), (.nm 34)]) (tVal (eChain (opCmp .le) (opCmp .le) (eVar 31) (eVar 33) (eVar 34))) (eC (.int 1))) aNil)))))) (sRet (eC (.bl false))) sNext)
def lw34 : SM := (sIf (tNot (tTru (eCall m__law_marks (aCons (eVar 1) aNil)))) (sRet (eC (.bl false))) sNext)
def lw35 : SM := (sAsg (eTup (aCons (eCall m__law_roll (aCons (eVar 1) (aCons (eC (.int 20)) aNil))) (aCons (eCall m__law_roll (aCons (eVar 1) (aCons (eC (.int 5)) aNil))) (aCons (eCall m__law_roll (aCons (eVar 1) (aCons (eC (.int 40)) aNil))) aNil)))) (gPat (.tp [(.nm 19), (.nm 3), (.nm 20)])))
def lw36 : SM := (sAsg (eCall m_wait_out (aCons (eVar 19) (aCons (eVar 3) (aCons (eVar 20) aNil)))) (gName 21))
def lw37 : SM := (sIf (tOr (tVal (eOp (opCmp .lt) (eVar 21) (eC (.int 0)))) (tOr (tVal (eOp (opCmp .le) (eOp opSub (eOp opAdd (eVar 20) (eVar 21)) (eVar 3)) (eVar 19))) (tAnd (tVal (eOp (opCmp .gt) (eVar 21) (eC (.int 0)))) (tVal (eOp (opCmp .gt) (eOp opSub (eOp opSub (eOp opAdd (eVar 20) (eVar 21)) (eC (.int 1))) (eVar 3)) (eVar 19)))))) (sRet (eC (.bl false))) sNext)
def m_law : Fn := fdef 35 1
    (sSeq (sFor (iSeq (eCall m__law_rounds (aCons (eVar 0) (aCons (eC (.int 1)) aNil)))) (gPat (.nm 1))
    (sSeq lw16
    (sSeq lw17
    (sSeq lw18
    (sSeq lw19
    (sSeq lw20
    (sSeq lw21
    (sSeq (sAsg (eLstF aNil) (gName 10))
    (sSeq lw22
    (sSeq lw23
    (sSeq lw24
    (sSeq lw25
    (sSeq (sAsg (eLstF aNil) (gName 14))
    (sSeq lw26
    (sSeq lw27
    (sSeq lw28
    (sSeq lw29
    (sSeq lw30
    (sSeq lw31
    (sSeq lw32
    (sSeq lw33
    (sSeq lw34
    (sSeq lw35
    (sSeq lw36
    lw37))))))))))))))))))))))))
    (sRet (eCallF m__law_plain)))
theorem ar_law : Ar ["script"].length m_law := ar_fdef
theorem ok_law (T : Txt K mg A) {fd : FuncData} (F : Fun K "law" "law" s_law A.f_law fd) (B : Binds K fd ["script"] []) (M__law_rounds : FnM P w K mg base (G0 A) 2 A.f__law_rounds ["script", "most"] m__law_rounds) (M__law_roll : FnM P w K mg base (G0 A) 2 A.f__law_roll ["dice", "many"] m__law_roll) (M_Leases_init0 : FnM P w K mg base (G0 A) 1 A.f_Leases_init0 ["self", "long", "drift"] m_Leases_init0) (M__law_deed : FnM P w K mg base (G0 A) 6 A.f__law_deed ["dice", "leases", "own"] m__law_deed) (M_Leases_who_holds : FnM P w K mg base (G0 A) 1 A.f_Leases_who_holds ["self", "now"] m_Leases_who_holds) (M__law_safe : FnM P w K mg base (G0 A) 2 A.f__law_safe ["own", "leases", "now", "drift"] m__law_safe) (M_Gate_init0 : FnM P w K mg base (G0 A) 1 A.f_Gate_init0 ["self"] m_Gate_init0) (M_Gate_act : FnM P w K mg base (G0 A) 1 A.f_Gate_act ["self", "number", "what"] m_Gate_act) (M_set_right : FnM P w K mg base (G0 A) 1 A.f_set_right ["sent", "taken", "answered", "come"] m_set_right) (M_best_set : FnM P w K mg base (G0 A) 2 A.f_best_set ["rows"] m_best_set) (M_least_of : FnM P w K mg base (G0 A) 1 A.f_least_of ["rows"] m_least_of) (M__law_spans : FnM P w K mg base (G0 A) 1 A.f__law_spans ["spans", "wrong"] m__law_spans) (M_agreed_span : FnM P w K mg base (G0 A) 5 A.f_agreed_span ["spans", "wrong"] m_agreed_span) (M_middle_of : FnM P w K mg base (G0 A) 1 A.f_middle_of ["clocks"] m_middle_of) (M_spots_of : FnM P w K mg base (G0 A) 1 A.f_spots_of ["spans"] m_spots_of) (M_how_many_at : FnM P w K mg base (G0 A) 1 A.f_how_many_at ["spans", "spot"] m_how_many_at) (M__law_marks : FnM P w K mg base (G0 A) 3 A.f__law_marks ["dice"] m__law_marks) (M_wait_out : FnM P w K mg base (G0 A) 1 A.f_wait_out ["time", "drift", "now"] m_wait_out) (M__law_plain : FnM P w K mg base (G0 A) 9 A.f__law_plain [] m__law_plain) : FnOk P w K mg base (L2.CX P w) 10 A.f_law fd ["script"] (spM K (G0 A) m_law 1) :=
  have scN := sc_law.nd
  fnOk_of F sc_law (by decide) fun cdv A' outer s H E gx =>
    (mss_cons (ms_for gx.own gx.calm (mi_seq (me_call gx M__law_rounds (by decide) ar__law_rounds T.f__law_rounds (ma_cons (me_var 0 (pv 0)) (ma_cons me_int ma_nil)))) (mg_pat (mp_name (pg_name (i := 1) scN rfl (by first | exact .inl rfl | exact .inr rfl))))
    (mss_cons (ms_set (ps_set (i := 2) scN rfl (by first | exact .inl rfl | exact .inr rfl) (me_op mo_add me_int (me_call gx M__law_roll (by decide) ar__law_roll T.f__law_roll (ma_cons (me_var 1 (pv 1)) (ma_cons me_int ma_nil))))))
    (mss_cons (ms_set (ps_set (i := 3) scN rfl (by first | exact .inl rfl | exact .inr rfl) (me_call gx M__law_roll (by decide) ar__law_roll T.f__law_roll (ma_cons (me_var 1 (pv 1)) (ma_cons (me_var 2 (pv 2)) ma_nil)))))
    (mss_cons (ms_asg (me_tup (ma_cons (me_make (c := 0) gx T.mk_Leases M_Leases_init0 (by decide) ar_Leases_init0 rfl T.g_Leases (ma_cons (me_var 2 (pv 2)) (ma_cons (me_var 3 (pv 3)) ma_nil))) (ma_cons (me_dctP (mpr_cons (me_str (by decide +kernel)) me_int (mpr_cons (me_str (by decide +kernel)) (me_var 2 (pv 2)) (mpr_cons (me_str (by decide +kernel)) (me_var 3 (pv 3)) (mpr_cons (me_str (by decide +kernel)) me_dct0 (mpr_cons (me_str (by decide +kernel)) me_int (mpr_cons (me_str (by decide +kernel)) (me_lstF ma_nil) mpr_nil)))))) rfl rfl (by simp) (by decide)) ma_nil))) (mg_pat (mp_tup rfl (mps_cons (mp_name (pg_name (i := 4) scN rfl (by first | exact .inl rfl | exact .inr rfl))) (mps_cons (mp_name (pg_name (i := 5) scN rfl (by first | exact .inl rfl | exact .inr rfl))) mps_nil)))))
    (mss_cons (ms_for gx.own gx.calm (mi_range1 T.b_range (me_call gx M__law_roll (by decide) ar__law_roll T.f__law_roll (ma_cons (me_var 1 (pv 1)) (ma_cons me_int ma_nil)))) (mg_pat (mp_name (pg_name (i := 6) scN rfl (by first | exact .inl rfl | exact .inr rfl))))
    (mss_cons (ms_asg (me_op mo_add (me_ix gx.hu (me_var 5 (pv 5)) (me_str (by decide +kernel))) (me_call gx M__law_roll (by decide) ar__law_roll T.f__law_roll (ma_cons (me_var 1 (pv 1)) (ma_cons me_int ma_nil)))) (mg_sub gx (me_var 5 (pv 5)) (me_str (by decide +kernel))))
    (mss_cons (ms_if (mt_w (mw_or (mt_not (mt_val (me_call gx M__law_deed (by decide) ar__law_deed T.f__law_deed (ma_cons (me_var 1 (pv 1)) (ma_cons (me_var 4 (pv 4)) (ma_cons (me_var 5 (pv 5)) ma_nil)))))) (mw_or (mt_cmp (mo_ne gx.hu) (me_attr (i := 2) (me_var 4 (pv 4)) rfl (by show 2 < 7; decide)) (me_ix gx.hu (me_var 5 (pv 5)) (me_str (by decide +kernel)))) (mw_or1 (mt_cmp (mo_ne gx.hu) (me_attr (i := 3) (me_var 4 (pv 4)) rfl (by show 3 < 7; decide)) (me_ix gx.hu (me_var 5 (pv 5)) (me_str (by decide +kernel)))))))) (mss_one (ms_ret me_bl)) mss_nil)
    (mss_cons (ms_set (ps_set (i := 22) scN rfl (by first | exact .inl rfl | exact .inr rfl) (me_callTy (mc_dict gx.calm) T.b_dict (by decide +kernel) (ma_cons (me_lc (own := [(("thing" : Str), 32), (("row" : Str), 28)]) (p := (.tp [(.nm 32), (.nm 28)])) rfl scN (mi_seq (me_sortIt (gx.mono (Nat.zero_le _)) T.b_sorted (me_ix gx.hu (me_var 5 (pv 5)) (me_str (by decide +kernel))))) (blkOk_by (by kernel_rfl)) (by decide) (fun _ _ _ _ _ => (mp_tup rfl (mps_cons (mp_name (pg_name (i := 32) scN rfl (by first | exact .inl rfl | exact .inr rfl))) (mps_cons (mp_name (pg_name (i := 28) scN rfl (by first | exact .inl rfl | exact .inr rfl))) mps_nil)))) (fun _ _ _ _ _ => (pts_if (mt_cmp (mo_lt (gx_blk gx).hu) (me_ix (gx_blk gx).hu (me_var 5 (pv 5)) (me_str (by decide +kernel))) (me_op mo_add (me_ix (gx_blk gx).hu (me_var 28 (pv 28)) me_int) (me_var 3 (pv 3)))))) (fun _ _ _ _ _ => (me_tup (ma_cons (me_var 32 (pv 32)) (ma_cons (me_ix (gx_blk gx).hu (me_var 28 (pv 28)) me_int) ma_nil))))) ma_nil))))
    (mss_cons (ms_if (mt_cmp (mo_ne gx.hu) (me_listIt (gx.mono (Nat.zero_le _)) T.b_list (me_meth (c := 0) gx (me_var 4 (pv 4)) T.c_Leases T.t_Leases_who_holds M_Leases_who_holds (by decide) ar_Leases_who_holds rfl nf_who_holds (ma_cons (me_ix gx.hu (me_var 5 (pv 5)) (me_str (by decide +kernel))) ma_nil))) (me_listIt (gx.mono (Nat.zero_le _)) T.b_list (me_var 22 (pv 22)))) (mss_one (ms_ret me_bl)) mss_nil)
    (mss_one (ms_if (mt_w (mw_or (mt_not (mt_val (me_call gx M__law_safe (by decide) ar__law_safe T.f__law_safe (ma_cons (me_var 5 (pv 5)) (ma_cons (me_var 4 (pv 4)) (ma_cons (me_ix gx.hu (me_var 5 (pv 5)) (me_str (by decide +kernel))) (ma_cons (me_var 3 (pv 3)) ma_nil))))))) (mw_or1 (mt_not (mt_val (me_call gx M__law_safe (by decide) ar__law_safe T.f__law_safe (ma_cons (me_var 5 (pv 5)) (ma_cons (me_var 4 (pv 4)) (ma_cons (me_ix gx.hu (me_var 5 (pv 5)) (me_str (by decide +kernel))) (ma_cons (me_un mu_neg (me_var 3 (pv 3))) ma_nil)))))))))) (mss_one (ms_ret me_bl)) mss_nil)))))))
    (mss_cons (ms_par3 (i := 7) (j := 8) (l := 9) rfl scN rfl rfl rfl (by decide) (by decide) (by decide) rfl rfl rfl (ma_cons (me_make0 (c := 1) gx T.mk_Gate M_Gate_init0 (by decide) ar_Gate_init0 rfl T.g_Gate) (ma_cons me_int (ma_cons (me_lstF ma_nil) ma_nil))) rfl)
    (mss_cons (ms_for gx.own gx.calm (mi_range1 T.b_range (me_call gx M__law_roll (by decide) ar__law_roll T.f__law_roll (ma_cons (me_var 1 (pv 1)) (ma_cons me_int ma_nil)))) (mg_pat (mp_name (pg_name (i := 6) scN rfl (by first | exact .inl rfl | exact .inr rfl))))
    (mss_cons (ms_set (ps_set (i := 23) scN rfl (by first | exact .inl rfl | exact .inr rfl) (me_op mo_add me_int (me_call gx M__law_roll (by decide) ar__law_roll T.f__law_roll (ma_cons (me_var 1 (pv 1)) (ma_cons me_int ma_nil))))))
    (mss_cons (ms_set (ps_set (i := 16) scN rfl (by first | exact .inl rfl | exact .inr rfl) (me_cmp (mo_ge gx.hu) (me_var 23 (pv 23)) (me_var 8 (pv 8)))))
    (mss_cons (ms_par (i := 8) (j := 9) rfl scN rfl rfl (by decide) rfl rfl (ma_cons (me_callB (mc_max (gx.mono (Nat.zero_le _))) T.b_max (by decide +kernel) (ma_cons (me_var 8 (pv 8)) (ma_cons (me_var 23 (pv 23)) ma_nil))) (ma_cons (me_op mo_add (me_var 9 (pv 9)) (me_op mo_mul (me_lstF (ma_cons (me_tup (ma_cons (me_var 23 (pv 23)) (ma_cons (me_var 6 (pv 6)) ma_nil))) ma_nil)) (me_callTy mc_int T.b_int (by decide +kernel) (ma_cons (me_var 16 (pv 16)) ma_nil)))) ma_nil)) rfl)
    (mss_one (ms_if (mt_w (mw_or (mt_cmp (mo_ne gx.hu) (me_meth (c := 1) gx (me_var 7 (pv 7)) T.c_Gate T.t_Gate_act M_Gate_act (by decide) ar_Gate_act rfl nf_act (ma_cons (me_var 23 (pv 23)) (ma_cons (me_var 6 (pv 6)) ma_nil))) (me_var 16 (pv 16))) (mw_or (mt_cmp (mo_ne gx.hu) (me_attr (i := 5) (me_var 7 (pv 7)) rfl (by show 5 < 7; decide)) (me_var 9 (pv 9))) (mw_or1 (mt_cmp (mo_ne gx.hu) (me_attr (i := 4) (me_var 7 (pv 7)) rfl (by show 4 < 7; decide)) (me_var 8 (pv 8))))))) (mss_one (ms_ret me_bl)) mss_nil))))))
    (mss_cons (ms_set (ps_set (i := 10) scN rfl (by first | exact .inl rfl | exact .inr rfl) (me_lstF ma_nil)))
    (mss_cons (ms_for gx.own gx.calm (mi_range1 T.b_range (me_op mo_add me_int (me_call gx M__law_roll (by decide) ar__law_roll T.f__law_roll (ma_cons (me_var 1 (pv 1)) (ma_cons me_int ma_nil))))) (mg_pat (mp_name (pg_name (i := 11) scN rfl (by first | exact .inl rfl | exact .inr rfl))))
    (mss_cons (ms_asg (me_tup (ma_cons (me_op mo_sub (me_call gx M__law_roll (by decide) ar__law_roll T.f__law_roll (ma_cons (me_var 1 (pv 1)) (ma_cons me_int ma_nil))) me_int) (ma_cons (me_call gx M__law_roll (by decide) ar__law_roll T.f__law_roll (ma_cons (me_var 1 (pv 1)) (ma_cons me_int ma_nil))) (ma_cons (me_call gx M__law_roll (by decide) ar__law_roll T.f__law_roll (ma_cons (me_var 1 (pv 1)) (ma_cons me_int ma_nil))) (ma_cons (me_call gx M__law_roll (by decide) ar__law_roll T.f__law_roll (ma_cons (me_var 1 (pv 1)) (ma_cons me_int ma_nil))) (ma_cons (me_op mo_add me_int (me_call gx M__law_roll (by decide) ar__law_roll T.f__law_roll (ma_cons (me_var 1 (pv 1)) (ma_cons me_int ma_nil)))) ma_nil)))))) (mg_pat (mp_tup rfl (mps_cons (mp_name (pg_name (i := 24) scN rfl (by first | exact .inl rfl | exact .inr rfl))) (mps_cons (mp_name (pg_name (i := 25) scN rfl (by first | exact .inl rfl | exact .inr rfl))) (mps_cons (mp_name (pg_name (i := 22) scN rfl (by first | exact .inl rfl | exact .inr rfl))) (mps_cons (mp_name (pg_name (i := 26) scN rfl (by first | exact .inl rfl | exact .inr rfl))) (mps_cons (mp_name (pg_name (i := 27) scN rfl (by first | exact .inl rfl | exact .inr rfl))) mps_nil))))))))
    (mss_cons (ms_set (ps_set (i := 28) scN rfl (by first | exact .inl rfl | exact .inr rfl) (me_tup (ma_cons (me_var 27 (pv 27)) (ma_cons (me_op mo_add (me_op mo_add (me_var 27 (pv 27)) (me_var 25 (pv 25))) (me_var 24 (pv 24))) (ma_cons (me_op mo_add (me_op mo_add (me_op mo_add (me_var 27 (pv 27)) (me_var 25 (pv 25))) (me_var 24 (pv 24))) (me_var 22 (pv 22))) (ma_cons (me_op mo_add (me_op mo_add (me_op mo_add (me_var 27 (pv 27)) (me_var 25 (pv 25))) (me_var 22 (pv 22))) (me_var 26 (pv 26))) ma_nil)))))))
    (mss_cons (ms_set (ps_set (i := 10) scN rfl (by first | exact .inl rfl | exact .inr rfl) (me_op mo_add (me_var 10 (pv 10)) (me_lstF (ma_cons (me_var 28 (pv 28)) ma_nil)))))
    (mss_cons (ms_asg (me_call gx M_set_right (by decide) ar_set_right T.f_set_right (ma_cons (me_ix gx.hu (me_var 28 (pv 28)) me_int) (ma_cons (me_ix gx.hu (me_var 28 (pv 28)) me_int) (ma_cons (me_ix gx.hu (me_var 28 (pv 28)) me_int) (ma_cons (me_ix gx.hu (me_var 28 (pv 28)) me_int) ma_nil))))) (mg_pat (mp_tup rfl (mps_cons (mp_name (pg_name (i := 29) scN rfl (by first | exact .inl rfl | exact .inr rfl))) (mps_cons (mp_name (pg_name (i := 30) scN rfl (by first | exact .inl rfl | exact .inr rfl))) mps_nil)))))
    (mss_one (ms_if (mt_w (mw_or (mt_cmp (mo_ne gx.hu) (me_var 30 (pv 30)) (me_op mo_add (me_var 25 (pv 25)) (me_var 26 (pv 26)))) (mw_or (mt_cmp (mo_ne gx.hu) (me_var 29 (pv 29)) (me_op mo_sub (me_op mo_add (me_op mo_mul me_int (me_var 24 (pv 24))) (me_var 25 (pv 25))) (me_var 26 (pv 26)))) (mw_or1 (mt_not (mt_chain (mo_le gx.hu) (mo_le gx.hu) (me_op mo_sub (me_op mo_mul me_int (me_var 24 (pv 24))) (me_var 30 (pv 30))) (me_var 29 (pv 29)) (me_op mo_add (me_op mo_mul me_int (me_var 24 (pv 24))) (me_var 30 (pv 30))))))))) (mss_one (ms_ret me_bl)) mss_nil)))))))
    (mss_cons (ms_setLc0 true (n := 12) (own := [(("row" : Str), 28)]) (p := (.nm 28)) rfl scN rfl rfl (sw_true rfl rfl rfl (by decide +kernel)) (mi_seq (me_var 10 (pv 10))) (blkOk_by (by kernel_rfl)) (by decide) (fun _ _ _ _ _ => (mp_name (pg_name (i := 28) scN rfl (by first | exact .inl rfl | exact .inr rfl)))) (fun _ _ _ _ _ => pts_yes) (fun _ _ _ _ _ => (me_call (gx_blk gx) M_set_right (by decide) ar_set_right T.f_set_right (ma_cons (me_ix (gx_blk gx).hu (me_var 28 (pv 28)) me_int) (ma_cons (me_ix (gx_blk gx).hu (me_var 28 (pv 28)) me_int) (ma_cons (me_ix (gx_blk gx).hu (me_var 28 (pv 28)) me_int) (ma_cons (me_ix (gx_blk gx).hu (me_var 28 (pv 28)) me_int) ma_nil)))))))
    (mss_cons (ms_set (ps_set (i := 13) scN rfl (by first | exact .inl rfl | exact .inr rfl) (me_callB (mc_min (gx.mono (Nat.zero_le _))) T.b_min (by decide +kernel) (ma_cons (me_lc (own := [(("half" : Str), 29), (("ways" : Str), 30)]) (p := (.tp [(.nm 29), (.nm 30)])) rfl scN (mi_seq (me_var 12 (pv 12))) (blkOk_by (by kernel_rfl)) (by decide) (fun _ _ _ _ _ => (mp_tup rfl (mps_cons (mp_name (pg_name (i := 29) scN rfl (by first | exact .inl rfl | exact .inr rfl))) (mps_cons (mp_name (pg_name (i := 30) scN rfl (by first | exact .inl rfl | exact .inr rfl))) mps_nil)))) (fun _ _ _ _ _ => pts_yes) (fun _ _ _ _ _ => (me_var 30 (pv 30)))) ma_nil))))
    (mss_cons (ms_if (mt_w (mw_or (mt_cmp (mo_ne gx.hu) (me_call gx M_best_set (by decide) ar_best_set T.f_best_set (ma_cons (me_var 10 (pv 10)) ma_nil)) (me_ix gx.hu (me_lc (own := [(("row" : Str), 28)]) (p := (.nm 28)) rfl scN (mi_seq (me_var 12 (pv 12))) (blkOk_by (by kernel_rfl)) (by decide) (fun _ _ _ _ _ => (mp_name (pg_name (i := 28) scN rfl (by first | exact .inl rfl | exact .inr rfl)))) (fun _ _ _ _ _ => (pts_if (mt_cmp (mo_eq (gx_blk gx).hu) (me_ix (gx_blk gx).hu (me_var 28 (pv 28)) me_int) (me_var 13 (pv 13))))) (fun _ _ _ _ _ => (me_var 28 (pv 28)))) me_int)) (mw_or1 (mt_cmp (mo_ne gx.hu) (me_call gx M_least_of (by decide) ar_least_of T.f_least_of (ma_cons (me_var 12 (pv 12)) ma_nil)) (me_call gx M_best_set (by decide) ar_best_set T.f_best_set (ma_cons (me_var 10 (pv 10)) ma_nil)))))) (mss_one (ms_ret me_bl)) mss_nil)
    (mss_cons (ms_set (ps_set (i := 14) scN rfl (by first | exact .inl rfl | exact .inr rfl) (me_lstF ma_nil)))
    (mss_cons (ms_for gx.own gx.calm (mi_range1 T.b_range (me_op mo_add me_int (me_call gx M__law_roll (by decide) ar__law_roll T.f__law_roll (ma_cons (me_var 1 (pv 1)) (ma_cons me_int ma_nil))))) (mg_pat (mp_name (pg_name (i := 11) scN rfl (by first | exact .inl rfl | exact .inr rfl))))
    (mss_cons (ms_set (ps_set (i := 31) scN rfl (by first | exact .inl rfl | exact .inr rfl) (me_call gx M__law_roll (by decide) ar__law_roll T.f__law_roll (ma_cons (me_var 1 (pv 1)) (ma_cons me_int ma_nil)))))
    (mss_one (ms_set (ps_set (i := 14) scN rfl (by first | exact .inl rfl | exact .inr rfl) (me_op mo_add (me_var 14 (pv 14)) (me_lstF (ma_cons (me_tup (ma_cons (me_var 31 (pv 31)) (ma_cons (me_op mo_add (me_var 31 (pv 31)) (me_call gx M__law_roll (by decide) ar__law_roll T.f__law_roll (ma_cons (me_var 1 (pv 1)) (ma_cons me_int ma_nil)))) ma_nil))) ma_nil))))))))
    (mss_cons (ms_set (ps_set (i := 15) scN rfl (by first | exact .inl rfl | exact .inr rfl) (me_call gx M__law_roll (by decide) ar__law_roll T.f__law_roll (ma_cons (me_var 1 (pv 1)) (ma_cons (me_callB mc_len T.b_len (by decide +kernel) (ma_cons (me_var 14 (pv 14)) ma_nil)) ma_nil)))))
    (mss_cons (ms_set (ps_set (i := 16) scN rfl (by first | exact .inl rfl | exact .inr rfl) (me_call gx M__law_spans (by decide) ar__law_spans T.f__law_spans (ma_cons (me_var 14 (pv 14)) (ma_cons (me_var 15 (pv 15)) ma_nil)))))
    (mss_cons (ms_if (mt_cmp (mo_ne gx.hu) (me_call gx M_agreed_span (by decide) ar_agreed_span T.f_agreed_span (ma_cons (me_var 14 (pv 14)) (ma_cons (me_var 15 (pv 15)) ma_nil))) (me_if (mt_cmp (mo_ne gx.hu) (me_var 16 (pv 16)) (me_lstF ma_nil)) (me_tup (ma_cons (me_op mo_div (me_ix gx.hu (me_var 16 (pv 16)) me_int) me_int) (ma_cons (me_op mo_div (me_ix gx.hu (me_var 16 (pv 16)) (me_un mu_neg me_int)) me_int) ma_nil))) me_non)) (mss_one (ms_ret me_bl)) mss_nil)
    (mss_cons (ms_if (mt_w (mw_and (mt_cmp (mo_ne gx.hu) (me_var 16 (pv 16)) (me_lstF ma_nil)) (mw_and1 (mt_cmp (mo_ne gx.hu) (me_tup (ma_cons (me_op mo_mul (me_op mo_div (me_ix gx.hu (me_var 16 (pv 16)) me_int) me_int) me_int) (ma_cons (me_op mo_mul (me_op mo_div (me_ix gx.hu (me_var 16 (pv 16)) (me_un mu_neg me_int)) me_int) me_int) ma_nil))) (me_tup (ma_cons (me_ix gx.hu (me_var 16 (pv 16)) me_int) (ma_cons (me_ix gx.hu (me_var 16 (pv 16)) (me_un mu_neg me_int)) ma_nil))))))) (mss_one (ms_ret me_bl)) mss_nil)
    (mss_cons (ms_setLc0 true (n := 17) (own := [(("k" : Str), 11)]) (p := (.nm 11)) rfl scN rfl rfl (sw_true rfl rfl rfl (by decide +kernel)) (mi_range1 T.b_range (me_op mo_add me_int (me_call gx M__law_roll (by decide) ar__law_roll T.f__law_roll (ma_cons (me_var 1 (pv 1)) (ma_cons me_int ma_nil))))) (blkOk_by (by kernel_rfl)) (by decide) (fun _ _ _ _ _ => (mp_name (pg_name (i := 11) scN rfl (by first | exact .inl rfl | exact .inr rfl)))) (fun _ _ _ _ _ => pts_yes) (fun _ _ _ _ _ => (me_call (gx_blk gx) M__law_roll (by decide) ar__law_roll T.f__law_roll (ma_cons (me_var 1 (pv 1)) (ma_cons me_int ma_nil)))))
    (mss_cons (ms_set (ps_set (i := 18) scN rfl (by first | exact .inl rfl | exact .inr rfl) (me_if (mt_cmp (mo_gt gx.hu) (me_callB mc_len T.b_len (by decide +kernel) (ma_cons (me_var 17 (pv 17)) ma_nil)) me_int) (me_sl (me_callB (mc_sortedD (gx.mono (Nat.zero_le _))) T.b_sorted (by decide +kernel) (ma_cons (me_var 17 (pv 17)) ma_nil)) (mo_some me_int) (mo_some (me_un mu_neg me_int))) (me_callB (mc_sortedD (gx.mono (Nat.zero_le _))) T.b_sorted (by decide +kernel) (ma_cons (me_var 17 (pv 17)) ma_nil)))))
    (mss_cons (ms_if (mt_w (mw_or (mt_cmp (mo_ne gx.hu) (me_call gx M_middle_of (by decide) ar_middle_of T.f_middle_of (ma_cons (me_var 17 (pv 17)) ma_nil)) (me_ix gx.hu (me_var 18 (pv 18)) (me_op mo_div (me_op mo_sub (me_callB mc_len T.b_len (by decide +kernel) (ma_cons (me_var 18 (pv 18)) ma_nil)) me_int) me_int))) (mw_or1 (mt_cmp (mo_ne gx.hu) (me_lc (own := [(("spot" : Str), 33)]) (p := (.nm 33)) rfl scN (mi_seq (me_call gx M_spots_of (by decide) ar_spots_of T.f_spots_of (ma_cons (me_var 14 (pv 14)) ma_nil))) (blkOk_by (by kernel_rfl)) (by decide) (fun _ _ _ _ _ => (mp_name (pg_name (i := 33) scN rfl (by first | exact .inl rfl | exact .inr rfl)))) (fun _ _ _ _ _ => pts_yes) (fun _ _ _ _ _ => (me_call (gx_blk gx) M_how_many_at (by decide) ar_how_many_at T.f_how_many_at (ma_cons (me_var 14 (pv 14)) (ma_cons (me_var 33 (pv 33)) ma_nil))))) (me_lc (own := [(("spot" : Str), 33)]) (p := (.nm 33)) rfl scN (mi_seq (me_call gx M_spots_of (by decide) ar_spots_of T.f_spots_of (ma_cons (me_var 14 (pv 14)) ma_nil))) (blkOk_by (by kernel_rfl)) (by decide) (fun _ _ _ _ _ => (mp_name (pg_name (i := 33) scN rfl (by first | exact .inl rfl | exact .inr rfl)))) (fun _ _ _ _ _ => pts_yes) (fun _ _ _ _ _ => (me_callB mc_len T.b_len (by decide +kernel) (ma_cons (me_lc (own := [(("low" : Str), 31), (("high" : Str), 34)]) (p := (.tp [(.nm 31), (.nm 34)])) rfl scN (mi_seq (me_var 14 (pv 14))) (blkOk_by (by kernel_rfl)) (by decide) (fun _ _ _ _ _ => (mp_tup rfl (mps_cons (mp_name (pg_name (i := 31) scN rfl (by first | exact .inl rfl | exact .inr rfl))) (mps_cons (mp_name (pg_name (i := 34) scN rfl (by first | exact .inl rfl | exact .inr rfl))) mps_nil)))) (fun _ _ _ _ _ => (pts_if (mt_chain (mo_le (gx_blk (gx_blk gx)).hu) (mo_le (gx_blk (gx_blk gx)).hu) (me_var 31 (pv 31)) (me_var 33 (pv 33)) (me_var 34 (pv 34))))) (fun _ _ _ _ _ => me_int)) ma_nil)))))))) (mss_one (ms_ret me_bl)) mss_nil)
    (mss_cons (ms_if (mt_not (mt_val (me_call gx M__law_marks (by decide) ar__law_marks T.f__law_marks (ma_cons (me_var 1 (pv 1)) ma_nil)))) (mss_one (ms_ret me_bl)) mss_nil)
    (mss_cons (ms_asg (me_tup (ma_cons (me_call gx M__law_roll (by decide) ar__law_roll T.f__law_roll (ma_cons (me_var 1 (pv 1)) (ma_cons me_int ma_nil))) (ma_cons (me_call gx M__law_roll (by decide) ar__law_roll T.f__law_roll (ma_cons (me_var 1 (pv 1)) (ma_cons me_int ma_nil))) (ma_cons (me_call gx M__law_roll (by decide) ar__law_roll T.f__law_roll (ma_cons (me_var 1 (pv 1)) (ma_cons me_int ma_nil))) ma_nil)))) (mg_pat (mp_tup rfl (mps_cons (mp_name (pg_name (i := 19) scN rfl (by first | exact .inl rfl | exact .inr rfl))) (mps_cons (mp_name (pg_name (i := 3) scN rfl (by first | exact .inl rfl | exact .inr rfl))) (mps_cons (mp_name (pg_name (i := 20) scN rfl (by first | exact .inl rfl | exact .inr rfl))) mps_nil))))))
    (mss_cons (ms_set (ps_set (i := 21) scN rfl (by first | exact .inl rfl | exact .inr rfl) (me_call gx M_wait_out (by decide) ar_wait_out T.f_wait_out (ma_cons (me_var 19 (pv 19)) (ma_cons (me_var 3 (pv 3)) (ma_cons (me_var 20 (pv 20)) ma_nil))))))
    (mss_one (ms_if (mt_w (mw_or (mt_cmp (mo_lt gx.hu) (me_var 21 (pv 21)) me_int) (mw_or (mt_cmp (mo_le gx.hu) (me_op mo_sub (me_op mo_add (me_var 20 (pv 20)) (me_var 21 (pv 21))) (me_var 3 (pv 3))) (me_var 19 (pv 19))) (mw_or1 (mt_w (mw_and (mt_cmp (mo_gt gx.hu) (me_var 21 (pv 21)) me_int) (mw_and1 (mt_cmp (mo_gt gx.hu) (me_op mo_sub (me_op mo_sub (me_op mo_add (me_var 20 (pv 20)) (me_var 21 (pv 21))) me_int) (me_var 3 (pv 3))) (me_var 19 (pv 19)))))))))) (mss_one (ms_ret me_bl)) mss_nil))))))))))))))))))))))))))
    (mss_one (ms_ret (me_call0F gx M__law_plain (by decide) T.f__law_plain))))
end
end K
namespace K
open PySem PySem.Spec PyProof.Rows L2 Mir
def d_Leases_init0 : He.DefD := ⟨("Leases", some "__init__"), "__init__", "Leases.__init__", defArgs s_Leases_init0, defBody s_Leases_init0, defScope s_Leases_init0, [], []⟩
def d_Leases_ask : He.DefD := ⟨("Leases", some "ask"), "ask", "Leases.ask", defArgs s_Leases_ask, defBody s_Leases_ask, defScope s_Leases_ask, [], []⟩
def d_Leases_free : He.DefD := ⟨("Leases", some "free"), "free", "Leases.free", defArgs s_Leases_free, defBody s_Leases_free, defScope s_Leases_free, [], []⟩
def d_Leases_may_act : He.DefD := ⟨("Leases", some "may_act"), "may_act", "Leases.may_act", defArgs s_Leases_may_act, defBody s_Leases_may_act, defScope s_Leases_may_act, [], []⟩
def d_Leases_who_holds : He.DefD := ⟨("Leases", some "who_holds"), "who_holds", "Leases.who_holds", defArgs s_Leases_who_holds, defBody s_Leases_who_holds, defScope s_Leases_who_holds, [], []⟩
def d_Gate_init0 : He.DefD := ⟨("Gate", some "__init__"), "__init__", "Gate.__init__", defArgs s_Gate_init0, defBody s_Gate_init0, defScope s_Gate_init0, [], []⟩
def d_Gate_act : He.DefD := ⟨("Gate", some "act"), "act", "Gate.act", defArgs s_Gate_act, defBody s_Gate_act, defScope s_Gate_act, [], []⟩
def d_set_right : He.DefD := ⟨("set_right", none), "set_right", "set_right", defArgs s_set_right, defBody s_set_right, defScope s_set_right, [], []⟩
def d_best_set : He.DefD := ⟨("best_set", none), "best_set", "best_set", defArgs s_best_set, defBody s_best_set, defScope s_best_set, [], []⟩
def d_least_of : He.DefD := ⟨("least_of", none), "least_of", "least_of", defArgs s_least_of, defBody s_least_of, defScope s_least_of, [], []⟩
def d_agreed_span : He.DefD := ⟨("agreed_span", none), "agreed_span", "agreed_span", defArgs s_agreed_span, defBody s_agreed_span, defScope s_agreed_span, [], []⟩
def d_how_many_at : He.DefD := ⟨("how_many_at", none), "how_many_at", "how_many_at", defArgs s_how_many_at, defBody s_how_many_at, defScope s_how_many_at, [], []⟩
def d_spots_of : He.DefD := ⟨("spots_of", none), "spots_of", "spots_of", defArgs s_spots_of, defBody s_spots_of, defScope s_spots_of, [], []⟩
def d_middle_of : He.DefD := ⟨("middle_of", none), "middle_of", "middle_of", defArgs s_middle_of, defBody s_middle_of, defScope s_middle_of, [], []⟩
def d_Marked_init0 : He.DefD := ⟨("Marked", some "__init__"), "__init__", "Marked.__init__", defArgs s_Marked_init0, defBody s_Marked_init0, defScope s_Marked_init0, [], []⟩
def d_Marked_next_mark : He.DefD := ⟨("Marked", some "next_mark"), "next_mark", "Marked.next_mark", defArgs s_Marked_next_mark, defBody s_Marked_next_mark, defScope s_Marked_next_mark, [], []⟩
def d_Marked_hear : He.DefD := ⟨("Marked", some "hear"), "hear", "Marked.hear", defArgs s_Marked_hear, defBody s_Marked_hear, defScope s_Marked_hear, [], []⟩
def d_wait_out : He.DefD := ⟨("wait_out", none), "wait_out", "wait_out", defArgs s_wait_out, defBody s_wait_out, defScope s_wait_out, [], []⟩
def d__law_dice : He.DefD := ⟨("_law_dice", none), "_law_dice", "_law_dice", defArgs s__law_dice, defBody s__law_dice, defScope s__law_dice, [], []⟩
def d__law_roll : He.DefD := ⟨("_law_roll", none), "_law_roll", "_law_roll", defArgs s__law_roll, defBody s__law_roll, defScope s__law_roll, [], []⟩
def d__law_rounds : He.DefD := ⟨("_law_rounds", none), "_law_rounds", "_law_rounds", defArgs s__law_rounds, defBody s__law_rounds, defScope s__law_rounds, [], []⟩
def d__law_deed : He.DefD := ⟨("_law_deed", none), "_law_deed", "_law_deed", defArgs s__law_deed, defBody s__law_deed, defScope s__law_deed, [], []⟩
def d__law_safe : He.DefD := ⟨("_law_safe", none), "_law_safe", "_law_safe", defArgs s__law_safe, defBody s__law_safe, defScope s__law_safe, [], []⟩
def d__law_spans : He.DefD := ⟨("_law_spans", none), "_law_spans", "_law_spans", defArgs s__law_spans, defBody s__law_spans, defScope s__law_spans, [], []⟩
def d__law_marks : He.DefD := ⟨("_law_marks", none), "_law_marks", "_law_marks", defArgs s__law_marks, defBody s__law_marks, defScope s__law_marks, [], []⟩
def d__law_plain : He.DefD := ⟨("_law_plain", none), "_law_plain", "_law_plain", defArgs s__law_plain, defBody s__law_plain, defScope s__law_plain, [], []⟩
def d_law : He.DefD := ⟨("law", none), "law", "law", defArgs s_law, defBody s_law, defScope s_law, [], []⟩
def d__law_told : He.DefD := ⟨("_law_told", none), "_law_told", "_law_told", defArgs s__law_told, defBody s__law_told, defScope s__law_told, [], []⟩
def hfa : List He.Fa := (.glo "set_right" :: .glo "best_set" :: .glo "least_of" :: .glo "agreed_span" :: .glo "how_many_at" :: .glo "spots_of" :: .glo "middle_of" :: .glo "wait_out" :: .glo "_law_dice" :: .glo "_law_roll" :: .glo "_law_rounds" :: .glo "_law_told" :: .glo "_law_deed" :: .glo "_law_safe" :: .glo "_law_spans" :: .glo "_law_marks" :: .glo "_law_plain" :: .glo "law" :: .glo "Leases" :: .cls "Leases" :: .mkr "Leases" :: .noat "Leases" "long" :: .noat "Leases" "drift" :: .noat "Leases" "rows" :: .noat "Leases" "many" :: .meth "Leases" "ask" :: .meth "Leases" "free" :: .meth "Leases" "may_act" :: .meth "Leases" "who_holds" :: .glo "Gate" :: .cls "Gate" :: .mkr "Gate" :: .noat "Gate" "seen" :: .noat "Gate" "taken" :: .meth "Gate" "act" :: .glo "Marked" :: .cls "Marked" :: .mkr "Marked" :: .noat "Marked" "mark" :: .meth "Marked" "next_mark" :: .meth "Marked" "hear" :: .exc "SyncFault" :: .glo "SyncFault" :: .exc "LeaseError" :: .glo "LeaseError" :: .exm "LeaseError" "LeaseError" true :: .free "abs" :: .free "any" :: .free "dict" :: .free "enumerate" :: .free "int" :: .free "len" :: .free "list" :: .free "max" :: .free "min" :: .free "range" :: .free "sorted" :: .free "tuple" :: [] : List He.Fa)
def hfn : List He.DefD := (d_Leases_init0 :: d_Leases_ask :: d_Leases_free :: d_Leases_may_act :: d_Leases_who_holds :: d_Gate_init0 :: d_Gate_act :: d_set_right :: d_best_set :: d_least_of :: d_agreed_span :: d_how_many_at :: d_spots_of :: d_middle_of :: d_Marked_init0 :: d_Marked_next_mark :: d_Marked_hear :: d_wait_out :: d__law_dice :: d__law_roll :: d__law_rounds :: d__law_deed :: d__law_safe :: d__law_spans :: d__law_marks :: d__law_plain :: d_law :: d__law_told :: [] : List He.DefD)
def htf : List He.Defn := ((("agreed_span", none) : He.Defn) :: (("_law_deed", none) : He.Defn) :: (("_law_plain", none) : He.Defn) :: [] : List He.Defn)
def hex (K : PySem.W.Frag) : Bool := decide ((htf.map fun p => (He.cT K p).2).Nodup)
def adOf (K : PySem.W.Frag) : Ad where
  f_Leases_init0 := He.fAd K ("Leases", some "__init__")
  f_Leases_ask := He.fAd K ("Leases", some "ask")
  f_Leases_free := He.fAd K ("Leases", some "free")
  f_Leases_may_act := He.fAd K ("Leases", some "may_act")
  f_Leases_who_holds := He.fAd K ("Leases", some "who_holds")
  f_Gate_init0 := He.fAd K ("Gate", some "__init__")
  f_Gate_act := He.fAd K ("Gate", some "act")
  f_set_right := He.fAd K ("set_right", none)
  f_best_set := He.fAd K ("best_set", none)
  f_least_of := He.fAd K ("least_of", none)
  f_agreed_span := He.fAd K ("agreed_span", none)
  f_how_many_at := He.fAd K ("how_many_at", none)
  f_spots_of := He.fAd K ("spots_of", none)
  f_middle_of := He.fAd K ("middle_of", none)
  f_Marked_init0 := He.fAd K ("Marked", some "__init__")
  f_Marked_next_mark := He.fAd K ("Marked", some "next_mark")
  f_Marked_hear := He.fAd K ("Marked", some "hear")
  f_wait_out := He.fAd K ("wait_out", none)
  f__law_dice := He.fAd K ("_law_dice", none)
  f__law_roll := He.fAd K ("_law_roll", none)
  f__law_rounds := He.fAd K ("_law_rounds", none)
  f__law_told := He.fAd K ("_law_told", none)
  f__law_deed := He.fAd K ("_law_deed", none)
  f__law_safe := He.fAd K ("_law_safe", none)
  f__law_spans := He.fAd K ("_law_spans", none)
  f__law_marks := He.fAd K ("_law_marks", none)
  f__law_plain := He.fAd K ("_law_plain", none)
  f_law := He.fAd K ("law", none)
  g_Leases := He.ga K "Leases"
  g_Gate := He.ga K "Gate"
  g_Marked := He.ga K "Marked"
  g_SyncFault := He.ga K "SyncFault"
  g_LeaseError := He.ga K "LeaseError"
  p_agreed_span := (He.cT K ("agreed_span", none)).2
  q_agreed_span := (He.cT K ("agreed_span", none)).1
  p__law_deed := (He.cT K ("_law_deed", none)).2
  q__law_deed := (He.cT K ("_law_deed", none)).1
  p__law_plain := (He.cT K ("_law_plain", none)).2
  q__law_plain := (He.cT K ("_law_plain", none)).1
abbrev hk : PySem.W.Hook := He.hookX 5 hfa hfn [] htf hex
def ob (s : PySem.W.SharedT) : He.AlX := He.obsX 5 hfa hfn [] htf hex (HandSHeadRun.getT s)
theorem ob_eq (s : PySem.W.SharedT) : ob s = hk.obs s.abs := He.obsX_eq (HandSHeadRun.getT_eq s)
def hnames : List Str := (("SyncFault" : Str) :: ("LeaseError" : Str) :: ("Leases" : Str) :: ("Gate" : Str) :: ("set_right" : Str) :: ("best_set" : Str) :: ("least_of" : Str) :: ("agreed_span" : Str) :: ("how_many_at" : Str) :: ("spots_of" : Str) :: ("middle_of" : Str) :: ("Marked" : Str) :: ("wait_out" : Str) :: ("_law_dice" : Str) :: ("_law_roll" : Str) :: ("_law_rounds" : Str) :: ("_law_told" : Str) :: ("_law_deed" : Str) :: ("_law_safe" : Str) :: ("_law_spans" : Str) :: ("_law_marks" : Str) :: ("_law_plain" : Str) :: [] : List Str)
abbrev R : PySem.W.OpenRow := PySem.W.OpenLaw.row PySem.Challenge.rw_syncstack_k16_leases_and_clocks
theorem hrun (w : World) : HandSHeadRun.RunEq R (PySem.W.view R.prog [25]) hk ob 20000 hnames w := by
  intro os
  kernel_rfl
theorem txt {K : PySem.W.Frag} {h : Heap} {mg : Str → Option Value} {w : World} (X : K.In h) (G : h.Ns mainGlobals mg) (c : He.SaysX hfa hfn [] htf hex w h K) : Txt K mg (adOf K) where
  f_set_right := He.glo_ok X G (c.t.d.fact 0 (f := .glo "set_right") rfl)
  f_best_set := He.glo_ok X G (c.t.d.fact 1 (f := .glo "best_set") rfl)
  f_least_of := He.glo_ok X G (c.t.d.fact 2 (f := .glo "least_of") rfl)
  f_agreed_span := He.glo_ok X G (c.t.d.fact 3 (f := .glo "agreed_span") rfl)
  f_how_many_at := He.glo_ok X G (c.t.d.fact 4 (f := .glo "how_many_at") rfl)
  f_spots_of := He.glo_ok X G (c.t.d.fact 5 (f := .glo "spots_of") rfl)
  f_middle_of := He.glo_ok X G (c.t.d.fact 6 (f := .glo "middle_of") rfl)
  f_wait_out := He.glo_ok X G (c.t.d.fact 7 (f := .glo "wait_out") rfl)
  f__law_dice := He.glo_ok X G (c.t.d.fact 8 (f := .glo "_law_dice") rfl)
  f__law_roll := He.glo_ok X G (c.t.d.fact 9 (f := .glo "_law_roll") rfl)
  f__law_rounds := He.glo_ok X G (c.t.d.fact 10 (f := .glo "_law_rounds") rfl)
  f__law_told := He.glo_ok X G (c.t.d.fact 11 (f := .glo "_law_told") rfl)
  f__law_deed := He.glo_ok X G (c.t.d.fact 12 (f := .glo "_law_deed") rfl)
  f__law_safe := He.glo_ok X G (c.t.d.fact 13 (f := .glo "_law_safe") rfl)
  f__law_spans := He.glo_ok X G (c.t.d.fact 14 (f := .glo "_law_spans") rfl)
  f__law_marks := He.glo_ok X G (c.t.d.fact 15 (f := .glo "_law_marks") rfl)
  f__law_plain := He.glo_ok X G (c.t.d.fact 16 (f := .glo "_law_plain") rfl)
  f_law := He.glo_ok X G (c.t.d.fact 17 (f := .glo "law") rfl)
  g_Leases := He.glo_ok X G (c.t.d.fact 18 (f := .glo "Leases") rfl)
  c_Leases := He.cls_ok (c.t.d.fact 19 (f := .cls "Leases") rfl)
  mk_Leases := He.mkr_ok (c.t.d.fact 20 (f := .mkr "Leases") rfl)
  n_Leases_long := He.noat_ok (c.t.d.fact 21 (f := .noat "Leases" "long") rfl)
  n_Leases_drift := He.noat_ok (c.t.d.fact 22 (f := .noat "Leases" "drift") rfl)
  n_Leases_rows := He.noat_ok (c.t.d.fact 23 (f := .noat "Leases" "rows") rfl)
  n_Leases_many := He.noat_ok (c.t.d.fact 24 (f := .noat "Leases" "many") rfl)
  t_Leases_ask := He.meth_ok (c.t.d.fact 25 (f := .meth "Leases" "ask") rfl)
  t_Leases_free := He.meth_ok (c.t.d.fact 26 (f := .meth "Leases" "free") rfl)
  t_Leases_may_act := He.meth_ok (c.t.d.fact 27 (f := .meth "Leases" "may_act") rfl)
  t_Leases_who_holds := He.meth_ok (c.t.d.fact 28 (f := .meth "Leases" "who_holds") rfl)
  g_Gate := He.glo_ok X G (c.t.d.fact 29 (f := .glo "Gate") rfl)
  c_Gate := He.cls_ok (c.t.d.fact 30 (f := .cls "Gate") rfl)
  mk_Gate := He.mkr_ok (c.t.d.fact 31 (f := .mkr "Gate") rfl)
  n_Gate_seen := He.noat_ok (c.t.d.fact 32 (f := .noat "Gate" "seen") rfl)
  n_Gate_taken := He.noat_ok (c.t.d.fact 33 (f := .noat "Gate" "taken") rfl)
  t_Gate_act := He.meth_ok (c.t.d.fact 34 (f := .meth "Gate" "act") rfl)
  g_Marked := He.glo_ok X G (c.t.d.fact 35 (f := .glo "Marked") rfl)
  c_Marked := He.cls_ok (c.t.d.fact 36 (f := .cls "Marked") rfl)
  mk_Marked := He.mkr_ok (c.t.d.fact 37 (f := .mkr "Marked") rfl)
  n_Marked_mark := He.noat_ok (c.t.d.fact 38 (f := .noat "Marked" "mark") rfl)
  t_Marked_next_mark := He.meth_ok (c.t.d.fact 39 (f := .meth "Marked" "next_mark") rfl)
  t_Marked_hear := He.meth_ok (c.t.d.fact 40 (f := .meth "Marked" "hear") rfl)
  g_SyncFault := He.glo_ok X G (c.t.d.fact 42 (f := .glo "SyncFault") rfl)
  x_SyncFault := (He.exc_ok (c.t.d.fact 41 (f := .exc "SyncFault") rfl)).1
  k_SyncFault := (He.exc_ok (c.t.d.fact 41 (f := .exc "SyncFault") rfl)).2.1
  s_SyncFault := (He.exc_ok (c.t.d.fact 41 (f := .exc "SyncFault") rfl)).2.2.1
  y_SyncFault := (He.exc_ok (c.t.d.fact 41 (f := .exc "SyncFault") rfl)).2.2.2
  g_LeaseError := He.glo_ok X G (c.t.d.fact 44 (f := .glo "LeaseError") rfl)
  x_LeaseError := (He.exc_ok (c.t.d.fact 43 (f := .exc "LeaseError") rfl)).1
  k_LeaseError := (He.exc_ok (c.t.d.fact 43 (f := .exc "LeaseError") rfl)).2.1
  s_LeaseError := (He.exc_ok (c.t.d.fact 43 (f := .exc "LeaseError") rfl)).2.2.1
  y_LeaseError := (He.exc_ok (c.t.d.fact 43 (f := .exc "LeaseError") rfl)).2.2.2
  told := fun cn h => by
      simp only [List.mem_cons, List.not_mem_nil, or_false] at h
      subst h
      · exact He.exm_ok (c.t.d.fact 45 (f := .exm "LeaseError" "LeaseError" true) rfl)
  b_abs := He.free_ok X G (c.t.d.fact 46 (f := .free "abs") rfl)
  b_any := He.free_ok X G (c.t.d.fact 47 (f := .free "any") rfl)
  b_dict := He.free_ok X G (c.t.d.fact 48 (f := .free "dict") rfl)
  b_enumerate := He.free_ok X G (c.t.d.fact 49 (f := .free "enumerate") rfl)
  b_int := He.free_ok X G (c.t.d.fact 50 (f := .free "int") rfl)
  b_len := He.free_ok X G (c.t.d.fact 51 (f := .free "len") rfl)
  b_list := He.free_ok X G (c.t.d.fact 52 (f := .free "list") rfl)
  b_max := He.free_ok X G (c.t.d.fact 53 (f := .free "max") rfl)
  b_min := He.free_ok X G (c.t.d.fact 54 (f := .free "min") rfl)
  b_range := He.free_ok X G (c.t.d.fact 55 (f := .free "range") rfl)
  b_sorted := He.free_ok X G (c.t.d.fact 56 (f := .free "sorted") rfl)
  b_tuple := He.free_ok X G (c.t.d.fact 57 (f := .free "tuple") rfl)
theorem hg_of {K : PySem.W.Frag} {T : List (Addr × Str)} {tf : List He.Defn} (e : T.map (·.1) = tf.map fun p => (He.cT K p).2) : ∀ p ∈ T, ∃ c, (c, p.1) ∈ tf.map (He.cT K) := fun p hp => by
  have h : p.1 ∈ T.map (·.1) := List.mem_map_of_mem hp
  rw [e] at h
  obtain ⟨q, hq, e2⟩ := List.mem_map.mp h
  exact ⟨(He.cT K q).1, List.mem_map.mpr ⟨q, hq, by rw [← e2]⟩⟩
abbrev Plain : Prop := ∀ ns : List Int, ns.length ≤ 63 → (∀ z ∈ ns, Builtin.Int.intBits z ≤ 1048576) → ∃ S', m_law [.kst (ns.map AV.int)] [] = .ok (.bl true) S'
theorem ends {w : World} {K : PySem.W.Frag} {h : Heap} {mg : Str → Option Value} {fa : Addr} (X : K.In h) (G : h.Ns mainGlobals mg) (hlaw : mg "law" = some (.ref fa)) (c : He.SaysX hfa hfn [] htf hex w h K) (plain : Plain) : LamX.LawAtS PySem.Challenge.rw_syncstack_k16_leases_and_clocks w K (L2.CX (PySem.Challenge.rw_syncstack_k16_leases_and_clocks).prog w) 10 63 "script" mg fa h := by
  have T : Txt K mg (adOf K) := txt X G c
  have nd : ((tabsOf (adOf K)).map (·.1)).Nodup := of_decide_eq_true c.more
  obtain ⟨fd0, D0⟩ := c.t.d.def_ 0 (d := d_Leases_init0) rfl
  obtain ⟨fd1, D1⟩ := c.t.d.def_ 1 (d := d_Leases_ask) rfl
  obtain ⟨fd2, D2⟩ := c.t.d.def_ 2 (d := d_Leases_free) rfl
  obtain ⟨fd3, D3⟩ := c.t.d.def_ 3 (d := d_Leases_may_act) rfl
  obtain ⟨fd4, D4⟩ := c.t.d.def_ 4 (d := d_Leases_who_holds) rfl
  obtain ⟨fd5, D5⟩ := c.t.d.def_ 5 (d := d_Gate_init0) rfl
  obtain ⟨fd6, D6⟩ := c.t.d.def_ 6 (d := d_Gate_act) rfl
  obtain ⟨fd7, D7⟩ := c.t.d.def_ 7 (d := d_set_right) rfl
  obtain ⟨fd8, D8⟩ := c.t.d.def_ 8 (d := d_best_set) rfl
  obtain ⟨fd9, D9⟩ := c.t.d.def_ 9 (d := d_least_of) rfl
  obtain ⟨fd10, D10⟩ := c.t.d.def_ 10 (d := d_agreed_span) rfl
  obtain ⟨fd11, D11⟩ := c.t.d.def_ 11 (d := d_how_many_at) rfl
  obtain ⟨fd12, D12⟩ := c.t.d.def_ 12 (d := d_spots_of) rfl
  obtain ⟨fd13, D13⟩ := c.t.d.def_ 13 (d := d_middle_of) rfl
  obtain ⟨fd14, D14⟩ := c.t.d.def_ 14 (d := d_Marked_init0) rfl
  obtain ⟨fd15, D15⟩ := c.t.d.def_ 15 (d := d_Marked_next_mark) rfl
  obtain ⟨fd16, D16⟩ := c.t.d.def_ 16 (d := d_Marked_hear) rfl
  obtain ⟨fd17, D17⟩ := c.t.d.def_ 17 (d := d_wait_out) rfl
  obtain ⟨fd18, D18⟩ := c.t.d.def_ 18 (d := d__law_dice) rfl
  obtain ⟨fd19, D19⟩ := c.t.d.def_ 19 (d := d__law_roll) rfl
  obtain ⟨fd20, D20⟩ := c.t.d.def_ 20 (d := d__law_rounds) rfl
  obtain ⟨fd21, D21⟩ := c.t.d.def_ 21 (d := d__law_deed) rfl
  obtain ⟨fd22, D22⟩ := c.t.d.def_ 22 (d := d__law_safe) rfl
  obtain ⟨fd23, D23⟩ := c.t.d.def_ 23 (d := d__law_spans) rfl
  obtain ⟨fd24, D24⟩ := c.t.d.def_ 24 (d := d__law_marks) rfl
  obtain ⟨fd25, D25⟩ := c.t.d.def_ 25 (d := d__law_plain) rfl
  obtain ⟨fd26, D26⟩ := c.t.d.def_ 26 (d := d_law) rfl
  obtain ⟨fd27, D27⟩ := c.t.d.def_ 27 (d := d__law_told) rfl
  have e := hlaw.symm.trans T.f_law
  cases e
  refine law_at (cs := htf.map (He.cT K)) (fd := fd26) (m := m_law) (g := G0 (adOf K)) (List.forall_mem_map.mpr c.empty) (List.forall_mem_map.mpr c.out) (List.forall_mem_map.mpr fun p hp => PySem.W.codeHd_of_K X (c.hd p hp)) (fun s u => FunD.bindsA (ps := ["script"]) D26 (fun _ _ _ _ _ _ us hl => match us, hl with | [_], _ => rfl) s [u] rfl) (hg_of rfl) (fun base KB nB TB => ?_) plain
  have told : Told K (adOf K) fd27 := ⟨fun_ofD D27, (FunD.bindsN (ps := (("what" : Str) :: [] : List Str)) D27 fun _ _ _ _ _ _ us hl => match us, hl with | [_], _ => rfl)⟩
  have M_Leases_init0 : FnM (PySem.Challenge.rw_syncstack_k16_leases_and_clocks).prog w K mg base (G0 (adOf K)) 1 (adOf K).f_Leases_init0 (("self" : Str) :: ("long" : Str) :: ("drift" : Str) :: [] : List Str) m_Leases_init0 := ok_Leases_init0 T (fun_ofD D0) (FunD.bindsN (ps := (("self" : Str) :: ("long" : Str) :: ("drift" : Str) :: [] : List Str)) D0 fun _ _ _ _ _ _ us hl => match us, hl with | [_, _, _], _ => rfl)
  have M_Leases_ask : FnM (PySem.Challenge.rw_syncstack_k16_leases_and_clocks).prog w K mg base (G0 (adOf K)) 1 (adOf K).f_Leases_ask (("self" : Str) :: ("who" : Str) :: ("thing" : Str) :: ("now" : Str) :: [] : List Str) m_Leases_ask := ok_Leases_ask T (fun_ofD D1) (FunD.bindsN (ps := (("self" : Str) :: ("who" : Str) :: ("thing" : Str) :: ("now" : Str) :: [] : List Str)) D1 fun _ _ _ _ _ _ us hl => match us, hl with | [_, _, _, _], _ => rfl)
  have M_Leases_free : FnM (PySem.Challenge.rw_syncstack_k16_leases_and_clocks).prog w K mg base (G0 (adOf K)) 1 (adOf K).f_Leases_free (("self" : Str) :: ("who" : Str) :: ("thing" : Str) :: [] : List Str) m_Leases_free := ok_Leases_free T (fun_ofD D2) (FunD.bindsN (ps := (("self" : Str) :: ("who" : Str) :: ("thing" : Str) :: [] : List Str)) D2 fun _ _ _ _ _ _ us hl => match us, hl with | [_, _, _], _ => rfl)
  have M_Leases_may_act : FnM (PySem.Challenge.rw_syncstack_k16_leases_and_clocks).prog w K mg base (G0 (adOf K)) 1 (adOf K).f_Leases_may_act (("self" : Str) :: ("until" : Str) :: ("now" : Str) :: [] : List Str) m_Leases_may_act := ok_Leases_may_act T (fun_ofD D3) (FunD.bindsN (ps := (("self" : Str) :: ("until" : Str) :: ("now" : Str) :: [] : List Str)) D3 fun _ _ _ _ _ _ us hl => match us, hl with | [_, _, _], _ => rfl)
  have M_Leases_who_holds : FnM (PySem.Challenge.rw_syncstack_k16_leases_and_clocks).prog w K mg base (G0 (adOf K)) 1 (adOf K).f_Leases_who_holds (("self" : Str) :: ("now" : Str) :: [] : List Str) m_Leases_who_holds := ok_Leases_who_holds T (fun_ofD D4) (FunD.bindsN (ps := (("self" : Str) :: ("now" : Str) :: [] : List Str)) D4 fun _ _ _ _ _ _ us hl => match us, hl with | [_, _], _ => rfl)
  have M_Gate_init0 : FnM (PySem.Challenge.rw_syncstack_k16_leases_and_clocks).prog w K mg base (G0 (adOf K)) 1 (adOf K).f_Gate_init0 (("self" : Str) :: [] : List Str) m_Gate_init0 := ok_Gate_init0 T (fun_ofD D5) (FunD.bindsN (ps := (("self" : Str) :: [] : List Str)) D5 fun _ _ _ _ _ _ us hl => match us, hl with | [_], _ => rfl)
  have M_Gate_act : FnM (PySem.Challenge.rw_syncstack_k16_leases_and_clocks).prog w K mg base (G0 (adOf K)) 1 (adOf K).f_Gate_act (("self" : Str) :: ("number" : Str) :: ("what" : Str) :: [] : List Str) m_Gate_act := ok_Gate_act T (fun_ofD D6) (FunD.bindsN (ps := (("self" : Str) :: ("number" : Str) :: ("what" : Str) :: [] : List Str)) D6 fun _ _ _ _ _ _ us hl => match us, hl with | [_, _, _], _ => rfl)
  have M_set_right : FnM (PySem.Challenge.rw_syncstack_k16_leases_and_clocks).prog w K mg base (G0 (adOf K)) 1 (adOf K).f_set_right (("sent" : Str) :: ("taken" : Str) :: ("answered" : Str) :: ("come" : Str) :: [] : List Str) m_set_right := ok_set_right T (fun_ofD D7) (FunD.bindsN (ps := (("sent" : Str) :: ("taken" : Str) :: ("answered" : Str) :: ("come" : Str) :: [] : List Str)) D7 fun _ _ _ _ _ _ us hl => match us, hl with | [_, _, _, _], _ => rfl)
  have M_least_of : FnM (PySem.Challenge.rw_syncstack_k16_leases_and_clocks).prog w K mg base (G0 (adOf K)) 1 (adOf K).f_least_of (("rows" : Str) :: [] : List Str) m_least_of := ok_least_of T (fun_ofD D9) (FunD.bindsN (ps := (("rows" : Str) :: [] : List Str)) D9 fun _ _ _ _ _ _ us hl => match us, hl with | [_], _ => rfl)
  have M_how_many_at : FnM (PySem.Challenge.rw_syncstack_k16_leases_and_clocks).prog w K mg base (G0 (adOf K)) 1 (adOf K).f_how_many_at (("spans" : Str) :: ("spot" : Str) :: [] : List Str) m_how_many_at := ok_how_many_at T (fun_ofD D11) (FunD.bindsN (ps := (("spans" : Str) :: ("spot" : Str) :: [] : List Str)) D11 fun _ _ _ _ _ _ us hl => match us, hl with | [_, _], _ => rfl)
  have M_spots_of : FnM (PySem.Challenge.rw_syncstack_k16_leases_and_clocks).prog w K mg base (G0 (adOf K)) 1 (adOf K).f_spots_of (("spans" : Str) :: [] : List Str) m_spots_of := ok_spots_of T (fun_ofD D12) (FunD.bindsN (ps := (("spans" : Str) :: [] : List Str)) D12 fun _ _ _ _ _ _ us hl => match us, hl with | [_], _ => rfl)
  have M_middle_of : FnM (PySem.Challenge.rw_syncstack_k16_leases_and_clocks).prog w K mg base (G0 (adOf K)) 1 (adOf K).f_middle_of (("clocks" : Str) :: [] : List Str) m_middle_of := ok_middle_of T (fun_ofD D13) (FunD.bindsN (ps := (("clocks" : Str) :: [] : List Str)) D13 fun _ _ _ _ _ _ us hl => match us, hl with | [_], _ => rfl)
  have M_Marked_init0 : FnM (PySem.Challenge.rw_syncstack_k16_leases_and_clocks).prog w K mg base (G0 (adOf K)) 1 (adOf K).f_Marked_init0 (("self" : Str) :: [] : List Str) m_Marked_init0 := ok_Marked_init0 T (fun_ofD D14) (FunD.bindsN (ps := (("self" : Str) :: [] : List Str)) D14 fun _ _ _ _ _ _ us hl => match us, hl with | [_], _ => rfl)
  have M_Marked_next_mark : FnM (PySem.Challenge.rw_syncstack_k16_leases_and_clocks).prog w K mg base (G0 (adOf K)) 1 (adOf K).f_Marked_next_mark (("self" : Str) :: ("now" : Str) :: [] : List Str) m_Marked_next_mark := ok_Marked_next_mark T (fun_ofD D15) (FunD.bindsN (ps := (("self" : Str) :: ("now" : Str) :: [] : List Str)) D15 fun _ _ _ _ _ _ us hl => match us, hl with | [_, _], _ => rfl)
  have M_Marked_hear : FnM (PySem.Challenge.rw_syncstack_k16_leases_and_clocks).prog w K mg base (G0 (adOf K)) 1 (adOf K).f_Marked_hear (("self" : Str) :: ("other" : Str) :: ("now" : Str) :: [] : List Str) m_Marked_hear := ok_Marked_hear T (fun_ofD D16) (FunD.bindsN (ps := (("self" : Str) :: ("other" : Str) :: ("now" : Str) :: [] : List Str)) D16 fun _ _ _ _ _ _ us hl => match us, hl with | [_, _, _], _ => rfl)
  have M_wait_out : FnM (PySem.Challenge.rw_syncstack_k16_leases_and_clocks).prog w K mg base (G0 (adOf K)) 1 (adOf K).f_wait_out (("time" : Str) :: ("drift" : Str) :: ("now" : Str) :: [] : List Str) m_wait_out := ok_wait_out T (fun_ofD D17) (FunD.bindsN (ps := (("time" : Str) :: ("drift" : Str) :: ("now" : Str) :: [] : List Str)) D17 fun _ _ _ _ _ _ us hl => match us, hl with | [_, _, _], _ => rfl)
  have M__law_dice : FnM (PySem.Challenge.rw_syncstack_k16_leases_and_clocks).prog w K mg base (G0 (adOf K)) 1 (adOf K).f__law_dice (("cell" : Str) :: [] : List Str) m__law_dice := ok__law_dice T (fun_ofD D18) (FunD.bindsN (ps := (("cell" : Str) :: [] : List Str)) D18 fun _ _ _ _ _ _ us hl => match us, hl with | [_], _ => rfl)
  have M__law_spans : FnM (PySem.Challenge.rw_syncstack_k16_leases_and_clocks).prog w K mg base (G0 (adOf K)) 1 (adOf K).f__law_spans (("spans" : Str) :: ("wrong" : Str) :: [] : List Str) m__law_spans := ok__law_spans T (fun_ofD D23) (FunD.bindsN (ps := (("spans" : Str) :: ("wrong" : Str) :: [] : List Str)) D23 fun _ _ _ _ _ _ us hl => match us, hl with | [_, _], _ => rfl)
  have M_best_set : FnM (PySem.Challenge.rw_syncstack_k16_leases_and_clocks).prog w K mg base (G0 (adOf K)) 2 (adOf K).f_best_set (("rows" : Str) :: [] : List Str) m_best_set := ok_best_set T (fun_ofD D8) (FunD.bindsN (ps := (("rows" : Str) :: [] : List Str)) D8 fun _ _ _ _ _ _ us hl => match us, hl with | [_], _ => rfl) M_set_right M_least_of
  have M__law_roll : FnM (PySem.Challenge.rw_syncstack_k16_leases_and_clocks).prog w K mg base (G0 (adOf K)) 2 (adOf K).f__law_roll (("dice" : Str) :: ("many" : Str) :: [] : List Str) m__law_roll := ok__law_roll T (fun_ofD D19) (FunD.bindsN (ps := (("dice" : Str) :: ("many" : Str) :: [] : List Str)) D19 fun _ _ _ _ _ _ us hl => match us, hl with | [_, _], _ => rfl)
  have M__law_rounds : FnM (PySem.Challenge.rw_syncstack_k16_leases_and_clocks).prog w K mg base (G0 (adOf K)) 2 (adOf K).f__law_rounds (("script" : Str) :: ("most" : Str) :: [] : List Str) m__law_rounds := ok__law_rounds T (fun_ofD D20) (FunD.bindsN (ps := (("script" : Str) :: ("most" : Str) :: [] : List Str)) D20 fun _ _ _ _ _ _ us hl => match us, hl with | [_, _], _ => rfl) M__law_dice
  have M__law_safe : FnM (PySem.Challenge.rw_syncstack_k16_leases_and_clocks).prog w K mg base (G0 (adOf K)) 2 (adOf K).f__law_safe (("own" : Str) :: ("leases" : Str) :: ("now" : Str) :: ("drift" : Str) :: [] : List Str) m__law_safe := ok__law_safe T (fun_ofD D22) (FunD.bindsN (ps := (("own" : Str) :: ("leases" : Str) :: ("now" : Str) :: ("drift" : Str) :: [] : List Str)) D22 fun _ _ _ _ _ _ us hl => match us, hl with | [_, _, _, _], _ => rfl) M_Leases_may_act
  have M__law_marks : FnM (PySem.Challenge.rw_syncstack_k16_leases_and_clocks).prog w K mg base (G0 (adOf K)) 3 (adOf K).f__law_marks (("dice" : Str) :: [] : List Str) m__law_marks := ok__law_marks T (fun_ofD D24) (FunD.bindsN (ps := (("dice" : Str) :: [] : List Str)) D24 fun _ _ _ _ _ _ us hl => match us, hl with | [_], _ => rfl) M_Marked_init0 M__law_roll M_Marked_hear M_Marked_next_mark
  have M_agreed_span : FnM (PySem.Challenge.rw_syncstack_k16_leases_and_clocks).prog w K mg base (G0 (adOf K)) 5 (adOf K).f_agreed_span (("spans" : Str) :: ("wrong" : Str) :: [] : List Str) m_agreed_span := ok_agreed_span T told (funC_ofD (p := ("agreed_span", none)) D10) (FunD.bindsN (ps := (("spans" : Str) :: ("wrong" : Str) :: [] : List Str)) D10 fun _ _ _ _ _ _ us hl => match us, hl with | [_, _], _ => rfl) (TB _ (List.mem_map_of_mem (List.mem_of_getElem? (i := 0) rfl))) (List.mem_of_getElem? (i := 0) rfl) (tabs_uniq nd (List.mem_of_getElem? (i := 0) rfl)) M_spots_of M_how_many_at
  have M__law_deed : FnM (PySem.Challenge.rw_syncstack_k16_leases_and_clocks).prog w K mg base (G0 (adOf K)) 6 (adOf K).f__law_deed (("dice" : Str) :: ("leases" : Str) :: ("own" : Str) :: [] : List Str) m__law_deed := ok__law_deed T told (funC_ofD (p := ("_law_deed", none)) D21) (FunD.bindsN (ps := (("dice" : Str) :: ("leases" : Str) :: ("own" : Str) :: [] : List Str)) D21 fun _ _ _ _ _ _ us hl => match us, hl with | [_, _, _], _ => rfl) (TB _ (List.mem_map_of_mem (List.mem_of_getElem? (i := 1) rfl))) (List.mem_of_getElem? (i := 1) rfl) (tabs_uniq nd (List.mem_of_getElem? (i := 1) rfl)) M__law_roll M_Leases_free M_Leases_ask
  have M__law_plain : FnM (PySem.Challenge.rw_syncstack_k16_leases_and_clocks).prog w K mg base (G0 (adOf K)) 9 (adOf K).f__law_plain ([] : List Str) m__law_plain := ok__law_plain T told (funC_ofD (p := ("_law_plain", none)) D25) (FunD.bindsN (ps := ([] : List Str)) D25 fun _ _ _ _ _ _ us hl => match us, hl with | [], _ => rfl) (TB _ (List.mem_map_of_mem (List.mem_of_getElem? (i := 2) rfl))) (List.mem_of_getElem? (i := 2) rfl) (tabs_uniq nd (List.mem_of_getElem? (i := 2) rfl)) M_Leases_init0 M_Gate_init0 M_Marked_init0 M_Marked_next_mark M_Marked_hear M_Gate_act M_Leases_may_act M_Leases_who_holds M_Leases_ask M_Leases_free M_set_right M_best_set M_agreed_span M_middle_of M_wait_out
  exact ok_law T (fun_ofD D26) (FunD.bindsN (ps := (("script" : Str) :: [] : List Str)) D26 fun _ _ _ _ _ _ us hl => match us, hl with | [_], _ => rfl) M__law_rounds M__law_roll M_Leases_init0 M__law_deed M_Leases_who_holds M__law_safe M_Gate_init0 M_Gate_act M_set_right M_best_set M_least_of M__law_spans M_agreed_span M_middle_of M_spots_of M_how_many_at M__law_marks M_wait_out M__law_plain
end K
open PySem PySem.W PySem.Calls PyProof.Rows in
theorem holds_of (plain : K.Plain) : PySem.Challenge.rw_syncstack_k16_leases_and_clocks.Holds := by
  w_on; o_law
  refine HandSHeadRun.head_any (r := OpenLaw.row PySem.Challenge.rw_syncstack_k16_leases_and_clocks) (q := view (OpenLaw.row PySem.Challenge.rw_syncstack_k16_leases_and_clocks).prog [25]) (H := K.hk) (ob := K.ob) (M := 20000) (loose := K.hnames) (d := HandSHeadRun.topDef (OpenLaw.row PySem.Challenge.rw_syncstack_k16_leases_and_clocks).prog 25) (kwd := []) K.ob_eq
    (by kernel_rfl) (fun s => by kernel_rfl) K.hrun (by kernel_rfl) (by kernel_rfl) (by kernel_rfl) (by rfl) (by first | assumption | decide +kernel) (by decide +kernel) ⟨rfl, rfl, rfl, rfl, rfl, by decide +kernel⟩ ?hw ?hc
  case hw => w_witness2
  case hc =>
    refine LamX.walk_ofTsE (l := PySem.Challenge.rw_syncstack_k16_leases_and_clocks) (n := 63) (k := 10) (x := "script") (CX := fun w => L2.CX (PySem.Challenge.rw_syncstack_k16_leases_and_clocks).prog w) rfl (by decide) (by kernel_rfl) ⟨rfl, by decide, by decide⟩ ?F (fun _ _ _ _ _ z => Mir.cx_end z)
    intro w mg fa h Y G hmg0
    obtain ⟨K0, KX, c⟩ := Y
    have hmg : mg ("law" : PySem.Str) = some (.ref fa) := by
      have e : (HandSHeadRun.topDef (OpenLaw.row PySem.Challenge.rw_syncstack_k16_leases_and_clocks).prog 25).name = ("law" : PySem.Str) := by kernel_rfl
      rw [← e]
      exact hmg0
    exact ⟨K0, KX, K.ends KX G hmg c plain⟩
end

section
set_option Elab.async false
set_option linter.all false
set_option maxRecDepth 100000
set_option maxHeartbeats 2000000
namespace K
open PySem PySem.Spec PyProof.Rows L2 Mir
local macro_rules | `(tactic| walk_at "lk") => `(tactic| first
  | with_unfolding_all rfl
  | assumption
  | (with_reducible apply get_ne; (· decide); walk_at "lk")
  | (with_reducible apply get_neN; (· decide); walk_at "lk")
  | (with_reducible apply get_eq; (try simp only [List.length_set]); omega)
  | (simp only [putA, wipeA, List.foldl, List.cons_append, List.nil_append]; walk_at "lk"))
local macro_rules | `(tactic| walk_at "ws") => `(tactic| first
  | with_reducible refine s_seq ?_
  | with_reducible refine s_asg ?_
  | with_reducible refine w_op ?_
  | (with_reducible refine' w_var ?e ?q; (case e => walk_at "lk"))
  | with_reducible refine w_c ?_
  | with_reducible refine g_name ?_
  | with_reducible refine g_pat1 ?_
  | with_reducible refine g_pat2 ?_
  | with_reducible refine g_pat3 ?_
  | with_reducible refine g_pat4 ?_
  | with_reducible refine g_pat5 ?_
  | (with_reducible refine' g_pat ?e ?q; (case e => with_unfolding_all rfl))
  | with_reducible refine g_sub ?_
  | with_reducible refine w_cons ?_
  | with_reducible refine w_nil ?_
  | with_reducible refine w_un ?_
  | with_reducible refine w_val ?_
  | with_reducible refine w_call ?_
  | with_reducible refine w_not ?_
  | with_reducible refine w_tru ?_
  | with_reducible refine w_tup ?_
  | with_reducible refine w_lstF ?_
  | with_reducible refine w_lstR ?_
  | with_reducible refine s_ret ?_
  | with_reducible refine s_next ?_
  | with_reducible refine s_drop ?_
  | with_reducible refine w_meth ?_
  | with_reducible refine w_attr ?_
  | with_reducible refine w_bm ?_
  | with_reducible refine w_sl ?_
  | with_reducible refine w_oN ?_
  | with_reducible refine w_oS ?_
  | with_reducible refine s_attr ?_
  | with_reducible refine s_attrA ?_
  | with_reducible refine s_del ?_
  | with_reducible refine s_par2 ?_
  | with_reducible refine s_par3 ?_
  | with_reducible refine s_par ?_
  | with_reducible refine w_dct0 ?_
  | with_reducible refine w_dctP ?_
  | with_reducible refine w_pC ?_
  | with_reducible refine w_pN ?_
  | with_reducible refine w_chain ?_
  | with_reducible refine w_yes ?_
  | with_reducible refine w_addI ?_
  | with_reducible refine w_subI ?_
  | with_reducible refine w_iaddI ?_
  | with_reducible refine w_negI ?_
  | with_reducible refine w_intI ?_
  | with_reducible refine w_intB ?_
  | with_reducible refine w_lt ?_
  | with_reducible refine w_le ?_
  | with_reducible refine w_gt ?_
  | with_reducible refine w_ge ?_
  | with_reducible refine w_eqI ?_
  | with_reducible refine w_neI ?_
  | with_reducible refine w_eqS ?_
  | with_reducible refine w_neS ?_
  | with_reducible refine w_notB ?_
  | with_reducible refine w_eqB ?_
  | with_reducible refine w_neB ?_
  | with_reducible refine w_neP ?_
  | with_reducible refine w_eqP ?_
  | with_reducible refine w_nePI ?_
  | (with_reducible refine' w_is (r := opIx _ _ _) ?e ?q; (case e => with_unfolding_all rfl))
  | (with_reducible refine' w_is (r := opAdd _ _ _) ?e ?q; (case e => with_unfolding_all rfl))
  | with_reducible refine w_sl32 ?_
  | with_reducible refine w_sl31 ?_
  | (with_reducible refine' w_is (r := opSl _ _ _ _) ?e ?q; (case e => with_unfolding_all rfl))
  | (with_reducible refine' w_is (r := fLen _ _) ?e ?q; (case e => with_unfolding_all rfl))
  | (with_reducible refine' w_is (r := fAbs _ _) ?e ?q; (case e => with_unfolding_all rfl))
  | (with_reducible refine' w_is (r := fTuple _ _) ?e ?q; (case e => with_unfolding_all rfl))
  | (with_reducible refine' w_is (r := opIsN _ _ _) ?e ?q; (case e => with_unfolding_all rfl))
  | (with_reducible refine' w_is (r := opNotN _ _ _) ?e ?q; (case e => with_unfolding_all rfl))
  | refine ⟨Nat.le_of_ble_eq_true rfl, ?_⟩
  | refine ⟨_, rfl, ?_⟩
  | refine ⟨rfl, ?_⟩
  | refine ⟨_, _, rfl, rfl, ?_⟩
  | refine ⟨_, _, _, _, rfl, rfl, rfl, ?_⟩
  | refine ⟨_, _, rfl, rfl, of_decide_eq_true rfl, ?_⟩
  | refine ⟨_, rfl, of_decide_eq_true rfl, ?_⟩
  | refine ⟨_, _, _, rfl, rfl, rfl, ?_⟩
  | refine ⟨_, _, rfl, ?_⟩
  | refine ⟨_, _, _, rfl, ?_⟩)
abbrev D (a b c : Int) : Cell := .lst [.int a, .int b, .int c]
theorem roll (a b c n : Int) (T : Store) (h0 : 0 < n) (h1 : n ≤ 100000000) : RP (m__law_roll [.ref 0, .int n] (D a b c :: T)) (fun v S' => ∃ r a' b' c', v = .int r ∧ 0 ≤ r ∧ r < n ∧ S' = D a' b' c' :: T) noX := by
  have hm : ∀ x : Int, 0 ≤ x % n ∧ x % n < n := fun x => ⟨Int.emod_nonneg _ (by omega), Int.emod_lt_of_pos _ h0⟩
  unfold m__law_roll b__law_roll
  refine w_fdef rfl ?_
  refine s_seq (s_if (RP.mono (Q := fun _ S1 => S1 = D a b c :: T) ?_ fun k S1 e => ?_))
  · refine w_or ?_
    repeat walk_at "ws"
    refine ⟨fun _ => rfl, fun _ => w_and ?_⟩
    repeat walk_at "ws"
    refine ⟨fun _ => ?_, fun _ => rfl⟩
    repeat walk_at "ws"
    rfl
  · subst e
    refine ⟨fun _ => ?_, fun _ => ?_⟩
    · repeat walk_at "ws"
      refine w_mod h0 ?_
      repeat walk_at "ws"
      refine w_div h0 (by omega) ?_
      repeat walk_at "ws"
      exact ⟨_, _, _, _, rfl, (hm _).1, (hm _).2, rfl⟩
    · repeat walk_at "ws"
      refine s_ifF ?_
      repeat walk_at "ws"
      refine ⟨decide_eq_false (by omega), ?_⟩
      repeat walk_at "ws"
      refine w_mul (mulR (by omega)) ?_
      repeat walk_at "ws"
      refine w_mul (mulR (by omega)) ?_
      repeat walk_at "ws"
      refine w_mod (by omega) ?_
      repeat walk_at "ws"
      refine w_div (by omega) (by omega) ?_
      repeat walk_at "ws"
      refine w_mod h0 ?_
      exact ⟨_, _, _, _, rfl, (hm _).1, (hm _).2, rfl⟩
end K
end

section
set_option Elab.async false
set_option linter.all false
set_option maxRecDepth 100000
set_option maxHeartbeats 2000000
namespace K
open PySem PySem.Spec PyProof.Rows L2 Mir
local macro_rules | `(tactic| walk_at "lk") => `(tactic| first
  | with_unfolding_all rfl
  | assumption
  | (with_reducible apply get_ne; (· decide); walk_at "lk")
  | (with_reducible apply get_neN; (· decide); walk_at "lk")
  | (with_reducible apply get_eq; (try simp only [List.length_set]); omega)
  | (simp only [putA, wipeA, List.foldl, List.cons_append, List.nil_append]; walk_at "lk"))
local macro_rules | `(tactic| walk_at "ws") => `(tactic| first
  | with_reducible refine s_seq ?_
  | with_reducible refine s_asg ?_
  | with_reducible refine w_op ?_
  | (with_reducible refine' w_var ?e ?q; (case e => walk_at "lk"))
  | with_reducible refine w_c ?_
  | with_reducible refine g_name ?_
  | with_reducible refine g_pat1 ?_
  | with_reducible refine g_pat2 ?_
  | with_reducible refine g_pat3 ?_
  | with_reducible refine g_pat4 ?_
  | with_reducible refine g_pat5 ?_
  | (with_reducible refine' g_pat ?e ?q; (case e => with_unfolding_all rfl))
  | with_reducible refine g_sub ?_
  | with_reducible refine w_cons ?_
  | with_reducible refine w_nil ?_
  | with_reducible refine w_un ?_
  | with_reducible refine w_val ?_
  | with_reducible refine w_call ?_
  | with_reducible refine w_not ?_
  | with_reducible refine w_tru ?_
  | with_reducible refine w_tup ?_
  | with_reducible refine w_lstF ?_
  | with_reducible refine w_lstR ?_
  | with_reducible refine s_ret ?_
  | with_reducible refine s_next ?_
  | with_reducible refine s_drop ?_
  | with_reducible refine w_meth ?_
  | with_reducible refine w_attr ?_
  | with_reducible refine w_bm ?_
  | with_reducible refine w_sl ?_
  | with_reducible refine w_oN ?_
  | with_reducible refine w_oS ?_
  | with_reducible refine s_attr ?_
  | with_reducible refine s_attrA ?_
  | with_reducible refine s_del ?_
  | with_reducible refine s_par2 ?_
  | with_reducible refine s_par3 ?_
  | with_reducible refine s_par ?_
  | with_reducible refine w_dct0 ?_
  | with_reducible refine w_dctP ?_
  | with_reducible refine w_pC ?_
  | with_reducible refine w_pN ?_
  | with_reducible refine w_chain ?_
  | with_reducible refine w_yes ?_
  | with_reducible refine w_addI ?_
  | with_reducible refine w_subI ?_
  | with_reducible refine w_iaddI ?_
  | with_reducible refine w_negI ?_
  | with_reducible refine w_intI ?_
  | with_reducible refine w_intB ?_
  | with_reducible refine w_lt ?_
  | with_reducible refine w_le ?_
  | with_reducible refine w_gt ?_
  | with_reducible refine w_ge ?_
  | with_reducible refine w_eqI ?_
  | with_reducible refine w_neI ?_
  | with_reducible refine w_eqS ?_
  | with_reducible refine w_neS ?_
  | with_reducible refine w_notB ?_
  | with_reducible refine w_eqB ?_
  | with_reducible refine w_neB ?_
  | with_reducible refine w_neP ?_
  | with_reducible refine w_eqP ?_
  | with_reducible refine w_nePI ?_
  | (with_reducible refine' w_is (r := opIx _ _ _) ?e ?q; (case e => with_unfolding_all rfl))
  | (with_reducible refine' w_is (r := opAdd _ _ _) ?e ?q; (case e => with_unfolding_all rfl))
  | with_reducible refine w_sl32 ?_
  | with_reducible refine w_sl31 ?_
  | (with_reducible refine' w_is (r := opSl _ _ _ _) ?e ?q; (case e => with_unfolding_all rfl))
  | (with_reducible refine' w_is (r := fLen _ _) ?e ?q; (case e => with_unfolding_all rfl))
  | (with_reducible refine' w_is (r := fAbs _ _) ?e ?q; (case e => with_unfolding_all rfl))
  | (with_reducible refine' w_is (r := fTuple _ _) ?e ?q; (case e => with_unfolding_all rfl))
  | (with_reducible refine' w_is (r := opIsN _ _ _) ?e ?q; (case e => with_unfolding_all rfl))
  | (with_reducible refine' w_is (r := opNotN _ _ _) ?e ?q; (case e => with_unfolding_all rfl))
  | refine ⟨Nat.le_of_ble_eq_true rfl, ?_⟩
  | refine ⟨_, rfl, ?_⟩
  | refine ⟨rfl, ?_⟩
  | refine ⟨_, _, rfl, rfl, ?_⟩
  | refine ⟨_, _, _, _, rfl, rfl, rfl, ?_⟩
  | refine ⟨_, _, rfl, rfl, of_decide_eq_true rfl, ?_⟩
  | refine ⟨_, rfl, of_decide_eq_true rfl, ?_⟩
  | refine ⟨_, _, _, rfl, rfl, rfl, ?_⟩
  | refine ⟨_, _, rfl, ?_⟩
  | refine ⟨_, _, _, rfl, ?_⟩)
/-! rows: thing, who, until, number -/
abbrev Row := Nat × Nat × Int × Int
abbrev rv (r : Row) : AV := .tup [.str [r.2.1], .int r.2.2.1, .int r.2.2.2]
abbrev kv (r : Row) : DK × AV := (.a (.s [r.1]), rv r)
def look (t : Nat) : List Row → Option Row
  | [] => none
  | r :: L => if r.1 = t then some r else look t L
def put (r : Row) (L : List Row) : List Row := if (look r.1 L).isSome = true then L.map (fun q => if q.1 = r.1 then r else q) else L ++ [r]
def drop (t : Nat) (L : List Row) : List Row := L.filter fun r => decide (r.1 ≠ t)
theorem look_cons (t : Nat) (r : Row) (L : List Row) : look t (r :: L) = if r.1 = t then some r else look t L := rfl
theorem key_eq {s t : Nat} : (DK.a (.s [s]) = DK.a (.s [t])) = (s = t) := by simp
theorem dlook_kv {t : Nat} : ∀ L : List Row, dlook (.a (.s [t])) (L.map kv) = (look t L).map rv
  | [] => rfl
  | r :: L => by
    show (if DK.a (.s [r.1]) = DK.a (.s [t]) then some (rv r) else dlook (.a (.s [t])) (L.map kv)) = _
    rw [dlook_kv L, look_cons]
    by_cases h : r.1 = t
    · rw [if_pos (by rw [h]), if_pos h]; rfl
    · rw [if_neg (by simpa using h), if_neg h]
theorem fits_kv {k : AK} : ∀ L : List Row, fits (.a k) (L.map kv) = true
  | [] => rfl
  | r :: L => by
    show (true && fits (.a k) (L.map kv)) = true
    rw [fits_kv L]; rfl
theorem any_kv {t : Nat} : ∀ L : List Row, ((L.map kv).any fun p => decide (p.1 = DK.a (.s [t]))) = (look t L).isSome
  | [] => rfl
  | r :: L => by
    rw [List.map_cons, List.any_cons, any_kv L, look_cons]
    by_cases h : r.1 = t
    · rw [if_pos h]; simp [kv, h]
    · rw [if_neg h]; simp [kv, h]
theorem dput_kv {r : Row} {L : List Row} : dput (.a (.s [r.1])) (rv r) (L.map kv) = (put r L).map kv := by
  unfold dput put
  rw [any_kv]
  by_cases h : (look r.1 L).isSome = true
  · rw [if_pos h, if_pos h, List.map_map, List.map_map]
    refine List.map_congr_left fun q _ => ?_
    show (if DK.a (.s [q.1]) = DK.a (.s [r.1]) then (DK.a (.s [q.1]), rv r) else kv q) = kv (if q.1 = r.1 then r else q)
    by_cases hq : q.1 = r.1
    · rw [if_pos (by rw [hq]), if_pos hq, hq]
    · rw [if_neg (by simpa using hq), if_neg hq]
  · rw [if_neg h, if_neg h, List.map_append]; rfl
theorem ddrop_kv {t : Nat} : ∀ L : List Row, ddrop (.a (.s [t])) (L.map kv) = (drop t L).map kv
  | [] => rfl
  | r :: L => by
    show (if DK.a (.s [r.1]) = DK.a (.s [t]) then ddrop (.a (.s [t])) (L.map kv) else kv r :: ddrop (.a (.s [t])) (L.map kv)) = _
    rw [ddrop_kv L]
    unfold drop
    by_cases h : r.1 = t
    · rw [if_pos (by rw [h]), List.filter_cons_of_neg (by simpa using h)]
    · rw [if_neg (by simpa using h), List.filter_cons_of_pos (by simpa using h)]; rfl
theorem look_fst {t : Nat} {r : Row} : ∀ {L : List Row}, look t L = some r → r.1 = t ∧ r ∈ L
  | [], h => by cases h
  | q :: L, h => by
    unfold look at h
    split at h
    · rename_i e; cases h; exact ⟨e, List.mem_cons_self⟩
    · have := look_fst h; exact ⟨this.1, List.mem_cons_of_mem _ this.2⟩
theorem look_none {t : Nat} : ∀ {L : List Row}, look t L = none → ∀ r ∈ L, r.1 ≠ t
  | [], _, _, h => by cases h
  | q :: L, h, r, hr => by
    unfold look at h
    split at h
    · cases h
    · rename_i e
      rcases List.mem_cons.mp hr with z | z
      · rw [z]; exact e
      · exact look_none h r z
/-! the leases -/
abbrev LC (long drift many : Int) : Cell := .ins 0 [(0, .int long), (1, .int drift), (2, .ref 2), (3, .int many)]
def oldV (t : Nat) (L : List Row) : AV := match look t L with
  | some r => rv r
  | none => .non
theorem oldV_none {t : Nat} {L : List Row} (h : look t L = none) : oldV t L = .non := by unfold oldV; rw [h]
theorem oldV_some {t : Nat} {L : List Row} {r : Row} (h : look t L = some r) : oldV t L = rv r := by unfold oldV; rw [h]
theorem get_kv {S : Store} {t : Nat} {L : List Row} {n : Nat} (h : S[n]? = some (.dct (L.map kv))) {Q : AV → Store → Prop} {X : Xp} (q : Q (oldV t L) S) : RP (fGet [.ref n, .str [t]] S) Q X := by
  refine w_is (v := oldV t L) (S' := S) ?_ q
  unfold oldV
  simp only [fGet, keyOf, akOf, dlk, h, fits_kv, if_true, dlook_kv]
  cases look t L <;> rfl
theorem is_dct {S : Store} {kvs : List (DK × AV)} {n : Nat} (h : S[n]? = some (.dct kvs)) : BT.dct.is S (.ref n) = true := by
  simp [BT.is, dctOf, h]
theorem opPut_kv {S : Store} {t n : Nat} {v : AV} {L : List Row} {r : Row} (h : S[n]? = some (.dct (L.map kv))) (e : r.1 = t) (ev : v = rv r) (hl : L.length < 1000) : opPut (.ref n) (.str [t]) v S = some (S.set n (.dct ((put r L).map kv))) := by
  subst e ev
  have hz : L.length < szL := by unfold szL; omega
  simp only [opPut, h, keyOf, akOf, fits_kv, List.length_map, hz, true_and, if_true, dput_kv]
/-- what is asked and granted -/
theorem ask (long drift many now : Int) (w t : Nat) (L : List Row) (d : Cell) (T : Store) (h0 : 0 ≤ now) (hl : L.length < 1000)
    (hok : ∀ r, look t L = some r → now < r.2.2.1 + drift → r.2.1 = w) :
    RP (m_Leases_ask [.ref 1, .str [w], .str [t], .int now] (d :: LC long drift many :: .dct (L.map kv) :: T))
      (fun v S' => ∃ n m, (∀ r, look t L = some r → now < r.2.2.1 + drift → n = r.2.2.2 ∧ m = many) ∧ ((∀ r, look t L = some r → ¬ now < r.2.2.1 + drift) → n = many + 1 ∧ m = many + 1) ∧
        v = .tup [.int (now + long), .int n] ∧ S' = d :: LC long drift m :: .dct ((put (t, w, now + long, n) L).map kv) :: T) noX := by
  unfold m_Leases_ask
  refine w_fdef rfl ?_
  refine s_seq (s_ifF (w_orF ?_))
  repeat walk_at "ws"
  refine ⟨decide_eq_false (by omega), ?_⟩
  repeat walk_at "ws"
  refine get_kv rfl ?_
  repeat walk_at "ws"
  cases hlk : look t L with
  | none =>
    rw [oldV_none hlk]
    refine s_ifF (w_andF ?_)
    repeat walk_at "ws"
    refine s_ifF (w_andF ?_)
    repeat walk_at "ws"
    refine ⟨_, opPut_kv (r := (t, w, now + long, many + 1)) rfl rfl rfl (by omega), ?_⟩
    repeat walk_at "ws"
    exact ⟨_, _, fun r h => (nomatch h), fun _ => ⟨rfl, rfl⟩, rfl, rfl⟩
  | some r =>
    rw [oldV_some hlk]
    obtain ⟨t', w', u, n⟩ := r
    obtain ⟨e1, e2⟩ := look_fst hlk
    have e1 : t' = t := e1
    subst e1
    by_cases ho : now < u + drift
    · have ew : w' = w := hok _ hlk ho
      subst ew
      refine s_ifF' (w_andT ?_) ?_
      · repeat walk_at "ws"
        refine w_andF ?_
        repeat walk_at "ws"
        exact ⟨decide_eq_false (by simp), rfl, rfl⟩
      repeat walk_at "ws"
      refine s_ifT' (w_andT ?_) ?_
      · repeat walk_at "ws"
        refine w_andT ?_
        repeat walk_at "ws"
        refine ⟨decide_eq_true rfl, ?_⟩
        repeat walk_at "ws"
        exact ⟨decide_eq_true ho, rfl⟩
      repeat walk_at "ws"
      refine ⟨_, opPut_kv (r := (t', w', now + long, n)) rfl rfl rfl (by omega), ?_⟩
      repeat walk_at "ws"
      exact ⟨_, _, fun r h _ => (by cases h; exact ⟨rfl, rfl⟩), fun h => absurd ho (h _ rfl), rfl, rfl⟩
    · refine s_ifF' (w_andT ?_) ?_
      · repeat walk_at "ws"
        refine w_and ?_
        repeat walk_at "ws"
        refine ⟨fun _ => ?_, fun _ => ⟨rfl, rfl⟩⟩
        repeat walk_at "ws"
        exact ⟨decide_eq_false ho, rfl⟩
      repeat walk_at "ws"
      refine s_ifF' (w_andT ?_) ?_
      · repeat walk_at "ws"
        refine w_and ?_
        repeat walk_at "ws"
        refine ⟨fun _ => ?_, fun _ => ⟨rfl, rfl⟩⟩
        repeat walk_at "ws"
        exact ⟨decide_eq_false ho, rfl⟩
      repeat walk_at "ws"
      refine ⟨_, opPut_kv (r := (t', w, now + long, many + 1)) rfl rfl rfl (by omega), ?_⟩
      repeat walk_at "ws"
      exact ⟨_, _, fun r h h2 => absurd h2 (by cases h; exact ho), fun _ => ⟨rfl, rfl⟩, rfl, rfl⟩
end K
end

section
set_option Elab.async false
set_option linter.all false
set_option maxRecDepth 100000
set_option maxHeartbeats 2000000
namespace K
open PySem PySem.Spec PyProof.Rows L2 Mir
local macro_rules | `(tactic| walk_at "lk") => `(tactic| first
  | with_unfolding_all rfl
  | assumption
  | (with_reducible apply get_ne; (· decide); walk_at "lk")
  | (with_reducible apply get_neN; (· decide); walk_at "lk")
  | (with_reducible apply get_eq; (try simp only [List.length_set]); omega)
  | (simp only [putA, wipeA, List.foldl, List.cons_append, List.nil_append]; walk_at "lk"))
local macro_rules | `(tactic| walk_at "ws") => `(tactic| first
  | with_reducible refine s_seq ?_
  | with_reducible refine s_asg ?_
  | with_reducible refine w_op ?_
  | (with_reducible refine' w_var ?e ?q; (case e => walk_at "lk"))
  | with_reducible refine w_c ?_
  | with_reducible refine g_name ?_
  | with_reducible refine g_pat1 ?_
  | with_reducible refine g_pat2 ?_
  | with_reducible refine g_pat3 ?_
  | with_reducible refine g_pat4 ?_
  | with_reducible refine g_pat5 ?_
  | (with_reducible refine' g_pat ?e ?q; (case e => with_unfolding_all rfl))
  | with_reducible refine g_sub ?_
  | with_reducible refine w_cons ?_
  | with_reducible refine w_nil ?_
  | with_reducible refine w_un ?_
  | with_reducible refine w_val ?_
  | with_reducible refine w_call ?_
  | with_reducible refine w_not ?_
  | with_reducible refine w_tru ?_
  | with_reducible refine w_tup ?_
  | with_reducible refine w_lstF ?_
  | with_reducible refine w_lstR ?_
  | with_reducible refine s_ret ?_
  | with_reducible refine s_next ?_
  | with_reducible refine s_drop ?_
  | with_reducible refine w_meth ?_
  | with_reducible refine w_attr ?_
  | with_reducible refine w_bm ?_
  | with_reducible refine w_sl ?_
  | with_reducible refine w_oN ?_
  | with_reducible refine w_oS ?_
  | with_reducible refine s_attr ?_
  | with_reducible refine s_attrA ?_
  | with_reducible refine s_del ?_
  | with_reducible refine s_par2 ?_
  | with_reducible refine s_par3 ?_
  | with_reducible refine s_par ?_
  | with_reducible refine w_dct0 ?_
  | with_reducible refine w_dctP ?_
  | with_reducible refine w_pC ?_
  | with_reducible refine w_pN ?_
  | with_reducible refine w_chain ?_
  | with_reducible refine w_yes ?_
  | with_reducible refine w_addI ?_
  | with_reducible refine w_subI ?_
  | with_reducible refine w_iaddI ?_
  | with_reducible refine w_negI ?_
  | with_reducible refine w_intI ?_
  | with_reducible refine w_intB ?_
  | with_reducible refine w_lt ?_
  | with_reducible refine w_le ?_
  | with_reducible refine w_gt ?_
  | with_reducible refine w_ge ?_
  | with_reducible refine w_eqI ?_
  | with_reducible refine w_neI ?_
  | with_reducible refine w_eqS ?_
  | with_reducible refine w_neS ?_
  | with_reducible refine w_notB ?_
  | with_reducible refine w_eqB ?_
  | with_reducible refine w_neB ?_
  | with_reducible refine w_neP ?_
  | with_reducible refine w_eqP ?_
  | with_reducible refine w_nePI ?_
  | (with_reducible refine' w_is (r := opIx _ _ _) ?e ?q; (case e => with_unfolding_all rfl))
  | (with_reducible refine' w_is (r := opAdd _ _ _) ?e ?q; (case e => with_unfolding_all rfl))
  | with_reducible refine w_sl32 ?_
  | with_reducible refine w_sl31 ?_
  | (with_reducible refine' w_is (r := opSl _ _ _ _) ?e ?q; (case e => with_unfolding_all rfl))
  | (with_reducible refine' w_is (r := fLen _ _) ?e ?q; (case e => with_unfolding_all rfl))
  | (with_reducible refine' w_is (r := fAbs _ _) ?e ?q; (case e => with_unfolding_all rfl))
  | (with_reducible refine' w_is (r := fTuple _ _) ?e ?q; (case e => with_unfolding_all rfl))
  | (with_reducible refine' w_is (r := opIsN _ _ _) ?e ?q; (case e => with_unfolding_all rfl))
  | (with_reducible refine' w_is (r := opNotN _ _ _) ?e ?q; (case e => with_unfolding_all rfl))
  | refine ⟨Nat.le_of_ble_eq_true rfl, ?_⟩
  | refine ⟨_, rfl, ?_⟩
  | refine ⟨rfl, ?_⟩
  | refine ⟨_, _, rfl, rfl, ?_⟩
  | refine ⟨_, _, _, _, rfl, rfl, rfl, ?_⟩
  | refine ⟨_, _, rfl, rfl, of_decide_eq_true rfl, ?_⟩
  | refine ⟨_, rfl, of_decide_eq_true rfl, ?_⟩
  | refine ⟨_, _, _, rfl, rfl, rfl, ?_⟩
  | refine ⟨_, _, rfl, ?_⟩
  | refine ⟨_, _, _, rfl, ?_⟩)
theorem ask_no (long drift many now u n : Int) (w w' t : Nat) (L : List Row) (d : Cell) (T : Store) (h0 : 0 ≤ now) (hl : look t L = some (t, w', u, n)) (ho : now < u + drift) (hw : w' ≠ w) :
    RP (m_Leases_ask [.ref 1, .str [w], .str [t], .int now] (d :: LC long drift many :: .dct (L.map kv) :: T)) (fun v S' => v = .non ∧ S' = d :: LC long drift many :: .dct (L.map kv) :: T) noX := by
  unfold m_Leases_ask
  refine w_fdef rfl ?_
  refine s_seq (s_ifF (w_orF ?_))
  repeat walk_at "ws"
  refine ⟨decide_eq_false (by omega), ?_⟩
  repeat walk_at "ws"
  refine get_kv rfl ?_
  rw [oldV_some hl]
  repeat walk_at "ws"
  refine s_ifT' (w_andT ?_) ?_
  · repeat walk_at "ws"
    refine w_andT ?_
    repeat walk_at "ws"
    refine ⟨decide_eq_true (by simpa using hw), ?_⟩
    repeat walk_at "ws"
    exact ⟨decide_eq_true ho, rfl⟩
  repeat walk_at "ws"
  rfl
theorem notin_kv {S : Store} {t : Nat} {L : List Row} {n : Nat} (h : S[n]? = some (.dct (L.map kv))) {Q : AV → Store → Prop} {X : Xp} (q : Q (.bl (!(look t L).isSome)) S) : RP (opNotIn (.str [t]) (.ref n) S) Q X := by
  refine w_is (v := .bl (!(look t L).isSome)) (S' := S) ?_ q
  simp only [opNotIn, inOf, seqOf, lstOf, h, keyOf, akOf, dlk, fits_kv, if_true, dlook_kv, Option.map_some, Option.isSome_map]
theorem ix_kv {S : Store} {t : Nat} {L : List Row} {r : Row} {n : Nat} (h : S[n]? = some (.dct (L.map kv))) (e : look t L = some r) {Q : AV → Store → Prop} {X : Xp} (q : Q (rv r) S) : RP (opIx (.ref n) (.str [t]) S) Q X := by
  refine w_is (v := rv r) (S' := S) ?_ q
  simp only [opIx, seqOf, lstOf, h, keyOf, akOf, dlk, fits_kv, if_true, dlook_kv, e, Option.map_some]
theorem del_kv {S : Store} {t n : Nat} {L : List Row} (h : S[n]? = some (.dct (L.map kv))) (e : (look t L).isSome = true) : opDel (.ref n) (.str [t]) S = some (S.set n (.dct ((drop t L).map kv))) := by
  simp only [opDel, h, keyOf, akOf, fits_kv, dlook_kv, Option.isSome_map, e, and_self, if_true, ddrop_kv]
def goodOf (w t : Nat) (L : List Row) : Bool := match look t L with
  | some r => decide (r.2.1 = w)
  | none => false
theorem free (long drift many : Int) (w t : Nat) (L : List Row) (d : Cell) (T : Store) :
    RP (m_Leases_free [.ref 1, .str [w], .str [t]] (d :: LC long drift many :: .dct (L.map kv) :: T))
      (fun v S' => goodOf w t L = true ∧ v = .non ∧ S' = d :: LC long drift many :: .dct ((drop t L).map kv) :: T)
      (fun c S' => goodOf w t L = false ∧ c = 4 ∧ S' = d :: LC long drift many :: .dct (L.map kv) :: T) := by
  unfold m_Leases_free
  refine w_fdef rfl ?_
  refine s_seq (s_if (w_or ?_))
  repeat walk_at "ws"
  refine notin_kv rfl ?_
  cases hlk : look t L with
  | none =>
    have hg : goodOf w t L = false := by unfold goodOf; rw [hlk]
    repeat walk_at "ws"
    refine ⟨fun _ => ⟨fun _ => ?_, fun z => (by cases z)⟩, fun z => (by cases z)⟩
    repeat walk_at "ws"
    refine s_raise ?_
    exact ⟨hg, rfl, rfl⟩
  | some r =>
    have hg : goodOf w t L = decide (r.2.1 = w) := by unfold goodOf; rw [hlk]
    repeat walk_at "ws"
    refine ⟨fun z => (by cases z), fun _ => ?_⟩
    repeat walk_at "ws"
    refine ix_kv rfl hlk ?_
    repeat walk_at "ws"
    refine ⟨fun z => ?_, fun z => ?_⟩
    · refine s_raise ⟨?_, rfl, rfl⟩
      rw [hg]
      exact decide_eq_false (by simpa using of_decide_eq_true z)
    · repeat walk_at "ws"
      refine ⟨_, del_kv rfl (by rw [hlk]; rfl), ?_⟩
      refine ⟨?_, rfl, rfl⟩
      rw [hg]
      exact decide_eq_true (by simpa using of_decide_eq_false z)
/-! what is known between the deeds -/
abbrev Act := Nat × Nat × Int
abbrev ea (a : Act) : AV := .tup [.str [a.1], .str [a.2.1], .int a.2.2]
structure LInv (i : Nat) (L : List Row) (A : List Act) (now : Int) : Prop where
  keys : (L.map (·.1)).Nodup
  kx : ∀ r ∈ L, r.1 = 120 ∨ r.1 = 121
  acts : ∀ a ∈ A, a.2.2 ≤ now ∨ ∃ n, (a.2.1, a.1, a.2.2, n) ∈ L
  uniq : (A.map fun a => (a.1, a.2.1)).Nodup
  len : A.length ≤ i
theorem LInv.L2 {i : Nat} {L : List Row} {A : List Act} {now : Int} (h : LInv i L A now) : L.length ≤ 2 := by
  obtain ⟨k, x, _, _, _⟩ := h
  match L, k, x with
  | [], _, _ => simp
  | [_], _, _ => simp
  | [_, _], _, _ => simp
  | a :: b :: c :: r, k, x =>
    simp only [List.map_cons, List.nodup_cons, List.mem_cons, not_or] at k
    have h1 := x a (by simp); have h2 := x b (by simp); have h3 := x c (by simp)
    have := k.1.1; have := k.1.2.1; have := k.2.1.1
    omega
theorem LInv.now {i : Nat} {L : List Row} {A : List Act} {now now' : Int} (h : LInv i L A now) (l : now ≤ now') : LInv i L A now' := ⟨h.keys, h.kx, fun a ha => (h.acts a ha).imp (fun z => by omega) id, h.uniq, h.len⟩
theorem LInv.more {i j : Nat} {L : List Row} {A : List Act} {now : Int} (h : LInv i L A now) (l : i ≤ j) : LInv j L A now := ⟨h.keys, h.kx, h.acts, h.uniq, Nat.le_trans h.len l⟩
theorem look_mem {t : Nat} {r : Row} : ∀ {L : List Row}, (L.map (·.1)).Nodup → r ∈ L → r.1 = t → look t L = some r
  | [], _, h, _ => by cases h
  | q :: L, k, h, e => by
    rw [look_cons]
    rw [List.map_cons, List.nodup_cons] at k
    rcases List.mem_cons.mp h with z | z
    · rw [← z, if_pos e]
    · rw [if_neg fun z2 => k.1 (by rw [z2, ← e]; exact List.mem_map_of_mem z)]
      exact look_mem k.2 z e
theorem LInv.free {i : Nat} {L : List Row} {A : List Act} {now : Int} {w t : Nat} (h : LInv i L A now) (g : goodOf w t L = true) : LInv i (drop t L) (A.filter fun a => decide (¬(a.1 = w ∧ a.2.1 = t))) now := by
  unfold goodOf at g
  cases hlk : look t L with
  | none => rw [hlk] at g; cases g
  | some r =>
    rw [hlk] at g
    have hw : r.2.1 = w := of_decide_eq_true g
    refine ⟨(h.keys.sublist (List.filter_sublist.map _)), fun r hr => h.kx r (List.mem_filter.mp hr).1, fun a ha => ?_, h.uniq.sublist (List.filter_sublist.map _), Nat.le_trans (List.length_filter_le _ _) h.len⟩
    obtain ⟨ha, hf⟩ := List.mem_filter.mp ha
    refine (h.acts a ha).imp id fun ⟨n, hn⟩ => ⟨n, List.mem_filter.mpr ⟨hn, decide_eq_true fun z => ?_⟩⟩
    have z : a.2.1 = t := z
    have e := look_mem h.keys hn z
    rw [hlk] at e
    have e := Option.some.inj e
    exact of_decide_eq_true hf ⟨by rw [← hw, e], z⟩
theorem put_keys {r : Row} {L : List Row} (h : (L.map (·.1)).Nodup) : ((put r L).map (·.1)).Nodup := by
  unfold put
  split
  · have e : (L.map (fun q => if q.1 = r.1 then r else q)).map (·.1) = L.map (·.1) := by
      rw [List.map_map]
      refine List.map_congr_left fun q _ => ?_
      show (if q.1 = r.1 then r else q).1 = q.1
      split
      · rename_i e; exact e.symm
      · rfl
    rw [e]; exact h
  · rename_i hn
    rw [List.map_append, List.nodup_append]
    refine ⟨h, by simp, fun a ha b hb z => ?_⟩
    obtain ⟨q, hq, rfl⟩ := List.mem_map.mp ha
    have hb : b = r.1 := by simpa using hb
    have e : look r.1 L = some q := look_mem h hq (by rw [z, hb])
    rw [e] at hn
    exact hn rfl
theorem put_mem {r q : Row} {L : List Row} (h : q ∈ L) (ne : q.1 ≠ r.1) : q ∈ put r L := by
  unfold put
  split
  · exact List.mem_map.mpr ⟨q, h, if_neg ne⟩
  · exact List.mem_append_left _ h
theorem put_self {r : Row} {L : List Row} : r ∈ put r L := by
  unfold put
  split
  · rename_i h
    cases e : look r.1 L with
    | none => rw [e] at h; cases h
    | some q => exact List.mem_map.mpr ⟨q, (look_fst e).2, if_pos (look_fst e).1⟩
  · simp
theorem put_in {r q : Row} {L : List Row} (h : q ∈ put r L) : q = r ∨ q ∈ L := by
  unfold put at h
  split at h
  · obtain ⟨z, hz, e⟩ := List.mem_map.mp h
    split at e
    · exact .inl e.symm
    · exact .inr (by rw [← e]; exact hz)
  · rcases List.mem_append.mp h with z | z
    · exact .inr z
    · exact .inl (by simpa using z)
theorem LInv.take {i : Nat} {L : List Row} {A : List Act} {now u n : Int} {w t : Nat} (h : LInv i L A now) (ht : t = 120 ∨ t = 121) (hd : ∀ r, look t L = some r → r.2.1 = w ∨ r.2.2.1 ≤ now) :
    LInv (i + 1) (put (t, w, u, n) L) (A.filter (fun a => decide (¬(a.1 = w ∧ a.2.1 = t))) ++ [(w, t, u)]) now := by
  refine ⟨put_keys h.keys, fun r hr => ?_, fun a ha => ?_, ?_, ?_⟩
  · rcases put_in hr with e | e
    · rw [e]; exact ht
    · exact h.kx r e
  · rcases List.mem_append.mp ha with ha | ha
    · obtain ⟨ha, hf⟩ := List.mem_filter.mp ha
      rcases h.acts a ha with z | ⟨m, hm⟩
      · exact .inl z
      · by_cases e : a.2.1 = t
        · have e2 := look_mem h.keys hm e
          rcases hd _ e2 with z | z
          · exact absurd ⟨z, e⟩ (of_decide_eq_true hf)
          · exact .inl z
        · exact .inr ⟨m, put_mem hm e⟩
    · have ha : a = (w, t, u) := by simpa using ha
      rw [ha]
      exact .inr ⟨n, put_self⟩
  · rw [List.map_append, List.nodup_append]
    refine ⟨h.uniq.sublist (List.filter_sublist.map _), by simp, fun x hx y hy z => ?_⟩
    obtain ⟨a, ha, rfl⟩ := List.mem_map.mp hx
    have hy : y = (w, t) := by simpa using hy
    have hf := of_decide_eq_true (List.mem_filter.mp ha).2
    rw [hy] at z
    have z1 : a.1 = w := congrArg (·.1) z
    have z2 : a.2.1 = t := congrArg (·.2) z
    exact hf ⟨z1, z2⟩
  · rw [List.length_append]
    have := List.length_filter_le (fun a : Act => decide (¬(a.1 = w ∧ a.2.1 = t))) A
    have := h.len
    simp only [List.length_singleton]
    omega
end K
end

section
set_option Elab.async false
set_option linter.all false
set_option maxRecDepth 100000
set_option maxHeartbeats 2000000
namespace K
open PySem PySem.Spec PyProof.Rows L2 Mir
local macro_rules | `(tactic| walk_at "lk") => `(tactic| first
  | with_unfolding_all rfl
  | assumption
  | (with_reducible apply get_ne; (· decide); walk_at "lk")
  | (with_reducible apply get_neN; (· decide); walk_at "lk")
  | (with_reducible apply get_eq; (try simp only [List.length_set]); omega)
  | (simp only [putA, wipeA, List.foldl, List.cons_append, List.nil_append]; walk_at "lk"))
local macro_rules | `(tactic| walk_at "ws") => `(tactic| first
  | with_reducible refine s_seq ?_
  | with_reducible refine s_asg ?_
  | with_reducible refine w_op ?_
  | (with_reducible refine' w_var ?e ?q; (case e => walk_at "lk"))
  | with_reducible refine w_c ?_
  | with_reducible refine g_name ?_
  | with_reducible refine g_pat1 ?_
  | with_reducible refine g_pat2 ?_
  | with_reducible refine g_pat3 ?_
  | with_reducible refine g_pat4 ?_
  | with_reducible refine g_pat5 ?_
  | (with_reducible refine' g_pat ?e ?q; (case e => with_unfolding_all rfl))
  | with_reducible refine g_sub ?_
  | with_reducible refine w_cons ?_
  | with_reducible refine w_nil ?_
  | with_reducible refine w_un ?_
  | with_reducible refine w_val ?_
  | with_reducible refine w_call ?_
  | with_reducible refine w_not ?_
  | with_reducible refine w_tru ?_
  | with_reducible refine w_tup ?_
  | with_reducible refine w_lstF ?_
  | with_reducible refine w_lstR ?_
  | with_reducible refine s_ret ?_
  | with_reducible refine s_next ?_
  | with_reducible refine s_drop ?_
  | with_reducible refine w_meth ?_
  | with_reducible refine w_attr ?_
  | with_reducible refine w_bm ?_
  | with_reducible refine w_sl ?_
  | with_reducible refine w_oN ?_
  | with_reducible refine w_oS ?_
  | with_reducible refine s_attr ?_
  | with_reducible refine s_attrA ?_
  | with_reducible refine s_del ?_
  | with_reducible refine s_par2 ?_
  | with_reducible refine s_par3 ?_
  | with_reducible refine s_par ?_
  | with_reducible refine w_dct0 ?_
  | with_reducible refine w_dctP ?_
  | with_reducible refine w_pC ?_
  | with_reducible refine w_pN ?_
  | with_reducible refine w_chain ?_
  | with_reducible refine w_yes ?_
  | with_reducible refine w_addI ?_
  | with_reducible refine w_subI ?_
  | with_reducible refine w_iaddI ?_
  | with_reducible refine w_negI ?_
  | with_reducible refine w_intI ?_
  | with_reducible refine w_intB ?_
  | with_reducible refine w_lt ?_
  | with_reducible refine w_le ?_
  | with_reducible refine w_gt ?_
  | with_reducible refine w_ge ?_
  | with_reducible refine w_eqI ?_
  | with_reducible refine w_neI ?_
  | with_reducible refine w_eqS ?_
  | with_reducible refine w_neS ?_
  | with_reducible refine w_notB ?_
  | with_reducible refine w_eqB ?_
  | with_reducible refine w_neB ?_
  | with_reducible refine w_neP ?_
  | with_reducible refine w_eqP ?_
  | with_reducible refine w_nePI ?_
  | (with_reducible refine' w_is (r := opIx _ _ _) ?e ?q; (case e => with_unfolding_all rfl))
  | (with_reducible refine' w_is (r := opAdd _ _ _) ?e ?q; (case e => with_unfolding_all rfl))
  | with_reducible refine w_sl32 ?_
  | with_reducible refine w_sl31 ?_
  | (with_reducible refine' w_is (r := opSl _ _ _ _) ?e ?q; (case e => with_unfolding_all rfl))
  | (with_reducible refine' w_is (r := fLen _ _) ?e ?q; (case e => with_unfolding_all rfl))
  | (with_reducible refine' w_is (r := fAbs _ _) ?e ?q; (case e => with_unfolding_all rfl))
  | (with_reducible refine' w_is (r := fTuple _ _) ?e ?q; (case e => with_unfolding_all rfl))
  | (with_reducible refine' w_is (r := opIsN _ _ _) ?e ?q; (case e => with_unfolding_all rfl))
  | (with_reducible refine' w_is (r := opNotN _ _ _) ?e ?q; (case e => with_unfolding_all rfl))
  | refine ⟨Nat.le_of_ble_eq_true rfl, ?_⟩
  | refine ⟨_, rfl, ?_⟩
  | refine ⟨rfl, ?_⟩
  | refine ⟨_, _, rfl, rfl, ?_⟩
  | refine ⟨_, _, _, _, rfl, rfl, rfl, ?_⟩
  | refine ⟨_, _, rfl, rfl, of_decide_eq_true rfl, ?_⟩
  | refine ⟨_, rfl, of_decide_eq_true rfl, ?_⟩
  | refine ⟨_, _, _, rfl, rfl, rfl, ?_⟩
  | refine ⟨_, _, rfl, ?_⟩
  | refine ⟨_, _, _, rfl, ?_⟩)
abbrev er (r : Row) : AV := .tup [.str [r.1], rv r]
theorem dsrc_kv {S : Store} {n : Nat} {L : List Row} (h : S[n]? = some (.dct (L.map kv))) : dSrc false dItems S (.ref n) = some ({ items := L.map er, lock := some n }, S.set n (.lk (L.map kv))) := by
  have e1 : flatK (L.map kv) = true := by
    unfold flatK
    rw [List.all_map]
    exact List.all_eq_true.mpr fun _ _ => rfl
  have e2 : dItems (L.map kv) = L.map er := by
    unfold dItems
    rw [List.map_map]
    rfl
  simp only [dSrc, h, e1, Bool.or_true, if_true, e2]
theorem pairs_kv : ∀ L : List Row, pairsOf (L.map er) = some (L.map fun r => (AK.s [r.1], rv r))
  | [] => rfl
  | r :: L => by
    show (match akOf (.str [r.1]), pairsOf (L.map er) with
      | some q, some ps => some ((q, rv r) :: ps)
      | _, _ => none) = _
    rw [pairs_kv L]; rfl
theorem merge_kv : ∀ (L M : List Row), ((M ++ L).map (·.1)).Nodup → mergeD (M.map kv) (L.map fun r => (AK.s [r.1], rv r)) = (M ++ L).map kv
  | [], M, _ => by simp [mergeD]
  | r :: L, M, h => by
    have hn : (look r.1 M).isSome ≠ true := fun z => by
      cases e : look r.1 M with
      | none => rw [e] at z; cases z
      | some q =>
        obtain ⟨e1, e2⟩ := look_fst e
        rw [List.map_append, List.nodup_append] at h
        exact h.2.2 q.1 (List.mem_map_of_mem e2) r.1 (by simp) e1
    have e : dput (.a (.s [r.1])) (rv r) (M.map kv) = (M ++ [r]).map kv := by
      rw [dput_kv]
      unfold put
      rw [if_neg hn]
    show mergeD (dput (.a (.s [r.1])) (rv r) (M.map kv)) _ = _
    rw [e, merge_kv L (M ++ [r]) (by simpa using h)]
    simp
theorem fdict_kv {S : Store} {L : List Row} (h : (L.map (·.1)).Nodup) {Q : AV → Store → Prop} {X : Xp} (q : Q (.ref S.length) (S ++ [.dct (L.map kv)])) : RP (fDict [.lst (L.map er)] S) Q X := by
  refine w_is (v := .ref S.length) (S' := S ++ [.dct (L.map kv)]) ?_ q
  have e := merge_kv L [] (by simpa using h)
  simp only [fDict, lstOf, pairs_kv]
  rw [show mergeD [] (L.map fun r => (AK.s [r.1], rv r)) = L.map kv from e]
abbrev OC (now long drift : Int) (r : Nat) (many : Int) (acts : List AV) : Cell := .dct [(.a (.s [110, 111, 119]), .int now), (.a (.s [108, 111, 110, 103]), .int long), (.a (.s [100, 114, 105, 102, 116]), .int drift), (.a (.s [114, 111, 119, 115]), .ref r), (.a (.s [109, 97, 110, 121]), .int many), (.a (.s [97, 99, 116, 115]), .lst acts)]
/-- own['rows'] stands at q, own's own cell aside -/
def Own (c3 : Cell) (T : Store) (q : Nat) (kvs : List (DK × AV)) : Prop := ∀ o, (c3 :: o :: T)[q]? = some (.dct kvs)
theorem Own.ne {c3 : Cell} {T : Store} {q : Nat} {kvs : List (DK × AV)} (h : Own c3 T q kvs) : q ≠ 1 := fun z => by
  subst z
  have := h (.dct [])
  have h2 := h (.lst [])
  simp at h2
theorem Own.put {c3 : Cell} {T : Store} {q : Nat} {kvs kvs' : List (DK × AV)} (h : Own c3 T q kvs) : ∃ c3' T', (∀ o, (c3 :: o :: T).set q (.dct kvs') = c3' :: o :: T') ∧ Own c3' T' q kvs' := by
  match q, h.ne, h with
  | 0, _, h => exact ⟨.dct kvs', T, fun o => rfl, fun o => rfl⟩
  | 1, n, _ => exact absurd rfl n
  | p + 2, _, h =>
    have hp : p < T.length := by
      have := (List.getElem?_eq_some_iff.mp (h (.dct []))).1
      simp only [List.length_cons] at this
      omega
    exact ⟨c3, T.set p (.dct kvs'), fun o => rfl, fun o => (List.getElem?_set_self hp : (T.set p (.dct kvs'))[p]? = _)⟩
theorem Own.row {c3 : Cell} {T : Store} {q : Nat} {L : List Row} {r : Row} (h : Own c3 T q (L.map kv)) (hl : L.length < 1000) : ∃ c4 T4, Own c4 T4 q ((K.put r L).map kv) ∧ ∀ d lc rr o, opPut (.ref (q + 3)) (.str [r.1]) (rv r) (d :: lc :: rr :: c3 :: o :: T) = some (d :: lc :: rr :: c4 :: o :: T4) := by
  obtain ⟨c4, T4, e, O⟩ := h.put (kvs' := (K.put r L).map kv)
  refine ⟨c4, T4, O, fun d lc rr o => ?_⟩
  rw [opPut_kv (S := d :: lc :: rr :: c3 :: o :: T) (n := q + 3) (h o) rfl rfl hl]
  show some (d :: lc :: rr :: (c3 :: o :: T).set q _) = _
  rw [e]
theorem Own.new {c3 : Cell} {T : Store} {kvs : List (DK × AV)} : Own c3 (T ++ [.dct kvs]) (T.length + 2) kvs := fun o => (by
  show (T ++ [Cell.dct kvs])[T.length]? = _
  simp)
theorem Own.more {c3 : Cell} {T U : Store} {q : Nat} {kvs : List (DK × AV)} (h : Own c3 T q kvs) : Own c3 (T ++ U) q kvs := fun o => by
  have := h o
  have hl := (List.getElem?_eq_some_iff.mp this).1
  show ((c3 :: o :: T) ++ U)[q]? = _
  rw [List.getElem?_append_left hl]
  exact this
def openOf (t : Nat) (now drift : Int) (L : List Row) : Bool := match look t L with
  | some r => decide (now < r.2.2.1 + drift)
  | none => false
def DeedEnd (i : Nat) (now long drift : Int) (v : AV) (S' : Store) : Prop := v = .bl true ∧ ∃ a b c many q L A c3 T, LInv (i + 1) L A now ∧ Own c3 T q (L.map kv) ∧ S' = D a b c :: LC long drift many :: .dct (L.map kv) :: c3 :: OC now long drift (q + 3) many (A.map ea) :: T
theorem filt_t {L : List Row} {t : Nat} : L.filter (fun r => decide ([r.1] ≠ [t]) || !true) = drop t L := by
  unfold drop
  refine List.filter_congr fun r _ => ?_
  simp
theorem filt_a {A : List Act} {w t : Nat} : A.filter (fun a => decide (¬([a.1] = [w] ∧ [a.2.1] = [t])) || !true) = A.filter fun a => decide (¬(a.1 = w ∧ a.2.1 = t)) := by
  refine List.filter_congr fun r _ => ?_
  simp
theorem filt_b {A : List Act} {w t : Nat} : A.filter (fun a => decide (¬([a.1] = [w] ∧ [a.2.1] = [t]))) = A.filter fun a => decide (¬(a.1 = w ∧ a.2.1 = t)) := by
  refine List.filter_congr fun r _ => ?_
  simp
theorem filt_f {α : Type} {L : List α} {f : α → Bool} : L.filter (fun r => f r || !false) = L := by
  rw [List.filter_eq_self]
  intro a _
  simp
theorem deed {i : Nat} {a b c now long drift many : Int} {q : Nat} {L : List Row} {A : List Act} {c3 : Cell} {T : Store} (I : LInv i L A now) (O : Own c3 T q (L.map kv)) (h0 : 0 ≤ now) (hd : 0 ≤ drift) (hi : i < 1000) :
    RP (m__law_deed [.ref 0, .ref 1, .ref 4] (D a b c :: LC long drift many :: .dct (L.map kv) :: c3 :: OC now long drift (q + 3) many (A.map ea) :: T)) (DeedEnd i now long drift) noX := by
  have hL := I.L2
  have hA := I.len
  have hq : ∀ d lc rr o, (d :: lc :: rr :: c3 :: o :: T)[q + 3]? = some (.dct (L.map kv)) := fun _ _ _ o => O o
  unfold m__law_deed
  refine w_fdef rfl ?_
  repeat walk_at "ws"
  refine (roll a b c 3 _ (by decide) (by decide)).mono ?_
  rintro _ _ ⟨r1, a1, b1, c1, rfl, hr0, hr1, rfl⟩
  repeat walk_at "ws"
  refine w_ixS hr0 hr1 (by decide) fun w hw => ?_
  repeat walk_at "ws"
  refine (roll a1 b1 c1 2 _ (by decide) (by decide)).mono ?_
  rintro _ _ ⟨r2, a2, b2, c2, rfl, hs0, hs1, rfl⟩
  repeat walk_at "ws"
  refine w_ixS hs0 hs1 (by decide) fun t ht => ?_
  have ht : t = 120 ∨ t = 121 := by simpa using ht
  repeat walk_at "ws"
  refine ⟨is_dct (hq _ _ _ _), ?_⟩
  repeat walk_at "ws"
  refine get_kv (hq _ _ _ _) ?_
  repeat walk_at "ws"
  refine s_if ?_
  repeat walk_at "ws"
  refine (roll a2 b2 c2 6 _ (by decide) (by decide)).mono ?_
  rintro _ _ ⟨r3, a3, b3, c3', rfl, hu0, hu1, rfl⟩
  repeat walk_at "ws"
  refine ⟨fun _ => ?_, fun _ => ?_⟩
  · -- freed
    have good : ∀ {Λ : LEnv} {S : Store}, Λ[6]? = some (some (oldV t L)) → Λ[3]? = some (some (.str [w])) → RP (eAnd (eOp opNotN (eVar 6) (eC .non)) (eOp opEq (eOp opIx (eVar 6) (eC (.int 0))) (eVar 3)) Λ S) (fun v S' => v = .bl (goodOf w t L) ∧ S' = S) noX := fun {Λ S} e6 e3 => by
      refine w_eand (w_op (w_var e6 (w_c ?_)))
      unfold goodOf
      cases hlk : look t L with
      | none =>
        rw [oldV_none hlk]
        exact ⟨false, rfl, fun z => (by cases z), fun _ => ⟨rfl, rfl⟩⟩
      | some r =>
        rw [oldV_some hlk] at e6 ⊢
        refine ⟨true, rfl, fun _ => w_op (w_op (w_var e6 (w_c ?_))), fun z => (by cases z)⟩
        repeat walk_at "ws"
        exact ⟨by simp, rfl⟩
    refine s_seq (s_asg (w_at (good rfl rfl) ?_))
    repeat walk_at "ws"
    refine w_lc (i_dict ?_)
    repeat walk_at "ws"
    refine ⟨_, _, dsrc_kv (hq _ _ _ _), _, _, lcL_pure (T := Row) er (fun r => decide ([r.1] ≠ [t]) || !goodOf w t L) er rfl L [] (fun r hr => ⟨_, rfl, t_or ?_ fun _ => ?_, fun _ => ?_⟩) (by simp only [List.length_nil, szL]; omega), ?_⟩
    · repeat walk_at "ws"
      rfl
    · repeat walk_at "ws"
      rfl
    · repeat walk_at "ws"
      rfl
    show RP (aNil _ (unlS (some (q + 3)) _)) _ _
    rw [unl_lk (hq _ _ _ _), List.nil_append]
    repeat walk_at "ws"
    refine fdict_kv (I.keys.sublist (List.filter_sublist.map _)) ?_
    repeat walk_at "ws"
    refine w_lc (i_seq ?_)
    repeat walk_at "ws"
    refine ⟨_, _, lcL_pure (T := Act) ea (fun a => decide (¬([a.1] = [w] ∧ [a.2.1] = [t])) || !goodOf w t L) ea rfl A [] (fun r hr => ⟨_, rfl, t_or ?_ fun _ => ?_, fun _ => ?_⟩) (by simp only [List.length_nil, szL]; omega), ?_⟩
    · repeat walk_at "ws"
      rfl
    · repeat walk_at "ws"
      rfl
    · repeat walk_at "ws"
      rfl
    rw [List.nil_append]
    repeat walk_at "ws"
    refine w_told ?_
    repeat walk_at "ws"
    refine (free long drift many w t L _ _).imp (fun v S' h => ?_) fun k S' h => ?_
    · obtain ⟨hg, rfl, rfl⟩ := h
      repeat walk_at "ws"
      simp only [hg, filt_t, filt_a]
      exact ⟨rfl, a3, b3, c3', many, T.length + 2, drop t L, _, c3, _, (I.free hg).more (Nat.le_succ _), Own.new, rfl⟩
    · obtain ⟨hg, rfl, rfl⟩ := h
      refine ⟨by decide, ?_⟩
      repeat walk_at "ws"
      simp only [hg, filt_f]
      exact ⟨rfl, a3, b3, c3', many, T.length + 2, L, A, c3, _, I.more (Nat.le_succ _), Own.new, rfl⟩
  · -- asked
    repeat walk_at "ws"
    refine w_same (v := .bl (openOf t now drift L)) ?_ ?_
    · refine w_eand ?_
      repeat walk_at "ws"
      unfold openOf
      cases hlk : look t L with
      | none =>
        rw [oldV_none hlk]
        exact ⟨false, rfl, fun z => (by cases z), fun _ => ⟨rfl, rfl⟩⟩
      | some r =>
        rw [oldV_some hlk]
        refine ⟨true, rfl, fun _ => ?_, fun z => (by cases z)⟩
        repeat walk_at "ws"
        rfl
    repeat walk_at "ws"
    cases hop : openOf t now drift L with
    | true =>
      unfold openOf at hop
      cases hlk : look t L with
      | none => rw [hlk] at hop; cases hop
      | some r =>
        rw [hlk] at hop
        rw [oldV_some hlk]
        obtain ⟨t', w', u, n⟩ := r
        obtain ⟨e1, e2⟩ := look_fst hlk
        have e1 : t' = t := e1
        subst e1
        have ho : now < u + drift := of_decide_eq_true hop
        by_cases hw : w' = w
        · subst hw
          refine s_ifF' (w_andT ?_) ?_
          · repeat walk_at "ws"
            exact ⟨decide_eq_false (by simp), rfl⟩
          repeat walk_at "ws"
          obtain ⟨c4, T4, O4, hput⟩ := O.row (r := (t', w', now + long, n)) (by omega)
          refine ⟨_, hput _ _ _ _, ?_⟩
          repeat walk_at "ws"
          refine w_lc (i_seq ?_)
          repeat walk_at "ws"
          refine ⟨_, _, lcL_pure (T := Act) ea (fun a => decide (¬([a.1] = [w'] ∧ [a.2.1] = [t']))) ea rfl A [] (fun r hr => ⟨_, rfl, ?_, fun _ => ?_⟩) (by simp only [List.length_nil, szL]; omega), ?_⟩
          · repeat walk_at "ws"
            rfl
          · repeat walk_at "ws"
            rfl
          rw [List.nil_append]
          repeat walk_at "ws"
          refine w_addL ?_ ?_
          · have := List.length_filter_le (fun a : Act => decide (¬([a.1] = [w'] ∧ [a.2.1] = [t']))) A
            rw [List.length_map]
            simp only [List.length_singleton, szL]
            omega
          repeat walk_at "ws"
          refine (ask long drift many now w' t' L _ _ h0 (by omega) (fun r hr _ => by rw [hlk] at hr; cases hr; rfl)).mono ?_
          rintro _ _ ⟨n2, m2, k1, k2, rfl, rfl⟩
          obtain ⟨rfl, rfl⟩ := k1 _ hlk ho
          repeat walk_at "ws"
          simp only [filt_b, show b01 (!true) = 0 from rfl, Int.add_zero]
          refine ⟨by simp, a3, b3, c3', m2, q, _, _, c4, T4, I.take ht fun r hr => .inl (by rw [hlk] at hr; cases hr; rfl), O4, ?_⟩
          rw [List.map_append]
          rfl
        · refine s_ifT' (w_andT ?_) ?_
          · repeat walk_at "ws"
            exact ⟨decide_eq_true (by simpa using hw), rfl⟩
          repeat walk_at "ws"
          refine (ask_no long drift many now u n w w' t' L _ _ h0 hlk ho hw).mono ?_
          rintro _ _ ⟨rfl, rfl⟩
          repeat walk_at "ws"
          exact ⟨a3, b3, c3', many, q, L, A, c3, T, I.more (Nat.le_succ _), O, rfl⟩
    | false =>
      have hno : ∀ r, look t L = some r → ¬ now < r.2.2.1 + drift := fun r hr h => by
        unfold openOf at hop
        rw [hr] at hop
        exact of_decide_eq_false hop h
      refine s_ifF' (w_andF ?_) ?_
      · repeat walk_at "ws"
        rfl
      repeat walk_at "ws"
      obtain ⟨c4, T4, O4, hput⟩ := O.row (r := (t, w, now + long, many + 1)) (by omega)
      refine ⟨_, hput _ _ _ _, ?_⟩
      repeat walk_at "ws"
      refine w_lc (i_seq ?_)
      repeat walk_at "ws"
      refine ⟨_, _, lcL_pure (T := Act) ea (fun a => decide (¬([a.1] = [w] ∧ [a.2.1] = [t]))) ea rfl A [] (fun r hr => ⟨_, rfl, ?_, fun _ => ?_⟩) (by simp only [List.length_nil, szL]; omega), ?_⟩
      · repeat walk_at "ws"
        rfl
      · repeat walk_at "ws"
        rfl
      rw [List.nil_append]
      repeat walk_at "ws"
      refine w_addL ?_ ?_
      · have := List.length_filter_le (fun a : Act => decide (¬([a.1] = [w] ∧ [a.2.1] = [t]))) A
        rw [List.length_map]
        simp only [List.length_singleton, szL]
        omega
      repeat walk_at "ws"
      refine (ask long drift many now w t L _ _ h0 (by omega) (fun r hr h => absurd h (hno r hr))).mono ?_
      rintro _ _ ⟨n2, m2, k1, k2, rfl, rfl⟩
      obtain ⟨rfl, rfl⟩ := k2 hno
      repeat walk_at "ws"
      simp only [filt_b, show b01 (!false) = 1 from rfl]
      refine ⟨by simp, a3, b3, c3', many + 1, q, _, _, c4, T4, I.take ht fun r hr => .inr (by have := hno r hr; omega), O4, ?_⟩
      rw [List.map_append]
      rfl
end K
end

section
set_option Elab.async false
set_option linter.all false
set_option maxRecDepth 100000
set_option maxHeartbeats 2000000
namespace K
open PySem PySem.Spec PyProof.Rows L2 Mir
local macro_rules | `(tactic| walk_at "lk") => `(tactic| first
  | with_unfolding_all rfl
  | assumption
  | (with_reducible apply get_ne; (· decide); walk_at "lk")
  | (with_reducible apply get_neN; (· decide); walk_at "lk")
  | (with_reducible apply get_eq; (try simp only [List.length_set]); omega)
  | (simp only [putA, wipeA, List.foldl, List.cons_append, List.nil_append]; walk_at "lk"))
local macro_rules | `(tactic| walk_at "ws") => `(tactic| first
  | with_reducible refine s_seq ?_
  | with_reducible refine s_asg ?_
  | with_reducible refine w_op ?_
  | (with_reducible refine' w_var ?e ?q; (case e => walk_at "lk"))
  | with_reducible refine w_c ?_
  | with_reducible refine g_name ?_
  | with_reducible refine g_pat1 ?_
  | with_reducible refine g_pat2 ?_
  | with_reducible refine g_pat3 ?_
  | with_reducible refine g_pat4 ?_
  | with_reducible refine g_pat5 ?_
  | (with_reducible refine' g_pat ?e ?q; (case e => with_unfolding_all rfl))
  | with_reducible refine g_sub ?_
  | with_reducible refine w_cons ?_
  | with_reducible refine w_nil ?_
  | with_reducible refine w_un ?_
  | with_reducible refine w_val ?_
  | with_reducible refine w_call ?_
  | with_reducible refine w_not ?_
  | with_reducible refine w_tru ?_
  | with_reducible refine w_tup ?_
  | with_reducible refine w_lstF ?_
  | with_reducible refine w_lstR ?_
  | with_reducible refine s_ret ?_
  | with_reducible refine s_next ?_
  | with_reducible refine s_drop ?_
  | with_reducible refine w_meth ?_
  | with_reducible refine w_attr ?_
  | with_reducible refine w_bm ?_
  | with_reducible refine w_sl ?_
  | with_reducible refine w_oN ?_
  | with_reducible refine w_oS ?_
  | with_reducible refine s_attr ?_
  | with_reducible refine s_attrA ?_
  | with_reducible refine s_del ?_
  | with_reducible refine s_par2 ?_
  | with_reducible refine s_par3 ?_
  | with_reducible refine s_par ?_
  | with_reducible refine w_dct0 ?_
  | with_reducible refine w_dctP ?_
  | with_reducible refine w_pC ?_
  | with_reducible refine w_pN ?_
  | with_reducible refine w_chain ?_
  | with_reducible refine w_yes ?_
  | with_reducible refine w_addI ?_
  | with_reducible refine w_subI ?_
  | with_reducible refine w_iaddI ?_
  | with_reducible refine w_negI ?_
  | with_reducible refine w_intI ?_
  | with_reducible refine w_intB ?_
  | with_reducible refine w_lt ?_
  | with_reducible refine w_le ?_
  | with_reducible refine w_gt ?_
  | with_reducible refine w_ge ?_
  | with_reducible refine w_eqI ?_
  | with_reducible refine w_neI ?_
  | with_reducible refine w_eqS ?_
  | with_reducible refine w_neS ?_
  | with_reducible refine w_notB ?_
  | with_reducible refine w_eqB ?_
  | with_reducible refine w_neB ?_
  | with_reducible refine w_neP ?_
  | with_reducible refine w_eqP ?_
  | with_reducible refine w_nePI ?_
  | (with_reducible refine' w_is (r := opIx _ _ _) ?e ?q; (case e => with_unfolding_all rfl))
  | (with_reducible refine' w_is (r := opAdd _ _ _) ?e ?q; (case e => with_unfolding_all rfl))
  | with_reducible refine w_sl32 ?_
  | with_reducible refine w_sl31 ?_
  | (with_reducible refine' w_is (r := opSl _ _ _ _) ?e ?q; (case e => with_unfolding_all rfl))
  | (with_reducible refine' w_is (r := fLen _ _) ?e ?q; (case e => with_unfolding_all rfl))
  | (with_reducible refine' w_is (r := fAbs _ _) ?e ?q; (case e => with_unfolding_all rfl))
  | (with_reducible refine' w_is (r := fTuple _ _) ?e ?q; (case e => with_unfolding_all rfl))
  | (with_reducible refine' w_is (r := opIsN _ _ _) ?e ?q; (case e => with_unfolding_all rfl))
  | (with_reducible refine' w_is (r := opNotN _ _ _) ?e ?q; (case e => with_unfolding_all rfl))
  | refine ⟨Nat.le_of_ble_eq_true rfl, ?_⟩
  | refine ⟨_, rfl, ?_⟩
  | refine ⟨rfl, ?_⟩
  | refine ⟨_, _, rfl, rfl, ?_⟩
  | refine ⟨_, _, _, _, rfl, rfl, rfl, ?_⟩
  | refine ⟨_, _, rfl, rfl, of_decide_eq_true rfl, ?_⟩
  | refine ⟨_, rfl, of_decide_eq_true rfl, ?_⟩
  | refine ⟨_, _, _, rfl, rfl, rfl, ?_⟩
  | refine ⟨_, _, rfl, ?_⟩
  | refine ⟨_, _, _, rfl, ?_⟩)
/-! at most one may act -/
theorem LInv.able {i : Nat} {L : List Row} {A : List Act} {now d drift : Int} {t : Nat} (h : LInv i L A now) (hd : d ≤ drift) : (A.filter fun a => decide ([a.2.1] = [t]) && decide (now - d < a.2.2 - drift)).length ≤ 1 := by
  have key : ∀ a ∈ A.filter (fun a => decide ([a.2.1] = [t]) && decide (now - d < a.2.2 - drift)), ∃ n, look t L = some (t, a.1, a.2.2, n) ∧ a.2.1 = t := fun a ha => by
    obtain ⟨ha, hf⟩ := List.mem_filter.mp ha
    rw [Bool.and_eq_true] at hf
    have e1 : a.2.1 = t := by simpa using hf.1
    have e2 := of_decide_eq_true hf.2
    rcases h.acts a ha with z | ⟨n, hn⟩
    · omega
    · rw [e1] at hn
      exact ⟨n, look_mem h.keys hn rfl, e1⟩
  have nd := h.uniq.sublist (List.filter_sublist.map (l₁ := A.filter fun a => decide ([a.2.1] = [t]) && decide (now - d < a.2.2 - drift)) (fun a : Act => (a.1, a.2.1)))
  generalize A.filter (fun a => decide ([a.2.1] = [t]) && decide (now - d < a.2.2 - drift)) = M at key nd
  match M, key, nd with
  | [], _, _ => simp
  | [_], _, _ => simp
  | a :: b :: M, key, nd =>
    obtain ⟨n, e1, e2⟩ := key a (by simp)
    obtain ⟨m, e3, e4⟩ := key b (by simp)
    rw [e1] at e3
    have e5 : a.1 = b.1 := congrArg (fun r : Row => r.2.1) (Option.some.inj e3)
    simp only [List.map_cons, List.nodup_cons, List.mem_cons, not_or] at nd
    exact absurd (by rw [e5, e2, e4]) nd.1.1
theorem may_act {long drift many : Int} {dd : Cell} {T : Store} (u x : Int) : RP (m_Leases_may_act [.ref 1, .int u, .int x] (dd :: LC long drift many :: T)) (fun v S' => v = .bl (decide (x < u - drift)) ∧ S' = dd :: LC long drift many :: T) noX := by
  unfold m_Leases_may_act
  refine w_fdef rfl ?_
  repeat walk_at "ws"
  rfl
theorem safe {i : Nat} {L : List Row} {A : List Act} {now d long drift many : Int} {dd r c3 : Cell} {q : Nat} {T : Store} (I : LInv i L A now) (hd : d ≤ drift) (hi : i < 1000) :
    RP (m__law_safe [.ref 4, .ref 1, .int now, .int d] (dd :: LC long drift many :: r :: c3 :: OC now long drift q many (A.map ea) :: T)) (fun v S' => v = .bl true ∧ S' = dd :: LC long drift many :: r :: c3 :: OC now long drift q many (A.map ea) :: T) noX := by
  have hA := I.len
  unfold m__law_safe
  refine w_fdef rfl ?_
  refine s_seq (s_for (i_seq ?_))
  repeat walk_at "ws"
  refine s_forCons rfl ?_
  repeat walk_at "ws"
  refine w_lc (i_seq ?_)
  repeat walk_at "ws"
  refine ⟨_, _, lcL_pure (T := Act) ea (fun a => decide ([a.2.1] = [120]) && decide (now - d < a.2.2 - drift)) (fun a => .str [a.1]) rfl A [] (fun r hr => ⟨_, rfl, t_and ?_ fun _ => ?_, fun _ => ?_⟩) (by simp only [List.length_nil, szL]; omega), ?_⟩
  · repeat walk_at "ws"
    rfl
  · repeat walk_at "ws"
    rfl
  · repeat walk_at "ws"
    rfl
  rw [List.nil_append]
  repeat walk_at "ws"
  refine s_ifF ?_
  repeat walk_at "ws"
  refine ⟨decide_eq_false (by rw [List.length_map]; have := I.able (t := 120) hd; omega), ?_⟩
  repeat walk_at "ws"
  refine s_forCons rfl ?_
  repeat walk_at "ws"
  refine w_lc (i_seq ?_)
  repeat walk_at "ws"
  refine ⟨_, _, lcL_pure (T := Act) ea (fun a => decide ([a.2.1] = [121]) && decide (now - d < a.2.2 - drift)) (fun a => .str [a.1]) rfl A [] (fun r hr => ⟨_, rfl, t_and ?_ fun _ => ?_, fun _ => ?_⟩) (by simp only [List.length_nil, szL]; omega), ?_⟩
  · repeat walk_at "ws"
    rfl
  · repeat walk_at "ws"
    rfl
  · repeat walk_at "ws"
    rfl
  rw [List.nil_append]
  repeat walk_at "ws"
  refine s_ifF ?_
  repeat walk_at "ws"
  refine ⟨decide_eq_false (by rw [List.length_map]; have := I.able (t := 121) hd; omega), ?_⟩
  repeat walk_at "ws"
  rfl
/-! who holds -/
inductive Sh {β : Type} : List (Nat × β) → Prop where
  | nil : Sh []
  | x (a : β) : Sh [(120, a)]
  | y (a : β) : Sh [(121, a)]
  | xy (a b : β) : Sh [(120, a), (121, b)]
  | yx (a b : β) : Sh [(121, a), (120, b)]
def srt {β : Type} : List (Nat × β) → List (Nat × β)
  | [a, b] => if b.1 < a.1 then [b, a] else [a, b]
  | P => P
theorem sh_of {β : Type} : ∀ {P : List (Nat × β)}, (P.map (·.1)).Nodup → (∀ p ∈ P, p.1 = 120 ∨ p.1 = 121) → Sh P
  | [], _, _ => .nil
  | [(k, a)], _, h => by
    have e : k = 120 ∨ k = 121 := h (k, a) (by simp)
    rcases e with e | e
    · subst e; exact .x a
    · subst e; exact .y a
  | [(k, a), (l, b)], n, h => by
    have h1 : k = 120 ∨ k = 121 := h (k, a) (by simp)
    have h2 : l = 120 ∨ l = 121 := h (l, b) (by simp)
    have hn : k ≠ l := by simpa using n
    rcases h1 with rfl | rfl <;> rcases h2 with rfl | rfl
    · exact absurd rfl hn
    · exact .xy a b
    · exact .yx a b
    · exact absurd rfl hn
  | a :: b :: c :: r, n, h => by
    simp only [List.map_cons, List.nodup_cons, List.mem_cons, not_or] at n
    have h1 := h a (by simp); have h2 := h b (by simp); have h3 := h c (by simp)
    have := n.1.1; have := n.1.2.1; have := n.2.1.1
    omega
theorem LInv.sh {i : Nat} {L : List Row} {A : List Act} {now : Int} (h : LInv i L A now) : Sh L := sh_of h.keys h.kx
abbrev kw (p : Nat × Nat) : DK × AV := (.a (.s [p.1]), .str [p.2])
abbrev hl (now drift : Int) (r : Row) : Bool := decide (now < r.2.2.1 + drift)
abbrev hw (r : Row) : Nat × Nat := (r.1, r.2.1)
theorem sh_hold {L : List Row} (f : Row → Bool) (h : Sh L) : Sh ((L.filter f).map hw) ∧ srt ((L.filter f).map hw) = ((srt L).filter f).map hw := by
  cases h with
  | nil => exact ⟨.nil, rfl⟩
  | x a =>
    rw [List.filter_cons]
    split
    · rename_i e; exact ⟨.x _, by simp [srt, e, List.filter_cons]⟩
    · rename_i e; exact ⟨.nil, by simp [srt, e, List.filter_cons]⟩
  | y a =>
    rw [List.filter_cons]
    split
    · rename_i e; exact ⟨.y _, by simp [srt, e, List.filter_cons]⟩
    · rename_i e; exact ⟨.nil, by simp [srt, e, List.filter_cons]⟩
  | xy a b =>
    rw [List.filter_cons, List.filter_cons]
    split <;> split <;> rename_i e1 e2
    · exact ⟨.xy _ _, by simp [srt, e1, e2, List.filter_cons]⟩
    · exact ⟨.x _, by simp [srt, e1, e2, List.filter_cons]⟩
    · exact ⟨.y _, by simp [srt, e1, e2, List.filter_cons]⟩
    · exact ⟨.nil, by simp [srt, e1, e2, List.filter_cons]⟩
  | yx a b =>
    rw [List.filter_cons, List.filter_cons]
    split <;> split <;> rename_i e1 e2
    · exact ⟨.yx _ _, by simp [srt, e1, e2, List.filter_cons]⟩
    · exact ⟨.y _, by simp [srt, e1, e2, List.filter_cons]⟩
    · exact ⟨.x _, by simp [srt, e1, e2, List.filter_cons]⟩
    · exact ⟨.nil, by simp [srt, e1, e2, List.filter_cons]⟩
theorem le1 : PySem.W.dataLe false pd (.str [120]) (.str [121]) = true := by rfl
theorem le2 : PySem.W.dataLe false pd (.str [121]) (.str [120]) = false := by rfl
theorem le3 (a b : Nat × Int × Int) : PySem.W.dataLe false pd (er (120, a)) (er (121, b)) = true := by rfl
theorem le4 (a b : Nat × Int × Int) : PySem.W.dataLe false pd (er (121, a)) (er (120, b)) = false := by rfl
theorem sort_keys {P : List (Nat × Nat)} (h : Sh P) {S : Store} {n : Nat} (e : S[n]? = some (.dct (P.map kw))) {Q : AV → Store → Prop} {X : Xp} (q : Q (.lst ((srt P).map fun p => .str [p.1])) S) : RP (fSortedD [.ref n] S) Q X := by
  refine w_is (v := .lst ((srt P).map fun p => .str [p.1])) (S' := S) ?_ q
  have key : ∀ ks : List AV, dKeys (P.map kw) = ks → flatK (P.map kw) = true → sortOk ks = true → sortA ks = (srt P).map (fun p => .str [p.1]) → fSortedD [.ref n] S = .ok (.lst ((srt P).map fun p => .str [p.1])) S := fun ks e1 e2 e3 e4 => by
    simp only [fSortedD, flatOf, e, e2, if_true, e1, e3, e4]
  cases h with
  | nil => exact key [] rfl rfl rfl (by simp [sortA, srt])
  | x a => exact key [.str [120]] rfl rfl rfl (by simp [sortA, srt])
  | y a => exact key [.str [121]] rfl rfl rfl (by simp [sortA, srt])
  | xy a b => exact key [.str [120], .str [121]] rfl rfl rfl (by unfold sortA; rw [sort2, le1]; rfl)
  | yx a b => exact key [.str [121], .str [120]] rfl rfl rfl (by unfold sortA; rw [sort2, le2]; rfl)
theorem sort_items {L : List Row} (h : Sh L) : sortOk (dItems (L.map kv)) = true ∧ sortA (dItems (L.map kv)) = (srt L).map er ∧ flatK (L.map kv) = true := by
  cases h with
  | nil => exact ⟨rfl, by simp [sortA, srt, dItems], rfl⟩
  | x a => exact ⟨rfl, by simp [sortA, srt, dItems, dkV, akV], rfl⟩
  | y a => exact ⟨rfl, by simp [sortA, srt, dItems, dkV, akV], rfl⟩
  | xy a b => exact ⟨rfl, by show List.mergeSort [er (120, a), er (121, b)] _ = _; rw [sort2, le3]; rfl, rfl⟩
  | yx a b => exact ⟨rfl, by show List.mergeSort [er (121, a), er (120, b)] _ = _; rw [sort2, le4]; rfl, rfl⟩
end K
end

section
set_option Elab.async false
set_option linter.all false
set_option maxRecDepth 100000
set_option maxHeartbeats 2000000
namespace K
open PySem PySem.Spec PyProof.Rows L2 Mir
local macro_rules | `(tactic| walk_at "lk") => `(tactic| first
  | with_unfolding_all rfl
  | assumption
  | (with_reducible apply get_ne; (· decide); walk_at "lk")
  | (with_reducible apply get_neN; (· decide); walk_at "lk")
  | (with_reducible apply get_eq; (try simp only [List.length_set]); omega)
  | (simp only [putA, wipeA, List.foldl, List.cons_append, List.nil_append]; walk_at "lk"))
local macro_rules | `(tactic| walk_at "ws") => `(tactic| first
  | with_reducible refine s_seq ?_
  | with_reducible refine s_asg ?_
  | with_reducible refine w_op ?_
  | (with_reducible refine' w_var ?e ?q; (case e => walk_at "lk"))
  | with_reducible refine w_c ?_
  | with_reducible refine g_name ?_
  | with_reducible refine g_pat1 ?_
  | with_reducible refine g_pat2 ?_
  | with_reducible refine g_pat3 ?_
  | with_reducible refine g_pat4 ?_
  | with_reducible refine g_pat5 ?_
  | (with_reducible refine' g_pat ?e ?q; (case e => with_unfolding_all rfl))
  | with_reducible refine g_sub ?_
  | with_reducible refine w_cons ?_
  | with_reducible refine w_nil ?_
  | with_reducible refine w_un ?_
  | with_reducible refine w_val ?_
  | with_reducible refine w_call ?_
  | with_reducible refine w_not ?_
  | with_reducible refine w_tru ?_
  | with_reducible refine w_tup ?_
  | with_reducible refine w_lstF ?_
  | with_reducible refine w_lstR ?_
  | with_reducible refine s_ret ?_
  | with_reducible refine s_next ?_
  | with_reducible refine s_drop ?_
  | with_reducible refine w_meth ?_
  | with_reducible refine w_attr ?_
  | with_reducible refine w_bm ?_
  | with_reducible refine w_sl ?_
  | with_reducible refine w_oN ?_
  | with_reducible refine w_oS ?_
  | with_reducible refine s_attr ?_
  | with_reducible refine s_attrA ?_
  | with_reducible refine s_del ?_
  | with_reducible refine s_par2 ?_
  | with_reducible refine s_par3 ?_
  | with_reducible refine s_par ?_
  | with_reducible refine w_dct0 ?_
  | with_reducible refine w_dctP ?_
  | with_reducible refine w_pC ?_
  | with_reducible refine w_pN ?_
  | with_reducible refine w_chain ?_
  | with_reducible refine w_yes ?_
  | with_reducible refine w_addI ?_
  | with_reducible refine w_subI ?_
  | with_reducible refine w_iaddI ?_
  | with_reducible refine w_negI ?_
  | with_reducible refine w_intI ?_
  | with_reducible refine w_intB ?_
  | with_reducible refine w_lt ?_
  | with_reducible refine w_le ?_
  | with_reducible refine w_gt ?_
  | with_reducible refine w_ge ?_
  | with_reducible refine w_eqI ?_
  | with_reducible refine w_neI ?_
  | with_reducible refine w_eqS ?_
  | with_reducible refine w_neS ?_
  | with_reducible refine w_notB ?_
  | with_reducible refine w_eqB ?_
  | with_reducible refine w_neB ?_
  | with_reducible refine w_neP ?_
  | with_reducible refine w_eqP ?_
  | with_reducible refine w_nePI ?_
  | (with_reducible refine' w_is (r := opIx _ _ _) ?e ?q; (case e => with_unfolding_all rfl))
  | (with_reducible refine' w_is (r := opAdd _ _ _) ?e ?q; (case e => with_unfolding_all rfl))
  | with_reducible refine w_sl32 ?_
  | with_reducible refine w_sl31 ?_
  | (with_reducible refine' w_is (r := opSl _ _ _ _) ?e ?q; (case e => with_unfolding_all rfl))
  | (with_reducible refine' w_is (r := fLen _ _) ?e ?q; (case e => with_unfolding_all rfl))
  | (with_reducible refine' w_is (r := fAbs _ _) ?e ?q; (case e => with_unfolding_all rfl))
  | (with_reducible refine' w_is (r := fTuple _ _) ?e ?q; (case e => with_unfolding_all rfl))
  | (with_reducible refine' w_is (r := opIsN _ _ _) ?e ?q; (case e => with_unfolding_all rfl))
  | (with_reducible refine' w_is (r := opNotN _ _ _) ?e ?q; (case e => with_unfolding_all rfl))
  | refine ⟨Nat.le_of_ble_eq_true rfl, ?_⟩
  | refine ⟨_, rfl, ?_⟩
  | refine ⟨rfl, ?_⟩
  | refine ⟨_, _, rfl, rfl, ?_⟩
  | refine ⟨_, _, _, _, rfl, rfl, rfl, ?_⟩
  | refine ⟨_, _, rfl, rfl, of_decide_eq_true rfl, ?_⟩
  | refine ⟨_, rfl, of_decide_eq_true rfl, ?_⟩
  | refine ⟨_, _, _, rfl, rfl, rfl, ?_⟩
  | refine ⟨_, _, rfl, ?_⟩
  | refine ⟨_, _, _, rfl, ?_⟩)
theorem sh_look {P : List (Nat × Nat)} (h : Sh P) : ∀ p ∈ srt P, dlook (.a (.s [p.1])) (P.map kw) = some (.str [p.2]) := by
  intro p hp
  cases h with
  | nil => simp [srt] at hp
  | x a => simp [srt] at hp; subst hp; rfl
  | y a => simp [srt] at hp; subst hp; rfl
  | xy a b => simp [srt] at hp; rcases hp with rfl | rfl <;> rfl
  | yx a b => simp [srt] at hp; rcases hp with rfl | rfl <;> rfl
theorem sh_fits {P : List (Nat × Nat)} (h : Sh P) (k : AK) : fits (.a k) (P.map kw) = true := by
  cases h <;> rfl
theorem flt {α : Type} (l : List α) : l.filter (fun _ => true) = l := List.filter_eq_self.mpr fun _ _ => rfl
theorem sh_keys {P : List (Nat × Nat)} (h : Sh P) : ((srt P).map fun x => DK.a (AK.s [x.1])).Nodup ∧ (srt P).length ≤ 2 := by
  cases h <;> simp [srt]
theorem ix_kw {P : List (Nat × Nat)} (h : Sh P) {S : Store} {n : Nat} (e : S[n]? = some (.dct (P.map kw))) {p : Nat × Nat} (hp : p ∈ srt P) {Q : AV → Store → Prop} {X : Xp} (q : Q (.str [p.2]) S) : RP (opIx (.ref n) (.str [p.1]) S) Q X := by
  refine w_is (v := .str [p.2]) (S' := S) ?_ q
  simp only [opIx, seqOf, lstOf, e, keyOf, akOf, dlk, sh_fits h, if_true, sh_look h p hp]
theorem who_holds {long drift many now : Int} {d : Cell} {L : List Row} {T : Store} (h : Sh L) (hn : (L.map (·.1)).Nodup) (h2 : L.length ≤ 2) :
    RP (m_Leases_who_holds [.ref 1, .int now] (d :: LC long drift many :: .dct (L.map kv) :: T)) (fun v S' => ∃ c, v = .ref (T.length + 4) ∧ S' = d :: LC long drift many :: .dct (L.map kv) :: (T ++ [c, .dct ((srt ((L.filter (hl now drift)).map hw)).map kw)])) noX := by
  have h3 := (sh_hold (hl now drift) h).1
  unfold m_Leases_who_holds
  refine w_fdef rfl ?_
  repeat walk_at "ws"
  refine w_dc (i_dict ?_)
  repeat walk_at "ws"
  refine ⟨_, _, dsrc_kv (n := 2) rfl, _, _, dcL_pure (T := Row) er (hl now drift) (fun r => .s [r.1]) (fun r => .str [r.2.1]) rfl L [] (fun r hr => ⟨_, rfl, ?_, fun _ => ⟨?_, ?_⟩⟩) ?_ (by simp only [List.length_nil, szL]; omega), ?_⟩
  · repeat walk_at "ws"
    rfl
  · repeat walk_at "ws"
    rfl
  · repeat walk_at "ws"
    rfl
  · have := hn.sublist (List.filter_sublist (p := hl now drift) |>.map (·.1))
    rw [List.map_nil, List.nil_append]
    have e : ((L.filter (hl now drift)).map fun x => DK.a (AK.s [x.1])) = ((L.filter (hl now drift)).map (·.1)).map fun k => DK.a (AK.s [k]) := by rw [List.map_map]; rfl
    rw [e]
    exact this.map _ fun a b hab z => hab (by simpa using z)
  rw [List.nil_append, show (fun x : Row => (DK.a (AK.s [x.1]), AV.str [x.2.1])) = kw ∘ hw from rfl, ← List.map_map]
  generalize (L.filter (hl now drift)).map hw = P at h3 ⊢
  repeat walk_at "ws"
  refine w_dc (i_seq ?_)
  repeat walk_at "ws"
  refine sort_keys h3 (n := T.length + 3) (by show (T ++ [Cell.dct _])[T.length]? = _; simp) ?_
  repeat walk_at "ws"
  refine ⟨_, _, dcL_pure (T := Nat × Nat) (fun p => .str [p.1]) (fun _ => true) (fun p => .s [p.1]) (fun p => .str [p.2]) rfl (srt P) [] (fun p hp => ⟨_, rfl, ?_, fun _ => ⟨?_, ?_⟩⟩) ?_ ?_, ?_⟩
  · repeat walk_at "ws"
    rfl
  · repeat walk_at "ws"
    rfl
  · repeat walk_at "ws"
    refine ix_kw h3 (n := T.length + 3) (by show (T ++ [Cell.dct _])[T.length]? = _; simp) hp ?_
    repeat walk_at "ws"
    rfl
  · rw [flt]; exact (sh_keys h3).1
  · have := (sh_keys h3).2
    simp only [List.length_nil, szL]; omega
  rw [flt]
  refine ⟨.dct (P.map kw), ?_, ?_⟩
  · show AV.ref ((T ++ [Cell.dct (P.map kw)]).length + 3) = _
    rw [List.length_append]
    rfl
  · show d :: LC long drift many :: Cell.dct (L.map kv) :: ((T ++ [Cell.dct (P.map kw)]) ++ [Cell.dct (([] : List (DK × AV)) ++ (srt P).map kw)]) = _
    rw [List.append_assoc]
    rfl
end K
end

section
set_option Elab.async false
set_option linter.all false
set_option maxRecDepth 100000
set_option maxHeartbeats 2000000
namespace K
open PySem PySem.Spec PyProof.Rows L2 Mir
local macro_rules | `(tactic| walk_at "lk") => `(tactic| first
  | with_unfolding_all rfl
  | assumption
  | (with_reducible apply get_ne; (· decide); walk_at "lk")
  | (with_reducible apply get_neN; (· decide); walk_at "lk")
  | (with_reducible apply get_eq; (try simp only [List.length_set]); omega)
  | (simp only [putA, wipeA, List.foldl, List.cons_append, List.nil_append]; walk_at "lk"))
local macro_rules | `(tactic| walk_at "ws") => `(tactic| first
  | with_reducible refine s_seq ?_
  | with_reducible refine s_asg ?_
  | with_reducible refine w_op ?_
  | (with_reducible refine' w_var ?e ?q; (case e => walk_at "lk"))
  | with_reducible refine w_c ?_
  | with_reducible refine g_name ?_
  | with_reducible refine g_pat1 ?_
  | with_reducible refine g_pat2 ?_
  | with_reducible refine g_pat3 ?_
  | with_reducible refine g_pat4 ?_
  | with_reducible refine g_pat5 ?_
  | (with_reducible refine' g_pat ?e ?q; (case e => with_unfolding_all rfl))
  | with_reducible refine g_sub ?_
  | with_reducible refine w_cons ?_
  | with_reducible refine w_nil ?_
  | with_reducible refine w_un ?_
  | with_reducible refine w_val ?_
  | with_reducible refine w_call ?_
  | with_reducible refine w_not ?_
  | with_reducible refine w_tru ?_
  | with_reducible refine w_tup ?_
  | with_reducible refine w_lstF ?_
  | with_reducible refine w_lstR ?_
  | with_reducible refine s_ret ?_
  | with_reducible refine s_next ?_
  | with_reducible refine s_drop ?_
  | with_reducible refine w_meth ?_
  | with_reducible refine w_attr ?_
  | with_reducible refine w_bm ?_
  | with_reducible refine w_sl ?_
  | with_reducible refine w_oN ?_
  | with_reducible refine w_oS ?_
  | with_reducible refine s_attr ?_
  | with_reducible refine s_attrA ?_
  | with_reducible refine s_del ?_
  | with_reducible refine s_par2 ?_
  | with_reducible refine s_par3 ?_
  | with_reducible refine s_par ?_
  | with_reducible refine w_dct0 ?_
  | with_reducible refine w_dctP ?_
  | with_reducible refine w_pC ?_
  | with_reducible refine w_pN ?_
  | with_reducible refine w_chain ?_
  | with_reducible refine w_yes ?_
  | with_reducible refine w_addI ?_
  | with_reducible refine w_subI ?_
  | with_reducible refine w_iaddI ?_
  | with_reducible refine w_negI ?_
  | with_reducible refine w_intI ?_
  | with_reducible refine w_intB ?_
  | with_reducible refine w_lt ?_
  | with_reducible refine w_le ?_
  | with_reducible refine w_gt ?_
  | with_reducible refine w_ge ?_
  | with_reducible refine w_eqI ?_
  | with_reducible refine w_neI ?_
  | with_reducible refine w_eqS ?_
  | with_reducible refine w_neS ?_
  | with_reducible refine w_notB ?_
  | with_reducible refine w_eqB ?_
  | with_reducible refine w_neB ?_
  | with_reducible refine w_neP ?_
  | with_reducible refine w_eqP ?_
  | with_reducible refine w_nePI ?_
  | (with_reducible refine' w_is (r := opIx _ _ _) ?e ?q; (case e => with_unfolding_all rfl))
  | (with_reducible refine' w_is (r := opAdd _ _ _) ?e ?q; (case e => with_unfolding_all rfl))
  | with_reducible refine w_sl32 ?_
  | with_reducible refine w_sl31 ?_
  | (with_reducible refine' w_is (r := opSl _ _ _ _) ?e ?q; (case e => with_unfolding_all rfl))
  | (with_reducible refine' w_is (r := fLen _ _) ?e ?q; (case e => with_unfolding_all rfl))
  | (with_reducible refine' w_is (r := fAbs _ _) ?e ?q; (case e => with_unfolding_all rfl))
  | (with_reducible refine' w_is (r := fTuple _ _) ?e ?q; (case e => with_unfolding_all rfl))
  | (with_reducible refine' w_is (r := opIsN _ _ _) ?e ?q; (case e => with_unfolding_all rfl))
  | (with_reducible refine' w_is (r := opNotN _ _ _) ?e ?q; (case e => with_unfolding_all rfl))
  | refine ⟨Nat.le_of_ble_eq_true rfl, ?_⟩
  | refine ⟨_, rfl, ?_⟩
  | refine ⟨rfl, ?_⟩
  | refine ⟨_, _, rfl, rfl, ?_⟩
  | refine ⟨_, _, _, _, rfl, rfl, rfl, ?_⟩
  | refine ⟨_, _, rfl, rfl, of_decide_eq_true rfl, ?_⟩
  | refine ⟨_, rfl, of_decide_eq_true rfl, ?_⟩
  | refine ⟨_, _, _, rfl, rfl, rfl, ?_⟩
  | refine ⟨_, _, rfl, ?_⟩
  | refine ⟨_, _, _, rfl, ?_⟩)
theorem flat_kv {S : Store} {n : Nat} {L : List Row} (h : S[n]? = some (.dct (L.map kv))) (hs : Sh L) : flatOf S (.ref n) = some (L.map kv) := by
  simp only [flatOf, h, (sort_items hs).2.2, if_true]
theorem flat_kw {S : Store} {n : Nat} {P : List (Nat × Nat)} (h : S[n]? = some (.dct ((srt P).map kw))) (hs : Sh P) : flatOf S (.ref n) = some ((srt P).map kw) := by
  have e : flatK ((srt P).map kw) = true := by cases hs <;> rfl
  simp only [flatOf, h, e, if_true]
theorem at4 (d1 d2 d3 c x : Cell) (T : Store) : (d1 :: d2 :: d3 :: (T ++ [c, x]))[T.length + 4]? = some x := by
  show (T ++ [c, x])[T.length + 1]? = _
  simp
abbrev ep (p : Nat × Nat) : AV := .tup [.str [p.1], .str [p.2]]
theorem fdict_kw {S : Store} {P : List (Nat × Nat)} (hs : Sh P) {Q : AV → Store → Prop} {X : Xp} (q : Q (.ref S.length) (S ++ [.dct ((srt P).map kw)])) : RP (fDict [.lst ((srt P).map ep)] S) Q X := by
  refine w_is (v := .ref S.length) (S' := S ++ [.dct ((srt P).map kw)]) ?_ q
  cases hs <;> rfl
theorem ne_items {S : Store} {P : List (Nat × Nat)} (hs : Sh P) {Q : AV → Store → Prop} {X : Xp} (q : Q (.bl false) S) : RP (opNe (.lst (dItems ((srt P).map kw))) (.lst (dItems ((srt P).map kw))) S) Q X := by
  refine w_is (v := .bl false) (S' := S) ?_ q
  cases hs <;> simp [opNe, aeq, srt, dItems, tupOf, lstOf, eqMin, dkV, akV]
theorem aeq_dct {S : Store} {m n k : Nat} {kvs lvs : List (DK × AV)} (h1 : S[m]? = some (.dct kvs)) (h2 : S[n]? = some (.dct lvs)) : aeq true (k + 1) S (.ref m) (.ref n) = if (allA kvs && allA lvs) = true then (if kvs.length = lvs.length then eqHits (aeq true k S) lvs kvs else some false) else none := by
  unfold aeq
  simp only [tupOf, lstOf, h1, h2, dctOf, if_true]
theorem aeq_rv {S : Store} (k : Nat) (r : Row) : aeq true (k + 2) S (rv r) (rv r) = some true := by
  simp [aeq, tupOf, eqMin]
theorem hits_kv {f : AV → AV → Option Bool} (hf : ∀ r, f (rv r) (rv r) = some true) {L : List Row} : ∀ M : List Row, (∀ r ∈ M, look r.1 L = some r) → eqHits f (L.map kv) (M.map kv) = some true
  | [], _ => rfl
  | r :: M, h => by
    show (match dlook (.a (.s [r.1])) (L.map kv) with
      | none => some false
      | some y => match f (rv r) y, eqHits f (L.map kv) (M.map kv) with
        | some a, some b => some (a && b)
        | _, _ => none) = _
    rw [dlook_kv, h r List.mem_cons_self]
    dsimp only [Option.map]
    rw [hf, hits_kv hf M fun x hx => h x (List.mem_cons_of_mem _ hx)]
    rfl
theorem ne_rows {S : Store} {m n : Nat} {L : List Row} (h1 : S[m]? = some (.dct (L.map kv))) (h2 : S[n]? = some (.dct (L.map kv))) (hs : (L.map (·.1)).Nodup) {Q : AV → Store → Prop} {X : Xp} (q : Q (.bl false) S) : RP (opNe (.ref m) (.ref n) S) Q X := by
  refine w_is (v := .bl false) (S' := S) ?_ q
  have e3 : allA (L.map kv) = true := by
    clear h1 h2 hs
    induction L with
    | nil => rfl
    | cons r L ih => exact ih
  have e : aeq true 64 S (.ref m) (.ref n) = some true := by
    rw [aeq_dct (k := 63) h1 h2, e3, Bool.and_self, if_pos rfl, if_pos rfl, hits_kv (aeq_rv 61) L fun r hr => look_mem hs hr rfl]
  unfold opNe
  rw [e]
  rfl
/-- between the deeds -/
def In1 (long drift : Int) (i : Nat) (Λ : LEnv) (S : Store) : Prop := Λ.length = 35 ∧ Λ[1]? = some (some (.ref 0)) ∧ Λ[3]? = some (some (.int drift)) ∧ Λ[4]? = some (some (.ref 1)) ∧ Λ[5]? = some (some (.ref 4)) ∧ i < 999 ∧
  ∃ a b c now many q L A c3 T, LInv i L A now ∧ Own c3 T q (L.map kv) ∧ 0 ≤ now ∧ S = D a b c :: LC long drift many :: .dct (L.map kv) :: c3 :: OC now long drift (q + 3) many (A.map ea) :: T
theorem turn1 {long drift : Int} {i : Nat} {Λ : LEnv} {S : Store} {R : AV → Store → Prop} (hd : 0 ≤ drift) (h : In1 long drift i Λ S) (hi : i < 900) : SW (sSeq lw0 (sSeq lw1 (sSeq lw2 (sSeq lw3 lw4))) Λ S) (In1 long drift (i + 1)) R noX := by
  obtain ⟨hlen, h1, h3, h4, h5, _, a, b, c, now, many, q, L, A, c3, T, I, O, h0, rfl⟩ := h
  refine s_seq ?_
  unfold lw0
  repeat walk_at "ws"
  refine (roll a b c 5 _ (by decide) (by decide)).mono ?_
  rintro _ _ ⟨r, a1, b1, c1, rfl, hr0, hr1, rfl⟩
  repeat walk_at "ws"
  unfold lw1
  refine s_ifF (w_orF ?_)
  repeat walk_at "ws"
  have I2 := I.now (now' := now + r) (by omega)
  refine (deed (long := long) (drift := drift) (many := many) I2 O (by omega) hd (by omega)).mono ?_
  rintro _ _ ⟨rfl, a2, b2, c2, many2, q2, L2, A2, c4, T2, J, O2, rfl⟩
  refine ⟨true, rfl, rfl, w_orF ?_⟩
  repeat walk_at "ws"
  refine ne_rows rfl (n := q2 + 3) (O2 _) J.keys ?_
  repeat walk_at "ws"
  refine ⟨by simp, ?_⟩
  repeat walk_at "ws"
  have hs := J.sh
  have h2 := J.L2
  obtain ⟨hh, he⟩ := sh_hold (hl (now + r) drift) hs
  unfold lw2
  repeat walk_at "ws"
  refine w_lc (i_seq (w_sortIt ?_))
  repeat walk_at "ws"
  refine ⟨_, flat_kv (n := q2 + 3) (O2 _) hs, (sort_items hs).1, ?_⟩
  rw [(sort_items hs).2.1]
  have hz : (srt L2).length ≤ 2 := by cases hs <;> simp [srt]
  refine ⟨_, _, rfl, _, _, lcL_pure (T := Row) er (hl (now + r) drift) (fun x => ep (hw x)) rfl (srt L2) [] (fun x hx => ⟨_, rfl, ?_, fun _ => ?_⟩) (by simp only [List.length_nil, szL]; omega), ?_⟩
  · repeat walk_at "ws"
    rfl
  · repeat walk_at "ws"
    rfl
  rw [List.nil_append, show (fun x : Row => ep (hw x)) = ep ∘ hw from rfl, ← List.map_map, ← he]
  repeat walk_at "ws"
  refine fdict_kw hh ?_
  repeat walk_at "ws"
  unfold lw3
  refine s_ifF ?_
  repeat walk_at "ws"
  refine w_listIt ?_
  repeat walk_at "ws"
  refine (who_holds hs J.keys h2).mono ?_
  rintro _ _ ⟨c5, rfl, rfl⟩
  refine ⟨_, flat_kw (at4 _ _ _ _ _ _) hh, ?_⟩
  repeat walk_at "ws"
  refine w_listIt ?_
  repeat walk_at "ws"
  refine ⟨_, flat_kw (n := T2.length + 5) (by show ((T2 ++ [Cell.dct _]) ++ [_, _])[T2.length]? = _; simp) hh, ?_⟩
  repeat walk_at "ws"
  refine ne_items hh ?_
  repeat walk_at "ws"
  unfold lw4
  refine s_ifF (w_orF ?_)
  repeat walk_at "ws"
  refine (safe (d := drift) J (Int.le_refl _) (by omega)).mono ?_
  rintro _ _ ⟨rfl, rfl⟩
  refine ⟨true, rfl, rfl, ?_⟩
  repeat walk_at "ws"
  refine (safe (d := -drift) J (by omega) (by omega)).mono ?_
  rintro _ _ ⟨rfl, rfl⟩
  refine ⟨true, rfl, rfl, ?_⟩
  repeat walk_at "ws"
  exact ⟨by rw [List.length_set]; exact hlen, get_ne (by decide) h1, get_ne (by decide) h3, get_ne (by decide) h4, get_ne (by decide) h5, by omega, a2, b2, c2, now + r, many2, q2, L2, A2, c4, _, J, O2.more.more, by omega, rfl⟩
theorem rng_ok {i : Int} (h0 : 0 ≤ i) (h1 : i < 1000000) : rng62 i = true := by
  unfold rng62
  rw [Bool.and_eq_true]
  exact ⟨decide_eq_true (by omega), decide_eq_true (by omega)⟩
theorem rng_at {n i : Nat} {x : AV} {f : Nat → AV} (h : ((List.range n).map f)[i]? = some x) : i < n ∧ x = f i := by
  rw [List.getElem?_map, Option.map_eq_some_iff] at h
  obtain ⟨k, hk, rfl⟩ := h
  obtain ⟨h1, h2⟩ := List.getElem?_eq_some_iff.mp hk
  rw [List.length_range] at h1
  rw [List.getElem_range] at h2
  exact ⟨h1, by rw [h2]⟩
/-- between the law's parts -/
def Bet (Λ : LEnv) (S : Store) : Prop := Λ.length = 35 ∧ Λ[1]? = some (some (.ref 0)) ∧ ∃ a b c T, S = D a b c :: T
theorem part1 {long drift : Int} {Λ : LEnv} {S : Store} {N : LEnv → Store → Prop} {R : AV → Store → Prop} (hd : 0 ≤ drift) (h : In1 long drift 0 Λ S) (hN : ∀ Λ S, Bet Λ S → N Λ S) : SW (lw19 Λ S) N R noX := by
  obtain ⟨hlen, h1, h3, h4, h5, _, a, b, c, now, many, q, L, A, c3, T, I, O, h0, rfl⟩ := h
  unfold lw19
  refine s_for (i_range1 ?_)
  repeat walk_at "ws"
  refine (roll a b c 24 _ (by decide) (by decide)).mono ?_
  rintro _ _ ⟨r, a1, b1, c1, rfl, hr0, hr1, rfl⟩
  refine ⟨_, rfl, rng_ok hr0 (by omega), rfl, s_forL (In1 long drift) ?_ (fun _ _ _ _ => rfl) (fun i x Λ S hx h => ?_) (fun Λ S h => ?_)⟩
  · exact ⟨hlen, h1, h3, h4, h5, by omega, a1, b1, c1, now, many, q, L, A, c3, T, I, O, h0, rfl⟩
  · obtain ⟨hx, rfl⟩ := rng_at hx
    refine g_pat1 (turn1 hd ?_ (by omega))
    obtain ⟨hlen, h1, h3, h4, h5, hi, h⟩ := h
    exact ⟨by rw [List.length_set]; exact hlen, get_ne (by decide) h1, get_ne (by decide) h3, get_ne (by decide) h4, get_ne (by decide) h5, hi, h⟩
  · obtain ⟨hlen, h1, h3, h4, h5, _, a, b, c, now, many, q, L, A, c3, T, I, O, h0, rfl⟩ := h
    exact hN _ _ ⟨hlen, h1, _, _, _, _, rfl⟩
end K
end

section
set_option Elab.async false
set_option linter.all false
set_option maxRecDepth 100000
set_option maxHeartbeats 2000000
namespace K
open PySem PySem.Spec PyProof.Rows L2 Mir
local macro_rules | `(tactic| walk_at "lk") => `(tactic| first
  | with_unfolding_all rfl
  | assumption
  | (with_reducible apply get_ne; (· decide); walk_at "lk")
  | (with_reducible apply get_neN; (· decide); walk_at "lk")
  | (with_reducible apply get_eq; (try simp only [List.length_set]); omega)
  | (simp only [putA, wipeA, List.foldl, List.cons_append, List.nil_append]; walk_at "lk"))
local macro_rules | `(tactic| walk_at "ws") => `(tactic| first
  | with_reducible refine s_seq ?_
  | with_reducible refine s_asg ?_
  | with_reducible refine w_op ?_
  | (with_reducible refine' w_var ?e ?q; (case e => walk_at "lk"))
  | with_reducible refine w_c ?_
  | with_reducible refine g_name ?_
  | with_reducible refine g_pat1 ?_
  | with_reducible refine g_pat2 ?_
  | with_reducible refine g_pat3 ?_
  | with_reducible refine g_pat4 ?_
  | with_reducible refine g_pat5 ?_
  | (with_reducible refine' g_pat ?e ?q; (case e => with_unfolding_all rfl))
  | with_reducible refine g_sub ?_
  | with_reducible refine w_cons ?_
  | with_reducible refine w_nil ?_
  | with_reducible refine w_un ?_
  | with_reducible refine w_val ?_
  | with_reducible refine w_call ?_
  | with_reducible refine w_not ?_
  | with_reducible refine w_tru ?_
  | with_reducible refine w_tup ?_
  | with_reducible refine w_lstF ?_
  | with_reducible refine w_lstR ?_
  | with_reducible refine s_ret ?_
  | with_reducible refine s_next ?_
  | with_reducible refine s_drop ?_
  | with_reducible refine w_meth ?_
  | with_reducible refine w_attr ?_
  | with_reducible refine w_bm ?_
  | with_reducible refine w_sl ?_
  | with_reducible refine w_oN ?_
  | with_reducible refine w_oS ?_
  | with_reducible refine s_attr ?_
  | with_reducible refine s_attrA ?_
  | with_reducible refine s_del ?_
  | with_reducible refine s_par2 ?_
  | with_reducible refine s_par3 ?_
  | with_reducible refine s_par ?_
  | with_reducible refine w_dct0 ?_
  | with_reducible refine w_dctP ?_
  | with_reducible refine w_pC ?_
  | with_reducible refine w_pN ?_
  | with_reducible refine w_chain ?_
  | with_reducible refine w_yes ?_
  | with_reducible refine w_addI ?_
  | with_reducible refine w_subI ?_
  | with_reducible refine w_iaddI ?_
  | with_reducible refine w_negI ?_
  | with_reducible refine w_intI ?_
  | with_reducible refine w_intB ?_
  | with_reducible refine w_lt ?_
  | with_reducible refine w_le ?_
  | with_reducible refine w_gt ?_
  | with_reducible refine w_ge ?_
  | with_reducible refine w_eqI ?_
  | with_reducible refine w_neI ?_
  | with_reducible refine w_eqS ?_
  | with_reducible refine w_neS ?_
  | with_reducible refine w_notB ?_
  | with_reducible refine w_eqB ?_
  | with_reducible refine w_neB ?_
  | with_reducible refine w_neP ?_
  | with_reducible refine w_eqP ?_
  | with_reducible refine w_nePI ?_
  | (with_reducible refine' w_is (r := opIx _ _ _) ?e ?q; (case e => with_unfolding_all rfl))
  | (with_reducible refine' w_is (r := opAdd _ _ _) ?e ?q; (case e => with_unfolding_all rfl))
  | with_reducible refine w_sl32 ?_
  | with_reducible refine w_sl31 ?_
  | (with_reducible refine' w_is (r := opSl _ _ _ _) ?e ?q; (case e => with_unfolding_all rfl))
  | (with_reducible refine' w_is (r := fLen _ _) ?e ?q; (case e => with_unfolding_all rfl))
  | (with_reducible refine' w_is (r := fAbs _ _) ?e ?q; (case e => with_unfolding_all rfl))
  | (with_reducible refine' w_is (r := fTuple _ _) ?e ?q; (case e => with_unfolding_all rfl))
  | (with_reducible refine' w_is (r := opIsN _ _ _) ?e ?q; (case e => with_unfolding_all rfl))
  | (with_reducible refine' w_is (r := opNotN _ _ _) ?e ?q; (case e => with_unfolding_all rfl))
  | refine ⟨Nat.le_of_ble_eq_true rfl, ?_⟩
  | refine ⟨_, rfl, ?_⟩
  | refine ⟨rfl, ?_⟩
  | refine ⟨_, _, rfl, rfl, ?_⟩
  | refine ⟨_, _, _, _, rfl, rfl, rfl, ?_⟩
  | refine ⟨_, _, rfl, rfl, of_decide_eq_true rfl, ?_⟩
  | refine ⟨_, rfl, of_decide_eq_true rfl, ?_⟩
  | refine ⟨_, _, _, rfl, rfl, rfl, ?_⟩
  | refine ⟨_, _, rfl, ?_⟩
  | refine ⟨_, _, _, rfl, ?_⟩)
/-! the gate -/
theorem max_int {i j : Int} {S : Store} {Q : AV → Store → Prop} {X : Xp} (q : Q (.int (if i < j then j else i)) S) : RP (fBest true [.int i, .int j] S) Q X := by
  refine w_is (v := .int (if i < j then j else i)) (S' := S) ?_ q
  have e : bestAt true [pd (.int i), pd (.int j)] = if i < j then 1 else 0 := by
    show (if PySem.W.dataLt (.int i) (.int j) = true then 1 else 0) = _
    rw [PySem.W.dataLt_int]
    simp
  show (if [AV.int i, AV.int j] ≠ [] ∧ ordOk [AV.int i, AV.int j] = true then (match [AV.int i, AV.int j][bestAt true [pd (.int i), pd (.int j)]]? with
    | some y => .ok y S
    | none => .stuck) else (.stuck : Res AV)) = _
  rw [if_pos ⟨by simp, rfl⟩, e]
  by_cases h : i < j
  · rw [if_pos h, if_pos h]; rfl
  · rw [if_neg h, if_neg h]; rfl
abbrev GC (n : Nat) (seen : Int) : Cell := .ins 1 [(4, .int seen), (5, .ref n)]
theorem g1 (d x y : Cell) (T : Store) : (d :: (T ++ [x, y]))[T.length + 1]? = some x := by
  show (T ++ [x, y])[T.length]? = _
  simp
theorem g2 (d x y : Cell) (T : Store) : (d :: (T ++ [x, y]))[T.length + 2]? = some y := by
  show (T ++ [x, y])[T.length + 1]? = _
  simp
theorem gs1 (d x y z : Cell) (T : Store) : (d :: (T ++ [x, y])).set (T.length + 1) z = d :: (T ++ [z, y]) := by
  show d :: (T ++ [x, y]).set T.length z = _
  simp
theorem gs2 (d x y z : Cell) (T : Store) : (d :: (T ++ [x, y])).set (T.length + 2) z = d :: (T ++ [x, z]) := by
  show d :: (T ++ [x, y]).set (T.length + 1) z = _
  simp
theorem is_lst {S : Store} {n : Nat} {xs : List AV} (h : S[n]? = some (.lst xs)) : BT.lst.is S (.ref n) = true := by
  simp [BT.is, lstOf, h]
theorem act {d : Cell} {T : Store} {seen n k : Int} {G : List AV} (hn : 1 ≤ n) (hG : G.length < 1000) :
    RP (m_Gate_act [.ref (T.length + 1), .int n, .int k] (d :: (T ++ [GC (T.length + 2) seen, .lst G])))
      (fun v S' => (n < seen ∧ v = .bl false ∧ S' = d :: (T ++ [GC (T.length + 2) seen, .lst G])) ∨ (seen ≤ n ∧ v = .bl true ∧ S' = d :: (T ++ [GC (T.length + 2) n, .lst (G ++ [.tup [.int n, .int k]])]))) noX := by
  unfold m_Gate_act
  refine w_fdef rfl ?_
  refine s_seq (s_ifF ?_)
  repeat walk_at "ws"
  refine ⟨decide_eq_false (by omega), ?_⟩
  repeat walk_at "ws"
  refine s_if ?_
  repeat walk_at "ws"
  refine ⟨_, _, _, _, rfl, g1 _ _ _ _, rfl, ?_⟩
  repeat walk_at "ws"
  refine ⟨fun h => ?_, fun h => ?_⟩
  · repeat walk_at "ws"
    exact .inl ⟨of_decide_eq_true h, rfl, rfl⟩
  · have h := of_decide_eq_false h
    repeat walk_at "ws"
    refine ⟨_, _, rfl, g1 _ _ _ _, of_decide_eq_true rfl, ?_⟩
    rw [gs1]
    repeat walk_at "ws"
    refine ⟨_, _, _, _, rfl, g1 _ _ _ _, rfl, ?_⟩
    have e2 := g2 d (GC (T.length + 2) n) (.lst G) T
    refine ⟨is_lst (g2 _ _ _ _), ?_⟩
    repeat walk_at "ws"
    refine w_is (v := .non) (S' := d :: (T ++ [GC (T.length + 2) n, .lst (G ++ [.tup [.int n, .int k]])])) ?_ ?_
    · show fAppend [.ref (T.length + 2), _] (d :: (T ++ [GC (T.length + 2) n, .lst G])) = _
      simp only [fAppend, e2, gs2]
      rw [if_pos (by unfold szL; omega)]
    repeat walk_at "ws"
    exact .inr ⟨by omega, rfl, rfl⟩
theorem gate_init {d : Cell} {T : Store} : RP (m_Gate_init0 [.ref (T.length + 1)] (d :: (T ++ [.ins 1 []]))) (fun v S' => v = .non ∧ S' = d :: (T ++ [GC (T.length + 2) 0, .lst []])) noX := by
  have h1 : ∀ x : Cell, (d :: (T ++ [x]))[T.length + 1]? = some x := fun x => by
    show (T ++ [x])[T.length]? = _
    simp
  have s1 : ∀ x z : Cell, (d :: (T ++ [x])).set (T.length + 1) z = d :: (T ++ [z]) := fun x z => by
    show d :: (T ++ [x]).set T.length z = _
    simp
  have a1 : ∀ x z : Cell, (d :: (T ++ [x])) ++ [z] = d :: (T ++ [x, z]) := fun x z => by simp
  have l1 : ∀ x : Cell, (d :: (T ++ [x])).length = T.length + 2 := fun x => by simp
  unfold m_Gate_init0
  refine w_fdef rfl ?_
  repeat walk_at "ws"
  refine ⟨_, _, rfl, h1 _, of_decide_eq_true rfl, ?_⟩
  rw [s1]
  repeat walk_at "ws"
  rw [a1, l1]
  refine ⟨_, _, rfl, g1 _ _ _ _, of_decide_eq_true rfl, ?_⟩
  rw [gs1]
  exact ⟨rfl, rfl⟩
def In2 (i : Nat) (Λ : LEnv) (S : Store) : Prop := Λ.length = 35 ∧ Λ[1]? = some (some (.ref 0)) ∧ ∃ (a b c seen : Int) (G : List AV) (T : Store), Λ[7]? = some (some (.ref (T.length + 1))) ∧ Λ[8]? = some (some (.int seen)) ∧ Λ[9]? = some (some (.lst G)) ∧ G.length ≤ i ∧ S = D a b c :: (T ++ [GC (T.length + 2) seen, .lst G])
theorem ne_lst {S : Store} {n : Nat} {xs : List AV} (h : S[n]? = some (.lst xs)) (he : eqMin (aeq true 63 S) xs xs = some true) {Q : AV → Store → Prop} {X : Xp} (q : Q (.bl false) S) : RP (opNe (.ref n) (.lst xs) S) Q X := by
  refine w_is (v := .bl false) (S' := S) ?_ q
  have e : aeq true (63 + 1) S (.ref n) (.lst xs) = some true := by
    unfold aeq
    simp only [tupOf, lstOf, h, if_true, he]
  unfold opNe
  rw [e]
  rfl
/-- rows of two numbers -/
def IsPI (x : AV) : Prop := ∃ i j : Int, x = .tup [.int i, .int j]
theorem eq_pi {S : Store} : ∀ {xs : List AV}, (∀ x ∈ xs, IsPI x) → eqMin (aeq true 63 S) xs xs = some true
  | [], _ => rfl
  | x :: xs, h => by
    obtain ⟨i, j, rfl⟩ := h x List.mem_cons_self
    have e : aeq true 63 S (.tup [.int i, .int j]) (.tup [.int i, .int j]) = some true := by
      have e2 : ∀ k, aeq true (k + 2) S (.tup [.int i, .int j]) (.tup [.int i, .int j]) = some true := fun k => by simp [aeq, tupOf, eqMin]
      exact e2 61
    show (match aeq true 63 S (.tup [.int i, .int j]) (.tup [.int i, .int j]), eqMin (aeq true 63 S) xs xs with
      | some a, some b => some (a && b)
      | _, _ => none) = _
    rw [e, eq_pi fun y hy => h y (List.mem_cons_of_mem _ hy)]
    rfl
theorem turn2 {i : Nat} {k : Int} {Λ : LEnv} {S : Store} {R : AV → Store → Prop} (h : In2 i Λ S) (hG : ∀ xs, Λ[9]? = some (some (.lst xs)) → ∀ x ∈ xs, IsPI x) (h6 : Λ[6]? = some (some (.int k))) (hi : i < 900) :
    SW (sSeq lw5 (sSeq lw6 (sSeq lw7 lw8)) Λ S) (fun Λ S => In2 (i + 1) Λ S ∧ ∀ xs, Λ[9]? = some (some (.lst xs)) → ∀ x ∈ xs, IsPI x) R noX := by
  obtain ⟨hlen, h1, a, b, c, seen, G, T, h7, h8, h9, hl, rfl⟩ := h
  have hG := hG _ h9
  refine s_seq ?_
  unfold lw5
  repeat walk_at "ws"
  refine (roll a b c 6 _ (by decide) (by decide)).mono ?_
  rintro _ _ ⟨r, a1, b1, c1, rfl, hr0, hr1, rfl⟩
  repeat walk_at "ws"
  unfold lw6
  repeat walk_at "ws"
  unfold lw7
  repeat walk_at "ws"
  refine max_int ?_
  repeat walk_at "ws"
  by_cases hg : seen ≤ 1 + r
  · have e8 : (if seen < 1 + r then 1 + r else seen) = 1 + r := by split <;> omega
    simp only [decide_eq_true hg, e8]
    refine w_is (v := .lst [.tup [.int (1 + r), .int k]]) (S' := _) rfl ?_
    refine w_addL (by simp only [List.length_singleton, List.length_nil, szL]; omega) ?_
    repeat walk_at "ws"
    unfold lw8
    refine s_ifF (w_orF ?_)
    repeat walk_at "ws"
    refine ⟨_, _, rfl, g1 _ _ _ _, ?_⟩
    repeat walk_at "ws"
    refine (act (n := 1 + r) (G := G) (by omega) (by omega)).mono ?_
    rintro _ _ (⟨z, rfl, rfl⟩ | ⟨z, rfl, rfl⟩)
    · omega
    repeat walk_at "ws"
    refine w_orF ?_
    repeat walk_at "ws"
    refine ⟨_, _, _, _, rfl, g1 _ _ _ _, rfl, ?_⟩
    repeat walk_at "ws"
    have hG2 : ∀ x ∈ G ++ [.tup [.int (1 + r), .int k]], IsPI x := fun x hx => (List.mem_append.mp hx).elim (hG x) fun z => ⟨_, _, by simpa using z⟩
    refine ne_lst (g2 _ _ _ _) (eq_pi hG2) ?_
    repeat walk_at "ws"
    refine ⟨_, _, _, _, rfl, g1 _ _ _ _, rfl, ?_⟩
    repeat walk_at "ws"
    refine ⟨decide_eq_false (by omega), ?_⟩
    repeat walk_at "ws"
    refine ⟨⟨by simp only [List.length_set]; exact hlen, by walk_at "lk", a1, b1, c1, 1 + r, _, T, by walk_at "lk", by walk_at "lk", by walk_at "lk", by rw [List.length_append, List.length_singleton]; omega, rfl⟩, fun xs h => ?_⟩
    rw [get_eq (by simp only [List.length_set]; omega)] at h
    cases h
    exact hG2
  · have e8 : (if seen < 1 + r then 1 + r else seen) = seen := by split <;> omega
    simp only [decide_eq_false hg, e8]
    refine w_is (v := .lst []) (S' := _) rfl ?_
    refine w_addL (by simp only [List.length_singleton, List.length_nil, szL]; omega) ?_
    repeat walk_at "ws"
    unfold lw8
    refine s_ifF (w_orF ?_)
    repeat walk_at "ws"
    refine ⟨_, _, rfl, g1 _ _ _ _, ?_⟩
    repeat walk_at "ws"
    refine (act (n := 1 + r) (G := G) (by omega) (by omega)).mono ?_
    rintro _ _ (⟨z, rfl, rfl⟩ | ⟨z, rfl, rfl⟩)
    rotate_left
    · omega
    repeat walk_at "ws"
    refine w_orF ?_
    repeat walk_at "ws"
    refine ⟨_, _, _, _, rfl, g1 _ _ _ _, rfl, ?_⟩
    repeat walk_at "ws"
    rw [List.append_nil]
    refine ne_lst (g2 _ _ _ _) (eq_pi hG) ?_
    repeat walk_at "ws"
    refine ⟨_, _, _, _, rfl, g1 _ _ _ _, rfl, ?_⟩
    repeat walk_at "ws"
    refine ⟨decide_eq_false (by omega), ?_⟩
    repeat walk_at "ws"
    refine ⟨⟨by simp only [List.length_set]; exact hlen, by walk_at "lk", a1, b1, c1, seen, G, T, by walk_at "lk", by walk_at "lk", by walk_at "lk", by omega, rfl⟩, fun xs h => ?_⟩
    rw [get_eq (by simp only [List.length_set]; omega)] at h
    cases h
    exact hG
theorem part2 {Λ : LEnv} {S : Store} {N : LEnv → Store → Prop} {R : AV → Store → Prop} {B : SM} (h : Bet Λ S) (hN : ∀ Λ S, Bet Λ S → SW (B Λ S) N R noX) : SW (sSeq lw20 (sSeq lw21 B) Λ S) N R noX := by
  obtain ⟨hlen, h1, a, b, c, T, rfl⟩ := h
  refine s_seq ?_
  unfold lw20
  repeat walk_at "ws"
  refine w_make ?_
  repeat walk_at "ws"
  refine gate_init.mono ?_
  rintro _ _ ⟨rfl, rfl⟩
  repeat walk_at "ws"
  unfold lw21
  refine s_for (i_range1 ?_)
  repeat walk_at "ws"
  refine (roll a b c 8 _ (by decide) (by decide)).mono ?_
  rintro _ _ ⟨r, a1, b1, c1, rfl, hr0, hr1, rfl⟩
  refine ⟨_, rfl, rng_ok hr0 (by omega), rfl, s_forL (fun i Λ S => In2 i Λ S ∧ ∀ xs, Λ[9]? = some (some (.lst xs)) → ∀ x ∈ xs, IsPI x) ?_ (fun _ _ _ _ => rfl) (fun i x Λ S hx h => ?_) (fun Λ S h => ?_)⟩
  · refine ⟨⟨by simp only [List.length_set]; exact hlen, by walk_at "lk", a1, b1, c1, 0, [], T, (by show _ = some (some (AV.ref (List.length (D a b c :: T)))); walk_at "lk"), by walk_at "lk", by walk_at "lk", by simp, rfl⟩, fun xs h => ?_⟩
    rw [get_eq (by simp only [List.length_set]; omega)] at h
    cases h
    simp
  · obtain ⟨hx, rfl⟩ := rng_at hx
    obtain ⟨⟨hlen, h1, a, b, c, seen, G, T, h7, h8, h9, hl, e⟩, hG⟩ := h
    refine g_pat1 (turn2 (k := i) ?_ (fun xs h => hG xs ?_) (get_eq (by omega)) (by omega))
    · exact ⟨by simp only [List.length_set]; exact hlen, by walk_at "lk", a, b, c, seen, G, T, by walk_at "lk", by walk_at "lk", by walk_at "lk", hl, e⟩
    · rw [← h, List.getElem?_set_ne (by decide)]
  · obtain ⟨⟨hlen, h1, a, b, c, seen, G, T, h7, h8, h9, hl, rfl⟩, hG⟩ := h
    exact hN _ _ ⟨hlen, h1, _, _, _, _, rfl⟩
end K
end

section
set_option Elab.async false
set_option linter.all false
set_option maxRecDepth 100000
set_option maxHeartbeats 2000000
namespace K
open PySem PySem.Spec PyProof.Rows L2 Mir
local macro_rules | `(tactic| walk_at "lk") => `(tactic| first
  | with_unfolding_all rfl
  | assumption
  | (with_reducible apply get_ne; (· decide); walk_at "lk")
  | (with_reducible apply get_neN; (· decide); walk_at "lk")
  | (with_reducible apply get_eq; (try simp only [List.length_set]); omega)
  | (simp only [putA, wipeA, List.foldl, List.cons_append, List.nil_append]; walk_at "lk"))
local macro_rules | `(tactic| walk_at "ws") => `(tactic| first
  | with_reducible refine s_seq ?_
  | with_reducible refine s_asg ?_
  | with_reducible refine w_op ?_
  | (with_reducible refine' w_var ?e ?q; (case e => walk_at "lk"))
  | with_reducible refine w_c ?_
  | with_reducible refine g_name ?_
  | with_reducible refine g_pat1 ?_
  | with_reducible refine g_pat2 ?_
  | with_reducible refine g_pat3 ?_
  | with_reducible refine g_pat4 ?_
  | with_reducible refine g_pat5 ?_
  | (with_reducible refine' g_pat ?e ?q; (case e => with_unfolding_all rfl))
  | with_reducible refine g_sub ?_
  | with_reducible refine w_cons ?_
  | with_reducible refine w_nil ?_
  | with_reducible refine w_un ?_
  | with_reducible refine w_val ?_
  | with_reducible refine w_call ?_
  | with_reducible refine w_not ?_
  | with_reducible refine w_tru ?_
  | with_reducible refine w_tup ?_
  | with_reducible refine w_lstF ?_
  | with_reducible refine w_lstR ?_
  | with_reducible refine s_ret ?_
  | with_reducible refine s_next ?_
  | with_reducible refine s_drop ?_
  | with_reducible refine w_meth ?_
  | with_reducible refine w_attr ?_
  | with_reducible refine w_bm ?_
  | with_reducible refine w_sl ?_
  | with_reducible refine w_oN ?_
  | with_reducible refine w_oS ?_
  | with_reducible refine s_attr ?_
  | with_reducible refine s_attrA ?_
  | with_reducible refine s_del ?_
  | with_reducible refine s_par2 ?_
  | with_reducible refine s_par3 ?_
  | with_reducible refine s_par ?_
  | with_reducible refine w_dct0 ?_
  | with_reducible refine w_dctP ?_
  | with_reducible refine w_pC ?_
  | with_reducible refine w_pN ?_
  | with_reducible refine w_chain ?_
  | with_reducible refine w_yes ?_
  | with_reducible refine w_addI ?_
  | with_reducible refine w_subI ?_
  | with_reducible refine w_iaddI ?_
  | with_reducible refine w_negI ?_
  | with_reducible refine w_intI ?_
  | with_reducible refine w_intB ?_
  | with_reducible refine w_lt ?_
  | with_reducible refine w_le ?_
  | with_reducible refine w_gt ?_
  | with_reducible refine w_ge ?_
  | with_reducible refine w_eqI ?_
  | with_reducible refine w_neI ?_
  | with_reducible refine w_eqS ?_
  | with_reducible refine w_neS ?_
  | with_reducible refine w_notB ?_
  | with_reducible refine w_eqB ?_
  | with_reducible refine w_neB ?_
  | with_reducible refine w_neP ?_
  | with_reducible refine w_eqP ?_
  | with_reducible refine w_nePI ?_
  | (with_reducible refine' w_is (r := opIx _ _ _) ?e ?q; (case e => with_unfolding_all rfl))
  | (with_reducible refine' w_is (r := opAdd _ _ _) ?e ?q; (case e => with_unfolding_all rfl))
  | with_reducible refine w_sl32 ?_
  | with_reducible refine w_sl31 ?_
  | (with_reducible refine' w_is (r := opSl _ _ _ _) ?e ?q; (case e => with_unfolding_all rfl))
  | (with_reducible refine' w_is (r := fLen _ _) ?e ?q; (case e => with_unfolding_all rfl))
  | (with_reducible refine' w_is (r := fAbs _ _) ?e ?q; (case e => with_unfolding_all rfl))
  | (with_reducible refine' w_is (r := fTuple _ _) ?e ?q; (case e => with_unfolding_all rfl))
  | (with_reducible refine' w_is (r := opIsN _ _ _) ?e ?q; (case e => with_unfolding_all rfl))
  | (with_reducible refine' w_is (r := opNotN _ _ _) ?e ?q; (case e => with_unfolding_all rfl))
  | refine ⟨Nat.le_of_ble_eq_true rfl, ?_⟩
  | refine ⟨_, rfl, ?_⟩
  | refine ⟨rfl, ?_⟩
  | refine ⟨_, _, rfl, rfl, ?_⟩
  | refine ⟨_, _, _, _, rfl, rfl, rfl, ?_⟩
  | refine ⟨_, _, rfl, rfl, of_decide_eq_true rfl, ?_⟩
  | refine ⟨_, rfl, of_decide_eq_true rfl, ?_⟩
  | refine ⟨_, _, _, rfl, rfl, rfl, ?_⟩
  | refine ⟨_, _, rfl, ?_⟩
  | refine ⟨_, _, _, rfl, ?_⟩)
/-! clocks set right -/
theorem pdOks_ints : ∀ W : List Int, pdOks (W.map AV.int) = true
  | [] => rfl
  | w :: W => by show (true && pdOks (W.map AV.int)) = true; rw [pdOks_ints W]; rfl
theorem pd_ints (W : List Int) : (W.map AV.int).map pd = W.map PyData.int := by rw [List.map_map]; rfl
theorem depth_ints : ∀ W : List Int, PyData.depthAll (W.map PyData.int) = 0
  | [] => rfl
  | w :: W => by show max 0 (PyData.depthAll (W.map PyData.int)) = 0; rw [depth_ints W]; rfl
theorem ord_ints (W : List Int) : ordOk (W.map AV.int) = true := by
  unfold ordOk
  rw [pdOks_ints, pd_ints]
  have h1 : alikeB (W.map PyData.int) = true := by
    unfold alikeB
    rw [List.all_map]
    refine List.all_eq_true.mpr fun x _ => ?_
    show ((W.map PyData.int).all fun y => PySem.W.alike (.int x) y) = true
    rw [List.all_map]
    exact List.all_eq_true.mpr fun y _ => rfl
  have h2 : shallow (W.map PyData.int) = true := by
    unfold shallow
    rw [depth_ints]
    rfl
  rw [h1, h2]
  rfl
theorem argBest_min (f : Nat → Int) : ∀ k, argBest (fun i j => decide (f i < f j)) k ≤ k ∧ ∀ j ≤ k, f (argBest (fun i j => decide (f i < f j)) k) ≤ f j
  | 0 => ⟨Nat.le_refl _, fun j hj => by have : j = 0 := by omega
                                        subst this; exact Int.le_refl _⟩
  | k + 1 => by
    obtain ⟨h1, h2⟩ := argBest_min f k
    unfold argBest
    split
    · rename_i h
      have h := of_decide_eq_true h
      refine ⟨Nat.le_refl _, fun j hj => ?_⟩
      by_cases e : j = k + 1
      · rw [e]; exact Int.le_refl _
      · have := h2 j (by omega); omega
    · rename_i h
      have h : ¬ f (k + 1) < f (argBest (fun i j => decide (f i < f j)) k) := fun z => h (decide_eq_true z)
      refine ⟨by omega, fun j hj => ?_⟩
      by_cases e : j = k + 1
      · rw [e]; omega
      · exact h2 j (by omega)
theorem gd {W : List Int} {i : Nat} (h : i < W.length) : W.getD i 0 = W[i] := by simp [List.getD, List.getElem?_eq_getElem h]
theorem w_ix0 {x : AV} {xs : List AV} {S : Store} {Q : AV → Store → Prop} {X : Xp} (q : Q x S) : RP (opIx (.lst (x :: xs)) (.int 0) S) Q X := by
  refine w_is (v := x) (S' := S) ?_ q
  have e : atI (x :: xs) 0 = some x := by
    unfold atI ixN
    rw [if_pos (by decide), if_pos (by rw [List.length_cons]; omega)]
    rfl
  simp only [opIx, seqOf, lstOf, e]
theorem min_ints {W : List Int} (hW : W ≠ []) : ∃ m ∈ W, (∀ x ∈ W, m ≤ x) ∧ ∀ S, fBest false [.lst (W.map AV.int)] S = .ok (.int m) S := by
  have hl : 0 < W.length := List.length_pos_iff.mpr hW
  obtain ⟨h1, h2⟩ := argBest_min (fun i => W.getD i 0) (W.length - 1)
  have e : bestAt false (W.map PyData.int) = argBest (fun i j => decide (W.getD i 0 < W.getD j 0)) (W.length - 1) ∨ True := .inr trivial
  have hb : ∀ k, k ≤ W.length - 1 → argBest (fun i j => PySem.W.dataLt ((W.map PyData.int).getD i .none) ((W.map PyData.int).getD j .none)) k = argBest (fun i j => decide (W.getD i 0 < W.getD j 0)) k := fun k => by
    induction k with
    | zero => intro _; rfl
    | succ k ih =>
      intro hk
      have ih := ih (by omega)
      have le := (argBest_min (fun i => W.getD i 0) k).1
      unfold argBest
      rw [ih]
      have g : ∀ i, i < W.length → (W.map PyData.int).getD i .none = .int (W.getD i 0) := fun i hi => by
        simp [List.getD, List.getElem?_map, List.getElem?_eq_getElem hi]
      rw [g _ (by omega), g _ (by omega), PySem.W.dataLt_int]
  refine ⟨W.getD (argBest (fun i j => decide (W.getD i 0 < W.getD j 0)) (W.length - 1)) 0, ?_, fun x hx => ?_, fun S => ?_⟩
  · rw [gd (by omega)]
    exact List.getElem_mem _
  · obtain ⟨i, hi, e⟩ := List.getElem_of_mem hx
    have := h2 i (by omega)
    rw [gd hi, e] at this
    exact this
  · show (if W.map AV.int ≠ [] ∧ ordOk (W.map AV.int) = true then (match (W.map AV.int)[bestAt false ((W.map AV.int).map pd)]? with
      | some y => .ok y S
      | none => .stuck) else (.stuck : Res AV)) = _
    rw [if_pos ⟨by simpa using hW, ord_ints W⟩, pd_ints]
    have e : bestAt false (W.map PyData.int) = argBest (fun i j => decide (W.getD i 0 < W.getD j 0)) (W.length - 1) := by
      show argBest (fun i j => PySem.W.dataLt ((W.map PyData.int).getD i .none) ((W.map PyData.int).getD j .none)) ((W.map PyData.int).length - 1) = _
      rw [List.length_map]
      exact hb _ (Nat.le_refl _)
    have lt : argBest (fun i j => decide (W.getD i 0 < W.getD j 0)) (W.length - 1) < W.length := by omega
    rw [e, List.getElem?_map, List.getElem?_eq_getElem lt, gd lt]
    rfl
abbrev Q4 := Int × Int × Int × Int
abbrev e4 (q : Q4) : AV := .tup [.int q.1, .int q.2.1, .int q.2.2.1, .int q.2.2.2]
abbrev e2 (p : Int × Int) : AV := .tup [.int p.1, .int p.2]
abbrev sr (q : Q4) : Int × Int := (q.2.1 - q.1 + (q.2.2.1 - q.2.2.2), q.2.2.2 - q.1 - (q.2.2.1 - q.2.1))
def Ok4 (q : Q4) : Prop := q.1 ≤ q.2.2.2 ∧ q.2.1 ≤ q.2.2.1 ∧ q.2.2.1 - q.2.1 ≤ q.2.2.2 - q.1
theorem set_right {s t a c : Int} {S : Store} (h : Ok4 (s, t, a, c)) : RP (m_set_right [.int s, .int t, .int a, .int c] S) (fun v S' => v = e2 (sr (s, t, a, c)) ∧ S' = S) noX := by
  obtain ⟨h1, h2, h3⟩ := h
  dsimp only at h1 h2 h3
  unfold m_set_right
  refine w_fdef rfl ?_
  refine s_seq (s_ifF (w_orF ?_))
  repeat walk_at "ws"
  refine ⟨decide_eq_false (by omega), w_orF ?_⟩
  repeat walk_at "ws"
  refine ⟨decide_eq_false (by omega), ?_⟩
  repeat walk_at "ws"
  refine ⟨decide_eq_false (by omega), ?_⟩
  repeat walk_at "ws"
  rfl
def stp (b r : Int × Int) : Int × Int := if r.2 < b.2 then r else b
theorem least_of {p : Int × Int} {P : List (Int × Int)} {S : Store} : RP (m_least_of [.lst ((p :: P).map e2)] S) (fun v S' => v = e2 ((p :: P).foldl stp p) ∧ S' = S) noX := by
  unfold m_least_of
  refine w_fdef rfl ?_
  repeat walk_at "ws"
  refine w_ix0 ?_
  repeat walk_at "ws"
  refine s_for (i_seq ?_)
  repeat walk_at "ws"
  refine s_forL (fun i Λ S' => S' = S ∧ Λ.length = 3 ∧ Λ[1]? = some (some (e2 (((p :: P).take i).foldl stp p)))) ?_ (fun _ _ _ _ => rfl) (fun i x Λ S' hx h => ?_) (fun Λ S' h => ?_)
  · exact ⟨rfl, rfl, rfl⟩
  · obtain ⟨rfl, hl, h1⟩ := h
    rw [List.getElem?_map, Option.map_eq_some_iff] at hx
    obtain ⟨r, hr, rfl⟩ := hx
    have et : (p :: P).take (i + 1) = (p :: P).take i ++ [r] := by rw [List.take_succ, hr]; rfl
    rw [et, List.foldl_append]
    generalize ((p :: P).take i).foldl stp p = b at h1
    refine g_pat1 (s_if ?_)
    repeat walk_at "ws"
    refine ⟨fun h => ?_, fun h => ?_⟩
    · have h := of_decide_eq_true h
      repeat walk_at "ws"
      refine ⟨by simp only [List.length_set]; exact hl, ?_⟩
      show _ = some (some (e2 (stp b r)))
      unfold stp
      rw [if_pos h]
      walk_at "lk"
    · have h := of_decide_eq_false h
      repeat walk_at "ws"
      refine ⟨by simp only [List.length_set]; exact hl, ?_⟩
      show _ = some (some (e2 (stp b r)))
      unfold stp
      rw [if_neg h]
      walk_at "lk"
  · obtain ⟨rfl, hl, h1⟩ := h
    rw [List.length_map, List.take_length] at h1
    repeat walk_at "ws"
    rfl
theorem fold_stay : ∀ {P : List (Int × Int)} {b : Int × Int}, (∀ x ∈ P, b.2 ≤ x.2) → P.foldl stp b = b
  | [], _, _ => rfl
  | x :: P, b, h => by
    have := h x List.mem_cons_self
    show P.foldl stp (stp b x) = b
    have e : stp b x = b := if_neg (by omega)
    rw [e]
    exact fold_stay fun y hy => h y (List.mem_cons_of_mem _ hy)
theorem fold_head {m : Int} : ∀ {P : List (Int × Int)} {b : Int × Int}, (∀ x ∈ P, m ≤ x.2) → m < b.2 → (∃ x ∈ P, x.2 = m) → ∃ F, P.filter (fun r => decide (r.2 = m)) = P.foldl stp b :: F
  | [], _, _, _, h => by obtain ⟨x, hx, _⟩ := h; cases hx
  | x :: P, b, h, hb, he => by
    have hx := h x List.mem_cons_self
    have hP : ∀ y ∈ P, m ≤ y.2 := fun y hy => h y (List.mem_cons_of_mem _ hy)
    by_cases e : x.2 = m
    · rw [List.filter_cons_of_pos (by simpa using e)]
      show ∃ F, _ = P.foldl stp (stp b x) :: F
      have e2 : stp b x = x := if_pos (by omega)
      rw [e2, fold_stay (by rw [e]; exact hP)]
      exact ⟨_, rfl⟩
    · rw [List.filter_cons_of_neg (by simpa using e)]
      show ∃ F, _ = P.foldl stp (stp b x) :: F
      refine fold_head hP ?_ ?_
      · unfold stp; split <;> omega
      · obtain ⟨y, hy, ey⟩ := he
        rcases List.mem_cons.mp hy with z | z
        · rw [z] at ey; exact absurd ey e
        · exact ⟨y, z, ey⟩
theorem first_least {p : Int × Int} {P : List (Int × Int)} {m : Int} (h : ∀ x ∈ p :: P, m ≤ x.2) (he : ∃ x ∈ p :: P, x.2 = m) : ∃ F, (p :: P).filter (fun r => decide (r.2 = m)) = (p :: P).foldl stp p :: F := by
  have e0 : (p :: P).foldl stp p = P.foldl stp p := by
    show P.foldl stp (stp p p) = _
    rw [show stp p p = p from if_neg (by omega)]
  have hP : ∀ y ∈ P, m ≤ y.2 := fun y hy => h y (List.mem_cons_of_mem _ hy)
  have hp := h p List.mem_cons_self
  rw [e0]
  by_cases e : p.2 = m
  · rw [List.filter_cons_of_pos (by simpa using e), fold_stay (by rw [e]; exact hP)]
    exact ⟨_, rfl⟩
  · rw [List.filter_cons_of_neg (by simpa using e)]
    refine fold_head hP (by omega) ?_
    obtain ⟨y, hy, ey⟩ := he
    rcases List.mem_cons.mp hy with z | z
    · rw [z] at ey; exact absurd ey e
    · exact ⟨y, z, ey⟩
def In3 (n i : Nat) (Λ : LEnv) (S : Store) : Prop := Λ.length = 35 ∧ Λ[1]? = some (some (.ref 0)) ∧ ∃ (a b c : Int) (T : Store) (R : List Q4), Λ[10]? = some (some (.lst (R.map e4))) ∧ (∀ q ∈ R, Ok4 q) ∧ R.length = i ∧ i ≤ n ∧ S = D a b c :: T
theorem turn3 {n i : Nat} {Λ : LEnv} {S : Store} {R : AV → Store → Prop} (h : In3 n i Λ S) (hi : i < n) (hn : n < 900) : SW (sSeq lw9 (sSeq lw10 (sSeq lw11 (sSeq lw12 lw13))) Λ S) (In3 n (i + 1)) R noX := by
  obtain ⟨hlen, h1, a, b, c, T, W, h10, hW, hl, _, rfl⟩ := h
  refine s_seq ?_
  unfold lw9
  repeat walk_at "ws"
  refine (roll a b c 40 _ (by decide) (by decide)).mono ?_
  rintro _ _ ⟨gap, a1, b1, c1, rfl, hr0, hr1, rfl⟩
  repeat walk_at "ws"
  refine (roll a1 b1 c1 9 _ (by decide) (by decide)).mono ?_
  rintro _ _ ⟨there, a2, b2, c2, rfl, hs0, hs1, rfl⟩
  repeat walk_at "ws"
  refine (roll a2 b2 c2 4 _ (by decide) (by decide)).mono ?_
  rintro _ _ ⟨held, a3, b3, c3, rfl, ht0, ht1, rfl⟩
  repeat walk_at "ws"
  refine (roll a3 b3 c3 9 _ (by decide) (by decide)).mono ?_
  rintro _ _ ⟨back, a4, b4, c4, rfl, hu0, hu1, rfl⟩
  repeat walk_at "ws"
  refine (roll a4 b4 c4 9 _ (by decide) (by decide)).mono ?_
  rintro _ _ ⟨start, a5, b5, c5, rfl, hv0, hv1, rfl⟩
  repeat walk_at "ws"
  unfold lw10
  repeat walk_at "ws"
  unfold lw11
  repeat walk_at "ws"
  refine w_addL (by rw [List.length_map, hl]; simp only [List.length_singleton, szL]; omega) ?_
  repeat walk_at "ws"
  unfold lw12
  repeat walk_at "ws"
  have ok : Ok4 (30 + start, 30 + start + there + (gap - 20), 30 + start + there + (gap - 20) + held, 30 + start + there + held + back) := ⟨by dsimp only; omega, by dsimp only; omega, by dsimp only; omega⟩
  refine (set_right ok).mono ?_
  have k1 : (sr (30 + start, 30 + start + there + (gap - 20), 30 + start + there + (gap - 20) + held, 30 + start + there + held + back)).1 = 2 * (gap - 20) + there - back := by dsimp only [sr]; omega
  have k2 : (sr (30 + start, 30 + start + there + (gap - 20), 30 + start + there + (gap - 20) + held, 30 + start + there + held + back)).2 = there + back := by dsimp only [sr]; omega
  rintro _ _ ⟨rfl, rfl⟩
  generalize sr (30 + start, 30 + start + there + (gap - 20), 30 + start + there + (gap - 20) + held, 30 + start + there + held + back) = p at k1 k2 ⊢
  repeat walk_at "ws"
  unfold lw13
  refine s_ifF (w_orF ?_)
  repeat walk_at "ws"
  refine ⟨decide_eq_false (by omega), w_orF ?_⟩
  repeat walk_at "ws"
  refine w_mul (mulL (by omega)) ?_
  repeat walk_at "ws"
  refine ⟨decide_eq_false (by omega), ?_⟩
  repeat walk_at "ws"
  refine w_mul (mulL (by omega)) ?_
  repeat walk_at "ws"
  refine ⟨fun _ => ?_, fun h => absurd (of_decide_eq_false h) (by omega)⟩
  repeat walk_at "ws"
  refine w_mul (mulL (by omega)) ?_
  repeat walk_at "ws"
  rw [show decide (p.1 ≤ 2 * (gap - 20) + p.2) = true from decide_eq_true (by omega)]
  repeat walk_at "ws"
  refine ⟨by simp only [List.length_set]; exact hlen, by walk_at "lk", a5, b5, c5, T, W ++ [(30 + start, 30 + start + there + (gap - 20), 30 + start + there + (gap - 20) + held, 30 + start + there + held + back)], ?_, fun q hq => ?_, by rw [List.length_append, hl]; rfl, by omega, rfl⟩
  · simp only [List.map_append, List.map_cons, List.map_nil]
    walk_at "lk"
  · rcases List.mem_append.mp hq with z | z
    · exact hW q z
    · rw [List.mem_singleton.mp z]; exact ok
theorem list_sr {W : List Q4} {own : List Nat} {i : Nat} {Λ : LEnv} {S : Store} {e : EM} (hW : ∀ q ∈ W, Ok4 q) (hl : W.length < 1000) (he : ∀ q ∈ W, RP (e (putA Λ [(i, e4 q)]) S) (fun v S' => v = e2 (sr q) ∧ S' = S) noX) :
    lcL (fun _ => true) (.nm i) tYesM e Λ (W.map e4) [] S = .ok ((W.map sr).map e2) S := by
  have h := lcL_pure (t := tYesM) (keep := fun _ => true) (p := .nm i) (e := e) (Λ := Λ) (S := S) e4 (fun _ => true) (fun q => e2 (sr q)) rfl W [] (fun q hq => ⟨_, rfl, ⟨rfl, rfl⟩, fun _ => he q hq⟩) (by simp only [List.length_nil, szL]; omega)
  rw [h, flt, List.nil_append, List.map_map]
  rfl
theorem best_set {W : List Q4} {p : Int × Int} {P : List (Int × Int)} {S : Store} (hW : ∀ q ∈ W, Ok4 q) (hl : W.length < 1000) (hP : W.map sr = p :: P) : RP (m_best_set [.lst (W.map e4)] S) (fun v S' => v = e2 ((p :: P).foldl stp p) ∧ S' = S) noX := by
  have hn : W ≠ [] := fun z => by rw [z] at hP; cases hP
  have hp : 0 < W.length := List.length_pos_iff.mpr hn
  unfold m_best_set
  refine w_fdef rfl ?_
  refine s_seq (s_ifF ?_)
  repeat walk_at "ws"
  refine ⟨decide_eq_false (by rw [List.length_map]; omega), ?_⟩
  repeat walk_at "ws"
  refine w_lc (i_seq ?_)
  repeat walk_at "ws"
  refine ⟨_, _, list_sr (own := []) hW hl (fun q hq => ?_), ?_⟩
  · repeat walk_at "ws"
    exact set_right (hW q hq)
  rw [hP]
  repeat walk_at "ws"
  exact least_of
theorem part3 {Λ : LEnv} {S : Store} {N : LEnv → Store → Prop} {R : AV → Store → Prop} {B : SM} (h : Bet Λ S) (hN : ∀ Λ S, Bet Λ S → SW (B Λ S) N R noX) : SW (sSeq (sAsg (eLstF aNil) (gName 10)) (sSeq lw22 (sSeq lw23 (sSeq lw24 (sSeq lw25 B)))) Λ S) N R noX := by
  obtain ⟨hlen, h1, a, b, c, T, rfl⟩ := h
  repeat walk_at "ws"
  unfold lw22
  refine s_for (i_range1 ?_)
  repeat walk_at "ws"
  refine (roll a b c 4 _ (by decide) (by decide)).mono ?_
  rintro _ _ ⟨r, a1, b1, c1, rfl, hr0, hr1, rfl⟩
  repeat walk_at "ws"
  refine ⟨rng_ok (by omega) (by omega), rfl, s_forL (In3 (1 + r).toNat) ?_ (fun _ _ _ _ => rfl) (fun i x Λ S hx h => ?_) (fun Λ S h => ?_)⟩
  · exact ⟨by simp only [List.length_set]; exact hlen, by walk_at "lk", a1, b1, c1, T, [], (by show _ = some (some (AV.lst [])); walk_at "lk"), by simp, rfl, by omega, rfl⟩
  · obtain ⟨hx2, rfl⟩ := rng_at hx
    refine g_pat1 (turn3 ?_ hx2 (by omega))
    obtain ⟨hlen, h1, a, b, c, T, W, h10, h⟩ := h
    exact ⟨by simp only [List.length_set]; exact hlen, by walk_at "lk", a, b, c, T, W, by walk_at "lk", h⟩
  obtain ⟨hlen, h1, a, b, c, T, W, h10, hW, hl, hle, rfl⟩ := h
  rw [List.length_map, List.length_range] at hl
  have hW1 : W.length < 1000 := by omega
  repeat walk_at "ws"
  unfold lw23
  repeat walk_at "ws"
  refine w_lc (i_seq ?_)
  repeat walk_at "ws"
  refine ⟨_, _, list_sr (own := []) hW hW1 (fun q hq => ?_), ?_⟩
  · repeat walk_at "ws"
    exact set_right (hW q hq)
  obtain ⟨p, P, hP⟩ : ∃ p P, W.map sr = p :: P := by
    cases W with
    | nil => simp at hl; omega
    | cons q W => exact ⟨_, _, rfl⟩
  repeat walk_at "ws"
  unfold lw24
  repeat walk_at "ws"
  refine w_lc (i_seq ?_)
  repeat walk_at "ws"
  have hz : (W.map sr).length < 1000 := by rw [List.length_map]; exact hW1
  refine ⟨_, _, lcL_pure (T := Int × Int) e2 (fun _ => true) (fun p => .int p.2) rfl (W.map sr) [] (fun p hp => ⟨_, rfl, ⟨rfl, rfl⟩, fun _ => ?_⟩) (by simp only [List.length_nil, szL]; omega), ?_⟩
  · repeat walk_at "ws"
    rfl
  rw [flt, List.nil_append, show (fun p : Int × Int => AV.int p.2) = AV.int ∘ (fun p => p.2) from rfl, ← List.map_map]
  obtain ⟨m, hm, hmin, hb⟩ := min_ints (W := (W.map sr).map fun p => p.2) (by rw [hP]; simp)
  have hmin2 : ∀ x ∈ p :: P, m ≤ x.2 := fun x hx => hmin _ (List.mem_map_of_mem (by rw [hP]; exact hx))
  have hm2 : ∃ x ∈ p :: P, x.2 = m := by
    obtain ⟨x, hx, e⟩ := List.mem_map.mp hm
    exact ⟨x, by rw [← hP]; exact hx, e⟩
  obtain ⟨F, hF⟩ := first_least hmin2 hm2
  repeat walk_at "ws"
  refine w_is (hb _) ?_
  repeat walk_at "ws"
  unfold lw25
  refine s_ifF (w_orF ?_)
  repeat walk_at "ws"
  refine (best_set hW hW1 hP).mono ?_
  rintro _ _ ⟨rfl, rfl⟩
  repeat walk_at "ws"
  refine w_lc (i_seq ?_)
  repeat walk_at "ws"
  refine ⟨_, _, lcL_pure (T := Int × Int) e2 (fun p => decide (p.2 = m)) e2 rfl (W.map sr) [] (fun p hp => ⟨_, rfl, ?_, fun _ => ?_⟩) (by simp only [List.length_nil, szL]; omega), ?_⟩
  · repeat walk_at "ws"
    rfl
  · repeat walk_at "ws"
    rfl
  rw [hP, hF, List.nil_append]
  repeat walk_at "ws"
  refine w_ix0 ?_
  repeat walk_at "ws"
  refine ⟨by simp, ?_⟩
  repeat walk_at "ws"
  refine least_of.mono ?_
  rintro _ _ ⟨rfl, rfl⟩
  repeat walk_at "ws"
  refine (best_set hW hW1 hP).mono ?_
  rintro _ _ ⟨rfl, rfl⟩
  repeat walk_at "ws"
  refine ⟨by simp, ?_⟩
  repeat walk_at "ws"
  exact hN _ _ ⟨by simp only [List.length_set]; exact hlen, by walk_at "lk", a, b, c, T, rfl⟩
end K
end

section
set_option Elab.async false
set_option linter.all false
set_option maxRecDepth 100000
set_option maxHeartbeats 2000000
namespace K
open PySem PySem.Spec PyProof.Rows L2 Mir
local macro_rules | `(tactic| walk_at "lk") => `(tactic| first
  | with_unfolding_all rfl
  | assumption
  | (with_reducible apply get_ne; (· decide); walk_at "lk")
  | (with_reducible apply get_neN; (· decide); walk_at "lk")
  | (with_reducible apply get_eq; (try simp only [List.length_set]); omega)
  | (simp only [putA, wipeA, List.foldl, List.cons_append, List.nil_append]; walk_at "lk"))
local macro_rules | `(tactic| walk_at "ws") => `(tactic| first
  | with_reducible refine s_seq ?_
  | with_reducible refine s_asg ?_
  | with_reducible refine w_op ?_
  | (with_reducible refine' w_var ?e ?q; (case e => walk_at "lk"))
  | with_reducible refine w_c ?_
  | with_reducible refine g_name ?_
  | with_reducible refine g_pat1 ?_
  | with_reducible refine g_pat2 ?_
  | with_reducible refine g_pat3 ?_
  | with_reducible refine g_pat4 ?_
  | with_reducible refine g_pat5 ?_
  | (with_reducible refine' g_pat ?e ?q; (case e => with_unfolding_all rfl))
  | with_reducible refine g_sub ?_
  | with_reducible refine w_cons ?_
  | with_reducible refine w_nil ?_
  | with_reducible refine w_un ?_
  | with_reducible refine w_val ?_
  | with_reducible refine w_call ?_
  | with_reducible refine w_not ?_
  | with_reducible refine w_tru ?_
  | with_reducible refine w_tup ?_
  | with_reducible refine w_lstF ?_
  | with_reducible refine w_lstR ?_
  | with_reducible refine s_ret ?_
  | with_reducible refine s_next ?_
  | with_reducible refine s_drop ?_
  | with_reducible refine w_meth ?_
  | with_reducible refine w_attr ?_
  | with_reducible refine w_bm ?_
  | with_reducible refine w_sl ?_
  | with_reducible refine w_oN ?_
  | with_reducible refine w_oS ?_
  | with_reducible refine s_attr ?_
  | with_reducible refine s_attrA ?_
  | with_reducible refine s_del ?_
  | with_reducible refine s_par2 ?_
  | with_reducible refine s_par3 ?_
  | with_reducible refine s_par ?_
  | with_reducible refine w_dct0 ?_
  | with_reducible refine w_dctP ?_
  | with_reducible refine w_pC ?_
  | with_reducible refine w_pN ?_
  | with_reducible refine w_chain ?_
  | with_reducible refine w_yes ?_
  | with_reducible refine w_addI ?_
  | with_reducible refine w_subI ?_
  | with_reducible refine w_iaddI ?_
  | with_reducible refine w_negI ?_
  | with_reducible refine w_intI ?_
  | with_reducible refine w_intB ?_
  | with_reducible refine w_lt ?_
  | with_reducible refine w_le ?_
  | with_reducible refine w_gt ?_
  | with_reducible refine w_ge ?_
  | with_reducible refine w_eqI ?_
  | with_reducible refine w_neI ?_
  | with_reducible refine w_eqS ?_
  | with_reducible refine w_neS ?_
  | with_reducible refine w_notB ?_
  | with_reducible refine w_eqB ?_
  | with_reducible refine w_neB ?_
  | with_reducible refine w_neP ?_
  | with_reducible refine w_eqP ?_
  | with_reducible refine w_nePI ?_
  | (with_reducible refine' w_is (r := opIx _ _ _) ?e ?q; (case e => with_unfolding_all rfl))
  | (with_reducible refine' w_is (r := opAdd _ _ _) ?e ?q; (case e => with_unfolding_all rfl))
  | with_reducible refine w_sl32 ?_
  | with_reducible refine w_sl31 ?_
  | (with_reducible refine' w_is (r := opSl _ _ _ _) ?e ?q; (case e => with_unfolding_all rfl))
  | (with_reducible refine' w_is (r := fLen _ _) ?e ?q; (case e => with_unfolding_all rfl))
  | (with_reducible refine' w_is (r := fAbs _ _) ?e ?q; (case e => with_unfolding_all rfl))
  | (with_reducible refine' w_is (r := fTuple _ _) ?e ?q; (case e => with_unfolding_all rfl))
  | (with_reducible refine' w_is (r := opIsN _ _ _) ?e ?q; (case e => with_unfolding_all rfl))
  | (with_reducible refine' w_is (r := opNotN _ _ _) ?e ?q; (case e => with_unfolding_all rfl))
  | refine ⟨Nat.le_of_ble_eq_true rfl, ?_⟩
  | refine ⟨_, rfl, ?_⟩
  | refine ⟨rfl, ?_⟩
  | refine ⟨_, _, rfl, rfl, ?_⟩
  | refine ⟨_, _, _, _, rfl, rfl, rfl, ?_⟩
  | refine ⟨_, _, rfl, rfl, of_decide_eq_true rfl, ?_⟩
  | refine ⟨_, rfl, of_decide_eq_true rfl, ?_⟩
  | refine ⟨_, _, _, rfl, rfl, rfl, ?_⟩
  | refine ⟨_, _, rfl, ?_⟩
  | refine ⟨_, _, _, rfl, ?_⟩)
/-! spans -/
theorem sortOk_ints {W : List Int} (h : W.length ≤ 1000) : sortOk (W.map AV.int) = true := by
  unfold sortOk
  rw [ord_ints, List.length_map, Bool.and_eq_true, Bool.and_eq_true]
  refine ⟨⟨rfl, ?_⟩, decide_eq_true (by unfold szL; omega)⟩
  rw [Bool.or_eq_true]
  right
  rw [List.all_map]
  exact List.all_eq_true.mpr fun _ _ => rfl
abbrev sI (W : List Int) : List Int := W.mergeSort fun a b => decide (a ≤ b)
theorem sortA_ints (W : List Int) : sortA (W.map AV.int) = (sI W).map AV.int := by
  unfold sortA sI
  rw [List.map_mergeSort]
  intro a _ b _
  have := congrFun (congrFun (PySem.W.dataLe_int (β := Int) id) a) b
  exact this.symm
theorem sI_sorted (W : List Int) : (sI W).Pairwise (fun a b => a ≤ b) := by
  have h := List.pairwise_mergeSort (le := fun a b : Int => decide (a ≤ b)) (by intro a b c h1 h2; have := of_decide_eq_true h1; have := of_decide_eq_true h2; exact decide_eq_true (by omega)) (by intro a b; by_cases h : a ≤ b <;> simp [h] <;> omega) W
  exact h.imp fun h => of_decide_eq_true h
theorem sI_lt {W : List Int} (h : W.Nodup) : (sI W).Pairwise (fun a b => a < b) := by
  have hn : (sI W).Nodup := (List.mergeSort_perm W _).nodup_iff.mpr h
  exact (sI_sorted W).imp₂ (fun a b h1 h2 => by omega) hn
theorem sI_mem {W : List Int} {x : Int} : x ∈ sI W ↔ x ∈ W := (List.mergeSort_perm W _).mem_iff
theorem sorted_lst {W : List Int} {S : Store} {Q : AV → Store → Prop} {X : Xp} (h : W.length ≤ 1000) (q : Q (.lst ((sI W).map AV.int)) S) : RP (fSortedD [.lst (W.map AV.int)] S) Q X := by
  refine w_is (v := .lst ((sI W).map AV.int)) (S' := S) ?_ q
  simp only [fSortedD, flatOf, tupOf, fSorted, lstOf, sortOk_ints h, if_true, sortA_ints]
abbrev tk (k : Int) : DK × AV := (.a (.i k), .bl true)
def addK (ks : List Int) (k : Int) : List Int := if k ∈ ks then ks else ks ++ [k]
theorem flat_tk (ks : List Int) : flatK (ks.map tk) = true := by
  unfold flatK
  rw [List.all_map]
  exact List.all_eq_true.mpr fun _ _ => rfl
theorem keys_tk (ks : List Int) : dKeys (ks.map tk) = ks.map AV.int := by
  unfold dKeys
  rw [List.map_map]
  rfl
theorem dput_tk (ks : List Int) (k : Int) : dput (.a (.i k)) (.bl true) (ks.map tk) = (addK ks k).map tk := by
  unfold addK
  split
  · rename_i h
    unfold dput
    rw [if_pos (List.any_eq_true.mpr ⟨tk k, List.mem_map_of_mem h, decide_eq_true rfl⟩), List.map_map]
    refine List.map_congr_left fun x _ => ?_
    show (if DK.a (.i x) = DK.a (.i k) then (DK.a (.i x), AV.bl true) else tk x) = tk x
    split <;> rfl
  · rename_i h
    rw [dput_new (fun p hp z => by
      obtain ⟨x, hx, rfl⟩ := List.mem_map.mp hp
      have e : x = k := by simpa using z
      exact h (e ▸ hx)), List.map_append]
    rfl
theorem addK_mem {ks : List Int} {k x : Int} : x ∈ addK ks k ↔ x ∈ ks ∨ x = k := by
  unfold addK
  split
  · rename_i h
    exact ⟨.inl, fun z => z.elim id fun e => e ▸ h⟩
  · simp
theorem addK_in {ks : List Int} {k : Int} (h : k ∈ ks) : addK ks k = ks := if_pos h
theorem addK_nodup {ks : List Int} {k : Int} (h : ks.Nodup) : (addK ks k).Nodup := by
  unfold addK
  split
  · exact h
  · rename_i hk
    rw [List.nodup_append]
    exact ⟨h, by simp, fun a ha b hb z => hk (by rw [List.mem_singleton.mp hb] at z; exact z ▸ ha)⟩
theorem addK_len {ks : List Int} {k : Int} : (addK ks k).length ≤ ks.length + 1 := by
  unfold addK
  split
  · omega
  · simp
def stK (ks : List Int) (p : Int × Int) : List Int := addK (addK ks p.1) p.2
def kd (W : List (Int × Int)) : List Int := W.foldl stK []
abbrev spots (W : List (Int × Int)) : List Int := sI (kd W)
theorem kd_mem : ∀ (W : List (Int × Int)) (ks : List Int) (x : Int), x ∈ W.foldl stK ks ↔ x ∈ ks ∨ ∃ p ∈ W, x = p.1 ∨ x = p.2
  | [], ks, x => by simp
  | p :: W, ks, x => by
    show x ∈ W.foldl stK (stK ks p) ↔ _
    rw [kd_mem W, stK, addK_mem, addK_mem]
    constructor
    · rintro ((((h | h) | h)) | ⟨q, hq, h⟩)
      · exact .inl h
      · exact .inr ⟨p, List.mem_cons_self, .inl h⟩
      · exact .inr ⟨p, List.mem_cons_self, .inr h⟩
      · exact .inr ⟨q, List.mem_cons_of_mem _ hq, h⟩
    · rintro (h | ⟨q, hq, h⟩)
      · exact .inl (.inl (.inl h))
      · rcases List.mem_cons.mp hq with rfl | hq
        · rcases h with h | h
          · exact .inl (.inl (.inr h))
          · exact .inl (.inr h)
        · exact .inr ⟨q, hq, h⟩
theorem kd_nodup : ∀ (W : List (Int × Int)) (ks : List Int), ks.Nodup → (W.foldl stK ks).Nodup
  | [], ks, h => h
  | p :: W, ks, h => kd_nodup W (stK ks p) (addK_nodup (addK_nodup h))
theorem kd_len : ∀ (W : List (Int × Int)) (ks : List Int), (W.foldl stK ks).length ≤ ks.length + 2 * W.length
  | [], ks => by simp
  | p :: W, ks => by
    show (W.foldl stK (stK ks p)).length ≤ _
    have h1 := kd_len W (stK ks p)
    have h2 : (stK ks p).length ≤ ks.length + 2 := by
      unfold stK
      have := addK_len (ks := addK ks p.1) (k := p.2)
      have := addK_len (ks := ks) (k := p.1)
      omega
    rw [List.length_cons]
    omega
theorem merge_tk {ks : List Int} {l h : Int} : mergeM (ks.map tk) (mergeD [] [(AK.i l, .bl true), (AK.i h, .bl true)]) = (stK ks (l, h)).map tk := by
  have e : mergeD [] [(AK.i l, AV.bl true), (AK.i h, AV.bl true)] = (addK [l] h).map tk := by
    show dput (.a (.i h)) (.bl true) ([l].map tk) = _
    rw [dput_tk]
  rw [e]
  unfold addK
  split
  · rename_i z
    have z : h = l := by simpa using z
    subst z
    show dput (.a (.i h)) (.bl true) (ks.map tk) = _
    rw [dput_tk]
    show _ = (addK (addK ks h) h).map tk
    rw [addK_in (addK_mem.mpr (.inr rfl))]
  · show dput (.a (.i h)) (.bl true) (dput (.a (.i l)) (.bl true) (ks.map tk)) = _
    rw [dput_tk, dput_tk]
    rfl
/-- the counts -/
def cnt (W : List (Int × Int)) (x : Int) : Nat := (W.filter fun p => decide (p.1 ≤ x) && decide (x ≤ p.2)).length
def cnt2 (W : List (Int × Int)) (s : Int) : Nat := (W.filter fun p => decide (2 * p.1 ≤ s) && decide (s ≤ 2 * p.2)).length
theorem cnt_2 (W : List (Int × Int)) (x : Int) : cnt2 W (2 * x) = cnt W x := by
  unfold cnt cnt2
  congr 1
  refine List.filter_congr fun p _ => ?_
  by_cases h1 : p.1 ≤ x <;> by_cases h2 : x ≤ p.2 <;> simp [h1, h2] <;> omega
theorem cnt_mono {W : List (Int × Int)} {s t : Int} (h : ∀ p ∈ W, 2 * p.1 ≤ s → s ≤ 2 * p.2 → 2 * p.1 ≤ t ∧ t ≤ 2 * p.2) : cnt2 W s ≤ cnt2 W t := by
  unfold cnt2
  induction W with
  | nil => simp
  | cons p W ih =>
    have ih := ih fun q hq => h q (List.mem_cons_of_mem _ hq)
    have hp := h p List.mem_cons_self
    rw [List.filter_cons, List.filter_cons]
    split
    · rename_i z
      rw [Bool.and_eq_true] at z
      obtain ⟨a, b⟩ := hp (of_decide_eq_true z.1) (of_decide_eq_true z.2)
      rw [if_pos (by rw [decide_eq_true a, decide_eq_true b]; rfl), List.length_cons, List.length_cons]
      omega
    · split
      · rw [List.length_cons]; omega
      · exact ih
theorem cnt_pos {W : List (Int × Int)} {s : Int} (h : 0 < cnt2 W s) : ∃ p ∈ W, 2 * p.1 ≤ s ∧ s ≤ 2 * p.2 := by
  obtain ⟨p, hp⟩ := List.exists_mem_of_length_pos h
  obtain ⟨h1, h2⟩ := List.mem_filter.mp hp
  rw [Bool.and_eq_true] at h2
  exact ⟨p, h1, of_decide_eq_true h2.1, of_decide_eq_true h2.2⟩
/-- of finitely many the greatest, the least -/
theorem most {α : Type} (f : α → Int) : ∀ {C : List α}, C ≠ [] → ∃ p ∈ C, ∀ q ∈ C, f q ≤ f p
  | [a], _ => ⟨a, by simp, by simp⟩
  | a :: b :: C, _ => by
    obtain ⟨p, hp, h⟩ := most f (C := b :: C) (by simp)
    by_cases e : f p ≤ f a
    · refine ⟨a, List.mem_cons_self, fun q hq => ?_⟩
      rcases List.mem_cons.mp hq with z | z
      · rw [z]; exact Int.le_refl _
      · have := h q z; omega
    · refine ⟨p, List.mem_cons_of_mem _ hp, fun q hq => ?_⟩
      rcases List.mem_cons.mp hq with z | z
      · rw [z]; omega
      · exact h q z
theorem down {W : List (Int × Int)} {s : Int} (h : 0 < cnt2 W s) : ∃ p ∈ W, 2 * p.1 ≤ s ∧ cnt2 W s ≤ cnt2 W (2 * p.1) := by
  obtain ⟨p0, h0, h1, h2⟩ := cnt_pos h
  obtain ⟨p, hp, hm⟩ := most (fun p : Int × Int => p.1) (C := W.filter fun p => decide (2 * p.1 ≤ s) && decide (s ≤ 2 * p.2)) (fun z => by
    have : p0 ∈ W.filter fun p => decide (2 * p.1 ≤ s) && decide (s ≤ 2 * p.2) := List.mem_filter.mpr ⟨h0, by rw [decide_eq_true h1, decide_eq_true h2]; rfl⟩
    rw [z] at this; cases this)
  obtain ⟨hp1, hp2⟩ := List.mem_filter.mp hp
  rw [Bool.and_eq_true] at hp2
  have a := of_decide_eq_true hp2.1
  refine ⟨p, hp1, a, cnt_mono fun q hq b c => ?_⟩
  have := hm q (List.mem_filter.mpr ⟨hq, by rw [decide_eq_true b, decide_eq_true c]; rfl⟩)
  omega
theorem up {W : List (Int × Int)} {s : Int} (h : 0 < cnt2 W s) : ∃ p ∈ W, s ≤ 2 * p.2 ∧ cnt2 W s ≤ cnt2 W (2 * p.2) := by
  obtain ⟨p0, h0, h1, h2⟩ := cnt_pos h
  obtain ⟨p, hp, hm⟩ := most (fun p : Int × Int => -p.2) (C := W.filter fun p => decide (2 * p.1 ≤ s) && decide (s ≤ 2 * p.2)) (fun z => by
    have : p0 ∈ W.filter fun p => decide (2 * p.1 ≤ s) && decide (s ≤ 2 * p.2) := List.mem_filter.mpr ⟨h0, by rw [decide_eq_true h1, decide_eq_true h2]; rfl⟩
    rw [z] at this; cases this)
  obtain ⟨hp1, hp2⟩ := List.mem_filter.mp hp
  rw [Bool.and_eq_true] at hp2
  have a := of_decide_eq_true hp2.2
  refine ⟨p, hp1, a, cnt_mono fun q hq b c => ?_⟩
  have := hm q (List.mem_filter.mpr ⟨hq, by rw [decide_eq_true b, decide_eq_true c]; rfl⟩)
  omega
theorem first_min {L : List Int} (h : L.Pairwise (fun a b => a < b)) {a : Int} {r : List Int} (e : L = a :: r) : ∀ x ∈ L, a ≤ x := by
  subst e
  intro x hx
  rcases List.mem_cons.mp hx with z | z
  · rw [z]; exact Int.le_refl _
  · have := (List.pairwise_cons.mp h).1 x z; omega
theorem last_max : ∀ {L : List Int} (h : L.Pairwise (fun a b => a < b)) (hn : L ≠ []), ∀ x ∈ L, x ≤ L.getLast hn
  | [a], _, _, x, hx => by simp at hx; subst hx; simp
  | a :: b :: L, h, hn, x, hx => by
    rw [List.getLast_cons (by simp)]
    obtain ⟨h1, h2⟩ := List.pairwise_cons.mp h
    rcases List.mem_cons.mp hx with z | z
    · have := last_max h2 (by simp) b List.mem_cons_self
      have := h1 b List.mem_cons_self
      omega
    · exact last_max h2 (by simp) x z
/-- the spots that hold enough, on the spans' own ends and on the halves -/
theorem agree {W : List (Int × Int)} (hW : ∀ p ∈ W, 0 ≤ p.1 ∧ p.1 ≤ p.2 ∧ p.2 ≤ 29) {need : Nat} (hn : 0 < need) {G L : List Int} (hG : G.Pairwise (fun a b => a < b)) (hL : L.Pairwise (fun a b => a < b))
    (mG : ∀ s, s ∈ G ↔ 0 ≤ s ∧ s < 61 ∧ need ≤ cnt2 W s) (mL : ∀ x, x ∈ L ↔ (∃ p ∈ W, x = p.1 ∨ x = p.2) ∧ need ≤ cnt W x) :
    (G = [] → L = []) ∧ ∀ (h : G ≠ []), ∃ h2 : L ≠ [], G.head h = 2 * L.head h2 ∧ G.getLast h = 2 * L.getLast h2 := by
  have LG : ∀ x ∈ L, 2 * x ∈ G := fun x hx => by
    obtain ⟨⟨p, hp, e⟩, hc⟩ := (mL x).mp hx
    have := hW p hp
    exact (mG _).mpr ⟨by omega, by omega, by rw [cnt_2]; exact hc⟩
  refine ⟨fun e => ?_, fun h => ?_⟩
  · cases L with
    | nil => rfl
    | cons x L => have := LG x List.mem_cons_self; rw [e] at this; cases this
  · obtain ⟨hg1, hg2, hg3⟩ := (mG _).mp (List.head_mem h)
    obtain ⟨hl1, hl2, hl3⟩ := (mG _).mp (List.getLast_mem h)
    obtain ⟨p, hp, p1, p2⟩ := down (W := W) (s := G.head h) (by omega)
    obtain ⟨q, hq, q1, q2⟩ := up (W := W) (s := G.getLast h) (by omega)
    have wp := hW p hp
    have wq := hW q hq
    have pL : p.1 ∈ L := (mL _).mpr ⟨⟨p, hp, .inl rfl⟩, by rw [← cnt_2]; omega⟩
    have qL : q.2 ∈ L := (mL _).mpr ⟨⟨q, hq, .inr rfl⟩, by rw [← cnt_2]; omega⟩
    have h2 : L ≠ [] := fun z => by rw [z] at pL; cases pL
    have minG := first_min hG (List.cons_head_tail h).symm
    have minL := first_min hL (List.cons_head_tail h2).symm
    have maxG := last_max hG h
    have maxL := last_max hL h2
    refine ⟨h2, ?_, ?_⟩
    · have a := minG _ (LG _ pL)
      have b := minL _ pL
      have c := minG _ (LG _ (List.head_mem h2))
      omega
    · have a := maxG _ (LG _ qL)
      have b := maxL _ qL
      have c := maxG _ (LG _ (List.getLast_mem h2))
      omega
theorem spots_of {W : List (Int × Int)} {S : Store} (hl : W.length < 100) : RP (m_spots_of [.lst (W.map e2)] S) (fun v S' => v = .lst ((spots W).map AV.int) ∧ ∃ U, S' = S ++ U) noX := by
  unfold m_spots_of
  refine w_fdef rfl ?_
  repeat walk_at "ws"
  refine s_for (i_seq ?_)
  repeat walk_at "ws"
  refine s_forL (fun i Λ S' => Λ.length = 4 ∧ Λ[1]? = some (some (.ref S.length)) ∧ ∃ U, S' = S ++ (.dct (((W.take i).foldl stK []).map tk) :: U)) ?_ (fun _ _ _ _ => rfl) (fun i x Λ S' hx h => ?_) (fun Λ S' h => ?_)
  · exact ⟨rfl, rfl, [], rfl⟩
  · obtain ⟨hl2, h1, U, rfl⟩ := h
    rw [List.getElem?_map, Option.map_eq_some_iff] at hx
    obtain ⟨p, hp, rfl⟩ := hx
    have et : (W.take (i + 1)).foldl stK [] = stK ((W.take i).foldl stK []) p := by
      rw [List.take_succ, hp, List.foldl_append]
      rfl
    have hk : ((W.take i).foldl stK []).length ≤ 2 * W.length := by
      have h1 := kd_len (W.take i) []
      have h2 := List.length_take_le i W
      simp only [List.length_nil] at h1
      have h3 : (W.take i).length ≤ W.length := by rw [List.length_take]; omega
      omega
    rw [et]
    generalize (W.take i).foldl stK [] = ks at hk
    have g0 : (S ++ (Cell.dct (ks.map tk) :: U))[S.length]? = some (.dct (ks.map tk)) := by simp
    repeat walk_at "ws"
    refine ⟨is_dct g0, ?_⟩
    repeat walk_at "ws"
    have g1 : ((S ++ (Cell.dct (ks.map tk) :: U)) ++ [Cell.dct (mergeD [] [(AK.i p.1, .bl true), (AK.i p.2, .bl true)])])[S.length]? = some (.dct (ks.map tk)) := by simp
    have gl : (S ++ (Cell.dct (ks.map tk) :: U)).length = S.length + 1 + U.length := by simp; omega
    have g2 : ((S ++ (Cell.dct (ks.map tk) :: U)) ++ [Cell.dct (mergeD [] [(AK.i p.1, .bl true), (AK.i p.2, .bl true)])])[(S ++ (Cell.dct (ks.map tk) :: U)).length]? = some (.dct (mergeD [] [(AK.i p.1, .bl true), (AK.i p.2, .bl true)])) := by simp
    have em : mergeD [] [(AK.i p.1, AV.bl true), (AK.i p.2, AV.bl true)] = (addK [p.1] p.2).map tk := by
      show dput (.a (.i p.2)) (.bl true) ([p.1].map tk) = _
      rw [dput_tk]
    have lm : (addK [p.1] p.2).length ≤ 2 := by have := addK_len (ks := [p.1]) (k := p.2); simpa using this
    refine w_is (v := .non) (S' := ((S ++ (Cell.dct (ks.map tk) :: U)) ++ [Cell.dct (mergeD [] [(AK.i p.1, .bl true), (AK.i p.2, .bl true)])]).set S.length (.dct ((stK ks p).map tk))) ?_ ?_
    · have ef : flatOf ((S ++ (Cell.dct (ks.map tk) :: U)) ++ [Cell.dct (mergeD [] [(AK.i p.1, .bl true), (AK.i p.2, .bl true)])]) (.ref (S ++ (Cell.dct (ks.map tk) :: U)).length) = some (mergeD [] [(AK.i p.1, .bl true), (AK.i p.2, .bl true)]) := by
        simp only [flatOf, g2]
        rw [em, flat_tk, if_pos rfl]
      simp only [fUpdate, g1, ef, flat_tk, merge_tk]
      rw [if_pos ⟨trivial, by rw [em, List.length_map, List.length_map]; unfold szL; omega, by unfold apart; rw [gl]; exact decide_eq_true (by omega)⟩]
    repeat walk_at "ws"
    refine ⟨by simp only [List.length_set]; exact hl2, by walk_at "lk", U ++ [Cell.dct (mergeD [] [(AK.i p.1, .bl true), (AK.i p.2, .bl true)])], ?_⟩
    simp
  · obtain ⟨hl2, h1, U, rfl⟩ := h
    rw [List.length_map, List.take_length]
    repeat walk_at "ws"
    refine w_is (v := .lst ((spots W).map AV.int)) (S' := S ++ (Cell.dct ((W.foldl stK []).map tk) :: U)) ?_ ?_
    · have g0 : (S ++ (Cell.dct ((W.foldl stK []).map tk) :: U))[S.length]? = some (.dct ((W.foldl stK []).map tk)) := by simp
      have hk := kd_len W []
      simp only [List.length_nil] at hk
      simp only [fSortedD, flatOf, g0, flat_tk, if_true, keys_tk]
      rw [if_pos (sortOk_ints (by omega)), sortA_ints]
      rfl
    exact ⟨rfl, _, rfl⟩
theorem how_many {W : List (Int × Int)} {x : Int} {S : Store} (hl : W.length < 100) : RP (m_how_many_at [.lst (W.map e2), .int x] S) (fun v S' => v = .int (cnt W x) ∧ S' = S) noX := by
  unfold m_how_many_at
  refine w_fdef rfl ?_
  repeat walk_at "ws"
  refine w_lc (i_seq ?_)
  repeat walk_at "ws"
  refine ⟨_, _, lcL_pure (T := Int × Int) e2 (fun p => decide (p.1 ≤ x) && decide (x ≤ p.2)) (fun _ => .int 1) rfl W [] (fun p hp => ⟨_, rfl, ?_, fun _ => ?_⟩) (by simp only [List.length_nil, szL]; omega), ?_⟩
  · repeat walk_at "ws"
    refine ⟨fun h => ?_, fun h => ?_⟩
    · repeat walk_at "ws"
      exact ⟨by rw [h]; rfl, rfl⟩
    · exact ⟨_, rfl, by rw [h]; rfl, rfl⟩
  · repeat walk_at "ws"
    rfl
  rw [List.nil_append]
  repeat walk_at "ws"
  exact ⟨by rw [List.length_map]; rfl, rfl⟩
end K
end

section
set_option Elab.async false
set_option linter.all false
set_option maxRecDepth 100000
set_option maxHeartbeats 2000000
namespace K
open PySem PySem.Spec PyProof.Rows L2 Mir
local macro_rules | `(tactic| walk_at "lk") => `(tactic| first
  | with_unfolding_all rfl
  | assumption
  | (with_reducible apply get_ne; (· decide); walk_at "lk")
  | (with_reducible apply get_neN; (· decide); walk_at "lk")
  | (with_reducible apply get_eq; (try simp only [List.length_set]); omega)
  | (simp only [putA, wipeA, List.foldl, List.cons_append, List.nil_append]; walk_at "lk"))
local macro_rules | `(tactic| walk_at "ws") => `(tactic| first
  | with_reducible refine s_seq ?_
  | with_reducible refine s_asg ?_
  | with_reducible refine w_op ?_
  | (with_reducible refine' w_var ?e ?q; (case e => walk_at "lk"))
  | with_reducible refine w_c ?_
  | with_reducible refine g_name ?_
  | with_reducible refine g_pat1 ?_
  | with_reducible refine g_pat2 ?_
  | with_reducible refine g_pat3 ?_
  | with_reducible refine g_pat4 ?_
  | with_reducible refine g_pat5 ?_
  | (with_reducible refine' g_pat ?e ?q; (case e => with_unfolding_all rfl))
  | with_reducible refine g_sub ?_
  | with_reducible refine w_cons ?_
  | with_reducible refine w_nil ?_
  | with_reducible refine w_un ?_
  | with_reducible refine w_val ?_
  | with_reducible refine w_call ?_
  | with_reducible refine w_not ?_
  | with_reducible refine w_tru ?_
  | with_reducible refine w_tup ?_
  | with_reducible refine w_lstF ?_
  | with_reducible refine w_lstR ?_
  | with_reducible refine s_ret ?_
  | with_reducible refine s_next ?_
  | with_reducible refine s_drop ?_
  | with_reducible refine w_meth ?_
  | with_reducible refine w_attr ?_
  | with_reducible refine w_bm ?_
  | with_reducible refine w_sl ?_
  | with_reducible refine w_oN ?_
  | with_reducible refine w_oS ?_
  | with_reducible refine s_attr ?_
  | with_reducible refine s_attrA ?_
  | with_reducible refine s_del ?_
  | with_reducible refine s_par2 ?_
  | with_reducible refine s_par3 ?_
  | with_reducible refine s_par ?_
  | with_reducible refine w_dct0 ?_
  | with_reducible refine w_dctP ?_
  | with_reducible refine w_pC ?_
  | with_reducible refine w_pN ?_
  | with_reducible refine w_chain ?_
  | with_reducible refine w_yes ?_
  | with_reducible refine w_addI ?_
  | with_reducible refine w_subI ?_
  | with_reducible refine w_iaddI ?_
  | with_reducible refine w_negI ?_
  | with_reducible refine w_intI ?_
  | with_reducible refine w_intB ?_
  | with_reducible refine w_lt ?_
  | with_reducible refine w_le ?_
  | with_reducible refine w_gt ?_
  | with_reducible refine w_ge ?_
  | with_reducible refine w_eqI ?_
  | with_reducible refine w_neI ?_
  | with_reducible refine w_eqS ?_
  | with_reducible refine w_neS ?_
  | with_reducible refine w_notB ?_
  | with_reducible refine w_eqB ?_
  | with_reducible refine w_neB ?_
  | with_reducible refine w_neP ?_
  | with_reducible refine w_eqP ?_
  | with_reducible refine w_nePI ?_
  | (with_reducible refine' w_is (r := opIx _ _ _) ?e ?q; (case e => with_unfolding_all rfl))
  | (with_reducible refine' w_is (r := opAdd _ _ _) ?e ?q; (case e => with_unfolding_all rfl))
  | with_reducible refine w_sl32 ?_
  | with_reducible refine w_sl31 ?_
  | (with_reducible refine' w_is (r := opSl _ _ _ _) ?e ?q; (case e => with_unfolding_all rfl))
  | (with_reducible refine' w_is (r := fLen _ _) ?e ?q; (case e => with_unfolding_all rfl))
  | (with_reducible refine' w_is (r := fAbs _ _) ?e ?q; (case e => with_unfolding_all rfl))
  | (with_reducible refine' w_is (r := fTuple _ _) ?e ?q; (case e => with_unfolding_all rfl))
  | (with_reducible refine' w_is (r := opIsN _ _ _) ?e ?q; (case e => with_unfolding_all rfl))
  | (with_reducible refine' w_is (r := opNotN _ _ _) ?e ?q; (case e => with_unfolding_all rfl))
  | refine ⟨Nat.le_of_ble_eq_true rfl, ?_⟩
  | refine ⟨_, rfl, ?_⟩
  | refine ⟨rfl, ?_⟩
  | refine ⟨_, _, rfl, rfl, ?_⟩
  | refine ⟨_, _, _, _, rfl, rfl, rfl, ?_⟩
  | refine ⟨_, _, rfl, rfl, of_decide_eq_true rfl, ?_⟩
  | refine ⟨_, rfl, of_decide_eq_true rfl, ?_⟩
  | refine ⟨_, _, _, rfl, rfl, rfl, ?_⟩
  | refine ⟨_, _, rfl, ?_⟩
  | refine ⟨_, _, _, rfl, ?_⟩)
/-! the rest -/
def Sp (p : Int × Int) : Prop := 0 ≤ p.1 ∧ p.1 ≤ p.2 ∧ p.2 ≤ 29
def goodG (W : List (Int × Int)) (need : Int) : List Int := ((List.range 61).map fun (k : Nat) => (0 : Int) + k).filter fun s => decide (need ≤ (cnt2 W s : Int))
def goodL (W : List (Int × Int)) (need : Int) : List Int := (spots W).filter fun s => decide (need ≤ (cnt W s : Int))
theorem w_ixL {xs : List AV} {S : Store} {Q : AV → Store → Prop} {X : Xp} (h : xs ≠ []) (q : Q (xs.getLast h) S) : RP (opIx (.lst xs) (.int (-1)) S) Q X := by
  refine w_is (v := xs.getLast h) (S' := S) ?_ q
  have hl : 0 < xs.length := List.length_pos_iff.mpr h
  have e : atI xs (-1) = some (xs.getLast h) := by
    unfold atI ixN
    rw [if_neg (by decide), if_pos (by omega), show ((-1 : Int) + (xs.length : Int)).toNat = xs.length - 1 by omega]
    show xs[xs.length - 1]? = _
    rw [List.getLast_eq_getElem, List.getElem?_eq_getElem]
  simp only [opIx, seqOf, lstOf, e]
theorem w_ix0I {V : List Int} {S : Store} {Q : AV → Store → Prop} {X : Xp} (h : V ≠ []) (q : Q (.int (V.head h)) S) : RP (opIx (.lst (V.map AV.int)) (.int 0) S) Q X := by
  cases V with
  | nil => exact absurd rfl h
  | cons v V => exact w_ix0 q
theorem w_ixLI {V : List Int} {S : Store} {Q : AV → Store → Prop} {X : Xp} (h : V ≠ []) (q : Q (.int (V.getLast h)) S) : RP (opIx (.lst (V.map AV.int)) (.int (-1)) S) Q X :=
  w_ixL (by simpa using h) (by rw [List.getLast_map]; exact q)
theorem ne_nil {xs : List AV} {S : Store} {Q : AV → Store → Prop} {X : Xp} (q : Q (.bl (!xs.isEmpty)) S) : RP (opNe (.lst xs) (.lst []) S) Q X := by
  refine w_is (v := .bl (!xs.isEmpty)) (S' := S) ?_ q
  have e : aeq true (63 + 1) S (.lst xs) (.lst []) = some xs.isEmpty := by
    unfold aeq
    cases xs <;> simp [tupOf, lstOf, eqMin]
  unfold opNe
  rw [e]
theorem law_spans {W : List (Int × Int)} {wrong : Int} {S : Store} (hl : W.length < 100) : RP (m__law_spans [.lst (W.map e2), .int wrong] S) (fun v S' => v = .lst ((goodG W (W.length - wrong)).map AV.int) ∧ S' = S) noX := by
  unfold m__law_spans
  refine w_fdef rfl ?_
  repeat walk_at "ws"
  refine w_lc (i_range2 ?_)
  repeat walk_at "ws"
  have er : ((List.range ((61 : Int) - 0).toNat).map fun (k : Nat) => AV.int (0 + k)) = ((List.range 61).map fun (k : Nat) => (0 : Int) + k).map AV.int := by rw [List.map_map]; rfl
  rw [er]
  refine ⟨_, _, lcL_pure (T := Int) AV.int (fun s => decide (((W.map e2).length : Int) - wrong ≤ (cnt2 W s : Int))) AV.int rfl ((List.range 61).map fun (k : Nat) => (0 : Int) + k) [] (fun s hs => ⟨_, rfl, ?_, fun _ => ?_⟩) (by simp [szL]), ?_⟩
  · have hs : 0 ≤ s ∧ s < 61 := by
      obtain ⟨k, hk, rfl⟩ := List.mem_map.mp hs
      have := List.mem_range.mp hk
      omega
    repeat walk_at "ws"
    refine w_lc (i_seq ?_)
    repeat walk_at "ws"
    refine ⟨_, _, lcL_pure (T := Int × Int) e2 (fun p => decide (2 * p.1 ≤ s) && decide (s ≤ 2 * p.2)) (fun _ => .int 1) rfl W [] (fun p hp => ⟨_, rfl, ?_, fun _ => ?_⟩) (by simp only [List.length_nil, szL]; omega), ?_⟩
    · repeat walk_at "ws"
      refine ⟨fun h => ?_, fun h => ?_⟩
      · have h : decide (2 * p.1 ≤ s) = true := h
        repeat walk_at "ws"
        exact ⟨by rw [h]; rfl, rfl⟩
      · have h : decide (2 * p.1 ≤ s) = false := h
        exact ⟨_, rfl, by rw [h]; rfl, rfl⟩
    · repeat walk_at "ws"
      rfl
    rw [List.nil_append]
    repeat walk_at "ws"
    exact ⟨by rw [List.length_map, List.length_map]; rfl, rfl⟩
  · repeat walk_at "ws"
    rfl
  rw [List.nil_append]
  repeat walk_at "ws"
  refine ⟨?_, rfl⟩
  rw [List.length_map]
  rfl
theorem gx_none {keep : Store → Bool} {p : Pt} {e : EM} {Λ : LEnv} {S : Store} (hk : keep S = true) : ∀ {xs : List AV}, (∀ x ∈ xs, ∃ as, dest p x = some as ∧ RP (e (putA Λ as) S) (fun v S' => v = .bl false ∧ S' = S) noX) → gxL true keep p tYesM e Λ xs S = .ok false S
  | [], _ => by unfold gxL; rw [if_pos hk]; rfl
  | x :: xs, h => by
    obtain ⟨as, e1, e2⟩ := h x List.mem_cons_self
    unfold gxL
    rw [if_pos hk, e1]
    dsimp only
    show ((Res.ok true S).nb _) = _
    rw [Res.nb_ok, if_pos rfl, rp_eq e2, Res.nb_ok]
    dsimp only
    rw [if_neg (by decide)]
    exact gx_none hk fun y hy => h y (List.mem_cons_of_mem _ hy)
theorem w_gx {st : Bool} {it : IM} {own : List Nat} {p : Pt} {t : TM} {e : EM} {Λ : LEnv} {S : Store} {Q : AV → Store → Prop} {X : Xp} (h : RP (it Λ S) (fun src S1 => ∃ b S2, gxL st src.keep p t e (wipeA Λ own) src.items S1 = .ok b S2 ∧ Q (.bl b) (unlS src.lock S2)) X) : RP (eGx st it own p t e Λ S) Q X := rp_bind (h.mono fun src S1 ⟨b, S2, e, q⟩ => by rw [e, Res.nb_ok]; exact q)
theorem agreed {W : List (Int × Int)} {wrong : Int} {S : Store} (hl : W.length < 100) (hw : 0 ≤ wrong ∧ wrong < W.length) (hW : ∀ p ∈ W, Sp p) :
    RP (m_agreed_span [.lst (W.map e2), .int wrong] S) (fun v S' => (goodL W (W.length - wrong) = [] ∧ v = .non ∨ ∃ h : goodL W (W.length - wrong) ≠ [], v = e2 ((goodL W (W.length - wrong)).head h, (goodL W (W.length - wrong)).getLast h)) ∧ ∃ U, S' = S ++ U) noX := by
  unfold m_agreed_span
  refine w_fdef rfl ?_
  refine s_seq (s_ifF (w_orF ?_))
  repeat walk_at "ws"
  refine ⟨fun _ => ?_, fun h => absurd (of_decide_eq_false h) (by omega)⟩
  repeat walk_at "ws"
  rw [show decide (wrong < ((W.map e2).length : Int)) = true from decide_eq_true (by rw [List.length_map]; omega)]
  repeat walk_at "ws"
  refine w_gx (i_seq ?_)
  repeat walk_at "ws"
  refine ⟨_, _, gx_none rfl (fun x hx => ?_), ?_⟩
  · obtain ⟨p, hp, rfl⟩ := List.mem_map.mp hx
    refine ⟨_, rfl, ?_⟩
    repeat walk_at "ws"
    exact ⟨by rw [decide_eq_false (by have := (hW p hp).2.1; omega)], rfl⟩
  repeat walk_at "ws"
  simp only [List.length_map]
  refine w_lc (i_seq ?_)
  repeat walk_at "ws"
  refine (spots_of hl).mono ?_
  rintro _ _ ⟨rfl, U, rfl⟩
  repeat walk_at "ws"
  have hs : (spots W).length ≤ 2 * W.length := by
    have := kd_len W []
    simp only [List.length_nil] at this
    rw [List.length_mergeSort]
    unfold kd
    omega
  refine ⟨_, _, lcL_pure (T := Int) AV.int (fun s => decide ((W.length : Int) - wrong ≤ (cnt W s : Int))) AV.int rfl (spots W) [] (fun s _ => ⟨_, rfl, ?_, fun _ => ?_⟩) (by simp only [List.length_nil, szL]; omega), ?_⟩
  · repeat walk_at "ws"
    refine (how_many hl).mono ?_
    rintro _ _ ⟨rfl, rfl⟩
    repeat walk_at "ws"
    rfl
  · repeat walk_at "ws"
    rfl
  rw [List.nil_append]
  show GW _ _
  repeat walk_at "ws"
  refine w_ife ?_
  repeat walk_at "ws"
  refine ne_nil ?_
  repeat walk_at "ws"
  show (_ → _) ∧ _
  have eG : (spots W).filter (fun s => decide ((W.length : Int) - wrong ≤ (cnt W s : Int))) = goodL W (W.length - wrong) := rfl
  rw [eG]
  generalize goodL W (W.length - wrong) = G
  refine ⟨fun h => ?_, fun h => ?_⟩
  · cases G with
    | nil => cases h
    | cons g G =>
      repeat walk_at "ws"
      refine w_ix0 ?_
      repeat walk_at "ws"
      refine w_ixL (by simp) ?_
      repeat walk_at "ws"
      refine ⟨.inr ⟨by simp, ?_⟩, U, rfl⟩
      rw [List.getLast_map]
      rfl
  · cases G with
    | nil =>
      repeat walk_at "ws"
      exact ⟨.inl ⟨rfl, rfl⟩, U, rfl⟩
    | cons g G => cases h
theorem goods {W : List (Int × Int)} {wrong : Int} (hw : 0 ≤ wrong ∧ wrong < W.length) (hW : ∀ p ∈ W, Sp p) :
    (goodG W (W.length - wrong) = [] → goodL W (W.length - wrong) = []) ∧ ∀ (h : goodG W (W.length - wrong) ≠ []), ∃ h2 : goodL W (W.length - wrong) ≠ [], (goodG W (W.length - wrong)).head h = 2 * (goodL W (W.length - wrong)).head h2 ∧ (goodG W (W.length - wrong)).getLast h = 2 * (goodL W (W.length - wrong)).getLast h2 := by
  refine agree (W := W) hW (need := ((W.length : Int) - wrong).toNat) (by omega) ?_ ?_ (fun s => ?_) (fun x => ?_)
  · refine List.Pairwise.filter _ ?_
    rw [List.pairwise_map]
    exact List.pairwise_lt_range.imp fun h => by omega
  · exact List.Pairwise.filter _ (sI_lt (kd_nodup W [] (by simp)))
  · unfold goodG
    rw [List.mem_filter, List.mem_map, decide_eq_true_eq]
    constructor
    · rintro ⟨⟨k, hk, rfl⟩, h⟩
      have := List.mem_range.mp hk
      exact ⟨by omega, by omega, by omega⟩
    · rintro ⟨h1, h2, h3⟩
      exact ⟨⟨s.toNat, List.mem_range.mpr (by omega), by omega⟩, by omega⟩
  · unfold goodL
    rw [List.mem_filter, decide_eq_true_eq, sI_mem, kd, kd_mem]
    constructor
    · rintro ⟨h1, h2⟩
      exact ⟨by simpa using h1, by omega⟩
    · rintro ⟨h1, h2⟩
      exact ⟨.inr h1, by omega⟩
def In4 (n i : Nat) (Λ : LEnv) (S : Store) : Prop := Λ.length = 35 ∧ Λ[1]? = some (some (.ref 0)) ∧ ∃ (a b c : Int) (T : Store) (W : List (Int × Int)), Λ[14]? = some (some (.lst (W.map e2))) ∧ (∀ p ∈ W, Sp p) ∧ W.length = i ∧ i ≤ n ∧ S = D a b c :: T
theorem turn4 {n i : Nat} {Λ : LEnv} {S : Store} {R : AV → Store → Prop} (h : In4 n i Λ S) (hi : i < n) (hn : n < 900) : SW (sSeq lw14 lw15 Λ S) (In4 n (i + 1)) R noX := by
  obtain ⟨hlen, h1, a, b, c, T, W, h14, hW, hl, _, rfl⟩ := h
  refine s_seq ?_
  unfold lw14
  repeat walk_at "ws"
  refine (roll a b c 20 _ (by decide) (by decide)).mono ?_
  rintro _ _ ⟨low, a1, b1, c1, rfl, hr0, hr1, rfl⟩
  repeat walk_at "ws"
  unfold lw15
  repeat walk_at "ws"
  refine (roll a1 b1 c1 10 _ (by decide) (by decide)).mono ?_
  rintro _ _ ⟨high, a2, b2, c2, rfl, hs0, hs1, rfl⟩
  repeat walk_at "ws"
  refine w_addL (by rw [List.length_map, hl]; simp only [List.length_singleton, szL]; omega) ?_
  repeat walk_at "ws"
  refine ⟨by simp only [List.length_set]; exact hlen, by walk_at "lk", a2, b2, c2, T, W ++ [(low, low + high)], ?_, fun p hp => ?_, by rw [List.length_append, hl]; rfl, by omega, rfl⟩
  · simp only [List.map_append, List.map_cons, List.map_nil]
    walk_at "lk"
  · rcases List.mem_append.mp hp with z | z
    · exact hW p z
    · rw [List.mem_singleton.mp z]; exact ⟨hr0, by dsimp only; omega, by dsimp only; omega⟩
def Bet4 (Λ : LEnv) (S : Store) : Prop := Bet Λ S ∧ ∃ W : List (Int × Int), Λ[14]? = some (some (.lst (W.map e2))) ∧ W.length < 100
theorem part4 {Λ : LEnv} {S : Store} {N : LEnv → Store → Prop} {R : AV → Store → Prop} {B : SM} (h : Bet Λ S) (hN : ∀ Λ S, Bet4 Λ S → SW (B Λ S) N R noX) : SW (sSeq (sAsg (eLstF aNil) (gName 14)) (sSeq lw26 (sSeq lw27 (sSeq lw28 (sSeq lw29 (sSeq lw30 B))))) Λ S) N R noX := by
  obtain ⟨hlen, h1, a, b, c, T, rfl⟩ := h
  repeat walk_at "ws"
  unfold lw26
  refine s_for (i_range1 ?_)
  repeat walk_at "ws"
  refine (roll a b c 5 _ (by decide) (by decide)).mono ?_
  rintro _ _ ⟨r, a1, b1, c1, rfl, hr0, hr1, rfl⟩
  repeat walk_at "ws"
  refine ⟨rng_ok (by omega) (by omega), rfl, s_forL (In4 (1 + r).toNat) ?_ (fun _ _ _ _ => rfl) (fun i x Λ S hx h => ?_) (fun Λ S h => ?_)⟩
  · exact ⟨by simp only [List.length_set]; exact hlen, by walk_at "lk", a1, b1, c1, T, [], (by show _ = some (some (AV.lst [])); walk_at "lk"), by simp, rfl, by omega, rfl⟩
  · obtain ⟨hx2, rfl⟩ := rng_at hx
    refine g_pat1 (turn4 ?_ hx2 (by omega))
    obtain ⟨hlen, h1, a, b, c, T, W, h14, h⟩ := h
    exact ⟨by simp only [List.length_set]; exact hlen, by walk_at "lk", a, b, c, T, W, by walk_at "lk", h⟩
  obtain ⟨hlen, h1, a, b, c, T, W, h14, hW, hl, hle, rfl⟩ := h
  rw [List.length_map, List.length_range] at hl
  have hW1 : W.length < 100 := by omega
  repeat walk_at "ws"
  unfold lw27
  repeat walk_at "ws"
  rw [List.length_map]
  refine (roll a b c W.length _ (by omega) (by omega)).mono ?_
  rintro _ _ ⟨wrong, a2, b2, c2, rfl, hs0, hs1, rfl⟩
  repeat walk_at "ws"
  unfold lw28
  repeat walk_at "ws"
  refine (law_spans hW1).mono ?_
  rintro _ _ ⟨rfl, rfl⟩
  repeat walk_at "ws"
  obtain ⟨k1, k2⟩ := goods ⟨hs0, hs1⟩ hW
  unfold lw29
  refine s_ifF ?_
  repeat walk_at "ws"
  refine (agreed hW1 ⟨hs0, hs1⟩ hW).mono ?_
  rintro v _ ⟨hv, U, rfl⟩
  refine w_ife ?_
  repeat walk_at "ws"
  refine ne_nil ?_
  repeat walk_at "ws"
  generalize goodG W (W.length - wrong) = G at k1 k2 ⊢
  generalize goodL W (W.length - wrong) = L at k1 k2 hv ⊢
  have fin : ∀ Λ2 : LEnv, Λ2.length = 35 → Λ2[1]? = some (some (.ref 0)) → Λ2[14]? = some (some (.lst (W.map e2))) → SW (B Λ2 (D a2 b2 c2 :: T ++ U)) N R noX := fun Λ2 l1 l2 l3 => hN _ _ ⟨⟨l1, l2, _, _, _, _, rfl⟩, W, l3, hW1⟩
  refine ⟨fun hG => ?_, fun hG => ?_⟩
  · have hG : G ≠ [] := fun z => by subst z; cases hG
    obtain ⟨h2, e1, e2'⟩ := k2 hG
    rcases hv with ⟨z, _⟩ | ⟨_, rfl⟩
    · exact absurd z h2
    repeat walk_at "ws"
    refine w_ix0I hG ?_
    repeat walk_at "ws"
    try (refine w_div (by decide) (by decide) ?_; repeat walk_at "ws")
    refine w_ixLI hG ?_
    repeat walk_at "ws"
    try (refine w_div (by decide) (by decide) ?_; repeat walk_at "ws")
    refine ⟨decide_eq_false (fun z => z ⟨by (try dsimp only); omega, by (try dsimp only); omega⟩), ?_⟩
    repeat walk_at "ws"
    unfold lw30
    refine s_ifF (w_andT ?_)
    repeat walk_at "ws"
    refine ne_nil ?_
    repeat walk_at "ws"
    refine ⟨by cases G with
      | nil => exact absurd rfl hG
      | cons g G => rfl, ?_⟩
    repeat walk_at "ws"
    refine w_ix0I hG ?_
    repeat walk_at "ws"
    try (refine w_div (by decide) (by decide) ?_; repeat walk_at "ws")
    try (refine w_mul (mulR (by decide)) ?_; repeat walk_at "ws")
    refine w_ixLI hG ?_
    repeat walk_at "ws"
    try (refine w_div (by decide) (by decide) ?_; repeat walk_at "ws")
    try (refine w_mul (mulR (by decide)) ?_; repeat walk_at "ws")
    refine w_ix0I hG ?_
    repeat walk_at "ws"
    refine w_ixLI hG ?_
    repeat walk_at "ws"
    refine ⟨decide_eq_false (fun z => z ⟨by (try dsimp only); omega, by (try dsimp only); omega⟩), ?_⟩
    repeat walk_at "ws"
    exact fin _ (by simp only [List.length_set]; exact hlen) (by walk_at "lk") (by walk_at "lk")
  · have hG : G = [] := by
      cases G with
      | nil => rfl
      | cons g G => cases hG
    subst hG
    rcases hv with ⟨_, rfl⟩ | ⟨z, _⟩
    rotate_left
    · exact absurd (k1 rfl) z
    repeat walk_at "ws"
    unfold lw30
    refine s_ifF (w_andF ?_)
    repeat walk_at "ws"
    exact fin _ (by simp only [List.length_set]; exact hlen) (by walk_at "lk") (by walk_at "lk")
end K
end

section
set_option Elab.async false
set_option linter.all false
set_option maxRecDepth 100000
set_option maxHeartbeats 2000000
namespace K
open PySem PySem.Spec PyProof.Rows L2 Mir
local macro_rules | `(tactic| walk_at "lk") => `(tactic| first
  | with_unfolding_all rfl
  | assumption
  | (with_reducible apply get_ne; (· decide); walk_at "lk")
  | (with_reducible apply get_neN; (· decide); walk_at "lk")
  | (with_reducible apply get_eq; (try simp only [List.length_set]); omega)
  | (simp only [putA, wipeA, List.foldl, List.cons_append, List.nil_append]; walk_at "lk"))
local macro_rules | `(tactic| walk_at "ws") => `(tactic| first
  | with_reducible refine s_seq ?_
  | with_reducible refine s_asg ?_
  | with_reducible refine w_op ?_
  | (with_reducible refine' w_var ?e ?q; (case e => walk_at "lk"))
  | with_reducible refine w_c ?_
  | with_reducible refine g_name ?_
  | with_reducible refine g_pat1 ?_
  | with_reducible refine g_pat2 ?_
  | with_reducible refine g_pat3 ?_
  | with_reducible refine g_pat4 ?_
  | with_reducible refine g_pat5 ?_
  | (with_reducible refine' g_pat ?e ?q; (case e => with_unfolding_all rfl))
  | with_reducible refine g_sub ?_
  | with_reducible refine w_cons ?_
  | with_reducible refine w_nil ?_
  | with_reducible refine w_un ?_
  | with_reducible refine w_val ?_
  | with_reducible refine w_call ?_
  | with_reducible refine w_not ?_
  | with_reducible refine w_tru ?_
  | with_reducible refine w_tup ?_
  | with_reducible refine w_lstF ?_
  | with_reducible refine w_lstR ?_
  | with_reducible refine s_ret ?_
  | with_reducible refine s_next ?_
  | with_reducible refine s_drop ?_
  | with_reducible refine w_meth ?_
  | with_reducible refine w_attr ?_
  | with_reducible refine w_bm ?_
  | with_reducible refine w_sl ?_
  | with_reducible refine w_oN ?_
  | with_reducible refine w_oS ?_
  | with_reducible refine s_attr ?_
  | with_reducible refine s_attrA ?_
  | with_reducible refine s_del ?_
  | with_reducible refine s_par2 ?_
  | with_reducible refine s_par3 ?_
  | with_reducible refine s_par ?_
  | with_reducible refine w_dct0 ?_
  | with_reducible refine w_dctP ?_
  | with_reducible refine w_pC ?_
  | with_reducible refine w_pN ?_
  | with_reducible refine w_chain ?_
  | with_reducible refine w_yes ?_
  | with_reducible refine w_addI ?_
  | with_reducible refine w_subI ?_
  | with_reducible refine w_iaddI ?_
  | with_reducible refine w_negI ?_
  | with_reducible refine w_intI ?_
  | with_reducible refine w_intB ?_
  | with_reducible refine w_lt ?_
  | with_reducible refine w_le ?_
  | with_reducible refine w_gt ?_
  | with_reducible refine w_ge ?_
  | with_reducible refine w_eqI ?_
  | with_reducible refine w_neI ?_
  | with_reducible refine w_eqS ?_
  | with_reducible refine w_neS ?_
  | with_reducible refine w_notB ?_
  | with_reducible refine w_eqB ?_
  | with_reducible refine w_neB ?_
  | with_reducible refine w_neP ?_
  | with_reducible refine w_eqP ?_
  | with_reducible refine w_nePI ?_
  | (with_reducible refine' w_is (r := opIx _ _ _) ?e ?q; (case e => with_unfolding_all rfl))
  | (with_reducible refine' w_is (r := opAdd _ _ _) ?e ?q; (case e => with_unfolding_all rfl))
  | with_reducible refine w_sl32 ?_
  | with_reducible refine w_sl31 ?_
  | (with_reducible refine' w_is (r := opSl _ _ _ _) ?e ?q; (case e => with_unfolding_all rfl))
  | (with_reducible refine' w_is (r := fLen _ _) ?e ?q; (case e => with_unfolding_all rfl))
  | (with_reducible refine' w_is (r := fAbs _ _) ?e ?q; (case e => with_unfolding_all rfl))
  | (with_reducible refine' w_is (r := fTuple _ _) ?e ?q; (case e => with_unfolding_all rfl))
  | (with_reducible refine' w_is (r := opIsN _ _ _) ?e ?q; (case e => with_unfolding_all rfl))
  | (with_reducible refine' w_is (r := opNotN _ _ _) ?e ?q; (case e => with_unfolding_all rfl))
  | refine ⟨Nat.le_of_ble_eq_true rfl, ?_⟩
  | refine ⟨_, rfl, ?_⟩
  | refine ⟨rfl, ?_⟩
  | refine ⟨_, _, rfl, rfl, ?_⟩
  | refine ⟨_, _, _, _, rfl, rfl, rfl, ?_⟩
  | refine ⟨_, _, rfl, rfl, of_decide_eq_true rfl, ?_⟩
  | refine ⟨_, rfl, of_decide_eq_true rfl, ?_⟩
  | refine ⟨_, _, _, rfl, rfl, rfl, ?_⟩
  | refine ⟨_, _, rfl, ?_⟩
  | refine ⟨_, _, _, rfl, ?_⟩)
/-! clocks in the middle -/
def mid (L : List Int) : List Int := cutA L (some 1) (some (-1))
def inner (V : List Int) : List Int := if 2 < V.length then mid (sI V) else sI V
theorem cut_mid {L : List Int} : cutA (L.map AV.int) (some 1) (some (-1)) = (mid L).map AV.int := by
  simp only [mid, cutA, List.length_map, List.map_take, List.map_drop]
theorem sI_len (V : List Int) : (sI V).length = V.length := List.length_mergeSort _
theorem inner_pos {V : List Int} (h : V ≠ []) : 0 < (inner V).length := by
  have hl : 0 < V.length := List.length_pos_iff.mpr h
  unfold inner
  split
  · rename_i h2
    unfold mid cutA
    rw [List.length_take, List.length_drop, sI_len]
    have e1 : HT.sIx V.length 0 (some 1) = 1 := by
      unfold HT.sIx
      dsimp only
      rw [if_neg (by decide)]
      show min 1 V.length = 1
      omega
    have e2 : HT.sIx V.length V.length (some (-1)) = V.length - 1 := by
      unfold HT.sIx
      dsimp only
      rw [if_pos (by decide)]
      omega
    rw [e1, e2]
    omega
  · rw [sI_len]; exact hl
theorem mid_at {V : List Int} (h : V ≠ []) : ∃ x : Int, ∀ S, opIx (.lst ((inner V).map AV.int)) (.int ((((inner V).map AV.int).length - 1 : Int) / 2)) S = .ok (.int x) S := by
  have hp := inner_pos h
  obtain ⟨y, e, hy, _⟩ := atI_ok (xs := (inner V).map AV.int) (i := ((((inner V).map AV.int).length : Int) - 1) / 2) (by rw [List.length_map]; omega) (by rw [List.length_map]; omega)
  obtain ⟨x, _, rfl⟩ := List.mem_map.mp hy
  exact ⟨x, fun S => by simp only [opIx, seqOf, lstOf, e]⟩
theorem middle {V : List Int} {S : Store} {x : Int} (h : V ≠ []) (hl : V.length ≤ 1000) (hx : ∀ S, opIx (.lst ((inner V).map AV.int)) (.int ((((inner V).map AV.int).length - 1 : Int) / 2)) S = .ok (.int x) S) : RP (m_middle_of [.lst (V.map AV.int)] S) (fun v S' => v = .int x ∧ S' = S) noX := by
  have hp : 0 < V.length := List.length_pos_iff.mpr h
  unfold m_middle_of
  refine w_fdef rfl ?_
  refine s_seq (s_ifF ?_)
  repeat walk_at "ws"
  refine ⟨decide_eq_false (by rw [List.length_map]; omega), ?_⟩
  repeat walk_at "ws"
  refine sorted_lst hl ?_
  repeat walk_at "ws"
  by_cases h2 : 2 < V.length
  · refine w_ifT' ?_ ?_
    · repeat walk_at "ws"
      exact ⟨decide_eq_true (by rw [List.length_map, sI_len]; omega), rfl⟩
    repeat walk_at "ws"
    have e : mid (sI V) = inner V := (if_pos h2).symm
    rw [cut_mid, e]
    repeat walk_at "ws"
    try (refine w_div (by decide) (by decide) ?_; repeat walk_at "ws")
    refine w_is (hx _) ⟨rfl, rfl⟩
  · refine w_ifF' ?_ ?_
    · repeat walk_at "ws"
      exact ⟨decide_eq_false (by rw [List.length_map, sI_len]; omega), rfl⟩
    have e : sI V = inner V := (if_neg h2).symm
    rw [e]
    repeat walk_at "ws"
    try (refine w_div (by decide) (by decide) ?_; repeat walk_at "ws")
    refine w_is (hx _) ⟨rfl, rfl⟩
theorem ne_same {V : List Int} {S : Store} {Q : AV → Store → Prop} {X : Xp} (q : Q (.bl false) S) : RP (opNe (.lst (V.map AV.int)) (.lst (V.map AV.int)) S) Q X := by
  refine w_is (v := .bl false) (S' := S) ?_ q
  have h1 : ∀ k (x : Int), aeq true (k + 1) S (.int x) (.int x) = some true := fun k x => by simp [aeq, tupOf]
  have h2 : eqMin (aeq true 63 S) (V.map AV.int) (V.map AV.int) = some true := by
    induction V with
    | nil => rfl
    | cons x V ih =>
      show (match aeq true 63 S (.int x) (.int x), eqMin (aeq true 63 S) (V.map AV.int) (V.map AV.int) with
        | some a, some b => some (a && b)
        | _, _ => none) = _
      rw [h1 62, ih]
      rfl
  have e : aeq true (63 + 1) S (.lst (V.map AV.int)) (.lst (V.map AV.int)) = some true := by
    unfold aeq
    simp only [tupOf, lstOf, if_true, h2]
  unfold opNe
  rw [e]
  rfl
theorem part5 {Λ : LEnv} {S : Store} {N : LEnv → Store → Prop} {R : AV → Store → Prop} {B : SM} (h : Bet4 Λ S) (hN : ∀ Λ S, Bet Λ S → SW (B Λ S) N R noX) : SW (sSeq lw31 (sSeq lw32 (sSeq lw33 B)) Λ S) N R noX := by
  obtain ⟨⟨hlen, h1, a, b, c, T, rfl⟩, W, h14, hW⟩ := h
  refine s_seq ?_
  unfold lw31
  repeat walk_at "ws"
  refine w_lc (i_range1 ?_)
  repeat walk_at "ws"
  refine (roll a b c 6 _ (by decide) (by decide)).mono ?_
  rintro _ _ ⟨r, a1, b1, c1, rfl, hr0, hr1, rfl⟩
  repeat walk_at "ws"
  refine ⟨rng_ok (by omega) (by omega), ?_⟩
  obtain ⟨xs, S', e1, V, e2, hV, a2, b2, c2, e3⟩ := lcL_inv (keep := fun _ => true) (t := tYesM) (p := .nm 11) (e := eCall m__law_roll (aCons (eVar 1) (aCons (eC (.int 30)) aNil))) (Λ := wipeA Λ [11])
    (fun i acc S => ∃ V : List Int, acc = V.map AV.int ∧ V.length = i ∧ ∃ a b c, S = D a b c :: T) (fun _ _ _ _ => rfl) ((List.range (1 + r).toNat).map fun (k : Nat) => AV.int k) 0 [] (D a1 b1 c1 :: T) ⟨[], rfl, rfl, _, _, _, rfl⟩ (fun j x acc S hx hI => by
      obtain ⟨V, rfl, hV, a, b, c, rfl⟩ := hI
      have hj := (rng_at hx).1
      refine ⟨_, rfl, ?_⟩
      refine w_yes ⟨fun _ => ?_, fun z => (by cases z)⟩
      repeat walk_at "ws"
      refine (roll a b c 30 _ (by decide) (by decide)).mono ?_
      rintro _ _ ⟨y, a1, b1, c1, rfl, _, _, rfl⟩
      refine ⟨by rw [List.length_map, hV]; unfold szL; omega, V ++ [y], by rw [List.map_append]; rfl, by rw [List.length_append, hV]; rfl, _, _, _, rfl⟩)
  rw [List.length_map, List.length_range, Nat.zero_add] at hV
  subst e2 e3
  refine ⟨_, _, e1, ?_⟩
  have hV0 : V ≠ [] := fun z => by rw [z] at hV; simp at hV; omega
  have hVl : V.length ≤ 1000 := by omega
  obtain ⟨x, hx⟩ := mid_at hV0
  show GW _ _
  repeat walk_at "ws"
  have key : ∀ S', RP (eIf (tVal (eOp (opCmp .gt) (eCall fLen (aCons (eVar 17) aNil)) (eC (.int 2)))) (eSl (eCall fSortedD (aCons (eVar 17) aNil)) (oSome (eC (.int 1))) (oSome (eUn opNeg (eC (.int 1))))) (eCall fSortedD (aCons (eVar 17) aNil)) (List.set Λ 17 (some (.lst (V.map AV.int)))) S') (fun v S'' => v = .lst ((inner V).map AV.int) ∧ S'' = S') noX := fun S' => by
    by_cases h2 : 2 < V.length
    · refine w_ifT' ?_ ?_
      · repeat walk_at "ws"
        exact ⟨decide_eq_true (by rw [List.length_map]; omega), rfl⟩
      repeat walk_at "ws"
      refine sorted_lst hVl ?_
      repeat walk_at "ws"
      have e : mid (sI V) = inner V := (if_pos h2).symm
      rw [cut_mid, e]
      exact ⟨rfl, rfl⟩
    · refine w_ifF' ?_ ?_
      · repeat walk_at "ws"
        exact ⟨decide_eq_false (by rw [List.length_map]; omega), rfl⟩
      repeat walk_at "ws"
      refine sorted_lst hVl ?_
      have e : sI V = inner V := (if_neg h2).symm
      rw [e]
      exact ⟨rfl, rfl⟩
  unfold lw32
  refine s_asg (w_same (key _) ?_)
  repeat walk_at "ws"
  unfold lw33
  refine s_ifF (w_orF ?_)
  repeat walk_at "ws"
  refine (middle hV0 hVl hx).mono ?_
  rintro _ _ ⟨rfl, rfl⟩
  repeat walk_at "ws"
  try (refine w_div (by decide) (by decide) ?_; repeat walk_at "ws")
  refine w_is (hx _) ?_
  repeat walk_at "ws"
  refine ⟨by simp, ?_⟩
  have hs : (spots W).length ≤ 2 * W.length := by
    have := kd_len W []
    simp only [List.length_nil] at this
    rw [List.length_mergeSort]
    unfold kd
    omega
  repeat walk_at "ws"
  refine w_lc (i_seq ?_)
  repeat walk_at "ws"
  refine (spots_of hW).mono ?_
  rintro _ _ ⟨rfl, U, rfl⟩
  repeat walk_at "ws"
  refine ⟨_, _, lcL_pure (T := Int) AV.int (fun _ => true) (fun s => .int (cnt W s)) rfl (spots W) [] (fun s _ => ⟨_, rfl, ⟨rfl, rfl⟩, fun _ => ?_⟩) (by simp only [List.length_nil, szL]; omega), ?_⟩
  · repeat walk_at "ws"
    exact how_many hW
  rw [flt, List.nil_append]
  refine w_lc (i_seq ?_)
  repeat walk_at "ws"
  refine (spots_of hW).mono ?_
  rintro _ _ ⟨rfl, U2, rfl⟩
  repeat walk_at "ws"
  refine ⟨_, _, lcL_pure (T := Int) AV.int (fun _ => true) (fun s => .int (cnt W s)) rfl (spots W) [] (fun s _ => ⟨_, rfl, ⟨rfl, rfl⟩, fun _ => ?_⟩) (by simp only [List.length_nil, szL]; omega), ?_⟩
  · repeat walk_at "ws"
    refine w_lc (i_seq ?_)
    repeat walk_at "ws"
    refine ⟨_, _, lcL_pure (T := Int × Int) e2 (fun p => decide (p.1 ≤ s) && decide (s ≤ p.2)) (fun _ => .int 1) rfl W [] (fun p hp => ⟨_, rfl, ?_, fun _ => ?_⟩) (by simp only [List.length_nil, szL]; omega), ?_⟩
    · repeat walk_at "ws"
      refine ⟨fun h => ?_, fun h => ?_⟩
      · have h : decide (p.1 ≤ s) = true := h
        repeat walk_at "ws"
        exact ⟨by rw [h]; rfl, rfl⟩
      · have h : decide (p.1 ≤ s) = false := h
        exact ⟨_, rfl, by rw [h]; rfl, rfl⟩
    · repeat walk_at "ws"
      rfl
    rw [List.nil_append]
    repeat walk_at "ws"
    exact ⟨by rw [List.length_map]; rfl, rfl⟩
  rw [flt, List.nil_append, show (fun s : Int => AV.int (cnt W s)) = AV.int ∘ (fun s => (cnt W s : Int)) from rfl, ← List.map_map]
  show RP _ _ _
  refine ne_same ?_
  repeat walk_at "ws"
  exact hN _ _ ⟨by simp only [List.length_set]; exact hlen, by walk_at "lk", _, _, _, _, rfl⟩
end K
end

section
set_option Elab.async false
set_option linter.all false
set_option maxRecDepth 100000
set_option maxHeartbeats 2000000
namespace K
open PySem PySem.Spec PyProof.Rows L2 Mir
local macro_rules | `(tactic| walk_at "lk") => `(tactic| first
  | with_unfolding_all rfl
  | assumption
  | (with_reducible apply get_ne; (· decide); walk_at "lk")
  | (with_reducible apply get_neN; (· decide); walk_at "lk")
  | (with_reducible apply get_eq; (try simp only [List.length_set]); omega)
  | (simp only [putA, wipeA, List.foldl, List.cons_append, List.nil_append]; walk_at "lk"))
local macro_rules | `(tactic| walk_at "ws") => `(tactic| first
  | with_reducible refine s_seq ?_
  | with_reducible refine s_asg ?_
  | with_reducible refine w_op ?_
  | (with_reducible refine' w_var ?e ?q; (case e => walk_at "lk"))
  | with_reducible refine w_c ?_
  | with_reducible refine g_name ?_
  | with_reducible refine g_pat1 ?_
  | with_reducible refine g_pat2 ?_
  | with_reducible refine g_pat3 ?_
  | with_reducible refine g_pat4 ?_
  | with_reducible refine g_pat5 ?_
  | (with_reducible refine' g_pat ?e ?q; (case e => with_unfolding_all rfl))
  | with_reducible refine g_sub ?_
  | with_reducible refine w_cons ?_
  | with_reducible refine w_nil ?_
  | with_reducible refine w_un ?_
  | with_reducible refine w_val ?_
  | with_reducible refine w_call ?_
  | with_reducible refine w_not ?_
  | with_reducible refine w_tru ?_
  | with_reducible refine w_tup ?_
  | with_reducible refine w_lstF ?_
  | with_reducible refine w_lstR ?_
  | with_reducible refine s_ret ?_
  | with_reducible refine s_next ?_
  | with_reducible refine s_drop ?_
  | with_reducible refine w_meth ?_
  | with_reducible refine w_attr ?_
  | with_reducible refine w_bm ?_
  | with_reducible refine w_sl ?_
  | with_reducible refine w_oN ?_
  | with_reducible refine w_oS ?_
  | with_reducible refine s_attr ?_
  | with_reducible refine s_attrA ?_
  | with_reducible refine s_del ?_
  | with_reducible refine s_par2 ?_
  | with_reducible refine s_par3 ?_
  | with_reducible refine s_par ?_
  | with_reducible refine w_dct0 ?_
  | with_reducible refine w_dctP ?_
  | with_reducible refine w_pC ?_
  | with_reducible refine w_pN ?_
  | with_reducible refine w_chain ?_
  | with_reducible refine w_yes ?_
  | with_reducible refine w_addI ?_
  | with_reducible refine w_subI ?_
  | with_reducible refine w_iaddI ?_
  | with_reducible refine w_negI ?_
  | with_reducible refine w_intI ?_
  | with_reducible refine w_intB ?_
  | with_reducible refine w_lt ?_
  | with_reducible refine w_le ?_
  | with_reducible refine w_gt ?_
  | with_reducible refine w_ge ?_
  | with_reducible refine w_eqI ?_
  | with_reducible refine w_neI ?_
  | with_reducible refine w_eqS ?_
  | with_reducible refine w_neS ?_
  | with_reducible refine w_notB ?_
  | with_reducible refine w_eqB ?_
  | with_reducible refine w_neB ?_
  | with_reducible refine w_neP ?_
  | with_reducible refine w_eqP ?_
  | with_reducible refine w_nePI ?_
  | (with_reducible refine' w_is (r := opIx _ _ _) ?e ?q; (case e => with_unfolding_all rfl))
  | (with_reducible refine' w_is (r := opAdd _ _ _) ?e ?q; (case e => with_unfolding_all rfl))
  | with_reducible refine w_sl32 ?_
  | with_reducible refine w_sl31 ?_
  | (with_reducible refine' w_is (r := opSl _ _ _ _) ?e ?q; (case e => with_unfolding_all rfl))
  | (with_reducible refine' w_is (r := fLen _ _) ?e ?q; (case e => with_unfolding_all rfl))
  | (with_reducible refine' w_is (r := fAbs _ _) ?e ?q; (case e => with_unfolding_all rfl))
  | (with_reducible refine' w_is (r := fTuple _ _) ?e ?q; (case e => with_unfolding_all rfl))
  | (with_reducible refine' w_is (r := opIsN _ _ _) ?e ?q; (case e => with_unfolding_all rfl))
  | (with_reducible refine' w_is (r := opNotN _ _ _) ?e ?q; (case e => with_unfolding_all rfl))
  | refine ⟨Nat.le_of_ble_eq_true rfl, ?_⟩
  | refine ⟨_, rfl, ?_⟩
  | refine ⟨rfl, ?_⟩
  | refine ⟨_, _, rfl, rfl, ?_⟩
  | refine ⟨_, _, _, _, rfl, rfl, rfl, ?_⟩
  | refine ⟨_, _, rfl, rfl, of_decide_eq_true rfl, ?_⟩
  | refine ⟨_, rfl, of_decide_eq_true rfl, ?_⟩
  | refine ⟨_, _, _, rfl, rfl, rfl, ?_⟩
  | refine ⟨_, _, rfl, ?_⟩
  | refine ⟨_, _, _, rfl, ?_⟩)
/-! marks -/
abbrev MC (p : Int × Int) : Cell := .ins 2 [(6, e2 p)]
def lt2 (p q : Int × Int) : Prop := p.1 < q.1 ∨ (p.1 = q.1 ∧ p.2 < q.2)
instance (p q : Int × Int) : Decidable (lt2 p q) := by unfold lt2; infer_instance
theorem dlt2 (p q : Int × Int) : PySem.W.dataLt (pd (e2 p)) (pd (e2 q)) = decide (lt2 p q) := PySem.W.dataLt_ii p.1 p.2 q.1 q.2
def mx (p q : Int × Int) : Int × Int := if lt2 p q then q else p
theorem best_pair (p q : Int × Int) : bestAt true [pd (e2 p), pd (e2 q)] = if lt2 p q then 1 else 0 := by
  show (if PySem.W.dataLt (pd (e2 p)) (pd (e2 q)) = true then 1 else 0) = _
  rw [dlt2]
  simp
theorem bestA_pair {p q : Int × Int} {S : Store} : bestA true [e2 p, e2 q] S = .ok (e2 (mx p q)) S := by
  show (if [e2 p, e2 q] ≠ [] ∧ ordOk [e2 p, e2 q] = true then (match [e2 p, e2 q][bestAt true [pd (e2 p), pd (e2 q)]]? with
    | some y => .ok y S
    | none => .stuck) else (.stuck : Res AV)) = _
  rw [if_pos ⟨by simp, rfl⟩, best_pair]
  unfold mx
  by_cases h : lt2 p q
  · rw [if_pos h, if_pos h]; rfl
  · rw [if_neg h, if_neg h]; rfl
theorem max_pair {p q : Int × Int} {S : Store} {Q : AV → Store → Prop} {X : Xp} (h : Q (e2 (mx p q)) S) : RP (fBest true [e2 p, e2 q] S) Q X := w_is bestA_pair h
theorem max_list {p q : Int × Int} {S : Store} {Q : AV → Store → Prop} {X : Xp} (h : Q (e2 (mx p q)) S) : RP (fBest true [.lst [e2 p, e2 q]] S) Q X := w_is bestA_pair h
theorem le_pair {p q : Int × Int} {S : Store} {Q : AV → Store → Prop} {X : Xp} (h : lt2 q p) (r : Q (.bl false) S) : RP (opCmp .le (e2 p) (e2 q) S) Q X := by
  refine w_is (v := .bl false) ?_ r
  obtain ⟨a, b⟩ := p
  obtain ⟨c, d⟩ := q
  unfold lt2 at h
  dsimp only at h
  by_cases e : a = c
  · subst e
    have h : d < b := by omega
    have h1 : (d == b) = false := by rw [beq_eq_false_iff_ne]; omega
    have h2 : (b == d) = false := by rw [beq_eq_false_iff_ne]; omega
    have h3 : decide (b ≤ d) = false := decide_eq_false (by omega)
    simp [opCmp, acmp, tupOf, lexO, aeq, eqMin, CK.int, h1, h2, h3]
    try omega
  · have h : c < a := by omega
    have h3 : decide (a ≤ c) = false := decide_eq_false (by omega)
    have h4 : (a == c) = false := beq_eq_false_iff_ne.mpr e
    simp [opCmp, acmp, tupOf, lexO, aeq, eqMin, CK.int, h4, h3]
    cases (b == d) <;> rfl
def nxt (p : Int × Int) (now : Int) : Int × Int := if p.1 < now then (now, 0) else (p.1, p.2 + 1)
theorem nxt_lt (p : Int × Int) (now : Int) : lt2 p (nxt p now) := by
  unfold nxt lt2
  split
  · exact .inl ‹_›
  · exact .inr ⟨rfl, by dsimp only; omega⟩
/-- the new mark, as the code writes it -/
theorem w_nxt {a : EM} {i : Nat} {p : Int × Int} {now : Int} {Λ : LEnv} {S : Store} (ha : ∀ {Q : AV → Store → Prop}, Q (e2 p) S → RP (a Λ S) Q noX) (hi : Λ[i]? = some (some (.int now))) {Q : AV → Store → Prop} (q : Q (e2 (nxt p now)) S) :
    RP (eIf (tVal (eOp (opCmp .gt) (eVar i) (eOp opIx a (eC (.int 0))))) (eTup (aCons (eVar i) (aCons (eC (.int 0)) aNil))) (eTup (aCons (eOp opIx a (eC (.int 0))) (aCons (eOp opAdd (eOp opIx a (eC (.int 1))) (eC (.int 1))) aNil))) Λ S) Q noX := by
  by_cases h : p.1 < now
  · refine w_ifT' ?_ ?_
    · repeat walk_at "ws"
      refine ha ?_
      repeat walk_at "ws"
      exact ⟨decide_eq_true h, rfl⟩
    · repeat walk_at "ws"
      have e : nxt p now = (now, 0) := if_pos h
      rw [e] at q
      exact q
  · refine w_ifF' ?_ ?_
    · repeat walk_at "ws"
      refine ha ?_
      repeat walk_at "ws"
      exact ⟨decide_eq_false h, rfl⟩
    · repeat walk_at "ws"
      refine ha ?_
      repeat walk_at "ws"
      refine ha ?_
      repeat walk_at "ws"
      have e : nxt p now = (p.1, p.2 + 1) := if_neg h
      rw [e] at q
      exact q
theorem w_mark {S : Store} {Λ : LEnv} {i n : Nat} {p : Int × Int} (hi : Λ[i]? = some (some (.ref n))) (hn : S[n]? = some (MC p)) {Q : AV → Store → Prop} (q : Q (e2 p) S) : RP (eAttr 6 (eVar i) Λ S) Q noX := by
  repeat walk_at "ws"
  exact ⟨_, _, _, _, rfl, hn, rfl, q⟩
theorem next_mark {S : Store} {n : Nat} {p : Int × Int} {now : Int} (h : S[n]? = some (MC p)) (h0 : 0 ≤ now) : RP (m_Marked_next_mark [.ref n, .int now] S) (fun v S' => v = e2 (nxt p now) ∧ S' = S.set n (MC (nxt p now))) noX := by
  unfold m_Marked_next_mark
  refine w_fdef rfl ?_
  refine s_seq (s_ifF ?_)
  repeat walk_at "ws"
  refine ⟨decide_eq_false (by omega), ?_⟩
  repeat walk_at "ws"
  refine w_nxt (fun q => w_mark (by rfl) h q) (by rfl) ?_
  repeat walk_at "ws"
  refine ⟨_, _, rfl, h, of_decide_eq_true rfl, ?_⟩
  repeat walk_at "ws"
  have z : (S.set n (MC (nxt p now)))[n]? = some (MC (nxt p now)) := List.getElem?_set_self (List.getElem?_eq_some_iff.mp h).1
  exact ⟨_, _, _, _, rfl, z, rfl, rfl, rfl⟩
theorem hear {S : Store} {n : Nat} {p q : Int × Int} {now : Int} (h : S[n]? = some (MC p)) (h0 : 0 ≤ now) : RP (m_Marked_hear [.ref n, e2 q, .int now] S) (fun v S' => v = e2 (nxt (mx p q) now) ∧ S' = S.set n (MC (nxt (mx p q) now))) noX := by
  unfold m_Marked_hear
  refine w_fdef rfl ?_
  refine s_seq (s_ifF ?_)
  repeat walk_at "ws"
  refine ⟨decide_eq_false (by omega), ?_⟩
  repeat walk_at "ws"
  refine ⟨_, _, _, _, rfl, h, rfl, ?_⟩
  repeat walk_at "ws"
  refine max_pair ?_
  repeat walk_at "ws"
  refine w_nxt (p := mx p q) (fun q => ?_) (by rfl) ?_
  · repeat walk_at "ws"
    exact q
  repeat walk_at "ws"
  refine ⟨_, _, rfl, h, of_decide_eq_true rfl, ?_⟩
  repeat walk_at "ws"
  have z : (S.set n (MC (nxt (mx p q) now)))[n]? = some (MC (nxt (mx p q) now)) := List.getElem?_set_self (List.getElem?_eq_some_iff.mp h).1
  exact ⟨_, _, _, _, rfl, z, rfl, rfl, rfl⟩
abbrev m1 (s : Int) (p q : Int × Int) : Int × Int := if s = 0 then p else q
def InM (i : Nat) (Λ : LEnv) (S : Store) : Prop := Λ.length = 12 ∧ Λ[0]? = some (some (.ref 0)) ∧ i < 999 ∧ ∃ (a b c now : Int) (p q : Int × Int) (T : Store), 0 ≤ now ∧ Λ[1]? = some (some (.lst [.ref (T.length + 1), .ref (T.length + 2)])) ∧ Λ[2]? = some (some (.lst [e2 p, e2 q])) ∧ Λ[3]? = some (some (.int now)) ∧ S = D a b c :: (T ++ [MC p, MC q])
def M1 (s now : Int) (p q : Int × Int) (T : Store) (Λ : LEnv) : Prop := Λ.length = 12 ∧ Λ[0]? = some (some (.ref 0)) ∧ Λ[1]? = some (some (.lst [.ref (T.length + 1), .ref (T.length + 2)])) ∧ Λ[2]? = some (some (.lst [e2 p, e2 q])) ∧ Λ[3]? = some (some (.int now)) ∧ Λ[5]? = some (some (.int s))
theorem ix2 {s : Int} (hs : s = 0 ∨ s = 1) {x y : AV} {S : Store} {Q : AV → Store → Prop} {X : Xp} (q : Q (if s = 0 then x else y) S) : RP (opIx (.lst [x, y]) (.int s) S) Q X := by
  rcases hs with rfl | rfl
  · exact w_is rfl q
  · exact w_is rfl q
theorem mine_ok {s now : Int} {p q : Int × Int} {T : Store} {Λ : LEnv} {S : Store} (hs : s = 0 ∨ s = 1) (h : M1 s now p q T Λ) (h0 : 0 ≤ now) : RP (eIf (tVal (eOp (opCmp .gt) (eVar 3) (eC (.int 2)))) (eOp opSub (eVar 3) (eOp opMul (eC (.int 2)) (eVar 5))) (eVar 3) Λ S) (fun v S' => (∃ m : Int, 0 ≤ m ∧ v = .int m) ∧ S' = S) noX := by
  obtain ⟨hl, h1, h2, h3, h4, h5⟩ := h
  by_cases h : 2 < now
  · refine w_ifT' ?_ ?_
    · repeat walk_at "ws"
      exact ⟨decide_eq_true h, rfl⟩
    repeat walk_at "ws"
    refine w_mul (mulR (by omega)) ?_
    repeat walk_at "ws"
    exact ⟨⟨_, by omega, rfl⟩, rfl⟩
  · refine w_ifF' ?_ ?_
    · repeat walk_at "ws"
      exact ⟨decide_eq_false h, rfl⟩
    repeat walk_at "ws"
    exact ⟨⟨_, h0, rfl⟩, rfl⟩
theorem best_ok {s now : Int} {p q : Int × Int} {T : Store} {Λ : LEnv} {a b c : Int} (hs : s = 0 ∨ s = 1) (h : M1 s now p q T Λ) : RP (eIf (tVal (eOp opEq (eCall m__law_roll (aCons (eVar 0) (aCons (eC (.int 2)) aNil))) (eC (.int 0)))) (eCall (fBest true) (aCons (eVar 2) aNil)) (eOp opIx (eVar 2) (eVar 5)) Λ (D a b c :: (T ++ [MC p, MC q])))
    (fun v S' => ∃ (z : Int × Int) (a b c : Int), v = e2 z ∧ ¬ lt2 z (m1 s p q) ∧ S' = D a b c :: (T ++ [MC p, MC q])) noX := by
  obtain ⟨hl, h1, h2, h3, h4, h5⟩ := h
  refine w_ife ?_
  repeat walk_at "ws"
  refine (roll a b c 2 _ (by decide) (by decide)).mono ?_
  rintro _ _ ⟨r, a1, b1, c1, rfl, hr0, hr1, rfl⟩
  repeat walk_at "ws"
  refine ⟨fun _ => ?_, fun _ => ?_⟩
  · repeat walk_at "ws"
    refine max_list ⟨mx p q, a1, b1, c1, rfl, ?_, rfl⟩
    rcases hs with rfl | rfl <;> dsimp only [m1, mx] <;> split <;> simp only [lt2, if_true, Int.one_ne_zero, if_false] at * <;> omega
  · repeat walk_at "ws"
    refine ix2 hs ⟨m1 s p q, a1, b1, c1, ?_, ?_, rfl⟩
    · dsimp only [m1]
      split <;> rfl
    · simp only [lt2]
      omega
theorem told_ok {s now m : Int} {p q z : Int × Int} {T : Store} {Λ : LEnv} {a b c : Int} (hs : s = 0 ∨ s = 1) (h : M1 s now p q T Λ) (h6 : Λ[6]? = some (some (.int m))) (h7 : Λ[7]? = some (some (e2 z))) (hm : 0 ≤ m) (hz : ¬ lt2 z (m1 s p q)) :
    RP (eIf (tVal (eOp opNe (eVar 7) (eOp opIx (eVar 2) (eVar 5)))) (eMeth 2 m_Marked_hear (eOp opIx (eVar 1) (eVar 5)) (aCons (eVar 7) (aCons (eVar 6) aNil))) (eMeth 2 m_Marked_next_mark (eOp opIx (eVar 1) (eVar 5)) (aCons (eVar 6) aNil)) Λ (D a b c :: (T ++ [MC p, MC q])))
    (fun v S' => v = e2 (nxt z m) ∧ S' = D a b c :: (T ++ [MC (if s = 0 then nxt z m else p), MC (if s = 0 then q else nxt z m)])) noX := by
  obtain ⟨hl, h1, h2, h3, h4, h5⟩ := h
  have t1 : RP (tVal (eOp opNe (eVar 7) (eOp opIx (eVar 2) (eVar 5))) Λ (D a b c :: (T ++ [MC p, MC q]))) (fun k S' => k = decide (¬ (z.1 = (m1 s p q).1 ∧ z.2 = (m1 s p q).2)) ∧ S' = D a b c :: (T ++ [MC p, MC q])) noX := by
    repeat walk_at "ws"
    refine ix2 hs ?_
    have e : (if s = 0 then e2 p else e2 q) = e2 (m1 s p q) := by dsimp only [m1]; split <;> rfl
    rw [e]
    repeat walk_at "ws"
    rfl
  have c1 := g1 (D a b c) (MC p) (MC q) T
  have c2 := g2 (D a b c) (MC p) (MC q) T
  by_cases he : z.1 = (m1 s p q).1 ∧ z.2 = (m1 s p q).2
  · refine w_ifF' (t1.mono fun k S' h => ⟨by rw [h.1]; exact decide_eq_false fun x => x he, h.2⟩) ?_
    repeat walk_at "ws"
    refine ix2 hs ?_
    have ez : z = m1 s p q := Prod.ext he.1 he.2
    rcases hs with rfl | rfl
    · refine ⟨_, _, rfl, c1, ?_⟩
      repeat walk_at "ws"
      refine (next_mark c1 hm).mono ?_
      rintro _ _ ⟨rfl, rfl⟩
      have ez : z = p := ez
      subst ez
      exact ⟨rfl, gs1 _ _ _ _ _⟩
    · refine ⟨_, _, rfl, c2, ?_⟩
      repeat walk_at "ws"
      refine (next_mark c2 hm).mono ?_
      rintro _ _ ⟨rfl, rfl⟩
      have ez : z = q := ez
      subst ez
      exact ⟨rfl, gs2 _ _ _ _ _⟩
  · refine w_ifT' (t1.mono fun k S' h => ⟨by rw [h.1]; exact decide_eq_true he, h.2⟩) ?_
    repeat walk_at "ws"
    refine ix2 hs ?_
    rcases hs with rfl | rfl
    · refine ⟨_, _, rfl, c1, ?_⟩
      repeat walk_at "ws"
      refine (hear c1 hm).mono ?_
      rintro _ _ ⟨rfl, rfl⟩
      have ez : mx p z = z := if_pos (by
        have hz : ¬ lt2 z p := hz
        have he : ¬ (z.1 = p.1 ∧ z.2 = p.2) := he
        simp only [lt2] at *
        omega)
      rw [ez]
      exact ⟨rfl, gs1 _ _ _ _ _⟩
    · refine ⟨_, _, rfl, c2, ?_⟩
      repeat walk_at "ws"
      refine (hear c2 hm).mono ?_
      rintro _ _ ⟨rfl, rfl⟩
      have ez : mx q z = z := if_pos (by
        have hz : ¬ lt2 z q := hz
        have he : ¬ (z.1 = q.1 ∧ z.2 = q.2) := he
        simp only [lt2] at *
        omega)
      rw [ez]
      exact ⟨rfl, gs2 _ _ _ _ _⟩
theorem M1.set {s now : Int} {p q : Int × Int} {T : Store} {Λ : LEnv} {j : Nat} {v : Option AV} (h : M1 s now p q T Λ) (hj : 5 < j) : M1 s now p q T (Λ.set j v) := by
  obtain ⟨hl, h1, h2, h3, h4, h5⟩ := h
  exact ⟨by rw [List.length_set]; exact hl, (List.getElem?_set_ne (by omega)).trans h1, (List.getElem?_set_ne (by omega)).trans h2, (List.getElem?_set_ne (by omega)).trans h3, (List.getElem?_set_ne (by omega)).trans h4, (List.getElem?_set_ne (by omega)).trans h5⟩
theorem marks {a b c : Int} {T : Store} : RP (m__law_marks [.ref 0] (D a b c :: T)) (fun v S' => v = .bl true ∧ ∃ a b c T, S' = D a b c :: T) noX := by
  unfold m__law_marks
  refine w_fdef rfl ?_
  have l1 : ∀ x : Cell, (D a b c :: (T ++ [x])).length = T.length + 2 := fun x => by simp
  have a1 : ∀ x z : Cell, (D a b c :: (T ++ [x])) ++ [z] = D a b c :: (T ++ [x, z]) := fun x z => by simp
  have i1 : ∀ {S : Store} {n : Nat}, S[n]? = some (.ins 2 []) → RP (m_Marked_init0 [.ref n] S) (fun v S' => v = .non ∧ S' = S.set n (MC (0, 0))) noX := fun {S n} h => by
    unfold m_Marked_init0
    refine w_fdef rfl ?_
    repeat walk_at "ws"
    exact ⟨_, _, rfl, h, of_decide_eq_true rfl, rfl, rfl⟩
  repeat walk_at "ws"
  refine w_make ?_
  repeat walk_at "ws"
  refine (i1 (n := T.length + 1) (by show (T ++ [_])[T.length]? = _; simp)).mono ?_
  rintro _ _ ⟨rfl, rfl⟩
  refine ⟨rfl, ?_⟩
  have s1 : ((D a b c :: T) ++ [Cell.ins 2 []]).set (T.length + 1) (MC (0, 0)) = D a b c :: (T ++ [MC (0, 0)]) := by
    show D a b c :: (T ++ [_]).set T.length _ = _
    simp
  rw [s1]
  repeat walk_at "ws"
  refine w_make ?_
  repeat walk_at "ws"
  rw [a1, l1]
  refine (i1 (g2 _ _ _ _)).mono ?_
  rintro _ _ ⟨rfl, rfl⟩
  rw [gs2]
  repeat walk_at "ws"
  refine s_for (i_range1 ?_)
  repeat walk_at "ws"
  refine (roll a b c 12 _ (by decide) (by decide)).mono ?_
  rintro _ _ ⟨r, a1, b1, c1, rfl, hr0, hr1, rfl⟩
  refine ⟨_, rfl, rng_ok hr0 (by omega), rfl, s_forL InM ?_ (fun _ _ _ _ => rfl) (fun i x Λ S hx h => ?_) (fun Λ S h => ?_)⟩
  · exact ⟨rfl, rfl, by omega, a1, b1, c1, 0, (0, 0), (0, 0), T, by omega, rfl, rfl, rfl, rfl⟩
  · obtain ⟨hx, rfl⟩ := rng_at hx
    obtain ⟨hl, h0, hi, a, b, c, now, p, q, T, hn, h1, h2, h3, rfl⟩ := h
    refine g_pat1 ?_
    repeat walk_at "ws"
    refine (roll a b c 2 _ (by decide) (by decide)).mono ?_
    rintro _ _ ⟨s, a1, b1, c1, rfl, hs0, hs1, rfl⟩
    repeat walk_at "ws"
    refine (roll a1 b1 c1 3 _ (by decide) (by decide)).mono ?_
    rintro _ _ ⟨d, a1, b1, c1, rfl, hd0, hd1, rfl⟩
    repeat walk_at "ws"
    have hs : s = 0 ∨ s = 1 := by omega
    have hM : M1 s (now + d) p q T (((List.set Λ 4 (some (AV.int ↑i))).set 5 (some (AV.int s))).set 3 (some (AV.int (now + d)))) := ⟨by simp only [List.length_set]; exact hl, by walk_at "lk", by walk_at "lk", by walk_at "lk", by walk_at "lk", by walk_at "lk"⟩
    generalize ((List.set Λ 4 (some (AV.int ↑i))).set 5 (some (AV.int s))).set 3 (some (AV.int (now + d))) = Λ1 at hM ⊢
    clear h0 h1 h2 h3 hl
    refine (mine_ok hs hM (by omega)).mono ?_
    rintro _ _ ⟨⟨m, hm, rfl⟩, rfl⟩
    refine g_name ?_
    have hM := hM.set (j := 6) (v := some (.int m)) (by decide)
    have h6 : (Λ1.set 6 (some (.int m)))[6]? = some (some (.int m)) := get_eq (by have := hM.1; simp only [List.length_set] at this; omega)
    generalize Λ1.set 6 (some (.int m)) = Λ2 at hM h6 ⊢
    refine s_seq (s_asg ((best_ok hs hM).mono ?_))
    rintro _ _ ⟨z, a2, b2, c2, rfl, hz, rfl⟩
    refine g_name ?_
    have hM := hM.set (j := 7) (v := some (e2 z)) (by decide)
    have h6 : (Λ2.set 7 (some (e2 z)))[6]? = some (some (.int m)) := (List.getElem?_set_ne (by omega)).trans h6
    have h7 : (Λ2.set 7 (some (e2 z)))[7]? = some (some (e2 z)) := get_eq (by have := hM.1; simp only [List.length_set] at this; omega)
    generalize Λ2.set 7 (some (e2 z)) = Λ3 at hM h6 h7 ⊢
    refine s_seq (s_asg ((told_ok hs hM h6 h7 hm hz).mono ?_))
    rintro _ _ ⟨rfl, rfl⟩
    obtain ⟨hl, h0, h1, h2, h3, h5⟩ := hM
    generalize hp : (if s = 0 then nxt z m else p) = p2
    generalize hq : (if s = 0 then q else nxt z m) = q2
    have hn1 : lt2 z (nxt z m) := nxt_lt _ _
    have hn2 : lt2 (m1 s p q) (nxt z m) := by
      simp only [lt2] at *
      omega
    generalize hy : nxt z m = y at *
    repeat walk_at "ws"
    refine w_nxt (p := z) (fun q => ?_) (by walk_at "lk") ?_
    · repeat walk_at "ws"
      exact q
    rw [hy]
    have e1 : ∀ x y : Int × Int, (if s = 0 then e2 x else e2 y) = e2 (m1 s x y) := fun x y => by dsimp only [m1]; split <;> rfl
    have e3 : m1 s p2 q2 = y := by subst hp hq; dsimp only [m1]; split <;> simp_all
    refine g_name (s_seq (s_ifF (w_orF ?_)))
    repeat walk_at "ws"
    refine ⟨by simp, w_orF ?_⟩
    repeat walk_at "ws"
    refine ix2 hs ?_
    rw [e1]
    refine le_pair hn2 ?_
    repeat walk_at "ws"
    refine w_orF ?_
    repeat walk_at "ws"
    refine le_pair hn1 ?_
    repeat walk_at "ws"
    refine ix2 hs ?_
    have ec : ∃ n, (if s = 0 then AV.ref (T.length + 1) else AV.ref (T.length + 2)) = .ref n ∧ (D a2 b2 c2 :: (T ++ [MC p2, MC q2]))[n]? = some (MC y) := by
      rcases hs with rfl | rfl
      · exact ⟨_, rfl, by rw [g1]; exact congrArg _ (congrArg MC e3)⟩
      · exact ⟨_, rfl, by rw [g2]; exact congrArg _ (congrArg MC e3)⟩
    obtain ⟨n, en, ey⟩ := ec
    refine ⟨_, _, _, _, en, ey, rfl, ?_⟩
    repeat walk_at "ws"
    refine ⟨by simp, ?_⟩
    repeat walk_at "ws"
    refine w_lc (i_enum ?_)
    repeat walk_at "ws"
    refine ⟨_, _, lcL_pure (T := Int × (Int × Int)) (fun x => .tup [.int x.1, e2 x.2]) (fun _ => true) (fun x => e2 (if x.1 = s then y else x.2)) rfl [(0, p), (1, q)] [] (fun x _ => ⟨_, rfl, ⟨rfl, rfl⟩, fun _ => ?_⟩) (Nat.le_of_ble_eq_true rfl), ?_⟩
    · refine w_ife ?_
      repeat walk_at "ws"
      refine ⟨fun h => ?_, fun h => ?_⟩
      · repeat walk_at "ws"
        rw [if_pos (of_decide_eq_true h)]
        exact ⟨rfl, rfl⟩
      · repeat walk_at "ws"
        rw [if_neg (of_decide_eq_false h)]
        exact ⟨rfl, rfl⟩
    repeat walk_at "ws"
    have ep : (if (0 : Int) = s then y else p) = p2 := by subst hp; rcases hs with rfl | rfl <;> rfl
    have eq : (if (1 : Int) = s then y else q) = q2 := by subst hq; rcases hs with rfl | rfl <;> rfl
    simp only [flt, List.map_cons, List.map_nil, List.nil_append, ep, eq]
    repeat walk_at "ws"
    exact ⟨by simp only [List.length_set]; exact hl, by walk_at "lk", by omega, a2, b2, c2, now + d, p2, q2, T, by omega, by walk_at "lk", by walk_at "lk", by walk_at "lk", rfl⟩
  · repeat walk_at "ws"
    obtain ⟨hl, h0, hi, a, b, c, now, p, q, T, hn, h1, h2, h3, rfl⟩ := h
    exact ⟨_, _, _, _, rfl⟩
end K
end

section
set_option Elab.async false
set_option linter.all false
set_option maxRecDepth 100000
set_option maxHeartbeats 2000000
namespace K
open PySem PySem.Spec PyProof.Rows L2 Mir
local macro_rules | `(tactic| walk_at "lk") => `(tactic| first
  | with_unfolding_all rfl
  | assumption
  | (with_reducible apply get_ne; (· decide); walk_at "lk")
  | (with_reducible apply get_neN; (· decide); walk_at "lk")
  | (with_reducible apply get_eq; (try simp only [List.length_set]); omega)
  | (simp only [putA, wipeA, List.foldl, List.cons_append, List.nil_append]; walk_at "lk"))
local macro_rules | `(tactic| walk_at "ws") => `(tactic| first
  | with_reducible refine s_seq ?_
  | with_reducible refine s_asg ?_
  | with_reducible refine w_op ?_
  | (with_reducible refine' w_var ?e ?q; (case e => walk_at "lk"))
  | with_reducible refine w_c ?_
  | with_reducible refine g_name ?_
  | with_reducible refine g_pat1 ?_
  | with_reducible refine g_pat2 ?_
  | with_reducible refine g_pat3 ?_
  | with_reducible refine g_pat4 ?_
  | with_reducible refine g_pat5 ?_
  | (with_reducible refine' g_pat ?e ?q; (case e => with_unfolding_all rfl))
  | with_reducible refine g_sub ?_
  | with_reducible refine w_cons ?_
  | with_reducible refine w_nil ?_
  | with_reducible refine w_un ?_
  | with_reducible refine w_val ?_
  | with_reducible refine w_call ?_
  | with_reducible refine w_not ?_
  | with_reducible refine w_tru ?_
  | with_reducible refine w_tup ?_
  | with_reducible refine w_lstF ?_
  | with_reducible refine w_lstR ?_
  | with_reducible refine s_ret ?_
  | with_reducible refine s_next ?_
  | with_reducible refine s_drop ?_
  | with_reducible refine w_meth ?_
  | with_reducible refine w_attr ?_
  | with_reducible refine w_bm ?_
  | with_reducible refine w_sl ?_
  | with_reducible refine w_oN ?_
  | with_reducible refine w_oS ?_
  | with_reducible refine s_attr ?_
  | with_reducible refine s_attrA ?_
  | with_reducible refine s_del ?_
  | with_reducible refine s_par2 ?_
  | with_reducible refine s_par3 ?_
  | with_reducible refine s_par ?_
  | with_reducible refine w_dct0 ?_
  | with_reducible refine w_dctP ?_
  | with_reducible refine w_pC ?_
  | with_reducible refine w_pN ?_
  | with_reducible refine w_chain ?_
  | with_reducible refine w_yes ?_
  | with_reducible refine w_addI ?_
  | with_reducible refine w_subI ?_
  | with_reducible refine w_iaddI ?_
  | with_reducible refine w_negI ?_
  | with_reducible refine w_intI ?_
  | with_reducible refine w_intB ?_
  | with_reducible refine w_lt ?_
  | with_reducible refine w_le ?_
  | with_reducible refine w_gt ?_
  | with_reducible refine w_ge ?_
  | with_reducible refine w_eqI ?_
  | with_reducible refine w_neI ?_
  | with_reducible refine w_eqS ?_
  | with_reducible refine w_neS ?_
  | with_reducible refine w_notB ?_
  | with_reducible refine w_eqB ?_
  | with_reducible refine w_neB ?_
  | with_reducible refine w_neP ?_
  | with_reducible refine w_eqP ?_
  | with_reducible refine w_nePI ?_
  | (with_reducible refine' w_is (r := opIx _ _ _) ?e ?q; (case e => with_unfolding_all rfl))
  | (with_reducible refine' w_is (r := opAdd _ _ _) ?e ?q; (case e => with_unfolding_all rfl))
  | with_reducible refine w_sl32 ?_
  | with_reducible refine w_sl31 ?_
  | (with_reducible refine' w_is (r := opSl _ _ _ _) ?e ?q; (case e => with_unfolding_all rfl))
  | (with_reducible refine' w_is (r := fLen _ _) ?e ?q; (case e => with_unfolding_all rfl))
  | (with_reducible refine' w_is (r := fAbs _ _) ?e ?q; (case e => with_unfolding_all rfl))
  | (with_reducible refine' w_is (r := fTuple _ _) ?e ?q; (case e => with_unfolding_all rfl))
  | (with_reducible refine' w_is (r := opIsN _ _ _) ?e ?q; (case e => with_unfolding_all rfl))
  | (with_reducible refine' w_is (r := opNotN _ _ _) ?e ?q; (case e => with_unfolding_all rfl))
  | refine ⟨Nat.le_of_ble_eq_true rfl, ?_⟩
  | refine ⟨_, rfl, ?_⟩
  | refine ⟨rfl, ?_⟩
  | refine ⟨_, _, rfl, rfl, ?_⟩
  | refine ⟨_, _, _, _, rfl, rfl, rfl, ?_⟩
  | refine ⟨_, _, rfl, rfl, of_decide_eq_true rfl, ?_⟩
  | refine ⟨_, rfl, of_decide_eq_true rfl, ?_⟩
  | refine ⟨_, _, _, rfl, rfl, rfl, ?_⟩
  | refine ⟨_, _, rfl, ?_⟩
  | refine ⟨_, _, _, rfl, ?_⟩)
/-! the whole -/
theorem dice (z : Int) : RP (m__law_dice [.int z] []) (fun v S' => ∃ a b c, v = .ref 0 ∧ S' = [D a b c]) noX := by
  have k2 : SW (sRet (eLstR (aCons (eVar 0) (aCons (eOp opAdd (eC (.int 1)) (eOp opMod (eCall fInt (aCons (eVar 0) aNil)) (eC (.int 1009)))) (aCons (eCall fInt (aCons (eOp (opCmp .ge) (eVar 0) (eOp opPow (eC (.int 10)) (eC (.int 18)))) aNil)) aNil)))) [some (.int z)] []) (fun _ S' => ∃ a b c, AV.non = .ref 0 ∧ S' = [D a b c]) (fun v S' => ∃ a b c, v = .ref 0 ∧ S' = [D a b c]) noX := by
    repeat walk_at "ws"
    try (refine w_mod (by decide) ?_; repeat walk_at "ws")
    exact ⟨_, _, _, rfl, rfl⟩
  have k1 : SW (sRet (eLstR (aCons (eCall fAbs (aCons (eVar 0) aNil)) (aCons (eC (.int 0)) (aCons (eC (.int 2)) aNil)))) [some (.int z)] []) (fun Λ S => SW (sRet (eLstR (aCons (eVar 0) (aCons (eOp opAdd (eC (.int 1)) (eOp opMod (eCall fInt (aCons (eVar 0) aNil)) (eC (.int 1009)))) (aCons (eCall fInt (aCons (eOp (opCmp .ge) (eVar 0) (eOp opPow (eC (.int 10)) (eC (.int 18)))) aNil)) aNil)))) Λ S) (fun _ S' => ∃ a b c, AV.non = .ref 0 ∧ S' = [D a b c]) (fun v S' => ∃ a b c, v = .ref 0 ∧ S' = [D a b c]) noX) (fun v S' => ∃ a b c, v = .ref 0 ∧ S' = [D a b c]) noX := by
    repeat walk_at "ws"
    exact ⟨_, _, _, rfl, rfl⟩
  unfold m__law_dice
  refine w_fdef rfl ?_
  refine s_seq (s_if ?_)
  repeat walk_at "ws"
  refine ⟨fun _ => ?_, fun _ => ⟨_, rfl, fun h => (by cases h), fun _ => ?_⟩⟩
  · repeat walk_at "ws"
    refine ⟨fun _ => k1, fun _ => ?_⟩
    repeat walk_at "ws"
    exact k2
  · repeat walk_at "ws"
    exact k2
theorem rounds (ns : List Int) : RP (m__law_rounds [.kst (ns.map AV.int), .int 1] []) (fun v S' => ∃ a b c, v = .lst [.ref 0] ∧ S' = [D a b c]) noX := by
  have key : ∀ z Λ, Λ.length = 4 → ∃ a b c, lcL (fun _ => true) (.nm 3) tYesM (eCall m__law_dice (aCons (eVar 3) aNil)) (wipeA Λ [3]) [.int z] [] [] = .ok [.ref 0] [D a b c] := fun z Λ hl => by
    obtain ⟨xs, S', e, h⟩ := lcL_inv (keep := fun _ => true) (t := tYesM) (p := .nm 3) (e := eCall m__law_dice (aCons (eVar 3) aNil)) (Λ := wipeA Λ [3])
      (fun i acc S => (i = 0 ∧ acc = [] ∧ S = []) ∨ (i = 1 ∧ acc = [.ref 0] ∧ ∃ a b c, S = [D a b c])) (fun _ _ _ _ => rfl) [.int z] 0 [] [] (.inl ⟨rfl, rfl, rfl⟩) (fun j x acc S hx hI => by
        obtain rfl : j = 0 := by
          have := (List.getElem?_eq_some_iff.mp hx).1
          simp at this
          exact this
        cases hx
        rcases hI with ⟨_, rfl, rfl⟩ | ⟨h, _⟩
        · refine ⟨_, rfl, w_yes ⟨fun _ => ?_, fun z => (by cases z)⟩⟩
          repeat walk_at "ws"
          refine (dice z).mono ?_
          rintro _ _ ⟨a, b, c, rfl, rfl⟩
          exact ⟨by decide, .inr ⟨rfl, rfl, _, _, _, rfl⟩⟩
        · cases h)
    rcases h with ⟨h, _⟩ | ⟨_, rfl, a, b, c, rfl⟩
    · cases h
    · exact ⟨a, b, c, e⟩
  have cut : (cutA (ns.map AV.int) none (some 1) = [] ∨ ∃ z, cutA (ns.map AV.int) none (some 1) = [.int z]) := by
    cases ns with
    | nil => exact .inl rfl
    | cons z ns => exact .inr ⟨z, by simp [cutA, HT.sIx]; try omega⟩
  unfold m__law_rounds
  refine w_fdef rfl ?_
  repeat walk_at "ws"
  rcases cut with e | ⟨z, e⟩
  · rw [e]
    refine s_ifT ?_
    repeat walk_at "ws"
    refine w_lc (i_seq ?_)
    repeat walk_at "ws"
    first
      | exact ⟨_, _, _, rfl, rfl⟩
      | exact ⟨rfl, rfl⟩
      | rfl
      | trace_state
  · rw [e]
    refine s_ifF ?_
    repeat walk_at "ws"
    refine w_lc (i_seq ?_)
    repeat walk_at "ws"
    obtain ⟨a, b, c, e⟩ := key z [some (.kst (ns.map AV.int)), some (.int 1), some (.lst [.int z]), none] rfl
    exact ⟨_, _, e, a, b, c, rfl, rfl⟩
theorem part6 {Λ : LEnv} {S : Store} {N : LEnv → Store → Prop} {R : AV → Store → Prop} (h : Bet Λ S) (hN : ∀ Λ S, Bet Λ S → N Λ S) : SW (sSeq lw34 (sSeq lw35 (sSeq lw36 lw37)) Λ S) N R noX := by
  obtain ⟨hlen, h1, a, b, c, T, rfl⟩ := h
  refine s_seq ?_
  unfold lw34
  refine s_ifF ?_
  repeat walk_at "ws"
  refine marks.mono ?_
  rintro _ _ ⟨rfl, a, b, c, T, rfl⟩
  refine ⟨true, rfl, rfl, ?_⟩
  repeat walk_at "ws"
  unfold lw35
  repeat walk_at "ws"
  refine (roll a b c 20 _ (by decide) (by decide)).mono ?_
  rintro _ _ ⟨r, a, b, c, rfl, hr0, hr1, rfl⟩
  repeat walk_at "ws"
  refine (roll a b c 5 _ (by decide) (by decide)).mono ?_
  rintro _ _ ⟨d, a, b, c, rfl, hd0, hd1, rfl⟩
  repeat walk_at "ws"
  refine (roll a b c 40 _ (by decide) (by decide)).mono ?_
  rintro _ _ ⟨n, a, b, c, rfl, hn0, hn1, rfl⟩
  repeat walk_at "ws"
  have hw : RP (m_wait_out [.int r, .int d, .int n] (D a b c :: T)) (fun v S' => v = .int (if 0 < r + d + 1 - n then r + d + 1 - n else 0) ∧ S' = D a b c :: T) noX := by
    unfold m_wait_out
    refine w_fdef rfl ?_
    refine s_seq (s_ifF ?_)
    repeat walk_at "ws"
    refine ⟨decide_eq_false (by omega), ?_⟩
    repeat walk_at "ws"
    exact max_int ⟨rfl, rfl⟩
  unfold lw36
  repeat walk_at "ws"
  refine hw.mono ?_
  rintro _ _ ⟨rfl, rfl⟩
  repeat walk_at "ws"
  generalize hk : (if 0 < r + d + 1 - n then r + d + 1 - n else 0) = k
  have hk : (0 < r + d + 1 - n ∧ k = r + d + 1 - n) ∨ (r + d + 1 - n ≤ 0 ∧ k = 0) := by
    subst hk
    split <;> omega
  unfold lw37
  refine s_ifF (w_orF ?_)
  repeat walk_at "ws"
  refine ⟨decide_eq_false (by omega), w_orF ?_⟩
  repeat walk_at "ws"
  refine ⟨decide_eq_false (by omega), w_and ?_⟩
  repeat walk_at "ws"
  refine ⟨fun h => ?_, fun _ => ⟨rfl, ?_⟩⟩
  · have h := of_decide_eq_true h
    repeat walk_at "ws"
    refine ⟨decide_eq_false (by omega), ?_⟩
    repeat walk_at "ws"
    exact hN _ _ ⟨by simp only [List.length_set]; exact hlen, by walk_at "lk", _, _, _, _, rfl⟩
  · repeat walk_at "ws"
    exact hN _ _ ⟨by simp only [List.length_set]; exact hlen, by walk_at "lk", _, _, _, _, rfl⟩
theorem start {a b c : Int} {T0 : Store} {Λ : LEnv} {N : LEnv → Store → Prop} {R : AV → Store → Prop} {B : SM} (hT : T0 = []) (hlen : Λ.length = 35) (h1 : Λ[1]? = some (some (.ref 0))) (hN : ∀ long drift Λ S, 0 ≤ drift → In1 long drift 0 Λ S → SW (B Λ S) N R noX) : SW (sSeq lw16 (sSeq lw17 (sSeq lw18 B)) Λ (D a b c :: T0)) N R noX := by
  refine s_seq ?_
  unfold lw16
  repeat walk_at "ws"
  refine (roll a b c 8 _ (by decide) (by decide)).mono ?_
  rintro _ _ ⟨r, a, b, c, rfl, hr0, hr1, rfl⟩
  repeat walk_at "ws"
  unfold lw17
  repeat walk_at "ws"
  refine (roll a b c (1 + r) _ (by omega) (by omega)).mono ?_
  rintro _ _ ⟨d, a, b, c, rfl, hd0, hd1, rfl⟩
  repeat walk_at "ws"
  unfold lw18
  repeat walk_at "ws"
  subst hT
  have hi : RP (m_Leases_init0 [.ref 1, .int (1 + r), .int d] [D a b c, .ins 0 []]) (fun v S' => v = .non ∧ S' = [D a b c, LC (1 + r) d 0, .dct []]) noX := by
    unfold m_Leases_init0
    refine w_fdef rfl ?_
    refine s_seq (s_ifF (w_orF ?_))
    repeat walk_at "ws"
    refine ⟨decide_eq_false (by omega), w_not ?_⟩
    repeat walk_at "ws"
    refine ⟨fun _ => ?_, fun h => ?_⟩
    · repeat walk_at "ws"
      refine ⟨by rw [decide_eq_true (show d < 1 + r by omega)]; rfl, ?_⟩
      repeat walk_at "ws"
      rfl
    · exact absurd hd0 (of_decide_eq_false h)
  refine w_make ?_
  repeat walk_at "ws"
  refine hi.mono ?_
  rintro _ _ ⟨rfl, rfl⟩
  refine ⟨rfl, ?_⟩
  repeat walk_at "ws"
  refine hN (1 + r) d _ _ hd0 ⟨by simp only [List.length_set]; exact hlen, by walk_at "lk", by walk_at "lk", by show _ = some (some (AV.ref [D a b c].length)); walk_at "lk", by show _ = some (some (AV.ref (List.length ([D a b c, LC (1 + r) d 0, Cell.dct []] ++ [Cell.dct []])))); walk_at "lk", by omega, a, b, c, 0, 0, 0, [], [], .dct [], [], ?_, fun o => rfl, by omega, rfl⟩
  exact ⟨by simp, fun r h => (by cases h), fun r h => (by cases h), by simp, by simp⟩
theorem plain_ok : (match m__law_plain [] [] with | .ok (.bl true) _ => true | _ => false) = true := by
  unfold m__law_plain m_middle_of m_agreed_span m_spots_of m_Leases_who_holds fSortedD fSorted
  rw [sortA_K]
  decide +kernel
theorem plain (ns : List Int) : ∃ S', m_law [.kst (ns.map AV.int)] [] = .ok (.bl true) S' := by
  have h : RP (m_law [.kst (ns.map AV.int)] []) (fun v S' => v = .bl true) noX := by
    unfold m_law
    refine w_fdef rfl ?_
    refine s_seq (s_for (i_seq ?_))
    repeat walk_at "ws"
    refine (rounds ns).mono ?_
    rintro _ _ ⟨a, b, c, rfl, rfl⟩
    refine ⟨_, _, rfl, rfl, ?_⟩
    refine s_forL (fun i Λ S => Λ.length = 35 ∧ (i = 0 → S = [D a b c])) ⟨rfl, fun _ => rfl⟩ (fun _ _ _ _ => rfl) (fun i x Λ S hx hI => ?_) (fun Λ S hI => ?_)
    · obtain rfl : i = 0 := by
        have := (List.getElem?_eq_some_iff.mp hx).1
        simp at this
        exact this
      cases hx
      obtain ⟨hl, e⟩ := hI
      rw [e rfl]
      refine g_pat1 ?_
      refine start rfl (by rw [List.length_set]; exact hl) (get_eq (by omega)) fun long drift Λ S hd hI => ?_
      refine s_seq (part1 hd hI fun Λ S hB => ?_)
      refine part2 hB fun Λ S hB => part3 hB fun Λ S hB => part4 hB fun Λ S hB => part5 hB fun Λ S hB => ?_
      refine part6 hB fun Λ S hB => ?_
      exact ⟨hB.1, fun h => (by cases h)⟩
    · refine s_ret ?_
      obtain ⟨S', e⟩ : ∃ S', m__law_plain [] [] = .ok (.bl true) S' := by
        have h := plain_ok
        revert h
        split
        · exact fun _ => ⟨_, ‹_›⟩
        · exact fun h => (by cases h)
      refine w_callF e rfl rfl
  obtain ⟨v, S', e, rfl⟩ := rp_ex h
  exact ⟨S', e⟩
end K
end

theorem PySem.Challenge.cw_syncstack_k16_leases_and_clocks_holds : PySem.Challenge.rw_syncstack_k16_leases_and_clocks.Holds :=
  holds_of fun ns _ _ => K.plain ns
