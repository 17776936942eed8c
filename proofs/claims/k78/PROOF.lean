import PyProof.Rows.All
import Wide.All
import OpenK.AllK
import Wide.FinOn
import KE.KStateDown
import HandS.ForMost
import HandS.ForExc
import HandS.Defaults
import HandS.MakeKwOnly
import HandS.Property
import HandS.IsInst
import HandS.OwnEq
import HandS.HeadHook2
import HandS.TupAny
import HandS.More
import HandS.HeadHook3
import HandS.HeadHook4
import HandS.Codes
import HandS.Small
import HandS.TryOnly
import HandS.Style
import HandS.Head0
import HandS.Head1
import HandS.Head2
import HandS.HeadEnd
import Lean
import PySem.Challenge.RW_allloads_k78_texts_of_rules
set_option Elab.async false
set_option linter.all false
set_option maxRecDepth 100000
set_option maxHeartbeats 0
/-! The Z layer, part 1: pure data D, values Zv, overlay objects OO, readings over them. -/
namespace Z
open PySem PySem.Spec PyProof.Rows L2
/-- pure data -/
inductive D where
  | non | bl (b : Bool) | int (i : Int) | str (x : Str)
  | tup (ds : List D) | lst (ds : List D) | dic (kvs : List (Key × D)) | obj (c : Str) (fs : List (Str × D))
/-- a value of a name: data, an overlay object, the law's draw -/
inductive Zv where
  | d (x : D) | r (n : Nat) | dw | sc (ns : List Int)
/-- an overlay object: it may change -/
inductive OO where
  | gone | lst (zs : List Zv) | dic (kvs : List (Key × Zv)) | ins (c : Str) (fs : List (Str × Zv))
abbrev Ov := List OO
abbrev Env := List (Option Zv)
/-- an exception: its class, its fields -/
structure Xc where
  cls : Str
  fs : List (Str × D) := []
abbrev QE := Zv → Ov → Prop
abbrev QX := Xc → Ov → Prop
abbrev ZE := Env → Ov → QE → QX → Prop
abbrev ZT := Env → Ov → (Bool → Ov → Prop) → QX → Prop
abbrev ZA := Env → Ov → (List Zv → Ov → Prop) → QX → Prop
structure En where
  nx : Env → Ov → Prop
  rt : QE
  bk : Env → Ov → Prop := fun _ _ => False
  ct : Env → Ov → Prop := fun _ _ => False
  xr : Xc → Env → Ov → Prop := fun _ _ _ => False
abbrev ZS := En → Env → Ov → Prop
abbrev ZSp := List Zv → Ov → QE → QX → Prop
abbrev ZG := Zv → Env → Ov → (Env → Ov → Prop) → Prop
abbrev ZGs := List Zv → Env → Ov → (Env → Ov → Prop) → Prop
def Zv.isD : Zv → Bool
  | .d _ => true
  | .r _ => false
  | .dw => true
  | .sc _ => true
def Zv.below (j : Nat) : Zv → Bool
  | .r n => Nat.blt n j
  | _ => true
def OO.below (j : Nat) : OO → Bool
  | .gone => true
  | .lst zs => zs.all (Zv.below j)
  | .dic kvs => kvs.all fun q => q.2.below j
  | .ins _ fs => fs.all fun q => q.2.below j
def pureL : List Zv → Option (List D)
  | [] => some []
  | .d x :: zs => match pureL zs with
    | some ds => some (x :: ds)
    | none => none
  | _ :: _ => none
def pureK {κ : Type} : List (κ × Zv) → Option (List (κ × D))
  | [] => some []
  | (k, .d x) :: zs => match pureK zs with
    | some ds => some ((k, x) :: ds)
    | none => none
  | _ :: _ => none
def OO.pure? : OO → Option D
  | .gone => none
  | .lst zs => (pureL zs).map D.lst
  | .dic kvs => (pureK kvs).map D.dic
  | .ins c fs => (pureK fs).map (D.obj c)
/-- a value as it stands now, as data -/
def vw (ov : Ov) : Zv → Option D
  | .d x => some x
  | .r n => match ov[n]? with
    | some o => o.pure?
    | none => none
  | .dw => none
  | .sc _ => none
/-- a value frozen: data from now on -/
def frz (ov : Ov) : Zv → Option (D × Ov)
  | .d x => some (x, ov)
  | .r n => match ov[n]? with
    | some o => o.pure?.map fun d => (d, ov.set n .gone)
    | none => none
  | .dw => none
  | .sc _ => none
/-! ### readings of expressions -/
def zVar (i : Nat) : ZE := fun env ov Q _ => ∃ z, env[i]? = some (some z) ∧ Q z ov
def zC (x : D) : ZE := fun _ ov Q _ => Q (.d x) ov
abbrev DOp := D → D → (D → Prop) → Prop
abbrev DUn := D → (D → Prop) → Prop
abbrev DTs := D → D → (Bool → Prop) → Prop
def zOp (f : DOp) (za zb : ZE) : ZE := fun env ov Q E => za env ov (fun x ov1 => zb env ov1 (fun y ov2 => ∃ dx dy, vw ov2 x = some dx ∧ vw ov2 y = some dy ∧ f dx dy fun r => Q (.d r) ov2) E) E
def zUn (f : DUn) (za : ZE) : ZE := fun env ov Q E => za env ov (fun x ov1 => ∃ dx, vw ov1 x = some dx ∧ f dx fun r => Q (.d r) ov1) E
/-- a comparison as a value -/
def zCmp (f : DTs) (za zb : ZE) : ZE := fun env ov Q E => za env ov (fun x ov1 => zb env ov1 (fun y ov2 => ∃ dx dy, vw ov2 x = some dx ∧ vw ov2 y = some dy ∧ f dx dy fun r => Q (.d (.bl r)) ov2) E) E
/-- a value as a test: it is a bool -/
def ztB (za : ZE) : ZT := fun env ov Q E => za env ov (fun x ov1 => ∃ b, x = .d (.bl b) ∧ Q b ov1) E
def ztNot (c : ZT) : ZT := fun env ov Q E => c env ov (fun b ov1 => Q (!b) ov1) E
def ztAnd (c d : ZT) : ZT := fun env ov Q E => c env ov (fun b ov1 => if b = true then d env ov1 Q E else Q false ov1) E
def ztOr (c d : ZT) : ZT := fun env ov Q E => c env ov (fun b ov1 => if b = true then Q true ov1 else d env ov1 Q E) E
/-- not, and, or as values of bools -/
def zNot (za : ZE) : ZE := fun env ov Q E => za env ov (fun x ov1 => ∃ b, x = .d (.bl b) ∧ Q (.d (.bl (!b))) ov1) E
def zAnd (za zb : ZE) : ZE := fun env ov Q E => za env ov (fun x ov1 => ∃ b, x = .d (.bl b) ∧ if b = true then zb env ov1 Q E else Q (.d (.bl false)) ov1) E
def zOr (za zb : ZE) : ZE := fun env ov Q E => za env ov (fun x ov1 => ∃ b, x = .d (.bl b) ∧ if b = true then Q (.d (.bl true)) ov1 else zb env ov1 Q E) E
def zIte (c : ZT) (za zb : ZE) : ZE := fun env ov Q E => c env ov (fun b ov1 => if b = true then za env ov1 Q E else zb env ov1 Q E) E
def zNil : ZA := fun _ ov Q _ => Q [] ov
def zCons (za : ZE) (zr : ZA) : ZA := fun env ov Q E => za env ov (fun x ov1 => zr env ov1 (fun xs ov2 => Q (x :: xs) ov2) E) E
/-- a tuple, a list of data -/
def zTup (za : ZA) : ZE := fun env ov Q E => za env ov (fun xs ov1 => ∃ ds, pureL xs = some ds ∧ ds.length ≤ sizeLine ∧ Q (.d (.tup ds)) ov1) E
def zLst (za : ZA) : ZE := fun env ov Q E => za env ov (fun xs ov1 => ∃ ds, pureL xs = some ds ∧ ds.length ≤ sizeLine ∧ Q (.d (.lst ds)) ov1) E
/-- a new list that will change -/
def zLstN (za : ZA) : ZE := fun env ov Q E => za env ov (fun xs ov1 => xs.length ≤ sizeLine ∧ Q (.r ov1.length) (ov1 ++ [.lst xs])) E
/-- a call: no overlay object goes in or comes out -/
def zCall (sp : ZSp) (za : ZA) : ZE := fun env ov Q E => za env ov (fun xs ov1 => xs.all Zv.isD = true ∧ sp xs [] (fun x _ => x.isD = true ∧ Q x ov1) fun x _ => E x ov1) E
/-- an exception cannot come here -/
abbrev noX : QX := fun _ _ => False
/-! ### statements -/
def zNext : ZS := fun E env ov => E.nx env ov
def zSeq (t u : ZS) : ZS := fun E env ov => t { E with nx := u E } env ov
def zSet (i : Nat) (za : ZE) : ZS := fun E env ov => za env ov (fun x ov1 => E.nx (env.set i (some x)) ov1) fun x ov1 => E.xr x env ov1
def zDrop (za : ZE) : ZS := fun E env ov => za env ov (fun _ ov1 => E.nx env ov1) fun x ov1 => E.xr x env ov1
def zIf (c : ZT) (t u : ZS) : ZS := fun E env ov => c env ov (fun b ov1 => if b = true then t E env ov1 else u E env ov1) fun x ov1 => E.xr x env ov1
def zRet (za : ZE) : ZS := fun E env ov => za env ov (fun x ov1 => E.rt x ov1) fun x ov1 => E.xr x env ov1
/-- return, frozen -/
def zRetF (za : ZE) : ZS := fun E env ov => za env ov (fun x ov1 => ∃ d ov2, frz ov1 x = some (d, ov2) ∧ E.rt (.d d) ov2) fun x ov1 => E.xr x env ov1
def zRetN : ZS := fun E _ ov => E.rt (.d .non) ov
def zBrk : ZS := fun E env ov => E.bk env ov
def zCont : ZS := fun E env ov => E.ct env ov
/-- it is not come to -/
def zNever : ZS := fun _ _ _ => False
/-- ahead of a statement: name i is frozen -/
def zFrz (i : Nat) (t : ZS) : ZS := fun E env ov => ∃ z d ov1, env[i]? = some (some z) ∧ frz ov z = some (d, ov1) ∧ t E (env.set i (some (.d d))) ov1
def cutZ (n : Nat) : Option Zv → Option Zv
  | some (.r m) => match Nat.blt m n with
    | true => some (.r m)
    | false => none
  | z => z
def cutE (n : Nat) (env : Env) : Env := env.map (cutZ n)
/-- targets -/
def gVar (i : Nat) : ZG := fun x env ov Q => Q (env.set i (some x)) ov
def gNil' : ZGs := fun xs env ov Q => xs = [] ∧ Q env ov
def gCons' (g : ZG) (gs : ZGs) : ZGs := fun xs env ov Q => ∃ x r, xs = x :: r ∧ g x env ov fun env1 ov1 => gs r env1 ov1 Q
/-- a tuple unpacked -/
def gTup' (gs : ZGs) : ZG := fun x env ov Q => ∃ ds, x = .d (.tup ds) ∧ gs (ds.map Zv.d) env ov Q
def zAsg (za : ZE) (g : ZG) : ZS := fun E env ov => za env ov (fun x ov1 => g x env ov1 E.nx) fun x ov1 => E.xr x env ov1
/-- the turns of a for -/
def zLoop (g : ZG) (body : ZS) (n : Nat) : List Zv → ZS
  | [] => fun E env ov => E.nx env ov
  | x :: xs => fun E env ov => g x env ov fun env1 ov1 =>
    body { nx := fun env2 ov2 => (ov2.take n).all (OO.below n) = true ∧ zLoop g body n xs E (cutE n env2) (ov2.take n), ct := fun env2 ov2 => (ov2.take n).all (OO.below n) = true ∧ zLoop g body n xs E (cutE n env2) (ov2.take n), bk := fun env2 ov2 => E.nx env2 ov2, rt := E.rt, xr := E.xr } env1 ov1
abbrev ZI := Env → Ov → (List Zv → Ov → Prop) → QX → Prop
def zFor (zi : ZI) (g : ZG) (body : ZS) : ZS := fun E env ov => zi env ov (fun xs ov1 => zLoop g body ov1.length xs E env ov1) fun x ov1 => E.xr x env ov1
/-- what is walked: a list, a tuple of data; a range -/
def ziSeq (za : ZE) : ZI := fun env ov Q E => za env ov (fun x ov1 => ∃ ds, (x = .d (.lst ds) ∨ x = .d (.tup ds)) ∧ Q (ds.map Zv.d) ov1) E
def ziLst (za : ZE) : ZI := fun env ov Q E => za env ov (fun x ov1 => ∃ ds, x = .d (.lst ds) ∧ Q (ds.map Zv.d) ov1) E
def ziTup (za : ZE) : ZI := fun env ov Q E => za env ov (fun x ov1 => ∃ ds, x = .d (.tup ds) ∧ Q (ds.map Zv.d) ov1) E
def rngL (lo : Int) (n : Nat) : List Zv := (List.range n).map fun (i : Nat) => .d (.int (lo + (i : Int)))
def ziRng1 (zr : ZA) : ZI := fun env ov Q E => zr env ov (fun xs ov1 => ∃ j, xs = [.d (.int j)] ∧ j ≤ 16777216 ∧ -16777216 ≤ j ∧ Q (rngL 0 j.toNat) ov1) E
def ziRng2 (zr : ZA) : ZI := fun env ov Q E => zr env ov (fun xs ov1 => ∃ i j, xs = [.d (.int i), .d (.int j)] ∧ (-16777216 ≤ i ∧ i ≤ 16777216) ∧ (-16777216 ≤ j ∧ j ≤ 16777216) ∧ Q (rngL i (j - i).toNat) ov1) E
/-- a comprehension: own: its names' places -/
def wipeE (env : Env) : List Nat → Env
  | [] => env
  | v :: vs => (wipeE env vs).set v none
def zLcGo (g : ZG) (c : ZT) (elt : ZE) (own : List Nat) : List Zv → List D → ZE
  | [], acc => fun _ ov Q _ => Q (.d (.lst acc)) ov
  | x :: xs, acc => fun env ov Q E => g x (wipeE env own) ov fun env1 ov1 => c env1 ov1 (fun b ov2 =>
    if b = true then elt env1 ov2 (fun y ov3 => ∃ d, y = .d d ∧ zLcGo g c elt own xs (acc ++ [d]) env ov3 Q E) noX else zLcGo g c elt own xs acc env ov2 Q E) noX
def zLc (zi : ZI) (g : ZG) (c : ZT) (elt : ZE) (own : List Nat) : ZE := fun env ov Q E => zi env ov (fun xs ov1 => xs.length ≤ sizeLine ∧ zLcGo g c elt own xs [] env ov1 Q E) E
def ztYes : ZT := fun _ ov Q _ => Q true ov
end Z
namespace Z
open PySem PySem.Spec PyProof.Rows L2
/-! ### how data lies in the heap -/
mutual
def Rep (K : PySem.W.Frag) (G : Hp) : D → V → Prop
  | .non, v => v = .non
  | .bl b, v => v = .bl b
  | .int i, v => v = .int i
  | .str x, v => v = .str x
  | .tup ds, v => ∃ a xs, v = .ref a ∧ SqT K G a xs ∧ ds.length ≤ sizeLine ∧ Reps K G ds xs
  | .lst ds, v => ∃ a xs, v = .ref a ∧ G a = some (.lst xs) ∧ ds.length ≤ sizeLine ∧ Reps K G ds xs
  | .dic kvs, v => ∃ a vs, v = .ref a ∧ G a = some (.dK vs) ∧ RepK K G kvs vs
  | .obj c fs, v => ∃ a dx vs, v = .ref a ∧ G a = some (.ins (He.ga K c) dx vs) ∧ RepF K G fs vs
def Reps (K : PySem.W.Frag) (G : Hp) : List D → List V → Prop
  | [], vs => vs = []
  | d :: ds, vs => ∃ v r, vs = v :: r ∧ Rep K G d v ∧ Reps K G ds r
def RepK (K : PySem.W.Frag) (G : Hp) : List (Key × D) → List (Key × V) → Prop
  | [], vs => vs = []
  | (k, d) :: ds, vs => ∃ v r, vs = (k, v) :: r ∧ Rep K G d v ∧ RepK K G ds r
def RepF (K : PySem.W.Frag) (G : Hp) : List (Str × D) → List (Str × V) → Prop
  | [], vs => vs = []
  | (k, d) :: ds, vs => ∃ v r, vs = (k, v) :: r ∧ Rep K G d v ∧ RepF K G ds r
end
section
variable {K : PySem.W.Frag} {G G' H H' : Hp}
theorem Same.seqT {a : Addr} {xs : List V} (e : Same G G') (h : SqT K G a xs) : SqT K G' a xs := h.ext e
mutual
theorem Rep.mono (e : Same G G') : ∀ {d : D} {v : V}, Rep K G d v → Rep K G' d v
  | .non, _, h => h
  | .bl _, _, h => h
  | .int _, _, h => h
  | .str _, _, h => h
  | .tup ds, _, ⟨a, xs, e1, h, l, r⟩ => ⟨a, xs, e1, Same.seqT e h, l, Reps.mono e r⟩
  | .lst ds, _, ⟨a, xs, e1, h, l, r⟩ => ⟨a, xs, e1, e _ _ h, l, Reps.mono e r⟩
  | .dic kvs, _, ⟨a, vs, e1, h, r⟩ => ⟨a, vs, e1, e _ _ h, RepK.mono e r⟩
  | .obj c fs, _, ⟨a, dx, vs, e1, h, r⟩ => ⟨a, dx, vs, e1, e _ _ h, RepF.mono e r⟩
theorem Reps.mono (e : Same G G') : ∀ {ds : List D} {vs : List V}, Reps K G ds vs → Reps K G' ds vs
  | [], _, h => h
  | _ :: _, _, ⟨v, r, e1, h, hr⟩ => ⟨v, r, e1, Rep.mono e h, Reps.mono e hr⟩
theorem RepK.mono (e : Same G G') : ∀ {ds : List (Key × D)} {vs : List (Key × V)}, RepK K G ds vs → RepK K G' ds vs
  | [], _, h => h
  | (_, _) :: _, _, ⟨v, r, e1, h, hr⟩ => ⟨v, r, e1, Rep.mono e h, RepK.mono e hr⟩
theorem RepF.mono (e : Same G G') : ∀ {ds : List (Str × D)} {vs : List (Str × V)}, RepF K G ds vs → RepF K G' ds vs
  | [], _, h => h
  | (_, _) :: _, _, ⟨v, r, e1, h, hr⟩ => ⟨v, r, e1, Rep.mono e h, RepF.mono e hr⟩
end
theorem Reps.len : ∀ {ds : List D} {vs : List V}, Reps K G ds vs → vs.length = ds.length
  | [], _, h => by have h : _ = _ := h; subst h; rfl
  | _ :: _, _, ⟨v, r, e1, h, hr⟩ => by subst e1; simp [Reps.len hr]
theorem Reps.get : ∀ {ds : List D} {vs : List V} {i : Nat} {d : D}, Reps K G ds vs → ds[i]? = some d → ∃ v, vs[i]? = some v ∧ Rep K G d v
  | [], _, _, _, _, e => by simp at e
  | d :: ds, _, 0, _, ⟨v, r, e1, h, hr⟩, e => by subst e1; simp at e; subst e; exact ⟨v, rfl, h⟩
  | d :: ds, _, i + 1, _, ⟨v, r, e1, h, hr⟩, e => by
    subst e1
    obtain ⟨u, h1, h2⟩ := Reps.get (i := i) hr (by simpa using e)
    exact ⟨u, by simpa using h1, h2⟩
theorem Reps.get' : ∀ {ds : List D} {vs : List V} {i : Nat} {v : V}, Reps K G ds vs → vs[i]? = some v → ∃ d, ds[i]? = some d ∧ Rep K G d v
  | [], _, _, _, h, e => by have h : _ = _ := h; subst h; simp at e
  | d :: ds, _, 0, _, ⟨v, r, e1, h, hr⟩, e => by subst e1; simp at e; subst e; exact ⟨d, rfl, h⟩
  | d :: ds, _, i + 1, _, ⟨v, r, e1, h, hr⟩, e => by
    subst e1
    obtain ⟨u, h1, h2⟩ := Reps.get' (i := i) hr (by simpa using e)
    exact ⟨u, by simpa using h1, h2⟩
theorem Reps.append : ∀ {ds es : List D} {vs us : List V}, Reps K G ds vs → Reps K G es us → Reps K G (ds ++ es) (vs ++ us)
  | [], _, _, _, h, h2 => by have h : _ = _ := h; subst h; exact h2
  | _ :: _, _, _, _, ⟨v, r, e1, h, hr⟩, h2 => by subst e1; exact ⟨v, r ++ _, rfl, h, Reps.append hr h2⟩
theorem Reps.drop : ∀ {ds : List D} {vs : List V} (n : Nat), Reps K G ds vs → Reps K G (ds.drop n) (vs.drop n)
  | _, _, 0, h => h
  | [], _, n + 1, h => by have h : _ = _ := h; subst h; rfl
  | _ :: _, _, n + 1, ⟨v, r, e1, h, hr⟩ => by subst e1; exact Reps.drop n hr
theorem Reps.take : ∀ {ds : List D} {vs : List V} (n : Nat), Reps K G ds vs → Reps K G (ds.take n) (vs.take n)
  | _, _, 0, h => rfl
  | [], _, n + 1, h => by have h : _ = _ := h; subst h; rfl
  | _ :: _, _, n + 1, ⟨v, r, e1, h, hr⟩ => by subst e1; exact ⟨v, _, rfl, h, Reps.take n hr⟩
theorem Reps.one {d : D} {v : V} (h : Rep K G d v) : Reps K G [d] [v] := ⟨v, [], rfl, h, rfl⟩
theorem RepF.lookup : ∀ {fs : List (Str × D)} {vs : List (Str × V)} {f : Str} {d : D}, RepF K G fs vs → fs.lookup f = some d → ∃ v, vs.lookup f = some v ∧ Rep K G d v
  | [], _, _, _, _, e => by simp at e
  | (k, x) :: fs, _, f, d, ⟨v, r, e1, h, hr⟩, e => by
    subst e1
    rw [List.lookup_cons] at e ⊢
    cases hb : f == k with
    | true => rw [hb] at e; simp at e; subst e; exact ⟨v, rfl, h⟩
    | false => rw [hb] at e; exact RepF.lookup hr e
end
/-! ### the hidden part of a state -/
/-- addresses of overlay objects, of the draw (its dict, its two lists) -/
structure Th where
  ad : List Addr
  dw : Option (Addr × Addr × Addr)
def Th.own (t : Th) (a : Addr) : Prop := a ∈ t.ad ∨ ∃ x, t.dw = some x ∧ (a = x.1 ∨ a = x.2.1 ∨ a = x.2.2)
def RepZ (K : PySem.W.Frag) (G : Hp) (t : Th) : Zv → V → Prop
  | .d x, v => Rep K G x v
  | .r n, v => ∃ a, t.ad[n]? = some a ∧ v = .ref a
  | .dw, v => ∃ x, t.dw = some x ∧ v = .ref x.1
  | .sc ns, v => ∃ a, v = .ref a ∧ SqL K G a (ns.map V.int)
def RepZs (K : PySem.W.Frag) (G : Hp) (t : Th) : List Zv → List V → Prop
  | [], vs => vs = []
  | d :: ds, vs => ∃ v r, vs = v :: r ∧ RepZ K G t d v ∧ RepZs K G t ds r
def RepZk {κ : Type} (K : PySem.W.Frag) (G : Hp) (t : Th) : List (κ × Zv) → List (κ × V) → Prop
  | [], vs => vs = []
  | (k, d) :: ds, vs => ∃ v r, vs = (k, v) :: r ∧ RepZ K G t d v ∧ RepZk K G t ds r
def RepO (K : PySem.W.Frag) (G : Hp) (t : Th) : OO → HO → Prop
  | .gone, _ => True
  | .lst zs, u => ∃ xs, u = .lst xs ∧ zs.length ≤ sizeLine ∧ RepZs K G t zs xs
  | .dic kvs, u => ∃ vs, u = .dK vs ∧ RepZk K G t kvs vs
  | .ins c fs, u => ∃ dx vs, u = .ins (He.ga K c) dx vs ∧ RepZk K G t fs vs
/-- the keys of the draw -/
def kS (s : String) : Key := Sum.inr (Str.ofString s)
def drawKv (al ac : Addr) (rest turn mix : Int) : List (Key × V) :=
  [(kS "large", .ref al), (kS "cells", .ref ac), (kS "rest", .int rest), (kS "turn", .int turn), (kS "mix", .int mix)]
structure DrawAt (H : Hp) (x : Addr × Addr × Addr) : Prop where
  ex : ∃ (ls cs : List Int) (rest turn mix : Int), H x.1 = some (.dK (drawKv x.2.1 x.2.2 rest turn mix)) ∧ H x.2.1 = some (.lst (ls.map V.int)) ∧ H x.2.2 = some (.lst (cs.map V.int)) ∧
    (∀ l ∈ ls, 0 ≤ l) ∧ 0 ≤ rest ∧ 0 ≤ mix ∧ mix < 2147483629 ∧ cs.length ≤ 63 ∧ x.2.1 ≠ x.2.2
/-- the heap bears the frozen part G, the overlay, the draw -/
structure Ok (K : PySem.W.Frag) (t : Th) (G : Hp) (ov : Ov) (H : Hp) : Prop where
  len : t.ad.length = ov.length
  sub : Same G H
  thr : ∀ a ∈ t.ad, ∃ u, H a = some u
  ob : ∀ (n : Nat) (o : OO) (a : Addr), ov[n]? = some o → t.ad[n]? = some a → o ≠ .gone → G a = none ∧ ∃ u, H a = some u ∧ RepO K G t o u
  nd : t.ad.Nodup
  dw : ∀ x, t.dw = some x → DrawAt H x ∧ G x.1 = none ∧ G x.2.1 = none ∧ G x.2.2 = none ∧ x.1 ∉ t.ad ∧ x.2.1 ∉ t.ad ∧ x.2.2 ∉ t.ad
/-- from a state on -/
structure Stp (t : Th) (G H : Hp) (t' : Th) (G' H' : Hp) : Prop where
  g : Same G G'
  fr : ∀ a o, H a = some o → ¬ t.own a → H' a = some o
  nw : ∀ a o, H a = some o → G a = none → ¬ t.own a → G' a = none
  ad : ∀ (n : Nat) a, t.ad[n]? = some a → t'.ad[n]? = some a
  dw : ∀ x, t.dw = some x → t'.dw = some x
  fs : ∀ a, t'.own a → ¬ t.own a → H a = none
section
variable {K : PySem.W.Frag} {t t' t2 : Th} {G G' G2 H H' H2 : Hp} {ov ov' : Ov}
theorem Stp.refl : Stp t G H t G H := ⟨Same.refl G, fun _ _ h _ => h, fun _ _ _ h _ => h, fun _ _ h => h, fun _ h => h, fun _ h h2 => (h2 h).elim⟩
theorem Stp.own (s : Stp t G H t' G' H') {a : Addr} (h : t.own a) : t'.own a := by
  rcases h with h | ⟨x, e, h⟩
  · obtain ⟨n, hn⟩ := List.mem_iff_getElem?.mp h
    exact .inl (List.mem_iff_getElem?.mpr ⟨n, s.ad n a hn⟩)
  · exact .inr ⟨x, s.dw x e, h⟩
theorem Stp.trans (s1 : Stp t G H t' G' H') (s2 : Stp t' G' H' t2 G2 H2) : Stp t G H t2 G2 H2 := by
  have no : ∀ a o, H a = some o → ¬ t.own a → ¬ t'.own a := fun a o h n n' => by
    have := s1.fs a n' n
    rw [h] at this; cases this
  refine ⟨s1.g.trans s2.g, fun a o h n => s2.fr a o (s1.fr a o h n) (no a o h n), fun a o h g n => s2.nw a o (s1.fr a o h n) (s1.nw a o h g n) (no a o h n), fun n a h => s2.ad n a (s1.ad n a h), fun x h => s2.dw x (s1.dw x h), fun a h n => ?_⟩
  by_cases h1 : t'.own a
  · exact s1.fs a h1 n
  · have h2 := s2.fs a h h1
    cases e : H a with
    | none => rfl
    | some o => rw [s1.fr a o e n] at h2; cases h2
theorem RepZ.mono (s : Stp t G H t' G' H') : ∀ {z : Zv} {v : V}, RepZ K G t z v → RepZ K G' t' z v
  | .d _, _, h => Rep.mono s.g h
  | .r n, _, ⟨a, e, h⟩ => ⟨a, s.ad n a e, h⟩
  | .dw, _, ⟨x, e, h⟩ => ⟨x, s.dw x e, h⟩
  | .sc _, _, ⟨a, e, h⟩ => ⟨a, e, s.g.seq h⟩
theorem RepZs.mono (s : Stp t G H t' G' H') : ∀ {zs : List Zv} {vs : List V}, RepZs K G t zs vs → RepZs K G' t' zs vs
  | [], _, h => h
  | _ :: _, _, ⟨v, r, e1, h, hr⟩ => ⟨v, r, e1, RepZ.mono s h, RepZs.mono s hr⟩
theorem RepZs.len : ∀ {zs : List Zv} {vs : List V}, RepZs K G t zs vs → vs.length = zs.length
  | [], _, h => by have h : _ = _ := h; subst h; rfl
  | _ :: _, _, ⟨v, r, e1, h, hr⟩ => by subst e1; simp [RepZs.len hr]
theorem RepZs.pure : ∀ {zs : List Zv} {vs : List V} {ds : List D}, RepZs K G t zs vs → pureL zs = some ds → Reps K G ds vs
  | [], _, _, h, e => by cases e; exact h
  | .d x :: zs, _, ds, ⟨v, r, e1, h, hr⟩, e => by
    subst e1
    unfold pureL at e
    cases hp : pureL zs with
    | none => rw [hp] at e; cases e
    | some es => rw [hp] at e; cases e; exact ⟨v, r, rfl, h, RepZs.pure hr hp⟩
  | .r _ :: _, _, _, _, e => by cases e
  | .dw :: _, _, _, _, e => by cases e
  | .sc _ :: _, _, _, _, e => by cases e
theorem RepZs.ofD : ∀ {ds : List D} {vs : List V}, Reps K G ds vs → RepZs K G t (ds.map Zv.d) vs
  | [], _, h => h
  | _ :: _, _, ⟨v, r, e1, h, hr⟩ => ⟨v, r, e1, h, RepZs.ofD hr⟩
theorem RepZk.pureK : ∀ {zs : List (Key × Zv)} {vs : List (Key × V)} {ds : List (Key × D)}, RepZk K G t zs vs → Z.pureK zs = some ds → RepK K G ds vs
  | [], _, _, h, e => by cases e; exact h
  | (k, .d x) :: zs, _, ds, ⟨v, r, e1, h, hr⟩, e => by
    subst e1
    unfold Z.pureK at e
    cases hp : Z.pureK zs with
    | none => rw [hp] at e; cases e
    | some es => rw [hp] at e; cases e; exact ⟨v, r, rfl, h, RepZk.pureK hr hp⟩
  | (_, .r _) :: _, _, _, _, e => by cases e
  | (_, .dw) :: _, _, _, _, e => by cases e
  | (_, .sc _) :: _, _, _, _, e => by cases e
theorem RepZk.pureF : ∀ {zs : List (Str × Zv)} {vs : List (Str × V)} {ds : List (Str × D)}, RepZk K G t zs vs → Z.pureK zs = some ds → RepF K G ds vs
  | [], _, _, h, e => by cases e; exact h
  | (k, .d x) :: zs, _, ds, ⟨v, r, e1, h, hr⟩, e => by
    subst e1
    unfold Z.pureK at e
    cases hp : Z.pureK zs with
    | none => rw [hp] at e; cases e
    | some es => rw [hp] at e; cases e; exact ⟨v, r, rfl, h, RepZk.pureF hr hp⟩
  | (_, .r _) :: _, _, _, _, e => by cases e
  | (_, .dw) :: _, _, _, _, e => by cases e
  | (_, .sc _) :: _, _, _, _, e => by cases e
end
/-- data whose own object is read in H, its parts in G -/
def Rep1 (K : PySem.W.Frag) (H G : Hp) : D → V → Prop
  | .non, v => v = .non
  | .bl b, v => v = .bl b
  | .int i, v => v = .int i
  | .str x, v => v = .str x
  | .tup ds, v => ∃ a xs, v = .ref a ∧ SqT K G a xs ∧ ds.length ≤ sizeLine ∧ Reps K G ds xs
  | .lst ds, v => ∃ a xs, v = .ref a ∧ H a = some (.lst xs) ∧ ds.length ≤ sizeLine ∧ Reps K G ds xs
  | .dic kvs, v => ∃ a vs, v = .ref a ∧ H a = some (.dK vs) ∧ RepK K G kvs vs
  | .obj c fs, v => ∃ a dx vs, v = .ref a ∧ H a = some (.ins (He.ga K c) dx vs) ∧ RepF K G fs vs
section
variable {K : PySem.W.Frag} {t : Th} {G H : Hp} {ov : Ov}
theorem Rep.r1 (e : Same G H) : ∀ {d : D} {v : V}, Rep K G d v → Rep1 K H G d v
  | .non, _, h => h
  | .bl _, _, h => h
  | .int _, _, h => h
  | .str _, _, h => h
  | .tup ds, _, ⟨a, xs, e1, h, l, r⟩ => ⟨a, xs, e1, h, l, r⟩
  | .lst ds, _, ⟨a, xs, e1, h, l, r⟩ => ⟨a, xs, e1, e _ _ h, l, r⟩
  | .dic kvs, _, ⟨a, vs, e1, h, r⟩ => ⟨a, vs, e1, e _ _ h, r⟩
  | .obj c fs, _, ⟨a, dx, vs, e1, h, r⟩ => ⟨a, dx, vs, e1, e _ _ h, r⟩
theorem Rep1.full (e : Same G H) : ∀ {d : D} {v : V}, Rep1 K H G d v → Rep K H d v
  | .non, _, h => h
  | .bl _, _, h => h
  | .int _, _, h => h
  | .str _, _, h => h
  | .tup ds, _, ⟨a, xs, e1, h, l, r⟩ => ⟨a, xs, e1, Same.seqT e h, l, r.mono e⟩
  | .lst ds, _, ⟨a, xs, e1, h, l, r⟩ => ⟨a, xs, e1, h, l, r.mono e⟩
  | .dic kvs, _, ⟨a, vs, e1, h, r⟩ => ⟨a, vs, e1, h, r.mono e⟩
  | .obj c fs, _, ⟨a, dx, vs, e1, h, r⟩ => ⟨a, dx, vs, e1, h, r.mono e⟩
theorem pureL_len : ∀ {zs : List Zv} {ds : List D}, pureL zs = some ds → ds.length = zs.length
  | [], _, e => by cases e; rfl
  | .d x :: zs, ds, e => by
    unfold pureL at e
    cases hp : pureL zs with
    | none => rw [hp] at e; cases e
    | some es => rw [hp] at e; cases e; simp [pureL_len hp]
  | .r _ :: _, _, e => by cases e
  | .dw :: _, _, e => by cases e
  | .sc _ :: _, _, e => by cases e
/-- a value as it stands now -/
theorem Ok.vw1 (ok : Ok K t G ov H) {z : Zv} {v : V} {d : D} (r : RepZ K G t z v) (e : vw ov z = some d) : Rep1 K H G d v := by
  cases z with
  | d x => cases e; exact Rep.r1 ok.sub r
  | dw => cases e
  | sc _ => cases e
  | r n =>
    obtain ⟨a, ha, rfl⟩ := r
    unfold vw at e
    cases ho : ov[n]? with
    | none => simp [ho] at e
    | some o =>
      simp only [ho] at e
      cases o with
      | gone => cases e
      | lst zs =>
        obtain ⟨_, u, hu, xs, rfl, l, q⟩ := ok.ob n _ a ho ha (by intro z; cases z)
        simp only [OO.pure?] at e
        cases hp : pureL zs with
        | none => rw [hp] at e; cases e
        | some ds => rw [hp] at e; cases e; exact ⟨a, xs, rfl, hu, by rw [pureL_len hp]; exact l, q.pure hp⟩
      | dic kvs =>
        obtain ⟨_, u, hu, xs, rfl, q⟩ := ok.ob n _ a ho ha (by intro z; cases z)
        simp only [OO.pure?] at e
        cases hp : pureK kvs with
        | none => rw [hp] at e; cases e
        | some ds => rw [hp] at e; cases e; exact ⟨a, xs, rfl, hu, q.pureK hp⟩
      | ins c fs =>
        obtain ⟨_, u, hu, dx, xs, rfl, q⟩ := ok.ob n _ a ho ha (by intro z; cases z)
        simp only [OO.pure?] at e
        cases hp : pureK fs with
        | none => rw [hp] at e; cases e
        | some ds => rw [hp] at e; cases e; exact ⟨a, dx, xs, rfl, hu, q.pureF hp⟩
end
end Z
namespace Z
open PySem PySem.Spec PyProof.Rows L2
/-- the heap has grown by new objects alone -/
structure Grow (G H G' H' : Hp) : Prop where
  g : Same G G'
  h : Same H H'
  sub : Same G' H'
  nw : ∀ a o, H a = some o → G a = none → G' a = none
section
variable {K : PySem.W.Frag} {t t' t1 : Th} {G G' G1 H H' H1 : Hp} {ov ov' ov1 : Ov}
theorem same_upd {H : Hp} {p : Addr} {o : HO} (h : H p = none) : Same H (upd H p o) := fun b u e => by rw [upd_ne (ne_of_none e h)]; exact e
theorem sub_none (s : Same G H) {p : Addr} (h : H p = none) : G p = none := by
  cases e : G p with
  | none => rfl
  | some o => rw [s p o e] at h; cases h
theorem Grow.refl (s : Same G H) : Grow G H G H := ⟨Same.refl G, Same.refl H, s, fun _ _ _ h => h⟩
theorem Grow.alloc (s : Same G H) {p : Addr} {o : HO} (h : H p = none) : Grow G H (upd G p o) (upd H p o) := by
  refine ⟨same_upd (sub_none s h), same_upd h, fun b u e => ?_, fun a u e g => ?_⟩
  · by_cases hb : b = p
    · subst hb; rw [upd_same] at e ⊢; exact e
    · rw [upd_ne hb] at e ⊢; exact s b u e
  · have hb : a ≠ p := ne_of_none e h
    rw [upd_ne hb]; exact g
theorem Grow.trans {G2 H2 : Hp} (a : Grow G H G1 H1) (b : Grow G1 H1 G2 H2) : Grow G H G2 H2 :=
  ⟨a.g.trans b.g, a.h.trans b.h, b.sub, fun x o e g => b.nw x o (a.h x o e) (a.nw x o e g)⟩
theorem Grow.stp (g : Grow G H G' H') : Stp t G H t G' H' := ⟨g.g, fun a o e _ => g.h a o e, fun a o e q _ => g.nw a o e q, fun _ _ h => h, fun _ h => h, fun _ h n => (n h).elim⟩
theorem RepZ.g (s : Same G G') {z : Zv} {v : V} (h : RepZ K G t z v) : RepZ K G' t z v := by
  cases z with
  | d x => exact Rep.mono s h
  | r n => exact h
  | dw => exact h
  | sc ns => obtain ⟨a, e, q⟩ := h; exact ⟨a, e, s.seq q⟩
theorem RepZs.g (s : Same G G') : ∀ {zs : List Zv} {vs : List V}, RepZs K G t zs vs → RepZs K G' t zs vs
  | [], _, h => h
  | _ :: _, _, ⟨v, r, e1, h, hr⟩ => ⟨v, r, e1, h.g s, RepZs.g s hr⟩
theorem RepZk.g {κ : Type} (s : Same G G') : ∀ {zs : List (κ × Zv)} {vs : List (κ × V)}, RepZk K G t zs vs → RepZk K G' t zs vs
  | [], _, h => h
  | (_, _) :: _, _, ⟨v, r, e1, h, hr⟩ => ⟨v, r, e1, h.g s, RepZk.g s hr⟩
theorem RepO.g (s : Same G G') {o : OO} {u : HO} (h : RepO K G t o u) : RepO K G' t o u := by
  cases o with
  | gone => trivial
  | lst zs => obtain ⟨xs, e, l, r⟩ := h; exact ⟨xs, e, l, r.g s⟩
  | dic kvs => obtain ⟨xs, e, r⟩ := h; exact ⟨xs, e, r.g s⟩
  | ins c fs => obtain ⟨dx, xs, e, r⟩ := h; exact ⟨dx, xs, e, r.g s⟩
theorem DrawAt.same (s : Same H H') {x : Addr × Addr × Addr} (h : DrawAt H x) : DrawAt H' x := by
  obtain ⟨ls, cs, a, b, c, h1, h2, h3, h4⟩ := h.ex
  exact ⟨ls, cs, a, b, c, s _ _ h1, s _ _ h2, s _ _ h3, h4⟩
theorem Ok.grow (ok : Ok K t G ov H) (g : Grow G H G' H') : Ok K t G' ov H' := by
  refine ⟨ok.len, g.sub, fun a ha => let ⟨u, e⟩ := ok.thr a ha; ⟨u, g.h a u e⟩, fun n o a h1 h2 h3 => ?_, ok.nd, fun x hx => ?_⟩
  · obtain ⟨e, u, hu, r⟩ := ok.ob n o a h1 h2 h3
    exact ⟨g.nw a u hu e, u, g.h a u hu, r.g g.g⟩
  · obtain ⟨d, e1, e2, e3, q⟩ := ok.dw x hx
    obtain ⟨ls, cs, _, _, _, h1, h2, h3, _⟩ := id d.ex
    exact ⟨d.same g.h, g.nw _ _ h1 e1, g.nw _ _ h2 e2, g.nw _ _ h3 e3, q⟩
end
/-- names and state -/
structure At (K : PySem.W.Frag) (t : Th) (G : Hp) (env : Env) (ov : Ov) (σ : L2.St) (H : Hp) : Prop where
  ok : Ok K t G ov H
  len : env.length = σ.length
  sl : ∀ (i : Nat) z, env[i]? = some (some z) → ∃ v, σ[i]? = some (some v) ∧ RepZ K G t z v
def RepX (K : PySem.W.Frag) (G : Hp) (x : Xc) (cls : Value) (d : Option Addr) : Prop :=
  cls = .ref (He.ga K x.cls) ∧ (x.fs = [] ∨ ∃ dx vs, d = some dx ∧ G dx = some (.xd vs) ∧ RepF K G x.fs vs)
def PostE (K : PySem.W.Frag) (t : Th) (G H : Hp) (Qz : QE) (Q : VK) : Prop :=
  ∀ (z : Zv) (ov' : Ov) (t' : Th) (G' : Hp) (v : V) (H' : Hp), Stp t G H t' G' H' → Ok K t' G' ov' H' → RepZ K G' t' z v → Qz z ov' → Q v H'
def PostT (K : PySem.W.Frag) (t : Th) (G H : Hp) (Qz : Bool → Ov → Prop) (Q : Bool → Hp → Prop) : Prop :=
  ∀ (b : Bool) (ov' : Ov) (t' : Th) (G' H' : Hp), Stp t G H t' G' H' → Ok K t' G' ov' H' → Qz b ov' → Q b H'
def PostA (K : PySem.W.Frag) (t : Th) (G H : Hp) (Qz : List Zv → Ov → Prop) (Q : List V → Hp → Prop) : Prop :=
  ∀ (zs : List Zv) (ov' : Ov) (t' : Th) (G' : Hp) (vs : List V) (H' : Hp), Stp t G H t' G' H' → Ok K t' G' ov' H' → RepZs K G' t' zs vs → Qz zs ov' → Q vs H'
def PostX (K : PySem.W.Frag) (t : Th) (G H : Hp) (Ez : QX) (W : WX) (σ : L2.St) : Prop :=
  ∀ (x : Xc) (ov' : Ov) (t' : Th) (G' : Hp) (cls : Value) (d : Option Addr) (H' : Hp), Stp t G H t' G' H' → Ok K t' G' ov' H' → RepX K G' x cls d → Ez x ov' → W cls d σ H'
def PostN (K : PySem.W.Frag) (t : Th) (G H : Hp) (Qz : Env → Ov → Prop) (Q : L2.St → Hp → Prop) : Prop :=
  ∀ (env' : Env) (ov' : Ov) (t' : Th) (G' : Hp) (σ' : L2.St) (H' : Hp), Stp t G H t' G' H' → At K t' G' env' ov' σ' H' → Qz env' ov' → Q σ' H'
def PostXs (K : PySem.W.Frag) (t : Th) (G H : Hp) (Ez : Xc → Env → Ov → Prop) (W : WX) : Prop :=
  ∀ (x : Xc) (env' : Env) (ov' : Ov) (t' : Th) (G' : Hp) (cls : Value) (d : Option Addr) (σ' : L2.St) (H' : Hp), Stp t G H t' G' H' → At K t' G' env' ov' σ' H' → RepX K G' x cls d → Ez x env' ov' → W cls d σ' H'
def tz (K : PySem.W.Frag) (W : WX) (z : ZE) : TE := fun σ H Q => ∃ t G env ov Qz Ez, At K t G env ov σ H ∧ z env ov Qz Ez ∧ PostE K t G H Qz Q ∧ PostX K t G H Ez W σ
def tzt (K : PySem.W.Frag) (W : WX) (z : ZT) : TT := fun σ H Q => ∃ t G env ov Qz Ez, At K t G env ov σ H ∧ z env ov Qz Ez ∧ PostT K t G H Qz Q ∧ PostX K t G H Ez W σ
def tza (K : PySem.W.Frag) (W : WX) (z : ZA) : TA := fun σ H Q => ∃ t G env ov Qz Ez, At K t G env ov σ H ∧ z env ov Qz Ez ∧ PostA K t G H Qz Q ∧ PostX K t G H Ez W σ
/-- what is wanted behind a statement is given by E -/
structure PostS (K : PySem.W.Frag) (W : WX) (t : Th) (G H : Hp) (E : En) (D : Ends) : Prop where
  nx : PostN K t G H E.nx D.nx
  rt : PostE K t G H E.rt D.rt
  bk : PostN K t G H E.bk D.bk
  ct : PostN K t G H E.ct D.ct
  xr : PostXs K t G H E.xr W
def tzs (K : PySem.W.Frag) (W : WX) (z : ZS) : TS := fun D σ H => ∃ t G env ov E, At K t G env ov σ H ∧ z E env ov ∧ PostS K W t G H E D
/-- own: the places that a target may change -/
def tzg (K : PySem.W.Frag) (own : List Nat) (z : ZG) : TG := fun v σ H Q => ∃ t G env ov x Qz, At K t G env ov σ H ∧ RepZ K G t x v ∧ z x env ov Qz ∧
  ∀ (env' : Env) (ov' : Ov) (t' : Th) (G' : Hp) (σ' : L2.St) (H' : Hp), Stp t G H t' G' H' → At K t' G' env' ov' σ' H' → σ'.length = σ.length → (∀ i, i ∉ own → σ'[i]? = σ[i]?) → Qz env' ov' → Q σ' H'
def tzgs (K : PySem.W.Frag) (own : List Nat) (z : ZGs) : TGs := fun vs σ H Q => ∃ t G env ov xs Qz, At K t G env ov σ H ∧ RepZs K G t xs vs ∧ z xs env ov Qz ∧
  ∀ (env' : Env) (ov' : Ov) (t' : Th) (G' : Hp) (σ' : L2.St) (H' : Hp), Stp t G H t' G' H' → At K t' G' env' ov' σ' H' → σ'.length = σ.length → (∀ i, i ∉ own → σ'[i]? = σ[i]?) → Qz env' ov' → Q σ' H'
/-- the iterator J yields the items -/
def Walks (K : PySem.W.Frag) (J : It) (t : Th) (G : Hp) (items : List Zv) : Prop :=
  (∀ G' H, Same G G' → Same G' H → (∀ i z, items[i]? = some z → J.go i H ∧ ∀ x H', J.yld i H x H' → ∃ G2, Grow G' H G2 H' ∧ RepZ K G2 t z x) ∧ J.stop items.length H)
def tzi (K : PySem.W.Frag) (W : WX) (z : ZI) : TI := fun σ H R => ∃ t G env ov Qz Ez, At K t G env ov σ H ∧ z env ov Qz Ez ∧
  (∀ (items : List Zv) (ov' : Ov) (t' : Th) (G' : Hp) (J : It) (H' : Hp), Stp t G H t' G' H' → Ok K t' G' ov' H' → (∀ z ∈ items, ∃ x, z = .d x) → Walks K J ⟨[], none⟩ G' items → Qz items ov' → R J H') ∧ PostX K t G H Ez W σ
section
variable {K : PySem.W.Frag} {W : WX} {t t' t1 : Th} {G G' G1 H H' H1 : Hp} {ov ov' ov1 : Ov} {env : Env} {σ : L2.St}
theorem At.step (A : At K t G env ov σ H) (s : Stp t G H t1 G1 H1) (ok : Ok K t1 G1 ov1 H1) : At K t1 G1 env ov1 σ H1 :=
  ⟨ok, A.len, fun i z e => let ⟨v, h1, h2⟩ := A.sl i z e; ⟨v, h1, h2.mono s⟩⟩
theorem At.set (A : At K t G env ov σ H) {z : Zv} {v : V} (r : RepZ K G t z v) (i : Nat) : At K t G (env.set i (some z)) ov (σ.set i (some v)) H := by
  refine ⟨A.ok, by simp [A.len], fun j y e => ?_⟩
  by_cases hj : i = j
  · subst hj
    by_cases hi : i < env.length
    · rw [List.getElem?_set_self hi] at e
      cases e
      exact ⟨v, by rw [List.getElem?_set_self (by rw [← A.len]; exact hi)], r⟩
    · rw [List.getElem?_eq_none (by simpa using hi)] at e; cases e
  · rw [List.getElem?_set_ne hj] at e
    obtain ⟨u, h1, h2⟩ := A.sl j y e
    exact ⟨u, by rw [List.getElem?_set_ne hj]; exact h1, h2⟩
theorem PostE.step {Qz : QE} {Q : VK} (s : Stp t G H t1 G1 H1) (p : PostE K t G H Qz Q) : PostE K t1 G1 H1 Qz Q := fun z ov' t' G' v H' s' => p z ov' t' G' v H' (s.trans s')
theorem PostT.step {Qz : Bool → Ov → Prop} {Q : Bool → Hp → Prop} (s : Stp t G H t1 G1 H1) (p : PostT K t G H Qz Q) : PostT K t1 G1 H1 Qz Q := fun z ov' t' G' H' s' => p z ov' t' G' H' (s.trans s')
theorem PostA.step {Qz : List Zv → Ov → Prop} {Q : List V → Hp → Prop} (s : Stp t G H t1 G1 H1) (p : PostA K t G H Qz Q) : PostA K t1 G1 H1 Qz Q := fun z ov' t' G' v H' s' => p z ov' t' G' v H' (s.trans s')
theorem PostX.step {Ez : QX} (s : Stp t G H t1 G1 H1) (p : PostX K t G H Ez W σ) : PostX K t1 G1 H1 Ez W σ := fun x ov' t' G' c d H' s' => p x ov' t' G' c d H' (s.trans s')
theorem PostN.step {Qz : Env → Ov → Prop} {Q : L2.St → Hp → Prop} (s : Stp t G H t1 G1 H1) (p : PostN K t G H Qz Q) : PostN K t1 G1 H1 Qz Q := fun e ov' t' G' v H' s' => p e ov' t' G' v H' (s.trans s')
theorem PostXs.step {Ez : Xc → Env → Ov → Prop} (s : Stp t G H t1 G1 H1) (p : PostXs K t G H Ez W) : PostXs K t1 G1 H1 Ez W := fun x e ov' t' G' c d v H' s' => p x e ov' t' G' c d v H' (s.trans s')
theorem PostS.step {E : En} {D : Ends} (s : Stp t G H t1 G1 H1) (p : PostS K W t G H E D) : PostS K W t1 G1 H1 E D := ⟨p.nx.step s, p.rt.step s, p.bk.step s, p.ct.step s, p.xr.step s⟩
/-- from a statement's wish of exceptions to an expression's -/
theorem PostXs.at {Ez : Xc → Env → Ov → Prop} (p : PostXs K t G H Ez W) (A : At K t G env ov σ H) : PostX K t G H (fun x ov' => Ez x env ov') W σ := fun x ov' t' G' c d H' s ok r h => p x env ov' t' G' c d σ H' s (A.step s ok) r h
end
/-! ### the rules of expressions -/
section
variable {X : Cx} {W : WX} {a b c : Expr} {za zb zc : ZE} {pos : Pos}
theorem PE.imp {e : Expr} {t t' : TE} (h : PE X e t) (hi : ∀ σ H Q, t' σ H Q → t σ H Q) : PE X e t' := ⟨fun pins s σ H Q I q => h.run pins s σ H Q I (hi σ H Q q)⟩
theorem PT.imp {e : Expr} {t t' : TT} (h : PT X e t) (hi : ∀ σ H Q, t' σ H Q → t σ H Q) : PT X e t' := ⟨fun pins s σ H Q I q => h.run pins s σ H Q I (hi σ H Q q)⟩
theorem PW.imp {e : Expr} {t t' : TT} (h : PW X e t) (hi : ∀ σ H Q, t' σ H Q → t σ H Q) : PW X e t' := ⟨fun wh pins s σ H Q I q => h.run wh pins s σ H Q I (hi σ H Q q)⟩
theorem PA.imp {e : List Expr} {t t' : TA} (h : PA X e t) (hi : ∀ σ H Q, t' σ H Q → t σ H Q) : PA X e t' := ⟨fun p pins s σ H Q I q => h.run p pins s σ H Q I (hi σ H Q q)⟩
theorem PS.imp {e : Stmt} {t t' : TS} (h : PS X e t) (hi : ∀ D σ H, t' D σ H → t D σ H) : PS X e t' := ⟨fun pins s σ H D I q => h.run pins s σ H D I (hi D σ H q)⟩
theorem PSs.imp {e : List Stmt} {t t' : TS} (h : PSs X e t) (hi : ∀ D σ H, t' D σ H → t D σ H) : PSs X e t' := ⟨fun pins s σ H D I q => h.run pins s σ H D I (hi D σ H q)⟩
theorem PG.imp {e : Expr} {t t' : TG} (h : PG X e t) (hi : ∀ v σ H Q, t' v σ H Q → t v σ H Q) : PG X e t' := by
  obtain ⟨run⟩ := h
  constructor
  intros
  apply run <;> first | assumption | (apply hi; assumption)
theorem PGs.imp {e : List Expr} {t t' : TGs} (h : PGs X e t) (hi : ∀ v σ H Q, t' v σ H Q → t v σ H Q) : PGs X e t' := by
  obtain ⟨run⟩ := h
  constructor
  intros
  apply run <;> first | assumption | (apply hi; assumption)
theorem PI.imp {tg e : Expr} {t t' : TI} (h : PI X tg e t) (hi : ∀ σ H Q, t' σ H Q → t σ H Q) : PI X tg e t' := ⟨fun pins s σ H Q I q => h.run pins s σ H Q I (hi σ H Q q)⟩
abbrev ZEj (X : Cx) (W : WX) (e : Expr) (z : ZE) : Prop := PE X e (tz X.K W z)
abbrev ZTj (X : Cx) (W : WX) (e : Expr) (z : ZT) : Prop := PT X e (tzt X.K W z)
abbrev ZWj (X : Cx) (W : WX) (e : Expr) (z : ZT) : Prop := PW X e (tzt X.K W z)
abbrev ZAj (X : Cx) (W : WX) (e : List Expr) (z : ZA) : Prop := PA X e (tza X.K W z)
abbrev ZSj (X : Cx) (W : WX) (s : Stmt) (z : ZS) : Prop := PS X s (tzs X.K W z)
abbrev ZSsj (X : Cx) (W : WX) (s : List Stmt) (z : ZS) : Prop := PSs X s (tzs X.K W z)
abbrev ZGj (X : Cx) (own : List Nat) (e : Expr) (z : ZG) : Prop := PG X e (tzg X.K own z)
abbrev ZGsj (X : Cx) (own : List Nat) (e : List Expr) (z : ZGs) : Prop := PGs X e (tzgs X.K own z)
abbrev ZIj (X : Cx) (W : WX) (tg e : Expr) (z : ZI) : Prop := PI X tg e (tzi X.K W z)
theorem ze_imp {e : Expr} {z z' : ZE} (h : ZEj X W e z) (hi : ∀ env ov Q E, z' env ov Q E → z env ov Q E) : ZEj X W e z' :=
  PE.imp h fun σ H Q ⟨t, G, env, ov, Qz, Ez, A, q, pe, px⟩ => ⟨t, G, env, ov, Qz, Ez, A, hi env ov Qz Ez q, pe, px⟩
theorem ze_var (i : Nat) {x : Str} {pos : Pos} (hN : X.N[i]? = some x := by rfl) (hv : Vis X.env.scope x := by first | exact Or.inl rfl | exact Or.inr (Or.inl rfl) | exact Or.inr (Or.inr rfl)) (hd : (x == ("__debug__" : Str)) = false := by decide)
    (hcd : (x == ("__classdict__" : Str)) = false := by decide) : ZEj X W (.Name x pos) (zVar i) := by
  refine PE.imp (pe_var hN hv hd hcd) fun σ H Q ⟨t, G, env, ov, Qz, Ez, A, ⟨z, e, q⟩, pe, px⟩ => ?_
  obtain ⟨v, e1, r⟩ := A.sl i z e
  exact ⟨v, e1, pe z ov t G v H .refl A.ok r q⟩
theorem ze_c {e : Expr} {x : V} {d : D} (h : PE X e (tC x)) (hr : ∀ G, Rep X.K G d x) : ZEj X W e (zC d) :=
  PE.imp h fun σ H Q ⟨t, G, env, ov, Qz, Ez, A, q, pe, px⟩ => pe (.d d) ov t G x H .refl A.ok (hr G) q
theorem ze_int {i j pos} : ZEj X W (.Constant (.int i) j pos) (zC (.int i)) := ze_c pe_int fun _ => rfl
theorem ze_bl {b j pos} : ZEj X W (.Constant (.bool b) j pos) (zC (.bl b)) := ze_c pe_bl fun _ => rfl
theorem ze_non {j pos} : ZEj X W (.Constant .none j pos) (zC .non) := ze_c pe_non fun _ => rfl
theorem ze_str {x j pos} : ZEj X W (.Constant (.str x) j pos) (zC (.str x)) := ze_c pe_str fun _ => rfl
/-- a global that is an int -/
theorem ze_gint {x : Str} {i : Int} {pos : Pos} (hg : Gl X x) (hm : ∃ t, X.mg x = some (.int i t)) (hd : (x == ("__debug__" : Str)) = false := by decide) : ZEj X W (.Name x pos) (zC (.int i)) := by
  obtain ⟨t, hm⟩ := hm
  exact ze_c (x := .int i) (pe_glob hg hm ⟨t, rfl⟩ hd) fun _ => rfl
/-- what an operation on values makes of data -/
def OpZ (K : PySem.W.Frag) (r : R2) (f : DOp) : Prop := ∀ (G H : Hp) (x y : D) (v u : V) (P : D → Prop) (Q : VK), Same G H → Rep1 K H G x v → Rep1 K H G y u → f x y P →
  (∀ d v' G' H', P d → Grow G H G' H' → Rep K G' d v' → Q v' H') → r v u H Q
def UnZ (K : PySem.W.Frag) (r : V → Hp → VK → Prop) (f : DUn) : Prop := ∀ (G H : Hp) (x : D) (v : V) (P : D → Prop) (Q : VK), Same G H → Rep1 K H G x v → f x P →
  (∀ d v' G' H', P d → Grow G H G' H' → Rep K G' d v' → Q v' H') → r v H Q
def CmpZ (K : PySem.W.Frag) (r : R2) (f : DTs) : Prop := ∀ (G H : Hp) (x y : D) (v u : V) (P : Bool → Prop) (Q : VK), Same G H → Rep1 K H G x v → Rep1 K H G y u → f x y P →
  (∀ b G' H', P b → Grow G H G' H' → Q (.bl b) H') → r v u H Q
theorem tOp_of {r : R2} {f : DOp} (hz : OpZ X.K r f) {σ : L2.St} {H : Hp} {Q : VK} (h : tz X.K W (zOp f za zb) σ H Q) : tOp r (tz X.K W za) (tz X.K W zb) σ H Q := by
  obtain ⟨t, G, env, ov, Qz, Ez, A, q, pe, px⟩ := h
  refine ⟨t, G, env, ov, _, Ez, A, q, fun x ov1 t1 G1 v H1 s1 ok1 r1 q1 => ?_, px⟩
  refine ⟨t1, G1, env, ov1, _, Ez, A.step s1 ok1, q1, fun y ov2 t2 G2 u H2 s2 ok2 r2 q2 => ?_, px.step s1⟩
  obtain ⟨dx, dy, e1, e2, hf⟩ := q2
  refine hz G2 H2 dx dy v u _ Q ok2.sub (ok2.vw1 (r1.mono s2) e1) (ok2.vw1 r2 e2) hf fun d v' G' H' p g rd => ?_
  exact pe (.d d) ov2 t2 G' v' H' ((s1.trans s2).trans g.stp) (ok2.grow g) rd p
theorem tOp_cmp {r : R2} {f : DTs} (hz : CmpZ X.K r f) {σ : L2.St} {H : Hp} {Q : VK} (h : tz X.K W (zCmp f za zb) σ H Q) : tOp r (tz X.K W za) (tz X.K W zb) σ H Q := by
  obtain ⟨t, G, env, ov, Qz, Ez, A, q, pe, px⟩ := h
  refine ⟨t, G, env, ov, _, Ez, A, q, fun x ov1 t1 G1 v H1 s1 ok1 r1 q1 => ?_, px⟩
  refine ⟨t1, G1, env, ov1, _, Ez, A.step s1 ok1, q1, fun y ov2 t2 G2 u H2 s2 ok2 r2 q2 => ?_, px.step s1⟩
  obtain ⟨dx, dy, e1, e2, hf⟩ := q2
  refine hz G2 H2 dx dy v u _ Q ok2.sub (ok2.vw1 (r1.mono s2) e1) (ok2.vw1 r2 e2) hf fun b G' H' p g => ?_
  exact pe (.d (.bl b)) ov2 t2 G' (.bl b) H' ((s1.trans s2).trans g.stp) (ok2.grow g) rfl p
theorem ze_op {op : Operator} {r : R2} {f : DOp} (ho : OpR X (binaryOp op) r) (hz : OpZ X.K r f) (ha : ZEj X W a za) (hb : ZEj X W b zb) : ZEj X W (.BinOp a op b pos) (zOp f za zb) :=
  PE.imp (pe_op ho ha hb) fun _ _ _ h => tOp_of hz h
theorem ze_un {op : UnaryOp} {r : V → Hp → VK → Prop} {f : DUn} (ho : UnR X (unaryOp op) r) (hz : UnZ X.K r f) (ha : ZEj X W a za) : ZEj X W (.UnaryOp op a pos) (zUn f za) := by
  refine PE.imp (pe_un ho ha) fun σ H Q ⟨t, G, env, ov, Qz, Ez, A, q, pe, px⟩ => ?_
  refine ⟨t, G, env, ov, _, Ez, A, q, fun x ov1 t1 G1 v H1 s1 ok1 r1 q1 => ?_, px⟩
  obtain ⟨dx, e1, hf⟩ := q1
  exact hz G1 H1 dx v _ Q ok1.sub (ok1.vw1 r1 e1) hf fun d v' G' H' p g rd => pe (.d d) ov1 t1 G' v' H' (s1.trans g.stp) (ok1.grow g) rd p
theorem ze_ix {r : R2} {f : DOp} (ho : IxR X r) (hz : OpZ X.K r f) (ha : ZEj X W a za) (hb : ZEj X W b zb) (hs : PlainIx b := by exact fun _ _ => rfl) : ZEj X W (.Subscript a b pos) (zOp f za zb) :=
  PE.imp (pe_ix ho ha hb hs) fun _ _ _ h => tOp_of hz h
theorem ze_cmp {op : CmpOp} {r : R2} {f : DTs} (ho : OpR X (compareOp op) r) (hz : CmpZ X.K r f) (ha : ZEj X W a za) (hb : ZEj X W b zb) (hm : behindInMarks op b = false := by first | exact nomark _ | rfl) : ZEj X W (.Compare a [op] [b] pos) (zCmp f za zb) :=
  PE.imp (pe_cmpR ho ha hb hm) fun _ _ _ h => tOp_cmp hz h
theorem tTest_of {z : ZE} {σ : L2.St} {H : Hp} {Q : Bool → Hp → Prop} (h : tzt X.K W (ztB z) σ H Q) : tTest (tz X.K W z) σ H Q := by
  obtain ⟨t, G, env, ov, Qz, Ez, A, q, pe, px⟩ := h
  refine ⟨t, G, env, ov, _, Ez, A, q, fun x ov1 t1 G1 v H1 s1 ok1 r1 q1 => ?_, px⟩
  obtain ⟨b, rfl, q1⟩ := q1
  exact ⟨b, r1, pe b ov1 t1 G1 H1 s1 ok1 q1⟩
theorem tzt_mono {z : ZT} {σ : L2.St} {H : Hp} {Q Q' : Bool → Hp → Prop} (h : tzt X.K W z σ H Q) (hq : ∀ b H', Q b H' → Q' b H') : tzt X.K W z σ H Q' := by
  obtain ⟨t, G, env, ov, Qz, Ez, A, q, pe, px⟩ := h
  exact ⟨t, G, env, ov, Qz, Ez, A, q, fun b ov' t' G' H' s ok q => hq _ _ (pe b ov' t' G' H' s ok q), px⟩
theorem tz_mono {z : ZE} {σ : L2.St} {H : Hp} {Q Q' : VK} (h : tz X.K W z σ H Q) (hq : ∀ v H', Q v H' → Q' v H') : tz X.K W z σ H Q' := by
  obtain ⟨t, G, env, ov, Qz, Ez, A, q, pe, px⟩ := h
  exact ⟨t, G, env, ov, Qz, Ez, A, q, fun b ov' t' G' v H' s ok r q => hq _ _ (pe b ov' t' G' v H' s ok r q), px⟩
/-- a comparison as a test -/
theorem zt_cmp {op : CmpOp} {r : R2} {f : DTs} (ho : OpR X (compareOp op) r) (hz : CmpZ X.K r f) (ha : ZEj X W a za) (hb : ZEj X W b zb) (hm : behindInMarks op b = false := by first | exact nomark _ | rfl) : ZTj X W (.Compare a [op] [b] pos) (ztB (zCmp f za zb)) :=
  PT.imp (pt_cmpR ho ha hb hm) fun σ H Q h => tOp_cmp hz (tTest_of h)
/-- a value (a name, a call, an attribute, a subscript) as a test -/
theorem zt_val {e : Expr} {z : ZE} (h : ZEj X W e z) (he : ∀ whole, isTrue e X.env whole = (do let v ← whole; standAt e.pos; holding [v] (truthy v)) := by intro _; rfl) : ZTj X W e (ztB z) :=
  PT.imp (pt_val h he) fun σ H Q q => tTest_of q
theorem zt_not (ha : ZTj X W a z) : ZTj X W (.UnaryOp .Not a pos) (ztNot z) := by
  refine PT.imp (pt_not ha) fun σ H Q ⟨t, G, env, ov, Qz, Ez, A, q, pe, px⟩ => ?_
  exact ⟨t, G, env, ov, _, Ez, A, q, fun b ov' t' G' H' s ok q => pe _ ov' t' G' H' s ok q, px⟩
theorem zw_and1 {z : ZT} (ha : ZTj X W a z) : ZWj X W (.BoolOp .And [a] pos) z := pw_and1 ha
theorem zw_or1 {z : ZT} (ha : ZTj X W a z) : ZWj X W (.BoolOp .Or [a] pos) z := pw_or1 ha
theorem zw_and {z y : ZT} {rest : List Expr} (ha : ZTj X W a z) (hb : ZWj X W (.BoolOp .And (b :: rest) pos) y) : ZWj X W (.BoolOp .And (a :: b :: rest) pos) (ztAnd z y) := by
  refine PW.imp (pw_and ha hb) fun σ H Q ⟨t, G, env, ov, Qz, Ez, A, q, pe, px⟩ => ?_
  refine ⟨t, G, env, ov, _, Ez, A, q, fun c ov1 t1 G1 H1 s1 ok1 q1 => ?_, px⟩
  cases c with
  | true => exact ⟨t1, G1, env, ov1, Qz, Ez, A.step s1 ok1, q1, pe.step s1, px.step s1⟩
  | false => exact pe false ov1 t1 G1 H1 s1 ok1 q1
theorem zw_or {z y : ZT} {rest : List Expr} (ha : ZTj X W a z) (hb : ZWj X W (.BoolOp .Or (b :: rest) pos) y) : ZWj X W (.BoolOp .Or (a :: b :: rest) pos) (ztOr z y) := by
  refine PW.imp (pw_or ha hb) fun σ H Q ⟨t, G, env, ov, Qz, Ez, A, q, pe, px⟩ => ?_
  refine ⟨t, G, env, ov, _, Ez, A, q, fun c ov1 t1 G1 H1 s1 ok1 q1 => ?_, px⟩
  cases c with
  | true => exact pe true ov1 t1 G1 H1 s1 ok1 q1
  | false => exact ⟨t1, G1, env, ov1, Qz, Ez, A.step s1 ok1, q1, pe.step s1, px.step s1⟩
theorem zt_w {e : Expr} {z : ZT} (h : ZWj X W e z) : ZTj X W e z := h.pt
theorem ze_one {op} {z : ZE} (h : ZEj X W a z) : ZEj X W (.BoolOp op [a] pos) z := pe_one h
theorem ze_and {rest : List Expr} (ha : ZEj X W a za) (hb : ZEj X W (.BoolOp .And (b :: rest) pos) zb) : ZEj X W (.BoolOp .And (a :: b :: rest) pos) (zAnd za zb) := by
  refine PE.imp (pe_and ha hb) fun σ H Q ⟨t, G, env, ov, Qz, Ez, A, q, pe, px⟩ => ?_
  refine ⟨t, G, env, ov, _, Ez, A, q, fun x ov1 t1 G1 v H1 s1 ok1 r1 q1 => ?_, px⟩
  obtain ⟨c, rfl, q1⟩ := q1
  refine ⟨c, r1, ?_⟩
  cases c with
  | true => exact ⟨t1, G1, env, ov1, Qz, Ez, A.step s1 ok1, q1, pe.step s1, px.step s1⟩
  | false => exact pe _ ov1 t1 G1 _ H1 s1 ok1 (show RepZ _ _ _ (.d (.bl false)) _ from rfl) q1
theorem ze_or {rest : List Expr} (ha : ZEj X W a za) (hb : ZEj X W (.BoolOp .Or (b :: rest) pos) zb) : ZEj X W (.BoolOp .Or (a :: b :: rest) pos) (zOr za zb) := by
  refine PE.imp (pe_or ha hb) fun σ H Q ⟨t, G, env, ov, Qz, Ez, A, q, pe, px⟩ => ?_
  refine ⟨t, G, env, ov, _, Ez, A, q, fun x ov1 t1 G1 v H1 s1 ok1 r1 q1 => ?_, px⟩
  obtain ⟨c, rfl, q1⟩ := q1
  refine ⟨c, r1, ?_⟩
  cases c with
  | false => exact ⟨t1, G1, env, ov1, Qz, Ez, A.step s1 ok1, q1, pe.step s1, px.step s1⟩
  | true => exact pe _ ov1 t1 G1 _ H1 s1 ok1 (show RepZ _ _ _ (.d (.bl true)) _ from rfl) q1
theorem ze_not (ha : ZEj X W a za) : ZEj X W (.UnaryOp .Not a pos) (zNot za) := by
  refine PE.imp (pe_not ha) fun σ H Q ⟨t, G, env, ov, Qz, Ez, A, q, pe, px⟩ => ?_
  refine ⟨t, G, env, ov, _, Ez, A, q, fun x ov1 t1 G1 v H1 s1 ok1 r1 q1 => ?_, px⟩
  obtain ⟨c, rfl, q1⟩ := q1
  exact ⟨c, r1, pe _ ov1 t1 G1 _ H1 s1 ok1 (show RepZ _ _ _ (.d (.bl (!c))) _ from rfl) q1⟩
theorem ze_ite {z : ZT} {c : Expr} (hc : ZTj X W c z) (ha : ZEj X W a za) (hb : ZEj X W b zb) : ZEj X W (.IfExp c a b pos) (zIte z za zb) := by
  refine PE.imp (pe_ifExp hc ha hb) fun σ H Q ⟨t, G, env, ov, Qz, Ez, A, q, pe, px⟩ => ?_
  refine ⟨t, G, env, ov, _, Ez, A, q, fun c ov1 t1 G1 H1 s1 ok1 q1 => ?_, px⟩
  cases c with
  | true => exact ⟨t1, G1, env, ov1, Qz, Ez, A.step s1 ok1, q1, pe.step s1, px.step s1⟩
  | false => exact ⟨t1, G1, env, ov1, Qz, Ez, A.step s1 ok1, q1, pe.step s1, px.step s1⟩
/-! arguments, displays -/
variable {es : List Expr} {zr : ZA}
theorem za_nil : ZAj X W [] zNil := PA.imp pa_nil fun σ H Q ⟨t, G, env, ov, Qz, Ez, A, q, pe, px⟩ => pe [] ov t G [] H .refl A.ok rfl q
theorem za_cons (ha : ZEj X W a za) (hr : ZAj X W es zr) (hs : starEach (a :: es) X.env = (false, eval a X.env) :: starEach es X.env := by rfl) : ZAj X W (a :: es) (zCons za zr) := by
  refine PA.imp (pa_cons ha hr hs) fun σ H Q ⟨t, G, env, ov, Qz, Ez, A, q, pe, px⟩ => ?_
  refine ⟨t, G, env, ov, _, Ez, A, q, fun x ov1 t1 G1 v H1 s1 ok1 r1 q1 => ?_, px⟩
  refine ⟨t1, G1, env, ov1, _, Ez, A.step s1 ok1, q1, fun xs ov2 t2 G2 vs H2 s2 ok2 r2 q2 => ?_, px.step s1⟩
  exact pe (x :: xs) ov2 t2 G2 (v :: vs) H2 (s1.trans s2) ok2 ⟨v, vs, rfl, r1.mono s2, r2⟩ q2
theorem ze_tup {k : Nat} (h : ZAj X W es zr) : ZEj X W (.Tuple es k pos) (zTup zr) := by
  refine PE.imp (pe_tup h) fun σ H Q ⟨t, G, env, ov, Qz, Ez, A, q, pe, px⟩ => ?_
  refine ⟨t, G, env, ov, _, Ez, A, q, fun xs ov1 t1 G1 vs H1 s1 ok1 r1 q1 => ?_, px⟩
  obtain ⟨ds, e, l, q1⟩ := q1
  have rs := r1.pure e
  refine ⟨by rw [rs.len]; exact l, fun p np => ?_⟩
  have g := Grow.alloc (o := .tup vs) ok1.sub np
  exact pe (.d (.tup ds)) ov1 t1 _ (.ref p) _ (s1.trans g.stp) (ok1.grow g) ⟨p, vs, rfl, SqT.of upd_same, l, rs.mono g.g⟩ q1
theorem ze_lst (h : ZAj X W es zr) : ZEj X W (.List es pos) (zLst zr) := by
  refine PE.imp (pe_lst h) fun σ H Q ⟨t, G, env, ov, Qz, Ez, A, q, pe, px⟩ => ?_
  refine ⟨t, G, env, ov, _, Ez, A, q, fun xs ov1 t1 G1 vs H1 s1 ok1 r1 q1 => ?_, px⟩
  obtain ⟨ds, e, l, q1⟩ := q1
  have rs := r1.pure e
  refine ⟨by rw [rs.len]; exact l, fun p np => ?_⟩
  have g := Grow.alloc (o := .lst vs) ok1.sub np
  exact pe (.d (.lst ds)) ov1 t1 _ (.ref p) _ (s1.trans g.stp) (ok1.grow g) ⟨p, vs, rfl, upd_same, l, rs.mono g.g⟩ q1
end
end Z
namespace Z
open PySem PySem.Spec PyProof.Rows L2
section
variable {K : PySem.W.Frag} {W : WX} {t t' t1 : Th} {G G' G1 H H' H1 : Hp} {ov ov' ov1 : Ov} {env env' : Env} {σ σ' : L2.St}
/-- the younger overlay objects are let go -/
def Th.cut (t : Th) (n : Nat) : Th := ⟨t.ad.take n, t.dw⟩
theorem mem_take_of {α : Type} {l : List α} {n : Nat} {a : α} (h : a ∈ l.take n) : a ∈ l := List.mem_of_mem_take h
theorem RepZ.cut {n : Nat} {z : Zv} {v : V} (h : RepZ K G t z v) (hb : z.below n = true) : RepZ K G (t.cut n) z v := by
  cases z with
  | d x => exact h
  | dw => exact h
  | sc ns => exact h
  | r m =>
    obtain ⟨a, e, q⟩ := h
    have hm : m < n := by simpa [Zv.below] using hb
    exact ⟨a, by show (t.ad.take n)[m]? = some a; rw [List.getElem?_take, if_pos hm]; exact e, q⟩
theorem RepZs.cut {n : Nat} : ∀ {zs : List Zv} {vs : List V}, RepZs K G t zs vs → zs.all (Zv.below n) = true → RepZs K G (t.cut n) zs vs
  | [], _, h, _ => h
  | z :: zs, _, ⟨v, r, e1, h, hr⟩, hb => by
    rw [List.all_cons, Bool.and_eq_true] at hb
    exact ⟨v, r, e1, h.cut hb.1, RepZs.cut hr hb.2⟩
theorem RepZk.cut {κ : Type} {n : Nat} : ∀ {zs : List (κ × Zv)} {vs : List (κ × V)}, RepZk K G t zs vs → (zs.all fun q => q.2.below n) = true → RepZk K G (t.cut n) zs vs
  | [], _, h, _ => h
  | (k, z) :: zs, _, ⟨v, r, e1, h, hr⟩, hb => by
    rw [List.all_cons, Bool.and_eq_true] at hb
    exact ⟨v, r, e1, h.cut hb.1, RepZk.cut hr hb.2⟩
theorem RepO.cut {n : Nat} {o : OO} {u : HO} (h : RepO K G t o u) (hb : o.below n = true) : RepO K G (t.cut n) o u := by
  cases o with
  | gone => trivial
  | lst zs => obtain ⟨xs, e, l, r⟩ := h; exact ⟨xs, e, l, r.cut hb⟩
  | dic kvs => obtain ⟨xs, e, r⟩ := h; exact ⟨xs, e, r.cut hb⟩
  | ins c fs => obtain ⟨dx, xs, e, r⟩ := h; exact ⟨dx, xs, e, r.cut hb⟩
theorem Ok.cut {n : Nat} (ok : Ok K t G ov H) (hb : (ov.take n).all (OO.below n) = true) : Ok K (t.cut n) G (ov.take n) H := by
  refine ⟨by simp [Th.cut, ok.len], ok.sub, fun a ha => ok.thr a (mem_take_of ha), fun m o a h1 h2 h3 => ?_, ok.nd.sublist (List.take_sublist _ _), fun x hx => ?_⟩
  · have h1' := h1
    rw [List.getElem?_take] at h1
    have h2' : (t.ad.take n)[m]? = some a := h2
    rw [List.getElem?_take] at h2'
    split at h1
    · rename_i hm
      rw [if_pos hm] at h2'
      obtain ⟨e, u, hu, r⟩ := ok.ob m o a h1 h2' h3
      exact ⟨e, u, hu, r.cut (List.all_eq_true.mp hb o (List.mem_of_getElem? h1'))⟩
    · cases h1
  · obtain ⟨d, e1, e2, e3, q1, q2, q3⟩ := ok.dw x hx
    exact ⟨d, e1, e2, e3, fun z => q1 (mem_take_of z), fun z => q2 (mem_take_of z), fun z => q3 (mem_take_of z)⟩
theorem own_cut {n : Nat} {a : Addr} (h : (t.cut n).own a) : t.own a := h.elim (fun h => .inl (mem_take_of h)) .inr
theorem Stp.cut {n : Nat} (s : Stp t G H t1 G1 H1) (hn : t.ad.length ≤ n) : Stp t G H (t1.cut n) G1 H1 := by
  refine ⟨s.g, s.fr, s.nw, fun m a e => ?_, s.dw, fun a h n' => s.fs a (own_cut h) n'⟩
  have hm : m < n := Nat.lt_of_lt_of_le (List.getElem?_eq_some_iff.mp e).1 hn
  show (t1.ad.take n)[m]? = some a
  rw [List.getElem?_take, if_pos hm]
  exact s.ad m a e
theorem At.cut {n : Nat} (A : At K t G env ov σ H) (hb : (ov.take n).all (OO.below n) = true) : At K (t.cut n) G (cutE n env) (ov.take n) σ H := by
  refine ⟨A.ok.cut hb, by simp [cutE, A.len], fun i z e => ?_⟩
  unfold cutE at e
  rw [List.getElem?_map] at e
  cases he : env[i]? with
  | none => rw [he] at e; cases e
  | some y =>
    rw [he] at e
    cases y with
    | none => cases e
    | some y =>
      have e' : cutZ n (some y) = some z := by simpa using e
      have hz : y = z ∧ z.below n = true := by
        cases y with
        | d x => cases e'; exact ⟨rfl, rfl⟩
        | dw => cases e'; exact ⟨rfl, rfl⟩
        | sc x => cases e'; exact ⟨rfl, rfl⟩
        | r m =>
          unfold cutZ at e'
          cases hm : Nat.blt m n with
          | true =>
            simp only [hm] at e'
            cases e'
            exact ⟨rfl, hm⟩
          | false =>
            simp only [hm] at e'
            cases e'
      obtain ⟨rfl, hb'⟩ := hz
      obtain ⟨v, h1, h2⟩ := A.sl i y he
      exact ⟨v, h1, h2.cut hb'⟩
theorem At.len0 (A : At K t G env ov σ H) : t.ad.length = ov.length := A.ok.len
/-! ### freezing -/
theorem ne_mem {l : List Addr} {a b : Addr} (h : a ∈ l) (h' : b ∉ l) : b ≠ a := fun z => h' (by subst z; exact h)
theorem pureZ {zs : List Zv} {u : HO} {ds : List D} (h : RepO K G t (.lst zs) u) (e : pureL zs = some ds) : ∃ xs, u = .lst xs ∧ ds.length ≤ sizeLine ∧ Reps K G ds xs := by
  obtain ⟨xs, rfl, l, r⟩ := h
  exact ⟨xs, rfl, by rw [pureL_len e]; exact l, r.pure e⟩
theorem frz_ok {z : Zv} {v : V} {d : D} {ov1 : Ov} (ok : Ok K t G ov H) (r : RepZ K G t z v) (e : frz ov z = some (d, ov1)) : ∃ G1, Stp t G H t G1 H ∧ Ok K t G1 ov1 H ∧ Rep K G1 d v := by
  cases z with
  | d x => cases e; exact ⟨G, .refl, ok, r⟩
  | dw => cases e
  | sc _ => cases e
  | r n =>
    obtain ⟨a, ha, rfl⟩ := r
    unfold frz at e
    cases ho : ov[n]? with
    | none => simp [ho] at e
    | some o =>
      simp only [ho] at e
      cases hp : o.pure? with
      | none => rw [hp] at e; cases e
      | some d' =>
        rw [hp] at e
        cases e
        have hg : o ≠ .gone := by intro z; subst z; cases hp
        obtain ⟨ga, u, hu, q⟩ := ok.ob n o a ho ha hg
        have sg : Same G (upd G a u) := same_upd ga
        have hn : n < ov.length := (List.getElem?_eq_some_iff.mp ho).1
        refine ⟨upd G a u, ⟨sg, fun _ _ h _ => h, fun b o' h g n' => ?_, fun _ _ h => h, fun _ h => h, fun _ h n' => (n' h).elim⟩, ⟨by simpa using ok.len, fun b o' e => ?_, ok.thr, fun m o' b h1 h2 h3 => ?_, ok.nd, fun x hx => ?_⟩, ?_⟩
        · have hb : b ≠ a := fun z => n' (.inl (by subst z; exact List.mem_of_getElem? ha))
          rw [upd_ne hb]; exact g
        · by_cases hb : b = a
          · subst hb; rw [upd_same] at e; cases e; exact hu
          · rw [upd_ne hb] at e; exact ok.sub b o' e
        · by_cases hm : m = n
          · subst hm
            rw [List.getElem?_set_self hn] at h1
            cases h1
            exact (h3 rfl).elim
          · rw [List.getElem?_set_ne (Ne.symm hm)] at h1
            obtain ⟨gb, u', hu', q'⟩ := ok.ob m o' b h1 h2 h3
            have hb : b ≠ a := fun z => by
              subst z
              obtain ⟨i1, e1⟩ := List.getElem?_eq_some_iff.mp h2
              obtain ⟨i2, e2⟩ := List.getElem?_eq_some_iff.mp ha
              exact hm ((List.getElem_inj ok.nd).mp (e1.trans e2.symm))
            exact ⟨by rw [upd_ne hb]; exact gb, u', hu', q'.g sg⟩
        · obtain ⟨d1, e1, e2, e3, q1, q2, q3⟩ := ok.dw x hx
          have hm := List.mem_of_getElem? ha
          exact ⟨d1, by rw [upd_ne (ne_mem hm q1)]; exact e1, by rw [upd_ne (ne_mem hm q2)]; exact e2, by rw [upd_ne (ne_mem hm q3)]; exact e3, q1, q2, q3⟩
        · cases o with
          | gone => cases hp
          | lst zs =>
            simp only [OO.pure?] at hp
            cases hp' : pureL zs with
            | none => rw [hp'] at hp; cases hp
            | some ds =>
              rw [hp'] at hp; cases hp
              obtain ⟨xs, rfl, l, q⟩ := q
              exact ⟨a, xs, rfl, upd_same, by rw [pureL_len hp']; exact l, (q.pure hp').mono sg⟩
          | dic zs =>
            simp only [OO.pure?] at hp
            cases hp' : pureK zs with
            | none => rw [hp'] at hp; cases hp
            | some ds =>
              rw [hp'] at hp; cases hp
              obtain ⟨xs, rfl, q⟩ := q
              exact ⟨a, xs, rfl, upd_same, (q.pureK hp').mono sg⟩
          | ins c zs =>
            simp only [OO.pure?] at hp
            cases hp' : pureK zs with
            | none => rw [hp'] at hp; cases hp
            | some ds =>
              rw [hp'] at hp; cases hp
              obtain ⟨dx, xs, rfl, q⟩ := q
              exact ⟨a, dx, xs, rfl, upd_same, (q.pureF hp').mono sg⟩
end
/-! ### statements -/
section
variable {X : Cx} {W : WX} {e : Expr} {za : ZE} {pos : Pos} {s : Stmt} {rest : List Stmt} {z y : ZS}
theorem zss_nil : ZSsj X W [] zNext := PSs.imp pss_nil fun D σ H ⟨t, G, env, ov, E, A, q, p⟩ => p.nx env ov t G σ H .refl A q
theorem zs_pass : ZSj X W (.Pass pos) zNext := PS.imp ps_pass fun D σ H ⟨t, G, env, ov, E, A, q, p⟩ => p.nx env ov t G σ H .refl A q
theorem zs_doc {x j p1 p2} : ZSj X W (.Expr (.Constant (.str x) j p1) p2) zNext := PS.imp ps_doc fun D σ H ⟨t, G, env, ov, E, A, q, p⟩ => p.nx env ov t G σ H .refl A q
theorem zss_one (h : ZSj X W s z) : ZSsj X W [s] z := pss_one h
theorem zss_cons (h1 : ZSj X W s z) (h2 : ZSsj X W rest y) : ZSsj X W (s :: rest) (zSeq z y) := by
  refine PSs.imp (pss_cons h1 h2) fun D σ H ⟨t, G, env, ov, E, A, q, p⟩ => ?_
  refine ⟨t, G, env, ov, _, A, q, ⟨fun env1 ov1 t1 G1 σ1 H1 s1 A1 q1 => ?_, p.rt, p.bk, p.ct, p.xr⟩⟩
  exact ⟨t1, G1, env1, ov1, E, A1, q1, p.step s1⟩
theorem zs_never : ZSj X W s zNever := PS.imp ps_never fun D σ H ⟨t, G, env, ov, E, A, q, p⟩ => q.elim
theorem zss_never {sts : List Stmt} : ZSsj X W sts zNever := PSs.imp pss_never fun D σ H ⟨t, G, env, ov, E, A, q, p⟩ => q.elim
theorem zs_brk : ZSj X W (.Break pos) zBrk := PS.imp ps_break fun D σ H ⟨t, G, env, ov, E, A, q, p⟩ => p.bk env ov t G σ H .refl A q
theorem zs_cont : ZSj X W (.Continue pos) zCont := PS.imp ps_continue fun D σ H ⟨t, G, env, ov, E, A, q, p⟩ => p.ct env ov t G σ H .refl A q
theorem zs_set (i : Nat) {x : Str} {pos' : Pos} (hN : X.N.Nodup) (he : ZEj X W e za) (hi : X.N[i]? = some x := by rfl) (hx : Loc X.env.scope x := by first | exact Or.inl rfl | exact Or.inr rfl) (hs : swapsWith e (some (.Name x pos')) pos.line X.env = pure false := by rfl)
    (hf : X.fn x = true ∨ X.env.scope.names.lookup x = some .local := by first | exact .inl rfl | exact .inr rfl | assumption) : ZSj X W (.Assign [.Name x pos'] e pos) (zSet i za) := by
  refine PS.imp (ps_set hN hi hx he hs hf) fun D σ H ⟨t, G, env, ov, E, A, q, p⟩ => ?_
  refine ⟨t, G, env, ov, _, _, A, q, fun z ov1 t1 G1 v H1 s1 ok1 r1 q1 => ?_, p.xr.at A⟩
  exact p.nx _ ov1 t1 G1 _ H1 s1 ((A.step s1 ok1).set r1 i) q1
theorem zs_expr (he : ZEj X W e za) (hs : swapsWith e none pos.line X.env = pure false := by rfl) : ZSj X W (.Expr e pos) (zDrop za) := by
  refine PS.imp (ps_expr he hs) fun D σ H ⟨t, G, env, ov, E, A, q, p⟩ => ?_
  refine ⟨t, G, env, ov, _, _, A, q, fun z ov1 t1 G1 v H1 s1 ok1 r1 q1 => ?_, p.xr.at A⟩
  exact p.nx _ ov1 t1 G1 _ H1 s1 (A.step s1 ok1) q1
theorem zs_if {c : Expr} {a b : List Stmt} {zc : ZT} (hc : ZTj X W c zc) (ha : ZSsj X W a z) (hb : ZSsj X W b y) : ZSj X W (.If c a b pos) (zIf zc z y) := by
  refine PS.imp (ps_if hc ha hb) fun D σ H ⟨t, G, env, ov, E, A, q, p⟩ => ?_
  refine ⟨t, G, env, ov, _, _, A, q, fun c ov1 t1 G1 H1 s1 ok1 q1 => ?_, p.xr.at A⟩
  cases c with
  | true => exact ⟨t1, G1, env, ov1, E, A.step s1 ok1, q1, p.step s1⟩
  | false => exact ⟨t1, G1, env, ov1, E, A.step s1 ok1, q1, p.step s1⟩
theorem zs_ret (he : ZEj X W e za) : ZSj X W (.Return (some e) pos) (zRet za) := by
  refine PS.imp (ps_ret he) fun D σ H ⟨t, G, env, ov, E, A, q, p⟩ => ?_
  exact ⟨t, G, env, ov, _, _, A, q, p.rt, p.xr.at A⟩
theorem zs_retF (he : ZEj X W e za) : ZSj X W (.Return (some e) pos) (zRetF za) := by
  refine PS.imp (ps_ret he) fun D σ H ⟨t, G, env, ov, E, A, q, p⟩ => ?_
  refine ⟨t, G, env, ov, _, _, A, q, fun z ov1 t1 G1 v H1 s1 ok1 r1 q1 => ?_, p.xr.at A⟩
  obtain ⟨d, ov2, e, q2⟩ := q1
  obtain ⟨G2, s2, ok2, r2⟩ := frz_ok ok1 r1 e
  exact p.rt (.d d) ov2 t1 G2 v H1 (s1.trans s2) ok2 r2 q2
theorem zs_retN : ZSj X W (.Return none pos) zRetN := PS.imp ps_retN fun D σ H ⟨t, G, env, ov, E, A, q, p⟩ => p.rt (.d .non) ov t G .non H .refl A.ok rfl q
theorem At.put {K : PySem.W.Frag} {t : Th} {G H : Hp} {env : Env} {ov : Ov} {σ : L2.St} (A : At K t G env ov σ H) {i : Nat} {z : Zv} {v : V} (e : σ[i]? = some (some v)) (r : RepZ K G t z v) : At K t G (env.set i (some z)) ov σ H := by
  have h := A.set r i
  have e2 : σ.set i (some v) = σ := by
    apply List.ext_getElem?
    intro j
    by_cases hj : i = j
    · subst hj
      rw [List.getElem?_set_self (List.getElem?_eq_some_iff.mp e).1, e]
    · rw [List.getElem?_set_ne hj]
  rwa [e2] at h
theorem zss_frz (i : Nat) {sts : List Stmt} (h : ZSsj X W sts z) : ZSsj X W sts (zFrz i z) := by
  refine PSs.imp h fun D σ H ⟨t, G, env, ov, E, A, ⟨x, d, ov1, e1, e2, q⟩, p⟩ => ?_
  obtain ⟨v, hv, r⟩ := A.sl i x e1
  obtain ⟨G2, s2, ok2, r2⟩ := frz_ok A.ok r e2
  exact ⟨t, G2, _, ov1, E, (A.step s2 ok2).put (z := .d d) hv r2, q, p.step s2⟩
/-! targets -/
theorem zg_name (i : Nat) {x : Str} {pos : Pos} (hN : X.N.Nodup) (hi : X.N[i]? = some x := by rfl) (hx : Loc X.env.scope x := by first | exact Or.inl rfl | exact Or.inr rfl)
    (hf : X.fn x = true ∨ X.env.scope.names.lookup x = some .local := by first | exact .inl rfl | exact .inr rfl | assumption) : ZGj X [i] (.Name x pos) (gVar i) := by
  refine PG.imp (pg_name hN hi hx hf) fun v σ H Q ⟨t, G, env, ov, z, Qz, A, r, q, p⟩ => ?_
  refine p _ ov t G _ H .refl (A.set r i) (by simp) (fun j hj => ?_) q
  have : i ≠ j := fun e => hj (by simp [e])
  rw [List.getElem?_set_ne this]
theorem zgs_nil : ZGsj X [] [] gNil' := by
  refine PGs.imp pgs_nil fun vs σ H Q ⟨t, G, env, ov, xs, Qz, A, r, ⟨e, q⟩, p⟩ => ?_
  subst e
  exact ⟨r, p env ov t G σ H .refl A rfl (fun _ _ => rfl) q⟩
theorem zgs_cons {es : List Expr} {g : ZG} {gs : ZGs} {o1 o2 : List Nat} (h1 : ZGj X o1 e g) (h2 : ZGsj X o2 es gs)
    (hs : (assignEach (e :: es) X.env).map (·.2) = assign e X.env :: (assignEach es X.env).map (·.2) := by rfl) : ZGsj X (o1 ++ o2) (e :: es) (gCons' g gs) := by
  refine PGs.imp (pgs_cons h1 h2 hs) fun vs σ H Q ⟨t, G, env, ov, xs, Qz, A, r, ⟨x, xr, e, q⟩, p⟩ => ?_
  subst e
  obtain ⟨v, vr, e, r1, r2⟩ := r
  subst e
  refine ⟨v, vr, rfl, t, G, env, ov, x, _, A, r1, q, fun env1 ov1 t1 G1 σ1 H1 s1 A1 l1 n1 q1 => ?_⟩
  refine ⟨t1, G1, env1, ov1, xr, _, A1, r2.mono s1, q1, fun env2 ov2 t2 G2 σ2 H2 s2 A2 l2 n2 q2 => ?_⟩
  refine p env2 ov2 t2 G2 σ2 H2 (s1.trans s2) A2 (l2.trans l1) (fun i hi => ?_) q2
  rw [List.mem_append] at hi
  rw [n2 i fun z => hi (.inr z), n1 i fun z => hi (.inl z)]
theorem zg_tup {es : List Expr} {k : Nat} {gs : ZGs} {own : List Nat} {n : Nat} (hc : X.calm = true) (h : ZGsj X own es gs) (hl : ∀ xs env ov Q, gs xs env ov Q → xs.length = n)
    (hn : (assignEach es X.env).length = n := by rfl) (hst : (assignEach es X.env).findIdx? (·.1) = none := by rfl) : ZGj X own (.Tuple es k pos) (gTup' gs) := by
  refine PG.imp (pg_tup hc h hn hst) fun v σ H Q ⟨t, G, env, ov, z, Qz, A, r, ⟨ds, e, q⟩, p⟩ => ?_
  subst e
  obtain ⟨a, xs, e, sq, l, rs⟩ := r
  have hl' := hl _ _ _ _ q
  rw [List.length_map] at hl'
  exact ⟨a, xs, e, Same.seqT A.ok.sub sq, by rw [rs.len]; exact hl', t, G, env, ov, _, Qz, A, RepZs.ofD rs, q, p⟩
theorem zs_asg {tg : Expr} {g : ZG} {own : List Nat} (he : ZEj X W e za) (hg : ZGj X own tg g) (hs : swapsWithSole [tg] e pos.line X.env = pure false := by rfl) (hw : swappedStores [tg] e X.env = pure none := by rfl)
    (h1 : (assignEach [tg] X.env).map (·.2) = [assign tg X.env] := by rfl) : ZSj X W (.Assign [tg] e pos) (zAsg za g) := by
  refine PS.imp (ps_asg he hg hs hw h1) fun D σ H ⟨t, G, env, ov, E, A, q, p⟩ => ?_
  refine ⟨t, G, env, ov, _, _, A, q, fun z ov1 t1 G1 v H1 s1 ok1 r1 q1 => ?_, p.xr.at A⟩
  exact ⟨t1, G1, env, ov1, z, _, A.step s1 ok1, r1, q1, fun env2 ov2 t2 G2 σ2 H2 s2 A2 _ _ q2 => p.nx env2 ov2 t2 G2 σ2 H2 (s1.trans s2) A2 q2⟩
end
/-! ### for -/
section
variable {X : Cx} {W : WX} {iter tg : Expr} {body : List Stmt} {zi : ZI} {g : ZG} {z : ZS} {own : List Nat} {pos : Pos}
theorem zs_for (hp : PassesOwn (model X.prog X.w) X.A X.env X.xe) (hc : X.calm = true) (hi : ZIj X W tg iter zi) (hg : ZGj X own tg g) (hb : ZSsj X W body z)
    (hs : ∀ x, foldedSetIterable iter X.env x = pure x := by intro _; rfl) : ZSj X W (.For tg iter body [] pos) (zFor zi g z) := by
  refine PS.imp (ps_for hp hc hi hg hb hs) fun D σ H ⟨t, G, env, ov, E, A, q, p⟩ => ?_
  refine ⟨t, G, env, ov, _, _, A, q, fun items ov1 t1 G1 J H1 s1 ok1 hd wk q1 => ?_, p.xr.at A⟩
  have A1 := A.step s1 ok1
  refine ⟨fun i m σ' H' => m = items.length - i ∧ i ≤ items.length ∧ ∃ t2 G2 env2 ov2, Stp t1 G1 H1 t2 G2 H' ∧ At X.K t2 G2 env2 ov2 σ' H' ∧ ov2.length = ov1.length ∧ zLoop g z ov1.length (items.drop i) E env2 ov2, ⟨items.length, by simp, Nat.zero_le _, t1, G1, env, ov1, .refl, A1, rfl, by simpa using q1⟩, ?_⟩
  rintro i m σ' H' ⟨rfl, hi', t2, G2, env2, ov2, s2, A2, lo, ql⟩
  obtain ⟨wy, ws⟩ := wk G2 H' s2.g A2.ok.sub
  by_cases hlt : i < items.length
  · have hx : items[i]? = some items[i] := List.getElem?_eq_getElem hlt
    have hdrop : items.drop i = items[i] :: items.drop (i + 1) := (List.getElem_cons_drop hlt).symm
    rw [hdrop] at ql
    refine .inr ⟨(wy i _ hx).1, fun σ3 H3 => ∃ t3 G3 env3 ov3, Stp t1 G1 H1 t3 G3 H3 ∧ At X.K t3 G3 env3 ov3 σ3 H3 ∧ ov3.length = ov1.length ∧ zLoop g z ov1.length (items.drop (i + 1)) E env3 ov3, fun σ3 H3 h => ⟨items.length - (i + 1), by omega, rfl, hlt, h⟩, fun x H3 hy => ?_⟩
    obtain ⟨G3, gr, rx⟩ := (wy i _ hx).2 x H3 hy
    obtain ⟨d, hd'⟩ := hd items[i] (List.getElem_mem hlt)
    have A3 : At X.K t2 G3 env2 ov2 σ' H3 := A2.step gr.stp (A2.ok.grow gr)
    refine ⟨t2, G3, env2, ov2, items[i], _, A3, by rw [hd'] at rx ⊢; exact rx, ql, fun env4 ov4 t4 G4 σ4 H4 s4 A4 _ _ q4 => ?_⟩
    have s14 : Stp t1 G1 H1 t4 G4 H4 := (s2.trans gr.stp).trans s4
    have lad : t1.ad.length = ov1.length := ok1.len
    have back : ∀ env5 ov5 t5 G5 σ5 H5, Stp t4 G4 H4 t5 G5 H5 → At X.K t5 G5 env5 ov5 σ5 H5 → (ov5.take ov1.length).all (OO.below ov1.length) = true ∧ zLoop g z ov1.length (items.drop (i + 1)) E (cutE ov1.length env5) (ov5.take ov1.length) →
        ∃ t3 G3 env3 ov3, Stp t1 G1 H1 t3 G3 H5 ∧ At X.K t3 G3 env3 ov3 σ5 H5 ∧ ov3.length = ov1.length ∧ zLoop g z ov1.length (items.drop (i + 1)) E env3 ov3 := fun env5 ov5 t5 G5 σ5 H5 s5 A5 q5 => by
      have s15 := s14.trans s5
      have l5 : ov1.length ≤ ov5.length := by
        rw [← lad, ← A5.ok.len]
        by_cases h0 : t1.ad.length = 0
        · omega
        · have hl : t1.ad.length - 1 < t1.ad.length := by omega
          have := s15.ad (t1.ad.length - 1) _ (List.getElem?_eq_getElem hl)
          have := (List.getElem?_eq_some_iff.mp this).1
          omega
      exact ⟨t5.cut ov1.length, G5, _, _, s15.cut (Nat.le_of_eq lad), A5.cut q5.1, by rw [List.length_take]; omega, q5.2⟩
    have p14 := (p.step s1).step s14
    exact ⟨t4, G4, env4, ov4, _, A4, q4, ⟨fun env5 ov5 t5 G5 σ5 H5 s5 A5 q5 => back env5 ov5 t5 G5 σ5 H5 s5 A5 q5, p14.rt, fun env5 ov5 t5 G5 σ5 H5 s5 A5 q5 => p14.nx env5 ov5 t5 G5 σ5 H5 s5 A5 q5, fun env5 ov5 t5 G5 σ5 H5 s5 A5 q5 => back env5 ov5 t5 G5 σ5 H5 s5 A5 q5, p14.xr⟩⟩
  · have e : i = items.length := by omega
    subst e
    rw [List.drop_length] at ql
    exact .inl ⟨ws, (p.step s1).nx env2 ov2 t2 G2 σ' H' s2 A2 ql⟩
end
/-! ### what is walked -/
section
variable {X : Cx} {W : WX} {e a b tg : Expr} {za zb : ZE} {pos : Pos}
theorem mem_mapD {ds : List D} : ∀ z ∈ ds.map Zv.d, ∃ x, z = .d x := fun z h => by
  obtain ⟨x, _, rfl⟩ := List.mem_map.mp h
  exact ⟨x, rfl⟩
theorem RepZ.nil {K : PySem.W.Frag} {G : Hp} {d : D} {v : V} (h : Rep K G d v) : RepZ K G ⟨[], none⟩ (.d d) v := h
theorem zi_lst (hl : ZEj X W e za) : ZIj X W tg e (ziLst za) := by
  refine PI.imp (pi_list hl) fun σ H R ⟨t, G, env, ov, Qz, Ez, A, q, pe, px⟩ => ?_
  refine ⟨t, G, env, ov, _, Ez, A, q, fun x ov1 t1 G1 v H1 s1 ok1 r1 q1 => ?_, px⟩
  obtain ⟨ds, rfl, q1⟩ := q1
  obtain ⟨a, xs, rfl, ha, l, rs⟩ := r1
  refine ⟨a, rfl, ⟨xs, SqL.of (ok1.sub _ _ ha)⟩, pe _ ov1 t1 G1 (Itl X.K a) H1 s1 ok1 mem_mapD (fun G' H' sg sh => ⟨fun i z hz => ?_, ?_⟩) q1⟩
  · rw [List.getElem?_map] at hz
    cases hd : ds[i]? with
    | none => rw [hd] at hz; cases hz
    | some d =>
      rw [hd] at hz
      have hz : z = .d d := by cases hz; rfl
      subst hz
      obtain ⟨v, hv, rv⟩ := rs.get hd
      have hs : SqL X.K H' a xs := SqL.of (sh _ _ (sg _ _ ha))
      refine ⟨⟨xs, v, hs, hv⟩, fun x H2 hy => ?_⟩
      obtain ⟨rfl, hy⟩ := hy
      have : v = x := Option.some.inj (hv.symm.trans (hy xs hs))
      subst this
      exact ⟨G', .refl sh, Rep.mono sg rv⟩
  · rw [List.length_map]
    exact ⟨xs, SqL.of (sh _ _ (sg _ _ ha)), by rw [rs.len]; exact Nat.le_refl _⟩
theorem zi_tup (hl : ZEj X W e za) : ZIj X W tg e (ziTup za) := by
  refine PI.imp (pi_tup hl) fun σ H R ⟨t, G, env, ov, Qz, Ez, A, q, pe, px⟩ => ?_
  refine ⟨t, G, env, ov, _, Ez, A, q, fun x ov1 t1 G1 v H1 s1 ok1 r1 q1 => ?_, px⟩
  obtain ⟨ds, rfl, q1⟩ := q1
  obtain ⟨a, xs, rfl, ha, l, rs⟩ := r1
  refine ⟨a, rfl, ⟨xs, Same.seqT ok1.sub ha⟩, pe _ ov1 t1 G1 (Itt X.K a) H1 s1 ok1 mem_mapD (fun G' H' sg sh => ⟨fun i z hz => ?_, ?_⟩) q1⟩
  · rw [List.getElem?_map] at hz
    cases hd : ds[i]? with
    | none => rw [hd] at hz; cases hz
    | some d =>
      rw [hd] at hz
      have hz : z = .d d := by cases hz; rfl
      subst hz
      obtain ⟨v, hv, rv⟩ := rs.get hd
      have hs : SqT X.K H' a xs := Same.seqT sh (Same.seqT sg ha)
      refine ⟨⟨xs, v, hs, hv⟩, fun x H2 hy => ?_⟩
      obtain ⟨rfl, hy⟩ := hy
      have : v = x := Option.some.inj (hv.symm.trans (hy xs hs))
      subst this
      exact ⟨G', .refl sh, Rep.mono sg rv⟩
  · rw [List.length_map]
    exact ⟨xs, Same.seqT sh (Same.seqT sg ha), by rw [rs.len]; exact Nat.le_refl _⟩
theorem mem_rng {lo : Int} {n : Nat} : ∀ z ∈ rngL lo n, ∃ x, z = .d x := fun z h => by
  obtain ⟨x, _, rfl⟩ := List.mem_map.mp h
  exact ⟨_, rfl⟩
theorem walks_rng {K : PySem.W.Frag} {lo : Int} {n : Nat} {G : Hp} : Walks K (Itr lo n) ⟨[], none⟩ G (rngL lo n) := fun G' H' sg sh => by
  refine ⟨fun i z hz => ?_, by show n ≤ _; simp [rngL]⟩
  unfold rngL at hz
  rw [List.getElem?_map] at hz
  by_cases hi : i < n
  · rw [List.getElem?_range hi] at hz
    have hz : z = .d (.int (lo + i)) := by cases hz; rfl
    subst hz
    exact ⟨hi, fun x H2 hy => by obtain ⟨rfl, rfl⟩ := hy; exact ⟨G', .refl sh, rfl⟩⟩
  · rw [List.getElem?_eq_none (by simpa using hi)] at hz; cases hz
theorem vals_ints {K : PySem.W.Frag} {G : Hp} {t : Th} {j : Int} {vs : List V} (h : RepZs K G t [.d (.int j)] vs) : vs = [.int j] := by
  obtain ⟨v, r, e, h1, h2⟩ := h
  have h1 : v = _ := h1
  have h2 : r = _ := h2
  subst h1 h2 e; rfl
theorem vals_ints2 {K : PySem.W.Frag} {G : Hp} {t : Th} {i j : Int} {vs : List V} (h : RepZs K G t [.d (.int i), .d (.int j)] vs) : vs = [.int i, .int j] := by
  obtain ⟨v, r, e, h1, h2⟩ := h
  have h1 : v = _ := h1
  have h2 := vals_ints h2
  subst h1 h2 e; rfl
theorem zi_rng1 {p : Pos} {zr : ZA} (ha : ZAj X W [a] zr) (hm : X.mg "range" = none) (hg : Gl X "range" := by rfl) (hs : starEach [a] X.env = [(false, eval a X.env)] := by rfl) : ZIj X W tg (.Call (.Name "range" p) [a] [] pos) (ziRng1 zr) := by
  refine PI.imp (pi_range1 hg hm ha hs) fun σ H R ⟨t, G, env, ov, Qz, Ez, A, q, pe, px⟩ => ?_
  refine ⟨t, G, env, ov, _, Ez, A, q, fun xs ov1 t1 G1 vs H1 s1 ok1 r1 q1 => ?_, px⟩
  obtain ⟨j, e, hj, hj2, q1⟩ := q1
  subst e
  exact ⟨j, vals_ints r1, by omega, by omega, pe _ ov1 t1 G1 (Itr 0 j.toNat) H1 s1 ok1 mem_rng walks_rng q1⟩
theorem zi_rng2 {p : Pos} {zr : ZA} (ha : ZAj X W [a, b] zr) (hm : X.mg "range" = none) (hg : Gl X "range" := by rfl) (hs : starEach [a, b] X.env = [(false, eval a X.env), (false, eval b X.env)] := by rfl) (hs2 : starEach [b] X.env = [(false, eval b X.env)] := by rfl) : ZIj X W tg (.Call (.Name "range" p) [a, b] [] pos) (ziRng2 zr) := by
  refine PI.imp (pi_range2 hg hm ha hs hs2) fun σ H R ⟨t, G, env, ov, Qz, Ez, A, q, pe, px⟩ => ?_
  refine ⟨t, G, env, ov, _, Ez, A, q, fun xs ov1 t1 G1 vs H1 s1 ok1 r1 q1 => ?_, px⟩
  obtain ⟨i, j, e, hi, hj, q1⟩ := q1
  subst e
  exact ⟨i, j, vals_ints2 r1, ⟨by omega, by omega, by omega, by omega⟩, pe _ ov1 t1 G1 (Itr i (j - i).toNat) H1 s1 ok1 mem_rng walks_rng q1⟩
end
end Z
namespace Z
open PySem PySem.Spec PyProof.Rows L2
/-! ### a def keeps its contract -/
def PostXK (K : PySem.W.Frag) (t : Th) (G H : Hp) (Ez : QX) (E : XK) : Prop :=
  ∀ (x : Xc) (ov' : Ov) (t' : Th) (G' : Hp) (cls : Value) (d : Option Addr) (H' : Hp), Stp t G H t' G' H' → Ok K t' G' ov' H' → RepX K G' x cls d → Ez x ov' → E cls d H'
def lift (K : PySem.W.Frag) (zs : ZSp) : Sp := fun vs H Q E => ∃ t G ov zz Qz Ez, Ok K t G ov H ∧ RepZs K G t zz vs ∧ zs zz ov Qz Ez ∧ PostE K t G H Qz Q ∧ PostXK K t G H Ez E
/-- what is wanted behind a body: the younger overlay objects are let go -/
def zend (k : Nat) (Q : QE) (E : QX) : En where
  nx := fun _ ov' => (ov'.take k).all (OO.below k) = true ∧ Q (.d .non) (ov'.take k)
  rt := fun z ov' => z.below k = true ∧ (ov'.take k).all (OO.below k) = true ∧ Q z (ov'.take k)
  xr := fun x _ ov' => (ov'.take k).all (OO.below k) = true ∧ E x (ov'.take k)
def startE (n : Nat) (zz : List Zv) : Env := zz.map some ++ List.replicate (n - zz.length) none
theorem at_start {K : PySem.W.Frag} {t : Th} {G H : Hp} {ov : Ov} {zz : List Zv} {vs : List V} {N : List Str} (ok : Ok K t G ov H) (r : RepZs K G t zz vs) : At K t G (startE N.length zz) ov (L2.start N vs) H := by
  refine ⟨ok, ?_, fun i z e => ?_⟩
  · unfold startE L2.start
    simp [r.len]
  · have get : ∀ {zz : List Zv} {vs : List V} {i : Nat} {z : Zv}, RepZs K G t zz vs → zz[i]? = some z → ∃ v, vs[i]? = some v ∧ RepZ K G t z v := by
      intro zz
      induction zz with
      | nil => intro vs i z _ e; simp at e
      | cons y ys ih =>
        intro vs i z r e
        obtain ⟨v, rr, e1, h1, h2⟩ := r
        subst e1
        cases i with
        | zero => simp at e; subst e; exact ⟨v, rfl, h1⟩
        | succ i => obtain ⟨u, q1, q2⟩ := ih h2 (i := i) (by simpa using e); exact ⟨u, by simpa using q1, q2⟩
    unfold startE at e
    by_cases hi : i < zz.length
    · rw [List.getElem?_append_left (by simpa using hi), List.getElem?_map] at e
      cases hz : zz[i]? with
      | none => rw [hz] at e; cases e
      | some y =>
        rw [hz] at e
        have e : y = z := by simpa using e
        subst e
        obtain ⟨v, h1, h2⟩ := get r hz
        refine ⟨v, ?_, h2⟩
        unfold L2.start
        rw [List.getElem?_append_left (by simp [r.len, hi]), List.getElem?_map, h1]
        rfl
    · rw [List.getElem?_append_right (by simpa using hi), List.getElem?_replicate] at e
      split at e <;> cases e
/-- a contract by the body's reading -/
theorem lift_body {K : PySem.W.Frag} {zs : ZSp} {z : ZS} {N : List Str} {vs : List V} {H : Hp} {Q : VK} {E : XK} (hz : ∀ zz ov Qz Ez, zs zz ov Qz Ez → z (zend ov.length Qz Ez) (startE N.length zz) ov) (h : lift K zs vs H Q E) :
    tzs K (fun cls d _ H' => E cls d H') z { nx := fun _ H' => Q .non H', rt := Q } (L2.start N vs) H := by
  obtain ⟨t, G, ov, zz, Qz, Ez, ok, r, q, pe, px⟩ := h
  have len : t.ad.length ≤ ov.length := Nat.le_of_eq ok.len
  refine ⟨t, G, startE N.length zz, ov, _, at_start ok r, hz zz ov Qz Ez q, ⟨fun env' ov' t' G' σ' H' s A q => ?_, fun x ov' t' G' v H' s ok' r' q => ?_, fun env' ov' t' G' σ' H' s A q => q.elim, fun env' ov' t' G' σ' H' s A q => q.elim, fun x env' ov' t' G' cls d σ' H' s A rx q => ?_⟩⟩
  · exact pe (.d .non) _ _ G' .non H' (s.cut len) (A.ok.cut q.1) rfl q.2
  · exact pe x _ _ G' v H' (s.cut len) (ok'.cut q.2.1) (r'.cut q.1) q.2.2
  · exact px x _ _ G' cls d H' (s.cut len) (A.ok.cut q.1) rx q.2
/-- a def of the module -/
structure Gf (P : Program) (w : World) (K : PySem.W.Frag) (mg : Str → Option Value) (base : Heap) (x : Str) (k : Nat) (ps : List Str) (zs : ZSp) : Prop where
  ex : ∃ f fd, mg x = some (.ref f) ∧ PySem.W.keepIn K (.ref f) = true ∧ Binds K fd ps [] ∧ FnOk P w K mg base (L2.CX P w) k f fd ps (lift K zs)
theorem FnOk.of_z {P : Program} {w : World} {K : PySem.W.Frag} {mg : Str → Option Value} {base : Heap} {x qual : Str} {params : Arguments} {body : List Stmt} {scope : Scope} {dvs : List V} {kws : List (Str × V)} {f : Addr} {fd : FuncData} {N ps : List Str} {k : Nat} {zs : ZSp} {z : ZS}
    (F : FunD K x qual params body scope dvs kws f fd) (S : FnScope N ps scope) (len : ∀ zz ov Q E, zs zz ov Q E → zz.length = ps.length)
    (hb : ∀ (cdv : Value) (A : Around) (outer : List PySem.Env) (s : Shared) (H : Hp) (E : XK), Room k (A.deeper (envOfC qual scope s.heap.objs.size f cdv)) →
      ZSsj (cxOf (L2.CX P w) P w K mg base N qual scope f cdv A outer s H E) (fun cls d _ H' => E cls d H') body z)
    (hz : ∀ zz ov Qz Ez, zs zz ov Qz Ez → z (zend ov.length Qz Ez) (startE N.length zz) ov) : FnOk P w K mg base (L2.CX P w) (k + 1) f fd ps (lift K zs) := by
  refine F.ok S (fun vs H Q E h => ?_) fun cdv A outer s H vs Q E hr h => ⟨_, hb cdv A outer s H E hr, lift_body hz h⟩
  obtain ⟨t, G, ov, zz, Qz, Ez, ok, r, q, _⟩ := h
  rw [r.len]
  exact len zz ov Qz Ez q
/-! ### calls -/
section
variable {K : PySem.W.Frag} {t t' : Th} {G G' H H' : Hp} {ov ov' : Ov}
theorem own_c {d : Option (Addr × Addr × Addr)} {a : Addr} (h : (Th.mk [] d).own a) (e : t.dw = d) : t.own a := by
  rcases h with h | h
  · cases h
  · exact .inr (by rw [e]; exact h)
theorem not_own_c (ok : Ok K t G ov H) {a : Addr} (h : a ∈ t.ad) : ¬ (Th.mk [] t.dw).own a := fun h' => by
  rcases h' with h' | ⟨x, e, h'⟩
  · cases h'
  · obtain ⟨_, _, _, _, q1, q2, q3⟩ := ok.dw x e
    rcases h' with z | z | z
    · exact q1 (z ▸ h)
    · exact q2 (z ▸ h)
    · exact q3 (z ▸ h)
theorem RepZ.isD {z : Zv} {v : V} (h : RepZ K G t z v) (hd : z.isD = true) (ad : List Addr) : RepZ K G ⟨ad, t.dw⟩ z v := by
  cases z with
  | d x => exact h
  | r n => cases hd
  | dw => exact h
  | sc ns => exact h
theorem RepZs.isD (ad : List Addr) : ∀ {zs : List Zv} {vs : List V}, RepZs K G t zs vs → zs.all Zv.isD = true → RepZs K G ⟨ad, t.dw⟩ zs vs
  | [], _, h, _ => h
  | z :: zs, _, ⟨v, r, e1, h, hr⟩, hb => by
    rw [List.all_cons, Bool.and_eq_true] at hb
    exact ⟨v, r, e1, h.isD hb.1 ad, RepZs.isD ad hr hb.2⟩
theorem Ok.callee (ok : Ok K t G ov H) : Ok K ⟨[], t.dw⟩ G [] H :=
  ⟨rfl, ok.sub, fun a h => (List.not_mem_nil h).elim, fun n o a h => (by simp at h), List.nodup_nil, fun x hx => let ⟨d, e1, e2, e3, _⟩ := ok.dw x hx; ⟨d, e1, e2, e3, by simp, by simp, by simp⟩⟩
theorem Stp.caller (ok : Ok K t G ov H) (s : Stp ⟨[], t.dw⟩ G H t' G' H') : Stp t G H ⟨t.ad, t'.dw⟩ G' H' := by
  have nc : ∀ a, ¬ t.own a → ¬ (Th.mk [] t.dw).own a := fun a n h => n (own_c h rfl)
  refine ⟨s.g, fun a o h n => s.fr a o h (nc a n), fun a o h g n => s.nw a o h g (nc a n), fun _ _ h => h, s.dw, fun a h n => ?_⟩
  rcases h with h | h
  · exact (n (.inl h)).elim
  · exact s.fs a (.inr h) (nc a n)
theorem RepZ.th {G2 : Hp} {t2 : Th} (s : Same G G2) (ha : ∀ (n : Nat) a, t.ad[n]? = some a → t2.ad[n]? = some a) (hd : ∀ x, t.dw = some x → t2.dw = some x) {z : Zv} {v : V} (h : RepZ K G t z v) : RepZ K G2 t2 z v := by
  cases z with
  | d x => exact Rep.mono s h
  | r n => obtain ⟨a, e, q⟩ := h; exact ⟨a, ha n a e, q⟩
  | dw => obtain ⟨x, e, q⟩ := h; exact ⟨x, hd x e, q⟩
  | sc ns => obtain ⟨a, e, q⟩ := h; exact ⟨a, e, s.seq q⟩
theorem RepZs.th {G2 : Hp} {t2 : Th} (s : Same G G2) (ha : ∀ (n : Nat) a, t.ad[n]? = some a → t2.ad[n]? = some a) (hd : ∀ x, t.dw = some x → t2.dw = some x) : ∀ {zs : List Zv} {vs : List V}, RepZs K G t zs vs → RepZs K G2 t2 zs vs
  | [], _, h => h
  | _ :: _, _, ⟨v, r, e1, h, hr⟩ => ⟨v, r, e1, h.th s ha hd, RepZs.th s ha hd hr⟩
theorem RepZk.th {κ : Type} {G2 : Hp} {t2 : Th} (s : Same G G2) (ha : ∀ (n : Nat) a, t.ad[n]? = some a → t2.ad[n]? = some a) (hd : ∀ x, t.dw = some x → t2.dw = some x) : ∀ {zs : List (κ × Zv)} {vs : List (κ × V)}, RepZk K G t zs vs → RepZk K G2 t2 zs vs
  | [], _, h => h
  | (_, _) :: _, _, ⟨v, r, e1, h, hr⟩ => ⟨v, r, e1, h.th s ha hd, RepZk.th s ha hd hr⟩
theorem RepO.th {G2 : Hp} {t2 : Th} (s : Same G G2) (ha : ∀ (n : Nat) a, t.ad[n]? = some a → t2.ad[n]? = some a) (hd : ∀ x, t.dw = some x → t2.dw = some x) {o : OO} {u : HO} (h : RepO K G t o u) : RepO K G2 t2 o u := by
  cases o with
  | gone => trivial
  | lst zs => obtain ⟨xs, e, l, r⟩ := h; exact ⟨xs, e, l, r.th s ha hd⟩
  | dic kvs => obtain ⟨xs, e, r⟩ := h; exact ⟨xs, e, r.th s ha hd⟩
  | ins c fs => obtain ⟨dx, xs, e, r⟩ := h; exact ⟨dx, xs, e, r.th s ha hd⟩
theorem Ok.caller (ok : Ok K t G ov H) (s : Stp ⟨[], t.dw⟩ G H t' G' H') (ok' : Ok K t' G' ov' H') : Ok K ⟨t.ad, t'.dw⟩ G' ov H' := by
  refine ⟨ok.len, ok'.sub, fun a h => ?_, fun n o a h1 h2 h3 => ?_, ok.nd, fun x hx => ?_⟩
  · obtain ⟨u, e⟩ := ok.thr a h
    exact ⟨u, s.fr a u e (not_own_c ok h)⟩
  · have hm : a ∈ t.ad := List.mem_of_getElem? h2
    obtain ⟨e, u, hu, r⟩ := ok.ob n o a h1 h2 h3
    exact ⟨s.nw a u hu e (not_own_c ok hm), u, s.fr a u hu (not_own_c ok hm), RepO.th (t := t) (t2 := ⟨t.ad, t'.dw⟩) s.g (fun _ _ h => h) s.dw r⟩
  · obtain ⟨d, e1, e2, e3, _⟩ := ok'.dw x hx
    have nad : ∀ b, (b = x.1 ∨ b = x.2.1 ∨ b = x.2.2) → b ∉ t.ad := fun b hb hm => by
      obtain ⟨u, hu⟩ := ok.thr b hm
      have := s.fs b (.inr ⟨x, hx, hb⟩) (not_own_c ok hm)
      rw [hu] at this; cases this
    exact ⟨d, e1, e2, e3, nad _ (.inl rfl), nad _ (.inr (.inl rfl)), nad _ (.inr (.inr rfl))⟩
/-- a call's contract from the caller's state -/
theorem lift_call {zs : ZSp} {xs : List Zv} {vs : List V} {Qz : QE} {Ez : QX} {Q : VK} {E : XK} (ok : Ok K t G ov H) (r : RepZs K G t xs vs) (hd : xs.all Zv.isD = true)
    (h : zs xs [] (fun x _ => x.isD = true ∧ Qz x ov) fun x _ => Ez x ov) (pe : PostE K t G H Qz Q)
    (px : ∀ (x : Xc) (t' : Th) (G' : Hp) (cls : Value) (d : Option Addr) (H' : Hp), Stp t G H t' G' H' → Ok K t' G' ov H' → RepX K G' x cls d → Ez x ov → E cls d H') : lift K zs vs H Q E := by
  refine ⟨⟨[], t.dw⟩, G, [], xs, _, _, ok.callee, r.isD [] hd, h, fun z ov' t' G' v H' s ok' rz q => ?_, fun x ov' t' G' cls d H' s ok' rx q => ?_⟩
  · exact pe z ov ⟨t.ad, t'.dw⟩ G' v H' (Stp.caller ok s) (Ok.caller ok s ok') (rz.isD q.1 _) q.2
  · exact px x ⟨t.ad, t'.dw⟩ G' cls d H' (Stp.caller ok s) (Ok.caller ok s ok') rx q
end
section
variable {X : Cx} {W : WX} {k : Nat} {x : Str} {ps : List Str} {sp : ZSp} {e : Expr} {es : List Expr} {za : ZA} {p pos : Pos}
theorem ze_call (F : Gf X.prog X.w X.K X.mg X.base x k ps sp) (tk : Takes X W) (hr : Room k X.A) (ha : ZAj X W (e :: es) za) (hg : Gl X x := by rfl) (hdb : (x == ("__debug__" : Str)) = false := by decide)
    (he : starEach (e :: es) X.env = (false, eval e X.env) :: starEach es X.env := by rfl) (hpl : (backTo pos (starEach es X.env)).any (·.1) = false := by rfl) : ZEj X W (.Call (.Name x p) (e :: es) [] pos) (zCall sp za) := by
  obtain ⟨f, fd, hm, hk, hb, F⟩ := F.ex
  refine PE.imp (pe_callS (E := WE W) F hr hg hm hk hb (fun σ => passAt tk σ) ha hdb he hpl) fun σ H Q ⟨t, G, env, ov, Qz, Ez, A, q, pe, px⟩ => ?_
  refine ⟨t, G, env, ov, _, Ez, A, q, fun xs ov1 t1 G1 vs H1 s1 ok1 r1 q1 => ?_, px⟩
  exact lift_call ok1 r1 q1.1 q1.2 (pe.step s1) fun y t' G' cls d H' s ok' rx q => px.step s1 y ov1 t' G' cls d H' s ok' rx q
end
end Z
namespace Z
open PySem PySem.Spec PyProof.Rows L2
/-! ### data, compared -/
mutual
def eqD : D → D → Bool
  | .non, .non => true
  | .bl a, .bl b => a == b
  | .bl a, .int j => (if a then 1 else 0) == j
  | .int i, .bl b => i == (if b then 1 else 0)
  | .int i, .int j => i == j
  | .str x, .str y => x == y
  | .lst xs, .lst ys => eqDs xs ys
  | .tup xs, .tup ys => eqDs xs ys
  | _, _ => false
def eqDs : List D → List D → Bool
  | [], [] => true
  | x :: xs, y :: ys => eqD x y && eqDs xs ys
  | [], _ :: _ => false
  | _ :: _, [] => false
end
mutual
/-- no dict, no instance; at most so deep -/
def shD : Nat → D → Bool
  | _, .non => true
  | _, .bl _ => true
  | _, .int _ => true
  | _, .str x => PyData.strOk x
  | n, .tup ds => match n with
    | 0 => false
    | n + 1 => shDs n ds
  | n, .lst ds => match n with
    | 0 => false
    | n + 1 => shDs n ds
  | _, .dic _ => false
  | _, .obj _ _ => false
def shDs : Nat → List D → Bool
  | _, [] => true
  | n, d :: ds => shD n d && shDs n ds
end
mutual
def toP : D → PyData
  | .non => .none
  | .bl b => .bool b
  | .int i => .int i
  | .str x => .str x
  | .tup ds => .tuple (toPs ds)
  | .lst ds => .list (toPs ds)
  | .dic _ => .dict []
  | .obj _ _ => .dict []
def toPs : List D → List PyData
  | [] => []
  | d :: ds => toP d :: toPs ds
end
mutual
theorem eqv_toP : ∀ (x y : D), PyData.eqv (toP x) (toP y) = eqD x y
  | .non, y => by cases y <;> simp [toP, PyData.eqv, eqD]
  | .bl _, y => by cases y <;> simp [toP, PyData.eqv, eqD]
  | .int _, y => by cases y <;> simp [toP, PyData.eqv, eqD]
  | .str _, y => by cases y <;> simp [toP, PyData.eqv, eqD]
  | .tup xs, y => by cases y <;> simp [toP, PyData.eqv, eqD, eqv_toPs xs]
  | .lst xs, y => by cases y <;> simp [toP, PyData.eqv, eqD, eqv_toPs xs]
  | .dic _, y => by cases y <;> simp [toP, PyData.eqv, eqD]
  | .obj _ _, y => by cases y <;> simp [toP, PyData.eqv, eqD]
theorem eqv_toPs : ∀ (xs ys : List D), PyData.eqvAll (toPs xs) (toPs ys) = eqDs xs ys
  | [], [] => by simp [toPs, PyData.eqvAll, eqDs]
  | [], _ :: _ => by simp [toPs, PyData.eqvAll, eqDs]
  | _ :: _, [] => by simp [toPs, PyData.eqvAll, eqDs]
  | x :: xs, y :: ys => by simp [toPs, PyData.eqvAll, eqDs, eqv_toP x y, eqv_toPs xs ys]
end
mutual
theorem lay_toP : ∀ (n : Nat) (x : D), shD n x = true → (toP x).canLay0 = true ∧ (toP x).depth ≤ n
  | n, .non, _ => by simp [toP, PyData.canLay0, PyData.depth]
  | n, .bl _, _ => by simp [toP, PyData.canLay0, PyData.depth]
  | n, .int _, _ => by simp [toP, PyData.canLay0, PyData.depth]
  | n, .str x, h => ⟨by simpa [toP, PyData.canLay0, shD] using h, by simp [toP, PyData.depth]⟩
  | 0, .tup ds, h => by simp [shD] at h
  | n + 1, .tup ds, h => by
    have h' : shDs n ds = true := by simpa [shD] using h
    obtain ⟨h1, h2⟩ := lay_toPs n ds h'
    refine ⟨by simp [toP, PyData.canLay0, h1], ?_⟩
    simp only [toP, PyData.depth]; omega
  | 0, .lst ds, h => by simp [shD] at h
  | n + 1, .lst ds, h => by
    have h' : shDs n ds = true := by simpa [shD] using h
    obtain ⟨h1, h2⟩ := lay_toPs n ds h'
    refine ⟨by simp [toP, PyData.canLay0, h1], ?_⟩
    simp only [toP, PyData.depth]; omega
  | n, .dic _, h => by simp [shD] at h
  | n, .obj _ _, h => by simp [shD] at h
theorem lay_toPs : ∀ (n : Nat) (xs : List D), shDs n xs = true → PyData.canLayAll0 (toPs xs) = true ∧ PyData.depthAll (toPs xs) ≤ n
  | n, [], _ => by simp [toPs, PyData.canLayAll0, PyData.depthAll]
  | n, x :: xs, h => by
    rw [shDs, Bool.and_eq_true] at h
    obtain ⟨a, b⟩ := lay_toP n x h.1
    obtain ⟨c, d⟩ := lay_toPs n xs h.2
    refine ⟨by simp [toPs, PyData.canLayAll0, a, c], ?_⟩
    simp only [toPs, PyData.depthAll]; omega
end
section
variable {K : PySem.W.Frag} {H : Hp}
mutual
theorem Rep.dp : ∀ {n : Nat} {d : D} {v : V}, shD n d = true → Rep K H d v → Dp K H v (toP d)
  | _, .non, _, _, h => by have h : _ = _ := h; subst h; exact .non
  | _, .bl b, _, _, h => by have h : _ = _ := h; subst h; exact .bl b
  | _, .int b, _, _, h => by have h : _ = _ := h; subst h; exact .int b
  | _, .str b, _, _, h => by have h : _ = _ := h; subst h; exact .str b
  | 0, .tup ds, _, s, _ => by simp [shD] at s
  | n + 1, .tup ds, _, s, ⟨a, xs, e, h, l, r⟩ => by subst e; exact .tup h (Reps.dp (n := n) (by simpa [shD] using s) r)
  | 0, .lst ds, _, s, _ => by simp [shD] at s
  | n + 1, .lst ds, _, s, ⟨a, xs, e, h, l, r⟩ => by subst e; exact .lst (SqL.of h) (Reps.dp (n := n) (by simpa [shD] using s) r)
  | _, .dic _, _, s, _ => by simp [shD] at s
  | _, .obj _ _, _, s, _ => by simp [shD] at s
theorem Reps.dp : ∀ {n : Nat} {ds : List D} {vs : List V}, shDs n ds = true → Reps K H ds vs → DpAll K H vs (toPs ds)
  | _, [], _, _, h => by have h : _ = _ := h; subst h; exact .nil
  | n, d :: ds, _, s, ⟨v, r, e, h, hr⟩ => by
    subst e
    rw [shDs, Bool.and_eq_true] at s
    exact .cons (Rep.dp s.1 h) (Reps.dp s.2 hr)
end
end
theorem shaped_of {d : D} (h : shD 40 d = true) : SeqAt.shaped (toP d) = true := by
  obtain ⟨a, b⟩ := lay_toP 40 d h
  unfold SeqAt.shaped
  rw [Bool.and_eq_true, decide_eq_true_eq]
  exact ⟨a, by omega⟩
def dEq : DTs := fun x y Q => match x, y with
  | .str a, .str b => Q (decide (a = b))
  | x, y => shD 40 x = true ∧ shD 40 y = true ∧ Q (eqD x y)
def dNe : DTs := fun x y Q => match x, y with
  | .str a, .str b => Q (!decide (a = b))
  | x, y => shD 40 x = true ∧ shD 40 y = true ∧ Q (!eqD x y)
def rEqZ (K : PySem.W.Frag) : R2 := fun x y H Q => rEqD K x y H Q ∨ rEq x y H Q
def rNeZ (K : PySem.W.Frag) : R2 := fun x y H Q => rNeD K x y H Q ∨ rNe x y H Q
theorem op_eqZ {X : Cx} (hu : X.A.units + 64 < cLine) : OpR X (compareOp .Eq) (rEqZ X.K) := (op_eqD hu).or op_eq
theorem op_neZ {X : Cx} (hu : X.A.units + 64 < cLine) : OpR X (compareOp .NotEq) (rNeZ X.K) := (op_neD hu).or op_ne
theorem dEq_cases {x y : D} {Q : Bool → Prop} (h : dEq x y Q) : (∃ a b, x = .str a ∧ y = .str b ∧ Q (decide (a = b))) ∨ (shD 40 x = true ∧ shD 40 y = true ∧ Q (eqD x y)) := by
  unfold dEq at h
  split at h
  · exact .inl ⟨_, _, rfl, rfl, h⟩
  · exact .inr h
theorem dNe_cases {x y : D} {Q : Bool → Prop} (h : dNe x y Q) : (∃ a b, x = .str a ∧ y = .str b ∧ Q (!decide (a = b))) ∨ (shD 40 x = true ∧ shD 40 y = true ∧ Q (!eqD x y)) := by
  unfold dNe at h
  split at h
  · exact .inl ⟨_, _, rfl, rfl, h⟩
  · exact .inr h
theorem dec_str' {a b : Str} : decide (V.str a = V.str b) = decide (a = b) := by
  by_cases h : a = b
  · subst h; simp
  · rw [decide_eq_false h, decide_eq_false fun z => h (V.str.inj z)]
theorem cmp_eq {K : PySem.W.Frag} : CmpZ K (rEqZ K) dEq := by
  intro G H x y v u P Q s rx ry h k
  rcases dEq_cases h with ⟨a, b, rfl, rfl, p⟩ | ⟨h1, h2, p⟩
  · have e1 : v = .str a := rx
    have e2 : u = .str b := ry
    subst e1 e2
    exact .inr ⟨rfl, by rw [dec_str']; exact k _ G H p (.refl s)⟩
  · exact .inl ⟨toP x, toP y, Rep.dp h1 (rx.full s), Rep.dp h2 (ry.full s), shaped_of h1, shaped_of h2, by rw [eqv_toP]; exact k _ G H p (.refl s)⟩
theorem cmp_ne {K : PySem.W.Frag} : CmpZ K (rNeZ K) dNe := by
  intro G H x y v u P Q s rx ry h k
  rcases dNe_cases h with ⟨a, b, rfl, rfl, p⟩ | ⟨h1, h2, p⟩
  · have e1 : v = .str a := rx
    have e2 : u = .str b := ry
    subst e1 e2
    exact .inr ⟨rfl, by rw [dec_str']; exact k _ G H p (.refl s)⟩
  · exact .inl ⟨toP x, toP y, Rep.dp h1 (rx.full s), Rep.dp h2 (ry.full s), shaped_of h1, shaped_of h2, by rw [eqv_toP]; exact k _ G H p (.refl s)⟩
/-- ints -/
def dI (f : Int → Int → Bool) : DTs := fun x y Q => match x, y with
  | .int i, .int j => Q (f i j)
  | _, _ => False
theorem cmp_I {K : PySem.W.Frag} (f : Int → Int → Bool) : CmpZ K (rI0 fun i j => .bl (f i j)) (dI f) := by
  intro G H x y v u P Q s rx ry h k
  cases x <;> cases y <;> first | exact h.elim | skip
  rename_i i j
  have e1 : v = .int i := rx
  have e2 : u = .int j := ry
  subst e1 e2
  exact ⟨i, j, rfl, rfl, k _ G H h (.refl s)⟩
abbrev dLt : DTs := dI fun i j => decide (i < j)
abbrev dLe : DTs := dI fun i j => decide (i ≤ j)
abbrev dGt : DTs := dI fun i j => decide (j < i)
abbrev dGe : DTs := dI fun i j => decide (j ≤ i)
/-- is None -/
def isN : D → Bool
  | .non => true
  | _ => false
theorem isN_rep {K : PySem.W.Frag} {H G : Hp} {x : D} {v : V} (r : Rep1 K H G x v) : decide (v = .non) = isN x := by
  cases x with
  | non => have r : v = _ := r; subst r; rfl
  | bl b => have r : v = _ := r; subst r; rfl
  | int b => have r : v = _ := r; subst r; rfl
  | str b => have r : v = _ := r; subst r; rfl
  | tup b => obtain ⟨a, _, e, _⟩ := r; subst e; rfl
  | lst b => obtain ⟨a, _, e, _⟩ := r; subst e; rfl
  | dic b => obtain ⟨a, _, e, _⟩ := r; subst e; rfl
  | obj c b => obtain ⟨a, _, _, e, _⟩ := r; subst e; rfl
def dIs : DTs := fun x y Q => y = .non ∧ Q (isN x)
def dIsNot : DTs := fun x y Q => y = .non ∧ Q (!isN x)
theorem cmp_is {K : PySem.W.Frag} : CmpZ K (fun x y H Q => y = .non ∧ Q (.bl (decide (x = .non))) H) dIs := by
  intro G H x y v u P Q s rx ry ⟨e, h⟩ k
  subst e
  exact ⟨ry, by rw [isN_rep rx]; exact k _ G H h (.refl s)⟩
theorem cmp_isnot {K : PySem.W.Frag} : CmpZ K (fun x y H Q => y = .non ∧ Q (.bl (!decide (x = .non))) H) dIsNot := by
  intro G H x y v u P Q s rx ry ⟨e, h⟩ k
  subst e
  exact ⟨ry, by rw [isN_rep rx]; exact k _ G H h (.refl s)⟩
/-- one sign in a text -/
def dInS : DTs := fun x y Q => ∃ c z, x = .str ⟨#[c]⟩ ∧ y = .str z ∧ Q (decide (c ∈ z.cps.toList))
def dNotInS : DTs := fun x y Q => ∃ c z, x = .str ⟨#[c]⟩ ∧ y = .str z ∧ Q (!decide (c ∈ z.cps.toList))
theorem cmp_inS {K : PySem.W.Frag} : CmpZ K (fun x y H Q => ∃ (c : Nat) (z : Str), x = .str ⟨#[c]⟩ ∧ y = .str z ∧ Q (.bl (decide (c ∈ z.cps.toList))) H) dInS := by
  intro G H x y v u P Q s rx ry ⟨c, z, e1, e2, h⟩ k
  subst e1 e2
  exact ⟨c, z, rx, ry, k _ G H h (.refl s)⟩
theorem cmp_notInS {K : PySem.W.Frag} : CmpZ K (fun x y H Q => ∃ (c : Nat) (z : Str), x = .str ⟨#[c]⟩ ∧ y = .str z ∧ Q (.bl (!decide (c ∈ z.cps.toList))) H) dNotInS := by
  intro G H x y v u P Q s rx ry ⟨c, z, e1, e2, h⟩ k
  subst e1 e2
  exact ⟨c, z, rx, ry, k _ G H h (.refl s)⟩
/-! ### operations -/
def dI2 (C : Int → Int → Prop) (g : Int → Int → Int) : DOp := fun x y Q => match x, y with
  | .int i, .int j => C i j ∧ Q (.int (g i j))
  | _, _ => False
theorem opz_I {K : PySem.W.Frag} (C : Int → Int → Prop) (g : Int → Int → Int) : OpZ K (rI C fun i j => .int (g i j)) (dI2 C g) := by
  intro G H x y v u P Q s rx ry h k
  cases x <;> cases y <;> first | exact h.elim | skip
  rename_i i j
  have e1 : v = .int i := rx
  have e2 : u = .int j := ry
  subst e1 e2
  exact ⟨i, j, rfl, rfl, h.1, k _ _ G H h.2 (.refl s) rfl⟩
def dI0 (g : Int → Int → Int) : DOp := fun x y Q => match x, y with
  | .int i, .int j => Q (.int (g i j))
  | _, _ => False
theorem opz_I0 {K : PySem.W.Frag} (g : Int → Int → Int) : OpZ K (rI0 fun i j => .int (g i j)) (dI0 g) := by
  intro G H x y v u P Q s rx ry h k
  cases x <;> cases y <;> first | exact h.elim | skip
  rename_i i j
  have e1 : v = .int i := rx
  have e2 : u = .int j := ry
  subst e1 e2
  exact ⟨i, j, rfl, rfl, k _ _ G H h (.refl s) rfl⟩
abbrev dSub : DOp := dI0 fun i j => i - j
abbrev dMul : DOp := dI2 CMul fun i j => i * j
abbrev dMod : DOp := dI2 (fun _ j => 0 < j) fun i j => i % j
abbrev dFdiv : DOp := dI2 CDiv fun i j => i / j
def rAddZ (K : PySem.W.Frag) : R2 := fun x y H Q => ((rI0 (fun i j => .int (i + j)) x y H Q ∨ (∃ i j, x = .str i ∧ y = .str j ∧ i.length + j.length ≤ sizeLine ∧ Q (.str (i ++ j)) H)) ∨ rCat x y H Q) ∨ rCatA K x y H Q
theorem op_addZ {X : Cx} : OpR X (binaryOp .Add) (rAddZ X.K) := ((op_add.or op_add_str).or op_cat).or op_catA
def dAdd : DOp := fun x y Q => match x, y with
  | .int i, .int j => Q (.int (i + j))
  | .str a, .str b => a.length + b.length ≤ sizeLine ∧ Q (.str (a ++ b))
  | .lst a, .lst b => a.length + b.length ≤ sizeLine ∧ Q (.lst (a ++ b))
  | .tup a, .tup b => a.length + b.length ≤ sizeLine ∧ Q (.tup (a ++ b))
  | _, _ => False
theorem opz_add {K : PySem.W.Frag} : OpZ K (rAddZ K) dAdd := by
  intro G H x y v u P Q s rx ry h k
  cases x <;> cases y <;> first | exact h.elim | skip
  · rename_i i j
    have e1 : v = .int i := rx
    have e2 : u = .int j := ry
    subst e1 e2
    exact .inl (.inl (.inl ⟨i, j, rfl, rfl, k _ _ G H h (.refl s) rfl⟩))
  · rename_i i j
    have e1 : v = .str i := rx
    have e2 : u = .str j := ry
    subst e1 e2
    exact .inl (.inl (.inr ⟨i, j, rfl, rfl, h.1, k _ _ G H h.2 (.refl s) rfl⟩))
  · rename_i ds es
    obtain ⟨a, xs, rfl, ha, la, ra⟩ := rx
    obtain ⟨b, ys, rfl, hb, lb, rb⟩ := ry
    refine .inr ⟨a, b, xs, ys, rfl, rfl, Same.seqT s ha, Same.seqT s hb, by rw [ra.len, rb.len]; exact h.1, fun e => ?_, fun n e => ?_, fun n1 n2 p np => ?_⟩
    · subst e
      have e2 : ds = [] := List.eq_nil_of_length_eq_zero ra.len.symm
      subst e2
      exact k _ _ G H h.2 (.refl s) ⟨b, ys, rfl, hb, lb, rb⟩
    · subst e
      have e2 : es = [] := List.eq_nil_of_length_eq_zero rb.len.symm
      subst e2
      exact k _ _ G H h.2 (.refl s) ⟨a, xs, rfl, ha, by rw [List.append_nil]; exact la, by rw [List.append_nil]; exact ra⟩
    · have g := Grow.alloc (o := .tup (xs ++ ys)) s np
      exact k _ _ _ _ h.2 g ⟨p, _, rfl, SqT.of upd_same, by rw [List.length_append]; exact h.1, (ra.append rb).mono g.g⟩
  · rename_i i j
    obtain ⟨a, xs, rfl, ha, la, ra⟩ := rx
    obtain ⟨b, ys, rfl, hb, lb, rb⟩ := ry
    refine .inl (.inr ⟨a, b, xs, ys, rfl, rfl, ha, hb, by rw [ra.len, rb.len]; exact h.1, fun p np => ?_⟩)
    have g := Grow.alloc (o := .lst (xs ++ ys)) s np
    exact k _ _ _ _ h.2 g ⟨p, _, rfl, upd_same, by rw [List.length_append]; exact h.1, (ra.append rb).mono g.g⟩
/-- an item of a list, a tuple, a text -/
def dIx : DOp := fun x y Q => match x, y with
  | .lst ds, .int i => ∃ d, atI ds i = some d ∧ Q d
  | .tup ds, .int i => ∃ d, atI ds i = some d ∧ Q d
  | .str z, .int i => ∃ c, z.length ≤ sizeLine ∧ atI z.cps.toList i = some c ∧ Q (.str ⟨#[c]⟩)
  | _, _ => False
theorem Reps.atI {K : PySem.W.Frag} {G : Hp} {ds : List D} {vs : List V} {i : Int} {d : D} (r : Reps K G ds vs) (h : L2.atI ds i = some d) : ∃ v, L2.atI vs i = some v ∧ Rep K G d v := by
  unfold L2.atI at h ⊢
  rw [r.len]
  cases e : ixN ds.length i with
  | none => rw [e] at h; cases h
  | some j => rw [e] at h; exact r.get h
theorem opz_ix {K : PySem.W.Frag} : OpZ K (rIx K) dIx := by
  intro G H x y v u P Q s rx ry h k
  cases x <;> cases y <;> first | exact h.elim | skip
  · rename_i z i
    obtain ⟨c, l, h1, h2⟩ := h
    have e1 : v = .str z := rx
    have e2 : u = .int i := ry
    subst e1 e2
    exact .inr (.inr ⟨z, i, c, rfl, rfl, l, h1, k _ _ G H h2 (.refl s) rfl⟩)
  · rename_i ds i
    obtain ⟨d, h1, h2⟩ := h
    obtain ⟨a, xs, rfl, ha, la, ra⟩ := rx
    have e2 : u = .int i := ry
    subst e2
    obtain ⟨v, h3, r3⟩ := ra.atI h1
    exact .inr (.inl ⟨a, xs, i, v, rfl, rfl, Same.seqT s ha, h3, k _ _ G H h2 (.refl s) r3⟩)
  · rename_i ds i
    obtain ⟨d, h1, h2⟩ := h
    obtain ⟨a, xs, rfl, ha, la, ra⟩ := rx
    have e2 : u = .int i := ry
    subst e2
    obtain ⟨v, h3, r3⟩ := ra.atI h1
    exact .inl ⟨a, xs, i, v, rfl, rfl, SqL.of ha, h3, k _ _ G H h2 (.refl s) r3⟩
/-! ### built-in functions on data -/
abbrev DFn := List D → (D → Prop) → Prop
def vwL (ov : Ov) : List Zv → Option (List D)
  | [] => some []
  | z :: zs => match vw ov z with
    | some d => match vwL ov zs with
      | some ds => some (d :: ds)
      | none => none
    | none => none
def zBi (f : DFn) (za : ZA) : ZE := fun env ov Q E => za env ov (fun xs ov1 => ∃ ds, vwL ov1 xs = some ds ∧ f ds fun r => Q (.d r) ov1) E
def Rep1s (K : PySem.W.Frag) (H G : Hp) : List D → List V → Prop
  | [], vs => vs = []
  | d :: ds, vs => ∃ v r, vs = v :: r ∧ Rep1 K H G d v ∧ Rep1s K H G ds r
theorem Ok.vwL {K : PySem.W.Frag} {t : Th} {G H : Hp} {ov : Ov} (ok : Ok K t G ov H) : ∀ {zs : List Zv} {vs : List V} {ds : List D}, RepZs K G t zs vs → Z.vwL ov zs = some ds → Rep1s K H G ds vs
  | [], _, _, h, e => by cases e; exact h
  | z :: zs, _, ds, ⟨v, r, e1, h, hr⟩, e => by
    subst e1
    unfold Z.vwL at e
    cases h1 : vw ov z with
    | none => rw [h1] at e; cases e
    | some d =>
      rw [h1] at e
      simp only at e
      cases h2 : Z.vwL ov zs with
      | none => rw [h2] at e; cases e
      | some es => rw [h2] at e; cases e; exact ⟨v, r, rfl, ok.vw1 h h1, Ok.vwL ok hr h2⟩
def CallZ (K : PySem.W.Frag) (r : List V → Hp → VK → Prop) (f : DFn) : Prop := ∀ (G H : Hp) (xs : List D) (vs : List V) (P : D → Prop) (Q : VK), Same G H → Rep1s K H G xs vs → f xs P →
  (∀ d v' G' H', P d → Grow G H G' H' → Rep K G' d v' → Q v' H') → r vs H Q
section
variable {X : Cx} {W : WX} {x : Str} {p pos : Pos} {e : Expr} {es : List Expr} {za : ZA} {id T : String} {r : List V → Hp → VK → Prop} {f : DFn}
theorem tCB_of {Q : VK} {σ : L2.St} {H : Hp} (hz : CallZ X.K r f) (h : tz X.K W (zBi f za) σ H Q) : tza X.K W za σ H fun vs H1 => r vs H1 Q := by
  obtain ⟨t, G, env, ov, Qz, Ez, A, q, pe, px⟩ := h
  refine ⟨t, G, env, ov, _, Ez, A, q, fun xs ov1 t1 G1 vs H1 s1 ok1 r1 q1 => ?_, px⟩
  obtain ⟨ds, e, hf⟩ := q1
  exact hz G1 H1 ds vs _ Q ok1.sub (ok1.vwL r1 e) hf fun d v' G' H' p g rd => pe (.d d) ov1 t1 G' v' H' (s1.trans g.stp) (ok1.grow g) rd p
theorem ze_bi (hc : CallR X (.builtin id) r) (hz : CallZ X.K r f) (hm : X.mg x = none) (hv : bootBuiltins x = some (.builtin id)) (ha : ZAj X W (e :: es) za) (hg : Gl X x := by rfl) (hn : x ≠ "__name__" := by decide) (hdb : (x == ("__debug__" : Str)) = false := by decide)
    (he : starEach (e :: es) X.env = (false, eval e X.env) :: starEach es X.env := by rfl) (hpl : (backTo pos (starEach es X.env)).any (·.1) = false := by rfl) : ZEj X W (.Call (.Name x p) (e :: es) [] pos) (zBi f za) :=
  PE.imp (pe_callB hc hg hm hv ha hn hdb he hpl) fun σ H Q h => tCB_of hz h
theorem ze_ty (hc : CallR X (.type T) r) (hz : CallZ X.K r f) (hm : X.mg x = none) (hv : bootBuiltins x = some (.type T)) (ha : ZAj X W (e :: es) za) (hg : Gl X x := by rfl) (hn : x ≠ "__name__" := by decide) (hdb : (x == ("__debug__" : Str)) = false := by decide)
    (he : starEach (e :: es) X.env = (false, eval e X.env) :: starEach es X.env := by rfl) (hpl : (backTo pos (starEach es X.env)).any (·.1) = false := by rfl) : ZEj X W (.Call (.Name x p) (e :: es) [] pos) (zBi f za) :=
  PE.imp (pe_callTy hc hg hm hv ha hn hdb he hpl) fun σ H Q h => tCB_of hz h
end
section
variable {K : PySem.W.Frag}
theorem rep1s_1 {H G : Hp} {d : D} {vs : List V} (h : Rep1s K H G [d] vs) : ∃ v, vs = [v] ∧ Rep1 K H G d v := by
  obtain ⟨v, r, e, h1, h2⟩ := h
  have h2 : r = _ := h2
  subst h2; exact ⟨v, e, h1⟩
theorem rep1s_2 {H G : Hp} {d d2 : D} {vs : List V} (h : Rep1s K H G [d, d2] vs) : ∃ v v2, vs = [v, v2] ∧ Rep1 K H G d v ∧ Rep1 K H G d2 v2 := by
  obtain ⟨v, r, e, h1, h2⟩ := h
  obtain ⟨v2, e2, h3⟩ := rep1s_1 h2
  subst e2; exact ⟨v, v2, e, h1, h3⟩
/-- len of a list, a tuple, a text -/
def dLen : DFn := fun xs Q => match xs with
  | [.lst ds] => Q (.int ds.length)
  | [.tup ds] => Q (.int ds.length)
  | [.str z] => z.length ≤ sizeLine ∧ Q (.int z.length)
  | _ => False
theorem cz_len : CallZ K (fun xs H Q => ∃ x n, xs = [x] ∧ LenV K x H n ∧ Q (.int n) H) dLen := by
  intro G H xs vs P Q s r h k
  match xs, h with
  | [.lst ds], h =>
    obtain ⟨v, rfl, a, ys, rfl, ha, l, rs⟩ := rep1s_1 r
    exact ⟨_, ds.length, rfl, .inl ⟨ys, SqL.of ha, rs.len.symm⟩, k _ _ G H h (.refl s) rfl⟩
  | [.tup ds], h =>
    obtain ⟨v, rfl, a, ys, rfl, ha, l, rs⟩ := rep1s_1 r
    exact ⟨_, ds.length, rfl, .inr ⟨ys, Same.seqT s ha, rs.len.symm⟩, k _ _ G H h (.refl s) rfl⟩
  | [.str z], h =>
    obtain ⟨v, rfl, e⟩ := rep1s_1 r
    have e : v = _ := e
    subst e
    exact ⟨_, z.length, rfl, ⟨h.1, rfl⟩, k _ _ G H h.2 (.refl s) rfl⟩
def dMin2 : DFn := fun xs Q => match xs with
  | [.int i, .int j] => Q (.int (if j < i then j else i))
  | _ => False
def dMax2 : DFn := fun xs Q => match xs with
  | [.int i, .int j] => Q (.int (if j > i then j else i))
  | _ => False
theorem cz_min2 : CallZ K (fun xs H Q => ∃ i j, xs = [.int i, .int j] ∧ Q (.int (if j < i then j else i)) H) dMin2 := by
  intro G H xs vs P Q s r h k
  match xs, h with
  | [.int i, .int j], h =>
    obtain ⟨v, u, rfl, e1, e2⟩ := rep1s_2 r
    have e1 : v = _ := e1
    have e2 : u = _ := e2
    subst e1 e2
    exact ⟨i, j, rfl, k _ _ G H h (.refl s) rfl⟩
theorem cz_max2 : CallZ K (fun xs H Q => ∃ i j, xs = [.int i, .int j] ∧ Q (.int (if j > i then j else i)) H) dMax2 := by
  intro G H xs vs P Q s r h k
  match xs, h with
  | [.int i, .int j], h =>
    obtain ⟨v, u, rfl, e1, e2⟩ := rep1s_2 r
    have e1 : v = _ := e1
    have e2 : u = _ := e2
    subst e1 e2
    exact ⟨i, j, rfl, k _ _ G H h (.refl s) rfl⟩
/-- list(x), tuple(x) of a list, a tuple -/
def dList : DFn := fun xs Q => match xs with
  | [.lst ds] => Q (.lst ds)
  | [.tup ds] => Q (.lst ds)
  | _ => False
def dTuple : DFn := fun xs Q => match xs with
  | [.lst ds] => Q (.tup ds)
  | [.tup ds] => Q (.tup ds)
  | _ => False
theorem cz_list : CallZ K (fun xs H Q => ∃ p ys, xs = [.ref p] ∧ (SqL K H p ys ∨ SqT K H p ys) ∧ ∀ l, H l = none → Q (.ref l) (upd H l (.lst ys))) dList := by
  intro G H xs vs P Q s r h k
  match xs, h with
  | [.lst ds], h =>
    obtain ⟨v, rfl, a, ys, rfl, ha, l, rs⟩ := rep1s_1 r
    refine ⟨a, ys, rfl, .inl (SqL.of ha), fun p np => ?_⟩
    have g := Grow.alloc (o := .lst ys) s np
    exact k _ _ _ _ h g ⟨p, ys, rfl, upd_same, l, rs.mono g.g⟩
  | [.tup ds], h =>
    obtain ⟨v, rfl, a, ys, rfl, ha, l, rs⟩ := rep1s_1 r
    refine ⟨a, ys, rfl, .inr (Same.seqT s ha), fun p np => ?_⟩
    have g := Grow.alloc (o := .lst ys) s np
    exact k _ _ _ _ h g ⟨p, ys, rfl, upd_same, l, rs.mono g.g⟩
theorem cz_tuple : CallZ K (fun xs H Q => ∃ p ys, xs = [.ref p] ∧ ((SqL K H p ys ∧ ∀ l, H l = none → Q (.ref l) (upd H l (.tup ys))) ∨ (SqT K H p ys ∧ Q (.ref p) H))) dTuple := by
  intro G H xs vs P Q s r h k
  match xs, h with
  | [.lst ds], h =>
    obtain ⟨v, rfl, a, ys, rfl, ha, l, rs⟩ := rep1s_1 r
    refine ⟨a, ys, rfl, .inl ⟨SqL.of ha, fun p np => ?_⟩⟩
    have g := Grow.alloc (o := .tup ys) s np
    exact k _ _ _ _ h g ⟨p, ys, rfl, SqT.of upd_same, l, rs.mono g.g⟩
  | [.tup ds], h =>
    obtain ⟨v, rfl, a, ys, rfl, ha, l, rs⟩ := rep1s_1 r
    exact ⟨a, ys, rfl, .inr ⟨Same.seqT s ha, k _ _ _ _ h (.refl s) ⟨a, ys, rfl, ha, l, rs⟩⟩⟩
/-- str(int), int(text), int(int or bool) -/
def dStr : DFn := fun xs Q => match xs with
  | [.int i] => i.natAbs.log2 < 1920 ∧ Q (.str (toString i))
  | _ => False
theorem cz_str : CallZ K (fun xs H Q => ∃ i, xs = [.int i] ∧ i.natAbs.log2 < 1920 ∧ Q (.str (toString i)) H) dStr := by
  intro G H xs vs P Q s r h k
  match xs, h with
  | [.int i], h =>
    obtain ⟨v, rfl, e⟩ := rep1s_1 r
    have e : v = _ := e
    subst e
    exact ⟨i, rfl, h.1, k _ _ G H h.2 (.refl s) rfl⟩
def rIntZ : List V → Hp → VK → Prop := fun xs H Q => ((∃ i, xs = [.int i] ∧ Q (.int i) H) ∨ ∃ k, xs = [.bl k] ∧ Q (.int (if k then 1 else 0)) H) ∨ ∃ a n, xs = [.str a] ∧ PySem.intText? a = some n ∧ a.length ≤ 640 ∧ Q (.int n) H
theorem call_intZ {X : Cx} : CallR X (.type "int") rIntZ := call_int1.or call_int_str
def dInt : DFn := fun xs Q => match xs with
  | [.int i] => Q (.int i)
  | [.bl k] => Q (.int (if k then 1 else 0))
  | [.str a] => ∃ n, PySem.intText? a = some n ∧ a.length ≤ 640 ∧ Q (.int n)
  | _ => False
theorem cz_int : CallZ K rIntZ dInt := by
  intro G H xs vs P Q s r h k
  match xs, h with
  | [.int i], h =>
    obtain ⟨v, rfl, e⟩ := rep1s_1 r
    have e : v = _ := e
    subst e
    exact .inl (.inl ⟨i, rfl, k _ _ G H h (.refl s) rfl⟩)
  | [.bl b], h =>
    obtain ⟨v, rfl, e⟩ := rep1s_1 r
    have e : v = _ := e
    subst e
    exact .inl (.inr ⟨b, rfl, k _ _ G H h (.refl s) rfl⟩)
  | [.str a], h =>
    obtain ⟨v, rfl, e⟩ := rep1s_1 r
    have e : v = _ := e
    subst e
    obtain ⟨n, h1, h2, h3⟩ := h
    exact .inr ⟨a, n, rfl, h1, h2, k _ _ G H h3 (.refl s) rfl⟩
/-- all, any of a list of bools -/
def boolsOf : List D → Option (List Bool)
  | [] => some []
  | .bl b :: ds => match boolsOf ds with
    | some bs => some (b :: bs)
    | none => none
  | _ :: _ => none
theorem Reps.bools {G : Hp} : ∀ {ds : List D} {bs : List Bool} {vs : List V}, boolsOf ds = some bs → Reps K G ds vs → vs = bs.map V.bl
  | [], _, _, e, h => by cases e; exact h
  | .bl b :: ds, bs, _, e, ⟨v, r, e1, h, hr⟩ => by
    unfold boolsOf at e
    cases e2 : boolsOf ds with
    | none => rw [e2] at e; cases e
    | some cs =>
      rw [e2] at e; cases e
      have h : v = _ := h
      subst h e1
      rw [Reps.bools e2 hr]; rfl
  | .non :: _, _, _, e, _ => by cases e
  | .int _ :: _, _, _, e, _ => by cases e
  | .str _ :: _, _, _, e, _ => by cases e
  | .tup _ :: _, _, _, e, _ => by cases e
  | .lst _ :: _, _, _, e, _ => by cases e
  | .dic _ :: _, _, _, e, _ => by cases e
  | .obj _ _ :: _, _, _, e, _ => by cases e
def dAll : DFn := fun xs Q => ∃ ds bs, xs = [.lst ds] ∧ boolsOf ds = some bs ∧ Q (.bl (bs.all id))
def dAny : DFn := fun xs Q => ∃ ds bs, xs = [.lst ds] ∧ boolsOf ds = some bs ∧ Q (.bl (bs.any id))
end
end Z
namespace Z
open PySem PySem.Spec PyProof.Rows L2
section
variable {K : PySem.W.Frag}
theorem cz_all : CallZ K (rAll K) dAll := by
  intro G H xs vs P Q s r ⟨ds, bs, e, hb, h⟩ k
  subst e
  obtain ⟨v, rfl, a, ys, rfl, ha, l, rs⟩ := rep1s_1 r
  rw [rs.bools hb] at ha
  exact ⟨a, bs, rfl, SqL.of ha, k _ _ G H h (.refl s) rfl⟩
theorem cz_any : CallZ K (rAny K) dAny := by
  intro G H xs vs P Q s r ⟨ds, bs, e, hb, h⟩ k
  subst e
  obtain ⟨v, rfl, a, ys, rfl, ha, l, rs⟩ := rep1s_1 r
  rw [rs.bools hb] at ha
  exact ⟨a, bs, rfl, SqL.of ha, k _ _ G H h (.refl s) rfl⟩
end
/-- len, of the script too -/
def zLen (za : ZE) : ZE := fun env ov Q E => za env ov (fun x ov1 => (∃ ns, x = .sc ns ∧ Q (.d (.int ns.length)) ov1) ∨ ∃ d, vw ov1 x = some d ∧ dLen [d] fun r => Q (.d r) ov1) E
/-! ### slices -/
abbrev ZO := Env → Ov → (Option Int → Ov → Prop) → QX → Prop
def zoNone : ZO := fun _ ov Q _ => Q none ov
def zoSome (za : ZE) : ZO := fun env ov Q E => za env ov (fun x ov1 => ∃ i, x = .d (.int i) ∧ Q (some i) ov1) E
def tzo (K : PySem.W.Frag) (W : WX) (z : ZO) : TO := fun σ H Q => ∃ t G env ov Qz Ez, At K t G env ov σ H ∧ z env ov Qz Ez ∧
  (∀ (o : Option Int) (ov' : Ov) (t' : Th) (G' H' : Hp), Stp t G H t' G' H' → Ok K t' G' ov' H' → Qz o ov' → Q o H') ∧ PostX K t G H Ez W σ
def cutD {α : Type} (ds : List α) (lo hi : Option Int) : List α := (ds.drop (HT.sIx ds.length 0 lo)).take (HT.sIx ds.length ds.length hi - HT.sIx ds.length 0 lo)
def dSl (x : D) (lo hi : Option Int) (Q : D → Prop) : Prop := match x with
  | .lst ds => Q (.lst (cutD ds lo hi))
  | .tup ds => Q (.tup (cutD ds lo hi))
  | .str z => z.length ≤ sizeLine ∧ Q (.str (cutS z lo hi))
  | _ => False
def zSl (za : ZE) (zl zh : ZO) : ZE := fun env ov Q E => za env ov (fun x ov1 => zl env ov1 (fun l ov2 => zh env ov2 (fun h ov3 => ∃ d, vw ov3 x = some d ∧ dSl d l h fun r => Q (.d r) ov3) E) E) E
def rSlZ (K : PySem.W.Frag) : V → Option Int → Option Int → Hp → VK → Prop := fun x lo hi H Q => (rSlL K x lo hi H Q ∨ rSlA K x lo hi H Q) ∨ rSlS x lo hi H Q
theorem sl_Z {X : Cx} : SlR X (rSlZ X.K) := (sl_list.or sl_tupA).or sl_str
theorem Reps.cut {K : PySem.W.Frag} {G : Hp} {ds : List D} {vs : List V} (r : Reps K G ds vs) (lo hi : Option Int) : Reps K G (cutD ds lo hi) (cutV vs lo hi) := by
  unfold cutD cutV
  rw [r.len]
  exact (r.drop _).take _
theorem cutD_length {α : Type} (xs : List α) (lo hi : Option Int) : (cutD xs lo hi).length ≤ xs.length := by
  unfold cutD
  rw [List.length_take, List.length_drop]
  omega
section
variable {X : Cx} {W : WX} {e : Expr} {za : ZE} {lo hi : Option Expr} {zl zh : ZO} {pos p2 : Pos}
theorem PO.imp {e : Option Expr} {t t' : TO} (h : PO X e t) (hi : ∀ σ H Q, t' σ H Q → t σ H Q) : PO X e t' := ⟨fun pins s σ H Q I q => h.run pins s σ H Q I (hi σ H Q q)⟩
abbrev ZOj (X : Cx) (W : WX) (e : Option Expr) (z : ZO) : Prop := PO X e (tzo X.K W z)
theorem zo_none : ZOj X W none zoNone := PO.imp po_none fun σ H Q ⟨t, G, env, ov, Qz, Ez, A, q, pe, px⟩ => pe none ov t G H .refl A.ok q
theorem zo_some (h : ZEj X W e za) : ZOj X W (some e) (zoSome za) := PO.imp (po_some h) fun σ H Q ⟨t, G, env, ov, Qz, Ez, A, q, pe, px⟩ => by
  refine ⟨t, G, env, ov, _, Ez, A, q, fun x ov1 t1 G1 v H1 s1 ok1 r1 q1 => ?_, px⟩
  obtain ⟨i, rfl, q1⟩ := q1
  exact ⟨i, r1, pe _ ov1 t1 G1 H1 s1 ok1 q1⟩
theorem ze_sl (he : ZEj X W e za) (hl : ZOj X W lo zl) (hu : ZOj X W hi zh) : ZEj X W (.Subscript e (.Slice lo hi none p2) pos) (zSl za zl zh) := by
  refine PE.imp (pe_slice sl_Z he hl hu) fun σ H Q ⟨t, G, env, ov, Qz, Ez, A, q, pe, px⟩ => ?_
  refine ⟨t, G, env, ov, _, Ez, A, q, fun x ov1 t1 G1 v H1 s1 ok1 r1 q1 => ?_, px⟩
  refine ⟨t1, G1, env, ov1, _, Ez, A.step s1 ok1, q1, fun l ov2 t2 G2 H2 s2 ok2 q2 => ?_, px.step s1⟩
  refine ⟨t2, G2, env, ov2, _, Ez, (A.step s1 ok1).step s2 ok2, q2, fun h ov3 t3 G3 H3 s3 ok3 q3 => ?_, (px.step s1).step s2⟩
  obtain ⟨d, e1, hf⟩ := q3
  have s13 := (s1.trans s2).trans s3
  have r3 := ok3.vw1 ((r1.mono s2).mono s3) e1
  cases d with
  | lst ds =>
    obtain ⟨a, ys, rfl, ha, ln, rs⟩ := r3
    refine .inl (.inl ⟨a, ys, rfl, SqL.of ha, fun p np => ?_⟩)
    have g := Grow.alloc (o := .lst (cutV ys l h)) ok3.sub np
    exact pe (.d (.lst (cutD ds l h))) ov3 t3 _ _ _ (s13.trans g.stp) (ok3.grow g) ⟨p, _, rfl, upd_same, Nat.le_trans (cutD_length _ _ _) ln, (rs.cut l h).mono g.g⟩ hf
  | tup ds =>
    obtain ⟨a, ys, rfl, ha, ln, rs⟩ := r3
    refine .inl (.inr ⟨a, ys, rfl, Same.seqT ok3.sub ha, fun w => ?_, fun w p np => ?_⟩)
    · have e2 : cutD ds l h = ds := by
        unfold cutD
        rw [rs.len] at w
        rw [w.1, w.2]
        simp
      have hf' : Qz (.d (.tup (cutD ds l h))) ov3 := hf
      rw [e2] at hf'
      exact pe (.d (.tup ds)) ov3 t3 G3 _ H3 s13 ok3 ⟨a, ys, rfl, ha, ln, rs⟩ hf'
    · have g := Grow.alloc (o := .tup (cutV ys l h)) ok3.sub np
      exact pe (.d (.tup (cutD ds l h))) ov3 t3 _ _ _ (s13.trans g.stp) (ok3.grow g) ⟨p, _, rfl, SqT.of upd_same, Nat.le_trans (cutD_length _ _ _) ln, (rs.cut l h).mono g.g⟩ hf
  | str z =>
    have r3 : v = .str z := r3
    subst r3
    exact .inr ⟨z, rfl, hf.1, pe (.d (.str (cutS z l h))) ov3 t3 G3 _ H3 s13 ok3 rfl hf.2⟩
  | non => exact hf.elim
  | bl _ => exact hf.elim
  | int _ => exact hf.elim
  | dic _ => exact hf.elim
  | obj _ _ => exact hf.elim
theorem ze_len {p : Pos} (hm : X.mg "len" = none) (ha : ZEj X W e za) (hg : Gl X "len" := by rfl)
    (he : starEach [e] X.env = (false, eval e X.env) :: starEach [] X.env := by rfl) (hpl : (backTo pos (starEach [] X.env)).any (·.1) = false := by rfl) : ZEj X W (.Call (.Name "len" p) [e] [] pos) (zLen za) := by
  refine PE.imp (pe_callB call_len hg hm boot_len (za_cons ha za_nil he) (by decide) (by decide) he hpl) fun σ H Q ⟨t, G, env, ov, Qz, Ez, A, q, pe, px⟩ => ?_
  refine ⟨t, G, env, ov, fun xs ov1 => match xs with
    | [x] => (∃ ns, x = .sc ns ∧ Qz (.d (.int ns.length)) ov1) ∨ ∃ d, vw ov1 x = some d ∧ dLen [d] fun r => Qz (.d r) ov1
    | _ => False, Ez, A, q, fun xs ov1 t1 G1 vs H1 s1 ok1 r1 q1 => ?_, px⟩
  match xs, q1 with
  | [x], q1 =>
    obtain ⟨v, rr, rfl, r1, r2⟩ := r1
    have r2 : rr = [] := r2
    subst r2
    rcases q1 with ⟨ns, rfl, q1⟩ | ⟨d, e1, q1⟩
    · obtain ⟨a, rfl, ha⟩ := r1
      exact ⟨_, ns.length, rfl, .inl ⟨_, ok1.sub.seq ha, by simp⟩, pe (.d (.int ns.length)) ov1 t1 G1 _ H1 s1 ok1 rfl q1⟩
    · exact cz_len (K := X.K) G1 H1 [d] [v] _ Q ok1.sub ⟨v, [], rfl, ok1.vw1 r1 e1, rfl⟩ q1 fun d v' G' H' p g rd => pe (.d d) ov1 t1 G' v' H' (s1.trans g.stp) (ok1.grow g) rd p
end
/-! ### isinstance -/
def tyN : D → Option String
  | .non => some "NoneType"
  | .bl _ => some "bool"
  | .int _ => some "int"
  | .str _ => some "str"
  | .tup _ => some "tuple"
  | .lst _ => some "list"
  | .dic _ => some "dict"
  | .obj _ _ => none
/-- isinstance(x, T), T a built-in class -/
def isiD (T : String) (d : D) : Option Bool := match tyN d with
  | some t => kitB t T
  | none => none
def isiDs (Ts : List String) (d : D) : Option Bool := match Ts with
  | [] => some false
  | T :: r => match isiD T d with
    | some true => some true
    | some false => isiDs r d
    | none => none
def zIsi (T : String) (za : ZE) : ZE := fun env ov Q E => za env ov (fun x ov1 => ∃ d b, vw ov1 x = some d ∧ isiD T d = some b ∧ Q (.d (.bl b)) ov1) E
def zIsiT (Ts : List String) (za : ZE) : ZE := fun env ov Q E => za env ov (fun x ov1 => ∃ d b, vw ov1 x = some d ∧ isiDs Ts d = some b ∧ Q (.d (.bl b)) ov1) E
theorem tyX_of {K : PySem.W.Frag} {H G : Hp} (s : Same G H) {d : D} {v : V} {t : String} (r : Rep1 K H G d v) (e : tyN d = some t) : TyX K H v (.type t) := by
  cases d with
  | non => cases e; have r : v = _ := r; subst r; exact .base .non
  | bl _ => cases e; have r : v = _ := r; subst r; exact .base (.bl _)
  | int _ => cases e; have r : v = _ := r; subst r; exact .base (.int _)
  | str _ => cases e; have r : v = _ := r; subst r; exact .base (.str _)
  | tup _ =>
    cases e
    obtain ⟨a, xs, rfl, ha, _⟩ := r
    rcases Same.seqT s ha with (h | ⟨o, h⟩) | ⟨o, its, n, h1, h2, _⟩
    · exact .base (.tup h)
    · exact .fTuple h
    · exact .kTuple h1 h2
  | lst _ => cases e; obtain ⟨a, xs, rfl, ha, _⟩ := r; exact .base (.lst ha)
  | dic _ => cases e; obtain ⟨a, xs, rfl, ha, _⟩ := r; exact .base (.dK ha)
  | obj _ _ => cases e
section
variable {X : Cx} {W : WX} {e : Expr} {za : ZE} {pos : Pos} {k : Nat} {p p2 p3 : Pos} {T : String}
theorem tz_isi {r : List V → Hp → VK → Prop} {cs : TA} {σ : L2.St} {H : Hp} {Q : VK} {f : D → Option Bool} (h : tz X.K W (fun env ov Q E => za env ov (fun x ov1 => ∃ d b, vw ov1 x = some d ∧ f d = some b ∧ Q (.d (.bl b)) ov1) E) σ H Q)
    (hr : ∀ (G H : Hp) (d : D) (v : V) (b : Bool), Same G H → Rep1 X.K H G d v → f d = some b → (∀ H', Same H H' → Q (.bl b) H') → cs σ H fun us H2 => r (v :: us) H2 Q) : tCons (tz X.K W za) cs σ H fun vs H1 => r vs H1 Q := by
  obtain ⟨t, G, env, ov, Qz, Ez, A, q, pe, px⟩ := h
  refine ⟨t, G, env, ov, _, Ez, A, q, fun x ov1 t1 G1 v H1 s1 ok1 r1 q1 => ?_, px⟩
  obtain ⟨d, b, e1, e2, q1⟩ := q1
  refine hr G1 H1 d v b ok1.sub (ok1.vw1 r1 e1) e2 fun H' sm => ?_
  have g : Grow G1 H1 G1 H' := ⟨Same.refl G1, sm, ok1.sub.trans sm, fun _ _ _ h => h⟩
  exact pe (.d (.bl b)) ov1 t1 G1 _ H' (s1.trans g.stp) (ok1.grow g) rfl q1
theorem kit_isi {K : PySem.W.Frag} {H G : Hp} (s : Same G H) {d : D} {v : V} {b : Bool} (r : Rep1 K H G d v) (e : isiD T d = some b) : ∃ t, TyX K H v t ∧ PySem.W.kitOne K t (.type T) = some b := by
  unfold isiD at e
  cases h : tyN d with
  | none => rw [h] at e; cases e
  | some t => rw [h] at e; exact ⟨.type t, tyX_of s r h, kit_ty e⟩
theorem ze_isi {c : Str} (hm : X.mg "isinstance" = none) (hmT : X.mg c = none) (hvT : bootBuiltins c = some (.type T)) (ha : ZEj X W e za) (hg : Gl X "isinstance" := by rfl) (hgT : Gl X c := by rfl) (hnT : c ≠ "__name__" := by decide) (hdT : (c == ("__debug__" : Str)) = false := by decide)
    (hs : starEach [e, .Name c p3] X.env = (false, eval e X.env) :: starEach [.Name c p3] X.env := by rfl) (hs2 : starEach [.Name c p3] X.env = (false, eval (.Name c p3) X.env) :: starEach [] X.env := by rfl)
    (hpl : (backTo pos (starEach [.Name c p3] X.env)).any (·.1) = false := by rfl) (hv : bootBuiltins "isinstance" = some (.builtin "isinstance") := by decide +kernel) : ZEj X W (.Call (.Name "isinstance" p) [e, .Name c p3] [] pos) (zIsi T za) := by
  refine PE.imp (pe_callB call_isi hg hm hv (pa_cons ha (pa_cons (pe_bltn (v := .ty T) hgT hmT hvT rfl hnT hdT) pa_nil hs2) hs) (by decide) (by decide) hs hpl) fun σ H Q h => tz_isi h fun G H d v b s r e1 q => ?_
  obtain ⟨t, h1, h2⟩ := kit_isi s r e1
  exact ⟨v, .ty T, t, .type T, b, rfl, .ty T, h1, h2, q H (Same.refl H)⟩
end
/-! ### methods of texts -/
def strsOf : List D → Option (List Str)
  | [] => some []
  | .str x :: ds => match strsOf ds with
    | some ys => some (x :: ys)
    | none => none
  | _ :: _ => none
/-- o.m(e), o a text -/
def zM1 (f : Str → D → (D → Prop) → Prop) (zo za : ZE) : ZE := fun env ov Q E => zo env ov (fun x ov1 => ∃ a, x = .d (.str a) ∧ za env ov1 (fun y ov2 => ∃ d, vw ov2 y = some d ∧ f a d fun r => Q (.d r) ov2) E) E
def mSplit (a : Str) (y : D) (Q : D → Prop) : Prop := ∃ b, y = .str b ∧ (b.length == 0) = false ∧ a.length + 2 ≤ sizeLine ∧ (Txt.split a b).length ≤ sizeLine ∧ Q (.lst ((Txt.split a b).map D.str))
def mJoin (a : Str) (y : D) (Q : D → Prop) : Prop := ∃ ds ys, y = .lst ds ∧ strsOf ds = some ys ∧ (ys.map (·.length)).sum + ys.length * a.length ≤ 16777216 ∧ Q (.str (Txt.join a ys))
theorem Reps.strs {K : PySem.W.Frag} {G : Hp} : ∀ {ds : List D} {bs : List Str} {vs : List V}, strsOf ds = some bs → Reps K G ds vs → vs = bs.map V.str
  | [], _, _, e, h => by cases e; exact h
  | .str b :: ds, bs, _, e, ⟨v, r, e1, h, hr⟩ => by
    unfold strsOf at e
    cases e2 : strsOf ds with
    | none => rw [e2] at e; cases e
    | some cs =>
      rw [e2] at e; cases e
      have h : v = _ := h
      subst h e1
      rw [Reps.strs e2 hr]; rfl
  | .non :: _, _, _, e, _ => by cases e
  | .int _ :: _, _, _, e, _ => by cases e
  | .bl _ :: _, _, _, e, _ => by cases e
  | .tup _ :: _, _, _, e, _ => by cases e
  | .lst _ :: _, _, _, e, _ => by cases e
  | .dic _ :: _, _, _, e, _ => by cases e
  | .obj _ _ :: _, _, _, e, _ => by cases e
theorem reps_strs {K : PySem.W.Frag} {G : Hp} : ∀ ys : List Str, Reps K G (ys.map D.str) (ys.map V.str)
  | [] => rfl
  | y :: ys => ⟨.str y, _, rfl, rfl, reps_strs ys⟩
section
variable {X : Cx} {W : WX} {o e : Expr} {zo za : ZE} {apos pos : Pos}
theorem tM1_of {r : V → List V → Hp → VK → Prop} {f : Str → D → (D → Prop) → Prop} {σ : L2.St} {H : Hp} {Q : VK} (h : tz X.K W (zM1 f zo za) σ H Q)
    (hf : ∀ (G H : Hp) (a : Str) (d : D) (v : V) (P : D → Prop), Same G H → Rep1 X.K H G d v → f a d P → (∀ d v' G' H', P d → Grow G H G' H' → Rep X.K G' d v' → Q v' H') → r (.str a) [v] H Q) : tM1 r (tz X.K W zo) (tz X.K W za) σ H Q := by
  obtain ⟨t, G, env, ov, Qz, Ez, A, q, pe, px⟩ := h
  refine ⟨t, G, env, ov, _, Ez, A, q, fun x ov1 t1 G1 v H1 s1 ok1 r1 q1 => ?_, px⟩
  obtain ⟨a, rfl, q1⟩ := q1
  have r1 : v = .str a := r1
  subst r1
  refine ⟨⟨a, rfl⟩, t1, G1, env, ov1, _, Ez, A.step s1 ok1, q1, fun y ov2 t2 G2 u H2 s2 ok2 r2 q2 => ?_, px.step s1⟩
  obtain ⟨d, e1, q2⟩ := q2
  exact hf G2 H2 a d u _ ok2.sub (ok2.vw1 r2 e1) q2 fun d v' G' H' p g rd => pe (.d d) ov2 t2 G' v' H' ((s1.trans s2).trans g.stp) (ok2.grow g) rd p
theorem ze_split (ho : ZEj X W o zo) (he : ZEj X W e za) (hs : starEach [e] X.env = [(false, eval e X.env)] := by rfl) (hbase : attributeBase o "split" X.env (eval o X.env) = eval o X.env := by rfl) (hline : (apos.endLine == pos.line) = true := by rfl) :
    ZEj X W (.Call (.Attribute o "split" apos) [e] [] pos) (zM1 mSplit zo za) :=
  PE.imp (pe_split ho he hs hbase hline) fun σ H Q h => tM1_of h fun G H a d v P s r hf k => by
    obtain ⟨b, rfl, h1, h2, h3, h4⟩ := hf
    have r : v = .str b := r
    subst r
    refine ⟨a, b, rfl, rfl, h1, h2, fun p np => ?_⟩
    have g := Grow.alloc (o := .lst ((Txt.split a b).map V.str)) s np
    exact k _ _ _ _ h4 g ⟨p, _, rfl, upd_same, by simpa using h3, reps_strs _⟩
theorem ze_join (ho : ZEj X W o zo) (he : ZEj X W e za) (hs : starEach [e] X.env = [(false, eval e X.env)] := by rfl) (hbase : attributeBase o "join" X.env (eval o X.env) = eval o X.env := by rfl) (hline : (apos.endLine == pos.line) = true := by rfl) :
    ZEj X W (.Call (.Attribute o "join" apos) [e] [] pos) (zM1 mJoin zo za) :=
  PE.imp (pe_join ho he hs hbase hline) fun σ H Q h => tM1_of h fun G H a d v P s r hf k => by
    obtain ⟨ds, ys, rfl, h1, h2, h3⟩ := hf
    obtain ⟨p, xs, rfl, ha, l, rs⟩ := r
    rw [rs.strs h1] at ha
    exact ⟨a, p, ys, rfl, rfl, .inl (SqL.of ha), h2, k _ _ G H h3 (.refl s) rfl⟩
end
end Z
namespace Z
open PySem PySem.Spec PyProof.Rows L2
/-! ### keys, dicts -/
def keyOf : D → Option Key
  | .int i => some (.inl i)
  | .str x => some (.inr x)
  | _ => none
def keyZ : Zv → Option Key
  | .d x => keyOf x
  | _ => none
def getK {α : Type} : List (Key × α) → Key → Option α
  | [], _ => none
  | (a, v) :: r, k => if a = k then some v else getK r k
def putZ {α : Type} (kvs : List (Key × α)) (k : Key) (v : α) : List (Key × α) :=
  if (kvs.any fun kv => decide (kv.1 = k)) = true then kvs.map (fun kv => if kv.1 = k then (kv.1, v) else kv) else kvs ++ [(k, v)]
/-- the pairs of a dict, frozen or not -/
def dicZ (ov : Ov) : Zv → Option (List (Key × Zv))
  | .d (.dic kvs) => some (kvs.map fun q => (q.1, .d q.2))
  | .r n => match ov[n]? with
    | some (.dic kvs) => some kvs
    | _ => none
  | _ => none
/-- the fields of an instance, frozen or not -/
def insZ (ov : Ov) : Zv → Option (Str × List (Str × Zv))
  | .d (.obj c fs) => some (c, fs.map fun q => (q.1, .d q.2))
  | .r n => match ov[n]? with
    | some (.ins c fs) => some (c, fs)
    | _ => none
  | _ => none
section
variable {K : PySem.W.Frag} {t : Th} {G H : Hp} {ov : Ov}
theorem keyZ_rep {z : Zv} {v : V} {k : Key} (r : RepZ K G t z v) (e : keyZ z = some k) : v = kV k := by
  cases z with
  | d x =>
    cases x with
    | int i => cases e; exact r
    | str i => cases e; exact r
    | non => cases e
    | bl _ => cases e
    | tup _ => cases e
    | lst _ => cases e
    | dic _ => cases e
    | obj _ _ => cases e
  | r n => cases e
  | dw => cases e
  | sc _ => cases e
theorem RepZk.ofK : ∀ {kvs : List (Key × D)} {vs : List (Key × V)}, RepK K G kvs vs → RepZk K G t (kvs.map fun q => (q.1, Zv.d q.2)) vs
  | [], _, h => h
  | (_, _) :: _, _, ⟨v, r, e, h, hr⟩ => ⟨v, r, e, h, RepZk.ofK hr⟩
theorem RepZk.ofF : ∀ {kvs : List (Str × D)} {vs : List (Str × V)}, RepF K G kvs vs → RepZk K G t (kvs.map fun q => (q.1, Zv.d q.2)) vs
  | [], _, h => h
  | (_, _) :: _, _, ⟨v, r, e, h, hr⟩ => ⟨v, r, e, h, RepZk.ofF hr⟩
theorem Ok.dicZ (ok : Ok K t G ov H) {z : Zv} {v : V} {kvs : List (Key × Zv)} (r : RepZ K G t z v) (e : Z.dicZ ov z = some kvs) : ∃ a vs, v = .ref a ∧ H a = some (.dK vs) ∧ RepZk K G t kvs vs := by
  cases z with
  | d x =>
    cases x with
    | dic ks => cases e; obtain ⟨a, vs, e1, h, rk⟩ := r; exact ⟨a, vs, e1, ok.sub _ _ h, RepZk.ofK rk⟩
    | int _ => cases e
    | str _ => cases e
    | non => cases e
    | bl _ => cases e
    | tup _ => cases e
    | lst _ => cases e
    | obj _ _ => cases e
  | r n =>
    obtain ⟨a, ha, rfl⟩ := r
    unfold Z.dicZ at e
    cases ho : ov[n]? with
    | none => simp [ho] at e
    | some o =>
      cases o with
      | dic ks =>
        simp only [ho] at e
        cases e
        obtain ⟨_, u, hu, xs, rfl, q⟩ := ok.ob n _ a ho ha (by intro z; cases z)
        exact ⟨a, xs, rfl, hu, q⟩
      | gone => simp [ho] at e
      | lst _ => simp [ho] at e
      | ins _ _ => simp [ho] at e
  | dw => cases e
  | sc _ => cases e
theorem Ok.insZ (ok : Ok K t G ov H) {z : Zv} {v : V} {c : Str} {fs : List (Str × Zv)} (r : RepZ K G t z v) (e : Z.insZ ov z = some (c, fs)) : ∃ a dx vs, v = .ref a ∧ H a = some (.ins (He.ga K c) dx vs) ∧ RepZk K G t fs vs := by
  cases z with
  | d x =>
    cases x with
    | obj c' ks => cases e; obtain ⟨a, dx, vs, e1, h, rk⟩ := r; exact ⟨a, dx, vs, e1, ok.sub _ _ h, RepZk.ofF rk⟩
    | int _ => cases e
    | str _ => cases e
    | non => cases e
    | bl _ => cases e
    | tup _ => cases e
    | lst _ => cases e
    | dic _ => cases e
  | r n =>
    obtain ⟨a, ha, rfl⟩ := r
    unfold Z.insZ at e
    cases ho : ov[n]? with
    | none => simp [ho] at e
    | some o =>
      cases o with
      | ins c' ks =>
        simp only [ho] at e
        cases e
        obtain ⟨_, u, hu, dx, xs, rfl, q⟩ := ok.ob n _ a ho ha (by intro z; cases z)
        exact ⟨a, dx, xs, rfl, hu, q⟩
      | gone => simp [ho] at e
      | lst _ => simp [ho] at e
      | dic _ => simp [ho] at e
  | dw => cases e
  | sc _ => cases e
theorem RepZk.getK : ∀ {kvs : List (Key × Zv)} {vs : List (Key × V)} {k : Key} {z : Zv}, RepZk K G t kvs vs → Z.getK kvs k = some z → ∃ v, valV vs k = some v ∧ RepZ K G t z v
  | [], _, _, _, _, e => by cases e
  | (a, y) :: r, _, k, z, ⟨v, vr, e1, h, hr⟩, e => by
    subst e1
    unfold Z.getK at e
    by_cases hk : a = k
    · rw [if_pos hk] at e
      cases e
      exact ⟨v, valV_pos hk, h⟩
    · rw [if_neg hk] at e
      obtain ⟨u, h1, h2⟩ := RepZk.getK hr e
      refine ⟨u, ?_, h2⟩
      unfold valV at h1 ⊢
      rw [List.find?_cons]
      simp only [hk, decide_false]
      exact h1
theorem RepZk.getK0 : ∀ {kvs : List (Key × Zv)} {vs : List (Key × V)} {k : Key}, RepZk K G t kvs vs → (valV vs k).isSome = (Z.getK kvs k).isSome
  | [], _, _, h => by have h : _ = _ := h; subst h; rfl
  | (a, y) :: r, _, k, ⟨v, vr, e1, h, hr⟩ => by
    subst e1
    unfold Z.getK
    by_cases hk : a = k
    · rw [if_pos hk, valV_pos (p := (a, v)) hk]; rfl
    · rw [if_neg hk, ← RepZk.getK0 hr]
      unfold valV
      rw [List.find?_cons]
      simp only [hk, decide_false]
theorem RepZk.any {p : Key → Bool} : ∀ {kvs : List (Key × Zv)} {vs : List (Key × V)}, RepZk K G t kvs vs → (vs.any fun kv => p kv.1) = kvs.any fun kv => p kv.1
  | [], _, h => by have h : _ = _ := h; subst h; rfl
  | (a, y) :: r, _, ⟨v, vr, e1, h, hr⟩ => by subst e1; rw [List.any_cons, List.any_cons, RepZk.any hr]
theorem RepZk.repl {k : Key} {z : Zv} {w : V} (hz : RepZ K G t z w) : ∀ {kvs : List (Key × Zv)} {vs : List (Key × V)}, RepZk K G t kvs vs → RepZk K G t (kvs.map fun kv => if kv.1 = k then (kv.1, z) else kv) (vs.map fun kv => if kv.1 = k then (kv.1, w) else kv)
  | [], _, h => by have h : _ = _ := h; subst h; rfl
  | (a, y) :: r, _, ⟨v, vr, e1, h, hr⟩ => by
    subst e1
    rw [List.map_cons, List.map_cons]
    by_cases hk : a = k
    · simp only [hk, if_true]; exact ⟨w, _, rfl, hz, RepZk.repl hz hr⟩
    · simp only [hk, if_false]; exact ⟨v, _, rfl, h, RepZk.repl hz hr⟩
theorem RepZk.snoc {κ : Type} {k : κ} {z : Zv} {w : V} (hz : RepZ K G t z w) : ∀ {kvs : List (κ × Zv)} {vs : List (κ × V)}, RepZk K G t kvs vs → RepZk K G t (kvs ++ [(k, z)]) (vs ++ [(k, w)])
  | [], _, h => by have h : _ = _ := h; subst h; exact ⟨w, [], rfl, hz, rfl⟩
  | (a, y) :: r, _, ⟨v, vr, e1, h, hr⟩ => by subst e1; exact ⟨v, _, rfl, h, RepZk.snoc hz hr⟩
theorem RepZk.len {κ : Type} : ∀ {kvs : List (κ × Zv)} {vs : List (κ × V)}, RepZk K G t kvs vs → vs.length = kvs.length
  | [], _, h => by have h : _ = _ := h; subst h; rfl
  | (a, y) :: r, _, ⟨v, vr, e1, h, hr⟩ => by subst e1; simp [RepZk.len hr]
theorem RepZk.put {kvs : List (Key × Zv)} {vs : List (Key × V)} {k : Key} {z : Zv} {w : V} (r : RepZk K G t kvs vs) (hz : RepZ K G t z w) : RepZk K G t (putZ kvs k z) (putK vs k w) := by
  unfold putZ putK
  rw [r.any (p := fun a => decide (a = k))]
  split
  · exact r.repl hz
  · exact r.snoc hz
theorem RepZk.lookup : ∀ {fs : List (Str × Zv)} {vs : List (Str × V)} {f : Str} {z : Zv}, RepZk K G t fs vs → fs.lookup f = some z → ∃ v, vs.lookup f = some v ∧ RepZ K G t z v
  | [], _, _, _, _, e => by simp at e
  | (k, x) :: fs, _, f, d, ⟨v, r, e1, h, hr⟩, e => by
    subst e1
    rw [List.lookup_cons] at e ⊢
    cases hb : f == k with
    | true => rw [hb] at e; simp at e; subst e; exact ⟨v, rfl, h⟩
    | false => rw [hb] at e; exact RepZk.lookup hr e
theorem RepZk.lookup0 : ∀ {fs : List (Str × Zv)} {vs : List (Str × V)} {f : Str}, RepZk K G t fs vs → fs.lookup f = none → vs.lookup f = none
  | [], _, _, h, e => by have h : _ = _ := h; subst h; rfl
  | (k, x) :: fs, _, f, ⟨v, r, e1, h, hr⟩, e => by
    subst e1
    rw [List.lookup_cons] at e ⊢
    cases hb : f == k with
    | true => rw [hb] at e; cases e
    | false => rw [hb] at e; exact RepZk.lookup0 hr e
end
def putFz (f : Str) (z : Zv) : List (Str × Zv) → List (Str × Zv)
  | [] => [(f, z)]
  | (g, x) :: r => if g = f then (g, z) :: r else (g, x) :: putFz f z r
section
variable {K : PySem.W.Frag} {t : Th} {G H : Hp} {ov : Ov}
theorem RepZk.putF {f : Str} {z : Zv} {w : V} (hz : RepZ K G t z w) : ∀ {fs : List (Str × Zv)} {vs : List (Str × V)}, RepZk K G t fs vs → RepZk K G t (putFz f z fs) (L2.putF f w vs)
  | [], _, h => by have h : _ = _ := h; subst h; exact ⟨w, [], rfl, hz, rfl⟩
  | (a, y) :: r, _, ⟨v, vr, e1, h, hr⟩ => by
    subst e1
    unfold putFz L2.putF
    by_cases hk : a = f
    · rw [if_pos hk, if_pos hk]; exact ⟨w, vr, rfl, hz, hr⟩
    · rw [if_neg hk, if_neg hk]; exact ⟨v, _, rfl, h, RepZk.putF hz hr⟩
/-- an overlay object changes -/
theorem Ok.write (ok : Ok K t G ov H) {n : Nat} {a : Addr} {o o' : OO} {u' : HO} (e : ov[n]? = some o) (ea : t.ad[n]? = some a) (hg : o ≠ .gone) (r : RepO K G t o' u') : Ok K t G (ov.set n o') (upd H a u') ∧ Stp t G H t G (upd H a u') := by
  obtain ⟨ga, _⟩ := ok.ob n o a e ea hg
  have hn : n < ov.length := (List.getElem?_eq_some_iff.mp e).1
  have hm := List.mem_of_getElem? ea
  refine ⟨⟨by simpa using ok.len, fun b u eb => ?_, fun b hb => ?_, fun m o2 b h1 h2 h3 => ?_, ok.nd, fun x hx => ?_⟩, ⟨Same.refl G, fun b o2 h n' => ?_, fun _ _ _ h _ => h, fun _ _ h => h, fun _ h => h, fun _ h n' => (n' h).elim⟩⟩
  · have hb : b ≠ a := ne_of_none eb ga
    rw [upd_ne hb]; exact ok.sub b u eb
  · by_cases hb' : b = a
    · subst hb'; exact ⟨u', upd_same⟩
    · rw [upd_ne hb']; exact ok.thr b hb
  · by_cases hm' : m = n
    · subst hm'
      rw [List.getElem?_set_self hn] at h1
      cases h1
      have : a = b := Option.some.inj (ea.symm.trans h2)
      subst this
      exact ⟨ga, u', upd_same, r⟩
    · rw [List.getElem?_set_ne (Ne.symm hm')] at h1
      obtain ⟨gb, u2, hu2, q⟩ := ok.ob m o2 b h1 h2 h3
      have hb : b ≠ a := fun z => by
        subst z
        obtain ⟨i1, e1⟩ := List.getElem?_eq_some_iff.mp h2
        obtain ⟨i2, e2⟩ := List.getElem?_eq_some_iff.mp ea
        exact hm' ((List.getElem_inj ok.nd).mp (e1.trans e2.symm))
      exact ⟨gb, u2, by rw [upd_ne hb]; exact hu2, q⟩
  · obtain ⟨d1, e1, e2, e3, q1, q2, q3⟩ := ok.dw x hx
    obtain ⟨ls, cs, p1, p2, p3, h1, h2, h3, h4⟩ := id d1.ex
    exact ⟨⟨ls, cs, p1, p2, p3, by rw [upd_ne (ne_mem hm q1)]; exact h1, by rw [upd_ne (ne_mem hm q2)]; exact h2, by rw [upd_ne (ne_mem hm q3)]; exact h3, h4⟩, e1, e2, e3, q1, q2, q3⟩
  · have hb : b ≠ a := fun z => n' (.inl (by subst z; exact hm))
    rw [upd_ne hb]; exact h
/-- a new overlay object -/
theorem Ok.new (ok : Ok K t G ov H) {p : Addr} {o : OO} {u : HO} (np : H p = none) (hg : o ≠ .gone) (r : RepO K G t o u) : Ok K ⟨t.ad ++ [p], t.dw⟩ G (ov ++ [o]) (upd H p u) ∧ Stp t G H ⟨t.ad ++ [p], t.dw⟩ G (upd H p u) := by
  have pn : p ∉ t.ad := fun h => by obtain ⟨u, e⟩ := ok.thr p h; rw [np] at e; cases e
  have th : ∀ (n : Nat) a, t.ad[n]? = some a → (t.ad ++ [p])[n]? = some a := fun n a h => by
    rw [List.getElem?_append_left (List.getElem?_eq_some_iff.mp h).1]; exact h
  have gp : G p = none := sub_none ok.sub np
  refine ⟨⟨by simp [ok.len], fun b u' eb => ?_, fun b hb => ?_, fun m o2 b h1 h2 h3 => ?_, ?_, fun x hx => ?_⟩, ⟨Same.refl G, fun b o2 h _ => ?_, fun _ _ _ h _ => h, th, fun _ h => h, fun b h n' => ?_⟩⟩
  · rw [upd_ne (ne_of_none eb gp)]; exact ok.sub b u' eb
  · by_cases hb' : b = p
    · subst hb'; exact ⟨u, upd_same⟩
    · rw [upd_ne hb']
      rcases List.mem_append.mp hb with h | h
      · exact ok.thr b h
      · exact (hb' (by simpa using h)).elim
  · by_cases hm : m < ov.length
    · rw [List.getElem?_append_left hm] at h1
      have hm2 : m < t.ad.length := by rw [ok.len]; exact hm
      have h2' : (t.ad ++ [p])[m]? = some b := h2
      rw [List.getElem?_append_left hm2] at h2'
      obtain ⟨gb, u2, hu2, q⟩ := ok.ob m o2 b h1 h2' h3
      exact ⟨gb, u2, by rw [upd_ne (ne_of_none hu2 np)]; exact hu2, RepO.th (t := t) (t2 := ⟨t.ad ++ [p], t.dw⟩) (Same.refl G) th (fun _ h => h) q⟩
    · rw [List.getElem?_append_right (by omega)] at h1
      have h2' : (t.ad ++ [p])[m]? = some b := h2
      rw [List.getElem?_append_right (by rw [ok.len]; omega)] at h2'
      have e0 : m - ov.length = 0 := by
        cases hq : m - ov.length with
        | zero => rfl
        | succ j => rw [hq] at h1; simp at h1
      rw [e0] at h1
      rw [ok.len, e0] at h2'
      have e1 : o = o2 := by simpa using h1
      have e2 : p = b := by simpa using h2'
      subst e1 e2
      exact ⟨gp, u, upd_same, RepO.th (t := t) (t2 := ⟨t.ad ++ [p], t.dw⟩) (Same.refl G) th (fun _ h => h) r⟩
  · rw [List.nodup_append]
    exact ⟨ok.nd, by simp, fun a ha b hb e => by
      have : b = p := by simpa using hb
      subst this; subst e; exact pn ha⟩
  · obtain ⟨d1, e1, e2, e3, q1, q2, q3⟩ := ok.dw x hx
    obtain ⟨ls, cs, p1, p2, p3, h1, h2, h3, h4⟩ := id d1.ex
    have n1 := ne_of_none h1 np
    have n2 := ne_of_none h2 np
    have n3 := ne_of_none h3 np
    exact ⟨d1.same (same_upd np), e1, e2, e3, by simp [q1, n1], by simp [q2, n2], by simp [q3, n3]⟩
  · rw [upd_ne (ne_of_none h np)]; exact h
  · rcases h with h | h
    · rcases List.mem_append.mp h with h | h
      · exact (n' (.inl h)).elim
      · have : b = p := by simpa using h
        subst this; exact np
    · exact (n' (.inr h)).elim
end
/-! ### dicts read and written, fields -/
def zDGet (zo zk : ZE) : ZE := fun env ov Q E => zo env ov (fun x ov1 => zk env ov1 (fun y ov2 => ∃ k kvs z, keyZ y = some k ∧ dicZ ov2 x = some kvs ∧ getK kvs k = some z ∧ Q z ov2) E) E
def zDIn (zk zo : ZE) : ZE := fun env ov Q E => zk env ov (fun y ov1 => zo env ov1 (fun x ov2 => ∃ k kvs, keyZ y = some k ∧ dicZ ov2 x = some kvs ∧ Q (.d (.bl (getK kvs k).isSome)) ov2) E) E
def zDNotIn (zk zo : ZE) : ZE := fun env ov Q E => zk env ov (fun y ov1 => zo env ov1 (fun x ov2 => ∃ k kvs, keyZ y = some k ∧ dicZ ov2 x = some kvs ∧ Q (.d (.bl (!(getK kvs k).isSome))) ov2) E) E
def zDPut (zo zk zv : ZE) : ZS := fun E env ov => zv env ov (fun v ov1 => zo env ov1 (fun x ov2 => zk env ov2 (fun y ov3 => ∃ n kvs k, x = .r n ∧ ov3[n]? = some (.dic kvs) ∧ keyZ y = some k ∧ kvs.length < sizeLine ∧ E.nx env (ov3.set n (.dic (putZ kvs k v)))) fun x ov1 => E.xr x env ov1) fun x ov1 => E.xr x env ov1) fun x ov1 => E.xr x env ov1
/-- o.f, o an instance of class c -/
def zFld (c f : Str) (zo : ZE) : ZE := fun env ov Q E => zo env ov (fun x ov1 => ∃ fs z, insZ ov1 x = some (c, fs) ∧ fs.lookup f = some z ∧ Q z ov1) E
def zsFld (c f : Str) (zo zv : ZE) : ZS := fun E env ov => zv env ov (fun v ov1 => zo env ov1 (fun x ov2 => ∃ n fs, x = .r n ∧ ov2[n]? = some (.ins c fs) ∧ fs.length < 1000 ∧ E.nx env (ov2.set n (.ins c (putFz f v fs)))) fun x ov1 => E.xr x env ov1) fun x ov1 => E.xr x env ov1
/-- l.append(e), l an overlay list -/
def isL : OO → Bool
  | .lst _ => true
  | _ => false
def zApp (zo za : ZE) : ZE := fun env ov Q E => zo env ov (fun x ov1 => ∃ n, x = .r n ∧ (ov1[n]?.map isL) = some true ∧ za env ov1 (fun y ov2 => ∃ zs, ov2[n]? = some (.lst zs) ∧ zs.length < sizeLine ∧ Q (.d .non) (ov2.set n (.lst (zs ++ [y])))) E) E
section
variable {X : Cx} {W : WX} {o i value : Expr} {zo zk zv : ZE} {pos : Pos}
theorem ze_dget (hu : X.A.units + 1 < cLine) (ho : ZEj X W o zo) (hi : ZEj X W i zk) (hs : NoSl i := by exact fun _ _ => rfl) : ZEj X W (.Subscript o i pos) (zDGet zo zk) := by
  refine PE.imp (pe_dget hu ho hi hs) fun σ H Q ⟨t, G, env, ov, Qz, Ez, A, q, pe, px⟩ => ?_
  refine ⟨t, G, env, ov, _, Ez, A, q, fun x ov1 t1 G1 v H1 s1 ok1 r1 q1 => ?_, px⟩
  refine ⟨t1, G1, env, ov1, _, Ez, A.step s1 ok1, q1, fun y ov2 t2 G2 u H2 s2 ok2 r2 q2 => ?_, px.step s1⟩
  obtain ⟨k, kvs, z, e1, e2, e3, q2⟩ := q2
  obtain ⟨a, vs, rfl, ha, rk⟩ := ok2.dicZ (r1.mono s2) e2
  obtain ⟨w, hw, rw'⟩ := rk.getK e3
  have ek := keyZ_rep r2 e1
  subst ek
  exact ⟨a, w, rfl, .inl ⟨vs, k, .inl ha, rfl, hw.symm⟩, pe z ov2 t2 G2 w H2 (s1.trans s2) ok2 rw' q2⟩
theorem ze_din (hu : X.A.units + 1 < cLine) (hi : ZEj X W i zk) (ho : ZEj X W o zo) (hm : behindInMarks .In o = false := by rfl) : ZEj X W (.Compare i [.In] [o] pos) (zDIn zk zo) := by
  refine PE.imp (pe_cmp (pc_din hu hi ho) hm) fun σ H Q ⟨t, G, env, ov, Qz, Ez, A, q, pe, px⟩ => ?_
  refine ⟨t, G, env, ov, _, Ez, A, q, fun x ov1 t1 G1 v H1 s1 ok1 r1 q1 => ?_, px⟩
  refine ⟨t1, G1, env, ov1, _, Ez, A.step s1 ok1, q1, fun y ov2 t2 G2 u H2 s2 ok2 r2 q2 => ?_, px.step s1⟩
  obtain ⟨k, kvs, e1, e2, q2⟩ := q2
  obtain ⟨a, vs, rfl, ha, rk⟩ := ok2.dicZ r2 e2
  have ek := keyZ_rep r1 e1
  subst ek
  exact ⟨a, valV vs k, rfl, .inl ⟨vs, k, .inl ha, rfl, rfl⟩, by rw [rk.getK0]; exact pe _ ov2 t2 G2 _ H2 (s1.trans s2) ok2 (show RepZ _ _ _ (.d (.bl _)) _ from rfl) q2⟩
theorem ze_dnotin (hu : X.A.units + 1 < cLine) (hi : ZEj X W i zk) (ho : ZEj X W o zo) (hm : behindInMarks .NotIn o = false := by rfl) : ZEj X W (.Compare i [.NotIn] [o] pos) (zDNotIn zk zo) := by
  refine PE.imp (pe_cmp (pc_dnotin hu hi ho) hm) fun σ H Q ⟨t, G, env, ov, Qz, Ez, A, q, pe, px⟩ => ?_
  refine ⟨t, G, env, ov, _, Ez, A, q, fun x ov1 t1 G1 v H1 s1 ok1 r1 q1 => ?_, px⟩
  refine ⟨t1, G1, env, ov1, _, Ez, A.step s1 ok1, q1, fun y ov2 t2 G2 u H2 s2 ok2 r2 q2 => ?_, px.step s1⟩
  obtain ⟨k, kvs, e1, e2, q2⟩ := q2
  obtain ⟨a, vs, rfl, ha, rk⟩ := ok2.dicZ r2 e2
  have ek := keyZ_rep r1 e1
  subst ek
  exact ⟨a, valV vs k, rfl, .inl ⟨vs, k, .inl ha, rfl, rfl⟩, by rw [rk.getK0]; exact pe _ ov2 t2 G2 _ H2 (s1.trans s2) ok2 (show RepZ _ _ _ (.d (.bl _)) _ from rfl) q2⟩
theorem zs_dput {pos' : Pos} (hu : X.A.units + 1 < cLine) (ho : ZEj X W o zo) (hi : ZEj X W i zk) (hv : ZEj X W value zv) (hs : swapsWith value (some (.Subscript o i pos')) pos.line X.env = pure false := by rfl) : ZSj X W (.Assign [.Subscript o i pos'] value pos) (zDPut zo zk zv) := by
  refine PS.imp (ps_dput hu ho hi hv hs) fun D σ H ⟨t, G, env, ov, E, A, q, p⟩ => ?_
  refine ⟨t, G, env, ov, _, _, A, q, fun x ov1 t1 G1 v H1 s1 ok1 r1 q1 => ?_, p.xr.at A⟩
  refine ⟨t1, G1, env, ov1, _, _, A.step s1 ok1, q1, fun y ov2 t2 G2 u H2 s2 ok2 r2 q2 => ?_, (p.xr.step s1).at (A.step s1 ok1)⟩
  have s12 := s1.trans s2
  refine ⟨t2, G2, env, ov2, _, _, A.step s12 ok2, q2, fun w ov3 t3 G3 u3 H3 s3 ok3 r3 q3 => ?_, (p.xr.step s12).at (A.step s12 ok2)⟩
  obtain ⟨n, kvs, k, e1, e2, e3, l, q3⟩ := q3
  subst e1
  have s13 := s12.trans s3
  obtain ⟨a, ha, rfl⟩ := r2.mono s3
  obtain ⟨_, uu, hu', vs, rfl, rk⟩ := ok3.ob n _ a e2 ha (by intro z; cases z)
  have ek := keyZ_rep r3 e3
  subst ek
  have rk2 := rk.put (k := k) (r1.mono (s2.trans s3))
  obtain ⟨ok4, s4⟩ := ok3.write e2 ha (by intro z; cases z) (show RepO X.K G3 t3 (.dic (putZ kvs k x)) (.dK (putK vs k v)) from ⟨_, rfl, rk2⟩)
  exact ⟨a, _, rfl, .inl ⟨vs, k, hu', rfl, by rw [rk.len]; exact l, rfl⟩, p.nx env _ t3 G3 σ _ (s13.trans s4) (A.step (s13.trans s4) ok4) q3⟩
theorem ze_fld {c f : Str} (he : ZEj X W o zo) (hc : Cls X.K (He.ga X.K c)) (hn : NoAttr X.K (He.ga X.K c) f) (hb : attributeBase o f X.env (eval o X.env) = eval o X.env := by rfl) : ZEj X W (.Attribute o f pos) (zFld c f zo) := by
  refine PE.imp (pe_fld he hb) fun σ H Q ⟨t, G, env, ov, Qz, Ez, A, q, pe, px⟩ => ?_
  refine ⟨t, G, env, ov, _, Ez, A, q, fun x ov1 t1 G1 v H1 s1 ok1 r1 q1 => ?_, px⟩
  obtain ⟨fs, z, e1, e2, q1⟩ := q1
  obtain ⟨a, dx, vs, rfl, ha, rk⟩ := ok1.insZ r1 e1
  obtain ⟨w, hw, rw'⟩ := rk.lookup e2
  exact ⟨a, _, dx, vs, w, rfl, ha, hc, hn, hw, pe z ov1 t1 G1 w H1 s1 ok1 rw' q1⟩
theorem zs_fld {c f : Str} {pos' : Pos} (ho : ZEj X W o zo) (hv : ZEj X W value zv) (hc : Cls X.K (He.ga X.K c)) (hn : NoAttr X.K (He.ga X.K c) f) (hs : swapsWith value (some (.Attribute o f pos')) pos.line X.env = pure false := by rfl) :
    ZSj X W (.Assign [.Attribute o f pos'] value pos) (zsFld c f zo zv) := by
  refine PS.imp (ps_fld ho hv hs) fun D σ H ⟨t, G, env, ov, E, A, q, p⟩ => ?_
  refine ⟨t, G, env, ov, _, _, A, q, fun x ov1 t1 G1 v H1 s1 ok1 r1 q1 => ?_, p.xr.at A⟩
  refine ⟨t1, G1, env, ov1, _, _, A.step s1 ok1, q1, fun y ov2 t2 G2 u H2 s2 ok2 r2 q2 => ?_, (p.xr.step s1).at (A.step s1 ok1)⟩
  have s12 := s1.trans s2
  obtain ⟨n, fs, e1, e2, l, q2⟩ := q2
  subst e1
  obtain ⟨a, ha, rfl⟩ := r2
  obtain ⟨_, uu, hu', dx, vs, rfl, rk⟩ := ok2.ob n _ a e2 ha (by intro z; cases z)
  have rk2 := rk.putF (f := f) (r1.mono s2)
  obtain ⟨ok4, s4⟩ := ok2.write e2 ha (by intro z; cases z) (show RepO X.K G2 t2 (.ins c (putFz f x fs)) (.ins (He.ga X.K c) dx (L2.putF f v vs)) from ⟨dx, _, rfl, rk2⟩)
  exact ⟨a, _, dx, vs, rfl, hu', hc, hn, by rw [rk.len]; exact l, p.nx env _ t2 G2 σ _ (s12.trans s4) (A.step (s12.trans s4) ok4) q2⟩
end
end Z
namespace PySem.W
open PySem PySem.Spec PySem.Calls PyProof.Rows Builtin
section
variable {prog : Program} {w : World} {A : Around} {E : Value → Shared → Prop} {s : Shared} {K : Frag} {x C L f : Addr} {h₀ : Heap} {m : Str → Option Value} {ox : Obj} {od : Option Obj} {name : Str} {b tb : Value}
theorem zifBound_B {M : Model} {id : String} {args : List Value} {Q : Option Value → Shared → Prop} (X : K.In s.heap) (I : InstAt s.heap x ox C od) (hs : findIn K (.ref C) name = some (some (.builtin id)))
    (hb : ∀ self, bindSpecial (.builtin id) self = pure (.builtin id, [self])) (h : wpAny M A (call (.builtin id) (.ref x :: args)) (fun v => Q (some v)) E s) : wpAny M A (callSpecialIfBound? (.ref x) name args) Q E s := by
  simp only [callSpecialIfBound?, bindSpecialIfBound?]
  refine wpAny_holding (wpAny_bind (wpAny_bind (wpAny_bind (I.type.here ((looks_findIn X hs).here ?_)))))
  refine wpAny_bind (wpAny_askSetting (wpAny_ite ?_))
  have fin : wpAny M A (call (.builtin id) ([.ref x] ++ args) >>= fun v => pure (some v)) Q E s := wpAny_bind (wpAny_mono h (fun v s' h' => wpAny_pure h') fun _ _ h' => h')
  split
  · exact wpAny_bind ((Looks.of_pure (hb _)).here (wpAny_pure (by exact fin)))
  · exact wpAny_tryCatch (wpAny_bind ((Looks.of_pure (hb _)).here (wpAny_pure (by exact fin))))
theorem zone_ne {Q : Value → Shared → Prop} (hu : A.in1.units < cLine) (X : K.In s.heap) (I : InstAt s.heap x ox C od) (hm : mroIn K C (.type "object") = some true) (hne : findIn K (.ref C) "__ne__" = some (some (.builtin "object.__ne__")))
    (hs : findIn K (.ref C) "__eq__" = some (some (.ref f))) (hf : isFn K (.ref f) = true) (h : wpAny (model prog w) A.in1 (call (.ref f) [.ref x, b]) (fun v s' => ∃ c, v = .bool c ∧ Q (.bool (!c)) s') E s) :
    wpAny (model prog w) A (tryCompare (.ref x) "__ne__" b) (fun r s' => ∃ v, r = some v ∧ Q v s') E s := by
  unfold tryCompare
  have body : wpAny (model prog w) A.in1 (Builtin.«object.__ne__» ⟨[.ref x, b], []⟩) (fun fin s' => ∃ c, fin = .done (.ret (.bool c)) ∧ Q (.bool c) s') E s := by
    unfold Builtin.«object.__ne__»
    repeat (first
      | with_reducible refine wpAny_cRoomFor hu ?_
      | (refine wpAny_bind (m := callSpecialIfBound? (.ref x) (Str.ofString "__eq__") [b])
          (ifBound_K X I hs hf (wpAny_mono h (fun r s' hr => by
            obtain ⟨c, rfl, hq⟩ := hr
            repeat (first | exact ⟨_, rfl, hq⟩ | exact wpAny_pure ⟨_, rfl, hq⟩ | exact wpAny_truthy_bool ⟨_, rfl, hq⟩ | (refine wpAny_bind (m := truthy (.bool _)) (wpAny_truthy_bool ?_)) | wp_step)) fun _ _ e => e)))
      | wp_step)
  refine wpAny_bind (zifBound_B X I hne F.cmp_object.ne.bind (wpAny_call (codeAny_call_builtin F.cmp_object.ne.plain F.cmpEntry_ne
    (check_slot (i := "object.__ne__") (owner := "object") (n := "__ne__") F.cmpKind_ne F.cmpSplit_ne (I.type.andThen (looks_mroIn X hm)) (F.cmpArgs_ne _ _) (wpAny_mono body (fun fin s' hv => ?_) fun _ _ e => e)))))
  obtain ⟨c, rfl, hq⟩ := hv
  first | exact ⟨_, rfl, hq⟩ | exact wpAny_pure ⟨_, rfl, hq⟩ | exact wpAny_pure (wpAny_pure ⟨_, rfl, hq⟩)
theorem zne_K {Q : Value → Shared → Prop} (hu : A.units + 1 < cLine) (F : Fr h₀ L s.heap m) (X₀ : K.In h₀) (I : InstAt s.heap x ox C od) (hb : Looks (model prog w) s.heap (typeOf b) tb) (hn : notFirst K C tb = true)
    (hm : mroIn K C (.type "object") = some true) (hne : findIn K (.ref C) "__ne__" = some (some (.builtin "object.__ne__")))
    (hs : findIn K (.ref C) "__eq__" = some (some (.ref f))) (hf : isFn K (.ref f) = true)
    (h : wpAny (model prog w) A.in1 (call (.ref f) [.ref x, b]) (fun v s' => ∃ c, v = .bool c ∧ Q (.bool (!c)) s') E s) : wpAny (model prog w) A (richCompare .NotEq (.ref x) b) Q E s := by
  have X := X₀.keeps F.keep
  have one := zone_ne (Q := Q) (A := A) hu X I hm hne hs hf h
  unfold richCompare
  simp only [oneThing_ref]
  refine wpAny_holding (wpAny_bind (wpAny_cRoomFor (Nat.lt_of_succ_lt hu) ?_))
  rw [cmpInfo_NotEq]
  dsimp only
  refine wpAny_bind (I.type.here (wpAny_bind (hb.here ?_)))
  split
  · rename_i q
    have e : subIn K tb (.ref C) = some false := by
      rcases Bool.or_eq_true_iff.mp hn with e | e
      · rw [beq_iff_eq.mp e] at q; simp at q
      · exact beq_iff_eq.mp e
    refine wpAny_bind ((looks_subIn X e).here ?_)
    simp only [Bool.false_eq_true, if_false]
    refine wpAny_bind (wpAny_mono one (fun r s' z => ?_) fun _ _ e => e)
    obtain ⟨v, rfl, hq⟩ := z
    exact wpAny_pure hq
  · refine wpAny_bind (wpAny_pure ?_)
    simp only [Bool.false_eq_true, if_false]
    refine wpAny_bind (wpAny_mono one (fun r s' z => ?_) fun _ _ e => e)
    obtain ⟨v, rfl, hq⟩ := z
    exact wpAny_pure hq
end
end PySem.W
namespace Z
open PySem PySem.Spec PyProof.Rows L2
/-- what == and != of an own class ask of the module -/
structure EqC (P : Program) (w : World) (K : PySem.W.Frag) (mg : Str → Option Value) (base : Heap) (c : Str) (k : Nat) (ps : List Str) (zs : ZSp) : Prop where
  fn : ∃ f fd, PySem.W.findIn K (.ref (He.ga K c)) "__eq__" = some (some (.ref f)) ∧ PySem.W.isFn K (.ref f) = true ∧ Binds K fd ps [] ∧ FnOk P w K mg base (L2.CX P w) k f fd ps (lift K zs)
  ne : PySem.W.findIn K (.ref (He.ga K c)) "__ne__" = some (some (.builtin "object.__ne__"))
  mro : PySem.W.mroIn K (He.ga K c) (.type "object") = some true
/-- x == y, x an instance of class c, y of the same class or data of a built-in class -/
def okY (c : Str) : D → Bool
  | .obj c' _ => decide (c' = c)
  | .dic _ => false
  | _ => true
def zEqO (c : Str) (sp : ZSp) (za zb : ZE) : ZE := fun env ov Q E => za env ov (fun x ov1 => zb env ov1 (fun y ov2 => ∃ fs dy, x = .d (.obj c fs) ∧ y = .d dy ∧ okY c dy = true ∧ sp [x, y] [] (fun r _ => r.isD = true ∧ ∃ b, r = .d (.bl b) ∧ Q (.d (.bl b)) ov2) noX) E) E
def zNeO (c : Str) (sp : ZSp) (za zb : ZE) : ZE := fun env ov Q E => za env ov (fun x ov1 => zb env ov1 (fun y ov2 => ∃ fs dy, x = .d (.obj c fs) ∧ y = .d dy ∧ okY c dy = true ∧ sp [x, y] [] (fun r _ => r.isD = true ∧ ∃ b, r = .d (.bl b) ∧ Q (.d (.bl (!b))) ov2) noX) E) E
section
variable {X : Cx} {W : WX} {a b : Expr} {za zb : ZE} {pos : Pos} {c : Str} {k : Nat} {ps : List Str} {sp : ZSp}
theorem ty_sub {K : PySem.W.Frag} {C : Addr} {t : String} (h : t = "NoneType" ∨ t = "bool" ∨ t = "int" ∨ t = "str" ∨ t = "tuple" ∨ t = "list" ∨ t = "dict") : PySem.W.subIn K (.type t) (.ref C) = some false := by
  rcases h with rfl | rfl | rfl | rfl | rfl | rfl | rfl <;> kernel_rfl
theorem tyN_all {d : D} {t : String} (h : tyN d = some t) : t = "NoneType" ∨ t = "bool" ∨ t = "int" ∨ t = "str" ∨ t = "tuple" ∨ t = "list" ∨ t = "dict" := by
  cases d <;> cases h <;> simp
/-- the type of y, for the order of the two looks -/
theorem looks_ty {pins : List (Addr × Obj)} {σ : L2.St} {H G : Hp} {s : Shared} {y : D} {v : V} {u : Value} (I : Inv X pins σ H s) (sg : Same G H) (r : Rep X.K G y v) (ru : RelV v u) (ok : okY c y = true) :
    ∃ tb, PySem.W.Looks (model X.prog X.w) s.heap (typeOf u) tb ∧ PySem.W.notFirst X.K (He.ga X.K c) tb = true := by
  cases y with
  | obj c' fs =>
    have e : c' = c := of_decide_eq_true ok
    subst e
    obtain ⟨a, dx, vs, rfl, ha, _⟩ := r
    cases ru
    obtain ⟨mA, J, _⟩ := ins_get I.hok (sg _ _ ha)
    obtain ⟨od, J, _⟩ := J.look
    exact ⟨_, J.type, by simp [PySem.W.notFirst]⟩
  | non => have r : v = _ := r; subst r; cases ru; exact ⟨.type "NoneType", PySem.W.Looks.of_pure rfl, by simp [PySem.W.notFirst, ty_sub]⟩
  | bl _ => have r : v = _ := r; subst r; cases ru; exact ⟨.type "bool", PySem.W.Looks.of_pure rfl, by simp [PySem.W.notFirst, ty_sub]⟩
  | int _ => have r : v = _ := r; subst r; obtain ⟨t, rfl⟩ := ru; exact ⟨.type "int", PySem.W.Looks.of_pure rfl, by simp [PySem.W.notFirst, ty_sub]⟩
  | str _ => have r : v = _ := r; subst r; obtain ⟨t, rfl⟩ := ru; exact ⟨.type "str", PySem.W.Looks.of_pure rfl, by simp [PySem.W.notFirst, ty_sub]⟩
  | tup ds =>
    obtain ⟨a, xs, rfl, ha, _⟩ := r
    cases ru
    obtain ⟨its, _, ⟨o, ho, hc, _⟩, _⟩ := I.tuple (Same.seqT sg ha)
    exact ⟨.type "tuple", fun A Q E s' kp q => wpAny_typeOf_ref (kp _ _ ho) (by rw [hc]; exact q), by simp [PySem.W.notFirst, ty_sub]⟩
  | lst ds =>
    obtain ⟨a, xs, rfl, ha, _⟩ := r
    cases ru
    obtain ⟨its, _, ⟨o, n, ho, hc, _⟩, _⟩ := I.list (SqL.of (sg _ _ ha))
    exact ⟨.type "list", fun A Q E s' kp q => wpAny_typeOf_ref (kp _ _ ho) (by rw [hc]; exact q), by simp [PySem.W.notFirst, ty_sub]⟩
  | dic ds => cases ok
/-- the own == called -/
theorem run_eq {K' : Around} (hk : EqC X.prog X.w X.K X.mg X.base c k ps sp) (hroom : Room k K') (hfr : K'.frames = X.A.frames) {pins : List (Addr × Obj)} {σ : L2.St} {H : Hp} {s : Shared} {x : Addr} {y : V} {u : Value} {Q : Value → Shared → Prop} {R : VK} {f : Addr}
    (hs : PySem.W.findIn X.K (.ref (He.ga X.K c)) "__eq__" = some (some (.ref f))) (I : Inv X pins σ H s) (ru : RelV y u) (h : lift X.K sp [.ref x, y] H R E0) (hq : ∀ v s', EP X pins σ R v s' → Q v s') :
    wpAny (model X.prog X.w) K' (call (.ref f) [.ref x, u]) Q X.xe s := by
  obtain ⟨f', fd, e1, hf, hb, F⟩ := hk.fn
  have : f' = f := by rw [hs] at e1; injection e1 with e1; injection e1 with e1; injection e1 with e1; exact e1.symm
  subst this
  have e0 : Env0 X.prog X.w X.K X.mg X.base K' X.stack s H := by
    have e := I.env0
    exact ⟨by rw [hfr]; exact e.frames, e.mod, e.bs, e.bsz, e.funs, e.frf, e.hok, e.bare⟩
  have hl := F.len _ _ _ _ h
  have r2 : Vals [V.ref x, y] [Value.ref x, u] := .cons rfl (.cons ru .nil)
  refine wpAny_call (codeAny_mono (F.run K' X.stack s H ⟨[.ref x, u], []⟩ [.ref x, u] [.ref x, y] R E0 hroom e0 (by
    have := hb s [.ref x, u] I.kIn (by simpa using hl)
    simpa using this) r2 h) fun r s' hr => ?_)
  cases r with
  | error e => exact passL (X := X) pins σ H s e s' I hr
  | ok fl =>
    cases fl with
    | ret w => exact hq w s' (I.after hr)
    | next => exact False.elim hr
    | brk => exact False.elim hr
    | cont => exact False.elim hr
theorem tz_own {op : R2} {g : Bool → Bool} {σ : L2.St} {H : Hp} {Q : VK}
    (h : tz X.K W (fun env ov Q E => za env ov (fun x ov1 => zb env ov1 (fun y ov2 => ∃ fs dy, x = .d (.obj c fs) ∧ y = .d dy ∧ okY c dy = true ∧ sp [x, y] [] (fun r _ => r.isD = true ∧ ∃ b, r = .d (.bl b) ∧ Q (.d (.bl (g b))) ov2) noX) E) E) σ H Q)
    (hop : ∀ (x y : V) (H : Hp) (G : Hp) (a dx : Addr) (fs : List (Str × V)) (dy : D), x = .ref a → H a = some (.ins (He.ga X.K c) dx fs) → Same G H → Rep X.K G dy y → okY c dy = true → lift X.K sp [x, y] H (fun v H' => ∃ b, v = .bl b ∧ Q (.bl (g b)) H') E0 → op x y H Q) :
    tOp op (tz X.K W za) (tz X.K W zb) σ H Q := by
  obtain ⟨t, G, env, ov, Qz, Ez, A, q, pe, px⟩ := h
  refine ⟨t, G, env, ov, _, Ez, A, q, fun x ov1 t1 G1 v H1 s1 ok1 r1 q1 => ?_, px⟩
  refine ⟨t1, G1, env, ov1, _, Ez, A.step s1 ok1, q1, fun y ov2 t2 G2 u H2 s2 ok2 r2 q2 => ?_, px.step s1⟩
  obtain ⟨fs, dy, rfl, rfl, hy, q2⟩ := q2
  have s12 := s1.trans s2
  have rx := r1.mono s2
  obtain ⟨a, dx, vs, e, hin, rf⟩ := id rx
  refine hop v u H2 G2 a dx vs dy e (ok2.sub _ _ hin) ok2.sub r2 hy ?_
  refine lift_call (Qz := fun r ov' => ∃ b, r = .d (.bl b) ∧ Qz (.d (.bl (g b))) ov') (Ez := fun _ _ => False) ok2 (xs := [.d (.obj c fs), .d dy]) ⟨_, _, rfl, rx, _, _, rfl, r2, rfl⟩ rfl q2 ?_ ?_
  · intro z ov' t' G' w H' s ok r ⟨b, e, q⟩
    subst e
    have r : w = .bl b := r
    exact ⟨b, r, pe _ ov' t' G' _ H' (s12.trans s) ok (show RepZ _ _ _ (.d (.bl (g b))) _ from rfl) q⟩
  · intro x t' G' cls d H' s ok r h; exact h
def rOwn (K : PySem.W.Frag) (c : Str) (sp : ZSp) (g : Bool → Bool) : R2 := fun x y H Q => ∃ a dx fs G dy, x = .ref a ∧ H a = some (.ins (He.ga K c) dx fs) ∧ Same G H ∧ Rep K G dy y ∧ okY c dy = true ∧ lift K sp [x, y] H (fun v H' => ∃ b, v = .bl b ∧ Q (.bl (g b)) H') E0
theorem op_eqO (hk : EqC X.prog X.w X.K X.mg X.base c k ps sp) (hr : Room k X.A) : OpR X (compareOp .Eq) (rOwn X.K c sp id) := by
  intro pins s σ H x y v u Q I rx ry ⟨a, dx, fs, G, dy, e, hin, sg, rd, ok, hl⟩
  subst e
  cases rx
  obtain ⟨f, fd, hs, hf, hbn, F⟩ := hk.fn
  obtain ⟨mA, J, _⟩ := ins_get I.hok hin
  obtain ⟨od, J, _⟩ := J.look
  obtain ⟨m, hF⟩ := I.fr
  obtain ⟨tb, h1, h2⟩ := looks_ty I sg rd ry ok
  show wpAny (model X.prog X.w) X.A (richCompare .Eq (.ref a) u) (EP X pins σ Q) X.xe s
  refine PySem.W.cmp_K (op := .Eq) hr.units0 hF I.ok.mod.kin J h1 h2 hs hf (run_eq hk hr rfl hs I ry hl fun v s' ⟨v', H', I', r', bb, e, q⟩ => ?_)
  subst e
  cases r'
  exact ⟨.bl bb, H', I', rfl, q⟩
theorem op_neO (hk : EqC X.prog X.w X.K X.mg X.base c k ps sp) (hr : Room (k + 1) X.A) : OpR X (compareOp .NotEq) (rOwn X.K c sp not) := by
  intro pins s σ H x y v u Q I rx ry ⟨a, dx, fs, G, dy, e, hin, sg, rd, ok, hl⟩
  subst e
  cases rx
  obtain ⟨f, fd, hs, hf, hbn, F⟩ := hk.fn
  obtain ⟨mA, J, _⟩ := ins_get I.hok hin
  obtain ⟨od, J, _⟩ := J.look
  obtain ⟨m, hF⟩ := I.fr
  obtain ⟨tb, h1, h2⟩ := looks_ty I sg rd ry ok
  show wpAny (model X.prog X.w) X.A (richCompare .NotEq (.ref a) u) (EP X pins σ Q) X.xe s
  refine PySem.W.zne_K (by have := hr.un; omega) hF I.ok.mod.kin J h1 h2 hk.mro hk.ne hs hf (run_eq hk hr.in1 rfl hs I ry hl fun v s' ⟨v', H', I', r', bb, e, q⟩ => ?_)
  subst e
  cases r'
  exact ⟨bb, rfl, .bl (!bb), H', I', rfl, q⟩
theorem ze_eqO (hk : EqC X.prog X.w X.K X.mg X.base c k ps sp) (hr : Room k X.A) (ha : ZEj X W a za) (hb : ZEj X W b zb) (hm : behindInMarks .Eq b = false := by exact nomark _) : ZEj X W (.Compare a [.Eq] [b] pos) (zEqO c sp za zb) :=
  PE.imp (pe_cmpR (op_eqO hk hr) ha hb hm) fun σ H Q h => tz_own (g := id) h fun x y H G a dx fs dy e h1 h2 h3 h4 h5 => ⟨a, dx, fs, G, dy, e, h1, h2, h3, h4, h5⟩
theorem ze_neO (hk : EqC X.prog X.w X.K X.mg X.base c k ps sp) (hr : Room (k + 1) X.A) (ha : ZEj X W a za) (hb : ZEj X W b zb) (hm : behindInMarks .NotEq b = false := by exact nomark _) : ZEj X W (.Compare a [.NotEq] [b] pos) (zNeO c sp za zb) :=
  PE.imp (pe_cmpR (op_neO hk hr) ha hb hm) fun σ H Q h => tz_own (g := not) h fun x y H G a dx fs dy e h1 h2 h3 h4 h5 => ⟨a, dx, fs, G, dy, e, h1, h2, h3, h4, h5⟩
theorem zt_eqO (hk : EqC X.prog X.w X.K X.mg X.base c k ps sp) (hr : Room k X.A) (ha : ZEj X W a za) (hb : ZEj X W b zb) (hm : behindInMarks .Eq b = false := by exact nomark _) : ZTj X W (.Compare a [.Eq] [b] pos) (ztB (zEqO c sp za zb)) :=
  PT.imp (pt_cmpR (op_eqO hk hr) ha hb hm) fun σ H Q h => tz_own (g := id) (tTest_of h) fun x y H G a dx fs dy e h1 h2 h3 h4 h5 => ⟨a, dx, fs, G, dy, e, h1, h2, h3, h4, h5⟩
theorem zt_neO (hk : EqC X.prog X.w X.K X.mg X.base c k ps sp) (hr : Room (k + 1) X.A) (ha : ZEj X W a za) (hb : ZEj X W b zb) (hm : behindInMarks .NotEq b = false := by exact nomark _) : ZTj X W (.Compare a [.NotEq] [b] pos) (ztB (zNeO c sp za zb)) :=
  PT.imp (pt_cmpR (op_neO hk hr) ha hb hm) fun σ H Q h => tz_own (g := not) (tTest_of h) fun x y H G a dx fs dy e h1 h2 h3 h4 h5 => ⟨a, dx, fs, G, dy, e, h1, h2, h3, h4, h5⟩
end
end Z
namespace Z
open PySem PySem.Spec PyProof.Rows L2
/-! ### comprehensions -/
section
variable {K : PySem.W.Frag} {W : WX} {t : Th} {G H : Hp} {env : Env} {ov : Ov} {σ : L2.St}
theorem wipeE_len (env : Env) : ∀ vs : List Nat, (wipeE env vs).length = env.length
  | [] => rfl
  | v :: vs => by unfold wipeE; rw [List.length_set, wipeE_len env vs]
theorem At.wiped (A : At K t G env ov σ H) : ∀ vs : List Nat, At K t G (wipeE env vs) ov (wipe σ vs) H
  | [] => A
  | v :: vs => by
    have A' := At.wiped A vs
    unfold wipeE wipe
    refine ⟨A.ok, by simp [A'.len], fun j y e => ?_⟩
    by_cases hj : v = j
    · subst hj
      by_cases hi : v < (wipeE env vs).length
      · rw [List.getElem?_set_self hi] at e; cases e
      · rw [List.getElem?_eq_none (by simpa using hi)] at e; cases e
    · rw [List.getElem?_set_ne hj] at e
      obtain ⟨u, h1, h2⟩ := A'.sl j y e
      exact ⟨u, by rw [List.getElem?_set_ne hj]; exact h1, h2⟩
theorem wipe_get (σ : L2.St) {i : Nat} : ∀ {vs : List Nat}, i ∉ vs → (wipe σ vs)[i]? = σ[i]?
  | [], _ => rfl
  | v :: vs, h => by
    unfold wipe
    rw [List.getElem?_set_ne (fun z => h (by simp [z])), wipe_get σ fun z => h (List.mem_cons_of_mem _ z)]
theorem wipe_in (σ : L2.St) {i : Nat} : ∀ {vs : List Nat}, i ∈ vs → i < σ.length → (wipe σ vs)[i]? = some none
  | v :: vs, h, hl => by
    unfold wipe
    by_cases e : v = i
    · subst e
      rw [List.getElem?_set_self (by rw [wipe_length]; exact hl)]
    · rw [List.getElem?_set_ne e]
      exact wipe_in σ ((List.mem_cons.mp h).elim (fun z => (e z.symm).elim) id) hl
theorem wipe_same {σ σ' : L2.St} {vs : List Nat} (hl : σ'.length = (wipe σ vs).length) (h : ∀ i, i ∉ vs → σ'[i]? = (wipe σ vs)[i]?) : wipe σ' vs = wipe σ vs := by
  rw [wipe_length] at hl
  apply List.ext_getElem?
  intro i
  by_cases hi : i ∈ vs
  · by_cases hlt : i < σ.length
    · rw [wipe_in σ hi hlt, wipe_in σ' hi (by rw [hl]; exact hlt)]
    · rw [List.getElem?_eq_none (by rw [wipe_length]; omega), List.getElem?_eq_none (by rw [wipe_length]; omega)]
  · rw [wipe_get σ' hi, h i hi]
end
section
variable {X : Cx} {W : WX} {elt tg iter : Expr} {ifs : List Expr} {scope : Scope} {own : List (Str × Nat)} {pos : Pos} {zi : ZI} {g : ZG} {c : ZT} {z : ZE} {og : List Nat}
abbrev W0 : WX := fun _ _ _ _ => False
abbrev ZTsj (X : Cx) (W : WX) (e : List Expr) (z : ZT) : Prop := PTs X e (tzt X.K W z)
theorem PTs.imp {e : List Expr} {t t' : TT} (h : PTs X e t) (hi : ∀ σ H Q, t' σ H Q → t σ H Q) : PTs X e t' := ⟨fun pins s σ H Q I q => h.run pins s σ H Q I (hi σ H Q q)⟩
theorem zts_nil : ZTsj X W [] ztYes := PTs.imp pts_nil fun σ H Q ⟨t, G, env, ov, Qz, Ez, A, q, pe, px⟩ => pe true ov t G H .refl A.ok q
theorem zts_one {e : Expr} (h : ZTj X W e c) : ZTsj X W [e] c := pts_one h
theorem tLc_of (hog : ∀ i ∈ og, i ∈ own.map (·.2)) {σ : L2.St} {H : Hp} {Q : VK} (h : tz X.K W (zLc zi g c z (own.map (·.2))) σ H Q) :
    tLc (tzi X.K W zi) (tzg X.K og g) (tzt X.K W0 c) (tz X.K W0 z) (own.map (·.2)) σ H Q := by
  obtain ⟨t, G, env, ov, Qz, Ez, A, q, pe, px⟩ := h
  refine ⟨t, G, env, ov, _, Ez, A, q, fun items ov1 t1 G1 J H1 s1 ok1 hd wk q1 => ?_, px⟩
  obtain ⟨hsz, q1⟩ := q1
  intro D nD
  have A1 := A.step s1 ok1
  have gD : G1 D = none := sub_none ok1.sub nD
  have oD : ¬ t1.own D := fun h => by
    rcases h with h | ⟨x, e, h⟩
    · obtain ⟨u, e⟩ := ok1.thr D h; rw [nD] at e; cases e
    · obtain ⟨d, _⟩ := ok1.dw x e
      obtain ⟨_, _, _, _, _, h1, h2, h3, _⟩ := d.ex
      rcases h with z | z | z <;> subst z
      · rw [nD] at h1; cases h1
      · rw [nD] at h2; cases h2
      · rw [nD] at h3; cases h3
  -- behind the new list: D is nobody's
  have g0 : Stp t1 G1 H1 t1 G1 (upd H1 D (.lst [])) := ⟨Same.refl G1, fun a o e _ => same_upd nD a o e, fun _ _ _ h _ => h, fun _ _ h => h, fun _ h => h, fun _ h n => (n h).elim⟩
  have ok0 : Ok X.K t1 G1 ov1 (upd H1 D (.lst [])) := ok1.grow ⟨Same.refl G1, same_upd nD, ok1.sub.trans (same_upd nD), fun _ _ _ h => h⟩
  refine ⟨fun i m H' => m = items.length - i ∧ i ≤ items.length ∧ ∃ t2 G2 ov2 acc accV, Stp t1 G1 H1 t2 G2 H' ∧ Ok X.K t2 G2 ov2 H' ∧ H' D = some (.lst accV) ∧ G2 D = none ∧ ¬ t2.own D ∧ Reps X.K G2 acc accV ∧ acc.length ≤ i ∧ zLcGo g c z (own.map (·.2)) (items.drop i) acc env ov2 Qz Ez,
    ⟨items.length, by simp, Nat.zero_le _, t1, G1, ov1, [], [], g0, ok0, upd_same, gD, oD, rfl, Nat.zero_le _, by simpa using q1⟩, ?_⟩
  rintro i m H' ⟨rfl, hi', t2, G2, ov2, acc, accV, s2, ok2, hD, gD2, oD2, rs, la, ql⟩
  obtain ⟨wy, ws⟩ := wk G2 H' s2.g ok2.sub
  by_cases hlt : i < items.length
  · have hx : items[i]? = some items[i] := List.getElem?_eq_getElem hlt
    have hdrop : items.drop i = items[i] :: items.drop (i + 1) := (List.getElem_cons_drop hlt).symm
    rw [hdrop] at ql
    refine .inr ⟨(wy i _ hx).1, fun H3 => ∃ t3 G3 ov3 acc3 accV3, Stp t1 G1 H1 t3 G3 H3 ∧ Ok X.K t3 G3 ov3 H3 ∧ H3 D = some (.lst accV3) ∧ G3 D = none ∧ ¬ t3.own D ∧ Reps X.K G3 acc3 accV3 ∧ acc3.length ≤ i + 1 ∧ zLcGo g c z (own.map (·.2)) (items.drop (i + 1)) acc3 env ov3 Qz Ez,
      fun H3 h => ⟨items.length - (i + 1), by omega, rfl, hlt, h⟩, fun x H3 hy => ?_⟩
    obtain ⟨G3, gr, rx⟩ := (wy i _ hx).2 x H3 hy
    obtain ⟨d, hd'⟩ := hd items[i] (List.getElem_mem hlt)
    have ok3 := ok2.grow gr
    have s3 : Stp t1 G1 H1 t2 G3 H3 := s2.trans gr.stp
    have A3 : At X.K t2 G3 env ov2 σ H3 := A1.step s3 ok3
    refine ⟨t2, G3, _, ov2, items[i], _, A3.wiped (own.map (·.2)), by rw [hd'] at rx ⊢; exact rx, ql, fun env4 ov4 t4 G4 σ4 H4 s4 A4 l4 n4 q4 => ?_⟩
    refine ⟨wipe_same l4 fun j hj => n4 j fun z => hj (hog j z), ?_⟩
    have hD3 : H3 D = some (.lst accV) := gr.h D _ hD
    have step : ∀ {t5 G5 H5}, Stp t2 G3 H3 t5 G5 H5 → H5 D = some (.lst accV) ∧ G5 D = none ∧ ¬ t5.own D := fun {t5 G5 H5} s5 =>
      ⟨s5.fr D _ hD3 oD2, s5.nw D _ hD3 (gr.nw D _ hD gD2) oD2, fun h => by have := s5.fs D h oD2; rw [hD3] at this; cases this⟩
    refine ⟨t4, G4, env4, ov4, _, noX, A4, q4, fun b ov5 t5 G5 H5 s5 ok5 q5 => ?_, fun x ov' t' G' cls d H' s ok r h => h⟩
    have s25 := s4.trans s5
    obtain ⟨hD5, gD5, oD5⟩ := step s25
    cases b with
    | true =>
      refine ⟨t5, G5, env4, ov5, _, noX, A4.step s5 ok5, q5, fun y ov6 t6 G6 v H6 s6 ok6 r6 q6 => ?_, fun x ov' t' G' cls d H' s ok r h => h⟩
      have s26 := s25.trans s6
      obtain ⟨hD6, gD6, oD6⟩ := step s26
      obtain ⟨dy, rfl, q6⟩ := q6
      have rs6 := rs.mono (gr.g.trans s26.g)
      refine ⟨accV, hD6, by rw [rs.len]; omega, t6, G6, ov6, acc ++ [dy], accV ++ [v], ?_, ?_, upd_same, gD6, oD6, rs6.append (Reps.one r6), by rw [List.length_append]; simp; omega, q6⟩
      · have s16 := s3.trans s26
        refine ⟨s16.g, fun a o e n => ?_, s16.nw, s16.ad, s16.dw, s16.fs⟩
        have : a ≠ D := fun z => by subst z; rw [nD] at e; cases e
        rw [upd_ne this]; exact s16.fr a o e n
      · refine ⟨ok6.len, fun a u e => ?_, fun a ha => ?_, fun n o a h1 h2 h3 => ?_, ok6.nd, fun x hx => ?_⟩
        · have : a ≠ D := fun z => by subst z; rw [gD6] at e; cases e
          rw [upd_ne this]; exact ok6.sub a u e
        · have : a ≠ D := fun z => oD6 (.inl (by subst z; exact ha))
          rw [upd_ne this]; exact ok6.thr a ha
        · have : a ≠ D := fun z => oD6 (.inl (by subst z; exact List.mem_of_getElem? h2))
          rw [upd_ne this]; exact ok6.ob n o a h1 h2 h3
        · obtain ⟨d1, e1, e2, e3, q1, q2, q3⟩ := ok6.dw x hx
          obtain ⟨ls, cs, p1, p2, p3, h1, h2, h3, h4⟩ := id d1.ex
          have n1 : x.1 ≠ D := fun z => oD6 (.inr ⟨x, hx, .inl z.symm⟩)
          have n2 : x.2.1 ≠ D := fun z => oD6 (.inr ⟨x, hx, .inr (.inl z.symm)⟩)
          have n3 : x.2.2 ≠ D := fun z => oD6 (.inr ⟨x, hx, .inr (.inr z.symm)⟩)
          exact ⟨⟨ls, cs, p1, p2, p3, by rw [upd_ne n1]; exact h1, by rw [upd_ne n2]; exact h2, by rw [upd_ne n3]; exact h3, h4⟩, e1, e2, e3, q1, q2, q3⟩
    | false =>
      exact ⟨t5, G5, ov5, acc, accV, s3.trans s25, ok5, hD5, gD5, oD5, rs.mono (gr.g.trans s25.g), by omega, q5⟩
  · have e : i = items.length := by omega
    subst e
    rw [List.drop_length] at ql
    refine .inl ⟨ws, ?_⟩
    have sg : Same G2 (upd G2 D (.lst accV)) := same_upd gD2
    refine pe (.d (.lst acc)) ov2 t2 (upd G2 D (.lst accV)) (.ref D) H' ?_ ?_ ⟨D, accV, rfl, upd_same, by omega, rs.mono sg⟩ ql
    · refine s1.trans ⟨s2.g.trans sg, s2.fr, fun a o e ga n => ?_, s2.ad, s2.dw, s2.fs⟩
      have : a ≠ D := fun z => by subst z; rw [nD] at e; cases e
      rw [upd_ne this]; exact s2.nw a o e ga n
    · refine ⟨ok2.len, fun a u e => ?_, ok2.thr, fun n o a h1 h2 h3 => ?_, ok2.nd, fun x hx => ?_⟩
      · by_cases hb : a = D
        · subst hb; rw [upd_same] at e; cases e; exact hD
        · rw [upd_ne hb] at e; exact ok2.sub a u e
      · have hb : a ≠ D := fun z => oD2 (.inl (by subst z; exact List.mem_of_getElem? h2))
        obtain ⟨ga, u, hu, r⟩ := ok2.ob n o a h1 h2 h3
        exact ⟨by rw [upd_ne hb]; exact ga, u, hu, r.g sg⟩
      · obtain ⟨d1, e1, e2, e3, q⟩ := ok2.dw x hx
        have n1 : x.1 ≠ D := fun z => oD2 (.inr ⟨x, hx, .inl z.symm⟩)
        have n2 : x.2.1 ≠ D := fun z => oD2 (.inr ⟨x, hx, .inr (.inl z.symm)⟩)
        have n3 : x.2.2 ≠ D := fun z => oD2 (.inr ⟨x, hx, .inr (.inr z.symm)⟩)
        exact ⟨d1, by rw [upd_ne n1]; exact e1, by rw [upd_ne n2]; exact e2, by rw [upd_ne n3]; exact e3, q⟩
/-- [elt for tg in iter if ..] -/
theorem ze_lc (hc : X.calm = true) (hN : X.N.Nodup) (hi : ZIj X W tg iter zi) (ok : BlkOk X.N X.env.scope scope own) (hog : ∀ i ∈ og, i ∈ own.map (·.2))
    (hg : ∀ (s : Shared) (H : Hp) (C : Addr) (cl : List (Str × Addr)) (fp : List Addr), ZGj (X.blk s H scope (compEnvC scope cl C X.env) fp) og tg g) (ht : ∀ (s : Shared) (H : Hp) (C : Addr) (cl : List (Str × Addr)) (fp : List Addr), ZTsj (X.blk s H scope (compEnvC scope cl C X.env) fp) W0 ifs c)
    (he : ∀ (s : Shared) (H : Hp) (C : Addr) (cl : List (Str × Addr)) (fp : List Addr), ZEj (X.blk s H scope (compEnvC scope cl C X.env) fp) W0 elt z) (hs : ∀ x, foldedSetIterable iter X.env x = pure x := by intro _; rfl) :
    ZEj X W (.ListComp elt [⟨tg, iter, ifs, 0⟩] scope pos) (zLc zi g c z (own.map (·.2))) :=
  PE.imp (pe_lc hc hN hi ok hg ht he hs) fun σ H Q h => tLc_of hog h
/-- y = [elt for tg in iter if ..] -/
theorem zs_setLc (i : Nat) {y : Str} {py spos : Pos} (hc : X.calm = true) (hN : X.N.Nodup) (hi : ZIj X W tg iter zi) (ok : BlkOk X.N X.env.scope scope own) (hog : ∀ i ∈ og, i ∈ own.map (·.2))
    (hg : ∀ (s : Shared) (H : Hp) (C : Addr) (cl : List (Str × Addr)) (fp : List Addr), ZGj (X.blk s H scope (compEnvC scope cl C X.env) fp) og tg g) (ht : ∀ (s : Shared) (H : Hp) (C : Addr) (cl : List (Str × Addr)) (fp : List Addr), ZTsj (X.blk s H scope (compEnvC scope cl C X.env) fp) W0 ifs c)
    (he : ∀ (s : Shared) (H : Hp) (C : Addr) (cl : List (Str × Addr)) (fp : List Addr), ZEj (X.blk s H scope (compEnvC scope cl C X.env) fp) W0 elt z) (hs : ∀ x, foldedSetIterable iter X.env x = pure x := by intro _; rfl)
    (hy : X.N[i]? = some y := by rfl) (hyl : X.env.scope.names.lookup y = some .local := by rfl) (hsw : swapsWith (.ListComp elt [⟨tg, iter, ifs, 0⟩] scope pos) (some (.Name y py)) spos.line X.env = pure true := by exact sw_true rfl rfl rfl (by decide +kernel)) :
    ZSj X W (.Assign [.Name y py] (.ListComp elt [⟨tg, iter, ifs, 0⟩] scope pos) spos) (zSet i (zLc zi g c z (own.map (·.2)))) := by
  refine PS.imp (ps_setLc (wi := tzi X.K W zi) (g := tzg X.K og g) (tt := tzt X.K W0 c) (te := tz X.K W0 z) hc hN hy hyl hsw hi ok hg ht he hs) fun D σ H ⟨t, G, env, ov, E, A, q, p⟩ => ?_
  refine tLc_of (W := W) hog ⟨t, G, env, ov, _, _, A, q, fun z ov1 t1 G1 v H1 s1 ok1 r1 q1 => ?_, p.xr.at A⟩
  exact p.nx _ ov1 t1 G1 _ H1 s1 ((A.step s1 ok1).set r1 i) q1
end
end Z
namespace Z
open PySem PySem.Spec PyProof.Rows L2
/-! ### a table of the module: text keys, ints -/
structure TabK (K : PySem.W.Frag) (w : World) (d : Addr) (tab : List (Str × Int)) : Prop where
  ex : ∃ es n, KDict K w d es n ∧ ∀ z, (∀ i, tab.lookup z = some i → ∃ t, findBy Value.isStrOf es z = some (.int i t)) ∧ (tab.lookup z = none → findBy Value.isStrOf es z = none)
def zGetTab (tab : List (Str × Int)) (zk zd : ZE) : ZE := fun env ov Q E => zk env ov (fun y ov1 => zd env ov1 (fun d ov2 => ∃ s dd, y = .d (.str s) ∧ d = .d dd ∧ Q (.d ((tab.lookup s).elim dd .int)) ov2) E) E
section
variable {X : Cx} {W : WX} {e f : Expr} {zk zd : ZE} {x : Str} {p apos cpos : Pos} {tab : List (Str × Int)}
theorem ze_getTab (hm : X.mg x = some (.ref (He.ga X.K x))) (T : TabK X.K X.w (He.ga X.K x) tab) (he : ZEj X W e zk) (hf : ZEj X W f zd) (hg : Gl X x := by rfl) (hdb : (x == ("__debug__" : Str)) = false := by decide)
    (m : M2 X (.Name x p) "get" apos e f cpos := by exact ⟨rfl, rfl, rfl, rfl⟩) : ZEj X W (.Call (.Attribute (.Name x p) "get" apos) [e, f] [] cpos) (zGetTab tab zk zd) := by
  obtain ⟨es, n, D, ht⟩ := T.ex
  refine PE.imp (t := fun σ H Q => tz X.K W zk σ H fun y H2 => tz X.K W zd σ H2 fun z H3 => ∃ (s : Str) (v : V), y = .str s ∧ v = ((tab.lookup s).elim z V.int) ∧ Q v H3) ⟨fun pins s σ H Q I h => ?_⟩ fun σ H Q ⟨t, G, env, ov, Qz, Ez, A, q, pe, px⟩ => ?_
  · refine wpAny_Call_method m.base m.few m.line PySem.F.plainAttrs_dict PySem.F.slot_dict_get PySem.F.type_dict_get (ld_glob I hg hm ?_ hdb)
    have mo := PySem.W.mapOf_K (prog := X.prog) (w := X.w) I.kIn D.at_ D.lit
    refine ⟨mo.typeIs, fun a ea => ⟨_, I.kIn _ _ (by cases ea; exact D.at_), rfl⟩, ?_⟩
    rw [m.trees]
    refine Calls.callWith_builtin rfl (Calls.evalArgs_plain (Calls.spliced_cons (thn (he.run pins s σ H _ I h) fun iv s2 ⟨y, H2, I2, ry, q2⟩ =>
      Calls.spliced_cons (thn (hf.run pins s2 σ H2 _ I2 q2) fun fv s3 ⟨z, H3, I3, rz, st, v, ey, ev, q3⟩ => Calls.spliced_nil ?_))))
    subst ey
    obtain ⟨tk, rfl⟩ := ry
    have mo3 := PySem.W.mapOf_K (prog := X.prog) (w := X.w) I3.kIn D.at_ D.lit
    refine call_meetsIn PySem.F.slot_dict_get mo3.typeIs PySem.F.entry_dict_get (PySem.F.args_dict_get_3 _ _ _) (meets_dict_get_default (strKind X.prog X.w) (He.ga X.K x) (strKind_is X.prog X.w st tk) D.low fv) ⟨_, mo3, ?_⟩
    refine ⟨v, H3, I3.tok _, ?_, q3⟩
    subst ev
    cases hl : tab.lookup st with
    | none =>
      rw [(ht st).2 hl]
      exact rz
    | some i =>
      obtain ⟨tt, e⟩ := (ht st).1 i hl
      rw [e]
      exact ⟨tt, rfl⟩
  · refine ⟨t, G, env, ov, _, Ez, A, q, fun y ov1 t1 G1 v H1 s1 ok1 r1 q1 => ?_, px⟩
    refine ⟨t1, G1, env, ov1, _, Ez, A.step s1 ok1, q1, fun d ov2 t2 G2 u H2 s2 ok2 r2 q2 => ?_, px.step s1⟩
    obtain ⟨s, dd, rfl, rfl, q2⟩ := q2
    refine ⟨s, _, r1, rfl, pe _ ov2 t2 G2 _ H2 (s1.trans s2) ok2 ?_ q2⟩
    cases hl : tab.lookup s with
    | none => exact r2
    | some i => exact (show RepZ _ _ _ (.d (.int i)) _ from rfl)
end
/-! ### append -/
section
variable {X : Cx} {W : WX} {o e : Expr} {zo za : ZE} {apos pos : Pos}
theorem ze_app (ho : ZEj X W o zo) (he : ZEj X W e za) (hbase : attributeBase o "append" X.env (eval o X.env) = eval o X.env := by rfl)
    (hfew : ((backTo pos (starEach [e] X.env)).all (fun x => !x.1) && (backToKw pos (keywordEach [] X.env)).all (fun x => x.1.isSome)
      && decide (([e] : List Expr).length + ([] : List Keyword).length + (if ([] : List Keyword).isEmpty then 0 else 1) < 30)) = true := by rfl)
    (hline : (apos.endLine == pos.line) = true := by rfl) (hs : starEach [e] X.env = (false, eval e X.env) :: starEach [] X.env := by rfl) (hplain : (backTo pos (starEach [] X.env)).any (·.1) = false := by rfl) :
    ZEj X W (.Call (.Attribute o "append" apos) [e] [] pos) (zApp zo za) := by
  refine PE.imp (pe_bm PySem.F.plainAttrs_list PySem.F.slot_list_append PySem.F.type_list_append mt_append ho (za_cons he za_nil hs) hbase hfew hline hs hplain) fun σ H Q ⟨t, G, env, ov, Qz, Ez, A, q, pe, px⟩ => ?_
  refine ⟨t, G, env, ov, _, Ez, A, q, fun x ov1 t1 G1 v H1 s1 ok1 r1 q1 => ?_, px⟩
  obtain ⟨n, rfl, hl, q1⟩ := q1
  obtain ⟨a, ha, rfl⟩ := r1
  have key : ∃ vs, H1 a = some (.lst vs) := by
    cases ho : ov1[n]? with
    | none => rw [ho] at hl; cases hl
    | some o =>
      rw [ho] at hl
      cases o with
      | lst zs => obtain ⟨_, u, hu, xs, rfl, _⟩ := ok1.ob n _ a ho ha (by intro z; cases z); exact ⟨xs, hu⟩
      | gone => cases hl
      | dic _ => cases hl
      | ins _ _ => cases hl
  obtain ⟨vs0, hH⟩ := key
  refine ⟨.inl ⟨rfl, _, SqL.of hH⟩, t1, G1, env, ov1, (fun xs ov2 => match xs with
    | [y] => ∃ zs, ov2[n]? = some (.lst zs) ∧ zs.length < sizeLine ∧ Qz (.d .non) (ov2.set n (.lst (zs ++ [y])))
    | _ => False), Ez, A.step s1 ok1, q1, fun xs ov2 t2 G2 us H2 s2 ok2 r2 q2 => ?_, px.step s1⟩
  match xs, q2 with
  | [y], ⟨zs', eo, lz, q2⟩ =>
    obtain ⟨u, rr, rfl, ry, rn⟩ := r2
    have rn : rr = [] := rn
    subst rn
    have ha2 := s2.ad n a ha
    obtain ⟨_, uu, hu, xs2, rfl, l2, rk⟩ := ok2.ob n _ a eo ha2 (by intro z; cases z)
    have rk2 : RepZs X.K G2 t2 (zs' ++ [y]) (xs2 ++ [u]) := by
      have app : ∀ {zs : List Zv} {vs : List V}, RepZs X.K G2 t2 zs vs → RepZs X.K G2 t2 (zs ++ [y]) (vs ++ [u]) := by
        intro zs
        induction zs with
        | nil => intro vs h; have h : _ = _ := h; subst h; exact ⟨u, [], rfl, ry, rfl⟩
        | cons z zs ih => intro vs ⟨v, r, e1, h, hr⟩; subst e1; exact ⟨v, _, rfl, h, ih hr⟩
      exact app rk
    obtain ⟨ok4, s4⟩ := ok2.write eo ha2 (by intro z; cases z) (show RepO X.K G2 t2 (.lst (zs' ++ [y])) (.lst (xs2 ++ [u])) from ⟨_, rfl, by rw [List.length_append]; simp; omega, rk2⟩)
    exact ⟨a, xs2, u, rfl, rfl, hu, by rw [rk.len]; exact lz, pe (.d .non) _ t2 G2 .non _ ((s1.trans s2).trans s4) ok4 rfl q2⟩
end
end Z
namespace Z
open PySem PySem.Spec PyProof.Rows L2
/-! ### a call that one overlay object goes into -/
def ren1 (n : Nat) : Zv → Option Zv
  | .r m => match Nat.beq m n with
    | true => some (.r 0)
    | false => none
  | .d x => some (.d x)
  | .dw => some .dw
  | .sc ns => some (.sc ns)
def ren1L (n : Nat) : List Zv → Option (List Zv)
  | [] => some []
  | z :: zs => match ren1 n z with
    | some y => match ren1L n zs with
      | some ys => some (y :: ys)
      | none => none
    | none => none
section
variable {K : PySem.W.Frag} {t t' : Th} {G G' H H' : Hp} {ov ov' : Ov}
theorem RepZ.ren {n : Nat} {a : Addr} (ha : t.ad[n]? = some a) {z y : Zv} {v : V} (h : RepZ K G t z v) (e : ren1 n z = some y) : RepZ K G ⟨[a], t.dw⟩ y v := by
  cases z with
  | d x => cases e; exact h
  | dw => cases e; exact h
  | sc ns => cases e; exact h
  | r m =>
    unfold ren1 at e
    cases hm : Nat.beq m n with
    | true =>
      simp only [hm] at e
      have hm := Nat.eq_of_beq_eq_true hm
      subst hm
      cases e
      obtain ⟨b, hb, q⟩ := h
      have : a = b := Option.some.inj (ha.symm.trans hb)
      subst this
      exact ⟨a, rfl, q⟩
    | false => simp only [hm] at e; cases e
theorem RepZs.ren {n : Nat} {a : Addr} (ha : t.ad[n]? = some a) : ∀ {zs ys : List Zv} {vs : List V}, RepZs K G t zs vs → ren1L n zs = some ys → RepZs K G ⟨[a], t.dw⟩ ys vs
  | [], ys, _, h, e => by cases e; exact h
  | z :: zs, ys, _, ⟨v, r, e1, h, hr⟩, e => by
    unfold ren1L at e
    cases h1 : ren1 n z with
    | none => rw [h1] at e; cases e
    | some y =>
      rw [h1] at e
      simp only at e
      cases h2 : ren1L n zs with
      | none => rw [h2] at e; cases e
      | some ys' => rw [h2] at e; cases e; exact ⟨v, r, e1, h.ren ha h1, RepZs.ren ha hr h2⟩
/-- without references: it lies so whatever the overlay -/
theorem RepZ.b0 {z : Zv} {v : V} (h : RepZ K G t z v) (hb : z.below 0 = true) (ad : List Addr) : RepZ K G ⟨ad, t.dw⟩ z v := by
  cases z with
  | d x => exact h
  | dw => exact h
  | sc ns => exact h
  | r m => simp [Zv.below] at hb
theorem RepZs.b0 (ad : List Addr) : ∀ {zs : List Zv} {vs : List V}, RepZs K G t zs vs → zs.all (Zv.below 0) = true → RepZs K G ⟨ad, t.dw⟩ zs vs
  | [], _, h, _ => h
  | z :: zs, _, ⟨v, r, e1, h, hr⟩, hb => by
    rw [List.all_cons, Bool.and_eq_true] at hb
    exact ⟨v, r, e1, h.b0 hb.1 ad, RepZs.b0 ad hr hb.2⟩
theorem RepZk.b0 {κ : Type} (ad : List Addr) : ∀ {zs : List (κ × Zv)} {vs : List (κ × V)}, RepZk K G t zs vs → (zs.all fun q => q.2.below 0) = true → RepZk K G ⟨ad, t.dw⟩ zs vs
  | [], _, h, _ => h
  | (k, z) :: zs, _, ⟨v, r, e1, h, hr⟩, hb => by
    rw [List.all_cons, Bool.and_eq_true] at hb
    exact ⟨v, r, e1, h.b0 hb.1 ad, RepZk.b0 ad hr hb.2⟩
theorem RepO.b0 (ad : List Addr) {o : OO} {u : HO} (h : RepO K G t o u) (hb : o.below 0 = true) : RepO K G ⟨ad, t.dw⟩ o u := by
  cases o with
  | gone => trivial
  | lst zs => obtain ⟨xs, e, l, r⟩ := h; exact ⟨xs, e, l, r.b0 ad hb⟩
  | dic kvs => obtain ⟨xs, e, r⟩ := h; exact ⟨xs, e, r.b0 ad hb⟩
  | ins c fs => obtain ⟨dx, xs, e, r⟩ := h; exact ⟨dx, xs, e, r.b0 ad hb⟩
theorem own1 {a b : Addr} {n : Nat} (ha : t.ad[n]? = some a) (h : (Th.mk [a] t.dw).own b) : t.own b := by
  rcases h with h | h
  · have : b = a := by simpa using h
    subst this; exact .inl (List.mem_of_getElem? ha)
  · exact .inr h
theorem Ok.callee1 (ok : Ok K t G ov H) {n : Nat} {a : Addr} {o : OO} (ha : t.ad[n]? = some a) (ho : ov[n]? = some o) (hb : o.below 0 = true) : Ok K ⟨[a], t.dw⟩ G [o] H := by
  refine ⟨rfl, ok.sub, fun b h => ?_, fun m o2 b h1 h2 h3 => ?_, by simp, fun x hx => ?_⟩
  · have : b = a := by simpa using h
    subst this; exact ok.thr b (List.mem_of_getElem? ha)
  · cases m with
    | zero =>
      have e1 : o = o2 := by simpa using h1
      have e2 : a = b := by simpa using h2
      subst e1 e2
      obtain ⟨g, u, hu, r⟩ := ok.ob n o a ho ha h3
      exact ⟨g, u, hu, r.b0 [a] hb⟩
    | succ m => simp at h1
  · obtain ⟨d, e1, e2, e3, q1, q2, q3⟩ := ok.dw x hx
    have hm := List.mem_of_getElem? ha
    exact ⟨d, e1, e2, e3, by simpa using ne_mem hm q1, by simpa using ne_mem hm q2, by simpa using ne_mem hm q3⟩
theorem Stp.caller1 {a : Addr} {n : Nat} (ha : t.ad[n]? = some a) (s : Stp ⟨[a], t.dw⟩ G H t' G' H') : Stp t G H ⟨t.ad, t'.dw⟩ G' H' := by
  have nc : ∀ b, ¬ t.own b → ¬ (Th.mk [a] t.dw).own b := fun b n' h => n' (own1 ha h)
  refine ⟨s.g, fun b o h n' => s.fr b o h (nc b n'), fun b o h g n' => s.nw b o h g (nc b n'), fun _ _ h => h, s.dw, fun b h n' => ?_⟩
  rcases h with h | h
  · exact (n' (.inl h)).elim
  · exact s.fs b (.inr h) (nc b n')
theorem not_own1 (ok : Ok K t G ov H) {n m : Nat} {a b : Addr} (ha : t.ad[n]? = some a) (hb : t.ad[m]? = some b) (hm : m ≠ n) : ¬ (Th.mk [a] t.dw).own b := fun h => by
  rcases h with h | ⟨x, e, h⟩
  · have : b = a := by simpa using h
    subst this
    obtain ⟨i1, e1⟩ := List.getElem?_eq_some_iff.mp ha
    obtain ⟨i2, e2⟩ := List.getElem?_eq_some_iff.mp hb
    exact hm ((List.getElem_inj ok.nd).mp (e2.trans e1.symm))
  · obtain ⟨_, _, _, _, q1, q2, q3⟩ := ok.dw x e
    have hm := List.mem_of_getElem? hb
    rcases h with z | z | z
    · exact q1 (z ▸ hm)
    · exact q2 (z ▸ hm)
    · exact q3 (z ▸ hm)
theorem Ok.caller1 (ok : Ok K t G ov H) {n : Nat} {a : Addr} {o o' : OO} (ha : t.ad[n]? = some a) (ho : ov[n]? = some o) (s : Stp ⟨[a], t.dw⟩ G H t' G' H') (ok' : Ok K t' G' [o'] H') (hb : o'.below 0 = true) : Ok K ⟨t.ad, t'.dw⟩ G' (ov.set n o') H' := by
  have hn : n < ov.length := (List.getElem?_eq_some_iff.mp ho).1
  have ha' : t'.ad[0]? = some a := s.ad 0 a rfl
  refine ⟨by simpa using ok.len, ok'.sub, fun b h => ?_, fun m o2 b h1 h2 h3 => ?_, ok.nd, fun x hx => ?_⟩
  · obtain ⟨m, hm⟩ := List.mem_iff_getElem?.mp h
    by_cases e : m = n
    · subst e
      have : a = b := Option.some.inj (ha.symm.trans hm)
      subst this
      exact ok'.thr a (List.mem_of_getElem? ha')
    · obtain ⟨u, hu⟩ := ok.thr b h
      exact ⟨u, s.fr b u hu (not_own1 ok ha hm e)⟩
  · by_cases e : m = n
    · subst e
      rw [List.getElem?_set_self hn] at h1
      cases h1
      have : a = b := Option.some.inj (ha.symm.trans h2)
      subst this
      obtain ⟨g, u, hu, r⟩ := ok'.ob 0 o' a rfl ha' h3
      exact ⟨g, u, hu, r.b0 t.ad hb⟩
    · rw [List.getElem?_set_ne (Ne.symm e)] at h1
      obtain ⟨g, u, hu, r⟩ := ok.ob m o2 b h1 h2 h3
      have no := not_own1 ok ha h2 e
      exact ⟨s.nw b u hu g no, u, s.fr b u hu no, RepO.th (t := t) (t2 := ⟨t.ad, t'.dw⟩) s.g (fun _ _ h => h) s.dw r⟩
  · obtain ⟨d, e1, e2, e3, q1, q2, q3⟩ := ok'.dw x hx
    have nad : ∀ b, (b = x.1 ∨ b = x.2.1 ∨ b = x.2.2) → b ∉ t'.ad → b ∉ t.ad := fun b hb hn' hm => by
      obtain ⟨m, hm'⟩ := List.mem_iff_getElem?.mp hm
      by_cases e : m = n
      · subst e
        have : a = b := Option.some.inj (ha.symm.trans hm')
        subst this
        exact hn' (List.mem_of_getElem? ha')
      · obtain ⟨u, hu⟩ := ok.thr b hm
        have := s.fs b (.inr ⟨x, hx, hb⟩) (not_own1 ok ha hm' e)
        rw [hu] at this; cases this
    exact ⟨d, e1, e2, e3, nad _ (.inl rfl) q1, nad _ (.inr (.inl rfl)) q2, nad _ (.inr (.inr rfl)) q3⟩
/-- a call's contract from the caller's state, overlay object n goes in -/
theorem lift_call1 {zs : ZSp} {xs xc : List Zv} {vs : List V} {n : Nat} {o : OO} {Qz : QE} {Ez : QX} {Q : VK} {E : XK} (ok : Ok K t G ov H) (r : RepZs K G t xs vs) (ho : ov[n]? = some o) (hb : o.below 0 = true) (hc : ren1L n xs = some xc)
    (h : zs xc [o] (fun y ov' => y.isD = true ∧ ∃ o', ov' = [o'] ∧ o'.below 0 = true ∧ Qz y (ov.set n o')) fun e ov' => ∃ o', ov' = [o'] ∧ o'.below 0 = true ∧ Ez e (ov.set n o')) (pe : PostE K t G H Qz Q)
    (px : ∀ (x : Xc) (o' : OO) (t' : Th) (G' : Hp) (cls : Value) (d : Option Addr) (H' : Hp), Stp t G H t' G' H' → Ok K t' G' (ov.set n o') H' → RepX K G' x cls d → Ez x (ov.set n o') → E cls d H') : lift K zs vs H Q E := by
  have hn : n < t.ad.length := by rw [ok.len]; exact (List.getElem?_eq_some_iff.mp ho).1
  have ha : t.ad[n]? = some t.ad[n] := List.getElem?_eq_getElem hn
  refine ⟨⟨[t.ad[n]], t.dw⟩, G, [o], xc, _, _, ok.callee1 ha ho hb, r.ren ha hc, h, fun z ov' t' G' v H' s ok' rz q => ?_, fun x ov' t' G' cls d H' s ok' rx q => ?_⟩
  · obtain ⟨qd, o', e, hb', q⟩ := q
    subst e
    exact pe z _ ⟨t.ad, t'.dw⟩ G' v H' (Stp.caller1 ha s) (Ok.caller1 ok ha ho s ok' hb') (rz.isD qd _) q
  · obtain ⟨o', e, hb', q⟩ := q
    subst e
    exact px x o' ⟨t.ad, t'.dw⟩ G' cls d H' (Stp.caller1 ha s) (Ok.caller1 ok ha ho s ok' hb') rx q
end
def zCallR (sp : ZSp) (za : ZA) : ZE := fun env ov Q E => za env ov (fun xs ov1 => ∃ n o xc, ov1[n]? = some o ∧ o.below 0 = true ∧ ren1L n xs = some xc ∧
  sp xc [o] (fun y ov' => y.isD = true ∧ ∃ o', ov' = [o'] ∧ o'.below 0 = true ∧ Q y (ov1.set n o')) fun e ov' => ∃ o', ov' = [o'] ∧ o'.below 0 = true ∧ E e (ov1.set n o')) E
/-! ### new instances -/
/-- what making an instance asks of the module: its __init__ with n arguments by place and ks by name -/
structure MkC (P : Program) (w : World) (K : PySem.W.Frag) (mg : Str → Option Value) (base : Heap) (c : Str) (k n : Nat) (ks ps : List Str) (zs : ZSp) : Prop where
  ex : ∃ f fd, mg c = some (.ref (He.ga K c)) ∧ Mk K (He.ga K c) f ∧ FnOk P w K mg base (L2.CX P w) k f fd ps (lift K zs) ∧ KBn K fd ps (n + 1) ks (fun us ws => us ++ ws) (fun vs zs => vs ++ zs)
/-- c(..): the instance is data from then on -/
def zMake (c : Str) (n m : Nat) (sp : ZSp) (za zk : ZA) : ZE := fun env ov Q E => za env ov (fun xs ov1 => zk env ov1 (fun ys ov2 => xs.length = n ∧ ys.length = m ∧ xs.all Zv.isD = true ∧ ys.all Zv.isD = true ∧
  sp (.r 0 :: (xs ++ ys)) [.ins c []] (fun y ov' => y = .d .non ∧ ∃ fs ds, ov' = [.ins c fs] ∧ pureK fs = some ds ∧ Q (.d (.obj c ds)) ov2) fun e ov' => (∃ o', ov' = [o'] ∧ o'.below 0 = true) ∧ E e ov2) E) E
section
variable {K : PySem.W.Frag} {t t' : Th} {G G' H H' : Hp} {ov ov' : Ov}
theorem pureK_b0 {κ : Type} : ∀ {fs : List (κ × Zv)} {ds : List (κ × D)}, pureK fs = some ds → (fs.all fun q => q.2.below 0) = true
  | [], _, _ => rfl
  | (k, .d x) :: fs, ds, e => by
    unfold pureK at e
    cases h : pureK fs with
    | none => rw [h] at e; cases e
    | some es => rw [List.all_cons, pureK_b0 h]; rfl
  | (_, .r _) :: _, _, e => by cases e
  | (_, .dw) :: _, _, e => by cases e
  | (_, .sc _) :: _, _, e => by cases e
theorem ren_isD {n : Nat} : ∀ {zs : List Zv}, zs.all Zv.isD = true → ren1L n zs = some zs
  | [], _ => rfl
  | z :: zs, h => by
    rw [List.all_cons, Bool.and_eq_true] at h
    have h1 : ren1 n z = some z := by
      cases z with
      | d x => rfl
      | dw => rfl
      | sc _ => rfl
      | r m => cases h.1
    unfold ren1L
    rw [h1, ren_isD h.2]
theorem RepZs.app : ∀ {zs ys : List Zv} {vs us : List V}, RepZs K G t zs vs → RepZs K G t ys us → RepZs K G t (zs ++ ys) (vs ++ us)
  | [], _, _, _, h, h2 => by have h : _ = _ := h; subst h; exact h2
  | _ :: _, _, _, _, ⟨v, r, e1, h, hr⟩, h2 => by subst e1; exact ⟨v, _, rfl, h, RepZs.app hr h2⟩
theorem RepZ.bel {z : Zv} {v : V} (h : RepZ K G t z v) : z.below t.ad.length = true := by
  cases z with
  | d x => rfl
  | dw => rfl
  | sc _ => rfl
  | r m => obtain ⟨a, e, _⟩ := h; simpa [Zv.below] using (List.getElem?_eq_some_iff.mp e).1
theorem RepZs.bel : ∀ {zs : List Zv} {vs : List V}, RepZs K G t zs vs → zs.all (Zv.below t.ad.length) = true
  | [], _, _ => rfl
  | _ :: _, _, ⟨v, r, e1, h, hr⟩ => by rw [List.all_cons, h.bel, RepZs.bel hr]; rfl
theorem RepZk.bel {κ : Type} : ∀ {zs : List (κ × Zv)} {vs : List (κ × V)}, RepZk K G t zs vs → (zs.all fun q => q.2.below t.ad.length) = true
  | [], _, _ => rfl
  | (_, _) :: _, _, ⟨v, r, e1, h, hr⟩ => by rw [List.all_cons, RepZ.bel h, RepZk.bel hr]; rfl
theorem Ok.bel (ok : Ok K t G ov H) : ov.all (OO.below ov.length) = true := by
  rw [List.all_eq_true]
  intro o ho
  obtain ⟨n, hn⟩ := List.mem_iff_getElem?.mp ho
  have hl : n < t.ad.length := by rw [ok.len]; exact (List.getElem?_eq_some_iff.mp hn).1
  have ha : t.ad[n]? = some t.ad[n] := List.getElem?_eq_getElem hl
  rw [← ok.len]
  cases o with
  | gone => rfl
  | lst zs => obtain ⟨_, u, _, xs, _, _, r⟩ := ok.ob n _ _ hn ha (by intro z; cases z); exact r.bel
  | dic zs => obtain ⟨_, u, _, xs, _, r⟩ := ok.ob n _ _ hn ha (by intro z; cases z); exact r.bel
  | ins c zs => obtain ⟨_, u, _, dx, xs, _, r⟩ := ok.ob n _ _ hn ha (by intro z; cases z); exact r.bel
/-- a new instance, its __init__ called, frozen -/
theorem make_z {zs : ZSp} {c : Str} {xs : List Zv} {vs : List V} {Qz : QE} {Ez : QX} {Q : VK} {E : XK} (ok : Ok K t G ov H) (r : RepZs K G t xs vs) (hd : xs.all Zv.isD = true) {x dx : Addr} (nx : H x = none) (ndx : H dx = none) (ne : dx ≠ x)
    (h : zs (.r 0 :: xs) [.ins c []] (fun y ov' => y = .d .non ∧ ∃ fs ds, ov' = [.ins c fs] ∧ pureK fs = some ds ∧ Qz (.d (.obj c ds)) ov) fun e ov' => (∃ o', ov' = [o'] ∧ o'.below 0 = true) ∧ Ez e ov) (pe : PostE K t G H Qz Q)
    (px : ∀ (x : Xc) (t' : Th) (G' : Hp) (cls : Value) (d : Option Addr) (H' : Hp), Stp t G H t' G' H' → Ok K t' G' ov H' → RepX K G' x cls d → Ez x ov → E cls d H') :
    lift K zs (.ref x :: vs) (upd (upd H dx (.own x)) x (.ins (He.ga K c) dx [])) (fun v H3 => v = .non ∧ Q (.ref x) H3) E := by
  -- the own dict, then the instance as an overlay object
  have g1 : Grow G H G (upd H dx (.own x)) := ⟨Same.refl G, same_upd ndx, ok.sub.trans (same_upd ndx), fun _ _ _ h => h⟩
  have ok1 := ok.grow g1
  have nx1 : upd H dx (.own x) x = none := by rw [upd_ne ne.symm]; exact nx
  obtain ⟨ok2, s2⟩ := ok1.new (o := OO.ins c []) (u := HO.ins (He.ga K c) dx []) nx1 (by intro z; cases z) ⟨dx, [], rfl, rfl⟩
  have s02 := g1.stp.trans s2
  have ho : (ov ++ [OO.ins c []])[ov.length]? = some (OO.ins c []) := by simp
  have hx : (t.ad ++ [x])[ov.length]? = some x := by rw [← ok.len]; simp
  have rr : RepZs K G ⟨t.ad ++ [x], t.dw⟩ (.r ov.length :: xs) (.ref x :: vs) := ⟨_, _, rfl, ⟨x, hx, rfl⟩, r.mono s02⟩
  have hc : ren1L ov.length (.r ov.length :: xs) = some (.r 0 :: xs) := by
    unfold ren1L
    simp only [ren1, Nat.beq_refl, ren_isD hd]
  have hn : ov.length < (Th.mk (t.ad ++ [x]) t.dw).ad.length := by simp [ok.len]
  refine ⟨⟨[x], t.dw⟩, G, [OO.ins c []], .r 0 :: xs, _, _, ok2.callee1 (a := x) hx ho rfl, rr.ren hx hc, h, fun z ov' t' G' v H' s ok' rz q => ?_, fun e ov' t' G' cls d H' s ok' rx q => ?_⟩
  · obtain ⟨rfl, fs, ds, e, hp, q⟩ := q
    subst e
    refine ⟨rz, ?_⟩
    have hb : (OO.ins c fs).below 0 = true := pureK_b0 hp
    have s3 := Stp.caller1 (t := ⟨t.ad ++ [x], t.dw⟩) hx s
    have ok3 := Ok.caller1 ok2 hx ho s ok' hb
    have e3 : (ov ++ [OO.ins c []]).set ov.length (.ins c fs) = ov ++ [.ins c fs] := by simp
    rw [e3] at ok3
    obtain ⟨G4, s4, ok4, r4⟩ := frz_ok (z := .r ov.length) (v := .ref x) (d := .obj c ds) (ov1 := (ov ++ [OO.ins c fs]).set ov.length .gone) ok3 ⟨x, hx, rfl⟩ (by
      unfold frz
      simp [OO.pure?, hp])
    have e4 : (ov ++ [OO.ins c fs]).set ov.length .gone = ov ++ [.gone] := by simp
    rw [e4] at ok4
    have lad : t.ad.length = ov.length := ok.len
    have hb2 : ((ov ++ [OO.gone]).take ov.length).all (OO.below ov.length) = true := by simpa using ok.bel
    have ok5 := ok4.cut hb2
    have s5 := ((s02.trans s3).trans s4).cut (n := ov.length) (Nat.le_of_eq lad)
    have e5 : (ov ++ [OO.gone]).take ov.length = ov := by simp
    rw [e5] at ok5
    exact pe (.d (.obj c ds)) ov _ G4 (.ref x) H' s5 ok5 r4 q
  · obtain ⟨⟨o', eo, hb⟩, q⟩ := q
    subst eo
    have s3 := Stp.caller1 (t := ⟨t.ad ++ [x], t.dw⟩) hx s
    have ok3 := Ok.caller1 ok2 hx ho s ok' hb
    have e3 : (ov ++ [OO.ins c []]).set ov.length o' = ov ++ [o'] := by simp
    rw [e3] at ok3
    have lad : t.ad.length = ov.length := ok.len
    have hb2 : ((ov ++ [o']).take ov.length).all (OO.below ov.length) = true := by simpa using ok.bel
    have ok5 := ok3.cut hb2
    have s5 := (s02.trans s3).cut (n := ov.length) (Nat.le_of_eq lad)
    have e5 : (ov ++ [o']).take ov.length = ov := by simp
    rw [e5] at ok5
    exact px e _ G' cls d H' s5 ok5 rx q
end
end Z
namespace Z
open PySem PySem.Spec PyProof.Rows L2
/-- exceptions go on as the def's wish says -/
abbrev WD (E : XK) : WX := fun c d _ H => E c d H
section
variable {X : Cx} {W : WX} {k : Nat} {x : Str} {ps ks : List Str} {sp : ZSp} {e o : Expr} {es : List Expr} {za zk : ZA} {zo : ZE} {p pos apos : Pos} {kws : List Keyword} {c m : Str} {E : XK}
theorem ze_callR (F : Gf X.prog X.w X.K X.mg X.base x k ps sp) (tk : Takes X W) (hr : Room k X.A) (ha : ZAj X W (e :: es) za) (hg : Gl X x := by rfl) (hdb : (x == ("__debug__" : Str)) = false := by decide)
    (he : starEach (e :: es) X.env = (false, eval e X.env) :: starEach es X.env := by rfl) (hpl : (backTo pos (starEach es X.env)).any (·.1) = false := by rfl) : ZEj X W (.Call (.Name x p) (e :: es) [] pos) (zCallR sp za) := by
  obtain ⟨f, fd, hm, hk, hb, F⟩ := F.ex
  refine PE.imp (pe_callS (E := WE W) F hr hg hm hk hb (fun σ => passAt tk σ) ha hdb he hpl) fun σ H Q ⟨t, G, env, ov, Qz, Ez, A, q, pe, px⟩ => ?_
  refine ⟨t, G, env, ov, _, Ez, A, q, fun xs ov1 t1 G1 vs H1 s1 ok1 r1 q1 => ?_, px⟩
  obtain ⟨n, o, xc, ho, hb', hc, q1⟩ := q1
  exact lift_call1 ok1 r1 ho hb' hc q1 (pe.step s1) fun y o' t' G' cls d H' s ok' rx q => px.step s1 y _ t' G' cls d H' s ok' rx q
/-! keyword arguments -/
abbrev ZKj (X : Cx) (W : WX) (ks : List Keyword) (z : ZA) : Prop := PK X ks (tza X.K W z)
theorem PK.imp {e : List Keyword} {t t' : TA} (h : PK X e t) (hi : ∀ σ H Q, t' σ H Q → t σ H Q) : PK X e t' := ⟨fun p pins s σ H Q I q => h.run p pins s σ H Q I (hi σ H Q q)⟩
theorem zk_nil : ZKj X W [] zNil := PK.imp pk_nil fun σ H Q ⟨t, G, env, ov, Qz, Ez, A, q, pe, px⟩ => pe [] ov t G [] H .refl A.ok rfl q
theorem zk_cons {ze : ZE} {zr : ZA} {nm : Option Str} {kpos : Pos} (ha : ZEj X W e ze) (hr : ZKj X W kws zr) : ZKj X W (⟨nm, e, kpos⟩ :: kws) (zCons ze zr) := by
  refine PK.imp (pk_cons ha hr) fun σ H Q ⟨t, G, env, ov, Qz, Ez, A, q, pe, px⟩ => ?_
  refine ⟨t, G, env, ov, _, Ez, A, q, fun x ov1 t1 G1 v H1 s1 ok1 r1 q1 => ?_, px⟩
  refine ⟨t1, G1, env, ov1, _, Ez, A.step s1 ok1, q1, fun xs ov2 t2 G2 vs H2 s2 ok2 r2 q2 => ?_, px.step s1⟩
  exact pe (x :: xs) ov2 t2 G2 (v :: vs) H2 (s1.trans s2) ok2 ⟨v, vs, rfl, r1.mono s2, r2⟩ q2
/-! new instances -/
theorem isD_app {xs ys : List Zv} (h1 : xs.all Zv.isD = true) (h2 : ys.all Zv.isD = true) : (xs ++ ys).all Zv.isD = true := by rw [List.all_append, h1, h2]; rfl
theorem ze_make {n : Nat} (M : MkC X.prog X.w X.K X.mg X.base c k n ks ps sp) (tk : Takes X (WD E)) (hr : Room (k + 1) X.A) (ha : ZAj X (WD E) (e :: es) za) (hkw : ZKj X (WD E) kws zk) (hg : Gl X c := by rfl)
    (hall : (backToKw pos (keywordEach kws X.env)).all (·.1.isSome) = true := by rfl) (hks : (backToKw pos (keywordEach kws X.env)).filterMap (·.1) = ks := by rfl) (hdb : (c == ("__debug__" : Str)) = false := by decide)
    (he : starEach (e :: es) X.env = (false, eval e X.env) :: starEach es X.env := by rfl) (hpl : ((backTo pos (starEach (e :: es) X.env)).any (·.1) || (backToKw pos (keywordEach kws X.env)).any (·.1.isNone)) = false := by rfl) :
    ZEj X (WD E) (.Call (.Name c p) (e :: es) kws pos) (zMake c n ks.length sp za zk) := by
  obtain ⟨f, fd, hm, hM, F, hb⟩ := M.ex
  have hx : Passes (L2.CX X.prog X.w) X E := passes_call tk fun _ _ _ _ h => h
  refine PE.imp (pe_makeK hM F hr hg hm hb hx ha hkw hall hks hdb he hpl) fun σ H Q ⟨t, G, env, ov, Qz, Ez, A, q, pe, px⟩ => ?_
  refine ⟨t, G, env, ov, _, Ez, A, q, fun xs ov1 t1 G1 vs H1 s1 ok1 r1 q1 => ?_, px⟩
  refine ⟨t1, G1, env, ov1, _, Ez, A.step s1 ok1, q1, fun ys ov2 t2 G2 us H2 s2 ok2 r2 q2 => ?_, px.step s1⟩
  obtain ⟨l1, l2, d1, d2, q2⟩ := q2
  refine ⟨by rw [r1.len]; exact l1, by rw [r2.len]; exact l2, fun x dx nx ndx ne => ?_⟩
  have s12 := s1.trans s2
  exact make_z (vs := vs ++ us) ok2 (RepZs.app (r1.mono s2) r2) (isD_app d1 d2) nx ndx ne q2 (pe.step s12) fun y t' G' cls d H' s ok' rx q => px.step s12 y ov2 t' G' cls d H' s ok' rx q
/-! properties, methods of data -/
structure PropC (P : Program) (w : World) (K : PySem.W.Frag) (mg : Str → Option Value) (base : Heap) (c f : Str) (k : Nat) (ps : List Str) (zs : ZSp) : Prop where
  ex : ∃ p g fd, PropOf K (He.ga K c) f p g ∧ Binds K fd ps [] ∧ FnOk P w K mg base (L2.CX P w) k g fd ps (lift K zs)
def zProp (c : Str) (sp : ZSp) (zo : ZE) : ZE := fun env ov Q E => zo env ov (fun x ov1 => ∃ fs, x = .d (.obj c fs) ∧ sp [x] [] (fun y _ => y.isD = true ∧ Q y ov1) noX) E
theorem ze_prop {f : Str} (hc : Cls X.K (He.ga X.K c)) (Pc : PropC X.prog X.w X.K X.mg X.base c f k ps sp) (hr : Room (k + 1) X.A) (he : ZEj X W o zo) (hab : attributeBase o f X.env (eval o X.env) = eval o X.env := by rfl) : ZEj X W (.Attribute o f pos) (zProp c sp zo) := by
  obtain ⟨pp, g, fd, hp, hb, F⟩ := Pc.ex
  refine PE.imp (pe_prop (E := E0) he hc hp F hr hb .nil passL hab) fun σ H Q ⟨t, G, env, ov, Qz, Ez, A, q, pe, px⟩ => ?_
  refine ⟨t, G, env, ov, _, Ez, A, q, fun x ov1 t1 G1 v H1 s1 ok1 r1 q1 => ?_, px⟩
  obtain ⟨fs, rfl, q1⟩ := q1
  obtain ⟨a, dx, vs, e, hin, rf⟩ := id r1
  refine ⟨a, dx, vs, e, ok1.sub _ _ hin, ?_⟩
  subst e
  exact lift_call (Ez := fun _ _ => False) ok1 (xs := [.d (.obj c fs)]) ⟨_, _, rfl, r1, rfl⟩ rfl q1 (pe.step s1) fun x t' G' cls d H' s ok r h => h
structure MethC (P : Program) (w : World) (K : PySem.W.Frag) (mg : Str → Option Value) (base : Heap) (c m : Str) (k : Nat) (ps : List Str) (zs : ZSp) : Prop where
  ex : ∃ f fd, Meth K (He.ga K c) m f ∧ Binds K fd ps [] ∧ FnOk P w K mg base (L2.CX P w) k f fd ps (lift K zs)
def zMeth (c m : Str) (sp : ZSp) (zo : ZE) (za : ZA) : ZE := fun env ov Q E => zo env ov (fun x ov1 => ∃ fs, x = .d (.obj c fs) ∧ fs.lookup m = none ∧ za env ov1 (fun xs ov2 => xs.all Zv.isD = true ∧ sp (x :: xs) [] (fun y _ => y.isD = true ∧ Q y ov2) fun y _ => E y ov2) E) E
theorem RepF.lookup0 {K : PySem.W.Frag} {G : Hp} : ∀ {fs : List (Str × D)} {vs : List (Str × V)} {f : Str}, RepF K G fs vs → fs.lookup f = none → vs.lookup f = none
  | [], _, _, h, e => by have h : _ = _ := h; subst h; rfl
  | (k, x) :: fs, _, f, ⟨v, r, e1, h, hr⟩, e => by
    subst e1
    rw [List.lookup_cons] at e ⊢
    cases hb : f == k with
    | true => rw [hb] at e; cases e
    | false => rw [hb] at e; exact RepF.lookup0 hr e
theorem ze_meth {pl : Sem Bool} (hc : Cls X.K (He.ga X.K c)) (M : MethC X.prog X.w X.K X.mg X.base c m k ps sp) (tk : Takes X (WD E)) (hr : Room k X.A) (he : ZEj X (WD E) o zo) (ha : ZAj X (WD E) (e :: es) za)
    (hst : starEach (e :: es) X.env = (false, eval e X.env) :: starEach es X.env := by rfl) (hpl : (backTo pos (starEach es X.env)).any (·.1) = false := by rfl)
    (ht : eval (.Call (.Attribute o m apos) (e :: es) [] pos) X.env = (do
      let ov ← eval o X.env
      standAt apos.atName
      let (f, first) ← holding [ov] (getMethod ov m pl)
      callWith pos f first (backTo pos (starEach (e :: es) X.env)) (backToKw pos (keywordEach [] X.env))) := by rfl) : ZEj X (WD E) (.Call (.Attribute o m apos) (e :: es) [] pos) (zMeth c m sp zo za) := by
  obtain ⟨f, fd, hm, hb, F⟩ := M.ex
  have hx : Passes (L2.CX X.prog X.w) X E := passes_call tk fun _ _ _ _ h => h
  refine PE.imp (pe_meth he hc hm F hr hb .nil hx ha hst hpl ht) fun σ H Q ⟨t, G, env, ov, Qz, Ez, A, q, pe, px⟩ => ?_
  refine ⟨t, G, env, ov, _, Ez, A, q, fun x ov1 t1 G1 v H1 s1 ok1 r1 q1 => ?_, px⟩
  obtain ⟨fs, rfl, hl, q1⟩ := q1
  obtain ⟨a, dx, vs, e, hin, rf⟩ := id r1
  refine ⟨a, dx, vs, e, ok1.sub _ _ hin, rf.lookup0 hl, t1, G1, env, ov1, _, Ez, A.step s1 ok1, q1, fun xs ov2 t2 G2 us H2 s2 ok2 r2 q2 => ?_, px.step s1⟩
  have s12 := s1.trans s2
  show lift X.K sp (v :: (us ++ [])) H2 Q E
  rw [List.append_nil]
  exact lift_call ok2 (xs := .d (.obj c fs) :: xs) ⟨_, _, rfl, r1.mono s2, r2⟩ (by rw [List.all_cons, q2.1]; rfl) q2.2 (pe.step s12) fun y t' G' cls d H' s ok' rx q => px.step s12 y ov2 t' G' cls d H' s ok' rx q
end
/-! ### isinstance against two built-in classes, an own class -/
section
variable {X : Cx} {W : WX} {e : Expr} {za : ZE} {pos p p1 p2 p3 : Pos} {k : Nat} {T1 T2 : String} {c1 c2 : Str}
theorem kitAny_of {K : PySem.W.Frag} {t : String} : ∀ {Ts : List String} {b : Bool}, (match Ts with | _ => True) → (∀ d, tyN d = some t → isiDs Ts d = some b → PySem.W.kitAny K (.type t) (Ts.map Value.type) = some b) := by
  intro Ts
  induction Ts with
  | nil => intro b _ d _ h; exact h
  | cons T Ts ih =>
    intro b _ d ht h
    unfold isiDs isiD at h
    rw [ht] at h
    simp only at h
    unfold PySem.W.kitAny
    cases hk : kitB t T with
    | none => rw [hk] at h; cases h
    | some r =>
      rw [hk] at h
      rw [List.map_cons]
      simp only [kit_ty (K := K) hk]
      cases r with
      | true => exact h
      | false => exact ih trivial d ht h
theorem ze_isi2 (hm : X.mg "isinstance" = none) (hm1 : X.mg c1 = none) (hv1 : bootBuiltins c1 = some (.type T1)) (hm2 : X.mg c2 = none) (hv2 : bootBuiltins c2 = some (.type T2)) (ha : ZEj X W e za)
    (hg : Gl X "isinstance" := by rfl) (hg1 : Gl X c1 := by rfl) (hg2 : Gl X c2 := by rfl) (hn1 : c1 ≠ "__name__" := by decide) (hd1 : (c1 == ("__debug__" : Str)) = false := by decide) (hn2 : c2 ≠ "__name__" := by decide) (hd2 : (c2 == ("__debug__" : Str)) = false := by decide)
    (hs : starEach [e, .Tuple [.Name c1 p1, .Name c2 p2] k p3] X.env = (false, eval e X.env) :: starEach [.Tuple [.Name c1 p1, .Name c2 p2] k p3] X.env := by rfl)
    (hs2 : starEach [.Tuple [.Name c1 p1, .Name c2 p2] k p3] X.env = (false, eval (.Tuple [.Name c1 p1, .Name c2 p2] k p3) X.env) :: starEach [] X.env := by rfl)
    (hs3 : starEach [.Name c1 p1, .Name c2 p2] X.env = (false, eval (.Name c1 p1) X.env) :: starEach [.Name c2 p2] X.env := by rfl) (hs4 : starEach [.Name c2 p2] X.env = (false, eval (.Name c2 p2) X.env) :: starEach [] X.env := by rfl)
    (hpl : (backTo pos (starEach [.Tuple [.Name c1 p1, .Name c2 p2] k p3] X.env)).any (·.1) = false := by rfl) (hv : bootBuiltins "isinstance" = some (.builtin "isinstance") := by decide +kernel) :
    ZEj X W (.Call (.Name "isinstance" p) [e, .Tuple [.Name c1 p1, .Name c2 p2] k p3] [] pos) (zIsiT [T1, T2] za) := by
  refine PE.imp (pe_callB call_isiT hg hm hv (pa_cons ha (pa_cons (pe_tup (pa_cons (pe_bltn (v := .ty T1) hg1 hm1 hv1 rfl hn1 hd1) (pa_cons (pe_bltn (v := .ty T2) hg2 hm2 hv2 rfl hn2 hd2) pa_nil hs4) hs3)) pa_nil hs2) hs) (by decide) (by decide) hs hpl) fun σ H Q h => tz_isi h fun G H d v b s r e1 q => ?_
  refine ⟨by show 2 ≤ sizeLine; decide, fun tp np => ?_⟩
  have h1 : ∃ t, tyN d = some t := by
    unfold isiDs isiD at e1
    cases ht : tyN d with
    | none => rw [ht] at e1; cases e1
    | some t => exact ⟨t, rfl⟩
  obtain ⟨t, ht⟩ := h1
  have sm : Same H (upd H tp (.tup [.ty T1, .ty T2])) := same_upd np
  have r' : Rep1 X.K (upd H tp (.tup [.ty T1, .ty T2])) G d v := by
    cases d with
    | lst ds => obtain ⟨a, ys, rfl, ha, q⟩ := r; exact ⟨a, ys, rfl, sm _ _ ha, q⟩
    | dic ds => obtain ⟨a, ys, rfl, ha, q⟩ := r; exact ⟨a, ys, rfl, sm _ _ ha, q⟩
    | obj c fs => cases ht
    | non => exact r
    | bl _ => exact r
    | int _ => exact r
    | str _ => exact r
    | tup _ => exact r
  exact ⟨v, tp, [.ty T1, .ty T2], .type t, [.type T1, .type T2], b, rfl, upd_same, .cons (.ty _) (.cons (.ty _) .nil), tyX_of (s.trans sm) r' ht, kitAny_of (Ts := [T1, T2]) trivial d ht e1, q _ sm⟩
/-- isinstance(x, C), C an own class: of instances of C and of data of built-in classes -/
def isC (c : Str) : D → Option Bool
  | .obj c' _ => if c' = c then some true else none
  | _ => some false
def zIsiC (c : Str) (za : ZE) : ZE := fun env ov Q E => za env ov (fun x ov1 => ∃ d b, vw ov1 x = some d ∧ isC c d = some b ∧ Q (.d (.bl b)) ov1) E
structure InsK (K : PySem.W.Frag) (c : Str) : Prop where
  i : C8.InsC K (He.ga K c)
  b : ∀ t ∈ ["NoneType", "bool", "int", "str", "tuple", "list", "dict"], PySem.W.kitOne K (.type t) (.ref (He.ga K c)) = some false
theorem ze_isiC {c : Str} (hk : InsK X.K c) (hm : X.mg "isinstance" = none) (hmT : X.mg c = some (.ref (He.ga X.K c))) (ha : ZEj X W e za) (hg : Gl X "isinstance" := by rfl) (hgT : Gl X c := by rfl) (hdT : (c == ("__debug__" : Str)) = false := by decide)
    (hs : starEach [e, .Name c p3] X.env = (false, eval e X.env) :: starEach [.Name c p3] X.env := by rfl) (hs2 : starEach [.Name c p3] X.env = (false, eval (.Name c p3) X.env) :: starEach [] X.env := by rfl)
    (hpl : (backTo pos (starEach [.Name c p3] X.env)).any (·.1) = false := by rfl) (hv : bootBuiltins "isinstance" = some (.builtin "isinstance") := by decide +kernel) : ZEj X W (.Call (.Name "isinstance" p) [e, .Name c p3] [] pos) (zIsiC c za) := by
  refine PE.imp (pe_callB call_isi hg hm hv (pa_cons ha (pa_cons (pe_glob (v := .ref (He.ga X.K c)) hgT hmT rfl hdT) pa_nil hs2) hs) (by decide) (by decide) hs hpl) fun σ H Q h => tz_isi (f := isC c) h fun G H d v b s r e1 q => ?_
  have other : ∀ t, tyN d = some t → b = false → ∃ (x cc : V) (t u : Value) (b' : Bool), [v, .ref (He.ga X.K c)] = [x, cc] ∧ ClsV cc u ∧ TyX X.K H x t ∧ PySem.W.kitOne X.K t u = some b' ∧ Q (.bl b') H := fun t ht hb => by
    subst hb
    have hm' : t ∈ ["NoneType", "bool", "int", "str", "tuple", "list", "dict"] := by
      rcases tyN_all ht with h | h | h | h | h | h | h <;> subst h <;> simp
    exact ⟨v, _, .type t, _, false, rfl, .own _, tyX_of s r ht, hk.b t hm', q H (Same.refl H)⟩
  cases d with
  | obj c' fs =>
    by_cases hcc : c' = c
    · subst hcc
      simp only [isC, if_true] at e1
      cases e1
      obtain ⟨a, dx, vs, rfl, hin, _⟩ := r
      exact ⟨_, _, _, _, true, rfl, .own _, .base (TyOf.ins hin hk.i.cl hk.i.ha hk.i.hn hk.i.htk hk.i.hm), hk.i.me, q H (Same.refl H)⟩
    · simp only [isC, hcc, if_false] at e1; cases e1
  | non => exact other _ rfl (Option.some.inj e1).symm
  | bl _ => exact other _ rfl (Option.some.inj e1).symm
  | int _ => exact other _ rfl (Option.some.inj e1).symm
  | str _ => exact other _ rfl (Option.some.inj e1).symm
  | tup _ => exact other _ rfl (Option.some.inj e1).symm
  | lst _ => exact other _ rfl (Option.some.inj e1).symm
  | dic _ => exact other _ rfl (Option.some.inj e1).symm
end
end Z
namespace Z
open PySem PySem.Spec PyProof.Rows L2
/-! ### displays of dicts -/
def mergeZ (kvs more : List (Key × Zv)) : List (Key × Zv) := more.foldl (fun acc kv => putZ acc kv.1 kv.2) kvs
def keysZ : List (Zv × Zv) → Option (List (Key × Zv))
  | [] => some []
  | (k, v) :: r => match keyZ k with
    | some a => match keysZ r with
      | some l => some ((a, v) :: l)
      | none => none
    | none => none
def zPrs : List (ZE × ZE) → Env → Ov → (List (Zv × Zv) → Ov → Prop) → QX → Prop
  | [], _, ov, Q, _ => Q [] ov
  | (zk, zv) :: r, env, ov, Q, E => zk env ov (fun x ov1 => zv env ov1 (fun y ov2 => zPrs r env ov2 (fun ps ov3 => Q ((x, y) :: ps) ov3) E) E) E
/-- {..}: a dict that will change; a frozen one -/
def zDictN (prs : List (ZE × ZE)) : ZE := fun env ov Q E => zPrs prs env ov (fun ps ov1 => ∃ kvs, keysZ ps = some kvs ∧ kvs.length ≤ 15 ∧ Q (.r ov1.length) (ov1 ++ [.dic (mergeZ [] kvs)])) E
def zDictF (prs : List (ZE × ZE)) : ZE := fun env ov Q E => zPrs prs env ov (fun ps ov1 => ∃ kvs ds, keysZ ps = some kvs ∧ kvs.length ≤ 15 ∧ pureK (mergeZ [] kvs) = some ds ∧ Q (.d (.dic ds)) ov1) E
def zDict0 : ZE := fun _ ov Q _ => Q (.r ov.length) (ov ++ [.dic []])
/-- dict(d), list(l): new ones that will change -/
def zDictOf (za : ZE) : ZE := fun env ov Q E => za env ov (fun x ov1 => ∃ kvs, dicZ ov1 x = some kvs ∧ Q (.r ov1.length) (ov1 ++ [.dic kvs])) E
def RepPs (K : PySem.W.Frag) (G : Hp) (t : Th) : List (Zv × Zv) → List (V × V) → Prop
  | [], vs => vs = []
  | (a, b) :: ds, vs => ∃ v u r, vs = (v, u) :: r ∧ RepZ K G t a v ∧ RepZ K G t b u ∧ RepPs K G t ds r
section
variable {K : PySem.W.Frag} {t t' : Th} {G G' H H' : Hp} {ov ov' : Ov}
theorem RepPs.keys : ∀ {ps : List (Zv × Zv)} {vs : List (V × V)} {kvs : List (Key × Zv)}, RepPs K G t ps vs → keysZ ps = some kvs → ∃ ws, vs = ws.map (fun kv => (kV kv.1, kv.2)) ∧ RepZk K G t kvs ws
  | [], _, _, h, e => by cases e; have h : _ = _ := h; subst h; exact ⟨[], rfl, rfl⟩
  | (a, b) :: ps, _, kvs, ⟨v, u, r, e1, h1, h2, hr⟩, e => by
    subst e1
    unfold keysZ at e
    cases ha : keyZ a with
    | none => rw [ha] at e; cases e
    | some k =>
      rw [ha] at e
      simp only at e
      cases hp : keysZ ps with
      | none => rw [hp] at e; cases e
      | some l =>
        rw [hp] at e
        cases e
        obtain ⟨ws, e2, rw'⟩ := RepPs.keys hr hp
        subst e2
        have ek := keyZ_rep h1 ha
        subst ek
        exact ⟨(k, u) :: ws, rfl, u, ws, rfl, h2, rw'⟩
theorem RepZk.merge : ∀ {more : List (Key × Zv)} {ms : List (Key × V)} {kvs : List (Key × Zv)} {vs : List (Key × V)}, RepZk K G t more ms → RepZk K G t kvs vs → RepZk K G t (mergeZ kvs more) (mergeK vs ms)
  | [], _, _, _, h, h2 => by have h : _ = _ := h; subst h; exact h2
  | (k, z) :: more, _, kvs, vs, ⟨v, r, e, h, hr⟩, h2 => by
    subst e
    exact RepZk.merge (more := more) (ms := r) (kvs := putZ kvs k z) (vs := putK vs k v) hr (h2.put h)
theorem zPrs_of {X : Cx} {W : WX} : ∀ {prs : List (ZE × ZE)} {σ : L2.St} {env : Env} {ov : Ov} {t : Th} {G H : Hp} {Qz : List (Zv × Zv) → Ov → Prop} {Ez : QX} {Q : List (V × V) → Hp → Prop}, At X.K t G env ov σ H → zPrs prs env ov Qz Ez → PostX X.K t G H Ez W σ →
    (∀ (ps : List (Zv × Zv)) (ov' : Ov) (t' : Th) (G' : Hp) (vs : List (V × V)) (H' : Hp), Stp t G H t' G' H' → Ok X.K t' G' ov' H' → RepPs X.K G' t' ps vs → Qz ps ov' → Q vs H') → tPairs (prs.map fun p => (tz X.K W p.1, tz X.K W p.2)) σ H Q
  | [], σ, env, ov, t, G, H, Qz, Ez, Q, A, q, px, pe => pe [] ov t G [] H .refl A.ok rfl q
  | (zk, zv) :: prs, σ, env, ov, t, G, H, Qz, Ez, Q, A, q, px, pe => by
    refine ⟨t, G, env, ov, _, Ez, A, q, fun x ov1 t1 G1 v H1 s1 ok1 r1 q1 => ?_, px⟩
    refine ⟨t1, G1, env, ov1, _, Ez, A.step s1 ok1, q1, fun y ov2 t2 G2 u H2 s2 ok2 r2 q2 => ?_, px.step s1⟩
    have s12 := s1.trans s2
    refine zPrs_of (A.step s12 ok2) q2 (px.step s12) fun ps ov3 t3 G3 vs H3 s3 ok3 r3 q3 => ?_
    exact pe ((x, y) :: ps) ov3 t3 G3 ((v, u) :: vs) H3 (s12.trans s3) ok3 ⟨v, u, vs, rfl, (r1.mono s2).mono s3, r2.mono s3, r3⟩ q3
/-- H with a new object at p that nobody owns -/
theorem Ok.aside (ok : Ok K t G ov H) {p : Addr} {o : HO} (np : H p = none) : Ok K t G ov (upd H p o) ∧ Stp t G H t G (upd H p o) :=
  have g : Grow G H G (upd H p o) := ⟨Same.refl G, same_upd np, ok.sub.trans (same_upd np), fun _ _ _ h => h⟩
  ⟨ok.grow g, g.stp⟩
theorem Ok.free (ok : Ok K t G ov H) {p : Addr} (np : H p = none) : ¬ t.own p := fun h => by
  rcases h with h | ⟨x, e, h⟩
  · obtain ⟨u, e⟩ := ok.thr p h; rw [np] at e; cases e
  · obtain ⟨d, _⟩ := ok.dw x e
    obtain ⟨_, _, _, _, _, h1, h2, h3, _⟩ := d.ex
    rcases h with z | z | z <;> subst z
    · rw [np] at h1; cases h1
    · rw [np] at h2; cases h2
    · rw [np] at h3; cases h3
/-- an object at p that nobody owns, nothing frozen leans on, becomes an overlay object -/
theorem Ok.adopt (ok : Ok K t G ov H) {p : Addr} {o : OO} {u u0 : HO} (hp : H p = some u0) (gp : G p = none) (no : ¬ t.own p) (hg : o ≠ .gone) (r : RepO K G t o u) :
    Ok K ⟨t.ad ++ [p], t.dw⟩ G (ov ++ [o]) (upd H p u) := by
  have pn : p ∉ t.ad := fun h => no (.inl h)
  have th : ∀ (n : Nat) a, t.ad[n]? = some a → (t.ad ++ [p])[n]? = some a := fun n a h => by
    rw [List.getElem?_append_left (List.getElem?_eq_some_iff.mp h).1]; exact h
  refine ⟨by simp [ok.len], fun b u' eb => ?_, fun b hb => ?_, fun m o2 b h1 h2 h3 => ?_, ?_, fun x hx => ?_⟩
  · have : b ≠ p := fun z => by subst z; rw [gp] at eb; cases eb
    rw [upd_ne this]; exact ok.sub b u' eb
  · by_cases hb' : b = p
    · subst hb'; exact ⟨u, upd_same⟩
    · rw [upd_ne hb']
      rcases List.mem_append.mp hb with h | h
      · exact ok.thr b h
      · exact (hb' (by simpa using h)).elim
  · by_cases hm : m < ov.length
    · rw [List.getElem?_append_left hm] at h1
      have hm2 : m < t.ad.length := by rw [ok.len]; exact hm
      have h2' : (t.ad ++ [p])[m]? = some b := h2
      rw [List.getElem?_append_left hm2] at h2'
      obtain ⟨gb, u2, hu2, q⟩ := ok.ob m o2 b h1 h2' h3
      have : b ≠ p := fun z => pn (by subst z; exact List.mem_of_getElem? h2')
      exact ⟨gb, u2, by rw [upd_ne this]; exact hu2, RepO.th (t := t) (t2 := ⟨t.ad ++ [p], t.dw⟩) (Same.refl G) th (fun _ h => h) q⟩
    · rw [List.getElem?_append_right (by omega)] at h1
      have h2' : (t.ad ++ [p])[m]? = some b := h2
      rw [List.getElem?_append_right (by rw [ok.len]; omega)] at h2'
      have e0 : m - ov.length = 0 := by
        cases hq : m - ov.length with
        | zero => rfl
        | succ j => rw [hq] at h1; simp at h1
      rw [e0] at h1
      rw [ok.len, e0] at h2'
      have e1 : o = o2 := by simpa using h1
      have e2 : p = b := by simpa using h2'
      subst e1 e2
      exact ⟨gp, u, upd_same, RepO.th (t := t) (t2 := ⟨t.ad ++ [p], t.dw⟩) (Same.refl G) th (fun _ h => h) r⟩
  · rw [List.nodup_append]
    exact ⟨ok.nd, by simp, fun a ha b hb e => by
      have : b = p := by simpa using hb
      subst this; subst e; exact pn ha⟩
  · obtain ⟨d1, e1, e2, e3, q1, q2, q3⟩ := ok.dw x hx
    obtain ⟨ls, cs, p1, p2, p3, h1, h2, h3, h4⟩ := id d1.ex
    have n1 : x.1 ≠ p := fun z => no (.inr ⟨x, hx, .inl z.symm⟩)
    have n2 : x.2.1 ≠ p := fun z => no (.inr ⟨x, hx, .inr (.inl z.symm)⟩)
    have n3 : x.2.2 ≠ p := fun z => no (.inr ⟨x, hx, .inr (.inr z.symm)⟩)
    exact ⟨⟨ls, cs, p1, p2, p3, by rw [upd_ne n1]; exact h1, by rw [upd_ne n2]; exact h2, by rw [upd_ne n3]; exact h3, h4⟩, e1, e2, e3, by simp [q1, n1], by simp [q2, n2], by simp [q3, n3]⟩
theorem Stp.adopt {p : Addr} {u : HO} {H0 G0 : Hp} {t0 : Th} (s : Stp t0 G0 H0 t G H) (np : H0 p = none) (no : ¬ t.own p) : Stp t0 G0 H0 ⟨t.ad ++ [p], t.dw⟩ G (upd H p u) := by
  refine ⟨s.g, fun a o e n => ?_, s.nw, fun n a h => ?_, s.dw, fun a h n => ?_⟩
  · have : a ≠ p := fun z => by subst z; rw [np] at e; cases e
    rw [upd_ne this]; exact s.fr a o e n
  · have := s.ad n a h
    show (t.ad ++ [p])[n]? = some a
    rw [List.getElem?_append_left (List.getElem?_eq_some_iff.mp this).1]; exact this
  · rcases h with h | h
    · rcases List.mem_append.mp h with h | h
      · exact s.fs a (.inl h) n
      · have : a = p := by simpa using h
        subst this; exact np
    · exact s.fs a (.inr h) n
end
section
variable {X : Cx} {W : WX} {pos : Pos} {keys : List (Option Expr)} {values : List Expr} {prs : List (ZE × ZE)}
abbrev ZPj (X : Cx) (W : WX) (pos : Pos) (keys : List (Option Expr)) (values : List Expr) (prs : List (ZE × ZE)) : Prop := PPs X pos keys values (prs.map fun p => (tz X.K W p.1, tz X.K W p.2))
theorem zp_nil : ZPj X W pos [] [] [] := pps_nil
theorem zp_cons {k v : Expr} {zk zv : ZE} {ks : List (Option Expr)} {vs : List Expr} (hk : ZEj X W k zk) (hv : ZEj X W v zv) (hr : ZPj X W pos ks vs prs) : ZPj X W pos (some k :: ks) (v :: vs) ((zk, zv) :: prs) := pps_cons hk hv hr
theorem disp_of {σ : L2.St} {H : Hp} {Q : VK} {t : Th} {G : Hp} {env : Env} {ov : Ov} {Qz : List (Zv × Zv) → Ov → Prop} {Ez : QX} (A : At X.K t G env ov σ H) (q : zPrs prs env ov Qz Ez) (px : PostX X.K t G H Ez W σ)
    (hq : ∀ (p : Addr) (ps : List (Zv × Zv)) (ov1 : Ov) (t1 : Th) (G1 : Hp) (H1 : Hp), H p = none → Stp t G H t1 G1 H1 → Ok X.K t1 G1 ov1 H1 → H1 p = some (.dK []) → G1 p = none → ¬ t1.own p → Qz ps ov1 →
      ∃ kvs, keysZ ps = some kvs ∧ kvs.length ≤ 15 ∧ ∀ ws, RepZk X.K G1 t1 kvs ws → Q (.ref p) (upd H1 p (.dK (mergeK [] ws)))) : tDisp (prs.map fun p => (tz X.K W p.1, tz X.K W p.2)) σ H Q := by
  intro p np
  obtain ⟨ok1, s1⟩ := A.ok.aside (o := .dK []) np
  refine zPrs_of (A.step s1 ok1) q (px.step s1) fun ps ov2 t2 G2 vs H2 s2 ok2 r2 q2 => ?_
  have hp := s2.fr p _ (upd_same (H := H) (a := p) (o := .dK [])) (A.ok.free np)
  have gp := s2.nw p _ (upd_same (H := H) (a := p) (o := .dK [])) (sub_none A.ok.sub np) (A.ok.free np)
  have no : ¬ t2.own p := fun h => by have := s2.fs p h (A.ok.free np); rw [upd_same] at this; cases this
  obtain ⟨kvs, e1, l, h⟩ := hq p ps ov2 t2 G2 H2 np (s1.trans s2) ok2 hp gp no q2
  obtain ⟨ws, e2, rw'⟩ := r2.keys e1
  exact ⟨hp, ws, e2, by rw [rw'.len]; exact l, h ws rw'⟩
theorem ze_dictN (h : ZPj X W pos keys values prs) (hall : keys.all (·.isSome) = true := by rfl) (hl : keys.length = values.length := by rfl) (h0 : keys ≠ [] := by exact fun z => by cases z) (h15 : keys.length ≤ 15 := by decide) : ZEj X W (.Dict keys values pos) (zDictN prs) := by
  refine PE.imp (pe_disp h hall hl h0 h15) fun σ H Q ⟨t, G, env, ov, Qz, Ez, A, q, pe, px⟩ => ?_
  refine disp_of A q px fun p ps ov1 t1 G1 H1 np s1 ok1 hp gp no ⟨kvs, e, l, q1⟩ => ⟨kvs, e, l, fun ws r => ?_⟩
  have ok2 := ok1.adopt (o := OO.dic (mergeZ [] kvs)) (u := HO.dK (mergeK [] ws)) hp gp no (by intro z; cases z) ⟨_, rfl, r.merge (show RepZk X.K G1 t1 [] [] from rfl)⟩
  exact pe (.r ov1.length) _ _ G1 (.ref p) _ (s1.adopt np no) ok2 ⟨p, by rw [← ok1.len]; simp, rfl⟩ q1
theorem ze_dictF (h : ZPj X W pos keys values prs) (hall : keys.all (·.isSome) = true := by rfl) (hl : keys.length = values.length := by rfl) (h0 : keys ≠ [] := by exact fun z => by cases z) (h15 : keys.length ≤ 15 := by decide) : ZEj X W (.Dict keys values pos) (zDictF prs) := by
  refine PE.imp (pe_disp h hall hl h0 h15) fun σ H Q ⟨t, G, env, ov, Qz, Ez, A, q, pe, px⟩ => ?_
  refine disp_of A q px fun p ps ov1 t1 G1 H1 np s1 ok1 hp gp no ⟨kvs, ds, e, l, hpu, q1⟩ => ⟨kvs, e, l, fun ws r => ?_⟩
  have rm : RepZk X.K G1 t1 (mergeZ [] kvs) (mergeK [] ws) := r.merge (show RepZk X.K G1 t1 [] [] from rfl)
  have ok2 := ok1.adopt (o := OO.dic (mergeZ [] kvs)) (u := HO.dK (mergeK [] ws)) hp gp no (by intro z; cases z) ⟨_, rfl, rm⟩
  obtain ⟨G4, s4, ok4, r4⟩ := frz_ok (z := .r ov1.length) (v := .ref p) (d := .dic ds) (ov1 := (ov1 ++ [OO.dic (mergeZ [] kvs)]).set ov1.length .gone) ok2 ⟨p, by rw [← ok1.len]; simp, rfl⟩ (by
      unfold frz
      simp [OO.pure?, hpu])
  have e4 : (ov1 ++ [OO.dic (mergeZ [] kvs)]).set ov1.length .gone = ov1 ++ [.gone] := by simp
  rw [e4] at ok4
  have ok5 := ok4.cut (n := ov1.length) (by simpa using ok1.bel)
  have e5 : (ov1 ++ [OO.gone]).take ov1.length = ov1 := by simp
  rw [e5] at ok5
  have lt : t.ad.length ≤ ov1.length := by
    rw [← ok1.len]
    by_cases h0 : t.ad.length = 0
    · omega
    · have hl : t.ad.length - 1 < t.ad.length := by omega
      have := s1.ad (t.ad.length - 1) _ (List.getElem?_eq_getElem hl)
      have := (List.getElem?_eq_some_iff.mp this).1
      omega
  exact pe (.d (.dic ds)) ov1 _ G4 (.ref p) _ (((s1.adopt np no).trans s4).cut (n := ov1.length) lt) ok5 r4 q1
theorem ze_dict0 : ZEj X W (.Dict [] [] pos) zDict0 := by
  refine PE.imp pe_dnewK fun σ H Q ⟨t, G, env, ov, Qz, Ez, A, q, pe, px⟩ => ?_
  intro p np
  obtain ⟨ok1, s1⟩ := A.ok.new (o := OO.dic []) (u := HO.dK []) np (by intro z; cases z) ⟨[], rfl, rfl⟩
  exact pe (.r ov.length) _ _ G (.ref p) _ s1 ok1 ⟨p, by rw [← A.ok.len]; simp, rfl⟩ q
/-- a new list that will change -/
theorem ze_lstN {es : List Expr} {zr : ZA} (h : ZAj X W es zr) : ZEj X W (.List es pos) (zLstN zr) := by
  refine PE.imp (pe_lst h) fun σ H Q ⟨t, G, env, ov, Qz, Ez, A, q, pe, px⟩ => ?_
  refine ⟨t, G, env, ov, _, Ez, A, q, fun xs ov1 t1 G1 vs H1 s1 ok1 r1 q1 => ?_, px⟩
  refine ⟨by rw [r1.len]; exact q1.1, fun p np => ?_⟩
  obtain ⟨ok2, s2⟩ := ok1.new (o := OO.lst xs) (u := HO.lst vs) np (by intro z; cases z) ⟨vs, rfl, q1.1, r1⟩
  exact pe (.r ov1.length) _ _ G1 (.ref p) _ (s1.trans s2) ok2 ⟨p, by rw [← ok1.len]; simp, rfl⟩ q1.2
end
end Z
namespace Z
open PySem PySem.Spec PyProof.Rows L2
/-! ### the draw's contracts -/
def spTakeH : Sp := fun vs H Q _ => ∃ (x : Addr × Addr × Addr) (n : Int), vs = [.ref x.1, .int n] ∧ 1 ≤ n ∧ n < 1073741824 ∧ DrawAt H x ∧
  ∀ (k : Int) (H' : Hp), 0 ≤ k → k < n → DrawAt H' x → (∀ a o, H a = some o → a ≠ x.1 → a ≠ x.2.1 → a ≠ x.2.2 → H' a = some o) → Q (.int k) H'
def spTake : ZSp := fun zz ov Q _ => ov = [] ∧ ∃ n : Int, zz = [.dw, .d (.int n)] ∧ 1 ≤ n ∧ n < 1073741824 ∧ ∀ k : Int, 0 ≤ k → k < n → Q (.d (.int k)) []
theorem take_lift {K : PySem.W.Frag} {vs : List V} {H : Hp} {Q : VK} {E : XK} (h : lift K spTake vs H Q E) : spTakeH vs H Q E := by
  obtain ⟨t, G, ov, zz, Qz, Ez, ok, r, ⟨e1, n, e2, h1, h2, q⟩, pe, px⟩ := h
  subst e1 e2
  obtain ⟨v, r1, e, ⟨x, hx, ev⟩, v2, r2, e', rn, rr⟩ := r
  have rn : v2 = .int n := rn
  have rr : r2 = [] := rr
  subst e e' ev rn rr
  obtain ⟨d, g1, g2, g3, _⟩ := ok.dw x hx
  have lad : t.ad = [] := List.eq_nil_of_length_eq_zero ok.len
  refine ⟨x, n, rfl, h1, h2, d, fun k H' k0 k1 d' fr => ?_⟩
  have own : ∀ a, ¬ t.own a → a ≠ x.1 ∧ a ≠ x.2.1 ∧ a ≠ x.2.2 := fun a h => ⟨fun z => h (.inr ⟨x, hx, .inl z⟩), fun z => h (.inr ⟨x, hx, .inr (.inl z)⟩), fun z => h (.inr ⟨x, hx, .inr (.inr z)⟩)⟩
  have sg : Same G H' := fun a o e => fr a o (ok.sub a o e) (fun z => by subst z; rw [g1] at e; cases e) (fun z => by subst z; rw [g2] at e; cases e) (fun z => by subst z; rw [g3] at e; cases e)
  refine pe (.d (.int k)) [] t G (.int k) H' ⟨Same.refl G, fun a o e n => ?_, fun _ _ _ h _ => h, fun _ _ h => h, fun _ h => h, fun _ h n => (n h).elim⟩ ⟨by simpa using ok.len, sg, fun a ha => ?_, fun m o a h => ?_, ok.nd, fun y hy => ?_⟩ rfl (q k k0 k1)
  · obtain ⟨n1, n2, n3⟩ := own a n
    exact fr a o e n1 n2 n3
  · rw [lad] at ha; cases ha
  · simp at h
  · rw [hx] at hy; cases hy
    exact ⟨d', g1, g2, g3, by rw [lad]; simp, by rw [lad]; simp, by rw [lad]; simp⟩
section
variable {al ac : Addr} {rest turn mix : Int}
theorem draw_any (f : Key) (h : f = kS "large" ∨ f = kS "cells" ∨ f = kS "rest" ∨ f = kS "turn" ∨ f = kS "mix") : ((drawKv al ac rest turn mix).any fun kv => decide (kv.1 = f)) = true := by
  rcases h with rfl | rfl | rfl | rfl | rfl <;> simp [drawKv]
theorem draw_len : (drawKv al ac rest turn mix).length = 5 := rfl
theorem ks_ne : kS "large" ≠ kS "cells" ∧ kS "large" ≠ kS "rest" ∧ kS "large" ≠ kS "turn" ∧ kS "large" ≠ kS "mix" ∧ kS "cells" ≠ kS "rest" ∧ kS "cells" ≠ kS "turn" ∧ kS "cells" ≠ kS "mix" ∧ kS "rest" ≠ kS "turn" ∧ kS "rest" ≠ kS "mix" ∧ kS "turn" ≠ kS "mix" := by decide +kernel
theorem draw_get : valV (drawKv al ac rest turn mix) (kS "large") = some (.ref al) ∧ valV (drawKv al ac rest turn mix) (kS "cells") = some (.ref ac) ∧ valV (drawKv al ac rest turn mix) (kS "rest") = some (.int rest) ∧
    valV (drawKv al ac rest turn mix) (kS "turn") = some (.int turn) ∧ valV (drawKv al ac rest turn mix) (kS "mix") = some (.int mix) := by
  obtain ⟨n1, n2, n3, n4, n5, n6, n7, n8, n9, n10⟩ := ks_ne
  refine ⟨?_, ?_, ?_, ?_, ?_⟩ <;> simp [valV, drawKv, List.find?_cons, n1, n2, n3, n4, n5, n6, n7, n8, n9, n10]
theorem draw_put (r' : Int) : putK (drawKv al ac rest turn mix) (kS "rest") (.int r') = drawKv al ac r' turn mix ∧ putK (drawKv al ac rest turn mix) (kS "turn") (.int r') = drawKv al ac rest r' mix ∧
    putK (drawKv al ac rest turn mix) (kS "mix") (.int r') = drawKv al ac rest turn r' := by
  obtain ⟨n1, n2, n3, n4, n5, n6, n7, n8, n9, n10⟩ := ks_ne
  refine ⟨?_, ?_, ?_⟩ <;> simp [putK, drawKv, n1, n2, n3, n4, n5, n6, n7, n8, n9, n10, Ne.symm n1, Ne.symm n2, Ne.symm n3, Ne.symm n4, Ne.symm n5, Ne.symm n6, Ne.symm n7, Ne.symm n8, Ne.symm n9, Ne.symm n10]
end
end Z
namespace Z
open PySem PySem.Spec PyProof.Rows L2
/-! ### chained comparisons, tests of conditional expressions -/
def zChain (f g : DTs) (za zb zc : ZE) : ZE := fun env ov Q E => za env ov (fun x ov1 => zb env ov1 (fun y ov2 => ∃ dx dy, vw ov2 x = some dx ∧ vw ov2 y = some dy ∧
  f dx dy fun r => if r = true then zc env ov2 (fun u ov3 => ∃ dy2 du, vw ov3 y = some dy2 ∧ vw ov3 u = some du ∧ g dy2 du fun r2 => Q (.d (.bl r2)) ov3) E else Q (.d (.bl false)) ov2) E) E
def ztIte (c : ZT) (za zb : ZT) : ZT := fun env ov Q E => c env ov (fun b ov1 => if b = true then za env ov1 Q E else zb env ov1 Q E) E
section
variable {X : Cx} {W : WX} {a b c : Expr} {za zb zc : ZE} {pos : Pos}
theorem tChain_of {r r' : R2} {f g : DTs} (hz : CmpZ X.K r f) (hz' : CmpZ X.K r' g) {σ : L2.St} {H : Hp} {Q : VK} (h : tz X.K W (zChain f g za zb zc) σ H Q) : tChain r r' (tz X.K W za) (tz X.K W zb) (tz X.K W zc) σ H Q := by
  obtain ⟨t, G, env, ov, Qz, Ez, A, q, pe, px⟩ := h
  refine ⟨t, G, env, ov, _, Ez, A, q, fun x ov1 t1 G1 v H1 s1 ok1 r1 q1 => ?_, px⟩
  refine ⟨t1, G1, env, ov1, _, Ez, A.step s1 ok1, q1, fun y ov2 t2 G2 u H2 s2 ok2 r2 q2 => ?_, px.step s1⟩
  obtain ⟨dx, dy, e1, e2, hf⟩ := q2
  refine hz G2 H2 dx dy v u _ _ ok2.sub (ok2.vw1 (r1.mono s2) e1) (ok2.vw1 r2 e2) hf fun k G3 H3 p g3 => ⟨k, rfl, ?_⟩
  have s13 := (s1.trans s2).trans g3.stp
  have ok3 := ok2.grow g3
  cases k with
  | false => exact pe (.d (.bl false)) ov2 t2 G3 (.bl false) H3 s13 ok3 rfl p
  | true =>
    refine ⟨t2, G3, env, ov2, _, Ez, A.step s13 ok3, p, fun w ov4 t4 G4 w' H4 s4 ok4 r4 q4 => ?_, px.step s13⟩
    obtain ⟨dy2, dw, e3, e4, hg⟩ := q4
    refine hz' G4 H4 dy2 dw u w' _ Q ok4.sub (ok4.vw1 ((r2.mono g3.stp).mono s4) e3) (ok4.vw1 r4 e4) hg fun b G5 H5 p g5 => ?_
    exact pe (.d (.bl b)) ov4 t4 G5 (.bl b) H5 ((s13.trans s4).trans g5.stp) (ok4.grow g5) rfl p
theorem ze_chain {op op' : CmpOp} {r r' : R2} {f g : DTs} (ho : OpR X (compareOp op) r) (hz : CmpZ X.K r f) (ho' : OpR X (compareOp op') r') (hz' : CmpZ X.K r' g) (ha : ZEj X W a za) (hb : ZEj X W b zb) (hc : ZEj X W c zc)
    (hm : lastMarks [op, op'] [b, c] = false := by with_unfolding_all rfl) : ZEj X W (.Compare a [op, op'] [b, c] pos) (zChain f g za zb zc) :=
  PE.imp (pe_chain ho ho' ha hb hc hm) fun _ _ _ h => tChain_of hz hz' h
theorem zt_chain {op op' : CmpOp} {r r' : R2} {f g : DTs} (ho : OpR X (compareOp op) r) (hz : CmpZ X.K r f) (ho' : OpR X (compareOp op') r') (hz' : CmpZ X.K r' g) (ha : ZEj X W a za) (hb : ZEj X W b zb) (hc : ZEj X W c zc)
    (hm : lastMarks [op, op'] [b, c] = false := by with_unfolding_all rfl) : ZTj X W (.Compare a [op, op'] [b, c] pos) (ztB (zChain f g za zb zc)) :=
  PT.imp (pt_chain ho ho' ha hb hc hm) fun _ _ _ h => tChain_of hz hz' (tTest_of h)
theorem zt_ite {z y u : ZT} (hc : ZTj X W c z) (ha : ZTj X W a y) (hb : ZTj X W b u) : ZTj X W (.IfExp c a b pos) (ztIte z y u) := by
  refine ⟨fun pins s σ H Q I ⟨t, G, env, ov, Qz, Ez, A, q, pe, px⟩ => isTrue_IfExp (thn (hc.run pins s σ H (fun b H1 => if b = true then tzt X.K W y σ H1 Q else tzt X.K W u σ H1 Q) I ?_) fun d s1 ⟨H1, I1, q1⟩ => ?_)⟩
  · refine ⟨t, G, env, ov, _, Ez, A, q, fun c ov1 t1 G1 H1 s1 ok1 q1 => ?_, px⟩
    cases c with
    | true => exact ⟨t1, G1, env, ov1, Qz, Ez, A.step s1 ok1, q1, pe.step s1, px.step s1⟩
    | false => exact ⟨t1, G1, env, ov1, Qz, Ez, A.step s1 ok1, q1, pe.step s1, px.step s1⟩
  · cases d with
    | true => exact ha.run pins s1 σ H1 Q I1 q1
    | false => exact hb.run pins s1 σ H1 Q I1 q1
end
/-! ### more that is walked -/
def ziStr (za : ZE) : ZI := fun env ov Q E => za env ov (fun x ov1 => ∃ s, x = .d (.str s) ∧ Q (s.cps.toList.map fun c => .d (.str ⟨#[c]⟩)) ov1) E
def enumL : Nat → List D → List D
  | _, [] => []
  | i, d :: ds => .tup [.int (i : Int), d] :: enumL (i + 1) ds
def ziEnum (za : ZA) : ZI := fun env ov Q E => za env ov (fun xs ov1 => ∃ ds, xs = [.d (.lst ds)] ∧ Q ((enumL 0 ds).map Zv.d) ov1) E
theorem enumL_get : ∀ (ds : List D) (k i : Nat), (enumL k ds)[i]? = (ds[i]?).map fun d => .tup [.int ((k + i : Nat) : Int), d]
  | [], _, _ => by simp [enumL]
  | d :: ds, k, 0 => by simp [enumL]
  | d :: ds, k, i + 1 => by
    have := enumL_get ds (k + 1) i
    simp only [enumL, List.getElem?_cons_succ, this]
    congr 1; funext x; congr 4; omega
theorem enumL_len : ∀ (ds : List D) (k : Nat), (enumL k ds).length = ds.length
  | [], _ => rfl
  | _ :: ds, k => by simp [enumL, enumL_len ds]
section
variable {X : Cx} {W : WX} {e tg : Expr} {za : ZE} {pos : Pos}
theorem zi_str (hl : ZEj X W e za) : ZIj X W tg e (ziStr za) := by
  refine PI.imp (pi_str hl) fun σ H R ⟨t, G, env, ov, Qz, Ez, A, q, pe, px⟩ => ?_
  refine ⟨t, G, env, ov, _, Ez, A, q, fun x ov1 t1 G1 v H1 s1 ok1 r1 q1 => ?_, px⟩
  obtain ⟨s, rfl, q1⟩ := q1
  have r1 : v = _ := r1
  subst r1
  refine ⟨s, rfl, pe _ ov1 t1 G1 (Its s) H1 s1 ok1 (fun z h => by obtain ⟨x, _, rfl⟩ := List.mem_map.mp h; exact ⟨_, rfl⟩) (fun G' H' sg sh => ⟨fun i z hz => ?_, ?_⟩) q1⟩
  · rw [List.getElem?_map, Array.getElem?_toList] at hz
    cases hd : s.cps[i]? with
    | none => rw [hd] at hz; cases hz
    | some d =>
      rw [hd] at hz
      have hz : z = .d (.str ⟨#[d]⟩) := by cases hz; rfl
      subst hz
      refine ⟨(Array.getElem?_eq_some_iff.mp hd).1, fun x H2 hy => ?_⟩
      obtain ⟨rfl, c, hc, rfl⟩ := hy
      have : c = d := Option.some.inj (hc.symm.trans hd)
      subst this
      exact ⟨G', .refl sh, rfl⟩
  · show _ ≤ _
    simp
theorem zi_enum {p tpos : Pos} {elts : List Expr} {kk : Nat} {zr : ZA} (ha : ZAj X W [e] zr) (hm : X.mg "enumerate" = none) (hg : Gl X "enumerate" := by rfl) (hs : starEach [e] X.env = [(false, eval e X.env)] := by rfl) :
    ZIj X W (.Tuple elts kk tpos) (.Call (.Name "enumerate" p) [e] [] pos) (ziEnum zr) := by
  refine PI.imp (pi_enum hg hm ha hs) fun σ H R ⟨t, G, env, ov, Qz, Ez, A, q, pe, px⟩ => ?_
  refine ⟨t, G, env, ov, _, Ez, A, q, fun xs ov1 t1 G1 vs H1 s1 ok1 r1 q1 => ?_, px⟩
  obtain ⟨ds, rfl, q1⟩ := q1
  obtain ⟨v, r, rfl, ⟨a, xs, rfl, ha, l, rs⟩, r2⟩ := r1
  have r2 : r = _ := r2
  subst r2
  refine ⟨a, xs, rfl, SqL.of (ok1.sub _ _ ha), pe _ ov1 t1 G1 (Ite X.K a) H1 s1 ok1 mem_mapD (fun G' H' sg sh => ⟨fun i z hz => ?_, ?_⟩) q1⟩
  · rw [List.getElem?_map, enumL_get] at hz
    cases hd : ds[i]? with
    | none => rw [hd] at hz; cases hz
    | some d =>
      rw [hd] at hz
      have hz : z = .d (.tup [.int ((0 + i : Nat) : Int), d]) := by cases hz; rfl
      subst hz
      obtain ⟨v, hv, rv⟩ := rs.get hd
      have hs : SqL X.K H' a xs := SqL.of (sh _ _ (sg _ _ ha))
      refine ⟨⟨xs, v, hs, hv⟩, fun x H2 hy => ?_⟩
      obtain ⟨T, x', rfl, hT, rfl, hx⟩ := hy
      have hx : xs[i]? = some x' := hx xs hs
      have : v = x' := Option.some.inj (hv.symm.trans hx)
      subst this
      have g := Grow.alloc (o := .tup [.int (i : Nat), v]) sh hT
      refine ⟨_, g, T, [.int (i : Nat), v], rfl, SqT.of upd_same, by show 2 ≤ sizeLine; decide, _, _, rfl, ?_, _, _, rfl, rv.mono (sg.trans g.g), rfl⟩
      show V.int _ = V.int _
      simp
  · rw [List.length_map, enumL_len]
    exact ⟨xs, SqL.of (sh _ _ (sg _ _ ha)), by rw [rs.len]; exact Nat.le_refl _⟩
end
/-! ### targets -/
def gLst' (gs : ZGs) : ZG := fun x env ov Q => ∃ ds, x = .d (.lst ds) ∧ gs (ds.map Zv.d) env ov Q
def gDPut (zo zk : ZE) : ZG := fun v env ov Q => zo env ov (fun x ov2 => zk env ov2 (fun y ov3 => ∃ n kvs k, x = .r n ∧ ov3[n]? = some (.dic kvs) ∧ keyZ y = some k ∧ kvs.length < sizeLine ∧ Q env (ov3.set n (.dic (putZ kvs k v)))) noX) noX
def zPar (i j : Nat) (za : ZA) : ZS := fun E env ov => za env ov (fun xs ov1 => ∃ x y, xs = [x, y] ∧ E.nx ((env.set i (some x)).set j (some y)) ov1) fun x ov1 => E.xr x env ov1
def zPar3 (i j k : Nat) (za : ZA) : ZS := fun E env ov => za env ov (fun xs ov1 => ∃ x y z, xs = [x, y, z] ∧ E.nx (((env.set i (some x)).set j (some y)).set k (some z)) ov1) fun x ov1 => E.xr x env ov1
section
variable {X : Cx} {W : WX} {pos : Pos}
theorem zg_lst {es : List Expr} {k : Nat} {gs : ZGs} {own : List Nat} {n : Nat} (hc : X.calm = true) (h : ZGsj X own es gs) (hl : ∀ xs env ov Q, gs xs env ov Q → xs.length = n)
    (hn : (assignEach es X.env).length = n := by rfl) (hst : (assignEach es X.env).findIdx? (·.1) = none := by rfl) : ZGj X own (.Tuple es k pos) (gLst' gs) := by
  refine PG.imp (pg_lst hc h hn hst) fun v σ H Q ⟨t, G, env, ov, z, Qz, A, r, ⟨ds, e, q⟩, p⟩ => ?_
  subst e
  obtain ⟨a, xs, e, sq, l, rs⟩ := r
  have hl' := hl _ _ _ _ q
  rw [List.length_map] at hl'
  exact ⟨a, xs, e, SqL.of (A.ok.sub _ _ sq), by rw [rs.len]; exact hl', t, G, env, ov, _, Qz, A, RepZs.ofD rs, q, p⟩
theorem zg_dput {o i : Expr} {zo zk : ZE} (hu : X.A.units + 1 < cLine) (ho : ZEj X W0 o zo) (hi : ZEj X W0 i zk)
    (ha : ∀ v, assign (.Subscript o i pos) X.env v = (do
      let ov ← holding [v] (eval o X.env)
      let iv ← holding [v, ov] (eval i X.env)
      standAt pos
      holding [v, ov, iv] (setItem ov iv v)
      release [v, ov, iv] []) := by intro _; rfl) : ZGj X [] (.Subscript o i pos) (gDPut zo zk) := by
  refine PG.imp (pg_sub ho hi (set_dict hu) ha) fun v σ H Q ⟨t, G, env, ov, z, Qz, A, r, q, p⟩ => ?_
  have nx : ∀ {t1 G1 H1}, PostX X.K t1 G1 H1 noX W0 σ := fun x ov' t' G' c d H' s ok r h => h
  refine ⟨t, G, env, ov, _, noX, A, q, fun y ov1 t1 G1 u H1 s1 ok1 r1 q1 => ?_, nx⟩
  refine ⟨t1, G1, env, ov1, _, noX, A.step s1 ok1, q1, fun w ov3 t3 G3 u3 H3 s3 ok3 r3 q3 => ?_, nx⟩
  obtain ⟨n, kvs, k, e1, e2, e3, l, q3⟩ := q3
  subst e1
  have s13 := s1.trans s3
  obtain ⟨a, ha, rfl⟩ := r1.mono s3
  obtain ⟨_, uu, hu', vs, rfl, rk⟩ := ok3.ob n _ a e2 ha (by intro z; cases z)
  have ek := keyZ_rep r3 e3
  subst ek
  have rk2 := rk.put (k := k) (r.mono s13)
  obtain ⟨ok4, s4⟩ := ok3.write e2 ha (by intro z; cases z) (show RepO X.K G3 t3 (.dic (putZ kvs k z)) (.dK (putK vs k v)) from ⟨_, rfl, rk2⟩)
  exact ⟨a, _, rfl, .inl ⟨vs, k, hu', rfl, by rw [rk.len]; exact l, rfl⟩, p env _ t3 G3 σ _ (s13.trans s4) (A.step (s13.trans s4) ok4) rfl (fun _ _ => rfl) q3⟩
theorem zs_par (i j : Nat) {x y : Str} {a b : Expr} {za : ZA} {px py pt : Pos} {kt k2 pt2} (hc : X.calm = true) (hN : X.N.Nodup) (ha : ZAj X W [a, b] za) (hi : X.N[i]? = some x := by rfl) (hj : X.N[j]? = some y := by rfl) (hij : i ≠ j := by decide)
    (hx : X.env.scope.names.lookup x = some .local := by rfl) (hy : X.env.scope.names.lookup y = some .local := by rfl)
    (hw : swappedStores [.Tuple [.Name x px, .Name y py] kt pt] (.Tuple [a, b] k2 pt2) X.env = pure (some [x, y]) := by rfl)
    (hs : swapsWithSole [.Tuple [.Name x px, .Name y py] kt pt] (.Tuple [a, b] k2 pt2) pos.line X.env = pure false := by rfl) :
    ZSj X W (.Assign [.Tuple [.Name x px, .Name y py] kt pt] (.Tuple [a, b] k2 pt2) pos) (zPar i j za) := by
  refine PS.imp (ps_par hc hN hi hj hij hx hy ha hw hs) fun D σ H ⟨t, G, env, ov, E, A, q, p⟩ => ?_
  refine ⟨t, G, env, ov, _, _, A, q, fun zs ov1 t1 G1 vs H1 s1 ok1 r1 q1 => ?_, p.xr.at A⟩
  obtain ⟨x, y, e, q1⟩ := q1
  subst e
  obtain ⟨v, r, e, h1, u, r2, e2, h2, e3⟩ := r1
  have e3 : r2 = [] := e3
  subst e e2 e3
  exact ⟨v, u, rfl, p.nx _ ov1 t1 G1 _ H1 s1 (((A.step s1 ok1).set h1 i).set h2 j) q1⟩
theorem zs_par3 (i j l : Nat) {x y z : Str} {a b c : Expr} {za : ZA} {px py pz pt : Pos} {kt k2 pt2} (hc : X.calm = true) (hN : X.N.Nodup) (ha : ZAj X W [a, b, c] za) (hi : X.N[i]? = some x := by rfl) (hj : X.N[j]? = some y := by rfl) (hl : X.N[l]? = some z := by rfl)
    (hij : i ≠ j := by decide) (hil : i ≠ l := by decide) (hjl : j ≠ l := by decide) (hx : X.env.scope.names.lookup x = some .local := by rfl) (hy : X.env.scope.names.lookup y = some .local := by rfl) (hz : X.env.scope.names.lookup z = some .local := by rfl)
    (hw : swappedStores [.Tuple [.Name x px, .Name y py, .Name z pz] kt pt] (.Tuple [a, b, c] k2 pt2) X.env = pure (some [x, y, z]) := by rfl)
    (hs : swapsWithSole [.Tuple [.Name x px, .Name y py, .Name z pz] kt pt] (.Tuple [a, b, c] k2 pt2) pos.line X.env = pure false := by rfl) :
    ZSj X W (.Assign [.Tuple [.Name x px, .Name y py, .Name z pz] kt pt] (.Tuple [a, b, c] k2 pt2) pos) (zPar3 i j l za) := by
  refine PS.imp (ps_par3 hc hN hi hj hl hij hil hjl hx hy hz ha hw hs) fun D σ H ⟨t, G, env, ov, E, A, q, p⟩ => ?_
  refine ⟨t, G, env, ov, _, _, A, q, fun zs ov1 t1 G1 vs H1 s1 ok1 r1 q1 => ?_, p.xr.at A⟩
  obtain ⟨x, y, z, e, q1⟩ := q1
  subst e
  obtain ⟨v, r, e, h1, u, r2, e2, h2, w, r3, e3, h3, e4⟩ := r1
  have e4 : r3 = [] := e4
  subst e e2 e3 e4
  exact ⟨v, u, w, rfl, p.nx _ ov1 t1 G1 _ H1 s1 ((((A.step s1 ok1).set h1 i).set h2 j).set h3 l) q1⟩
end
/-! ### calls by keywords -/
/-- the arguments by the parameters' order -/
def pickL {α : Type} (pm : List Nat) (l : List α) : List α := pm.filterMap fun i => l[i]?
theorem Vals.pick {vs : List V} {us : List Value} (r : Vals vs us) (pm : List Nat) : Vals (pickL pm vs) (pickL pm us) := by
  induction pm with
  | nil => exact .nil
  | cons i pm ih =>
    unfold pickL at ih ⊢
    rw [List.filterMap_cons, List.filterMap_cons]
    cases h : vs[i]? with
    | none =>
      have : us[i]? = none := by
        rw [List.getElem?_eq_none_iff] at h ⊢
        rw [← r.length]; exact h
      rw [this]; exact ih
    | some v =>
      obtain ⟨u, hu, ru⟩ := r.get h
      rw [hu]; exact .cons ru ih
theorem RepZs.get {K : PySem.W.Frag} {G : Hp} {t : Th} : ∀ {zs : List Zv} {vs : List V} {i : Nat}, RepZs K G t zs vs → (zs[i]? = none ∧ vs[i]? = none) ∨ ∃ z v, zs[i]? = some z ∧ vs[i]? = some v ∧ RepZ K G t z v
  | [], _, i, h => by have h : _ = _ := h; subst h; exact .inl ⟨by simp, by simp⟩
  | z :: zs, _, 0, ⟨v, r, e1, h, hr⟩ => by subst e1; exact .inr ⟨z, v, rfl, rfl, h⟩
  | z :: zs, _, i + 1, ⟨v, r, e1, h, hr⟩ => by subst e1; simpa using RepZs.get (i := i) hr
theorem RepZs.pick {K : PySem.W.Frag} {G : Hp} {t : Th} {zs : List Zv} {vs : List V} (r : RepZs K G t zs vs) : ∀ pm : List Nat, RepZs K G t (pickL pm zs) (pickL pm vs)
  | [] => rfl
  | i :: pm => by
    have ih := RepZs.pick r pm
    unfold pickL at ih ⊢
    rw [List.filterMap_cons, List.filterMap_cons]
    rcases r.get (i := i) with ⟨h1, h2⟩ | ⟨z, v, h1, h2, h3⟩
    · rw [h1, h2]; exact ih
    · rw [h1, h2]; exact ⟨v, _, rfl, h3, ih⟩
theorem pick_isD {zs : List Zv} (h : zs.all Zv.isD = true) (pm : List Nat) : (pickL pm zs).all Zv.isD = true := by
  rw [List.all_eq_true] at h ⊢
  intro z hz
  obtain ⟨i, _, hi⟩ := List.mem_filterMap.mp hz
  exact h z (List.mem_of_getElem? hi)
structure GfK (P : Program) (w : World) (K : PySem.W.Frag) (mg : Str → Option Value) (base : Heap) (x : Str) (k n : Nat) (ks : List Str) (pm : List Nat) (ps : List Str) (zs : ZSp) : Prop where
  ex : ∃ f fd, mg x = some (.ref f) ∧ PySem.W.keepIn K (.ref f) = true ∧ KBn K fd ps n ks (fun us ws => pickL pm (us ++ ws)) (fun vs zs => pickL pm (vs ++ zs)) ∧ FnOk P w K mg base (L2.CX P w) k f fd ps (lift K zs)
def zCallK (n m : Nat) (pm : List Nat) (sp : ZSp) (za zk : ZA) : ZE := fun env ov Q E => za env ov (fun xs ov1 => zk env ov1 (fun ys ov2 => xs.length = n ∧ ys.length = m ∧ xs.all Zv.isD = true ∧ ys.all Zv.isD = true ∧
  sp (pickL pm (xs ++ ys)) [] (fun x _ => x.isD = true ∧ Q x ov2) fun x _ => E x ov2) E) E
section
variable {X : Cx} {W : WX} {k n : Nat} {x : Str} {ps ks : List Str} {pm : List Nat} {sp : ZSp} {e : Expr} {es : List Expr} {za zk : ZA} {p pos : Pos} {kws : List Keyword}
theorem pe_callN0 {CX : CXT} {f : Addr} {fd : FuncData} {sp : Sp} {E : XK} {tk : TA} {g : List Value → List Value → List Value} {gV : List V → List V → List V} (F : FnOk X.prog X.w X.K X.mg X.base CX k f fd ps sp) (hr : Room k X.A) (hg : Gl X x) (hm : X.mg x = some (.ref f)) (hk : PySem.W.keepIn X.K (.ref f) = true) (hb : KBn X.K fd ps 0 ks g gV) (hx : Passes CX X E)
    (hkw : PK X kws tk) (hall : (backToKw pos (keywordEach kws X.env)).all (·.1.isSome) = true := by rfl) (hks : (backToKw pos (keywordEach kws X.env)).filterMap (·.1) = ks := by rfl)
    (hdb : (x == ("__debug__" : Str)) = false := by decide) (hpl : ((backTo pos (starEach [] X.env)).any (·.1) || (backToKw pos (keywordEach kws X.env)).any (·.1.isNone)) = false := by rfl) :
    PE X (.Call (.Name x p) [] kws pos) (tCallN 0 ks.length sp gV E tNil tk) := by
  refine ⟨fun pins s σ H Q I h => ?_⟩
  refine wpAny_Call_Name_kw (ld_glob I hg hm ?_ hdb)
  refine PySem.W.callWith_KW0 (h₀ := X.base) I.ok.mod.kin hk hall ?_ hpl
  refine thn (hkw.run pos pins s σ H _ I h) fun ws s2 ⟨zs, H2, I2, rz, l1, l2, q2⟩ => ⟨I2.kIn, ?_⟩
  rw [hks]
  exact run_fnN (us := []) (vs := []) F hr hb hx I2 .nil rz rfl l2 q2
theorem ze_callK (F : GfK X.prog X.w X.K X.mg X.base x k n ks pm ps sp) (tk : Takes X W) (hr : Room k X.A) (ha : ZAj X W (e :: es) za) (hkw : ZKj X W kws zk) (hW : ∃ E, W = WD E) (hg : Gl X x := by rfl) (hdb : (x == ("__debug__" : Str)) = false := by decide)
    (hall : (backToKw pos (keywordEach kws X.env)).all (·.1.isSome) = true := by rfl) (hks : (backToKw pos (keywordEach kws X.env)).filterMap (·.1) = ks := by rfl)
    (he : starEach (e :: es) X.env = (false, eval e X.env) :: starEach es X.env := by rfl) (hpl : ((backTo pos (starEach (e :: es) X.env)).any (·.1) || (backToKw pos (keywordEach kws X.env)).any (·.1.isNone)) = false := by rfl) :
    ZEj X W (.Call (.Name x p) (e :: es) kws pos) (zCallK n ks.length pm sp za zk) := by
  obtain ⟨E, rfl⟩ := hW
  obtain ⟨f, fd, hm, hk, hb, F⟩ := F.ex
  have hx : Passes (L2.CX X.prog X.w) X E := passes_call tk fun _ _ _ _ h => h
  refine PE.imp (pe_callN F hr hg hm hk hb hx ha hkw hall hks hdb he hpl) fun σ H Q ⟨t, G, env, ov, Qz, Ez, A, q, pe, px⟩ => ?_
  refine ⟨t, G, env, ov, _, Ez, A, q, fun xs ov1 t1 G1 vs H1 s1 ok1 r1 q1 => ?_, px⟩
  refine ⟨t1, G1, env, ov1, _, Ez, A.step s1 ok1, q1, fun ys ov2 t2 G2 us H2 s2 ok2 r2 q2 => ?_, px.step s1⟩
  obtain ⟨l1, l2, d1, d2, q2⟩ := q2
  refine ⟨by rw [r1.len]; exact l1, by rw [r2.len]; exact l2, ?_⟩
  have s12 := s1.trans s2
  exact lift_call ok2 (RepZs.pick (RepZs.app (r1.mono s2) r2) pm) (pick_isD (isD_app d1 d2) pm) q2 (pe.step s12) fun y t' G' cls d H' s ok' rx q => px.step s12 y ov2 t' G' cls d H' s ok' rx q
theorem ze_callK0 (F : GfK X.prog X.w X.K X.mg X.base x k 0 ks pm ps sp) (tk : Takes X W) (hr : Room k X.A) (hkw : ZKj X W kws zk) (hW : ∃ E, W = WD E) (hg : Gl X x := by rfl) (hdb : (x == ("__debug__" : Str)) = false := by decide)
    (hall : (backToKw pos (keywordEach kws X.env)).all (·.1.isSome) = true := by rfl) (hks : (backToKw pos (keywordEach kws X.env)).filterMap (·.1) = ks := by rfl)
    (hpl : ((backTo pos (starEach [] X.env)).any (·.1) || (backToKw pos (keywordEach kws X.env)).any (·.1.isNone)) = false := by rfl) :
    ZEj X W (.Call (.Name x p) [] kws pos) (zCallK 0 ks.length pm sp zNil zk) := by
  obtain ⟨E, rfl⟩ := hW
  obtain ⟨f, fd, hm, hk, hb, F⟩ := F.ex
  have hx : Passes (L2.CX X.prog X.w) X E := passes_call tk fun _ _ _ _ h => h
  refine PE.imp (pe_callN0 F hr hg hm hk hb hx hkw hall hks hdb hpl) fun σ H Q ⟨t, G, env, ov, Qz, Ez, A, q, pe, px⟩ => ?_
  refine ⟨t, G, env, ov, _, Ez, A, q, fun ys ov2 t2 G2 us H2 s2 ok2 r2 q2 => ?_, px⟩
  obtain ⟨l1, l2, d1, d2, q2⟩ := q2
  refine ⟨rfl, by rw [r2.len]; exact l2, ?_⟩
  exact lift_call ok2 (RepZs.pick (RepZs.app (show RepZs X.K G2 t2 [] [] from rfl) r2) pm) (pick_isD (isD_app rfl d2) pm) q2 (pe.step s2) fun y t' G' cls d H' s ok' rx q => px.step s2 y ov2 t' G' cls d H' s ok' rx q
end
end Z
/-! The Z layer's hook: functions by address (getters too), tables of ints, more facts. -/
namespace ZH
open PySem PySem.Spec PyProof.Rows L2 He
structure DefP where
  ad : PySem.W.Frag → Addr
  name : Str
  qual : Str
  params : Arguments
  body : List Stmt
  scope : Scope
  dfl : List Dv := []
  kwd : List (Str × Dv) := []
def fnA (K : PySem.W.Frag) (a : Addr) : FnW := match K.lookup a with
  | some ⟨_, _, .func fd, _⟩ => some (fd.name, fd.qualname, fd.params, fd.body, fd.scope, fd.globals, fd.closure, fd.builtins)
  | _ => none
def DefP.val (d : DefP) : FnW := some (d.name, d.qual, d.params, .stmts d.body, d.scope, mainGlobals, [], builtinsNs)
def DefP.dvs (K : PySem.W.Frag) (d : DefP) : List V := d.dfl.map (Dv.v K)
def DefP.kws (K : PySem.W.Frag) (d : DefP) : List (Str × V) := d.kwd.map fun q => (q.1, q.2.v K)
def DefP.ok (K : PySem.W.Frag) (d : DefP) : Bool := PySem.W.keepIn K (.ref (d.ad K)) && (match K.lookup (d.ad K) with
  | some ⟨_, _, .func fd, _⟩ => PySem.W.codeIn K fd.code d.qual && (dflB K fd.defaults (d.dvs K) && kwdB K fd.kwdefaults (d.kws K))
  | _ => false)
theorem DefP.funD {K : PySem.W.Frag} {d : DefP} (e : fnA K (d.ad K) = d.val) (c : d.ok K = true) : ∃ fd, FunD K d.name d.qual d.params d.body d.scope (d.dvs K) (d.kws K) (d.ad K) fd := by
  obtain ⟨kp, c2⟩ := ba c
  unfold fnA at e
  cases q : K.lookup (d.ad K) with
  | none =>
    rw [q] at c2
    cases c2
  | some o =>
    obtain ⟨oc, od, dt, osl⟩ := o
    rw [q] at c2 e
    cases dt with
    | func fd =>
      obtain ⟨n1, n2, n3, n4, n5, n6, n7, n8, n9, n10, n11, n12, n13, n14, n15⟩ := fd
      have e2 : (some (n1, n2, n3, n4, n5, n6, n7, n15) : FnW) = some (d.name, d.qual, d.params, .stmts d.body, d.scope, mainGlobals, [], builtinsNs) := e
      simp only [Option.some.injEq, Prod.mk.injEq] at e2
      obtain ⟨h1, h2, h3, h4, h5, h6, h7, h8⟩ := e2
      subst h1 h2 h3 h4 h5 h6 h7 h8
      have c3 : (PySem.W.codeIn K n13 d.qual && (dflB K n8 (d.dvs K) && kwdB K n9 (d.kws K))) = true := c2
      obtain ⟨k1, k2⟩ := ba c3
      obtain ⟨k3, k4⟩ := ba k2
      exact ⟨_, ⟨oc, od, n8, n9, n10, n11, n12, n13, n14, osl, rfl, q, k1, dflB_ok k3, kwdB_ok k4⟩, kp⟩
    | _ => cases c2
/-! tables: text keys, ints -/
def entI (e : DictEntry) : Option (Str × Int × Int) := match e.key, e.val with
  | .str x _, .int i _ => some (x, e.hash, i)
  | _, _ => none
def tabW (K : PySem.W.Frag) (a : Addr) : Option (List (Option (Str × Int × Int))) := match K.lookup a with
  | some ⟨.type c, none, .dict es _, sl⟩ => (match decide (c = "dict") && (sl.isEmpty && !(a == sysModules)) with
    | true => some (es.toList.map entI)
    | false => none)
  | _ => none
def tabV (P : Params) (tab : List (Str × Int)) : List (Option (Str × Int × Int)) := tab.map fun q => some (q.1, PyData.keyHash P q.1, q.2)
theorem entI_ok {e : DictEntry} {x : Str} {h i : Int} (q : entI e = some (x, h, i)) : (∃ t, e.key = .str x t) ∧ e.hash = h ∧ ∃ t, e.val = .int i t := by
  unfold entI at q
  split at q
  · rename_i x' t i' t' e1 e2
    have q := Option.some.inj q
    obtain ⟨q1, q2⟩ := Prod.mk.inj q
    obtain ⟨q2, q3⟩ := Prod.mk.inj q2
    subst q1 q2 q3
    exact ⟨⟨t, e1⟩, rfl, ⟨t', e2⟩⟩
  · cases q
theorem tab_list {P : Params} : ∀ {l : List DictEntry} {tab : List (Str × Int)}, l.map entI = tabV P tab → PySem.W.KeysLit P l ∧
    ∀ z, (∀ i, tab.lookup z = some i → ∃ t, (l.find? fun e => Value.isStrOf z e.key).map (·.val) = some (.int i t)) ∧ (tab.lookup z = none → (l.find? fun e => Value.isStrOf z e.key).map (·.val) = none)
  | [], [], _ => ⟨trivial, fun z => ⟨fun i h => (by simp at h), fun _ => rfl⟩⟩
  | [], _ :: _, h => by cases h
  | _ :: _, [], h => by cases h
  | e :: r, (k, i) :: tab, h => by
    have h1 : entI e :: r.map entI = some (k, PyData.keyHash P k, i) :: tabV P tab := h
    injection h1 with h2 h3
    obtain ⟨⟨t, ek⟩, eh, ⟨t', ev⟩⟩ := entI_ok h2
    obtain ⟨ih1, ih2⟩ := tab_list h3
    refine ⟨⟨⟨k, t, ek, eh⟩, ih1⟩, fun z => ?_⟩
    have hs : Value.isStrOf z e.key = (k == z) := by rw [ek]; rfl
    rw [List.lookup_cons, List.find?_cons, hs]
    by_cases hz : z = k
    · subst hz
      simp only [beq_self_eq_true]
      refine ⟨fun j hj => ⟨t', ?_⟩, fun hj => by cases hj⟩
      cases hj
      simp [ev]
    · have hb : (z == k) = false := by simpa using hz
      have hb' : (k == z) = false := by simpa using fun e : k = z => hz e.symm
      rw [hb, hb']
      exact ih2 z
theorem tab_ok {K : PySem.W.Frag} {w : World} {a : Addr} {tab : List (Str × Int)} (h : tabW K a = some (tabV w.params tab)) : Z.TabK K w a tab := by
  unfold tabW at h
  cases q : K.lookup a with
  | none =>
    rw [q] at h
    cases h
  | some o =>
    obtain ⟨oc, od, dt, osl⟩ := o
    rw [q] at h
    cases oc with
    | type c =>
      cases od with
      | none =>
        cases dt with
        | dict es n =>
          have h1 : (match decide (c = "dict") && (osl.isEmpty && !(a == sysModules)) with
            | true => some (es.toList.map entI)
            | false => none) = some (tabV w.params tab) := h
          cases z : decide (c = "dict") && (osl.isEmpty && !(a == sysModules)) with
          | false =>
            rw [z] at h1
            cases h1
          | true =>
            rw [z] at h1
            obtain ⟨z1, z2⟩ := ba z
            obtain ⟨z3, z4⟩ := ba z2
            have e1 : c = "dict" := of_decide_eq_true z1
            have e2 : osl = #[] := Array.isEmpty_iff.mp z3
            have e3 : (a == sysModules) = false := by
              cases y : a == sysModules with
              | false => rfl
              | true =>
                rw [y] at z4
                cases z4
            subst e1 e2
            obtain ⟨t1, t2⟩ := tab_list (Option.some.inj h1)
            refine ⟨es, n, ⟨q, t1, e3⟩, fun z => ?_⟩
            have hf : findBy Value.isStrOf es z = (es.toList.find? fun e => Value.isStrOf z e.key).map (·.val) := by
              obtain ⟨l⟩ := es
              simp [findBy]
            rw [hf]
            exact t2 z
        | _ => cases h
      | some b => cases dt <;> cases h
    | _ => cases od <;> cases dt <;> cases h
/-! more facts -/
abbrev ExF : Type := PySem.W.Frag → Bool
def eqOV (a : Option (Option Value)) (b : Option (Option Value)) : Bool := decide (a = b)
/-- the property's address, its getter's -/
def pa (K : PySem.W.Frag) (C f : Str) : Addr := ma K (ga K C) f
def gt (K : PySem.W.Frag) (C f : Str) : Addr := match PySem.W.recIn K (pa K C f) "property" with
  | some (.ref g :: _) => g
  | _ => 0
def exProp (C f : Str) : ExF := fun K => eqO (PySem.W.findIn K (.ref (ga K C)) f) (some (some (.ref (pa K C f)))) && (eqO (PySem.W.specialIn K (.ref (pa K C f)) "__get__") (some (some (.builtin "property.__get__"))) &&
  (decide (PySem.W.takesIn K (.ref (pa K C f)) = some true) && (match PySem.W.recIn K (pa K C f) "property" with
    | some (.ref _ :: _) => true
    | _ => false)))
theorem prop_ok {K : PySem.W.Frag} {C f : Str} (h : exProp C f K = true) : PropOf K (ga K C) f (pa K C f) (gt K C f) := by
  obtain ⟨h1, h⟩ := ba h
  obtain ⟨h2, h⟩ := ba h
  obtain ⟨h3, h4⟩ := ba h
  refine ⟨eqO_ok h1, eqO_ok h2, of_decide_eq_true h3, ?_⟩
  unfold gt
  cases e : PySem.W.recIn K (pa K C f) "property" with
  | none => rw [e] at h4; cases h4
  | some l =>
    rw [e] at h4
    cases l with
    | nil => cases h4
    | cons v r =>
      cases v with
      | ref g => exact ⟨r, rfl⟩
      | _ => cases h4
def exEq (C : Str) : ExF := fun K => eqO (PySem.W.findIn K (.ref (ga K C)) "__eq__") (some (some (.ref (ma K (ga K C) "__eq__")))) && (PySem.W.isFn K (.ref (ma K (ga K C) "__eq__")) && (eqO (PySem.W.findIn K (.ref (ga K C)) "__ne__") (some (some (.builtin "object.__ne__"))) &&
  decide (PySem.W.mroIn K (ga K C) (.type "object") = some true)))
theorem eq_ok {K : PySem.W.Frag} {C : Str} (h : exEq C K = true) : (PySem.W.findIn K (.ref (ga K C)) "__eq__" = some (some (.ref (ma K (ga K C) "__eq__"))) ∧ PySem.W.isFn K (.ref (ma K (ga K C) "__eq__")) = true) ∧
    PySem.W.findIn K (.ref (ga K C)) "__ne__" = some (some (.builtin "object.__ne__")) ∧ PySem.W.mroIn K (ga K C) (.type "object") = some true := by
  obtain ⟨h1, h⟩ := ba h
  obtain ⟨h2, h⟩ := ba h
  obtain ⟨h3, h4⟩ := ba h
  exact ⟨⟨eqO_ok h1, h2⟩, eqO_ok h3, of_decide_eq_true h4⟩
def insTs : List String := ["NoneType", "bool", "int", "str", "tuple", "list", "dict"]
def exIns (C : Str) : ExF := fun K => (Fa.cls C).ok K && (eqO (PySem.W.findIn K (.ref (ga K C)) "__class__") (some (some (.builtin "object.__class__"))) && (eqO (PySem.W.specialIn K (.builtin "object.__class__") "__get__") (some (some (.builtin "getset_descriptor.__get__"))) &&
  (decide (PySem.W.takesIn K (.builtin "object.__class__") = some true) && (decide (PySem.W.mroIn K (ga K C) (.type "object") = some true) && (decide (PySem.W.kitOne K (.ref (ga K C)) (.ref (ga K C)) = some true) &&
  insTs.all fun t => decide (PySem.W.kitOne K (.type t) (.ref (ga K C)) = some false))))))
theorem ins_ok {K : PySem.W.Frag} {C : Str} (h : exIns C K = true) : Z.InsK K C := by
  obtain ⟨h0, h⟩ := ba h
  obtain ⟨h1, h⟩ := ba h
  obtain ⟨h2, h⟩ := ba h
  obtain ⟨h3, h⟩ := ba h
  obtain ⟨h4, h⟩ := ba h
  obtain ⟨h5, h6⟩ := ba h
  exact ⟨⟨cls_ok h0, eqO_ok h1, eqO_ok h2, of_decide_eq_true h3, of_decide_eq_true h4, of_decide_eq_true h5⟩, fun t ht => of_decide_eq_true (List.all_eq_true.mp h6 t ht)⟩
/-! the Hook -/
abbrev AlZ : Type := Bool × List FnW × List (Option (List (Option (Str × Int × Int))))
abbrev TabD : Type := Str × List (Str × Int)
structure Hd where
  fa : List Fa
  fp : List DefP
  ex : List ExF
  ts : List TabD
def obsZ (d : Hd) (K : PySem.W.Frag) : AlZ := ((d.fa.all fun f => f.ok K) && ((d.fp.all fun p => p.ok K) && d.ex.all fun e => e K), d.fp.map fun p => fnA K (p.ad K), d.ts.map fun t => tabW K (ga K t.1))
def valZ (d : Hd) (w : World) : AlZ := (true, d.fp.map DefP.val, d.ts.map fun t => some (tabV w.params t.2))
def SaysZ (d : Hd) (w : World) (K : PySem.W.Frag) : Prop := obsZ d K = valZ d w
def obsZG (n : Nat) (d : Hd) (g : Addr → Option Obj) : AlZ := obsZ d (frG g (asD g n))
def hookZ (n : Nat) (d : Hd) : PySem.W.Hook where
  α := AlZ
  obs := fun s => obsZG n d s.heap.get?
  val := fun w => valZ d w
  says := fun w h => ∃ K : PySem.W.Frag, K.In h ∧ SaysZ d w K
  of := fun _ _ e => ⟨_, frG_in, e⟩
  keeps := fun _ _ _ ⟨K, hK, c⟩ k => ⟨K, PySem.W.Frag.In.keeps hK k, c⟩
theorem obsZG_eq {n : Nat} {d : Hd} {g : Addr → Option Obj} {s : Shared} (h : ∀ a, g a = s.heap.get? a) : obsZG n d g = (hookZ n d).obs s := by
  have e : g = s.heap.get? := funext h
  rw [e] <;> rfl
section
variable {d : Hd} {w : World} {K : PySem.W.Frag}
theorem SaysZ.b (c : SaysZ d w K) : ((d.fa.all fun f => f.ok K) && ((d.fp.all fun p => p.ok K) && d.ex.all fun e => e K)) = true := congrArg (fun z : AlZ => z.1) c
theorem SaysZ.fact (c : SaysZ d w K) (i : Nat) {f : Fa} (h : d.fa[i]? = some f := by rfl) : f.ok K = true := List.all_eq_true.mp (ba c.b).1 f (List.mem_of_getElem? h)
theorem SaysZ.ext (c : SaysZ d w K) (i : Nat) {f : ExF} (h : d.ex[i]? = some f := by rfl) : f K = true := List.all_eq_true.mp (ba (ba c.b).2).2 f (List.mem_of_getElem? h)
theorem SaysZ.def_ (c : SaysZ d w K) (i : Nat) {p : DefP} (h : d.fp[i]? = some p := by rfl) : ∃ fd, FunD K p.name p.qual p.params p.body p.scope (p.dvs K) (p.kws K) (p.ad K) fd := by
  have c2 := (ba (ba c.b).2).1
  have e : d.fp.map (fun p => fnA K (p.ad K)) = d.fp.map DefP.val := congrArg (fun z : AlZ => z.2.1) c
  have e2 : (d.fp.map fun p => fnA K (p.ad K))[i]? = (d.fp.map DefP.val)[i]? := by rw [e]
  rw [List.getElem?_map, List.getElem?_map, h] at e2
  exact DefP.funD (Option.some.inj e2) (List.all_eq_true.mp c2 p (List.mem_of_getElem? h))
theorem SaysZ.tab (c : SaysZ d w K) (i : Nat) {t : TabD} (h : d.ts[i]? = some t := by rfl) : Z.TabK K w (ga K t.1) t.2 := by
  have e : d.ts.map (fun t => tabW K (ga K t.1)) = d.ts.map fun t => some (tabV w.params t.2) := congrArg (fun z : AlZ => z.2.2) c
  have e2 : (d.ts.map fun t => tabW K (ga K t.1))[i]? = (d.ts.map fun t => some (tabV w.params t.2))[i]? := by rw [e]
  rw [List.getElem?_map, List.getElem?_map, h] at e2
  exact tab_ok (Option.some.inj e2)
end
end ZH
namespace Z
open PySem PySem.Spec PyProof.Rows L2
/-! ### _law_take: reading and proof (names: 0 draw, 1 size, 2 cell, 3 found) -/
abbrev kE (s : Str) : TE := tC (.str s)
abbrev qD (s : Str) : TE := tDGet (tVar 0) (kE s)
def tkTest (K : PySem.W.Frag) : TT := tAnd (tTest (tOp rEq (qD "rest") (tC (.int 0)))) (tTest (tOp (rNeD K) (qD "large") (tLst tNil)))
def tkTest2 : TT := tTest (tOp rEq (qD "rest") (tC (.int 0)))
def tkA (K : PySem.W.Frag) : TS := sDPut (tVar 0) (kE "rest") (tBM K "list" rPopAt (qD "large") (tCons (tC (.int 0)) tNil))
def tkB1 : TS := sDPut (tVar 0) (kE "turn") (tOp (rI0 fun i j => .int (i + j)) (qD "turn") (tC (.int 1)))
def rInt1 : List V → Hp → VK → Prop := fun xs H Q => (∃ i, xs = [.int i] ∧ Q (.int i) H) ∨ ∃ k, xs = [.bl k] ∧ Q (.int (if k then 1 else 0)) H
def tkB2b : TS := sDPut (tVar 0) (kE "mix") (tOp (rI (fun _ j => 0 < j) fun i j => .int (i % j)) (tCB rInt1 (tCons (tOp (rI0 fun i j => .int (i + j)) (tOp (rI0 fun i j => .int (i + j)) (tOp (rI CMul fun i j => .int (i * j)) (qD "mix") (tC (.int 69621))) (tOp (rI CMul fun i j => .int (i * j)) (tVar 2) (tC (.int 48271)))) (tC (.int 12345))) tNil)) (tC (.int 2147483629)))
def tkB2 (K : PySem.W.Frag) : TS := tFor (iList K (tOp rCat (tLst (tCons (qD "turn") tNil)) (qD "cells"))) (gName 2) tkB2b
def tkB3 : TS := sDPut (tVar 0) (kE "rest") (tOp (rI (fun _ j => 0 < j) fun i j => .int (i % j)) (tCB rInt1 (tCons (tOp (rI CPow fun i j => .int (i ^ j.toNat)) (qD "mix") (tC (.int 5))) tNil)) (tC (.int 2305843009213693951)))
def rDvm : List V → Hp → VK → Prop := fun xs H Q => ∃ i j, xs = [.int i, .int j] ∧ CDiv i j ∧ ∀ p, H p = none → Q (.ref p) (upd H p (.tup [.int (i / j), .int (i % j)]))
def tkC (K : PySem.W.Frag) : TS := tAsg (tCB rDvm (tCons (qD "rest") (tCons (tVar 1) tNil))) (gTup K 2 (gCons (gSub (tVar 0) (kE "rest") rSetD) (gCons (gName 3) gNil)))
def tTake (K : PySem.W.Frag) : TS := tSeq (tIfS (tkTest K) (tkA K) (tIfS tkTest2 (tSeq tkB1 (tSeq (tkB2 K) tkB3)) tNext)) (tSeq (tkC K) (tRet (tVar 3)))
structure Dr (H : Hp) (x : Addr × Addr × Addr) (ls cs : List Int) (rest turn mix : Int) : Prop where
  d : H x.1 = some (.dK (drawKv x.2.1 x.2.2 rest turn mix))
  l : H x.2.1 = some (.lst (ls.map V.int))
  c : H x.2.2 = some (.lst (cs.map V.int))
  ne : x.2.1 ≠ x.2.2
def FrD (x : Addr × Addr × Addr) (H H' : Hp) : Prop := ∀ a o, H a = some o → a ≠ x.1 → a ≠ x.2.1 → a ≠ x.2.2 → H' a = some o
theorem FrD.refl {x : Addr × Addr × Addr} {H : Hp} : FrD x H H := fun _ _ h _ _ _ => h
theorem FrD.trans {x : Addr × Addr × Addr} {H H1 H2 : Hp} (a : FrD x H H1) (b : FrD x H1 H2) : FrD x H H2 := fun p o h n1 n2 n3 => b p o (a p o h n1 n2 n3) n1 n2 n3
theorem FrD.at {x : Addr × Addr × Addr} {H : Hp} {p : Addr} {o : HO} (h : p = x.1 ∨ p = x.2.1 ∨ p = x.2.2) : FrD x H (upd H p o) := fun a o' e n1 n2 n3 => by
  have : a ≠ p := fun z => by subst z; rcases h with h | h | h; exact n1 h; exact n2 h; exact n3 h
  rw [upd_ne this]; exact e
theorem FrD.new {x : Addr × Addr × Addr} {H : Hp} {p : Addr} {o : HO} (h : H p = none) : FrD x H (upd H p o) := fun a o' e _ _ _ => same_upd h a o' e
section
variable {H H' : Hp} {x : Addr × Addr × Addr} {ls cs : List Int} {rest turn mix : Int}
theorem Dr.nl (d : Dr H x ls cs rest turn mix) : x.1 ≠ x.2.1 ∧ x.1 ≠ x.2.2 := by
  refine ⟨fun z => ?_, fun z => ?_⟩
  · have := d.d; rw [z, d.l] at this; cases this
  · have := d.d; rw [z, d.c] at this; cases this
theorem Dr.same (d : Dr H x ls cs rest turn mix) (s : Same H H') : Dr H' x ls cs rest turn mix := ⟨s _ _ d.d, s _ _ d.l, s _ _ d.c, d.ne⟩
theorem Dr.put (d : Dr H x ls cs rest turn mix) (rest' turn' mix' : Int) : Dr (upd H x.1 (.dK (drawKv x.2.1 x.2.2 rest' turn' mix'))) x ls cs rest' turn' mix' := by
  obtain ⟨n1, n2⟩ := d.nl
  exact ⟨upd_same, by rw [upd_ne n1.symm]; exact d.l, by rw [upd_ne n2.symm]; exact d.c, d.ne⟩
theorem Dr.pop (d : Dr H x ls cs rest turn mix) (ls' : List Int) : Dr (upd H x.2.1 (.lst (ls'.map V.int))) x ls' cs rest turn mix := by
  obtain ⟨n1, n2⟩ := d.nl
  exact ⟨by rw [upd_ne n1]; exact d.d, upd_same, by rw [upd_ne d.ne.symm]; exact d.c, d.ne⟩
variable {σ : L2.St} {Q : VK}
theorem Dr.q {s : String} {v : V} (d : Dr H x ls cs rest turn mix) (h0 : σ[0]? = some (some (.ref x.1))) (hv : valV (drawKv x.2.1 x.2.2 rest turn mix) (kS s) = some v) (q : Q v H) : qD (Str.ofString s) σ H Q :=
  ⟨_, h0, x.1, v, rfl, hv ▸ DGet.k (k := kS s) d.d, q⟩
theorem Dr.q_rest (d : Dr H x ls cs rest turn mix) (h0 : σ[0]? = some (some (.ref x.1))) (q : Q (.int rest) H) : qD "rest" σ H Q := d.q (s := "rest") h0 draw_get.2.2.1 q
theorem Dr.q_turn (d : Dr H x ls cs rest turn mix) (h0 : σ[0]? = some (some (.ref x.1))) (q : Q (.int turn) H) : qD "turn" σ H Q := d.q (s := "turn") h0 draw_get.2.2.2.1 q
theorem Dr.q_mix (d : Dr H x ls cs rest turn mix) (h0 : σ[0]? = some (some (.ref x.1))) (q : Q (.int mix) H) : qD "mix" σ H Q := d.q (s := "mix") h0 draw_get.2.2.2.2 q
theorem Dr.q_large (d : Dr H x ls cs rest turn mix) (h0 : σ[0]? = some (some (.ref x.1))) (q : Q (.ref x.2.1) H) : qD "large" σ H Q := d.q (s := "large") h0 draw_get.1 q
theorem Dr.q_cells (d : Dr H x ls cs rest turn mix) (h0 : σ[0]? = some (some (.ref x.1))) (q : Q (.ref x.2.2) H) : qD "cells" σ H Q := d.q (s := "cells") h0 draw_get.2.1 q
theorem Dr.p_rest (d : Dr H x ls cs rest turn mix) (r' : Int) : DPut H x.1 (.str "rest") (.int r') (upd H x.1 (.dK (drawKv x.2.1 x.2.2 r' turn mix))) := by
  have h := DPut.k (a := x.1) (k := kS "rest") (v := .int r') d.d (by rw [draw_len]; decide)
  rw [(draw_put (mix := mix) r').1] at h
  exact h
theorem Dr.p_turn (d : Dr H x ls cs rest turn mix) (r' : Int) : DPut H x.1 (.str "turn") (.int r') (upd H x.1 (.dK (drawKv x.2.1 x.2.2 rest r' mix))) := by
  have h := DPut.k (a := x.1) (k := kS "turn") (v := .int r') d.d (by rw [draw_len]; decide)
  rw [(draw_put (mix := mix) r').2.1] at h
  exact h
theorem Dr.p_mix (d : Dr H x ls cs rest turn mix) (r' : Int) : DPut H x.1 (.str "mix") (.int r') (upd H x.1 (.dK (drawKv x.2.1 x.2.2 rest turn r'))) := by
  have h := DPut.k (a := x.1) (k := kS "mix") (v := .int r') d.d (by rw [draw_len]; decide)
  rw [(draw_put (mix := mix) r').2.2] at h
  exact h
end
/-- between the statements -/
structure Tk (x : Addr × Addr × Addr) (n : Int) (H0 : Hp) (σ : L2.St) (H : Hp) : Prop where
  s0 : σ[0]? = some (some (.ref x.1))
  s1 : σ[1]? = some (some (.int n))
  sl : σ.length = 4
  fr : FrD x H0 H
  ex : ∃ (ls cs : List Int) (rest turn mix : Int), Dr H x ls cs rest turn mix ∧ (∀ l ∈ ls, 0 ≤ l) ∧ 0 ≤ rest ∧ 0 ≤ mix ∧ mix < 2147483629 ∧ cs.length ≤ 63
section
variable {K : PySem.W.Frag} {x : Addr × Addr × Addr} {n : Int} {H0 H : Hp} {σ : L2.St} {D : Ends}
theorem decV {i j : Int} : decide (V.int i = V.int j) = decide (i = j) := by
  by_cases h : i = j
  · subst h; simp
  · rw [decide_eq_false h, decide_eq_false fun z => h (V.int.inj z)]
theorem tk_set (h : Tk x n H0 σ H) {i : Nat} {v : V} (hi : 2 ≤ i) : Tk x n H0 (σ.set i (some v)) H :=
  ⟨by rw [List.getElem?_set_ne (by omega)]; exact h.s0, by rw [List.getElem?_set_ne (by omega)]; exact h.s1, by rw [List.length_set]; exact h.sl, h.fr, h.ex⟩
theorem ints_data {K : PySem.W.Frag} {H : Hp} : ∀ (ls : List Int), DpAll K H (ls.map V.int) (ls.map PyData.int)
  | [] => .nil
  | i :: ls => .cons (.int i) (ints_data ls)
theorem ints_lay : ∀ (ls : List Int), PyData.canLayAll0 (ls.map PyData.int) = true ∧ PyData.depthAll (ls.map PyData.int) = 0
  | [] => by simp [PyData.canLayAll0, PyData.depthAll]
  | i :: ls => by
    obtain ⟨a, b⟩ := ints_lay ls
    constructor
    · simp [PyData.canLayAll0, PyData.canLay0, a]
    · simp [PyData.depthAll, PyData.depth, b]
theorem ints_shaped (ls : List Int) : SeqAt.shaped (.list (ls.map PyData.int)) = true := by
  obtain ⟨a, b⟩ := ints_lay ls
  unfold SeqAt.shaped
  rw [Bool.and_eq_true, decide_eq_true_eq]
  exact ⟨by simpa [PyData.canLay0] using a, by simp [PyData.depth, b]⟩
theorem tk_a (h : Tk x n H0 σ H) (hne : ∃ l ls cs rest turn mix, Dr H x (l :: ls) cs rest turn mix ∧ (∀ l' ∈ l :: ls, 0 ≤ l') ∧ 0 ≤ rest ∧ 0 ≤ mix ∧ mix < 2147483629 ∧ cs.length ≤ 63) (k : ∀ H', Tk x n H0 σ H' → D.nx σ H') : tkA K D σ H := by
  obtain ⟨l, ls, cs, rest, turn, mix, d, hl, h0, h1, h2, h3⟩ := hne
  unfold tkA sDPut
  refine d.q_large h.s0 ⟨.inl ⟨rfl, _, SqL.of d.l⟩, ?_⟩
  refine ⟨x.2.1, _, 0, 0, .int l, rfl, rfl, d.l, by decide, by decide, ?_, rfl, ?_⟩
  · simp [seqIndex?]
  · have d2 := d.pop ls
    have fr2 : FrD x H (upd H x.2.1 (.lst (ls.map V.int))) := .at (.inr (.inl rfl))
    refine ⟨_, h.s0, x.1, _, rfl, d2.p_rest l, k _ ⟨h.s0, h.s1, h.sl, h.fr.trans (fr2.trans (.at (.inl rfl))), ls, cs, l, turn, mix, d2.put l turn mix, fun z hz => hl z (List.mem_cons_of_mem _ hz), hl l (List.mem_cons_self ..), h1, h2, h3⟩⟩
theorem tk_b1 (h : Tk x n H0 σ H) (k : ∀ H', Tk x n H0 σ H' → D.nx σ H') : tkB1 D σ H := by
  obtain ⟨ls, cs, rest, turn, mix, d, hl, h0, h1, h2, h3⟩ := h.ex
  refine d.q_turn h.s0 ⟨turn, 1, rfl, rfl, _, h.s0, x.1, _, rfl, d.p_turn _, k _ ⟨h.s0, h.s1, h.sl, h.fr.trans (.at (.inl rfl)), ls, cs, rest, turn + 1, mix, d.put rest (turn + 1) mix, hl, h0, h1, h2, h3⟩⟩
theorem tk_b2b (h : Tk x n H0 σ H) {c : Int} (hc : σ[2]? = some (some (.int c))) (k : ∀ H', Tk x n H0 σ H' → FrD x H H' → D.nx σ H') : tkB2b D σ H := by
  obtain ⟨ls, cs, rest, turn, mix, d, hl, h0, h1, h2, h3⟩ := h.ex
  refine d.q_mix h.s0 ⟨mix, 69621, rfl, rfl, .inr ⟨by decide, by decide⟩, _, hc, c, 48271, rfl, rfl, .inr ⟨by decide, by decide⟩, _, _, rfl, rfl, _, _, rfl, rfl, .inl ⟨_, rfl, ?_⟩⟩
  refine ⟨_, 2147483629, rfl, rfl, (by decide : (0 : Int) < 2147483629), _, h.s0, x.1, _, rfl, d.p_mix _, k _ ⟨h.s0, h.s1, h.sl, h.fr.trans (.at (.inl rfl)), ls, cs, rest, turn, _, d.put rest turn _, hl, h0, Int.emod_nonneg _ (by decide), Int.emod_lt_of_pos _ (by decide), h3⟩ (.at (.inl rfl))⟩
theorem tk_b2 (h : Tk x n H0 σ H) (k : ∀ σ' H', Tk x n H0 σ' H' → D.nx σ' H') : tkB2 K D σ H := by
  obtain ⟨ls, cs, rest, turn, mix, d, hl, h0, h1, h2, h3⟩ := h.ex
  unfold tkB2 tFor iList
  refine d.q_turn h.s0 ⟨by show 1 ≤ sizeLine; decide, fun p hp => ?_⟩
  have s1 : Same H (upd H p (.lst [.int turn])) := same_upd hp
  have d2 := d.same s1
  refine d2.q_cells h.s0 ⟨p, x.2.2, [.int turn], cs.map V.int, rfl, rfl, upd_same, d2.c, ?_, fun p2 hp2 => ⟨p2, rfl, ⟨_, SqL.of upd_same⟩, ?_⟩⟩
  · have : (63 : Nat) + 1 ≤ sizeLine := by decide
    simp only [List.length_map, List.length_singleton]; omega
  · have s2 : Same (upd H p (.lst [.int turn])) (upd (upd H p (.lst [.int turn])) p2 (.lst ([.int turn] ++ cs.map V.int))) := same_upd hp2
    have hp1 : ∀ y, (y = x.1 ∨ y = x.2.1 ∨ y = x.2.2) → p2 ≠ y := fun y hy z => by
      subst z
      rcases hy with rfl | rfl | rfl
      · rw [d2.d] at hp2; cases hp2
      · rw [d2.l] at hp2; cases hp2
      · rw [d2.c] at hp2; cases hp2
    refine for_list (a := p2) (xs := [.int turn] ++ cs.map V.int) (fun i σ' H' => Tk x n H0 σ' H' ∧ H' p2 = some (.lst ([.int turn] ++ cs.map V.int))) ⟨⟨h.s0, h.s1, h.sl, h.fr.trans ((FrD.new hp).trans (FrD.new hp2)), ls, cs, rest, turn, mix, d2.same s2, hl, h0, h1, h2, h3⟩, upd_same⟩ (fun i σ' H' _ P => SqL.of P.2) (fun i y σ' H' hy P => ?_) fun σ' H' P => k σ' H' P.1
    have hc : ∃ c : Int, y = .int c := by
      have hm : y ∈ [V.int turn] ++ cs.map V.int := List.mem_of_getElem? hy
      simp only [List.singleton_append, List.mem_cons, List.mem_map] at hm
      rcases hm with rfl | ⟨c, _, rfl⟩
      · exact ⟨_, rfl⟩
      · exact ⟨c, rfl⟩
    obtain ⟨c, rfl⟩ := hc
    refine tk_b2b (tk_set P.1 (Nat.le_refl 2)) (c := c) (List.getElem?_set_self (by rw [P.1.sl]; decide)) fun H'' T' fr => ⟨T', ?_⟩
    exact fr _ _ P.2 (hp1 _ (.inl rfl)) (hp1 _ (.inr (.inl rfl))) (hp1 _ (.inr (.inr rfl)))
theorem tk_b3 (h : Tk x n H0 σ H) (k : ∀ H', Tk x n H0 σ H' → D.nx σ H') : tkB3 D σ H := by
  obtain ⟨ls, cs, rest, turn, mix, d, hl, h0, h1, h2, h3⟩ := h.ex
  refine d.q_mix h.s0 ⟨mix, 5, rfl, rfl, ⟨by decide, by decide, by omega⟩, .inl ⟨_, rfl, ?_⟩⟩
  refine ⟨_, 2305843009213693951, rfl, rfl, (by decide : (0 : Int) < 2305843009213693951), _, h.s0, x.1, _, rfl, d.p_rest _, k _ ⟨h.s0, h.s1, h.sl, h.fr.trans (.at (.inl rfl)), ls, cs, _, turn, mix, d.put _ turn mix, hl, Int.emod_nonneg _ (by decide), h1, h2, h3⟩⟩
theorem tk_c (hn : 1 ≤ n) (hn2 : n < 1073741824) (h : Tk x n H0 σ H) (k : ∀ (r : Int) σ' H', Tk x n H0 σ' H' → 0 ≤ r → r < n → σ'[3]? = some (some (.int r)) → D.nx σ' H') : tkC K D σ H := by
  obtain ⟨ls, cs, rest, turn, mix, d, hl, h0, h1, h2, h3⟩ := h.ex
  unfold tkC tAsg tCB
  refine d.q_rest h.s0 ⟨_, h.s1, rest, n, rfl, ⟨by omega, hn2⟩, fun p hp => ?_⟩
  have d2 := d.same (same_upd hp (o := .tup [.int (rest / n), .int (rest % n)]))
  refine ⟨p, _, rfl, SqT.of upd_same, rfl, _, _, rfl, ⟨_, h.s0, x.1, _, rfl, d2.p_rest _, ?_⟩⟩
  refine ⟨_, _, rfl, rfl, k (rest % n) _ _ (tk_set ⟨h.s0, h.s1, h.sl, h.fr.trans ((FrD.new hp).trans (.at (.inl rfl))), ls, cs, rest / n, turn, mix, d2.put _ turn mix, hl, Int.ediv_nonneg h0 (by omega), h1, h2, h3⟩ (by decide)) (Int.emod_nonneg _ (by omega)) (Int.emod_lt_of_pos _ (by omega)) (List.getElem?_set_self (by rw [h.sl]; decide))⟩
theorem tk_1 (h : Tk x n H0 σ H) (k : ∀ σ' H', Tk x n H0 σ' H' → D.nx σ' H') : tIfS (tkTest K) (tkA K) (tIfS tkTest2 (tSeq tkB1 (tSeq (tkB2 K) tkB3)) tNext) D σ H := by
  obtain ⟨ls, cs, rest, turn, mix, d, hl, h0, h1, h2, h3⟩ := h.ex
  have els : tIfS tkTest2 (tSeq tkB1 (tSeq (tkB2 K) tkB3)) tNext D σ H := by
    refine d.q_rest h.s0 ⟨rfl, decide (rest = 0), by rw [decV], ?_⟩
    by_cases e : rest = 0
    · rw [decide_eq_true e]
      exact tk_b1 h fun H1 T1 => tk_b2 T1 fun σ2 H2 T2 => tk_b3 T2 fun H3 T3 => k _ _ T3
    · rw [decide_eq_false e]
      exact k _ _ h
  refine d.q_rest h.s0 ⟨rfl, decide (rest = 0), by rw [decV], ?_⟩
  by_cases e : rest = 0
  · rw [decide_eq_true e]
    refine d.q_large h.s0 ⟨by decide, fun p hp => ?_⟩
    have s1 := same_upd hp (o := .lst [])
    refine ⟨.list (ls.map PyData.int), .list [], .lst (SqL.of (s1 _ _ d.l)) (ints_data ls), .lst (SqL.of upd_same) .nil, ints_shaped ls, ints_shaped [], ?_⟩
    refine ⟨_, rfl, ?_⟩
    have T1 : Tk x n H0 σ (upd H p (.lst [])) := ⟨h.s0, h.s1, h.sl, h.fr.trans (.new hp), ls, cs, rest, turn, mix, d.same s1, hl, h0, h1, h2, h3⟩
    cases ls with
    | nil =>
      have : (!PyData.eqv (PyData.list (List.map PyData.int [])) (.list [])) = false := by simp [PyData.eqv, PyData.eqvAll]
      rw [this]
      have d1 := d.same s1
      refine d1.q_rest h.s0 ⟨rfl, decide (rest = 0), by rw [decV], ?_⟩
      rw [decide_eq_true e]
      exact tk_b1 T1 fun H1 T1 => tk_b2 T1 fun σ2 H2 T2 => tk_b3 T2 fun H3 T3 => k _ _ T3
    | cons l ls =>
      have : (!PyData.eqv (PyData.list (List.map PyData.int (l :: ls))) (.list [])) = true := by simp [PyData.eqv, PyData.eqvAll]
      rw [this]
      exact tk_a T1 ⟨l, ls, cs, rest, turn, mix, d.same s1, hl, h0, h1, h2, h3⟩ fun H' T' => k _ _ T'
  · rw [decide_eq_false e]
    exact els
theorem take_run {N : List Str} (hN : N.length = 4) {vs : List V} {Q : VK} {E : XK} (h : spTakeH vs H Q E) : tTake K { nx := fun _ H' => Q .non H', rt := Q } (L2.start N vs) H := by
  obtain ⟨x, n, rfl, h1, h2, d, q⟩ := h
  obtain ⟨ls, cs, rest, turn, mix, a1, a2, a3, hl, b0, b1, b2, b3, b4⟩ := d.ex
  have T0 : Tk x n H (L2.start N [.ref x.1, .int n]) H := by
    refine ⟨rfl, rfl, by simp [L2.start, hN], .refl, ls, cs, rest, turn, mix, ⟨a1, a2, a3, b4⟩, hl, b0, b1, b2, b3⟩
  refine tk_1 T0 fun σ1 H1 T1 => tk_c h1 h2 T1 fun r σ2 H2 T2 r0 r1 hr => ⟨_, hr, q r H2 r0 r1 ?_ T2.fr⟩
  obtain ⟨ls, cs, rest, turn, mix, d, hl, b0, b1, b2, b3⟩ := T2.ex
  exact ⟨ls, cs, rest, turn, mix, d.d, d.l, d.c, hl, b0, b1, b2, b3, d.ne⟩
end
end Z
namespace Z
open PySem PySem.Spec PyProof.Rows L2
/-! ### _law_begin (names: 0 script, 1 large, 2 cell) -/
def rAbs : List V → Hp → VK → Prop := fun xs H Q => ∃ i, xs = [.int i] ∧ Q (.int (if i < 0 then -i else i)) H
def rLst (K : PySem.W.Frag) : List V → Hp → VK → Prop := fun xs H Q => ∃ p ys, xs = [.ref p] ∧ (SqL K H p ys ∨ SqT K H p ys) ∧ ∀ l, H l = none → Q (.ref l) (upd H l (.lst ys))
def bgTest : TT := tB (tGe (tCB rAbs (tCons (tVar 2) tNil)) (tOp (rI CPow fun i j => .int (i ^ j.toNat)) (tC (.int 10)) (tC (.int 18))))
def bgLc (K : PySem.W.Frag) : TE := tLc (iList K (tVar 0)) (gName 2) bgTest (tCB rAbs (tCons (tVar 2) tNil)) [2]
def bgRet (K : PySem.W.Frag) : TE := tDisp [(kE "large", tVar 1), (kE "cells", tCB (rLst K) (tCons (tVar 0) tNil)), (kE "rest", tC (.int 0)), (kE "turn", tC (.int 0)), (kE "mix", tC (.int 7))]
def tBegin (K : PySem.W.Frag) : TS := tSeq (tAsg (bgLc K) (gName 1)) (tRet (bgRet K))
def spBegin (K : PySem.W.Frag) : Sp := fun vs H Q _ => ∃ (a : Addr) (ns : List Int), vs = [.ref a] ∧ ns.length ≤ 63 ∧ SqL K H a (ns.map V.int) ∧
  ∀ (x : Addr × Addr × Addr) (H' : Hp), DrawAt H' x → Same H H' → H x.1 = none → H x.2.1 = none → H x.2.2 = none → Q (.ref x.1) H'
theorem sqL_same {K : PySem.W.Frag} {H H' : Hp} (s : Same H H') {a : Addr} {xs : List V} (h : SqL K H a xs) : SqL K H' a xs := Same.seq s h
theorem ite_both {c : Prop} [Decidable c] {p q : Prop} (hp : p) (hq : q) : if c then p else q := by split <;> assumption
theorem begin_run {K : PySem.W.Frag} {N : List Str} (hN : N.length = 3) {vs : List V} {H : Hp} {Q : VK} {E : XK} (h : spBegin K vs H Q E) : tBegin K { nx := fun _ H' => Q .non H', rt := Q } (L2.start N vs) H := by
  obtain ⟨a, ns, rfl, hl, hs, q⟩ := h
  have s0 : (L2.start N [V.ref a])[0]? = some (some (.ref a)) := rfl
  have sl : (L2.start N [V.ref a]).length = 3 := by simp [L2.start, hN]
  generalize L2.start N [V.ref a] = σ at s0 sl
  refine ⟨_, s0, a, rfl, ⟨_, hs⟩, fun D hD => ?_⟩
  have same : ∀ xs, Same H (upd H D (.lst xs)) := fun xs => same_upd hD
  refine ⟨fun i m H' => m = ns.length - i ∧ i ≤ ns.length ∧ ∃ acc : List Int, (∀ v ∈ acc, 0 ≤ v) ∧ acc.length ≤ i ∧ H' = upd H D (.lst (acc.map V.int)), ⟨ns.length, by simp, Nat.zero_le _, [], by simp, Nat.zero_le _, rfl⟩, ?_⟩
  rintro i m H' ⟨rfl, hi, acc, hp, la, rfl⟩
  have sq := sqL_same (same (acc.map V.int)) hs
  by_cases hlt : i < ns.length
  · refine .inr ⟨⟨_, .int ns[i], sq, by simp [hlt]⟩, fun H' => ∃ acc : List Int, (∀ v ∈ acc, 0 ≤ v) ∧ acc.length ≤ i + 1 ∧ H' = upd H D (.lst (acc.map V.int)), fun H' ⟨acc, p, l, e⟩ => ⟨_, by omega, rfl, hlt, acc, p, l, e⟩, fun x H' hy => ?_⟩
    obtain ⟨rfl, hy⟩ := hy
    have hx := hy _ sq
    rw [List.getElem?_map, List.getElem?_eq_getElem hlt] at hx
    have hx : V.int ns[i] = x := by simpa using hx
    subst hx
    have g2 : ((wipe σ [2]).set 2 (some (V.int ns[i])))[2]? = some (some (V.int ns[i])) := List.getElem?_set_self (by rw [wipe_length, sl]; decide)
    refine ⟨?_, _, g2, ⟨_, rfl, 10, 18, rfl, rfl, ⟨by decide, by decide, by decide⟩, _, _, rfl, rfl, ?_⟩⟩
    · exact wipe_same (by rw [List.length_set]) fun j hj => by rw [List.getElem?_set_ne (fun z => hj (by simp [z]))]
    · refine ⟨_, rfl, ite_both ?_ ?_⟩
      · refine ⟨_, g2, _, rfl, acc.map V.int, upd_same, ?_, acc ++ [if ns[i] < 0 then -ns[i] else ns[i]], ?_, ?_, ?_⟩
        · have : (64 : Nat) ≤ sizeLine := by decide
          simp only [List.length_map]; omega
        · intro v hv
          rcases List.mem_append.mp hv with hv | hv
          · exact hp v hv
          · rw [List.mem_singleton] at hv
            rw [hv]
            split <;> omega
        · simp only [List.length_append, List.length_singleton]; omega
        · rw [upd_upd]; simp
      · exact ⟨acc, hp, by omega, rfl⟩
  · have e : i = ns.length := by omega
    subst e
    refine .inl ⟨⟨_, sq, by simp⟩, ?_⟩
    have hD2 : D ≠ a ∨ True := .inr trivial
    have t0 : (σ.set 1 (some (.ref D)))[0]? = some (some (.ref a)) := by rw [List.getElem?_set_ne (by decide)]; exact s0
    have t1 : (σ.set 1 (some (.ref D)))[1]? = some (some (.ref D)) := List.getElem?_set_self (by rw [sl]; decide)
    show tDisp _ (σ.set 1 (some (.ref D))) _ _
    intro p hp'
    have s2 := same_upd hp' (o := .dK [])
    refine ⟨_, t1, _, t0, a, ns.map V.int, rfl, .inl (sqL_same s2 sq), fun c hc => ?_⟩
    refine ⟨?_, [(kS "large", .ref D), (kS "cells", .ref c), (kS "rest", .int 0), (kS "turn", .int 0), (kS "mix", .int 7)], rfl, by simp, ?_⟩
    · have : p ≠ c := fun z => by subst z; rw [upd_same] at hc; cases hc
      rw [upd_ne this]; exact upd_same
    · have hm : mergeK [] [(kS "large", V.ref D), (kS "cells", .ref c), (kS "rest", .int 0), (kS "turn", .int 0), (kS "mix", .int 7)] = drawKv D c 0 0 7 := by
        obtain ⟨n1, n2, n3, n4, n5, n6, n7, n8, n9, n10⟩ := ks_ne
        simp [mergeK, putK, drawKv, n1, n2, n3, n4, n5, n6, n7, n8, n9, n10]
      rw [hm]
      have pD : p ≠ D := fun z => by subst z; rw [upd_same] at hp'; cases hp'
      have cp : c ≠ p := fun z => by subst z; rw [upd_same] at hc; cases hc
      have cD : c ≠ D := fun z => by subst z; rw [upd_ne pD.symm, upd_same] at hc; cases hc
      refine q (p, D, c) _ ⟨acc, ns, 0, 0, 7, upd_same, ?_, ?_, hp, by decide, by decide, by decide, hl, cD.symm⟩ (fun b o e => ?_) ?_ hD ?_
      · rw [upd_ne pD.symm, upd_ne cD.symm, upd_ne pD.symm]; exact upd_same
      · rw [upd_ne cp]; exact upd_same
      · have bD : b ≠ D := fun z => by subst z; rw [hD] at e; cases e
        have bp : b ≠ p := fun z => by subst z; rw [upd_ne pD, e] at hp'; cases hp'
        have bc : b ≠ c := fun z => by subst z; rw [upd_ne bp, upd_ne bD, e] at hc; cases hc
        rw [upd_ne bp, upd_ne bc, upd_ne bp, upd_ne bD]; exact e
      · rw [upd_ne pD] at hp'; exact hp'
      · rw [upd_ne cp, upd_ne cD] at hc; exact hc
/-! ### the law itself: _law_draw = _law_begin(_law_script), then the rest by readings -/
def spLaw (K : PySem.W.Frag) : Sp := fun vs H Q _ => ∃ (a : Addr) (ns : List Int), vs = [.ref a] ∧ ns.length ≤ 63 ∧ SqL K H a (ns.map V.int) ∧ ∀ H', Q (.bl true) H'
def envL (n : Nat) (ns : List Int) : Env := some (.sc ns) :: some .dw :: List.replicate (n - 2) none
def endL : En where
  nx := fun _ _ => False
  rt := fun z _ => z = .d (.bl true)
def tLawS (K : PySem.W.Frag) (W : WX) (z : ZS) : TS := tSeq (tAsg (tCallS (spBegin K) (WE W) (tCons (tVar 0) tNil)) (gName 1)) (tzs K W z)
theorem law_run {K : PySem.W.Frag} {W : WX} {z : ZS} {N : List Str} (hN : 2 ≤ N.length) (hz : ∀ ns, ns.length ≤ 63 → z endL (envL N.length ns) []) {vs : List V} {H : Hp} {Q : VK} {E : XK} (h : spLaw K vs H Q E) :
    tLawS K W z { nx := fun _ H' => Q .non H', rt := Q } (L2.start N vs) H := by
  obtain ⟨a, ns, rfl, hl, hs, q⟩ := h
  refine ⟨_, rfl, a, ns, rfl, hl, hs, fun x H' d s n1 n2 n3 => ?_⟩
  refine ⟨⟨[], some x⟩, H, envL N.length ns, [], _, ⟨⟨rfl, s, fun a h => (List.not_mem_nil h).elim, fun n o a h => by simp at h, List.nodup_nil, fun y hy => ?_⟩, ?_, fun i z e => ?_⟩, hz ns hl, ⟨fun _ _ _ _ _ _ _ _ h => h.elim, fun z ov' t' G' v H' _ _ r e => ?_, fun _ _ _ _ _ _ _ _ h => h.elim, fun _ _ _ _ _ _ _ _ h => h.elim, fun _ _ _ _ _ _ _ _ _ _ _ _ h => h.elim⟩⟩
  · cases hy
    exact ⟨d, n1, n2, n3, by simp, by simp, by simp⟩
  · simp [envL, L2.start]; omega
  · have st : L2.start N [V.ref a] = some (.ref a) :: List.replicate (N.length - 1) none := rfl
    rw [st]
    match i with
    | 0 =>
      have e : Zv.sc ns = z := by simpa [envL] using e
      subst e
      exact ⟨_, rfl, a, rfl, hs⟩
    | 1 =>
      have e : Zv.dw = z := by simpa [envL] using e
      subst e
      refine ⟨.ref x.1, ?_, x, rfl, rfl⟩
      rw [List.getElem?_set_self]
      simp; omega
    | i + 2 =>
      rw [show (envL N.length ns)[i + 2]? = (List.replicate (N.length - 2) none)[i]? from rfl, List.getElem?_replicate] at e
      split at e <;> cases e
  · have e : z = _ := e
    subst e
    have r : v = _ := r
    subst r
    exact q _
end Z
namespace Z
open PySem PySem.Spec PyProof.Rows L2
theorem takes0 {X : Cx} : Takes X W0 := fun u s' ⟨_, _, _, _, _, _, _, _, _, _, _, _, _, _, _, _, w⟩ => w.elim
section
variable {X : Cx} {W : WX} {e tg : Expr} {za : ZE} {pos : Pos}
/-- a list or a tuple -/
def iSeq (K : PySem.W.Frag) (tl : TE) : TI := fun σ H R => tl σ H fun x H1 => ∃ a, x = .ref a ∧ (((∃ xs, SqL K H1 a xs) ∧ R (Itl K a) H1) ∨ ((∃ xs, SqT K H1 a xs) ∧ R (Itt K a) H1))
theorem pi_seq {l : Expr} {tl : TE} (hl : PE X l tl) : PI X tg l (iSeq X.K tl) := by
  refine ⟨fun pins s σ H R I h => ?_⟩
  refine thn (hl.run pins s σ H _ I h) fun v s1 ⟨x, H1, I1, r1, q1⟩ => ?_
  obtain ⟨a, e, q1⟩ := q1
  subst e
  cases r1
  rcases q1 with ⟨⟨xs, hq⟩, q⟩ | ⟨⟨xs, hq⟩, q⟩
  · obtain ⟨its, rv, p, hz⟩ := I1.list hq
    refine wpAny_pyIter_list p.isList ?_
    refine ⟨s1.heap.objs.size, [s1.heap.objs.size], _, _, H1, rfl, I1.kept (t' := s1.toks) fun b o e => Heap.get?_push_of_some _ e, turn_list a _, ⟨_, Heap.get?_push_size _ rfl, rfl, rfl⟩, fun b hb => ?_, q⟩
    have e : b = s1.heap.objs.size := by simpa using hb
    subst e
    exact I1.fpOk (Nat.le_refl _) (I1.hok.fresh (Nat.le_refl _))
  · obtain ⟨its, rv, p, hz⟩ := I1.tuple hq
    refine wpAny_pyIter_tuple (show s1.heap.IsTuple a its.toArray from p) ?_
    refine ⟨s1.heap.objs.size, [s1.heap.objs.size], _, _, H1, rfl, I1.kept (t' := s1.toks) fun b o e => Heap.get?_push_of_some _ e, turn_tuple a _, ⟨_, Heap.get?_push_size _ rfl, rfl, rfl⟩, fun b hb => ?_, q⟩
    have e : b = s1.heap.objs.size := by simpa using hb
    subst e
    exact I1.fpOk (Nat.le_refl _) (I1.hok.fresh (Nat.le_refl _))
theorem walks_lst {K : PySem.W.Frag} {G : Hp} {a : Addr} {xs : List V} {ds : List D} (ha : G a = some (.lst xs)) (rs : Reps K G ds xs) : Walks K (Itl K a) ⟨[], none⟩ G (ds.map Zv.d) := fun G' H' sg sh => by
  refine ⟨fun i z hz => ?_, ?_⟩
  · rw [List.getElem?_map] at hz
    cases hd : ds[i]? with
    | none => rw [hd] at hz; cases hz
    | some d =>
      rw [hd] at hz
      have hz : z = .d d := by cases hz; rfl
      subst hz
      obtain ⟨v, hv, rv⟩ := rs.get hd
      have hs : SqL K H' a xs := SqL.of (sh _ _ (sg _ _ ha))
      refine ⟨⟨xs, v, hs, hv⟩, fun x H2 hy => ?_⟩
      obtain ⟨rfl, hy⟩ := hy
      have : v = x := Option.some.inj (hv.symm.trans (hy xs hs))
      subst this
      exact ⟨G', .refl sh, Rep.mono sg rv⟩
  · rw [List.length_map]
    exact ⟨xs, SqL.of (sh _ _ (sg _ _ ha)), by rw [rs.len]; exact Nat.le_refl _⟩
theorem walks_tup {K : PySem.W.Frag} {G : Hp} {a : Addr} {xs : List V} {ds : List D} (ha : SqT K G a xs) (rs : Reps K G ds xs) : Walks K (Itt K a) ⟨[], none⟩ G (ds.map Zv.d) := fun G' H' sg sh => by
  refine ⟨fun i z hz => ?_, ?_⟩
  · rw [List.getElem?_map] at hz
    cases hd : ds[i]? with
    | none => rw [hd] at hz; cases hz
    | some d =>
      rw [hd] at hz
      have hz : z = .d d := by cases hz; rfl
      subst hz
      obtain ⟨v, hv, rv⟩ := rs.get hd
      have hs : SqT K H' a xs := Same.seqT sh (Same.seqT sg ha)
      refine ⟨⟨xs, v, hs, hv⟩, fun x H2 hy => ?_⟩
      obtain ⟨rfl, hy⟩ := hy
      have : v = x := Option.some.inj (hv.symm.trans (hy xs hs))
      subst this
      exact ⟨G', .refl sh, Rep.mono sg rv⟩
  · rw [List.length_map]
    exact ⟨xs, Same.seqT sh (Same.seqT sg ha), by rw [rs.len]; exact Nat.le_refl _⟩
theorem zi_seq (hl : ZEj X W e za) : ZIj X W tg e (ziSeq za) := by
  refine PI.imp (pi_seq hl) fun σ H R ⟨t, G, env, ov, Qz, Ez, A, q, pe, px⟩ => ?_
  refine ⟨t, G, env, ov, _, Ez, A, q, fun x ov1 t1 G1 v H1 s1 ok1 r1 q1 => ?_, px⟩
  obtain ⟨ds, e, q1⟩ := q1
  rcases e with rfl | rfl
  · obtain ⟨a, xs, rfl, ha, l, rs⟩ := r1
    exact ⟨a, rfl, .inl ⟨⟨xs, SqL.of (ok1.sub _ _ ha)⟩, pe _ ov1 t1 G1 (Itl X.K a) H1 s1 ok1 mem_mapD (walks_lst ha rs) q1⟩⟩
  · obtain ⟨a, xs, rfl, ha, l, rs⟩ := r1
    exact ⟨a, rfl, .inr ⟨⟨xs, Same.seqT ok1.sub ha⟩, pe _ ov1 t1 G1 (Itt X.K a) H1 s1 ok1 mem_mapD (walks_tup ha rs) q1⟩⟩
/-- the script walked -/
def ziSc (za : ZE) : ZI := fun env ov Q E => za env ov (fun x ov1 => ∃ ns, x = .sc ns ∧ Q (ns.map fun n => .d (.int n)) ov1) E
theorem zi_sc (hl : ZEj X W e za) : ZIj X W tg e (ziSc za) := by
  refine PI.imp (pi_list hl) fun σ H R ⟨t, G, env, ov, Qz, Ez, A, q, pe, px⟩ => ?_
  refine ⟨t, G, env, ov, _, Ez, A, q, fun x ov1 t1 G1 v H1 s1 ok1 r1 q1 => ?_, px⟩
  obtain ⟨ns, rfl, q1⟩ := q1
  obtain ⟨a, rfl, ha⟩ := r1
  have ha1 : SqL X.K H1 a (ns.map V.int) := Same.seq ok1.sub ha
  refine ⟨a, rfl, ⟨_, ha1⟩, pe _ ov1 t1 G1 (Itl X.K a) H1 s1 ok1 (fun z h => by obtain ⟨n, _, rfl⟩ := List.mem_map.mp h; exact ⟨_, rfl⟩) (fun G' H' sg sh => ⟨fun i z hz => ?_, ?_⟩) q1⟩
  · have hs : SqL X.K H' a (ns.map V.int) := Same.seq sh (Same.seq sg ha)
    rw [List.getElem?_map] at hz
    cases hd : ns[i]? with
    | none => rw [hd] at hz; cases hz
    | some n =>
      rw [hd] at hz
      have hz : z = .d (.int n) := by cases hz; rfl
      subst hz
      have hv : (ns.map V.int)[i]? = some (.int n) := by rw [List.getElem?_map, hd]; rfl
      refine ⟨⟨_, _, hs, hv⟩, fun x H2 hy => ?_⟩
      obtain ⟨rfl, hy⟩ := hy
      have : V.int n = x := Option.some.inj (hv.symm.trans (hy _ hs))
      subst this
      exact ⟨G', .refl sh, rfl⟩
  · rw [List.length_map]
    exact ⟨ns.map V.int, Same.seq sh (Same.seq sg ha), by simp⟩
end
def dNeg : DUn := fun x Q => match x with
  | .int i => Q (.int (-i))
  | _ => False
theorem opz_neg {K : PySem.W.Frag} : UnZ K (rU fun i => .int (-i)) dNeg := by
  intro G H x v P Q s rx h k
  cases x with
  | int i =>
    have e : v = .int i := rx
    subst e
    exact ⟨i, rfl, k _ _ G H h (.refl s) rfl⟩
  | _ => exact h.elim
def StrG (g : ZG) : Prop := ∀ x env ov Q, g x env ov Q → ∃ env' ov', Q env' ov'
def StrE (z : ZE) : Prop := ∀ env ov Q E, z env ov Q E → ∃ v ov', Q v ov'
theorem str_var {i : Nat} : StrG (gVar i) := fun _ _ _ _ h => ⟨_, _, h⟩
theorem stre_var {i : Nat} : StrE (zVar i) := fun _ _ _ _ ⟨_, _, h⟩ => ⟨_, _, h⟩
theorem stre_c {d : D} : StrE (zC d) := fun _ _ _ _ h => ⟨_, _, h⟩
theorem str_dput {zo zk : ZE} (ho : StrE zo) (hk : StrE zk) : StrG (gDPut zo zk) := fun x env ov Q h => by
  obtain ⟨v, ov1, h⟩ := ho _ _ _ _ h
  obtain ⟨v2, ov2, n, kvs, k, _, _, _, _, q⟩ := hk _ _ _ _ h
  exact ⟨_, _, q⟩
theorem gs_len0 : ∀ xs env ov Q, gNil' xs env ov Q → xs.length = 0 := fun xs env ov Q h => by rw [h.1]; rfl
theorem gs_lenS {g : ZG} {gs : ZGs} {n : Nat} (hg : StrG g) (h : ∀ xs env ov Q, gs xs env ov Q → xs.length = n) : ∀ xs env ov Q, gCons' g gs xs env ov Q → xs.length = n + 1 := fun xs env ov Q ⟨x, r, e, q⟩ => by
  obtain ⟨env', ov', q⟩ := hg _ _ _ _ q
  rw [e, List.length_cons, h r env' ov' Q q]
end Z
namespace Z
open PySem PySem.Spec PyProof.Rows L2
theorem units1 {k : Nat} {A : Around} (r : Room k A) : A.units + 1 < cLine := by have := r.un; omega
theorem kbn_pick {K : PySem.W.Frag} {x qual : Str} {params : Arguments} {body : List Stmt} {scope : Scope} {kws : List (Str × V)} {f : Addr} {fd : FuncData} {ps : List Str} (F : FunD K x qual params body scope [] kws f fd) (n : Nat) (ks : List Str) (pm : List Nat)
    (h : ∀ (kV doc pm' : Value) (an : Option Addr) (cdv ct : Value) (us ws : List Value), us.length = n → ws.length = ks.length → bindArgs (PySem.W.fnOf x qual params body scope .none kV doc pm' an cdv ct) ⟨us, ks.zip ws⟩ = pure (ps.zip (pickL pm (us ++ ws)))) :
    KBn K fd ps n ks (fun us ws => pickL pm (us ++ ws)) (fun vs zs => pickL pm (vs ++ zs)) := by
  obtain ⟨oc, od, dV, kV, doc, pm', an, cdv, ct, osl, rfl, lk, hcd, hD, hK⟩ := F.ex
  rcases hD with ⟨_, rfl⟩ | ⟨e, _⟩
  · exact ⟨fun s us ws X l1 l2 => .of_eq (h kV doc pm' an cdv ct us ws l1 l2), fun r1 r2 => Vals.pick (r1.append r2) pm⟩
  · exact absurd rfl e
theorem walk_w {l : PySem.W.OpenLaw} {n k : Nat} {q : Program} {loose : List Str} {XP : (Str → Option Value) → Heap → Prop} {YP : World → Heap → Prop} {d : DefRec} {x : Str}
    (hn : l.most = some n) (hn2 : n ≤ sizeLine) (hdf : d.params.defaults = []) (hr : Room k callerA)
    (F : ∀ (w : World) (mg : Str → Option Value) (fa : Addr) (h : Heap), YP w h → h.Ns mainGlobals mg → mg d.name = some (.ref fa) →
      ∃ (K : PySem.W.Frag) (fd : FuncData) (sp : Sp), K.In h ∧ (∀ (s : Shared) (u : Value), BindsTo s fd ⟨[u], []⟩ [(x, u)]) ∧
        (∀ (H : Hp) (a : Addr) (ns : List Int), ns.length ≤ n → Only H → SqL K H a (ns.map V.int) → sp [.ref a] H (fun v _ => v = .bl true) fun _ _ _ => False) ∧
        ∀ base : Heap, K.In base → base.Ns mainGlobals mg → FnOk l.prog w K mg base (L2.CX l.prog w) k fa fd [x] sp) :
    PySem.W.WalkO q loose XP YP l.row.toRowW d [] (fun f vs => PySem.call f vs) := by
  refine Att.attach_call hn hdf fun w s₀ s₁ mg mb fa o pm cd doc a vs ns G Y ho hd hcd hmg hobj hints hlen hg => ?_
  obtain ⟨K, fd, sp, KX, hb, hsp, hF⟩ := F w mg fa _ Y G.T.g hmg
  refine law_call KX G.T.g G.T.b G.T.builtins G.T.nolimit hg hobj hints (Nat.le_trans hlen hn2) hr hF hb (fun H hO hS => hsp H a ns hlen hO hS) fun H e s' h => ?_
  obtain ⟨_, _, _, _, _, _, _, _, _, _, _, _, h⟩ := h
  exact h
end Z
namespace Z
open PySem PySem.Spec PyProof.Rows L2
/-! ### readings, step by step: simp lemmas -/
section
variable {env : Env} {ov : Ov} {Q : QE} {E : QX} {QT : Bool → Ov → Prop} {QA : List Zv → Ov → Prop} {S : En} {za zb zc : ZE} {c d : ZT} {zr zs : ZA} {t u : ZS}
@[simp] theorem s_var {i : Nat} : zVar i env ov Q E = (∃ z, env[i]? = some (some z) ∧ Q z ov) := rfl
@[simp] theorem s_c {x : D} : zC x env ov Q E = Q (.d x) ov := rfl
@[simp] theorem s_op {f : DOp} : zOp f za zb env ov Q E = za env ov (fun x ov1 => zb env ov1 (fun y ov2 => ∃ dx dy, vw ov2 x = some dx ∧ vw ov2 y = some dy ∧ f dx dy fun r => Q (.d r) ov2) E) E := rfl
@[simp] theorem s_un {f : DUn} : zUn f za env ov Q E = za env ov (fun x ov1 => ∃ dx, vw ov1 x = some dx ∧ f dx fun r => Q (.d r) ov1) E := rfl
@[simp] theorem s_cmp {f : DTs} : zCmp f za zb env ov Q E = za env ov (fun x ov1 => zb env ov1 (fun y ov2 => ∃ dx dy, vw ov2 x = some dx ∧ vw ov2 y = some dy ∧ f dx dy fun r => Q (.d (.bl r)) ov2) E) E := rfl
@[simp] theorem s_tB : ztB za env ov QT E = za env ov (fun x ov1 => ∃ b, x = .d (.bl b) ∧ QT b ov1) E := rfl
@[simp] theorem s_tNot : ztNot c env ov QT E = c env ov (fun b ov1 => QT (!b) ov1) E := rfl
@[simp] theorem s_tAnd : ztAnd c d env ov QT E = c env ov (fun b ov1 => if b = true then d env ov1 QT E else QT false ov1) E := rfl
@[simp] theorem s_tOr : ztOr c d env ov QT E = c env ov (fun b ov1 => if b = true then QT true ov1 else d env ov1 QT E) E := rfl
@[simp] theorem s_tIte {e : ZT} : ztIte c d e env ov QT E = c env ov (fun b ov1 => if b = true then d env ov1 QT E else e env ov1 QT E) E := rfl
@[simp] theorem s_not : zNot za env ov Q E = za env ov (fun x ov1 => ∃ b, x = .d (.bl b) ∧ Q (.d (.bl (!b))) ov1) E := rfl
@[simp] theorem s_and : zAnd za zb env ov Q E = za env ov (fun x ov1 => ∃ b, x = .d (.bl b) ∧ if b = true then zb env ov1 Q E else Q (.d (.bl false)) ov1) E := rfl
@[simp] theorem s_or : zOr za zb env ov Q E = za env ov (fun x ov1 => ∃ b, x = .d (.bl b) ∧ if b = true then Q (.d (.bl true)) ov1 else zb env ov1 Q E) E := rfl
@[simp] theorem s_ite : zIte c za zb env ov Q E = c env ov (fun b ov1 => if b = true then za env ov1 Q E else zb env ov1 Q E) E := rfl
@[simp] theorem s_nil : zNil env ov QA E = QA [] ov := rfl
@[simp] theorem s_cons : zCons za zr env ov QA E = za env ov (fun x ov1 => zr env ov1 (fun xs ov2 => QA (x :: xs) ov2) E) E := rfl
@[simp] theorem s_tup : zTup zr env ov Q E = zr env ov (fun xs ov1 => ∃ ds, pureL xs = some ds ∧ ds.length ≤ sizeLine ∧ Q (.d (.tup ds)) ov1) E := rfl
@[simp] theorem s_lst : zLst zr env ov Q E = zr env ov (fun xs ov1 => ∃ ds, pureL xs = some ds ∧ ds.length ≤ sizeLine ∧ Q (.d (.lst ds)) ov1) E := rfl
@[simp] theorem s_lstN : zLstN zr env ov Q E = zr env ov (fun xs ov1 => xs.length ≤ sizeLine ∧ Q (.r ov1.length) (ov1 ++ [.lst xs])) E := rfl
@[simp] theorem s_call {sp : ZSp} : zCall sp zr env ov Q E = zr env ov (fun xs ov1 => xs.all Zv.isD = true ∧ sp xs [] (fun x _ => x.isD = true ∧ Q x ov1) fun x _ => E x ov1) E := rfl
@[simp] theorem s_bi {f : DFn} : zBi f zr env ov Q E = zr env ov (fun xs ov1 => ∃ ds, vwL ov1 xs = some ds ∧ f ds fun r => Q (.d r) ov1) E := rfl
@[simp] theorem s_chain {f g : DTs} : zChain f g za zb zc env ov Q E = za env ov (fun x ov1 => zb env ov1 (fun y ov2 => ∃ dx dy, vw ov2 x = some dx ∧ vw ov2 y = some dy ∧
  f dx dy fun r => if r = true then zc env ov2 (fun u ov3 => ∃ dy2 du, vw ov3 y = some dy2 ∧ vw ov3 u = some du ∧ g dy2 du fun r2 => Q (.d (.bl r2)) ov3) E else Q (.d (.bl false)) ov2) E) E := rfl
@[simp] theorem s_isi {T : String} : zIsi T za env ov Q E = za env ov (fun x ov1 => ∃ d b, vw ov1 x = some d ∧ isiD T d = some b ∧ Q (.d (.bl b)) ov1) E := rfl
@[simp] theorem s_isiT {T : List String} : zIsiT T za env ov Q E = za env ov (fun x ov1 => ∃ d b, vw ov1 x = some d ∧ isiDs T d = some b ∧ Q (.d (.bl b)) ov1) E := rfl
@[simp] theorem s_isiC {C : Str} : zIsiC C za env ov Q E = za env ov (fun x ov1 => ∃ d b, vw ov1 x = some d ∧ isC C d = some b ∧ Q (.d (.bl b)) ov1) E := rfl
@[simp] theorem s_len : zLen za env ov Q E = za env ov (fun x ov1 => (∃ ns, x = .sc ns ∧ Q (.d (.int ns.length)) ov1) ∨ ∃ d, vw ov1 x = some d ∧ dLen [d] fun r => Q (.d r) ov1) E := rfl
@[simp] theorem s_oNone {QO : Option Int → Ov → Prop} : zoNone env ov QO E = QO none ov := rfl
@[simp] theorem s_oSome {QO : Option Int → Ov → Prop} : zoSome za env ov QO E = za env ov (fun x ov1 => ∃ i, x = .d (.int i) ∧ QO (some i) ov1) E := rfl
@[simp] theorem s_sl {zl zh : ZO} : zSl za zl zh env ov Q E = za env ov (fun x ov1 => zl env ov1 (fun l ov2 => zh env ov2 (fun h ov3 => ∃ d, vw ov3 x = some d ∧ dSl d l h fun r => Q (.d r) ov3) E) E) E := rfl
@[simp] theorem s_m1 {f : Str → D → (D → Prop) → Prop} : zM1 f za zb env ov Q E = za env ov (fun x ov1 => ∃ a, x = .d (.str a) ∧ zb env ov1 (fun y ov2 => ∃ d, vw ov2 y = some d ∧ f a d fun r => Q (.d r) ov2) E) E := rfl
@[simp] theorem s_getTab {tab : List (Str × Int)} : zGetTab tab za zb env ov Q E = za env ov (fun y ov1 => zb env ov1 (fun d ov2 => ∃ s dd, y = .d (.str s) ∧ d = .d dd ∧ Q (.d ((tab.lookup s).elim dd .int)) ov2) E) E := rfl
@[simp] theorem s_dget : zDGet za zb env ov Q E = za env ov (fun x ov1 => zb env ov1 (fun y ov2 => ∃ k kvs z, keyZ y = some k ∧ dicZ ov2 x = some kvs ∧ getK kvs k = some z ∧ Q z ov2) E) E := rfl
@[simp] theorem s_din : zDIn za zb env ov Q E = za env ov (fun y ov1 => zb env ov1 (fun x ov2 => ∃ k kvs, keyZ y = some k ∧ dicZ ov2 x = some kvs ∧ Q (.d (.bl (getK kvs k).isSome)) ov2) E) E := rfl
@[simp] theorem s_fld {C f : Str} : zFld C f za env ov Q E = za env ov (fun x ov1 => ∃ fs z, insZ ov1 x = some (C, fs) ∧ fs.lookup f = some z ∧ Q z ov1) E := rfl
@[simp] theorem s_prop {C : Str} {sp : ZSp} : zProp C sp za env ov Q E = za env ov (fun x ov1 => ∃ fs, x = .d (.obj C fs) ∧ sp [x] [] (fun y _ => y.isD = true ∧ Q y ov1) noX) E := rfl
@[simp] theorem s_meth {C m : Str} {sp : ZSp} : zMeth C m sp za zr env ov Q E = za env ov (fun x ov1 => ∃ fs, x = .d (.obj C fs) ∧ fs.lookup m = none ∧ zr env ov1 (fun xs ov2 => xs.all Zv.isD = true ∧ sp (x :: xs) [] (fun y _ => y.isD = true ∧ Q y ov2) fun y _ => E y ov2) E) E := rfl
@[simp] theorem s_eqO {C : Str} {sp : ZSp} : zEqO C sp za zb env ov Q E = za env ov (fun x ov1 => zb env ov1 (fun y ov2 => ∃ fs dy, x = .d (.obj C fs) ∧ y = .d dy ∧ okY C dy = true ∧ sp [x, y] [] (fun r _ => r.isD = true ∧ ∃ b, r = .d (.bl b) ∧ Q (.d (.bl b)) ov2) noX) E) E := rfl
@[simp] theorem s_neO {C : Str} {sp : ZSp} : zNeO C sp za zb env ov Q E = za env ov (fun x ov1 => zb env ov1 (fun y ov2 => ∃ fs dy, x = .d (.obj C fs) ∧ y = .d dy ∧ okY C dy = true ∧ sp [x, y] [] (fun r _ => r.isD = true ∧ ∃ b, r = .d (.bl b) ∧ Q (.d (.bl (!b))) ov2) noX) E) E := rfl
@[simp] theorem s_callK {n m : Nat} {pm : List Nat} {sp : ZSp} : zCallK n m pm sp zr zs env ov Q E = zr env ov (fun xs ov1 => zs env ov1 (fun ys ov2 => xs.length = n ∧ ys.length = m ∧ xs.all Zv.isD = true ∧ ys.all Zv.isD = true ∧
  sp (pickL pm (xs ++ ys)) [] (fun x _ => x.isD = true ∧ Q x ov2) fun x _ => E x ov2) E) E := rfl
@[simp] theorem s_make {C : Str} {n m : Nat} {sp : ZSp} : zMake C n m sp zr zs env ov Q E = zr env ov (fun xs ov1 => zs env ov1 (fun ys ov2 => xs.length = n ∧ ys.length = m ∧ xs.all Zv.isD = true ∧ ys.all Zv.isD = true ∧
  sp (.r 0 :: (xs ++ ys)) [.ins C []] (fun y ov' => y = .d .non ∧ ∃ fs ds, ov' = [.ins C fs] ∧ pureK fs = some ds ∧ Q (.d (.obj C ds)) ov2) fun e ov' => (∃ o', ov' = [o'] ∧ o'.below 0 = true) ∧ E e ov2) E) E := rfl
@[simp] theorem s_dictN {prs : List (ZE × ZE)} : zDictN prs env ov Q E = zPrs prs env ov (fun ps ov1 => ∃ kvs, keysZ ps = some kvs ∧ kvs.length ≤ 15 ∧ Q (.r ov1.length) (ov1 ++ [.dic (mergeZ [] kvs)])) E := rfl
@[simp] theorem s_dictF {prs : List (ZE × ZE)} : zDictF prs env ov Q E = zPrs prs env ov (fun ps ov1 => ∃ kvs ds, keysZ ps = some kvs ∧ kvs.length ≤ 15 ∧ pureK (mergeZ [] kvs) = some ds ∧ Q (.d (.dic ds)) ov1) E := rfl
-- statements
@[simp] theorem s_next : zNext S env ov = S.nx env ov := rfl
@[simp] theorem s_seq : zSeq t u S env ov = t { S with nx := u S } env ov := rfl
@[simp] theorem s_set {i : Nat} : zSet i za S env ov = za env ov (fun x ov1 => S.nx (env.set i (some x)) ov1) fun x ov1 => S.xr x env ov1 := rfl
@[simp] theorem s_drop : zDrop za S env ov = za env ov (fun _ ov1 => S.nx env ov1) fun x ov1 => S.xr x env ov1 := rfl
@[simp] theorem s_if : zIf c t u S env ov = c env ov (fun b ov1 => if b = true then t S env ov1 else u S env ov1) fun x ov1 => S.xr x env ov1 := rfl
@[simp] theorem s_ret : zRet za S env ov = za env ov (fun x ov1 => S.rt x ov1) fun x ov1 => S.xr x env ov1 := rfl
@[simp] theorem s_retF : zRetF za S env ov = za env ov (fun x ov1 => ∃ d ov2, frz ov1 x = some (d, ov2) ∧ S.rt (.d d) ov2) fun x ov1 => S.xr x env ov1 := rfl
@[simp] theorem s_retN : zRetN S env ov = S.rt (.d .non) ov := rfl
@[simp] theorem s_never : zNever S env ov = False := rfl
@[simp] theorem s_par {i j : Nat} : zPar i j zr S env ov = zr env ov (fun xs ov1 => ∃ x y, xs = [x, y] ∧ S.nx ((env.set i (some x)).set j (some y)) ov1) fun x ov1 => S.xr x env ov1 := rfl
@[simp] theorem s_par3 {i j k : Nat} : zPar3 i j k zr S env ov = zr env ov (fun xs ov1 => ∃ x y z, xs = [x, y, z] ∧ S.nx (((env.set i (some x)).set j (some y)).set k (some z)) ov1) fun x ov1 => S.xr x env ov1 := rfl
@[simp] theorem s_asg {g : ZG} : zAsg za g S env ov = za env ov (fun x ov1 => g x env ov1 S.nx) fun x ov1 => S.xr x env ov1 := rfl
@[simp] theorem s_dput : zDPut za zb zc S env ov = zc env ov (fun v ov1 => za env ov1 (fun x ov2 => zb env ov2 (fun y ov3 => ∃ n kvs k, x = .r n ∧ ov3[n]? = some (.dic kvs) ∧ keyZ y = some k ∧ kvs.length < sizeLine ∧ S.nx env (ov3.set n (.dic (putZ kvs k v)))) fun x ov1 => S.xr x env ov1) fun x ov1 => S.xr x env ov1) fun x ov1 => S.xr x env ov1 := rfl
@[simp] theorem s_sfld {C f : Str} : zsFld C f za zb S env ov = zb env ov (fun v ov1 => za env ov1 (fun x ov2 => ∃ n fs, x = .r n ∧ ov2[n]? = some (.ins C fs) ∧ fs.length < 1000 ∧ S.nx env (ov2.set n (.ins C (putFz f v fs)))) fun x ov1 => S.xr x env ov1) fun x ov1 => S.xr x env ov1 := rfl
@[simp] theorem s_gvar {i : Nat} {x : Zv} {QG : Env → Ov → Prop} : gVar i x env ov QG = QG (env.set i (some x)) ov := rfl
@[simp] theorem s_gnil {xs : List Zv} {QG : Env → Ov → Prop} : gNil' xs env ov QG = (xs = [] ∧ QG env ov) := rfl
@[simp] theorem s_gcons {g : ZG} {gs : ZGs} {xs : List Zv} {QG : Env → Ov → Prop} : gCons' g gs xs env ov QG = ∃ x r, xs = x :: r ∧ g x env ov fun env1 ov1 => gs r env1 ov1 QG := rfl
@[simp] theorem s_gtup {gs : ZGs} {x : Zv} {QG : Env → Ov → Prop} : gTup' gs x env ov QG = ∃ ds, x = .d (.tup ds) ∧ gs (ds.map Zv.d) env ov QG := rfl
@[simp] theorem s_glst {gs : ZGs} {x : Zv} {QG : Env → Ov → Prop} : gLst' gs x env ov QG = ∃ ds, x = .d (.lst ds) ∧ gs (ds.map Zv.d) env ov QG := rfl
@[simp] theorem s_gdput {v : Zv} {QG : Env → Ov → Prop} : gDPut za zb v env ov QG = za env ov (fun x ov2 => zb env ov2 (fun y ov3 => ∃ n kvs k, x = .r n ∧ ov3[n]? = some (.dic kvs) ∧ keyZ y = some k ∧ kvs.length < sizeLine ∧ QG env (ov3.set n (.dic (putZ kvs k v)))) noX) noX := rfl
@[simp] theorem s_for {zi : ZI} {g : ZG} : zFor zi g t S env ov = zi env ov (fun xs ov1 => zLoop g t ov1.length xs S env ov1) fun x ov1 => S.xr x env ov1 := rfl
@[simp] theorem s_lc {zi : ZI} {g : ZG} {own : List Nat} : zLc zi g c za own env ov Q E = zi env ov (fun xs ov1 => xs.length ≤ sizeLine ∧ zLcGo g c za own xs [] env ov1 Q E) E := rfl
@[simp] theorem s_iSeq : ziSeq za env ov QA E = za env ov (fun x ov1 => ∃ ds, (x = .d (.lst ds) ∨ x = .d (.tup ds)) ∧ QA (ds.map Zv.d) ov1) E := rfl
@[simp] theorem s_iLst : ziLst za env ov QA E = za env ov (fun x ov1 => ∃ ds, x = .d (.lst ds) ∧ QA (ds.map Zv.d) ov1) E := rfl
@[simp] theorem s_iTup : ziTup za env ov QA E = za env ov (fun x ov1 => ∃ ds, x = .d (.tup ds) ∧ QA (ds.map Zv.d) ov1) E := rfl
@[simp] theorem s_iStr : ziStr za env ov QA E = za env ov (fun x ov1 => ∃ s, x = .d (.str s) ∧ QA (s.cps.toList.map fun c => .d (.str ⟨#[c]⟩)) ov1) E := rfl
@[simp] theorem s_iEnum : ziEnum zr env ov QA E = zr env ov (fun xs ov1 => ∃ ds, xs = [.d (.lst ds)] ∧ QA ((enumL 0 ds).map Zv.d) ov1) E := rfl
@[simp] theorem s_iRng1 : ziRng1 zr env ov QA E = zr env ov (fun xs ov1 => ∃ j, xs = [.d (.int j)] ∧ j ≤ 16777216 ∧ -16777216 ≤ j ∧ QA (rngL 0 j.toNat) ov1) E := rfl
@[simp] theorem s_iRng2 : ziRng2 zr env ov QA E = zr env ov (fun xs ov1 => ∃ i j, xs = [.d (.int i), .d (.int j)] ∧ (-16777216 ≤ i ∧ i ≤ 16777216) ∧ (-16777216 ≤ j ∧ j ≤ 16777216) ∧ QA (rngL i (j - i).toNat) ov1) E := rfl
@[simp] theorem s_prs0 {QP : List (Zv × Zv) → Ov → Prop} : zPrs [] env ov QP E = QP [] ov := rfl
@[simp] theorem s_prs1 {zk zv : ZE} {r : List (ZE × ZE)} {QP : List (Zv × Zv) → Ov → Prop} : zPrs ((zk, zv) :: r) env ov QP E = zk env ov (fun x ov1 => zv env ov1 (fun y ov2 => zPrs r env ov2 (fun ps ov3 => QP ((x, y) :: ps) ov3) E) E) E := rfl
-- data
@[simp] theorem s_vwd {x : D} : vw ov (.d x) = some x := rfl
@[simp] theorem s_isDd {x : D} : Zv.isD (.d x) = true := rfl
@[simp] theorem s_isDw : Zv.isD .dw = true := rfl
@[simp] theorem s_isDs {ns} : Zv.isD (.sc ns) = true := rfl
@[simp] theorem s_belD {x : D} {k : Nat} : Zv.below k (.d x) = true := rfl
@[simp] theorem s_pL0 : pureL [] = some [] := rfl
@[simp] theorem s_pL1 {x : D} {zs : List Zv} : pureL (.d x :: zs) = (pureL zs).map (x :: ·) := by
  rw [pureL]
  cases pureL zs <;> rfl
@[simp] theorem s_vL0 : vwL ov [] = some [] := rfl
@[simp] theorem s_vL1 {x : D} {zs : List Zv} : vwL ov (.d x :: zs) = (vwL ov zs).map (x :: ·) := by
  rw [vwL]
  simp only [vw]
  cases vwL ov zs <;> rfl
@[simp high] theorem s_kSl {s : String} : keyZ (.d (.str (Str.ofString s))) = some (kS s) := rfl
@[simp low] theorem s_kS {x : Str} : keyZ (.d (.str x)) = some (Sum.inr x) := rfl
@[simp] theorem s_kI {x : Int} : keyZ (.d (.int x)) = some (Sum.inl x) := rfl
@[simp] theorem s_start {zz : List Zv} {n : Nat} : startE n zz = zz.map some ++ List.replicate (n - zz.length) none := rfl
@[simp] theorem s_zendN {k : Nat} : (zend k Q E).nx env ov = ((ov.take k).all (OO.below k) = true ∧ Q (.d .non) (ov.take k)) := rfl
@[simp] theorem s_zendR {k : Nat} {z : Zv} : (zend k Q E).rt z ov = (z.below k = true ∧ (ov.take k).all (OO.below k) = true ∧ Q z (ov.take k)) := rfl
@[simp] theorem s_zendX {k : Nat} {x : Xc} : (zend k Q E).xr x env ov = ((ov.take k).all (OO.below k) = true ∧ E x (ov.take k)) := rfl
end
/-! ### data -/
/-- an int's text -/
def S (i : Int) : Str := toString i
section
variable {Q : D → Prop} {QB : Bool → Prop}
@[simp] theorem dEq_int {a b : Int} : dEq (.int a) (.int b) QB = QB (a == b) := by simp [dEq, shD, eqD]
@[simp] theorem dNe_int {a b : Int} : dNe (.int a) (.int b) QB = QB (!(a == b)) := by simp [dNe, shD, eqD]
@[simp] theorem dEq_str {a b : Str} : dEq (.str a) (.str b) QB = QB (decide (a = b)) := rfl
@[simp] theorem dNe_str {a b : Str} : dNe (.str a) (.str b) QB = QB (!decide (a = b)) := rfl
@[simp] theorem dEq_bl {a b : Bool} : dEq (.bl a) (.bl b) QB = QB (a == b) := by simp [dEq, shD, eqD]
@[simp] theorem dNe_bl {a b : Bool} : dNe (.bl a) (.bl b) QB = QB (!(a == b)) := by simp [dNe, shD, eqD]
@[simp] theorem dI_int {f : Int → Int → Bool} {a b : Int} : dI f (.int a) (.int b) QB = QB (f a b) := rfl
@[simp] theorem dI0_int {f : Int → Int → Int} {a b : Int} : dI0 f (.int a) (.int b) Q = Q (.int (f a b)) := rfl
@[simp] theorem dI2_int {C : Int → Int → Prop} {f : Int → Int → Int} {a b : Int} : dI2 C f (.int a) (.int b) Q = (C a b ∧ Q (.int (f a b))) := rfl
@[simp] theorem dAdd_int {a b : Int} : dAdd (.int a) (.int b) Q = Q (.int (a + b)) := rfl
@[simp] theorem dAdd_str {a b : Str} : dAdd (.str a) (.str b) Q = (a.length + b.length ≤ sizeLine ∧ Q (.str (a ++ b))) := rfl
@[simp] theorem dAdd_lst {a b : List D} : dAdd (.lst a) (.lst b) Q = (a.length + b.length ≤ sizeLine ∧ Q (.lst (a ++ b))) := rfl
@[simp] theorem dAdd_tup {a b : List D} : dAdd (.tup a) (.tup b) Q = (a.length + b.length ≤ sizeLine ∧ Q (.tup (a ++ b))) := rfl
@[simp] theorem dNeg_int {a : Int} : dNeg (.int a) Q = Q (.int (-a)) := rfl
@[simp] theorem dIx_lst {ds : List D} {i : Int} : dIx (.lst ds) (.int i) Q = ∃ d, atI ds i = some d ∧ Q d := rfl
@[simp] theorem dIx_tup {ds : List D} {i : Int} : dIx (.tup ds) (.int i) Q = ∃ d, atI ds i = some d ∧ Q d := rfl
@[simp] theorem dIx_str {z : Str} {i : Int} : dIx (.str z) (.int i) Q = ∃ c, z.length ≤ sizeLine ∧ atI z.cps.toList i = some c ∧ Q (.str ⟨#[c]⟩) := rfl
@[simp] theorem dLen_lst {ds : List D} : dLen [.lst ds] Q = Q (.int ds.length) := rfl
@[simp] theorem dLen_tup {ds : List D} : dLen [.tup ds] Q = Q (.int ds.length) := rfl
@[simp] theorem dLen_str {z : Str} : dLen [.str z] Q = (z.length ≤ sizeLine ∧ Q (.int z.length)) := rfl
@[simp] theorem dSl_lst {ds : List D} {lo hi : Option Int} : dSl (.lst ds) lo hi Q = Q (.lst (cutD ds lo hi)) := rfl
@[simp] theorem dSl_tup {ds : List D} {lo hi : Option Int} : dSl (.tup ds) lo hi Q = Q (.tup (cutD ds lo hi)) := rfl
@[simp] theorem dMin2_int {a b : Int} : dMin2 [.int a, .int b] Q = Q (.int (if b < a then b else a)) := rfl
@[simp] theorem dMax2_int {a b : Int} : dMax2 [.int a, .int b] Q = Q (.int (if b > a then b else a)) := rfl
@[simp] theorem dStr_int {a : Int} : dStr [.int a] Q = (a.natAbs.log2 < 1920 ∧ Q (.str (S a))) := rfl
@[simp] theorem dList_lst {ds : List D} : dList [.lst ds] Q = Q (.lst ds) := rfl
@[simp] theorem dList_tup {ds : List D} : dList [.tup ds] Q = Q (.lst ds) := rfl
@[simp] theorem dTuple_lst {ds : List D} : dTuple [.lst ds] Q = Q (.tup ds) := rfl
@[simp] theorem dTuple_tup {ds : List D} : dTuple [.tup ds] Q = Q (.tup ds) := rfl
@[simp] theorem dIs_eq {x y : D} : dIs x y QB = (y = .non ∧ QB (isN x)) := rfl
@[simp] theorem dIsNot_eq {x y : D} : dIsNot x y QB = (y = .non ∧ QB (!isN x)) := rfl
variable {α : Type} {ds : List α}
theorem atI_nat (k : Nat) : atI ds (k : Int) = ds[k]? := by
  unfold atI ixN
  rw [if_pos (by omega)]
  by_cases h : k < ds.length
  · rw [if_pos (by omega)]; simp
  · rw [if_neg (by omega), List.getElem?_eq_none (by omega)]; rfl
@[simp] theorem atI_0 : atI ds 0 = ds[0]? := atI_nat 0
@[simp] theorem atI_1 : atI ds 1 = ds[1]? := atI_nat 1
@[simp] theorem atI_2 : atI ds 2 = ds[2]? := atI_nat 2
@[simp] theorem atI_3 : atI ds 3 = ds[3]? := atI_nat 3
@[simp] theorem atI_4 : atI ds 4 = ds[4]? := atI_nat 4
@[simp] theorem atI_5 : atI ds 5 = ds[5]? := atI_nat 5
@[simp] theorem atI_6 : atI ds 6 = ds[6]? := atI_nat 6
@[simp] theorem atI_neg1 : atI ds (-1) = ds.getLast? := by
  unfold atI ixN
  rw [List.getLast?_eq_getElem?]
  by_cases h : 0 < ds.length
  · rw [if_neg (by omega), if_pos (by omega)]
    show ds[_]? = _
    congr 1; omega
  · rw [if_neg (by omega), if_neg (by omega)]
    have : ds = [] := List.eq_nil_of_length_eq_zero (by omega)
    subst this; rfl
theorem cut_from (k : Nat) : cutD ds (some (k : Int)) none = ds.drop k := by
  unfold cutD
  rw [HT.sIx_nat, HT.sIx_none]
  by_cases h : k ≤ ds.length
  · rw [Nat.min_eq_left h, List.take_of_length_le (by simp)]
  · rw [Nat.min_eq_right (by omega)]
    rw [List.drop_eq_nil_of_le (Nat.le_refl _), List.drop_eq_nil_of_le (by omega)]; simp
theorem cut_mid (j k : Nat) : cutD ds (some (j : Int)) (some (k : Int)) = (ds.drop j).take (k - j) := by
  unfold cutD
  rw [HT.sIx_nat, HT.sIx_nat]
  by_cases h : j ≤ ds.length
  · rw [Nat.min_eq_left h]
    by_cases h2 : k ≤ ds.length
    · rw [Nat.min_eq_left h2]
    · rw [Nat.min_eq_right (by omega), List.take_of_length_le (by simp), List.take_of_length_le (by simp; omega)]
  · rw [Nat.min_eq_right (by omega : ds.length ≤ j), List.drop_eq_nil_of_le (Nat.le_refl _), List.drop_eq_nil_of_le (by omega)]; simp
@[simp] theorem cut_1 : cutD ds (some 1) none = ds.drop 1 := cut_from 1
@[simp] theorem cut_5 : cutD ds (some 5) none = ds.drop 5 := cut_from 5
@[simp] theorem cut_13 : cutD ds (some 1) (some 3) = (ds.drop 1).take 2 := cut_mid 1 3
@[simp] theorem cut_35 : cutD ds (some 3) (some 5) = (ds.drop 3).take 2 := cut_mid 3 5
@[simp] theorem cut_l1 : cutD ds none (some (-1)) = ds.dropLast := by
  unfold cutD
  have e : HT.sIx ds.length ds.length (some (-1)) = ds.length - 1 := by
    show (if (-1 : Int) < 0 then (-1 + (ds.length : Int)).toNat else min (-1 : Int).toNat ds.length) = _
    rw [if_pos (by decide)]; omega
  rw [HT.sIx_none, List.drop_zero, List.dropLast_eq_take, e, Nat.sub_zero]
theorem boolsOf_map (f : α → Bool) : ∀ (ds : List α), boolsOf (ds.map fun x => D.bl (f x)) = some (ds.map f)
  | [] => rfl
  | d :: ds => by
    show boolsOf (D.bl (f d) :: ds.map fun x => D.bl (f x)) = _
    rw [boolsOf, boolsOf_map f ds]; rfl
theorem dAll_map (f : α → Bool) : dAll [.lst (ds.map fun x => D.bl (f x))] Q = Q (.bl (ds.all f)) := by
  unfold dAll
  apply propext
  constructor
  · rintro ⟨es, bs, e, h, q⟩
    cases e
    rw [boolsOf_map] at h
    cases h
    simpa [List.all_map] using q
  · intro q
    exact ⟨_, _, rfl, boolsOf_map f ds, by simpa [List.all_map] using q⟩
end
/-! ### comprehensions -/
/-- each item gives its value, nothing else changes -/
theorem lc_map {α : Type} {g : ZG} {elt : ZE} {own : List Nat} {env : Env} {ov : Ov} {Q : QE} {E : QX} (it : α → Zv) (f : α → D) : ∀ (xs : List α) (acc : List D),
    (∀ x ∈ xs, ∀ P : QE, P (.d (f x)) ov → g (it x) (wipeE env own) ov fun env1 ov1 => elt env1 ov1 P noX) → Q (.d (.lst (acc ++ xs.map f))) ov → zLcGo g ztYes elt own (xs.map it) acc env ov Q E
  | [], acc, _, q => by simpa [zLcGo] using q
  | x :: xs, acc, h, q => by
    show g (it x) (wipeE env own) ov fun env1 ov1 => elt env1 ov1 (fun y ov3 => ∃ d, y = .d d ∧ zLcGo g ztYes elt own (xs.map it) (acc ++ [d]) env ov3 Q E) noX
    exact h x (List.mem_cons_self ..) _ ⟨_, rfl, lc_map it f xs _ (fun y hy => h y (List.mem_cons_of_mem _ hy)) (by simpa using q)⟩
/-- each item gives some value that is good -/
theorem lc_all {α : Type} {g : ZG} {elt : ZE} {own : List Nat} {env : Env} {ov : Ov} {Q : QE} {E : QX} (it : α → Zv) (G : D → Prop) : ∀ (xs : List α) (acc : List D),
    (∀ x ∈ xs, ∀ P : QE, (∀ d, G d → P (.d d) ov) → g (it x) (wipeE env own) ov fun env1 ov1 => elt env1 ov1 P noX) → (∀ ds : List D, ds.length = xs.length → (∀ d ∈ ds, G d) → Q (.d (.lst (acc ++ ds))) ov) → zLcGo g ztYes elt own (xs.map it) acc env ov Q E
  | [], acc, _, q => by simpa [zLcGo] using q [] rfl (by simp)
  | x :: xs, acc, h, q => by
    show g (it x) (wipeE env own) ov fun env1 ov1 => elt env1 ov1 (fun y ov3 => ∃ d, y = .d d ∧ zLcGo g ztYes elt own (xs.map it) (acc ++ [d]) env ov3 Q E) noX
    refine h x (List.mem_cons_self ..) _ fun d hd => ⟨_, rfl, lc_all it G xs _ (fun y hy => h y (List.mem_cons_of_mem _ hy)) fun ds hl hg => ?_⟩
    have := q (d :: ds) (by simp [hl]) (fun e he => by
      rcases List.mem_cons.mp he with rfl | he
      · exact hd
      · exact hg e he)
    simpa using this
end Z
namespace K78
open PySem PySem.Spec PyProof.Rows L2 Z
def isI : D → Bool
  | .int _ => true
  | _ => false
def isIB : D → Bool
  | .int _ => true
  | .bl _ => true
  | _ => false
def isB : D → Bool
  | .bl _ => true
  | _ => false
def isS : D → Bool
  | .str _ => true
  | _ => false
def isT : D → Bool
  | .tup _ => true
  | _ => false
def isLT : D → Bool
  | .tup _ => true
  | .lst _ => true
  | _ => false
def isO : D → Bool
  | .obj _ _ => true
  | _ => false
theorem isi_int {x : D} (h : isO x = false) : isiD "int" x = some (isIB x) := by cases x <;> first | rfl | cases h
theorem isi_bool {x : D} (h : isO x = false) : isiD "bool" x = some (isB x) := by cases x <;> first | rfl | cases h
theorem isi_str {x : D} (h : isO x = false) : isiD "str" x = some (isS x) := by cases x <;> first | rfl | cases h
theorem isi_tup {x : D} (h : isO x = false) : isiD "tuple" x = some (isT x) := by cases x <;> first | rfl | cases h
theorem isi_lt {x : D} (h : isO x = false) : isiDs ["list", "tuple"] x = some (isLT x) := by cases x <;> first | rfl | cases h
def tab_SIZES : List (Str × Int) := [("over", 3), ("under", 3), ("aim", 4)]
def sp_is_integer : ZSp := fun zz ov Q _ => match zz, ov with
  | [.d x], [] => isO x = false ∧ Q (.d (.bl (isI x))) []
  | _, _ => False
def btw (x : D) (lo hi : Int) : Bool := match x with
  | .int i => decide (lo ≤ i) && decide (i ≤ hi)
  | _ => false
def sp_is_between : ZSp := fun zz ov Q _ => match zz, ov with
  | [.d x, .d (.int lo), .d (.int hi)], [] => isO x = false ∧ Q (.d (.bl (btw x lo hi))) []
  | _, _ => False
def isPart : D → Bool
  | .tup (.str w :: r) => decide ((tab_SIZES.lookup w).getD 0 = (r.length : Int) + 1) && (r.all fun x => btw x 1 60) && (match r with
    | [.int a, .int b, .int c] => decide (b ≤ a) && decide (a ≤ c)
    | [_, .int b] => decide (b ≤ 8)
    | _ => false)
  | _ => false
def sp_is_part : ZSp := fun zz ov Q _ => match zz, ov with
  | [.d x], [] => shD 40 x = true ∧ Q (.d (.bl (isPart x))) []
  | _, _ => False
def areParts : D → Bool
  | .tup ds => decide (ds.length ≤ 4) && ds.all isPart
  | .lst ds => decide (ds.length ≤ 4) && ds.all isPart
  | _ => false
def sp_are_parts : ZSp := fun zz ov Q _ => match zz, ov with
  | [.d x], [] => shD 41 x = true ∧ Q (.d (.bl (areParts x))) []
  | _, _ => False
def isLim (x : D) : Bool := isN x || btw x 1 8
def sp_is_limit : ZSp := fun zz ov Q _ => match zz, ov with
  | [.d x], [] => isO x = false ∧ Q (.d (.bl (isLim x))) []
  | _, _ => False
def sp_need_limits : ZSp := fun zz ov Q _ => match zz, ov with
  | [.d a, .d b, .d c, .d e], [] => isO a = false ∧ isO b = false ∧ isO c = false ∧ isO e = false ∧ (isLim a && isLim b && btw c 1 3 && btw e 1 3) = true ∧ Q (.d .non) []
  | _, _ => False
theorem ln_is_integer {zz ov Q E} (h : sp_is_integer zz ov Q E) : zz.length = 1 := by unfold sp_is_integer at h; split at h <;> first | rfl | cases h
theorem ln_is_between {zz ov Q E} (h : sp_is_between zz ov Q E) : zz.length = 3 := by unfold sp_is_between at h; split at h <;> first | rfl | cases h
theorem ln_is_part {zz ov Q E} (h : sp_is_part zz ov Q E) : zz.length = 1 := by unfold sp_is_part at h; split at h <;> first | rfl | cases h
theorem ln_are_parts {zz ov Q E} (h : sp_are_parts zz ov Q E) : zz.length = 1 := by unfold sp_are_parts at h; split at h <;> first | rfl | cases h
theorem ln_is_limit {zz ov Q E} (h : sp_is_limit zz ov Q E) : zz.length = 1 := by unfold sp_is_limit at h; split at h <;> first | rfl | cases h
theorem ln_need_limits {zz ov Q E} (h : sp_need_limits zz ov Q E) : zz.length = 4 := by unfold sp_need_limits at h; split at h <;> first | rfl | cases h
def zb_is_integer : ZS := zRet (zAnd (zIsi "int" (zVar 0)) (zNot (zIsi "bool" (zVar 0))))
def zb_is_between : ZS := zRet (zAnd (zCall sp_is_integer (zCons (zVar 0) (zNil))) (zChain dLe dLe (zVar 1) (zVar 0) (zVar 2)))
def zb_is_part : ZS := zSeq (zIf (ztOr (ztNot (ztB (zIsi "tuple" (zVar 0)))) (ztOr (ztB (zCmp dEq (zVar 0) (zTup (zNil)))) (ztNot (ztB (zIsi "str" (zOp dIx (zVar 0) (zC (.int 0)))))))) (zRet (zC (.bl false))) (zNext)) (zSeq (zIf (ztOr (ztB (zCmp dNe (zGetTab tab_SIZES (zOp dIx (zVar 0) (zC (.int 0))) (zC (.int 0))) (zLen (zVar 0)))) (ztNot (ztB (zBi dAll (zCons (zLc (ziTup (zSl (zVar 0) (zoSome (zC (.int 1))) (zoNone))) (gVar 1) (ztYes) (zCall sp_is_between (zCons (zVar 1) (zCons (zC (.int 1)) (zCons (zC (.int 60)) (zNil))))) [1]) (zNil)))))) (zRet (zC (.bl false))) (zNext)) (zSeq (zIf (ztB (zCmp dEq (zOp dIx (zVar 0) (zC (.int 0))) (zC (.str "aim")))) (zRet (zChain dLe dLe (zOp dIx (zVar 0) (zC (.int 2))) (zOp dIx (zVar 0) (zC (.int 1))) (zOp dIx (zVar 0) (zC (.int 3))))) (zNext)) (zRet (zCmp dLe (zOp dIx (zVar 0) (zC (.int 2))) (zC (.int 8))))))
def zb_are_parts : ZS := zRet (zAnd (zIsiT ["list", "tuple"] (zVar 0)) (zAnd (zCmp dLe (zLen (zVar 0)) (zC (.int 4))) (zBi dAll (zCons (zLc (ziSeq (zVar 0)) (gVar 1) (ztYes) (zCall sp_is_part (zCons (zVar 1) (zNil))) [1]) (zNil)))))
def zb_is_limit : ZS := zRet (zOr (zCmp dIs (zVar 0) (zC .non)) (zCall sp_is_between (zCons (zVar 0) (zCons (zC (.int 1)) (zCons (zC (.int 8)) (zNil))))))
def zb_need_limits : ZS := zSeq (zIf (ztNot (ztB (zCall sp_is_limit (zCons (zVar 0) (zNil))))) (zNever) (zNext)) (zSeq (zIf (ztNot (ztB (zCall sp_is_limit (zCons (zVar 1) (zNil))))) (zNever) (zNext)) (zSeq (zIf (ztNot (ztB (zCall sp_is_between (zCons (zVar 2) (zCons (zC (.int 1)) (zCons (zC (.int 3)) (zNil))))))) (zNever) (zNext)) (zIf (ztNot (ztB (zCall sp_is_between (zCons (zVar 3) (zCons (zC (.int 1)) (zCons (zC (.int 3)) (zNil))))))) (zNever) (zNext))))
theorem rd_is_integer {zz ov Q E} (h : sp_is_integer zz ov Q E) : zb_is_integer (zend ov.length Q E) (startE 1 zz) ov := by
  unfold sp_is_integer at h; split at h
  · rename_i x
    obtain ⟨h1, h2⟩ := h
    simp [zb_is_integer, isi_int h1, isi_bool h1]
    cases x <;> simp_all [isIB, isB, isI]
  · cases h
theorem rd_is_between {zz ov Q E} (h : sp_is_between zz ov Q E) : zb_is_between (zend ov.length Q E) (startE 3 zz) ov := by
  unfold sp_is_between at h; split at h
  · rename_i x lo hi
    obtain ⟨h1, h2⟩ := h
    simp [zb_is_between, sp_is_integer, h1]
    cases x <;> simp_all [isI, btw, dI]
    rename_i i
    by_cases e : lo ≤ i
    · simp_all
    · simp [e] at h2 ⊢; exact h2
  · cases h
theorem rd_is_limit {zz ov Q E} (h : sp_is_limit zz ov Q E) : zb_is_limit (zend ov.length Q E) (startE 1 zz) ov := by
  unfold sp_is_limit at h; split at h
  · rename_i x
    obtain ⟨h1, h2⟩ := h
    simp [zb_is_limit, sp_is_between, h1, dIs]
    cases x <;> simp_all [isN, isLim, btw]
  · cases h
theorem rd_need_limits {zz ov Q E} (h : sp_need_limits zz ov Q E) : zb_need_limits (zend ov.length Q E) (startE 4 zz) ov := by
  unfold sp_need_limits at h; split at h
  · obtain ⟨h1, h2, h3, h4, h5, h6⟩ := h
    simp only [Bool.and_eq_true] at h5
    simp [zb_need_limits, sp_is_between, sp_is_limit, *]
  · cases h
theorem elim_int (o : Option Int) : o.elim (D.int 0) D.int = .int (o.getD 0) := by cases o <;> rfl
theorem sizes_cases (w : Str) : (w = "over" ∧ (tab_SIZES.lookup w).getD 0 = 3) ∨ (w = "under" ∧ (tab_SIZES.lookup w).getD 0 = 3) ∨ (w = "aim" ∧ (tab_SIZES.lookup w).getD 0 = 4) ∨ (tab_SIZES.lookup w).getD 0 = 0 := by
  unfold tab_SIZES
  rw [List.lookup_cons, List.lookup_cons, List.lookup_cons]
  by_cases h1 : w = "over"
  · exact .inl ⟨h1, by rw [h1]; rfl⟩
  · by_cases h2 : w = "under"
    · exact .inr (.inl ⟨h2, by rw [h2]; rfl⟩)
    · by_cases h3 : w = "aim"
      · exact .inr (.inr (.inl ⟨h3, by rw [h3]; rfl⟩))
      · have e1 : (w == ("over" : Str)) = false := by simpa using h1
        have e2 : (w == ("under" : Str)) = false := by simpa using h2
        have e3 : (w == ("aim" : Str)) = false := by simpa using h3
        rw [e1, e2, e3]
        exact .inr (.inr (.inr rfl))
theorem btw_int {x : D} {lo hi : Int} (h : btw x lo hi = true) : ∃ i, x = .int i ∧ lo ≤ i ∧ i ≤ hi := by
  cases x with
  | int i => simp [btw] at h; exact ⟨i, rfl, h.1, h.2⟩
  | _ => cases h
theorem shDs_mem : ∀ {n : Nat} {ds : List D}, shDs n ds = true → ∀ d ∈ ds, shD n d = true
  | n, [], _, d, h => by cases h
  | n, x :: xs, hs, d, h => by
    rw [shDs, Bool.and_eq_true] at hs
    rcases List.mem_cons.mp h with rfl | h
    · exact hs.1
    · exact shDs_mem hs.2 d h
theorem noO_of {n : Nat} {d : D} (h : shD n d = true) : isO d = false := by cases d <;> first | rfl | (simp [shD] at h)
theorem strs_ne : ("over" : Str) ≠ "aim" ∧ ("under" : Str) ≠ "aim" := by decide +kernel
theorem rd_is_part {zz ov Q E} (h : sp_is_part zz ov Q E) : zb_is_part (zend ov.length Q E) (startE 2 zz) ov := by
  unfold sp_is_part at h; split at h
  · rename_i x
    obtain ⟨h1, h2⟩ := h
    simp [zb_is_part, isi_tup (noO_of h1)]
    cases x with
    | tup ds =>
      refine .inr ⟨rfl, h1, rfl, ?_⟩
      cases ds with
      | nil => exact .inr ⟨rfl, h2⟩
      | cons d r =>
        refine .inl ⟨rfl, ?_⟩
        have h3 : shD 39 d = true ∧ shDs 39 r = true := by simpa [shD, shDs] using h1
        simp [isi_str (noO_of h3.1)]
        cases d with
        | str w =>
          refine .inr ⟨rfl, w, rfl, ?_⟩
          rw [elim_int, dNe_int]
          by_cases hn : (tab_SIZES.lookup w).getD 0 = (r.length : Int) + 1
          · refine .inl ⟨by simp [hn], ?_⟩
            have hl : r.length = 2 ∧ w ≠ "aim" ∨ r.length = 3 ∧ w = "aim" := by
              rcases sizes_cases w with ⟨e, n⟩ | ⟨e, n⟩ | ⟨e, n⟩ | n
              · exact .inl ⟨by omega, by rw [e]; exact strs_ne.1⟩
              · exact .inl ⟨by omega, by rw [e]; exact strs_ne.2⟩
              · exact .inr ⟨by omega, e⟩
              · omega
            refine ⟨by have : 3 ≤ sizeLine := by decide
                       omega, ?_⟩
            refine lc_map Zv.d (fun x => D.bl (btw x 1 60)) r [] (fun x hx P hP => ?_) ?_
            · simp [wipeE, sp_is_between, noO_of (shDs_mem h3.2 x hx), hP]
            · simp only [List.nil_append, s_vL1, s_vL0, Option.map_some, Option.some.injEq, exists_eq_left', dAll_map]
              by_cases ha : (r.all fun x => btw x 1 60) = true
              · refine .inr ⟨by rw [ha], ?_⟩
                have hi := List.all_eq_true.mp ha
                rcases hl with ⟨l2, nw⟩ | ⟨l3, ew⟩
                · match r, l2 with
                  | [a, b], _ =>
                    obtain ⟨i, rfl, _⟩ := btw_int (hi a (by simp))
                    obtain ⟨j, rfl, _⟩ := btw_int (hi b (by simp))
                    rw [dEq_str]
                    refine .inl ⟨by simp [nw], _, rfl, ?_⟩
                    simpa [isPart, hn, ha] using h2
                · match r, l3 with
                  | [a, b, c], _ =>
                    obtain ⟨i, rfl, _⟩ := btw_int (hi a (by simp))
                    obtain ⟨j, rfl, _⟩ := btw_int (hi b (by simp))
                    obtain ⟨k, rfl, _⟩ := btw_int (hi c (by simp))
                    rw [dEq_str]
                    refine .inr ⟨by simp [ew], _, rfl, _, rfl, ?_⟩
                    have h2' : Q (.d (.bl (decide (j ≤ i) && decide (i ≤ k)))) [] := by simpa [isPart, hn, ha] using h2
                    simp
                    by_cases e : j ≤ i
                    · simpa [e] using h2'
                    · simpa [e] using h2'
              · refine .inl ⟨by simp at ha ⊢; simpa using ha, ?_⟩
                have : isPart (.tup (.str w :: r)) = false := by simp only [isPart, Bool.eq_false_iff.mpr ha, Bool.and_false, Bool.false_and]
                rw [this] at h2; exact h2
          · refine .inr ⟨by simpa using hn, ?_⟩
            have : isPart (.tup (.str w :: r)) = false := by simp only [isPart, decide_eq_false hn, Bool.false_and]
            rw [this] at h2; exact h2
        | _ => exact .inl ⟨rfl, h2⟩
    | _ => exact .inl ⟨rfl, h2⟩
  · cases h
theorem parts_lc {Q : QE} {E : QX} {env : Z.Env} {ds : List D} (hs : shDs 40 ds = true) (he : env.length = 2) (hl : ds.length ≤ 4) (q : Q (.d (.bl (ds.all isPart))) []) :
    zLcGo (gVar 1) ztYes (zCall sp_is_part (zCons (zVar 1) zNil)) [1] (ds.map Zv.d) [] env [] (fun x ov1 => ∃ ds, vwL ov1 [x] = some ds ∧ dAll ds fun r => Q (.d r) []) E := by
  refine lc_map Zv.d (fun x => D.bl (isPart x)) ds [] (fun x hx P hP => ?_) ?_
  · match env, he with
    | [a, b], _ => exact by simp [wipeE, sp_is_part, shDs_mem hs x hx, hP]
  · simp only [List.nil_append, s_vL1, s_vL0, Option.map_some, Option.some.injEq, exists_eq_left', dAll_map]
    exact q
theorem rd_are_parts {zz ov Q E} (h : sp_are_parts zz ov Q E) : zb_are_parts (zend ov.length Q E) (startE 2 zz) ov := by
  unfold sp_are_parts at h; split at h
  · rename_i x
    obtain ⟨h1, h2⟩ := h
    simp [zb_are_parts, isi_lt (noO_of h1)]
    have sz : 4 ≤ sizeLine := by decide
    have fin : ∀ ds : List D, (x = .lst ds ∨ x = .tup ds) → isLT x = true ∧ dLen [x] fun r => dLe r (D.int 4) fun r => r = false ∧ Q (Zv.d (D.bl false)) [] ∨ r = true ∧ ∃ ds, (x = D.lst ds ∨ x = D.tup ds) ∧ ds.length ≤ sizeLine ∧
        zLcGo (gVar 1) ztYes (zCall sp_is_part (zCons (zVar 1) zNil)) [1] (List.map Zv.d ds) [] [some (Zv.d x), none] [] (fun x ov1 => ∃ ds, vwL ov1 [x] = some ds ∧ dAll ds fun r => Q (Zv.d r) []) fun x ov1 => E x [] := by
      intro ds e
      have hs : shDs 40 ds = true := by rcases e with rfl | rfl <;> simpa [shD] using h1
      have ht : isLT x = true := by rcases e with rfl | rfl <;> rfl
      have ha : areParts x = (decide (ds.length ≤ 4) && ds.all isPart) := by rcases e with rfl | rfl <;> rfl
      rw [ha] at h2
      refine ⟨ht, ?_⟩
      have key : dLe (.int ds.length) (.int 4) fun r => r = false ∧ Q (Zv.d (D.bl false)) [] ∨ r = true ∧ ∃ ds, (x = D.lst ds ∨ x = D.tup ds) ∧ ds.length ≤ sizeLine ∧
        zLcGo (gVar 1) ztYes (zCall sp_is_part (zCons (zVar 1) zNil)) [1] (List.map Zv.d ds) [] [some (Zv.d x), none] [] (fun x ov1 => ∃ ds, vwL ov1 [x] = some ds ∧ dAll ds fun r => Q (Zv.d r) []) fun x ov1 => E x [] := by
        by_cases hl : ds.length ≤ 4
        · rw [decide_eq_true hl, Bool.true_and] at h2
          exact Or.inr ⟨decide_eq_true (by omega), ds, e, by omega, parts_lc hs rfl hl h2⟩
        · rw [decide_eq_false hl, Bool.false_and] at h2
          exact Or.inl ⟨decide_eq_false (by omega), h2⟩
      rcases e with rfl | rfl
      · rw [dLen_lst]; exact key
      · rw [dLen_tup]; exact key
    cases x with
    | tup ds => exact .inr (fin ds (.inr rfl))
    | lst ds => exact .inr (fin ds (.inl rfl))
    | _ => exact .inl ⟨rfl, h2⟩
  · cases h
end K78
/-! texts of rules, in plain Lean -/
namespace K78
open PySem PySem.Spec PyProof.Rows L2 Z
/-! ### numbers as texts -/
def isNum (w : Str) (n : Int) : Bool := (decide (1 ≤ (w.length : Int)) && decide ((w.length : Int) ≤ n)) && (w.cps.toList.all fun c => decide (c ∈ ("0123456789" : Str).cps.toList)) && (decide (w = "0") || !decide ((⟨#[w.cps.toList.headD 0]⟩ : Str) = "0"))
theorem num_fin : ∀ n : Fin 61, isNum (S (n.1 : Int)) 3 = true ∧ (S (n.1 : Int)).length ≤ 2 ∧ 32 ∉ (S (n.1 : Int)).cps.toList ∧ 10 ∉ (S (n.1 : Int)).cps.toList ∧ S (n.1 : Int) ≠ "none" ∧ intText? (S (n.1 : Int)) = some (n.1 : Int) := by decide +kernel
theorem num_ok {i : Int} (h : 0 ≤ i) (h2 : i ≤ 60) : isNum (S i) 3 = true ∧ (S i).length ≤ 2 ∧ 32 ∉ (S i).cps.toList ∧ 10 ∉ (S i).cps.toList ∧ S i ≠ "none" ∧ intText? (S i) = some i := by
  have e : i = ((i.toNat : Nat) : Int) := by omega
  have := num_fin ⟨i.toNat, by omega⟩
  rw [e]; exact this
theorem log_ok {i : Int} (h : 0 ≤ i) (h2 : i ≤ 60) : i.natAbs.log2 < 1920 := by
  have : i.natAbs.log2 ≤ i.natAbs := Nat.log2_le_self _
  omega
/-! ### joined texts -/
def JS (ws : List Str) : Str := Txt.join " " ws
def tx (rows : List (List Str)) : Str := Txt.join "" (rows.map fun r => JS r ++ "\n")
theorem joinL_nil : ∀ ps : List (List Nat), TL.joinL [] ps = ps.flatten
  | [] => rfl
  | [p] => by simp [TL.joinL]
  | p :: q :: r => by
    have := joinL_nil (q :: r)
    simp only [TL.joinL, this, List.nil_append, List.flatten_cons]
theorem joinL_nl : ∀ ps : List (List Nat), (ps.map fun p => p ++ [10]).flatten = TL.joinL [10] (ps ++ [[]])
  | [] => rfl
  | [p] => by simp [TL.joinL]
  | p :: q :: r => by
    have := joinL_nl (q :: r)
    simp only [List.map_cons, List.flatten_cons, List.cons_append] at this ⊢
    simp only [TL.joinL]
    rw [← this]; simp
theorem joinL_len (S : List Nat) : ∀ ps : List (List Nat), (TL.joinL S ps).length ≤ (ps.map List.length).sum + ps.length * S.length
  | [] => by simp [TL.joinL]
  | [p] => by simp [TL.joinL]
  | p :: q :: r => by
    have := joinL_len S (q :: r)
    simp only [TL.joinL, List.length_append, List.map_cons, List.sum_cons, List.length_cons] at this ⊢
    have e : (r.length + 1 + 1) * S.length = (r.length + 1) * S.length + S.length := by rw [Nat.add_mul (r.length + 1)]; simp
    omega
theorem nl_tl : TL.tl ("\n" : Str) = [10] := by decide +kernel
theorem sp_tl : TL.tl (" " : Str) = [32] := by decide +kernel
theorem e_tl : TL.tl ("" : Str) = [] := by decide +kernel
theorem tx_nl (rows : List (List Str)) : tx rows = Txt.join "\n" (rows.map JS ++ [("" : Str)]) := by
  apply TL.ext_tl
  unfold tx
  rw [TL.join_eq, TL.join_eq, TL.tl_join, TL.tl_join, nl_tl, e_tl, joinL_nil]
  rw [List.map_append, List.map_map, List.map_map]
  have := joinL_nl (rows.map (TL.tl ∘ JS))
  rw [List.map_map] at this
  rw [show (List.map TL.tl [("" : Str)]) = [[]] from by rw [List.map_cons, e_tl]; rfl, ← this]
  congr 1
  apply List.map_congr_left
  intro r _
  show TL.tl (JS r ++ "\n") = TL.tl (JS r) ++ [10]
  rw [TL.tl_append, nl_tl]
/-- a row: its words without blanks and newlines, few, short -/
structure GoodRow (ws : List Str) : Prop where
  ne : ws ≠ []
  few : ws.length ≤ 7
  short : ∀ w ∈ ws, w.length ≤ 5
  sp : ∀ w ∈ ws, 32 ∉ w.cps.toList
  nl : ∀ w ∈ ws, 10 ∉ w.cps.toList
theorem len_tl (x : Str) : (TL.tl x).length = x.length := by
  show x.cps.toList.length = x.cps.size
  simp
theorem sum_le {α : Type} (f : α → Nat) (k : Nat) : ∀ (l : List α), (∀ x ∈ l, f x ≤ k) → (l.map f).sum ≤ l.length * k
  | [], _ => by simp
  | x :: l, h => by
    have := sum_le f k l fun y hy => h y (List.mem_cons_of_mem _ hy)
    have := h x (List.mem_cons_self ..)
    simp only [List.map_cons, List.sum_cons, List.length_cons, Nat.add_mul]; omega
theorem JS_len {ws : List Str} (h : GoodRow ws) : (JS ws).length ≤ 42 := by
  rw [← len_tl]; unfold JS
  rw [TL.join_eq, TL.tl_join, sp_tl]
  have h1 := joinL_len [32] (ws.map TL.tl)
  have h2 := sum_le List.length 5 (ws.map TL.tl) fun x hx => by
    obtain ⟨w, hw, rfl⟩ := List.mem_map.mp hx
    rw [len_tl]; exact h.short w hw
  have := h.few
  simp only [List.length_map, List.length_singleton] at h1 h2
  omega
theorem joinL_mem {c : Nat} {S : List Nat} : ∀ {ps : List (List Nat)}, c ∈ TL.joinL S ps → c ∈ S ∨ ∃ p ∈ ps, c ∈ p
  | [], h => by cases h
  | [p], h => .inr ⟨p, by simp, h⟩
  | p :: q :: r, h => by
    simp only [TL.joinL, List.mem_append] at h
    rcases h with h | h | h
    · exact .inr ⟨p, by simp, h⟩
    · exact .inl h
    · rcases joinL_mem h with h | ⟨x, h1, h2⟩
      · exact .inl h
      · exact .inr ⟨x, by simp at h1 ⊢; exact .inr h1, h2⟩
theorem JS_nl {ws : List Str} (h : GoodRow ws) : 10 ∉ TL.tl (JS ws) := by
  unfold JS
  rw [TL.join_eq, TL.tl_join, sp_tl]
  intro hm
  rcases joinL_mem hm with h1 | ⟨p, h1, h2⟩
  · simp at h1
  · obtain ⟨w, hw, rfl⟩ := List.mem_map.mp h1
    exact h.nl w hw h2
theorem k256_nl : ("\n" : Str).cps.all (· < 256) = true := by decide +kernel
theorem k256_sp : (" " : Str).cps.all (· < 256) = true := by decide +kernel
theorem split_tx {rows : List (List Str)} (h : ∀ r ∈ rows, GoodRow r) : Txt.split (tx rows) "\n" = rows.map JS ++ [("" : Str)] := by
  rw [tx_nl]
  refine TL.split_join nl_tl k256_nl (by simp) fun p hp => ?_
  rcases List.mem_append.mp hp with hp | hp
  · obtain ⟨r, hr, rfl⟩ := List.mem_map.mp hp
    exact JS_nl (h r hr)
  · rw [List.mem_singleton] at hp
    rw [hp, e_tl]; simp
theorem split_JS {ws : List Str} (h : GoodRow ws) : Txt.split (JS ws) " " = ws := TL.split_join sp_tl k256_sp h.ne fun p hp => h.sp p hp
theorem tx_len {rows : List (List Str)} (h : ∀ r ∈ rows, GoodRow r) (hl : rows.length ≤ 5) : (tx rows).length ≤ 215 := by
  rw [← len_tl]; unfold tx
  rw [TL.join_eq, TL.tl_join, e_tl]
  have h1 := joinL_len [] ((rows.map fun r => JS r ++ "\n").map TL.tl)
  have h2 := sum_le List.length 43 ((rows.map fun r => JS r ++ "\n").map TL.tl) fun x hx => by
    obtain ⟨w, hw, rfl⟩ := List.mem_map.mp hx
    obtain ⟨r, hr, rfl⟩ := List.mem_map.mp hw
    rw [TL.tl_append, nl_tl, List.length_append, len_tl]
    have := JS_len (h r hr)
    simp; omega
  simp only [List.length_map, List.length_nil] at h1 h2
  omega
end K78
/-! rules and their texts, in plain Lean -/
namespace K78
open PySem PySem.Spec PyProof.Rows L2 Z
structure Pt where
  w : Str
  ns : List Int
deriving DecidableEq
structure Ru where
  parts : List Pt
  least : Int
  most : Int
  rise : Option Int
  fall : Option Int
  up : Int
  down : Int
deriving DecidableEq
def Pt.d (p : Pt) : D := .tup (.str p.w :: p.ns.map D.int)
def limD : Option Int → D
  | none => .non
  | some i => .int i
def Ru.fs (r : Ru) : List (Str × D) := [("r_parts", .tup (r.parts.map Pt.d)), ("r_bounds", .tup [.int r.least, .int r.most]), ("r_limits", .tup [limD r.rise, limD r.fall, .int r.up, .int r.down])]
def Ru.d (r : Ru) : D := .obj "Rule" r.fs
def Pt.ok (p : Pt) : Bool := isPart p.d
def Ru.ok (r : Ru) : Bool := decide (r.parts.length ≤ 4) && r.parts.all Pt.ok && btw (.int r.least) 1 8 && btw (.int r.most) r.least 8 && isLim (limD r.rise) && isLim (limD r.fall) && btw (.int r.up) 1 3 && btw (.int r.down) 1 3
structure RuOk (r : Ru) : Prop where
  few : r.parts.length ≤ 4
  parts : ∀ p ∈ r.parts, p.ok = true
  l1 : 1 ≤ r.least
  l2 : r.least ≤ 8
  m1 : r.least ≤ r.most
  m2 : r.most ≤ 8
  rise : ∀ i, r.rise = some i → 1 ≤ i ∧ i ≤ 8
  fall : ∀ i, r.fall = some i → 1 ≤ i ∧ i ≤ 8
  u1 : 1 ≤ r.up
  u2 : r.up ≤ 3
  d1 : 1 ≤ r.down
  d2 : r.down ≤ 3
theorem isLim_iff {o : Option Int} : isLim (limD o) = true ↔ ∀ i, o = some i → 1 ≤ i ∧ i ≤ 8 := by
  cases o with
  | none => simp [limD, isLim, isN]
  | some i => simp [limD, isLim, isN, btw]
theorem Ru.ok_iff {r : Ru} : r.ok = true ↔ RuOk r := by
  unfold Ru.ok
  simp only [Bool.and_eq_true, decide_eq_true_eq, List.all_eq_true, isLim_iff, btw]
  constructor
  · rintro ⟨⟨⟨⟨⟨⟨⟨a, b⟩, c1, c2⟩, d1, d2⟩, e⟩, f⟩, g1, g2⟩, h1, h2⟩
    exact ⟨a, b, c1, c2, d1, d2, e, f, g1, g2, h1, h2⟩
  · rintro ⟨a, b, c1, c2, d1, d2, e, f, g1, g2, h1, h2⟩
    exact ⟨⟨⟨⟨⟨⟨⟨a, b⟩, c1, c2⟩, d1, d2⟩, e⟩, f⟩, g1, g2⟩, h1, h2⟩
theorem btwI {i lo hi : Int} (h : btw (.int i) lo hi = true) : lo ≤ i ∧ i ≤ hi := by simpa [btw] using h
theorem Pt.ok_cases {p : Pt} (h : p.ok = true) : ((p.w = "over" ∨ p.w = "under") ∧ ∃ a b, p.ns = [a, b] ∧ (1 ≤ a ∧ a ≤ 60) ∧ 1 ≤ b ∧ b ≤ 8) ∨
    (p.w = "aim" ∧ ∃ a b c, p.ns = [a, b, c] ∧ (1 ≤ a ∧ a ≤ 60) ∧ (1 ≤ b ∧ b ≤ 60) ∧ (1 ≤ c ∧ c ≤ 60) ∧ b ≤ a ∧ a ≤ c) := by
  obtain ⟨w, ns⟩ := p
  simp only [Pt.ok, Pt.d, isPart, Bool.and_eq_true, decide_eq_true_eq, List.length_map] at h
  obtain ⟨⟨h1, h2⟩, h3⟩ := h
  rw [List.all_map, List.all_eq_true] at h2
  have hb : ∀ i ∈ ns, 1 ≤ i ∧ i ≤ 60 := fun i hi => btwI (h2 i hi)
  rcases sizes_cases w with ⟨e, n⟩ | ⟨e, n⟩ | ⟨e, n⟩ | n
  · match ns, (show ns.length = 2 by omega) with
    | [a, b], _ =>
      have h3 : b ≤ 8 := by simpa using h3
      exact .inl ⟨.inl e, a, b, rfl, hb a (by simp), (hb b (by simp)).1, h3⟩
  · match ns, (show ns.length = 2 by omega) with
    | [a, b], _ =>
      have h3 : b ≤ 8 := by simpa using h3
      exact .inl ⟨.inr e, a, b, rfl, hb a (by simp), (hb b (by simp)).1, h3⟩
  · match ns, (show ns.length = 3 by omega) with
    | [a, b, c], _ =>
      have h3 : b ≤ a ∧ a ≤ c := by simpa using h3
      exact .inr ⟨e, a, b, c, rfl, hb a (by simp), hb b (by simp), hb c (by simp), h3⟩
  · omega
theorem lk_over : tab_SIZES.lookup ("over" : Str) = some 3 := rfl
theorem lk_under : tab_SIZES.lookup ("under" : Str) = some 3 := rfl
theorem lk_aim : tab_SIZES.lookup ("aim" : Str) = some 4 := rfl
theorem ok_over {w : Str} {a b : Int} (hw : w = "over" ∨ w = "under") (h1 : 1 ≤ a ∧ a ≤ 60) (h2 : 1 ≤ b ∧ b ≤ 8) : (Pt.mk w [a, b]).ok = true := by
  have : (tab_SIZES.lookup w).getD 0 = 3 := by rcases hw with rfl | rfl <;> rfl
  simp [Pt.ok, Pt.d, isPart, this, btw]
  omega
theorem ok_aim {a b c : Int} (h1 : 1 ≤ a ∧ a ≤ 60) (h2 : 1 ≤ b ∧ b ≤ a) (h3 : a ≤ c ∧ c ≤ 60) : (Pt.mk "aim" [a, b, c]).ok = true := by
  have : (tab_SIZES.lookup ("aim" : Str)).getD 0 = 4 := rfl
  simp [Pt.ok, Pt.d, isPart, this, btw]
  omega
/-! ### rows -/
def lw : Option Int → Str
  | none => "none"
  | some i => S i
def Pt.words (p : Pt) : List Str := p.w :: p.ns.map S
def Ru.first (r : Ru) : List Str := ["rule", S r.least, S r.most, lw r.rise, lw r.fall, S r.up, S r.down]
def Ru.rows (r : Ru) : List (List Str) := r.first :: r.parts.map Pt.words
def Ru.text (r : Ru) : Str := tx r.rows
theorem kw_ok : ∀ w ∈ [("over" : Str), "under", "aim", "rule", "none"], w.length ≤ 5 ∧ 32 ∉ w.cps.toList ∧ 10 ∉ w.cps.toList ∧ PyData.strOk w = true := by decide +kernel
theorem good_num {i : Int} (h : 0 ≤ i ∧ i ≤ 60) : (S i).length ≤ 5 ∧ 32 ∉ (S i).cps.toList ∧ 10 ∉ (S i).cps.toList := by
  obtain ⟨_, a, b, c, _⟩ := num_ok h.1 h.2
  exact ⟨by omega, b, c⟩
theorem good_row {ws : List Str} (ne : ws ≠ []) (few : ws.length ≤ 7) (h : ∀ w ∈ ws, w.length ≤ 5 ∧ 32 ∉ w.cps.toList ∧ 10 ∉ w.cps.toList) : GoodRow ws := ⟨ne, few, fun w hw => (h w hw).1, fun w hw => (h w hw).2.1, fun w hw => (h w hw).2.2⟩
theorem kw1 {w : Str} (h : w ∈ [("over" : Str), "under", "aim", "rule", "none"]) : w.length ≤ 5 ∧ 32 ∉ w.cps.toList ∧ 10 ∉ w.cps.toList := let ⟨a, b, c, _⟩ := kw_ok w h; ⟨a, b, c⟩
theorem Pt.good {p : Pt} (h : p.ok = true) : GoodRow p.words := by
  rcases p.ok_cases h with ⟨hw, a, b, e, h1, h2⟩ | ⟨hw, a, b, c, e, h1, h2, h3, _⟩
  · refine good_row (by simp [Pt.words]) (by simp [Pt.words, e]) fun w hm => ?_
    simp only [Pt.words, e, List.map_cons, List.map_nil, List.mem_cons, List.not_mem_nil, or_false] at hm
    rcases hm with rfl | rfl | rfl
    · rcases hw with e | e <;> rw [e] <;> exact kw1 (by simp)
    · exact good_num (by omega)
    · exact good_num (by omega)
  · refine good_row (by simp [Pt.words]) (by simp [Pt.words, e]) fun w hm => ?_
    simp only [Pt.words, e, List.map_cons, List.map_nil, List.mem_cons, List.not_mem_nil, or_false] at hm
    rcases hm with rfl | rfl | rfl | rfl
    · rw [hw]; exact kw1 (by simp)
    · exact good_num (by omega)
    · exact good_num (by omega)
    · exact good_num (by omega)
theorem good_lw {o : Option Int} (h : ∀ i, o = some i → 1 ≤ i ∧ i ≤ 8) : (lw o).length ≤ 5 ∧ 32 ∉ (lw o).cps.toList ∧ 10 ∉ (lw o).cps.toList := by
  cases o with
  | none => exact kw1 (by simp [lw])
  | some i => have := h i rfl; exact good_num (by omega)
theorem RuOk.good {r : Ru} (h : RuOk r) : ∀ ws ∈ r.rows, GoodRow ws := by
  intro ws hw
  rcases List.mem_cons.mp hw with rfl | hw
  · refine good_row (by simp [Ru.first]) (by simp [Ru.first]) fun w hm => ?_
    have := h.l1; have := h.l2; have := h.m1; have := h.m2; have := h.u1; have := h.u2; have := h.d1; have := h.d2
    simp only [Ru.first, List.mem_cons, List.not_mem_nil, or_false] at hm
    rcases hm with rfl | rfl | rfl | rfl | rfl | rfl | rfl
    · exact kw1 (by simp)
    · exact good_num (by omega)
    · exact good_num (by omega)
    · exact good_lw h.rise
    · exact good_lw h.fall
    · exact good_num (by omega)
    · exact good_num (by omega)
  · obtain ⟨p, hp, rfl⟩ := List.mem_map.mp hw
    exact Pt.good (h.parts p hp)
theorem RuOk.rows5 {r : Ru} (h : RuOk r) : r.rows.length ≤ 5 := by have := h.few; simp [Ru.rows]; omega
/-! ### data of rules, compared -/
theorem eqD_ints : ∀ (a b : List Int), eqDs (a.map D.int) (b.map D.int) = decide (a = b)
  | [], [] => by simp [eqDs]
  | [], _ :: _ => by simp [eqDs]
  | _ :: _, [] => by simp [eqDs]
  | x :: a, y :: b => by
    simp only [List.map_cons, eqDs, eqD, eqD_ints a b, List.cons.injEq]
    by_cases e : x = y <;> simp [e]
theorem eqD_Pt (p q : Pt) : eqD p.d q.d = decide (p = q) := by
  obtain ⟨w, ns⟩ := p
  obtain ⟨w', ns'⟩ := q
  simp only [Pt.d, eqD, eqDs, eqD_ints, Pt.mk.injEq]
  by_cases e : w = w' <;> simp [e]
theorem eqD_Pts : ∀ (a b : List Pt), eqDs (a.map Pt.d) (b.map Pt.d) = decide (a = b)
  | [], [] => by simp [eqDs]
  | [], _ :: _ => by simp [eqDs]
  | _ :: _, [] => by simp [eqDs]
  | x :: a, y :: b => by
    simp only [List.map_cons, eqDs, eqD_Pt, eqD_Pts a b, List.cons.injEq]
    by_cases e : x = y <;> simp [e]
theorem eqD_lim (a b : Option Int) : eqD (limD a) (limD b) = decide (a = b) := by
  cases a <;> cases b <;> simp [limD, eqD, Bool.beq_eq_decide_eq]
theorem str_Pt {p : Pt} (h : p.ok = true) : PyData.strOk p.w = true := by
  rcases p.ok_cases h with ⟨hw, _⟩ | ⟨hw, _⟩
  · rcases hw with e | e <;> rw [e] <;> exact (kw_ok _ (by simp)).2.2.2
  · rw [hw]; exact (kw_ok _ (by simp)).2.2.2
theorem sh_ints (n : Nat) : ∀ a : List Int, shDs n (a.map D.int) = true
  | [] => rfl
  | x :: a => by rw [List.map_cons, shDs, sh_ints n a]; rfl
theorem sh_Pt {n : Nat} {p : Pt} (h : p.ok = true) : shD (n + 1) p.d = true := by
  show shDs n (.str p.w :: p.ns.map D.int) = true
  rw [shDs, sh_ints, Bool.and_true]
  exact str_Pt h
theorem sh_Pts {n : Nat} : ∀ {a : List Pt}, (∀ p ∈ a, p.ok = true) → shDs (n + 1) (a.map Pt.d) = true
  | [], _ => rfl
  | p :: a, h => by rw [List.map_cons, shDs, sh_Pt (h p (List.mem_cons_self ..)), sh_Pts fun q hq => h q (List.mem_cons_of_mem _ hq)]; rfl
theorem sh_lim (n : Nat) (o : Option Int) : shD n (limD o) = true := by cases o <;> rfl
/-! ### what is read of the rows -/
def isFirst (ws : List Str) : Bool := decide (ws.length = 7) && decide (ws[0]? = some ("rule" : Str)) && (((ws.drop 3).take 2).all fun w => decide (w = "none") || isNum w 3) && (((ws.drop 1).take 2 ++ ws.drop 5).all fun w => isNum w 3)
def isPL (ws : List Str) (n : Int) : Bool := decide ((tab_SIZES.lookup (ws.headD "")).getD 0 = (ws.length : Int)) && (ws.drop 1).all fun w => isNum w n
theorem lw_num {o : Option Int} (h : ∀ i, o = some i → 1 ≤ i ∧ i ≤ 8) : (decide (lw o = "none") || isNum (lw o) 3) = true := by
  cases o with
  | none => simp [lw]
  | some i => have := h i rfl; simp [lw, (num_ok (i := i) (by omega) (by omega)).1]
theorem first_ok {r : Ru} (h : RuOk r) : isFirst r.first = true := by
  have := h.l1; have := h.l2; have := h.m1; have := h.m2; have := h.u1; have := h.u2; have := h.d1; have := h.d2
  have n1 := (num_ok (i := r.least) (by omega) (by omega)).1
  have n2 := (num_ok (i := r.most) (by omega) (by omega)).1
  have n3 := (num_ok (i := r.up) (by omega) (by omega)).1
  have n4 := (num_ok (i := r.down) (by omega) (by omega)).1
  have l1 := lw_num h.rise
  have l2 := lw_num h.fall
  simp only [isFirst, Ru.first, List.length_cons, List.length_nil, List.drop_succ_cons, List.drop_zero, List.take_succ_cons, List.take_zero, List.all_cons, List.all_nil, List.cons_append, List.nil_append, n1, n2, n3, n4, l1, l2]
  simp
theorem PL_ok {p : Pt} (h : p.ok = true) : isPL p.words 3 = true := by
  rcases p.ok_cases h with ⟨hw, a, b, e, h1, h2⟩ | ⟨hw, a, b, c, e, h1, h2, h3, _⟩
  · have t : (tab_SIZES.lookup p.w).getD 0 = 3 := by rcases hw with e | e <;> rw [e] <;> rfl
    have n1 := (num_ok (i := a) (by omega) (by omega)).1
    have n2 := (num_ok (i := b) (by omega) (by omega)).1
    simp [isPL, Pt.words, e, t, n1, n2]
  · have t : (tab_SIZES.lookup p.w).getD 0 = 4 := by rw [hw]; rfl
    have n1 := (num_ok (i := a) (by omega) (by omega)).1
    have n2 := (num_ok (i := b) (by omega) (by omega)).1
    have n3 := (num_ok (i := c) (by omega) (by omega)).1
    simp [isPL, Pt.words, e, t, n1, n2, n3]
/-! ### the text tells the rule -/
theorem S_inj {i j : Int} (hi : 0 ≤ i ∧ i ≤ 60) (hj : 0 ≤ j ∧ j ≤ 60) (h : S i = S j) : i = j := by
  have a := (num_ok hi.1 hi.2).2.2.2.2.2
  have b := (num_ok hj.1 hj.2).2.2.2.2.2
  rw [h, b] at a
  exact (Option.some.inj a).symm
theorem lw_inj {a b : Option Int} (ha : ∀ i, a = some i → 1 ≤ i ∧ i ≤ 8) (hb : ∀ i, b = some i → 1 ≤ i ∧ i ≤ 8) (h : lw a = lw b) : a = b := by
  cases a with
  | none =>
    cases b with
    | none => rfl
    | some j => have := hb j rfl; exact ((num_ok (i := j) (by omega) (by omega)).2.2.2.2.1 h.symm).elim
  | some i =>
    have hi := ha i rfl
    cases b with
    | none => exact ((num_ok (i := i) (by omega) (by omega)).2.2.2.2.1 h).elim
    | some j => have := hb j rfl; rw [S_inj (i := i) (j := j) (by omega) (by omega) h]
theorem S_list : ∀ {a b : List Int}, (∀ i ∈ a, 0 ≤ i ∧ i ≤ 60) → (∀ i ∈ b, 0 ≤ i ∧ i ≤ 60) → a.map S = b.map S → a = b
  | [], [], _, _, _ => rfl
  | [], _ :: _, _, _, h => by cases h
  | _ :: _, [], _, _, h => by cases h
  | x :: a, y :: b, ha, hb, h => by
    simp only [List.map_cons, List.cons.injEq] at h
    rw [S_inj (ha x (by simp)) (hb y (by simp)) h.1, S_list (fun i hi => ha i (by simp [hi])) (fun i hi => hb i (by simp [hi])) h.2]
theorem Pt.bd {p : Pt} (h : p.ok = true) : ∀ i ∈ p.ns, 0 ≤ i ∧ i ≤ 60 := by
  intro i hi
  rcases p.ok_cases h with ⟨hw, a, b, e, h1, h2⟩ | ⟨hw, a, b, c, e, h1, h2, h3, _⟩
  · rw [e] at hi; simp at hi; omega
  · rw [e] at hi; simp at hi; omega
theorem Pt.inj {p q : Pt} (hp : p.ok = true) (hq : q.ok = true) (h : p.words = q.words) : p = q := by
  obtain ⟨w, ns⟩ := p
  obtain ⟨w', ns'⟩ := q
  simp only [Pt.words, List.cons.injEq] at h
  have e : ns = ns' := S_list (Pt.bd hp) (Pt.bd hq) h.2
  rw [h.1, e]
theorem Pts_inj : ∀ {a b : List Pt}, (∀ p ∈ a, p.ok = true) → (∀ p ∈ b, p.ok = true) → a.map Pt.words = b.map Pt.words → a = b
  | [], [], _, _, _ => rfl
  | [], _ :: _, _, _, h => by cases h
  | _ :: _, [], _, _, h => by cases h
  | x :: a, y :: b, ha, hb, h => by
    simp only [List.map_cons, List.cons.injEq] at h
    rw [Pt.inj (ha x (by simp)) (hb y (by simp)) h.1, Pts_inj (fun i hi => ha i (by simp [hi])) (fun i hi => hb i (by simp [hi])) h.2]
theorem JS_inj : ∀ {a b : List (List Str)}, (∀ r ∈ a, GoodRow r) → (∀ r ∈ b, GoodRow r) → a.map JS = b.map JS → a = b
  | [], [], _, _, _ => rfl
  | [], _ :: _, _, _, h => by cases h
  | _ :: _, [], _, _, h => by cases h
  | x :: a, y :: b, ha, hb, h => by
    simp only [List.map_cons, List.cons.injEq] at h
    have e : x = y := by rw [← split_JS (ha x (by simp)), h.1, split_JS (hb y (by simp))]
    rw [e, JS_inj (fun i hi => ha i (by simp [hi])) (fun i hi => hb i (by simp [hi])) h.2]
theorem text_inj {r s : Ru} (hr : RuOk r) (hs : RuOk s) (h : r.text = s.text) : r = s := by
  have e : r.rows = s.rows := by
    have h1 := split_tx hr.good
    have h2 := split_tx hs.good
    rw [show tx r.rows = tx s.rows from h, h2] at h1
    exact JS_inj hr.good hs.good (List.append_cancel_right h1).symm
  obtain ⟨ps, a, b, c, d, e1, f⟩ := r
  obtain ⟨ps', a', b', c', d', e', f'⟩ := s
  simp only [Ru.rows, Ru.first, List.cons.injEq, and_true, true_and] at e
  obtain ⟨⟨x1, x2, x3, x4, x5, x6⟩, x7⟩ := e
  have := hr.l1; have := hr.l2; have := hr.m1; have := hr.m2; have := hr.u1; have := hr.u2; have := hr.d1; have := hr.d2
  have := hs.l1; have := hs.l2; have := hs.m1; have := hs.m2; have := hs.u1; have := hs.u2; have := hs.d1; have := hs.d2
  simp only at *
  have y3 : c = c' := lw_inj hr.rise hs.rise x3
  have y4 : d = d' := lw_inj hr.fall hs.fall x4
  have y7 : ps = ps' := Pts_inj hr.parts hs.parts x7
  rw [S_inj (by omega) (by omega) x1, S_inj (by omega) (by omega) x2, y3, y4, S_inj (by omega) (by omega) x5, S_inj (by omega) (by omega) x6, y7]
theorem text_iff {r s : Ru} (hr : RuOk r) (hs : RuOk s) : decide (r.text = s.text) = decide (r = s) := by
  by_cases e : r = s
  · subst e; simp
  · rw [decide_eq_false e, decide_eq_false fun h => e (text_inj hr hs h)]
end K78
namespace K78
open PySem PySem.Spec PyProof.Rows L2 Z
theorem sz : 16777216 ≤ sizeLine := by decide
def Ru.zs (r : Ru) : List (Str × Zv) := [("r_parts", .d (.tup (r.parts.map Pt.d))), ("r_bounds", .d (.tup [.int r.least, .int r.most])), ("r_limits", .d (.tup [limD r.rise, limD r.fall, .int r.up, .int r.down]))]
theorem noO_int (i : Int) : isO (.int i) = false := rfl
theorem noO_lim (o : Option Int) : isO (limD o) = false := by cases o <;> rfl
def sp_Rule_init : ZSp := fun zz ov Q _ => ∃ (r : Ru) (pd : D), RuOk r ∧ (pd = .lst (r.parts.map Pt.d) ∨ pd = .tup (r.parts.map Pt.d)) ∧
  zz = [.r 0, .d pd, .d (.int r.least), .d (.int r.most), .d (limD r.rise), .d (limD r.fall), .d (.int r.up), .d (.int r.down)] ∧ ov = [.ins "Rule" []] ∧ Q (.d .non) [.ins "Rule" r.zs]
def sp_Rule_least : ZSp := fun zz ov Q _ => ∃ r : Ru, zz = [.d r.d] ∧ ov = [] ∧ Q (.d (.int r.least)) []
def sp_Rule_most : ZSp := fun zz ov Q _ => ∃ r : Ru, zz = [.d r.d] ∧ ov = [] ∧ Q (.d (.int r.most)) []
def sp_Rule_rise : ZSp := fun zz ov Q _ => ∃ r : Ru, zz = [.d r.d] ∧ ov = [] ∧ Q (.d (limD r.rise)) []
def sp_Rule_fall : ZSp := fun zz ov Q _ => ∃ r : Ru, zz = [.d r.d] ∧ ov = [] ∧ Q (.d (limD r.fall)) []
def sp_Rule_up : ZSp := fun zz ov Q _ => ∃ r : Ru, zz = [.d r.d] ∧ ov = [] ∧ Q (.d (.int r.up)) []
def sp_Rule_down : ZSp := fun zz ov Q _ => ∃ r : Ru, zz = [.d r.d] ∧ ov = [] ∧ Q (.d (.int r.down)) []
def sp_Rule_parts : ZSp := fun zz ov Q _ => ∃ r : Ru, zz = [.d r.d] ∧ ov = [] ∧ Q (.d (.tup (r.parts.map Pt.d))) []
def sp_Rule_with_parts : ZSp := fun zz ov Q _ => ∃ (r : Ru) (ps : List Pt) (pd : D), RuOk { r with parts := ps } ∧ (pd = .lst (ps.map Pt.d) ∨ pd = .tup (ps.map Pt.d)) ∧ zz = [.d r.d, .d pd] ∧ ov = [] ∧ Q (.d ({ r with parts := ps } : Ru).d) []
def sp_Rule_eq : ZSp := fun zz ov Q _ => ∃ r s : Ru, RuOk r ∧ RuOk s ∧ zz = [.d r.d, .d s.d] ∧ ov = [] ∧ Q (.d (.bl (decide (r = s)))) []
def sp_is_number : ZSp := fun zz ov Q _ => match zz, ov with
  | [.d (.str w), .d (.int n)], [] => w.length ≤ sizeLine ∧ Q (.d (.bl (isNum w n))) []
  | _, _ => False
def sp_limit_word : ZSp := fun zz ov Q _ => ∃ o : Option Int, (∀ i, o = some i → 1 ≤ i ∧ i ≤ 8) ∧ zz = [.d (limD o)] ∧ ov = [] ∧ Q (.d (.str (lw o))) []
def sp_limit_of : ZSp := fun zz ov Q _ => ∃ o : Option Int, (∀ i, o = some i → 1 ≤ i ∧ i ≤ 8) ∧ zz = [.d (.str (lw o))] ∧ ov = [] ∧ Q (.d (limD o)) []
def sp_part_words : ZSp := fun zz ov Q _ => ∃ p : Pt, p.ok = true ∧ zz = [.d p.d] ∧ ov = [] ∧ Q (.d (.lst (p.words.map D.str))) []
def sp_part_of : ZSp := fun zz ov Q _ => ∃ p : Pt, p.ok = true ∧ zz = [.d (.lst (p.words.map D.str))] ∧ ov = [] ∧ Q (.d p.d) []
def sp_rule_text : ZSp := fun zz ov Q _ => ∃ r : Ru, RuOk r ∧ zz = [.d r.d] ∧ ov = [] ∧ Q (.d (.str r.text)) []
def sp_is_first_line : ZSp := fun zz ov Q _ => ∃ ws : List Str, ws ≠ [] ∧ ws.length ≤ 1000 ∧ (∀ w ∈ ws, w.length ≤ sizeLine) ∧ zz = [.d (.lst (ws.map D.str))] ∧ ov = [] ∧ Q (.d (.bl (isFirst ws))) []
def sp_is_part_line : ZSp := fun zz ov Q _ => ∃ (ws : List Str) (n : Int), ws ≠ [] ∧ ws.length ≤ 1000 ∧ (∀ w ∈ ws, w.length ≤ sizeLine) ∧ zz = [.d (.lst (ws.map D.str)), .d (.int n)] ∧ ov = [] ∧ Q (.d (.bl (isPL ws n))) []
def sp_parted_lines : ZSp := fun zz ov Q _ => ∃ r : Ru, RuOk r ∧ zz = [.d (.str r.text)] ∧ ov = [] ∧ Q (.d (.lst (r.rows.map fun ws => .lst (ws.map D.str)))) []
def sp_read_rule : ZSp := fun zz ov Q _ => ∃ r : Ru, RuOk r ∧ zz = [.d (.str r.text)] ∧ ov = [] ∧ Q (.d r.d) []
theorem ln_is_number {zz ov Q E} (h : sp_is_number zz ov Q E) : zz.length = 2 := by unfold sp_is_number at h; split at h <;> first | rfl | cases h
theorem ln_Rule_init {zz ov Q E} (h : sp_Rule_init zz ov Q E) : zz.length = 8 := by obtain ⟨r, pd, _, _, rfl, _⟩ := h; rfl
theorem ln_Rule_least {zz ov Q E} (h : sp_Rule_least zz ov Q E) : zz.length = 1 := by obtain ⟨r, rfl, _⟩ := h; rfl
theorem ln_Rule_most {zz ov Q E} (h : sp_Rule_most zz ov Q E) : zz.length = 1 := by obtain ⟨r, rfl, _⟩ := h; rfl
theorem ln_Rule_rise {zz ov Q E} (h : sp_Rule_rise zz ov Q E) : zz.length = 1 := by obtain ⟨r, rfl, _⟩ := h; rfl
theorem ln_Rule_fall {zz ov Q E} (h : sp_Rule_fall zz ov Q E) : zz.length = 1 := by obtain ⟨r, rfl, _⟩ := h; rfl
theorem ln_Rule_up {zz ov Q E} (h : sp_Rule_up zz ov Q E) : zz.length = 1 := by obtain ⟨r, rfl, _⟩ := h; rfl
theorem ln_Rule_down {zz ov Q E} (h : sp_Rule_down zz ov Q E) : zz.length = 1 := by obtain ⟨r, rfl, _⟩ := h; rfl
theorem ln_Rule_parts {zz ov Q E} (h : sp_Rule_parts zz ov Q E) : zz.length = 1 := by obtain ⟨r, rfl, _⟩ := h; rfl
theorem ln_Rule_with_parts {zz ov Q E} (h : sp_Rule_with_parts zz ov Q E) : zz.length = 2 := by obtain ⟨r, ps, pd, _, _, rfl, _⟩ := h; rfl
theorem ln_Rule_eq {zz ov Q E} (h : sp_Rule_eq zz ov Q E) : zz.length = 2 := by obtain ⟨r, s, _, _, rfl, _⟩ := h; rfl
theorem ln_limit_word {zz ov Q E} (h : sp_limit_word zz ov Q E) : zz.length = 1 := by obtain ⟨o, _, rfl, _⟩ := h; rfl
theorem ln_limit_of {zz ov Q E} (h : sp_limit_of zz ov Q E) : zz.length = 1 := by obtain ⟨o, _, rfl, _⟩ := h; rfl
theorem ln_part_words {zz ov Q E} (h : sp_part_words zz ov Q E) : zz.length = 1 := by obtain ⟨o, _, rfl, _⟩ := h; rfl
theorem ln_part_of {zz ov Q E} (h : sp_part_of zz ov Q E) : zz.length = 1 := by obtain ⟨o, _, rfl, _⟩ := h; rfl
theorem ln_rule_text {zz ov Q E} (h : sp_rule_text zz ov Q E) : zz.length = 1 := by obtain ⟨o, _, rfl, _⟩ := h; rfl
theorem ln_is_first_line {zz ov Q E} (h : sp_is_first_line zz ov Q E) : zz.length = 1 := by obtain ⟨o, _, _, _, rfl, _⟩ := h; rfl
theorem ln_is_part_line {zz ov Q E} (h : sp_is_part_line zz ov Q E) : zz.length = 2 := by obtain ⟨o, n, _, _, _, rfl, _⟩ := h; rfl
theorem ln_parted_lines {zz ov Q E} (h : sp_parted_lines zz ov Q E) : zz.length = 1 := by obtain ⟨o, _, rfl, _⟩ := h; rfl
theorem ln_read_rule {zz ov Q E} (h : sp_read_rule zz ov Q E) : zz.length = 1 := by obtain ⟨o, _, rfl, _⟩ := h; rfl
def zb_Rule_init : ZS := zSeq (zIf (ztNot (ztB (zCall sp_are_parts (zCons (zVar 1) (zNil))))) (zNever) (zNext)) (zSeq (zIf (ztNot (ztB (zCall sp_is_between (zCons (zVar 2) (zCons (zC (.int 1)) (zCons (zC (.int 8)) (zNil))))))) (zNever) (zNext)) (zSeq (zIf (ztNot (ztB (zCall sp_is_between (zCons (zVar 3) (zCons (zVar 2) (zCons (zC (.int 8)) (zNil))))))) (zNever) (zNext)) (zSeq (zDrop (zCall sp_need_limits (zCons (zVar 4) (zCons (zVar 5) (zCons (zVar 6) (zCons (zVar 7) (zNil))))))) (zSeq (zsFld "Rule" "r_parts" (zVar 0) (zBi dTuple (zCons (zVar 1) (zNil)))) (zSeq (zsFld "Rule" "r_bounds" (zVar 0) (zTup (zCons (zVar 2) (zCons (zVar 3) (zNil))))) (zsFld "Rule" "r_limits" (zVar 0) (zTup (zCons (zVar 4) (zCons (zVar 5) (zCons (zVar 6) (zCons (zVar 7) (zNil))))))))))))
def zb_Rule_least : ZS := zRet (zOp dIx (zFld "Rule" "r_bounds" (zVar 0)) (zC (.int 0)))
def zb_Rule_most : ZS := zRet (zOp dIx (zFld "Rule" "r_bounds" (zVar 0)) (zC (.int 1)))
def zb_Rule_rise : ZS := zRet (zOp dIx (zFld "Rule" "r_limits" (zVar 0)) (zC (.int 0)))
def zb_Rule_fall : ZS := zRet (zOp dIx (zFld "Rule" "r_limits" (zVar 0)) (zC (.int 1)))
def zb_Rule_up : ZS := zRet (zOp dIx (zFld "Rule" "r_limits" (zVar 0)) (zC (.int 2)))
def zb_Rule_down : ZS := zRet (zOp dIx (zFld "Rule" "r_limits" (zVar 0)) (zC (.int 3)))
def zb_Rule_parts : ZS := zRet (zFld "Rule" "r_parts" (zVar 0))
def zb_Rule_with_parts : ZS := zSeq (zAsg (zFld "Rule" "r_limits" (zVar 0)) (gTup' (gCons' (gVar 2) (gCons' (gVar 3) (gCons' (gVar 4) (gCons' (gVar 5) (gNil'))))))) (zRet (zMake "Rule" 1 6 sp_Rule_init (zCons (zVar 1) (zNil)) (zCons (zProp "Rule" sp_Rule_least (zVar 0)) (zCons (zProp "Rule" sp_Rule_most (zVar 0)) (zCons (zVar 2) (zCons (zVar 3) (zCons (zVar 4) (zCons (zVar 5) (zNil)))))))))
def zb_Rule_eq : ZS := zSeq (zIf (ztOr (ztNot (ztB (zIsiC "Rule" (zVar 1)))) (ztB (zCmp dNe (zFld "Rule" "r_parts" (zVar 0)) (zFld "Rule" "r_parts" (zVar 1))))) (zRet (zC (.bl false))) (zNext)) (zRet (zAnd (zCmp dEq (zFld "Rule" "r_bounds" (zVar 0)) (zFld "Rule" "r_bounds" (zVar 1))) (zCmp dEq (zFld "Rule" "r_limits" (zVar 0)) (zFld "Rule" "r_limits" (zVar 1)))))
def zb_limit_word : ZS := zRet (zIte (ztB (zCmp dIs (zVar 0) (zC .non))) (zC (.str "none")) (zBi dStr (zCons (zVar 0) (zNil))))
def zb_limit_of : ZS := zRet (zIte (ztB (zCmp dEq (zVar 0) (zC (.str "none")))) (zC .non) (zBi dInt (zCons (zVar 0) (zNil))))
def zb_is_number : ZS := zSeq (zIf (ztOr (ztNot (ztB (zChain dLe dLe (zC (.int 1)) (zLen (zVar 0)) (zVar 1)))) (ztNot (ztB (zBi dAll (zCons (zLc (ziStr (zVar 0)) (gVar 2) (ztYes) (zCmp dInS (zVar 2) (zC (.str "0123456789"))) [2]) (zNil)))))) (zRet (zC (.bl false))) (zNext)) (zRet (zOr (zCmp dEq (zVar 0) (zC (.str "0"))) (zCmp dNe (zOp dIx (zVar 0) (zC (.int 0))) (zC (.str "0")))))
def zb_part_words : ZS := zRet (zOp dAdd (zLst (zCons (zOp dIx (zVar 0) (zC (.int 0))) (zNil))) (zLc (ziTup (zSl (zVar 0) (zoSome (zC (.int 1))) (zoNone))) (gVar 1) (ztYes) (zBi dStr (zCons (zVar 1) (zNil))) [1]))
def zb_part_of : ZS := zRet (zOp dAdd (zTup (zCons (zOp dIx (zVar 0) (zC (.int 0))) (zNil))) (zBi dTuple (zCons (zLc (ziLst (zSl (zVar 0) (zoSome (zC (.int 1))) (zoNone))) (gVar 1) (ztYes) (zBi dInt (zCons (zVar 1) (zNil))) [1]) (zNil))))
def zb_rule_text : ZS := zSeq (zSet 1 (zLst (zCons (zC (.str "rule")) (zCons (zBi dStr (zCons (zProp "Rule" sp_Rule_least (zVar 0)) (zNil))) (zCons (zBi dStr (zCons (zProp "Rule" sp_Rule_most (zVar 0)) (zNil))) (zCons (zCall sp_limit_word (zCons (zProp "Rule" sp_Rule_rise (zVar 0)) (zNil))) (zCons (zCall sp_limit_word (zCons (zProp "Rule" sp_Rule_fall (zVar 0)) (zNil))) (zNil)))))))) (zSeq (zSet 3 (zOp dAdd (zLst (zCons (zOp dAdd (zVar 1) (zLst (zCons (zBi dStr (zCons (zProp "Rule" sp_Rule_up (zVar 0)) (zNil))) (zCons (zBi dStr (zCons (zProp "Rule" sp_Rule_down (zVar 0)) (zNil))) (zNil))))) (zNil))) (zLc (ziTup (zProp "Rule" sp_Rule_parts (zVar 0))) (gVar 2) (ztYes) (zCall sp_part_words (zCons (zVar 2) (zNil))) [2]))) (zRet (zM1 mJoin (zC (.str "")) (zLc (ziLst (zVar 3)) (gVar 4) (ztYes) (zOp dAdd (zM1 mJoin (zC (.str " ")) (zVar 4)) (zC (.str "\n"))) [4]))))
def zb_is_first_line : ZS := zSeq (zIf (ztOr (ztB (zCmp dNe (zLen (zVar 0)) (zC (.int 7)))) (ztB (zCmp dNe (zOp dIx (zVar 0) (zC (.int 0))) (zC (.str "rule"))))) (zRet (zC (.bl false))) (zNext)) (zSeq (zIf (ztNot (ztB (zBi dAll (zCons (zLc (ziLst (zSl (zVar 0) (zoSome (zC (.int 3))) (zoSome (zC (.int 5))))) (gVar 1) (ztYes) (zOr (zCmp dEq (zVar 1) (zC (.str "none"))) (zCall sp_is_number (zCons (zVar 1) (zCons (zC (.int 3)) (zNil))))) [1]) (zNil))))) (zRet (zC (.bl false))) (zNext)) (zRet (zBi dAll (zCons (zLc (ziLst (zOp dAdd (zSl (zVar 0) (zoSome (zC (.int 1))) (zoSome (zC (.int 3)))) (zSl (zVar 0) (zoSome (zC (.int 5))) (zoNone)))) (gVar 1) (ztYes) (zCall sp_is_number (zCons (zVar 1) (zCons (zC (.int 3)) (zNil)))) [1]) (zNil)))))
def zb_is_part_line : ZS := zSeq (zIf (ztB (zCmp dNe (zGetTab tab_SIZES (zOp dIx (zVar 0) (zC (.int 0))) (zC (.int 0))) (zLen (zVar 0)))) (zRet (zC (.bl false))) (zNext)) (zRet (zBi dAll (zCons (zLc (ziLst (zSl (zVar 0) (zoSome (zC (.int 1))) (zoNone))) (gVar 2) (ztYes) (zCall sp_is_number (zCons (zVar 2) (zCons (zVar 1) (zNil)))) [2]) (zNil))))
def zb_parted_lines : ZS := zSeq (zSet 1 (zM1 mSplit (zVar 0) (zC (.str "\n")))) (zSeq (zSet 2 (zCmp dEq (zOp dIx (zVar 1) (zUn dNeg (zC (.int 1)))) (zC (.str "")))) (zSeq (zSet 4 (zLc (ziLst (zIte (ztB (zVar 2)) (zSl (zVar 1) (zoNone) (zoSome (zUn dNeg (zC (.int 1))))) (zVar 1))) (gVar 3) (ztYes) (zM1 mSplit (zVar 3) (zC (.str " "))) [3])) (zSeq (zFor (ziEnum (zCons (zVar 4) (zNil))) (gTup' (gCons' (gVar 5) (gCons' (gVar 6) (gNil')))) (zIf (ztNot (ztIte (ztB (zCmp dEq (zVar 5) (zC (.int 0)))) (ztB (zCall sp_is_first_line (zCons (zVar 6) (zNil)))) (ztB (zCall sp_is_part_line (zCons (zVar 6) (zCons (zC (.int 3)) (zNil))))))) (zNever) (zNext))) (zSeq (zIf (ztNot (ztB (zVar 2))) (zNever) (zNext)) (zRet (zVar 4))))))
def zb_read_rule : ZS := zSeq (zIf (ztOr (ztNot (ztB (zIsi "str" (zVar 0)))) (ztB (zCmp dEq (zVar 0) (zC (.str ""))))) (zNever) (zNext)) (zSeq (zSet 1 (zCall sp_parted_lines (zCons (zVar 0) (zNil)))) (zSeq (zAsg (zLc (ziLst (zOp dAdd (zSl (zOp dIx (zVar 1) (zC (.int 0))) (zoSome (zC (.int 1))) (zoSome (zC (.int 3)))) (zSl (zOp dIx (zVar 1) (zC (.int 0))) (zoSome (zC (.int 5))) (zoNone)))) (gVar 2) (ztYes) (zBi dInt (zCons (zVar 2) (zNil))) [2]) (gLst' (gCons' (gVar 3) (gCons' (gVar 4) (gCons' (gVar 5) (gCons' (gVar 6) (gNil'))))))) (zSeq (zPar 7 8 (zCons (zCall sp_limit_of (zCons (zOp dIx (zOp dIx (zVar 1) (zC (.int 0))) (zC (.int 3))) (zNil))) (zCons (zCall sp_limit_of (zCons (zOp dIx (zOp dIx (zVar 1) (zC (.int 0))) (zC (.int 4))) (zNil))) (zNil)))) (zSeq (zSet 9 (zMake "Rule" 1 6 sp_Rule_init (zCons (zLst (zNil)) (zNil)) (zCons (zVar 3) (zCons (zVar 4) (zCons (zVar 7) (zCons (zVar 8) (zCons (zVar 5) (zCons (zVar 6) (zNil))))))))) (zRet (zMeth "Rule" "with_parts" sp_Rule_with_parts (zVar 9) (zCons (zLc (ziLst (zSl (zVar 1) (zoSome (zC (.int 1))) (zoNone))) (gVar 10) (ztYes) (zCall sp_part_of (zCons (zVar 10) (zNil))) [10]) (zNil))))))))
theorem Pt.d_inj : ∀ {p q : Pt}, p.d = q.d → p = q
  | ⟨w, ns⟩, ⟨w', ns'⟩, h => by
    simp only [Pt.d, D.tup.injEq, List.cons.injEq, D.str.injEq] at h
    have e : ns = ns' := (List.map_inj_right fun a b h => D.int.inj h).mp h.2
    rw [h.1, e]
theorem limD_inj {a b : Option Int} (h : limD a = limD b) : a = b := by
  cases a <;> cases b <;> simp_all [limD]
theorem Ru.d_inj : ∀ {r s : Ru}, r.d = s.d → r = s
  | ⟨a, b, c, d, e, f, g⟩, ⟨a', b', c', d', e', f', g'⟩, h => by
    simp only [Ru.d, Ru.fs, D.obj.injEq, List.cons.injEq, Prod.mk.injEq, D.tup.injEq, D.int.injEq, true_and, and_true] at h
    obtain ⟨h1, ⟨h2, h3⟩, h4, h5, h6, h7⟩ := h
    have e1 : a = a' := (List.map_inj_right fun a b h => Pt.d_inj h).mp h1
    have e2 := limD_inj h4
    have e3 := limD_inj h5
    subst e1 e2 e3 h2 h3 h6 h7
    rfl
section
variable {Q : QE} {E : QX} {r : Ru}
theorem ex_d {P : Ru → Prop} : (∃ s : Ru, [Zv.d r.d] = [Zv.d s.d] ∧ ([] : Ov) = [] ∧ P s) = P r := by
  apply propext
  constructor
  · rintro ⟨s, h, _, p⟩
    have : r = s := Ru.d_inj (Zv.d.inj (List.cons.inj h).1)
    rw [this]; exact p
  · exact fun p => ⟨r, rfl, rfl, p⟩
@[simp] theorem e_least : sp_Rule_least [.d r.d] [] Q E = Q (.d (.int r.least)) [] := ex_d (P := fun r => Q (.d (.int r.least)) [])
@[simp] theorem e_most : sp_Rule_most [.d r.d] [] Q E = Q (.d (.int r.most)) [] := ex_d (P := fun r => Q (.d (.int r.most)) [])
@[simp] theorem e_rise : sp_Rule_rise [.d r.d] [] Q E = Q (.d (limD r.rise)) [] := ex_d (P := fun r => Q (.d (limD r.rise)) [])
@[simp] theorem e_fall : sp_Rule_fall [.d r.d] [] Q E = Q (.d (limD r.fall)) [] := ex_d (P := fun r => Q (.d (limD r.fall)) [])
@[simp] theorem e_up : sp_Rule_up [.d r.d] [] Q E = Q (.d (.int r.up)) [] := ex_d (P := fun r => Q (.d (.int r.up)) [])
@[simp] theorem e_down : sp_Rule_down [.d r.d] [] Q E = Q (.d (.int r.down)) [] := ex_d (P := fun r => Q (.d (.int r.down)) [])
@[simp] theorem e_parts : sp_Rule_parts [.d r.d] [] Q E = Q (.d (.tup (r.parts.map Pt.d))) [] := ex_d (P := fun r => Q (.d (.tup (r.parts.map Pt.d))) [])
@[simp] theorem e_obj {C : Str} : (∃ x, r.d = D.obj C x) = (C = "Rule") := by
  apply propext
  constructor
  · rintro ⟨x, h⟩
    exact (D.obj.inj h).1.symm
  · rintro rfl
    exact ⟨_, rfl⟩
/-- making a rule -/
theorem e_init {ov : Ov} {pd : D} (ok : RuOk r) (hp : pd = .lst (r.parts.map Pt.d) ∨ pd = .tup (r.parts.map Pt.d)) (q : Q (.d r.d) ov) {l m ri fa u d : Zv} (h1 : l = .d (.int r.least)) (h2 : m = .d (.int r.most)) (h3 : ri = .d (limD r.rise)) (h4 : fa = .d (limD r.fall)) (h5 : u = .d (.int r.up)) (h6 : d = .d (.int r.down)) :
    sp_Rule_init [Zv.r 0, Zv.d pd, l, m, ri, fa, u, d] [OO.ins "Rule" []] (fun y ov' => y = Zv.d D.non ∧ ∃ fs, ov' = [OO.ins "Rule" fs] ∧ ∃ x, pureK fs = some x ∧ Q (Zv.d (D.obj "Rule" x)) ov) E := by
  subst h1 h2 h3 h4 h5 h6
  exact ⟨r, pd, ok, hp, rfl, rfl, rfl, _, rfl, _, rfl, q⟩
end
theorem look_parts {r : Ru} : r.fs.lookup ("r_parts" : Str) = some (.tup (r.parts.map Pt.d)) := rfl
theorem look_bounds {r : Ru} : r.fs.lookup ("r_bounds" : Str) = some (.tup [.int r.least, .int r.most]) := rfl
theorem look_limits {r : Ru} : r.fs.lookup ("r_limits" : Str) = some (.tup [limD r.rise, limD r.fall, .int r.up, .int r.down]) := rfl
theorem ins_d {r : Ru} {ov : Ov} : insZ ov (.d r.d) = some (("Rule" : Str), r.fs.map fun q => (q.1, Zv.d q.2)) := rfl
theorem zl_parts {r : Ru} : (r.fs.map fun q => (q.1, Zv.d q.2)).lookup ("r_parts" : Str) = some (.d (.tup (r.parts.map Pt.d))) := rfl
theorem zl_bounds {r : Ru} : (r.fs.map fun q => (q.1, Zv.d q.2)).lookup ("r_bounds" : Str) = some (.d (.tup [.int r.least, .int r.most])) := rfl
theorem zl_limits {r : Ru} : (r.fs.map fun q => (q.1, Zv.d q.2)).lookup ("r_limits" : Str) = some (.d (.tup [limD r.rise, limD r.fall, .int r.up, .int r.down])) := rfl
theorem rd_Rule_least {zz ov Q E} (h : sp_Rule_least zz ov Q E) : zb_Rule_least (zend ov.length Q E) (startE 1 zz) ov := by
  obtain ⟨r, rfl, rfl, q⟩ := h
  simp [zb_Rule_least, ins_d, zl_bounds, q]
theorem rd_Rule_most {zz ov Q E} (h : sp_Rule_most zz ov Q E) : zb_Rule_most (zend ov.length Q E) (startE 1 zz) ov := by
  obtain ⟨r, rfl, rfl, q⟩ := h
  simp [zb_Rule_most, ins_d, zl_bounds, q]
theorem rd_Rule_rise {zz ov Q E} (h : sp_Rule_rise zz ov Q E) : zb_Rule_rise (zend ov.length Q E) (startE 1 zz) ov := by
  obtain ⟨r, rfl, rfl, q⟩ := h
  simp [zb_Rule_rise, ins_d, zl_limits, q]
theorem rd_Rule_fall {zz ov Q E} (h : sp_Rule_fall zz ov Q E) : zb_Rule_fall (zend ov.length Q E) (startE 1 zz) ov := by
  obtain ⟨r, rfl, rfl, q⟩ := h
  simp [zb_Rule_fall, ins_d, zl_limits, q]
theorem rd_Rule_up {zz ov Q E} (h : sp_Rule_up zz ov Q E) : zb_Rule_up (zend ov.length Q E) (startE 1 zz) ov := by
  obtain ⟨r, rfl, rfl, q⟩ := h
  simp [zb_Rule_up, ins_d, zl_limits, q]
theorem rd_Rule_down {zz ov Q E} (h : sp_Rule_down zz ov Q E) : zb_Rule_down (zend ov.length Q E) (startE 1 zz) ov := by
  obtain ⟨r, rfl, rfl, q⟩ := h
  simp [zb_Rule_down, ins_d, zl_limits, q]
theorem rd_Rule_parts {zz ov Q E} (h : sp_Rule_parts zz ov Q E) : zb_Rule_parts (zend ov.length Q E) (startE 1 zz) ov := by
  obtain ⟨r, rfl, rfl, q⟩ := h
  simp [zb_Rule_parts, ins_d, zl_parts, q]
theorem fld_ne : ("r_parts" : Str) ≠ "r_bounds" ∧ ("r_parts" : Str) ≠ "r_limits" ∧ ("r_bounds" : Str) ≠ "r_limits" := by decide +kernel
theorem putF2 {x y : Zv} : putFz "r_bounds" y (putFz "r_parts" x []) = [(("r_parts" : Str), x), ("r_bounds", y)] := by
  obtain ⟨n1, n2, n3⟩ := fld_ne
  simp [putFz, n1]
theorem putF3 {x y z : Zv} : putFz "r_limits" z (putFz "r_bounds" y (putFz "r_parts" x [])) = [(("r_parts" : Str), x), ("r_bounds", y), ("r_limits", z)] := by
  obtain ⟨n1, n2, n3⟩ := fld_ne
  rw [putF2]
  simp [putFz, n2, n3]
theorem rd_Rule_init {zz ov Q E} (h : sp_Rule_init zz ov Q E) : zb_Rule_init (zend ov.length Q E) (startE 8 zz) ov := by
  obtain ⟨r, pd, ok, hp, rfl, rfl, q⟩ := h
  have hs : shDs 40 (r.parts.map Pt.d) = true := sh_Pts ok.parts
  have sh : shD 41 pd = true := by rcases hp with rfl | rfl <;> exact hs
  have ap : areParts pd = true := by
    have : (decide ((r.parts.map Pt.d).length ≤ 4) && (r.parts.map Pt.d).all isPart) = true := by
      simp only [List.length_map, Bool.and_eq_true, decide_eq_true_eq, List.all_map, List.all_eq_true]
      exact ⟨ok.few, ok.parts⟩
    rcases hp with rfl | rfl <;> exact this
  have b1 : btw (.int r.least) 1 8 = true := by simp [btw, ok.l1, ok.l2]
  have b2 : btw (.int r.most) r.least 8 = true := by simp [btw, ok.m1, ok.m2]
  have b3 : btw (.int r.up) 1 3 = true := by simp [btw, ok.u1, ok.u2]
  have b4 : btw (.int r.down) 1 3 = true := by simp [btw, ok.d1, ok.d2]
  have b5 : isLim (limD r.rise) = true := isLim_iff.mpr ok.rise
  have b6 : isLim (limD r.fall) = true := isLim_iff.mpr ok.fall
  simp [zb_Rule_init, sp_are_parts, sp_is_between, sp_need_limits, sh, ap, b1, b2, b3, b4, b5, b6, noO_lim, noO_int]
  have fin : dTuple [pd] = fun Q => Q (.tup (r.parts.map Pt.d)) := by rcases hp with rfl | rfl <;> rfl
  rw [fin]
  have k2 : 2 ≤ sizeLine := by decide
  have k4 : 4 ≤ sizeLine := by decide
  simp only [putF3]
  have p1 : ∀ x : Zv, putFz "r_parts" x [] = [(("r_parts" : Str), x)] := fun _ => rfl
  refine ⟨k2, by rw [p1]; simp, k4, by rw [putF2]; simp, ?_, q⟩
  rfl
theorem rd_Rule_with_parts {zz ov Q E} (h : sp_Rule_with_parts zz ov Q E) : zb_Rule_with_parts (zend ov.length Q E) (startE 6 zz) ov := by
  obtain ⟨r, ps, pd, ok, hp, rfl, rfl, q⟩ := h
  simp [zb_Rule_with_parts, ins_d, zl_limits]
  exact ⟨_, _, ⟨rfl, rfl⟩, _, _, rfl, _, _, rfl, _, _, rfl, rfl, ⟨rfl, rfl, rfl, rfl⟩, e_init (r := { r with parts := ps }) ok hp q rfl rfl rfl rfl rfl rfl⟩
theorem e_isC {r : Ru} : isC "Rule" r.d = some true := by simp [isC, Ru.d]
theorem sh40 {ds : List D} (h : shDs 39 ds = true) : shD 40 (.tup ds) = true := h
theorem rd_Rule_eq {zz ov Q E} (h : sp_Rule_eq zz ov Q E) : zb_Rule_eq (zend ov.length Q E) (startE 2 zz) ov := by
  obtain ⟨r, s, hr, hs, rfl, rfl, q⟩ := h
  simp [zb_Rule_eq, ins_d, zl_limits, zl_bounds, zl_parts, e_isC]
  refine ⟨sh40 (sh_Pts hr.parts), sh40 (sh_Pts hs.parts), ?_⟩
  show (_ ∧ _) ∨ _
  have e1 : (!eqD (.tup (r.parts.map Pt.d)) (.tup (s.parts.map Pt.d))) = !decide (r.parts = s.parts) := by rw [← eqD_Pts]; rfl
  rw [e1]
  by_cases h1 : r.parts = s.parts
  · refine .inl ⟨by simp [h1], rfl, rfl, ?_⟩
    show (_ ∧ _) ∨ _
    have e2 : eqD (.tup [.int r.least, .int r.most]) (.tup [.int s.least, .int s.most]) = decide (r.least = s.least ∧ r.most = s.most) := by
      simp [eqD, eqDs, Bool.beq_eq_decide_eq]
    rw [e2]
    by_cases h2 : r.least = s.least ∧ r.most = s.most
    · refine .inr ⟨by simp [h2], ?_, ?_, ?_⟩
      · exact sh40 (by simp [shDs, sh_lim, shD])
      · exact sh40 (by simp [shDs, sh_lim, shD])
      · have e3 : eqD (.tup [limD r.rise, limD r.fall, .int r.up, .int r.down]) (.tup [limD s.rise, limD s.fall, .int s.up, .int s.down]) = decide (r = s) := by
          simp only [eqD, eqDs, eqD_lim, Bool.and_true]
          obtain ⟨a, b, c, d, e, f, g⟩ := r
          obtain ⟨a', b', c', d', e', f', g'⟩ := s
          simp only at h1 h2
          obtain ⟨h2, h3⟩ := h2
          subst h1 h2 h3
          simp only [Ru.mk.injEq, true_and, Bool.beq_eq_decide_eq, Bool.decide_and]
        rw [e3]; exact q
    · refine .inl ⟨by simpa using h2, ?_⟩
      have : decide (r = s) = false := decide_eq_false fun e => h2 (by rw [e]; exact ⟨rfl, rfl⟩)
      rw [this] at q; exact q
  · refine .inr ⟨by simpa using h1, ?_⟩
    have : decide (r = s) = false := decide_eq_false fun e => h1 (by rw [e])
    rw [this] at q; exact q
theorem rd_limit_word {zz ov Q E} (h : sp_limit_word zz ov Q E) : zb_limit_word (zend ov.length Q E) (startE 1 zz) ov := by
  obtain ⟨o, ho, rfl, rfl, q⟩ := h
  cases o with
  | none => simpa [zb_limit_word, limD, isN, lw] using q
  | some i =>
    have := ho i rfl
    simp [zb_limit_word, limD, isN]
    exact ⟨log_ok (by omega) (by omega), q⟩
theorem rd_limit_of {zz ov Q E} (h : sp_limit_of zz ov Q E) : zb_limit_of (zend ov.length Q E) (startE 1 zz) ov := by
  obtain ⟨o, ho, rfl, rfl, q⟩ := h
  cases o with
  | none => simpa [zb_limit_of, limD, lw] using q
  | some i =>
    have := ho i rfl
    obtain ⟨_, h1, _, _, h2, h3⟩ := num_ok (i := i) (by omega) (by omega)
    simp [zb_limit_of, lw, h2]
    exact ⟨i, h3, by omega, q⟩
theorem rd_is_number {zz ov Q E} (h : sp_is_number zz ov Q E) : zb_is_number (zend ov.length Q E) (startE 3 zz) ov := by
  unfold sp_is_number at h; split at h
  · rename_i w n
    obtain ⟨h1, h2⟩ := h
    simp [zb_is_number, h1]
    by_cases c1 : 1 ≤ (w.length : Int)
    · rw [if_pos c1]
      by_cases c2 : (w.length : Int) ≤ n
      · refine .inr ⟨c2, h1, ?_⟩
        refine lc_map (fun c => Zv.d (.str ⟨#[c]⟩)) (fun c => D.bl (decide (c ∈ ("0123456789" : Str).cps.toList))) _ [] (fun c hc P hP => ?_) ?_
        · simp only [s_gvar, wipeE, s_cmp, s_var, s_c]
          exact ⟨_, rfl, _, _, rfl, rfl, c, _, rfl, rfl, hP⟩
        · simp only [List.nil_append, s_vL1, s_vL0, Option.map_some, Option.some.injEq, exists_eq_left', dAll_map]
          by_cases c3 : (w.cps.toList.all fun c => decide (c ∈ ("0123456789" : Str).cps.toList)) = true
          · refine .inr ⟨by rw [c3], ?_⟩
            have hw : ∃ c, w.cps[0]? = some c := by
              have : 0 < w.cps.size := by
                have : (w.length : Int) = (w.cps.size : Int) := rfl
                omega
              exact ⟨w.cps[0], by simp [this]⟩
            obtain ⟨c, hc⟩ := hw
            have hd : w.cps.toList.headD 0 = c := by
              rw [← Array.getElem?_toList] at hc
              cases hl : w.cps.toList with
              | nil => rw [hl] at hc; cases hc
              | cons a l => rw [hl] at hc; cases hc; rfl
            have e : isNum w n = (decide (w = "0") || !decide ((⟨#[c]⟩ : Str) = "0")) := by
              unfold isNum
              rw [decide_eq_true c1, decide_eq_true c2, c3, hd]; simp
            rw [e] at h2
            by_cases c4 : w = "0"
            · rw [decide_eq_true c4] at h2
              exact .inr ⟨c4, h2⟩
            · rw [decide_eq_false c4] at h2
              exact .inl ⟨c4, c, hc, h2⟩
          · refine .inl ⟨by rw [Bool.eq_false_iff.mpr c3], ?_⟩
            have e : isNum w n = false := by unfold isNum; rw [Bool.eq_false_iff.mpr c3]; simp
            rw [e] at h2; exact h2
      · refine .inl ⟨by omega, ?_⟩
        have e : isNum w n = false := by unfold isNum; rw [decide_eq_false c2]; simp
        rw [e] at h2; exact h2
    · rw [if_neg c1]
      have e : isNum w n = false := by unfold isNum; rw [decide_eq_false c1]; simp
      rw [e] at h2; exact h2
  · cases h
theorem Pt.few {p : Pt} (h : p.ok = true) : p.ns.length ≤ 3 := by
  rcases p.ok_cases h with ⟨hw, a, b, e, h1, h2⟩ | ⟨hw, a, b, c, e, h1, h2, h3, _⟩ <;> rw [e] <;> simp
theorem rd_part_words {zz ov Q E} (h : sp_part_words zz ov Q E) : zb_part_words (zend ov.length Q E) (startE 2 zz) ov := by
  obtain ⟨p, hp, rfl, rfl, q⟩ := h
  simp [zb_part_words, Pt.d]
  have := Pt.few hp
  have := sz
  refine ⟨by omega, by omega, ?_⟩
  refine lc_map (Zv.d ∘ D.int) (fun i => D.str (S i)) p.ns [] (fun i hi P hP => ?_) ?_
  · have := Pt.bd hp i hi
    simp [wipeE, hP, log_ok this.1 this.2]
  · simp
    refine ⟨by omega, ?_⟩
    simpa [Pt.words, Function.comp_def] using q
theorem rd_part_of {zz ov Q E} (h : sp_part_of zz ov Q E) : zb_part_of (zend ov.length Q E) (startE 2 zz) ov := by
  obtain ⟨p, hp, rfl, rfl, q⟩ := h
  simp [zb_part_of, Pt.words]
  have := Pt.few hp
  have := sz
  refine ⟨by omega, by omega, ?_⟩
  refine lc_map (Zv.d ∘ D.str ∘ S) D.int p.ns [] (fun i hi P hP => ?_) ?_
  · have hb := Pt.bd hp i hi
    obtain ⟨_, h1, _, _, h2, h3⟩ := num_ok hb.1 hb.2
    simp [wipeE]
    exact ⟨i, h3, by omega, hP⟩
  · simp
    refine ⟨by omega, ?_⟩
    simpa [Pt.d] using q
theorem strsOf_map : ∀ ws : List Str, strsOf (ws.map D.str) = some ws
  | [] => rfl
  | w :: ws => by rw [List.map_cons, strsOf, strsOf_map ws]
theorem GoodRow.sum {ws : List Str} (h : GoodRow ws) : (ws.map (·.length)).sum ≤ 35 := by
  have := sum_le (fun w : Str => w.length) 5 ws h.short
  have := h.few
  omega
theorem set_get {env : Z.Env} {own : List Nat} {i : Nat} (hi : i < env.length) {z : Zv} : ((wipeE env own).set i (some z))[i]? = some (some z) := List.getElem?_set_self (by rw [wipeE_len]; exact hi)
theorem nl_len : ("\n" : Str).length = 1 := by decide +kernel
theorem spc_len : (" " : Str).length = 1 := by decide +kernel
theorem e_len : ("" : Str).length = 0 := by decide +kernel
/-- the rows joined -/
theorem join_lc {i : Nat} {env : Z.Env} (hi : i < env.length) {rows : List (List Str)} (hg : ∀ r ∈ rows, GoodRow r) (hl : rows.length ≤ 5) {Q : QE} {E : QX} (q : Q (.d (.str (tx rows))) []) :
    zLcGo (gVar i) ztYes (zOp dAdd (zM1 mJoin (zC (.str " ")) (zVar i)) (zC (.str "\n"))) [i] (rows.map fun ws => Zv.d (.lst (ws.map D.str))) [] env [] (fun y ov2 => ∃ d, vw ov2 y = some d ∧ mJoin "" d fun r => Q (Zv.d r) []) E := by
  have := sz
  refine lc_map (fun ws => Zv.d (.lst (ws.map D.str))) (fun ws => D.str (JS ws ++ "\n")) rows [] (fun ws hw P hP => ?_) ?_
  · simp only [s_gvar, s_op, s_m1, s_c, s_var, set_get hi]
    have g := hg ws hw
    refine ⟨_, rfl, _, rfl, _, rfl, _, ws, rfl, strsOf_map ws, ?_, _, _, rfl, rfl, ?_, hP⟩
    · have := g.sum
      have := g.few
      rw [spc_len]; omega
    · have := JS_len g
      have e : (Txt.join " " ws).length = (JS ws).length := rfl
      rw [nl_len, e]; omega
  · refine ⟨_, rfl, _, rows.map fun ws => JS ws ++ "\n", rfl, ?_, ?_, q⟩
    · have := strsOf_map (rows.map fun ws => JS ws ++ "\n")
      rw [List.map_map] at this
      simpa [Function.comp_def] using this
    · have h := sum_le (fun w : Str => w.length) 43 (rows.map fun ws => JS ws ++ "\n") fun w hw => by
        obtain ⟨ws, hws, rfl⟩ := List.mem_map.mp hw
        have := JS_len (hg ws hws)
        rw [← len_tl, TL.tl_append, nl_tl, List.length_append, len_tl]; simp; omega
      rw [List.length_map] at h ⊢
      rw [e_len]; omega
theorem e_limw {Q : QE} {E : QX} {o : Option Int} (ho : ∀ i, o = some i → 1 ≤ i ∧ i ≤ 8) (q : Q (.d (.str (lw o))) []) : sp_limit_word [.d (limD o)] [] Q E := ⟨o, ho, rfl, rfl, q⟩
theorem rd_rule_text {zz ov Q E} (h : sp_rule_text zz ov Q E) : zb_rule_text (zend ov.length Q E) (startE 5 zz) ov := by
  obtain ⟨r, hr, rfl, rfl, q⟩ := h
  simp [zb_rule_text]
  have := hr.l1; have := hr.l2; have := hr.m1; have := hr.m2; have := hr.u1; have := hr.u2; have := hr.d1; have := hr.d2; have := hr.few
  have := sz
  refine ⟨log_ok (by omega) (by omega), log_ok (by omega) (by omega), e_limw hr.rise ⟨rfl, e_limw hr.fall ⟨rfl, _, ⟨_, rfl, rfl⟩, ?_⟩⟩⟩
  simp only [List.length_cons, List.length_nil]
  refine ⟨by omega, log_ok (by omega) (by omega), log_ok (by omega) (by omega), by omega, by omega, by omega, by omega, ?_⟩
  refine lc_map (Zv.d ∘ Pt.d) (fun p => D.lst (p.words.map D.str)) r.parts [] (fun p hp P hP => ?_) ?_
  · simp [wipeE]
    exact ⟨p, hr.parts p hp, rfl, rfl, rfl, hP⟩
  · simp
    refine ⟨by omega, by omega, ?_⟩
    have key := fun env hi => join_lc (i := 4) (env := env) hi hr.good hr.rows5 q (E := fun x ov1 => E x [])
    simp only [Ru.rows, Ru.first, List.map_cons, List.map_map, Function.comp_def, List.map_nil] at key ⊢
    refine key _ ?_
    show 4 < 5
    decide
theorem words_len {ws : List Str} {w : Str} (hg : ∀ w ∈ ws, w.length ≤ sizeLine) (h : w ∈ ws) : w.length ≤ sizeLine := hg w h
theorem num_lc {i : Nat} {zn : ZE} {n : Int} {env : Z.Env} (hi : i < env.length) (hz : ∀ x Q E, Q (.d (.int n)) [] → zn ((wipeE env [i]).set i x) [] Q E) {ws : List Str} (hg : ∀ w ∈ ws, w.length ≤ sizeLine) {Q : QE} {E : QX} (q : Q (.d (.lst (ws.map fun w => D.bl (isNum w n)))) []) :
    zLcGo (gVar i) ztYes (zCall sp_is_number (zCons (zVar i) (zCons zn zNil))) [i] (ws.map fun w => Zv.d (.str w)) [] env [] Q E := by
  refine lc_map (fun w => Zv.d (.str w)) (fun w => D.bl (isNum w n)) ws [] (fun w hw P hP => ?_) q
  simp only [s_gvar, s_call, s_cons, s_nil, s_var, set_get hi]
  exact ⟨_, rfl, hz _ _ _ ⟨rfl, hg w hw, rfl, hP⟩⟩
theorem rd_is_part_line {zz ov Q E} (h : sp_is_part_line zz ov Q E) : zb_is_part_line (zend ov.length Q E) (startE 3 zz) ov := by
  obtain ⟨ws, n, ne, few, hg, rfl, rfl, q⟩ := h
  have := sz
  cases ws with
  | nil => exact (ne rfl).elim
  | cons w ws =>
    simp [zb_is_part_line, elim_int]
    by_cases hn : (tab_SIZES.lookup w).getD 0 = (ws.length : Int) + 1
    · refine .inl ⟨hn, ?_, ?_⟩
      · simp at few; omega
      · have h := num_lc (i := 2) (zn := zVar 1) (n := n) (env := [some (.d (.lst (D.str w :: ws.map D.str))), some (.d (.int n)), none]) (by simp) (fun x Q E q => ⟨_, rfl, q⟩) (ws := ws) (fun w hw => hg w (List.mem_cons_of_mem _ hw))
          (Q := fun x ov1 => ∃ ds, vwL ov1 [x] = some ds ∧ dAll ds fun r => Q (Zv.d r) []) (E := fun x ov1 => E x []) (by
            refine ⟨_, rfl, ?_⟩
            rw [dAll_map]
            have e : isPL (w :: ws) n = ws.all fun w => isNum w n := by simp [isPL, hn]
            rw [e] at q; exact q)
        exact h
    · refine .inr ⟨hn, ?_⟩
      have e : isPL (w :: ws) n = false := by simp [isPL, hn]
      rw [e] at q; exact q
theorem rd_is_first_line {zz ov Q E} (h : sp_is_first_line zz ov Q E) : zb_is_first_line (zend ov.length Q E) (startE 2 zz) ov := by
  obtain ⟨ws, ne, few, hg, rfl, rfl, q⟩ := h
  have := sz
  simp [zb_is_first_line]
  by_cases hl : ws.length = 7
  · refine .inl ⟨by omega, ?_⟩
    match ws, hl with
    | [a, b, c, d, e, f, g], _ =>
      refine ⟨_, ⟨a, rfl, rfl⟩, ?_⟩
      rw [dNe_str]
      by_cases ha : a = "rule"
      · refine .inl ⟨by simp [ha], by simp; omega, ?_⟩
        refine lc_map (fun w => Zv.d (.str w)) (fun w => D.bl (decide (w = "none") || isNum w 3)) [d, e] [] (fun w hw P hP => ?_) ?_
        · have hw' : w.length ≤ sizeLine := hg w (by simp at hw ⊢; rcases hw with rfl | rfl <;> simp)
          simp [wipeE, sp_is_number]
          by_cases h : w = "none"
          · rw [decide_eq_true h] at hP; exact .inr ⟨h, hP⟩
          · rw [decide_eq_false h] at hP; exact .inl ⟨h, hw', hP⟩
        · refine ⟨_, rfl, ?_⟩
          rw [List.nil_append, dAll_map]
          by_cases h1 : ([d, e].all fun w => decide (w = "none") || isNum w 3) = true
          · refine .inr ⟨by rw [h1], by simp; omega, ?_⟩
            have h := num_lc (i := 1) (zn := zC (.int 3)) (n := 3) (env := [some (.d (.lst (List.map D.str [a, b, c, d, e, f, g]))), none]) (by simp) (fun x Q E q => q) (ws := [b, c, f, g]) (fun w hw => hg w (by simp at hw ⊢; rcases hw with rfl | rfl | rfl | rfl <;> simp))
              (Q := fun x ov1 => ∃ ds, vwL ov1 [x] = some ds ∧ dAll ds fun r => Q (Zv.d r) []) (E := fun x ov1 => E x []) (by
                refine ⟨_, rfl, ?_⟩
                rw [dAll_map]
                have e : isFirst [a, b, c, d, e, f, g] = [b, c, f, g].all fun w => isNum w 3 := by
                  have h1' : (((([a, b, c, d, e, f, g] : List Str).drop 3).take 2).all fun w => decide (w = "none") || isNum w 3) = true := h1
                  have h2' : decide (([a, b, c, d, e, f, g] : List Str)[0]? = some ("rule" : Str)) = true := by simp [ha]
                  unfold isFirst
                  rw [h1', h2']; rfl
                rw [e] at q; exact q)
            exact h
          · refine .inl ⟨by rw [Bool.eq_false_iff.mpr h1], ?_⟩
            have e : isFirst [a, b, c, d, e, f, g] = false := by
              have h1' : (((([a, b, c, d, e, f, g] : List Str).drop 3).take 2).all fun w => decide (w = "none") || isNum w 3) = false := Bool.eq_false_iff.mpr h1
              unfold isFirst
              rw [h1']; simp
            rw [e] at q; exact q
      · refine .inr ⟨by simp [ha], ?_⟩
        have e : isFirst [a, b, c, d, e, f, g] = false := by simp [isFirst, ha]
        rw [e] at q; exact q
  · refine .inr ⟨by omega, ?_⟩
    have e : isFirst ws = false := by simp [isFirst, hl]
    rw [e] at q; exact q
/-! ### the lines -/
theorem lp_step {g : ZG} {t : ZS} {n : Nat} {x : Zv} {xs : List Zv} {S : En} {env : Z.Env} {ov : Ov} : zLoop g t n (x :: xs) S env ov = g x env ov fun env1 ov1 =>
    t { nx := fun env2 ov2 => (ov2.take n).all (OO.below n) = true ∧ zLoop g t n xs S (cutE n env2) (ov2.take n), ct := fun env2 ov2 => (ov2.take n).all (OO.below n) = true ∧ zLoop g t n xs S (cutE n env2) (ov2.take n), bk := fun env2 ov2 => S.nx env2 ov2, rt := S.rt, xr := S.xr } env1 ov1 := rfl
abbrev rowD (ws : List Str) : D := .lst (ws.map D.str)
theorem GoodRow.szs {ws : List Str} (h : GoodRow ws) : ∀ w ∈ ws, w.length ≤ sizeLine := fun w hw => by have := h.short w hw; have := sz; omega
theorem pl_loop {S : En} {z0 z1 z2 z4 : D} (nx : ∀ a b : Option D, S.nx [some (.d z0), some (.d z1), some (.d z2), none, some (.d z4), a.map Zv.d, b.map Zv.d] []) : ∀ (rows : List (List Str)) (k : Nat) (a b : Option D),
    (∀ ws ∈ rows, GoodRow ws) → (∀ (i : Nat) ws, rows[i]? = some ws → (if k + i = 0 then isFirst ws else isPL ws 3) = true) →
    zLoop (gTup' (gCons' (gVar 5) (gCons' (gVar 6) gNil'))) (zIf (ztNot (ztIte (ztB (zCmp dEq (zVar 5) (zC (D.int 0)))) (ztB (zCall sp_is_first_line (zCons (zVar 6) zNil))) (ztB (zCall sp_is_part_line (zCons (zVar 6) (zCons (zC (D.int 3)) zNil)))))) zNever zNext)
      0 ((enumL k (rows.map rowD)).map Zv.d) S [some (.d z0), some (.d z1), some (.d z2), none, some (.d z4), a.map Zv.d, b.map Zv.d] []
  | [], k, a, b, _, _ => nx a b
  | ws :: rows, k, a, b, hg, h => by
    show zLoop _ _ 0 (Zv.d (.tup [.int (k : Int), rowD ws]) :: (enumL (k + 1) (rows.map rowD)).map Zv.d) S _ []
    rw [lp_step]
    have ih := pl_loop nx rows (k + 1) (some (.int k)) (some (rowD ws)) (fun r hr => hg r (List.mem_cons_of_mem _ hr)) (fun i w hw => by
      have := h (i + 1) w (by simpa using hw)
      rw [show k + (i + 1) = k + 1 + i by omega] at this; exact this)
    have h0 := h 0 ws rfl
    have g := hg ws (List.mem_cons_self ..)
    have few : ws.length ≤ 1000 := by have := g.few; omega
    refine ⟨_, rfl, _, _, rfl, _, _, rfl, rfl, ?_⟩
    simp
    by_cases hk : k = 0
    · subst hk
      have h0 : isFirst ws = true := by simpa using h0
      refine .inr ⟨rfl, ws, g.ne, few, g.szs, rfl, rfl, rfl, congrArg (fun b => Zv.d (.bl b)) h0, ?_⟩
      simpa [cutE, cutZ] using ih
    · have h0 : isPL ws 3 = true := by simpa [hk] using h0
      refine .inl ⟨by omega, ws, 3, g.ne, few, g.szs, rfl, rfl, rfl, congrArg (fun b => Zv.d (.bl b)) h0, ?_⟩
      simpa [cutE, cutZ] using ih
theorem rd_parted_lines {zz ov Q E} (h : sp_parted_lines zz ov Q E) : zb_parted_lines (zend ov.length Q E) (startE 7 zz) ov := by
  obtain ⟨r, hr, rfl, rfl, q⟩ := h
  have := sz
  have hl := tx_len hr.good hr.rows5
  have hs := split_tx hr.good
  have h5 := hr.rows5
  have hlen : r.text.length + 2 ≤ sizeLine := by show (tx r.rows).length + 2 ≤ _; omega
  have hs' : Txt.split r.text "\n" = r.rows.map JS ++ [("" : Str)] := hs
  simp [zb_parted_lines]
  refine ⟨_, rfl, by rw [nl_len]; rfl, hlen, by rw [hs']; simp; omega, ?_⟩
  rw [hs']
  show ∃ d, atI _ (-1) = some d ∧ _
  refine ⟨.str "", by simp, ?_⟩
  refine .inr ⟨by simp, ?_⟩
  show ∃ ds, D.lst (cutD _ none (some (-1))) = D.lst ds ∧ _
  refine ⟨_, rfl, by simp; omega, ?_⟩
  rw [cut_l1, List.map_append, List.map_cons, List.map_nil, List.dropLast_concat]
  rw [List.map_map, List.map_map]
  refine lc_map (Zv.d ∘ D.str ∘ JS) rowD r.rows [] (fun ws hw P hP => ?_) ?_
  · have g := hr.good ws hw
    have e := split_JS g
    have := JS_len g
    have := g.few
    simp only [s_gvar, s_m1, s_var, s_c]
    refine ⟨_, rfl, _, rfl, _, rfl, _, rfl, by rw [spc_len]; rfl, by omega, by rw [e]; omega, ?_⟩
    rw [e]; exact hP
  · refine ⟨_, rfl, ?_⟩
    refine pl_loop (S := { nx := zSeq (zIf (ztNot (ztB (zVar 2))) zNever zNext) (zRet (zVar 4)) (zend 0 Q E), rt := (zend 0 Q E).rt, bk := (zend 0 Q E).bk, ct := (zend 0 Q E).ct, xr := (zend 0 Q E).xr }) (fun a b => ?_) r.rows 0 none none hr.good fun i ws hw => ?_
    · simp
      exact q
    · cases i with
      | zero =>
        have e : r.first = ws := by simpa [Ru.rows] using hw
        subst e
        simpa using first_ok hr
      | succ i =>
        have hw : (r.parts.map Pt.words)[i]? = some ws := by simpa [Ru.rows] using hw
        obtain ⟨p, hp, rfl⟩ := List.mem_map.mp (List.mem_of_getElem? hw)
        simpa using PL_ok (hr.parts p hp)
theorem wp_ne0 : ("with_parts" : Str) ≠ "r_parts" ∧ ("with_parts" : Str) ≠ "r_bounds" ∧ ("with_parts" : Str) ≠ "r_limits" := by decide +kernel
theorem wp_ne {r : Ru} (b : D) (h : ((("with_parts" : Str), b) : Str × D) ∈ r.fs) : False := by
  obtain ⟨n1, n2, n3⟩ := wp_ne0
  simp only [Ru.fs, List.mem_cons, Prod.mk.injEq, List.not_mem_nil, or_false] at h
  rcases h with ⟨h, _⟩ | ⟨h, _⟩ | ⟨h, _⟩
  · exact n1 h
  · exact n2 h
  · exact n3 h
theorem split_e : Txt.split ("" : Str) "\n" = [("" : Str)] := by decide +kernel
theorem text_ne {r : Ru} (hr : RuOk r) : ¬ r.text = ("" : Str) := fun h => by
  have h1 := split_tx hr.good
  rw [show tx r.rows = ("" : Str) from h, split_e] at h1
  have := congrArg List.length h1
  simp [Ru.rows] at this
theorem rd_read_rule {zz ov Q E} (h : sp_read_rule zz ov Q E) : zb_read_rule (zend ov.length Q E) (startE 11 zz) ov := by
  obtain ⟨r, hr, rfl, rfl, q⟩ := h
  simp [zb_read_rule]
  refine ⟨rfl, text_ne hr, r, hr, rfl, rfl, rfl, _, rfl, ?_⟩
  have e0 : atI (r.rows.map rowD) 0 = some (rowD r.first) := by simp [Ru.rows]
  have eb : ∀ ws : List Str, cutD (ws.map D.str) (some 1) none = (ws.drop 1).map D.str := fun ws => by simp
  refine ⟨_, e0, ?_⟩
  refine ⟨_, rfl, _, e0, ?_⟩
  have := sz
  have l1 := hr.l1; have l2 := hr.l2; have m1 := hr.m1; have m2 := hr.m2; have u1 := hr.u1; have u2 := hr.u2; have d1 := hr.d1; have d2 := hr.d2; have few := hr.few
  refine ⟨by simp [Ru.first]; omega, _, rfl, by simp [Ru.first]; omega, ?_⟩
  have e1 : (cutD (r.first.map D.str) (some 1) (some 3) ++ cutD (r.first.map D.str) (some 5) none).map Zv.d = [r.least, r.most, r.up, r.down].map fun i => Zv.d (.str (S i)) := by simp [Ru.first]
  rw [e1]
  refine lc_map (fun i => Zv.d (.str (S i))) D.int [r.least, r.most, r.up, r.down] [] (fun i hi P hP => ?_) ?_
  · have hb : 0 ≤ i ∧ i ≤ 60 := by simp at hi; omega
    obtain ⟨_, h1, _, _, h2, h3⟩ := num_ok hb.1 hb.2
    simp [wipeE]
    exact ⟨i, h3, by omega, hP⟩
  refine ⟨_, rfl, _, _, rfl, _, _, rfl, _, _, rfl, _, _, rfl, rfl, ?_⟩
  refine ⟨_, rfl, _, e0, .str (lw r.rise), by simp [Ru.first], r.rise, hr.rise, rfl, rfl, rfl, ?_⟩
  refine ⟨_, rfl, _, e0, .str (lw r.fall), by simp [Ru.first], r.fall, hr.fall, rfl, rfl, rfl, ?_⟩
  refine ⟨_, _, ⟨rfl, rfl⟩, ⟨rfl, rfl, rfl, rfl, rfl, rfl⟩, ?_⟩
  have ok0 : RuOk { r with parts := [] } := ⟨by simp, by simp, l1, l2, m1, m2, hr.rise, hr.fall, u1, u2, d1, d2⟩
  refine ⟨{ r with parts := [] }, .lst [], ok0, .inl rfl, rfl, rfl, rfl, _, rfl, ({ r with parts := [] } : Ru).fs, rfl, ?_, ?_⟩
  · intro a b h e
    subst e
    exact wp_ne b h
  refine ⟨_, rfl, _, rfl, by simp [Ru.rows]; omega, ?_⟩
  have e2 : (cutD (r.rows.map rowD) (some 1) none).map Zv.d = r.parts.map fun p => Zv.d (.lst (p.words.map D.str)) := by simp [Ru.rows, Function.comp_def]
  rw [e2]
  refine lc_map (fun p : Pt => Zv.d (.lst (p.words.map D.str))) Pt.d r.parts [] (fun p hp P hP => ?_) ?_
  · simp [wipeE]
    exact ⟨p, hr.parts p hp, rfl, rfl, rfl, hP⟩
  · refine ⟨rfl, { r with parts := [] }, r.parts, _, hr, .inl rfl, rfl, rfl, rfl, rfl, ?_⟩
    exact q
end K78
namespace K78
open PySem PySem.Spec PyProof.Rows L2 Z
abbrev sp_law_take := spTake
def sp_law_pick : ZSp := fun zz ov Q _ => match zz, ov with
  | [.dw, .d (.lst ds)], [] => ds ≠ [] ∧ ds.length < 1000 ∧ ∀ d ∈ ds, Q (.d d) []
  | _, _ => False
def sp_law_part : ZSp := fun zz ov Q _ => match zz, ov with
  | [.dw], [] => ∀ p : Pt, p.ok = true → Q (.d p.d) []
  | _, _ => False
def caseD (r : Ru) : D := .dic [(kS "least", .int r.least), (kS "most", .int r.most), (kS "rise", limD r.rise), (kS "fall", limD r.fall), (kS "parts", .lst (r.parts.map Pt.d)), (kS "up", .int r.up), (kS "down", .int r.down)]
def sp_law_case : ZSp := fun zz ov Q _ => match zz, ov with
  | [.dw], [] => ∀ r : Ru, RuOk r → Q (.d (caseD r)) []
  | _, _ => False
def sp_law_rule : ZSp := fun zz ov Q _ => ∃ r : Ru, RuOk r ∧ zz = [.d (caseD r)] ∧ ov = [] ∧ Q (.d r.d) []
def sp_law_row_words : ZSp := fun zz ov Q _ => ∃ r : Ru, RuOk r ∧ zz = [.d (caseD r)] ∧ ov = [] ∧ Q (.d (.lst (r.rows.map rowD))) []
def sp_law_lines : ZSp := fun zz ov Q _ => ∃ r : Ru, RuOk r ∧ zz = [.d (caseD r)] ∧ ov = [] ∧ Q (.d (.str r.text)) []
theorem ln_law_pick {zz ov Q E} (h : sp_law_pick zz ov Q E) : zz.length = 2 := by unfold sp_law_pick at h; split at h <;> first | rfl | cases h
theorem ln_law_part {zz ov Q E} (h : sp_law_part zz ov Q E) : zz.length = 1 := by unfold sp_law_part at h; split at h <;> first | rfl | cases h
theorem ln_law_case {zz ov Q E} (h : sp_law_case zz ov Q E) : zz.length = 1 := by unfold sp_law_case at h; split at h <;> first | rfl | cases h
theorem ln_law_rule {zz ov Q E} (h : sp_law_rule zz ov Q E) : zz.length = 1 := by obtain ⟨r, _, rfl, _⟩ := h; rfl
theorem ln_law_row_words {zz ov Q E} (h : sp_law_row_words zz ov Q E) : zz.length = 1 := by obtain ⟨r, _, rfl, _⟩ := h; rfl
theorem ln_law_lines {zz ov Q E} (h : sp_law_lines zz ov Q E) : zz.length = 1 := by obtain ⟨r, _, rfl, _⟩ := h; rfl
def zb_law_pick : ZS := zRet (zOp dIx (zVar 1) (zCall sp_law_take (zCons (zVar 0) (zCons (zLen (zVar 1)) (zNil)))))
def zb_law_part : ZS := zSeq (zPar 1 2 (zCons (zCall sp_law_take (zCons (zVar 0) (zCons (zC (.int 5)) (zNil)))) (zCons (zCall sp_law_pick (zCons (zVar 0) (zCons (zLst (zCons (zC (.int 4)) (zCons (zC (.int 12)) (zCons (zC (.int 12)) (zCons (zC (.int 60)) (zNil)))))) (zNil)))) (zNil)))) (zSeq (zSet 3 (zOp dAdd (zC (.int 1)) (zCall sp_law_take (zCons (zVar 0) (zCons (zVar 2) (zNil)))))) (zSeq (zIf (ztB (zCmp dLt (zVar 1) (zC (.int 2)))) (zRet (zTup (zCons (zC (.str "over")) (zCons (zVar 3) (zCons (zCall sp_law_pick (zCons (zVar 0) (zCons (zLst (zCons (zC (.int 1)) (zCons (zC (.int 1)) (zCons (zC (.int 2)) (zCons (zOp dAdd (zC (.int 1)) (zCall sp_law_take (zCons (zVar 0) (zCons (zC (.int 8)) (zNil))))) (zNil)))))) (zNil)))) (zNil)))))) (zNext)) (zSeq (zIf (ztB (zCmp dLt (zVar 1) (zC (.int 4)))) (zRet (zTup (zCons (zC (.str "under")) (zCons (zVar 3) (zCons (zCall sp_law_pick (zCons (zVar 0) (zCons (zLst (zCons (zC (.int 1)) (zCons (zC (.int 1)) (zCons (zC (.int 2)) (zCons (zOp dAdd (zC (.int 1)) (zCall sp_law_take (zCons (zVar 0) (zCons (zC (.int 8)) (zNil))))) (zNil)))))) (zNil)))) (zNil)))))) (zNext)) (zSeq (zSet 4 (zOp dAdd (zVar 3) (zCall sp_law_take (zCons (zVar 0) (zCons (zCall sp_law_pick (zCons (zVar 0) (zCons (zLst (zCons (zBi dMin2 (zCons (zC (.int 4)) (zCons (zOp dSub (zC (.int 61)) (zVar 3)) (zNil)))) (zCons (zOp dSub (zC (.int 61)) (zVar 3)) (zNil)))) (zNil)))) (zNil)))))) (zRet (zTup (zCons (zC (.str "aim")) (zCons (zVar 3) (zCons (zOp dAdd (zC (.int 1)) (zCall sp_law_take (zCons (zVar 0) (zCons (zVar 3) (zNil))))) (zCons (zVar 4) (zNil)))))))))))
def zb_law_case : ZS := zSeq (zSet 1 (zCall sp_law_pick (zCons (zVar 0) (zCons (zLst (zCons (zC (.int 1)) (zCons (zC (.int 1)) (zCons (zC (.int 1)) (zCons (zC (.int 2)) (zCons (zOp dAdd (zC (.int 1)) (zCall sp_law_take (zCons (zVar 0) (zCons (zC (.int 8)) (zNil))))) (zNil))))))) (zNil))))) (zSeq (zSet 2 (zDictN [(zC (.str "least"), zVar 1), (zC (.str "most"), zBi dMin2 (zCons (zC (.int 8)) (zCons (zOp dAdd (zVar 1) (zCall sp_law_take (zCons (zVar 0) (zCons (zC (.int 8)) (zNil))))) (zNil)))), (zC (.str "rise"), zC .non), (zC (.str "fall"), zC .non)])) (zSeq (zDPut (zVar 2) (zC (.str "parts")) (zLc (ziRng1 (zCons (zCall sp_law_pick (zCons (zVar 0) (zCons (zLst (zCons (zC (.int 0)) (zCons (zC (.int 1)) (zCons (zC (.int 2)) (zCons (zC (.int 2)) (zCons (zC (.int 2)) (zCons (zC (.int 3)) (zCons (zC (.int 4)) (zNil))))))))) (zNil)))) (zNil))) (gVar 3) (ztYes) (zCall sp_law_part (zCons (zVar 0) (zNil))) [3])) (zSeq (zIf (ztB (zCmp dEq (zCall sp_law_take (zCons (zVar 0) (zCons (zC (.int 3)) (zNil)))) (zC (.int 0)))) (zDPut (zVar 2) (zC (.str "rise")) (zCall sp_law_pick (zCons (zVar 0) (zCons (zLst (zCons (zC (.int 1)) (zCons (zC (.int 2)) (zCons (zC (.int 3)) (zCons (zOp dAdd (zC (.int 1)) (zCall sp_law_take (zCons (zVar 0) (zCons (zC (.int 8)) (zNil))))) (zNil)))))) (zNil))))) (zNext)) (zSeq (zIf (ztB (zCmp dEq (zCall sp_law_take (zCons (zVar 0) (zCons (zC (.int 3)) (zNil)))) (zC (.int 0)))) (zDPut (zVar 2) (zC (.str "fall")) (zCall sp_law_pick (zCons (zVar 0) (zCons (zLst (zCons (zC (.int 1)) (zCons (zC (.int 2)) (zCons (zC (.int 3)) (zCons (zOp dAdd (zC (.int 1)) (zCall sp_law_take (zCons (zVar 0) (zCons (zC (.int 8)) (zNil))))) (zNil)))))) (zNil))))) (zNext)) (zSeq (zAsg (zTup (zCons (zCall sp_law_pick (zCons (zVar 0) (zCons (zLst (zCons (zC (.int 1)) (zCons (zC (.int 1)) (zCons (zC (.int 2)) (zCons (zC (.int 3)) (zNil)))))) (zNil)))) (zCons (zCall sp_law_pick (zCons (zVar 0) (zCons (zLst (zCons (zC (.int 1)) (zCons (zC (.int 1)) (zCons (zC (.int 2)) (zCons (zC (.int 3)) (zNil)))))) (zNil)))) (zNil)))) (gTup' (gCons' (gDPut (zVar 2) (zC (.str "up"))) (gCons' (gDPut (zVar 2) (zC (.str "down"))) (gNil'))))) (zRetF (zVar 2)))))))
def zb_law_rule : ZS := zSeq (zSet 1 (zTup (zCons (zDGet (zVar 0) (zC (.str "rise"))) (zCons (zDGet (zVar 0) (zC (.str "fall"))) (zCons (zDGet (zVar 0) (zC (.str "up"))) (zCons (zDGet (zVar 0) (zC (.str "down"))) (zNil))))))) (zSeq (zSet 2 (zDictF [(zC (.str "least"), zDGet (zVar 0) (zC (.str "least"))), (zC (.str "most"), zDGet (zVar 0) (zC (.str "most")))])) (zRet (zMake "Rule" 1 6 sp_Rule_init (zCons (zBi dList (zCons (zDGet (zVar 0) (zC (.str "parts"))) (zNil))) (zNil)) (zCons (zDGet (zVar 2) (zC (.str "least"))) (zCons (zDGet (zVar 2) (zC (.str "most"))) (zCons (zOp dIx (zVar 1) (zC (.int 0))) (zCons (zOp dIx (zVar 1) (zC (.int 1))) (zCons (zOp dIx (zVar 1) (zC (.int 2))) (zCons (zOp dIx (zVar 1) (zC (.int 3))) (zNil))))))))))
def zb_law_row_words : ZS := zSeq (zSet 2 (zLc (ziLst (zLst (zCons (zC (.str "rise")) (zCons (zC (.str "fall")) (zNil))))) (gVar 1) (ztYes) (zIte (ztB (zCmp dIs (zDGet (zVar 0) (zVar 1)) (zC .non))) (zC (.str "none")) (zBi dStr (zCons (zDGet (zVar 0) (zVar 1)) (zNil)))) [1])) (zSeq (zSet 3 (zLst (zCons (zOp dAdd (zOp dAdd (zLst (zCons (zC (.str "rule")) (zCons (zBi dStr (zCons (zDGet (zVar 0) (zC (.str "least"))) (zNil))) (zCons (zBi dStr (zCons (zDGet (zVar 0) (zC (.str "most"))) (zNil))) (zNil))))) (zVar 2)) (zLst (zCons (zBi dStr (zCons (zDGet (zVar 0) (zC (.str "up"))) (zNil))) (zCons (zBi dStr (zCons (zDGet (zVar 0) (zC (.str "down"))) (zNil))) (zNil))))) (zNil)))) (zRet (zOp dAdd (zVar 3) (zLc (ziLst (zDGet (zVar 0) (zC (.str "parts")))) (gVar 5) (ztYes) (zOp dAdd (zLst (zCons (zOp dIx (zVar 5) (zC (.int 0))) (zNil))) (zLc (ziTup (zSl (zVar 5) (zoSome (zC (.int 1))) (zoNone))) (gVar 4) (ztYes) (zBi dStr (zCons (zVar 4) (zNil))) [4])) [5]))))
def zb_law_lines : ZS := zRet (zM1 mJoin (zC (.str "")) (zLc (ziLst (zCall sp_law_row_words (zCons (zVar 0) (zNil)))) (gVar 1) (ztYes) (zOp dAdd (zM1 mJoin (zC (.str " ")) (zVar 1)) (zC (.str "\n"))) [1]))
def zb_law : ZS := zSeq (zSet 2 (zC .non)) (zSeq (zFor (ziRng1 (zCons (zOp dAdd (zC (.int 6)) (zBi dMin2 (zCons (zLen (zVar 0)) (zCons (zC (.int 30)) (zNil))))) (zNil))) (gVar 3) (zSeq (zSet 4 (zCall sp_law_case (zCons (zVar 1) (zNil)))) (zSeq (zPar 5 6 (zCons (zCall sp_law_rule (zCons (zVar 4) (zNil))) (zCons (zCall sp_law_lines (zCons (zVar 4) (zNil))) (zNil)))) (zSeq (zIf (ztOr (ztB (zCmp dNe (zCall sp_rule_text (zCons (zVar 5) (zNil))) (zVar 6))) (ztB (zCmp dNe (zCallK 0 1 [0] sp_rule_text zNil (zCons (zVar 5) (zNil))) (zVar 6)))) (zRet (zC (.bl false))) (zNext)) (zSeq (zSet 7 (zCall sp_read_rule (zCons (zVar 6) (zNil)))) (zSeq (zIf (ztOr (ztB (zNeO "Rule" sp_Rule_eq (zVar 7) (zVar 5))) (ztOr (ztB (zNeO "Rule" sp_Rule_eq (zCallK 0 1 [0] sp_read_rule zNil (zCons (zVar 6) (zNil))) (zVar 5))) (ztB (zCmp dNe (zCall sp_rule_text (zCons (zVar 7) (zNil))) (zVar 6))))) (zRet (zC (.bl false))) (zNext)) (zSeq (zIf (ztAnd (ztB (zCmp dIsNot (zVar 2) (zC .non))) (ztB (zCmp dNe (zEqO "Rule" sp_Rule_eq (zOp dIx (zVar 2) (zC (.int 0))) (zVar 5)) (zCmp dEq (zOp dIx (zVar 2) (zC (.int 1))) (zVar 6))))) (zRet (zC (.bl false))) (zNext)) (zSet 2 (zTup (zCons (zVar 5) (zCons (zVar 6) (zNil)))))))))))) (zRet (zC (.bl true))))
theorem e_take {Q : QE} {E : QX} {n : Int} (h1 : 1 ≤ n) (h2 : n < 1073741824) (q : ∀ k : Int, 0 ≤ k → k < n → Q (.d (.int k)) []) : spTake [.dw, .d (.int n)] [] Q E := ⟨rfl, n, rfl, h1, h2, q⟩
theorem rd_law_pick {zz ov Q E} (h : sp_law_pick zz ov Q E) : zb_law_pick (zend ov.length Q E) (startE 2 zz) ov := by
  unfold sp_law_pick at h; split at h
  · rename_i ds
    obtain ⟨h1, h2, h3⟩ := h
    simp [zb_law_pick, -atI_0]
    have : 0 < ds.length := List.length_pos_iff.mpr h1
    refine e_take (by omega) (by omega) fun k k0 k1 => ⟨rfl, ?_⟩
    have hk : k = ((k.toNat : Nat) : Int) := by omega
    refine ⟨_, rfl, ds[k.toNat]'(by omega), ?_, h3 _ (List.getElem_mem _)⟩
    have h4 := atI_nat (ds := ds) k.toNat
    rw [← hk] at h4
    rw [h4]; exact List.getElem?_eq_getElem _
  · cases h
theorem e_pick {Q : QE} {E : QX} {ds : List D} (h1 : ds ≠ []) (h2 : ds.length < 1000) (q : ∀ d ∈ ds, Q (.d d) []) : sp_law_pick [.dw, .d (.lst ds)] [] Q E := ⟨h1, h2, q⟩
theorem k8 : 8 ≤ sizeLine := by decide
/-- one more drawn below eight, beside others -/
theorem pick4 {Q : QE} {E : QX} {a b c x : Int} (q : ∀ i : Int, (i = a ∨ i = b ∨ i = c ∨ i = x) → Q (.d (.int i)) []) : sp_law_pick [.dw, .d (.lst [.int a, .int b, .int c, .int x])] [] Q E :=
  e_pick (by simp) (by simp) fun d hd => by
    simp only [List.mem_cons, List.not_mem_nil, or_false] at hd
    rcases hd with rfl | rfl | rfl | rfl
    · exact q _ (.inl rfl)
    · exact q _ (.inr (.inl rfl))
    · exact q _ (.inr (.inr (.inl rfl)))
    · exact q _ (.inr (.inr (.inr rfl)))
theorem pick2 {Q : QE} {E : QX} {a b : Int} (q : ∀ i : Int, (i = a ∨ i = b) → Q (.d (.int i)) []) : sp_law_pick [.dw, .d (.lst [.int a, .int b])] [] Q E :=
  e_pick (by simp) (by simp) fun d hd => by
    simp only [List.mem_cons, List.not_mem_nil, or_false] at hd
    rcases hd with rfl | rfl
    · exact q _ (.inl rfl)
    · exact q _ (.inr rfl)
theorem rd_law_part {zz ov Q E} (h : sp_law_part zz ov Q E) : zb_law_part (zend ov.length Q E) (startE 5 zz) ov := by
  unfold sp_law_part at h; split at h
  · have k8 := k8
    have k4 : 4 ≤ sizeLine := by omega
    have k3 : 3 ≤ sizeLine := by omega
    have k2 : 2 ≤ sizeLine := by omega
    simp [zb_law_part]
    refine e_take (by decide) (by decide) fun way w0 w1 => ⟨rfl, k4, pick4 fun top ht => ⟨rfl, _, _, ⟨rfl, rfl⟩, rfl, ?_⟩⟩
    refine e_take (by omega) (by omega) fun m m0 m1 => ⟨rfl, _, rfl, ?_⟩
    refine ⟨_, rfl, ?_⟩
    by_cases c1 : way < 2
    · refine Or.inr ⟨decide_eq_true c1, ?_⟩
      refine e_take (by decide) (by decide) fun k k0 k1 => ⟨rfl, _, rfl, k4, pick4 fun j hj => ⟨rfl, _, ⟨_, ⟨_, rfl, rfl⟩, rfl⟩, k3, ?_⟩⟩
      exact h ⟨"over", [1 + m, j]⟩ (ok_over (.inl rfl) (by omega) (by omega))
    · refine Or.inl ⟨decide_eq_false c1, _, rfl, ?_⟩
      by_cases c2 : way < 4
      · refine Or.inr ⟨decide_eq_true c2, ?_⟩
        refine e_take (by decide) (by decide) fun k k0 k1 => ⟨rfl, _, rfl, k4, pick4 fun j hj => ⟨rfl, _, ⟨_, ⟨_, rfl, rfl⟩, rfl⟩, k3, ?_⟩⟩
        exact h ⟨"under", [1 + m, j]⟩ (ok_over (.inr rfl) (by omega) (by omega))
      · refine Or.inl ⟨decide_eq_false c2, ?_⟩
        refine ⟨k2, pick2 fun t ht => ⟨rfl, ?_⟩⟩
        have ht2 : 1 ≤ t ∧ t ≤ 61 - (1 + m) := by
          rcases ht with rfl | rfl
          · show 1 ≤ (if 61 - (1 + m) < 4 then 61 - (1 + m) else 4) ∧ (if 61 - (1 + m) < 4 then 61 - (1 + m) else 4) ≤ _
            split <;> omega
          · show 1 ≤ 61 - (1 + m) ∧ 61 - (1 + m) ≤ 61 - (1 + m)
            omega
        refine e_take (by omega) (by omega) fun hi h0 h1 => ⟨rfl, _, rfl, ?_⟩
        rw [dAdd_int]
        refine e_take (by omega) (by omega) fun lo l0 l1 => ⟨rfl, _, rfl, k4, ?_⟩
        exact h ⟨"aim", [1 + m, 1 + lo, 1 + m + hi]⟩ (ok_aim (by omega) (by omega) (by omega))
  · cases h
theorem pickI {Q : QE} {E : QX} {is : List Int} (ne : is ≠ []) (hl : is.length < 1000) (q : ∀ i ∈ is, Q (.d (.int i)) []) : sp_law_pick [.dw, .d (.lst (is.map D.int))] [] Q E :=
  e_pick (by simpa using ne) (by simpa using hl) fun d hd => by
    obtain ⟨i, hi, rfl⟩ := List.mem_map.mp hd
    exact q i hi
theorem keys_nd : [kS "least", kS "most", kS "rise", kS "fall", kS "parts", kS "up", kS "down"].Nodup := by decide +kernel
theorem keys_ne : kS "least" ≠ kS "most" ∧ kS "least" ≠ kS "rise" ∧ kS "least" ≠ kS "fall" ∧ kS "least" ≠ kS "parts" ∧ kS "least" ≠ kS "up" ∧ kS "least" ≠ kS "down" ∧ kS "most" ≠ kS "rise" ∧ kS "most" ≠ kS "fall" ∧ kS "most" ≠ kS "parts" ∧ kS "most" ≠ kS "up" ∧ kS "most" ≠ kS "down" ∧
    kS "rise" ≠ kS "fall" ∧ kS "rise" ≠ kS "parts" ∧ kS "rise" ≠ kS "up" ∧ kS "rise" ≠ kS "down" ∧ kS "fall" ≠ kS "parts" ∧ kS "fall" ≠ kS "up" ∧ kS "fall" ≠ kS "down" ∧ kS "parts" ≠ kS "up" ∧ kS "parts" ≠ kS "down" ∧ kS "up" ≠ kS "down" := by decide +kernel
def cz (f m : Int) (ri fa : Option Int) (ps : List Pt) : List (Key × Zv) := [(kS "least", .d (.int f)), (kS "most", .d (.int m)), (kS "rise", .d (limD ri)), (kS "fall", .d (limD fa)), (kS "parts", .d (.lst (ps.map Pt.d)))]
theorem put_parts {f m : Int} {z : Zv} : putZ [(kS "least", .d (.int f)), (kS "most", .d (.int m)), (kS "rise", .d .non), (kS "fall", .d .non)] (kS "parts") z = [(kS "least", .d (.int f)), (kS "most", .d (.int m)), (kS "rise", .d .non), (kS "fall", .d .non), (kS "parts", z)] := by
  simp [putZ, keys_ne]
theorem put_rise {f m i : Int} {ri fa : Option Int} {ps : List Pt} : putZ (cz f m ri fa ps) (kS "rise") (.d (.int i)) = cz f m (some i) fa ps := by
  have := keys_ne
  simp [putZ, cz, limD, keys_ne, Ne.symm, Ne.symm keys_ne.2.2.2.2.2.2.2.2.2.2.2.1, Ne.symm keys_ne.2.2.2.2.2.2.2.2.2.2.2.2.1]
theorem put_fall {f m i : Int} {ri fa : Option Int} {ps : List Pt} : putZ (cz f m ri fa ps) (kS "fall") (.d (.int i)) = cz f m ri (some i) ps := by
  have := keys_ne
  simp [putZ, cz, limD, keys_ne, Ne.symm keys_ne.2.2.2.2.2.2.2.2.2.2.2.2.2.2.2.1]
theorem put_ud {f m u d : Int} {ri fa : Option Int} {ps : List Pt} : putZ (putZ (cz f m ri fa ps) (kS "up") (.d (.int u))) (kS "down") (.d (.int d)) = cz f m ri fa ps ++ [(kS "up", .d (.int u)), (kS "down", .d (.int d))] := by
  simp [putZ, cz, keys_ne]
theorem merge4 {a b c d : Zv} : mergeZ [] [(kS "least", a), (kS "most", b), (kS "rise", c), (kS "fall", d)] = [(kS "least", a), (kS "most", b), (kS "rise", c), (kS "fall", d)] := by
  simp [mergeZ, putZ, keys_ne]
theorem keys4 {a b c d : Zv} : keysZ [(.d (.str "least"), a), (.d (.str "most"), b), (.d (.str "rise"), c), (.d (.str "fall"), d)] = some [(kS "least", a), (kS "most", b), (kS "rise", c), (kS "fall", d)] := rfl
def lim8 (o : Option Int) : Prop := ∀ i, o = some i → 1 ≤ i ∧ i ≤ 8
theorem opt_rise {S : En} {z1 z3 : Option Zv} {f m : Int} {ri fa : Option Int} {ps : List Pt} (hri : lim8 ri) (h : ∀ r, lim8 r → S.nx [some .dw, z1, some (.r 0), z3] [.dic (cz f m r fa ps)]) :
    zIf (ztB (zCmp dEq (zCall sp_law_take (zCons (zVar 0) (zCons (zC (.int 3)) (zNil)))) (zC (.int 0)))) (zDPut (zVar 2) (zC (.str "rise")) (zCall sp_law_pick (zCons (zVar 0) (zCons (zLst (zCons (zC (.int 1)) (zCons (zC (.int 2)) (zCons (zC (.int 3)) (zCons (zOp dAdd (zC (.int 1)) (zCall sp_law_take (zCons (zVar 0) (zCons (zC (.int 8)) (zNil))))) (zNil)))))) (zNil))))) (zNext) S [some .dw, z1, some (.r 0), z3] [.dic (cz f m ri fa ps)] := by
  simp
  refine e_take (by decide) (by decide) fun k k0 k1 => ⟨rfl, _, rfl, ?_⟩
  rw [dEq_int]
  by_cases e : k = 0
  · refine Or.inr ⟨by simp [e], ?_⟩
    refine e_take (by decide) (by decide) fun j j0 j1 => ⟨rfl, _, rfl, by have := k8; omega, pick4 fun i hi => ⟨rfl, by have := k8; have := sz; simp [cz]; omega, ?_⟩⟩
    have := put_rise (f := f) (m := m) (i := i) (ri := ri) (fa := fa) (ps := ps)
    rw [this]
    exact h (some i) fun i' e => by cases e; omega
  · exact Or.inl ⟨by simpa using e, h ri hri⟩
theorem opt_fall {S : En} {z1 z3 : Option Zv} {f m : Int} {ri fa : Option Int} {ps : List Pt} (hri : lim8 fa) (h : ∀ r, lim8 r → S.nx [some .dw, z1, some (.r 0), z3] [.dic (cz f m ri r ps)]) :
    zIf (ztB (zCmp dEq (zCall sp_law_take (zCons (zVar 0) (zCons (zC (.int 3)) (zNil)))) (zC (.int 0)))) (zDPut (zVar 2) (zC (.str "fall")) (zCall sp_law_pick (zCons (zVar 0) (zCons (zLst (zCons (zC (.int 1)) (zCons (zC (.int 2)) (zCons (zC (.int 3)) (zCons (zOp dAdd (zC (.int 1)) (zCall sp_law_take (zCons (zVar 0) (zCons (zC (.int 8)) (zNil))))) (zNil)))))) (zNil))))) (zNext) S [some .dw, z1, some (.r 0), z3] [.dic (cz f m ri fa ps)] := by
  simp
  refine e_take (by decide) (by decide) fun k k0 k1 => ⟨rfl, _, rfl, ?_⟩
  rw [dEq_int]
  by_cases e : k = 0
  · refine Or.inr ⟨by simp [e], ?_⟩
    refine e_take (by decide) (by decide) fun j j0 j1 => ⟨rfl, _, rfl, by have := k8; omega, pick4 fun i hi => ⟨rfl, by have := k8; have := sz; simp [cz]; omega, ?_⟩⟩
    have := put_fall (f := f) (m := m) (i := i) (ri := ri) (fa := fa) (ps := ps)
    rw [this]
    exact h (some i) fun i' e => by cases e; omega
  · exact Or.inl ⟨by simpa using e, h fa hri⟩
theorem good_map : ∀ (ds : List D), (∀ d ∈ ds, ∃ p : Pt, p.ok = true ∧ d = p.d) → ∃ ps : List Pt, ds = ps.map Pt.d ∧ ∀ p ∈ ps, p.ok = true
  | [], _ => ⟨[], rfl, by simp⟩
  | d :: ds, h => by
    obtain ⟨p, hp, rfl⟩ := h d (List.mem_cons_self ..)
    obtain ⟨ps, rfl, hps⟩ := good_map ds fun x hx => h x (List.mem_cons_of_mem _ hx)
    exact ⟨p :: ps, rfl, fun q hq => by
      rcases List.mem_cons.mp hq with rfl | hq
      · exact hp
      · exact hps q hq⟩
theorem rd_law_case {zz ov Q E} (h : sp_law_case zz ov Q E) : zb_law_case (zend ov.length Q E) (startE 4 zz) ov := by
  unfold sp_law_case at h; split at h
  · have k8 := k8
    have sz := sz
    have k7 : 7 ≤ sizeLine := by omega
    have k5 : 5 ≤ sizeLine := by omega
    have k4 : 4 ≤ sizeLine := by omega
    have k2 : 2 ≤ sizeLine := by omega
    unfold zb_law_case
    rw [s_seq]
    simp [-s_seq]
    refine e_take (by decide) (by decide) fun k k0 k1 => ⟨rfl, _, rfl, k5, pickI (is := [1, 1, 1, 2, 1 + k]) (by simp) (by simp) fun f hf => ⟨rfl, ?_⟩⟩
    have hf : 1 ≤ f ∧ f ≤ 8 := by simp at hf; omega
    rw [s_seq]
    simp [-s_seq]
    refine e_take (by decide) (by decide) fun k k0 k1 => ⟨rfl, _, rfl, ?_⟩
    rw [dAdd_int, dMin2_int]
    have hm : ∃ m, (if f + k < 8 then f + k else 8) = m ∧ f ≤ m ∧ m ≤ 8 := ⟨_, rfl, by split <;> omega, by split <;> omega⟩
    obtain ⟨m, em, hm⟩ := hm
    rw [em]
    refine ⟨_, keys4, by simp, ?_⟩
    rw [merge4]
    rw [s_seq]
    simp [-s_seq]
    refine ⟨k7, pickI (is := [0, 1, 2, 2, 2, 3, 4]) (by simp) (by simp) fun n hn => ⟨rfl, n, rfl, ?_⟩⟩
    have hn : 0 ≤ n ∧ n ≤ 4 := by simp at hn; omega
    refine ⟨by omega, by omega, by unfold rngL; simp; omega, ?_⟩
    refine lc_all (fun i : Nat => Zv.d (.int (0 + (i : Int)))) (fun d => ∃ p : Pt, p.ok = true ∧ d = p.d) (List.range n.toNat) [] (fun i hi P hP => ?_) fun ds hl hg => ?_
    · simp [wipeE]
      exact fun p hp => ⟨rfl, hP _ ⟨p, hp, rfl⟩⟩
    obtain ⟨ps, rfl, hps⟩ := good_map ds hg
    have hps4 : ps.length ≤ 4 := by simp at hl; omega
    refine ⟨_, rfl, by simp; omega, ?_⟩
    rw [List.nil_append, put_parts]
    show zSeq _ _ _ _ [.dic (cz f m none none ps)]
    rw [s_seq]
    refine opt_rise (fun i e => by cases e) fun ri hri => ?_
    show zSeq _ _ _ _ _
    rw [s_seq]
    refine opt_fall (fun i e => by cases e) fun fa hfa => ?_
    show zSeq _ _ _ _ _
    rw [s_seq]
    simp [-s_retF]
    refine ⟨k4, pickI (is := [1, 1, 2, 3]) (by simp) (by simp) fun u hu => ⟨rfl, k4, pickI (is := [1, 1, 2, 3]) (by simp) (by simp) fun d hd => ⟨rfl, ?_⟩⟩⟩
    have hu : 1 ≤ u ∧ u ≤ 3 := by simp at hu; omega
    have hd : 1 ≤ d ∧ d ≤ 3 := by simp at hd; omega
    have cl : (cz f m ri fa ps).length < sizeLine := by simp [cz]; omega
    have cl2 : (putZ (cz f m ri fa ps) (kS "up") (.d (.int u))).length < sizeLine := by simp [putZ, cz, keys_ne]; omega
    refine ⟨_, rfl, k2, _, _, rfl, cl, _, _, rfl, cl2, rfl, ?_⟩
    rw [put_ud]
    refine ⟨.r 0, rfl, caseD ⟨ps, f, m, ri, fa, u, d⟩, [.gone], rfl, rfl, rfl, ?_⟩
    exact h _ ⟨hps4, hps, hf.1, hf.2, hm.1, hm.2, hri, hfa, hu.1, hu.2, hd.1, hd.2⟩
  · cases h
/-! ### the case's dict, read -/
def caseZ (r : Ru) : List (Key × Zv) := [(kS "least", .d (.int r.least)), (kS "most", .d (.int r.most)), (kS "rise", .d (limD r.rise)), (kS "fall", .d (limD r.fall)), (kS "parts", .d (.lst (r.parts.map Pt.d))), (kS "up", .d (.int r.up)), (kS "down", .d (.int r.down))]
theorem cd_dic {r : Ru} {ov : Ov} : dicZ ov (.d (caseD r)) = some (caseZ r) := rfl
section
variable {r : Ru}
theorem g_least : getK (caseZ r) (kS "least") = some (.d (.int r.least)) := by simp [getK, caseZ]
theorem g_most : getK (caseZ r) (kS "most") = some (.d (.int r.most)) := by simp [getK, caseZ, keys_ne]
theorem g_rise : getK (caseZ r) (kS "rise") = some (.d (limD r.rise)) := by simp [getK, caseZ, keys_ne]
theorem g_fall : getK (caseZ r) (kS "fall") = some (.d (limD r.fall)) := by simp [getK, caseZ, keys_ne]
theorem g_parts : getK (caseZ r) (kS "parts") = some (.d (.lst (r.parts.map Pt.d))) := by simp [getK, caseZ, keys_ne]
theorem g_up : getK (caseZ r) (kS "up") = some (.d (.int r.up)) := by simp [getK, caseZ, keys_ne]
theorem g_down : getK (caseZ r) (kS "down") = some (.d (.int r.down)) := by simp [getK, caseZ, keys_ne]
end
theorem rd_law_rule {zz ov Q E} (h : sp_law_rule zz ov Q E) : zb_law_rule (zend ov.length Q E) (startE 3 zz) ov := by
  obtain ⟨r, hr, rfl, rfl, q⟩ := h
  simp [zb_law_rule, cd_dic, g_least, g_most, g_rise, g_fall, g_parts, g_up, g_down]
  have m2 : mergeZ [] [(kS "least", Zv.d (.int r.least)), (kS "most", Zv.d (.int r.most))] = [(kS "least", Zv.d (.int r.least)), (kS "most", Zv.d (.int r.most))] := by simp [mergeZ, putZ, keys_ne]
  refine ⟨by have := k8; omega, _, rfl, by simp, ?_⟩
  rw [show (Sum.inr (Str.ofString "least") : Key) = kS "least" from rfl, show (Sum.inr (Str.ofString "most") : Key) = kS "most" from rfl, m2]
  refine ⟨_, rfl, _, rfl, _, by simp [getK], _, rfl, _, by simp [getK, keys_ne], ⟨rfl, rfl⟩, e_init hr (.inl rfl) q rfl rfl rfl rfl rfl rfl⟩
theorem rd_law_row_words {zz ov Q E} (h : sp_law_row_words zz ov Q E) : zb_law_row_words (zend ov.length Q E) (startE 6 zz) ov := by
  obtain ⟨r, hr, rfl, rfl, q⟩ := h
  simp [zb_law_row_words, cd_dic, g_least, g_most, g_rise, g_fall, g_parts, g_up, g_down]
  have l1 := hr.l1; have l2 := hr.l2; have m1 := hr.m1; have m2 := hr.m2; have u1 := hr.u1; have u2 := hr.u2; have d1 := hr.d1; have d2 := hr.d2; have few := hr.few
  have sz := sz
  have k8 := k8
  refine ⟨by omega, ?_⟩
  refine lc_map (fun q : String × Option Int => Zv.d (.str (Str.ofString q.1))) (fun q => D.str (lw q.2)) [("rise", r.rise), ("fall", r.fall)] [] (fun x hx P hP => ?_) ?_
  · simp only [List.mem_cons, List.not_mem_nil, or_false] at hx
    rcases hx with rfl | rfl
    · simp [wipeE, cd_dic, g_rise]
      have hl := hr.rise
      cases hv : r.rise with
      | none => simp only [hv, lw] at hP; exact .inr ⟨rfl, hP⟩
      | some i =>
        have := hl i hv
        simp only [hv, lw] at hP
        exact .inl ⟨rfl, by simp [limD]; exact ⟨log_ok (by omega) (by omega), hP⟩⟩
    · simp [wipeE, cd_dic, g_fall]
      have hl := hr.fall
      cases hv : r.fall with
      | none => simp only [hv, lw] at hP; exact .inr ⟨rfl, hP⟩
      | some i =>
        have := hl i hv
        simp only [hv, lw] at hP
        exact .inl ⟨rfl, by simp [limD]; exact ⟨log_ok (by omega) (by omega), hP⟩⟩
  · refine ⟨log_ok (by omega) (by omega), log_ok (by omega) (by omega), by omega, _, rfl, ?_⟩
    rw [List.nil_append, dAdd_lst]
    refine ⟨by simp; omega, log_ok (by omega) (by omega), log_ok (by omega) (by omega), by omega, ?_⟩
    rw [dAdd_lst]
    refine ⟨by simp; omega, by omega, by omega, ?_⟩
    refine lc_map (Zv.d ∘ Pt.d) (fun p => rowD p.words) r.parts [] (fun p hp P hP => ?_) ?_
    · have hok := hr.parts p hp
      have := Pt.few hok
      simp [wipeE, Pt.d]
      refine ⟨by omega, by omega, ?_⟩
      refine lc_map (Zv.d ∘ D.int) (fun i => D.str (S i)) p.ns [] (fun i hi P hP => ?_) ?_
      · have := Pt.bd hok i hi
        simp [wipeE, hP, log_ok this.1 this.2]
      · simp
        refine ⟨by omega, ?_⟩
        simpa [Pt.words, rowD, Function.comp_def] using hP
    · refine ⟨_, rfl, ?_⟩
      rw [List.nil_append, dAdd_lst]
      refine ⟨by simp; omega, ?_⟩
      have e : (r.rows.map rowD) = [D.lst ([D.str "rule", D.str (S r.least), D.str (S r.most)] ++ [("rise", r.rise), ("fall", r.fall)].map (fun q : String × Option Int => D.str (lw q.2)) ++ [D.str (S r.up), D.str (S r.down)])] ++ r.parts.map fun p => rowD p.words := by
        simp [Ru.rows, Ru.first, Function.comp_def]
      rw [e] at q
      exact q
theorem rd_law_lines {zz ov Q E} (h : sp_law_lines zz ov Q E) : zb_law_lines (zend ov.length Q E) (startE 2 zz) ov := by
  obtain ⟨r, hr, rfl, rfl, q⟩ := h
  simp [zb_law_lines]
  have := hr.rows5
  have := sz
  refine ⟨r, hr, rfl, rfl, rfl, _, rfl, by simp; omega, ?_⟩
  rw [List.map_map]
  refine join_lc (rows := r.rows) ?_ hr.good hr.rows5 q
  show 1 < 2
  decide
/-- what stands in _law_last -/
inductive LastOk : D → Prop
  | non : LastOk .non
  | tup (r : Ru) : RuOk r → LastOk (.tup [r.d, .str r.text])
theorem e_text {Q : QE} {E : QX} {r : Ru} (hr : RuOk r) (q : Q (.d (.str r.text)) []) : sp_rule_text [.d r.d] [] Q E := ⟨r, hr, rfl, rfl, q⟩
theorem e_read {Q : QE} {E : QX} {r : Ru} (hr : RuOk r) (q : Q (.d r.d) []) : sp_read_rule [.d (.str r.text)] [] Q E := ⟨r, hr, rfl, rfl, q⟩
theorem e_eq {Q : QE} {E : QX} {r s : Ru} (hr : RuOk r) (hs : RuOk s) (q : Q (.d (.bl (decide (r = s)))) []) : sp_Rule_eq [.d r.d, .d s.d] [] Q E := ⟨r, s, hr, hs, rfl, rfl, q⟩
theorem okY_d {r : Ru} : okY "Rule" r.d = true := by simp [okY, Ru.d]
theorem d_obj (r : Ru) : r.d = .obj "Rule" r.fs := rfl
theorem law_body {S : En} {ns : List Int} {l x : D} {e4 e5 e6 e7 : Option Zv} (hl : LastOk l) (h : ∀ (r : Ru) (c : D), RuOk r → S.nx [some (.sc ns), some .dw, some (.d (.tup [r.d, .str r.text])), some (.d x), some (.d c), some (.d r.d), some (.d (.str r.text)), some (.d r.d)] []) :
    (zSeq (zSet 4 (zCall sp_law_case (zCons (zVar 1) (zNil)))) (zSeq (zPar 5 6 (zCons (zCall sp_law_rule (zCons (zVar 4) (zNil))) (zCons (zCall sp_law_lines (zCons (zVar 4) (zNil))) (zNil)))) (zSeq (zIf (ztOr (ztB (zCmp dNe (zCall sp_rule_text (zCons (zVar 5) (zNil))) (zVar 6))) (ztB (zCmp dNe (zCallK 0 1 [0] sp_rule_text zNil (zCons (zVar 5) (zNil))) (zVar 6)))) (zRet (zC (.bl false))) (zNext)) (zSeq (zSet 7 (zCall sp_read_rule (zCons (zVar 6) (zNil)))) (zSeq (zIf (ztOr (ztB (zNeO "Rule" sp_Rule_eq (zVar 7) (zVar 5))) (ztOr (ztB (zNeO "Rule" sp_Rule_eq (zCallK 0 1 [0] sp_read_rule zNil (zCons (zVar 6) (zNil))) (zVar 5))) (ztB (zCmp dNe (zCall sp_rule_text (zCons (zVar 7) (zNil))) (zVar 6))))) (zRet (zC (.bl false))) (zNext)) (zSeq (zIf (ztAnd (ztB (zCmp dIsNot (zVar 2) (zC .non))) (ztB (zCmp dNe (zEqO "Rule" sp_Rule_eq (zOp dIx (zVar 2) (zC (.int 0))) (zVar 5)) (zCmp dEq (zOp dIx (zVar 2) (zC (.int 1))) (zVar 6))))) (zRet (zC (.bl false))) (zNext)) (zSet 2 (zTup (zCons (zVar 5) (zCons (zVar 6) (zNil))))))))))) S [some (.sc ns), some .dw, some (.d l), some (.d x), e4, e5, e6, e7] [] := by
  rw [s_seq]
  simp [-s_seq]
  refine fun r hr => ⟨rfl, ?_⟩
  rw [s_seq]
  simp [-s_seq]
  refine ⟨r, hr, rfl, rfl, rfl, r, hr, rfl, rfl, rfl, _, _, ⟨rfl, rfl⟩, ?_⟩
  rw [s_seq]
  simp [-s_seq]
  refine e_text hr ⟨rfl, _, rfl, ?_⟩
  rw [dNe_str]
  refine .inl ⟨by simp, e_text hr ⟨rfl, _, rfl, ?_⟩⟩
  rw [dNe_str]
  refine .inl ⟨by simp, ?_⟩
  rw [s_seq]
  simp [-s_seq]
  refine e_read hr ⟨rfl, ?_⟩
  rw [s_seq]
  simp [-s_seq, okY_d]
  refine e_eq hr hr ⟨rfl, .inr ⟨by simp, e_read hr ⟨rfl, ⟨_, rfl⟩, e_eq hr hr ⟨rfl, .inr ⟨by simp, e_text hr ⟨rfl, _, rfl, ?_⟩⟩⟩⟩⟩⟩
  rw [dNe_str]
  refine .inl ⟨by simp, ?_⟩
  rw [s_seq]
  have k2 : 2 ≤ sizeLine := by have := k8; omega
  cases hl with
  | non => simp [isN, k2]; exact h r _ hr
  | tup r' hr' =>
    simp [isN, k2, okY_d]
    refine e_eq hr' hr ⟨rfl, ?_⟩
    by_cases e : r' = r
    · exact .inr ⟨by simp [e], .inl ⟨by rw [e], h r _ hr⟩⟩
    · exact .inl ⟨by simp [e], .inl ⟨fun z => e (text_inj hr' hr z), h r _ hr⟩⟩
theorem law_loop {S : En} {ns : List Int} (nx : ∀ l e3 e4 e5 e6 e7 : Option D, S.nx [some (.sc ns), some .dw, l.map Zv.d, e3.map Zv.d, e4.map Zv.d, e5.map Zv.d, e6.map Zv.d, e7.map Zv.d] []) : ∀ (xs : List D) (l : D) (e3 e4 e5 e6 e7 : Option D), LastOk l →
    zLoop (gVar 3) (zSeq (zSet 4 (zCall sp_law_case (zCons (zVar 1) (zNil)))) (zSeq (zPar 5 6 (zCons (zCall sp_law_rule (zCons (zVar 4) (zNil))) (zCons (zCall sp_law_lines (zCons (zVar 4) (zNil))) (zNil)))) (zSeq (zIf (ztOr (ztB (zCmp dNe (zCall sp_rule_text (zCons (zVar 5) (zNil))) (zVar 6))) (ztB (zCmp dNe (zCallK 0 1 [0] sp_rule_text zNil (zCons (zVar 5) (zNil))) (zVar 6)))) (zRet (zC (.bl false))) (zNext)) (zSeq (zSet 7 (zCall sp_read_rule (zCons (zVar 6) (zNil)))) (zSeq (zIf (ztOr (ztB (zNeO "Rule" sp_Rule_eq (zVar 7) (zVar 5))) (ztOr (ztB (zNeO "Rule" sp_Rule_eq (zCallK 0 1 [0] sp_read_rule zNil (zCons (zVar 6) (zNil))) (zVar 5))) (ztB (zCmp dNe (zCall sp_rule_text (zCons (zVar 7) (zNil))) (zVar 6))))) (zRet (zC (.bl false))) (zNext)) (zSeq (zIf (ztAnd (ztB (zCmp dIsNot (zVar 2) (zC .non))) (ztB (zCmp dNe (zEqO "Rule" sp_Rule_eq (zOp dIx (zVar 2) (zC (.int 0))) (zVar 5)) (zCmp dEq (zOp dIx (zVar 2) (zC (.int 1))) (zVar 6))))) (zRet (zC (.bl false))) (zNext)) (zSet 2 (zTup (zCons (zVar 5) (zCons (zVar 6) (zNil))))))))))) 0 (xs.map Zv.d) S [some (.sc ns), some .dw, some (.d l), e3.map Zv.d, e4.map Zv.d, e5.map Zv.d, e6.map Zv.d, e7.map Zv.d] []
  | [], l, e3, e4, e5, e6, e7, _ => nx (some l) e3 e4 e5 e6 e7
  | x :: xs, l, e3, e4, e5, e6, e7, hl => by
    rw [List.map_cons, lp_step, s_gvar]
    refine law_body hl fun r c hr => ⟨rfl, ?_⟩
    exact law_loop nx xs _ (some x) (some c) (some r.d) (some (.str r.text)) (some r.d) (.tup r hr)
theorem rd_law : ∀ ns : List Int, ns.length ≤ 63 → zb_law endL (envL 8 ns) [] := by
  intro ns hn
  unfold zb_law
  rw [s_seq]
  simp [-s_seq, envL]
  rw [s_seq]
  simp [-s_seq]
  have hb : (6 + if (30 : Int) < (ns.length : Int) then (30 : Int) else (ns.length : Int)) ≤ 16777216 ∧ -16777216 ≤ (6 + if (30 : Int) < (ns.length : Int) then (30 : Int) else (ns.length : Int)) := by split <;> omega
  refine .inl ⟨hb.1, hb.2, ?_⟩
  have e : ∀ n : Nat, rngL 0 n = ((List.range n).map fun i : Nat => D.int (0 + (i : Int))).map Zv.d := fun n => by simp [rngL]
  rw [e]
  refine law_loop (S := { nx := zRet (zC (D.bl true)) endL, rt := endL.rt, bk := endL.bk, ct := endL.ct, xr := endL.xr }) (fun l e3 e4 e5 e6 e7 => ?_) _ .non none none none none none .non
  exact rfl
end K78
namespace K78
open PySem PySem.Spec PyProof.Rows L2 Z
def top (i : Nat) : Stmt := PySem.Challenge.pw_allloads_k78_texts_of_rules.main.body.getD i (.Pass ⟨0, 0, 0, 0⟩)
def clsB : Stmt → List Stmt
  | .ClassDef _ _ _ body _ _ _ _ _ _ _ => body
  | _ => []
def mth (c j : Nat) : Stmt := (clsB (top c)).getD j (.Pass ⟨0, 0, 0, 0⟩)
def d_is_integer : ZH.DefP := ⟨fun K => He.ga K "is_integer", "is_integer", "is_integer", defArgs (top 6), defBody (top 6), defScope (top 6), [], []⟩
def d_is_between : ZH.DefP := ⟨fun K => He.ga K "is_between", "is_between", "is_between", defArgs (top 13), defBody (top 13), defScope (top 13), [], []⟩
def d_is_part : ZH.DefP := ⟨fun K => He.ga K "is_part", "is_part", "is_part", defArgs (top 14), defBody (top 14), defScope (top 14), [], []⟩
def d_are_parts : ZH.DefP := ⟨fun K => He.ga K "are_parts", "are_parts", "are_parts", defArgs (top 15), defBody (top 15), defScope (top 15), [], []⟩
def d_is_limit : ZH.DefP := ⟨fun K => He.ga K "is_limit", "is_limit", "is_limit", defArgs (top 16), defBody (top 16), defScope (top 16), [], []⟩
def d_need_limits : ZH.DefP := ⟨fun K => He.ga K "need_limits", "need_limits", "need_limits", defArgs (top 17), defBody (top 17), defScope (top 17), [], []⟩
def d_Rule_init : ZH.DefP := ⟨fun K => He.ma K (He.ga K "Rule") "__init__", "__init__", "Rule.__init__", defArgs (mth 19 0), defBody (mth 19 0), defScope (mth 19 0), [], [("least", .int 1), ("most", .int 8), ("rise", .non), ("fall", .non), ("up", .int 1), ("down", .int 1)]⟩
def d_Rule_parts : ZH.DefP := ⟨fun K => ZH.gt K "Rule" "parts", "parts", "Rule.parts", defArgs (mth 19 1), defBody (mth 19 1), defScope (mth 19 1), [], []⟩
def d_Rule_least : ZH.DefP := ⟨fun K => ZH.gt K "Rule" "least", "least", "Rule.least", defArgs (mth 19 2), defBody (mth 19 2), defScope (mth 19 2), [], []⟩
def d_Rule_most : ZH.DefP := ⟨fun K => ZH.gt K "Rule" "most", "most", "Rule.most", defArgs (mth 19 3), defBody (mth 19 3), defScope (mth 19 3), [], []⟩
def d_Rule_rise : ZH.DefP := ⟨fun K => ZH.gt K "Rule" "rise", "rise", "Rule.rise", defArgs (mth 19 4), defBody (mth 19 4), defScope (mth 19 4), [], []⟩
def d_Rule_fall : ZH.DefP := ⟨fun K => ZH.gt K "Rule" "fall", "fall", "Rule.fall", defArgs (mth 19 5), defBody (mth 19 5), defScope (mth 19 5), [], []⟩
def d_Rule_up : ZH.DefP := ⟨fun K => ZH.gt K "Rule" "up", "up", "Rule.up", defArgs (mth 19 6), defBody (mth 19 6), defScope (mth 19 6), [], []⟩
def d_Rule_down : ZH.DefP := ⟨fun K => ZH.gt K "Rule" "down", "down", "Rule.down", defArgs (mth 19 7), defBody (mth 19 7), defScope (mth 19 7), [], []⟩
def d_Rule_with_parts : ZH.DefP := ⟨fun K => He.ma K (He.ga K "Rule") "with_parts", "with_parts", "Rule.with_parts", defArgs (mth 19 8), defBody (mth 19 8), defScope (mth 19 8), [], []⟩
def d_Rule_eq : ZH.DefP := ⟨fun K => He.ma K (He.ga K "Rule") "__eq__", "__eq__", "Rule.__eq__", defArgs (mth 19 9), defBody (mth 19 9), defScope (mth 19 9), [], []⟩
def d_is_number : ZH.DefP := ⟨fun K => He.ga K "is_number", "is_number", "is_number", defArgs (top 23), defBody (top 23), defScope (top 23), [], []⟩
def d_limit_word : ZH.DefP := ⟨fun K => He.ga K "limit_word", "limit_word", "limit_word", defArgs (top 24), defBody (top 24), defScope (top 24), [], []⟩
def d_limit_of : ZH.DefP := ⟨fun K => He.ga K "limit_of", "limit_of", "limit_of", defArgs (top 25), defBody (top 25), defScope (top 25), [], []⟩
def d_part_words : ZH.DefP := ⟨fun K => He.ga K "part_words", "part_words", "part_words", defArgs (top 26), defBody (top 26), defScope (top 26), [], []⟩
def d_part_of : ZH.DefP := ⟨fun K => He.ga K "part_of", "part_of", "part_of", defArgs (top 27), defBody (top 27), defScope (top 27), [], []⟩
def d_rule_text : ZH.DefP := ⟨fun K => He.ga K "rule_text", "rule_text", "rule_text", defArgs (top 28), defBody (top 28), defScope (top 28), [], []⟩
def d_is_first_line : ZH.DefP := ⟨fun K => He.ga K "is_first_line", "is_first_line", "is_first_line", defArgs (top 29), defBody (top 29), defScope (top 29), [], []⟩
def d_is_part_line : ZH.DefP := ⟨fun K => He.ga K "is_part_line", "is_part_line", "is_part_line", defArgs (top 30), defBody (top 30), defScope (top 30), [], []⟩
def d_parted_lines : ZH.DefP := ⟨fun K => He.ga K "parted_lines", "parted_lines", "parted_lines", defArgs (top 31), defBody (top 31), defScope (top 31), [], []⟩
def d_read_rule : ZH.DefP := ⟨fun K => He.ga K "read_rule", "read_rule", "read_rule", defArgs (top 32), defBody (top 32), defScope (top 32), [], []⟩
def d_law_begin : ZH.DefP := ⟨fun K => He.ga K "_law_begin", "_law_begin", "_law_begin", defArgs (top 34), defBody (top 34), defScope (top 34), [], []⟩
def d_law_take : ZH.DefP := ⟨fun K => He.ga K "_law_take", "_law_take", "_law_take", defArgs (top 35), defBody (top 35), defScope (top 35), [], []⟩
def d_law_pick : ZH.DefP := ⟨fun K => He.ga K "_law_pick", "_law_pick", "_law_pick", defArgs (top 36), defBody (top 36), defScope (top 36), [], []⟩
def d_law_part : ZH.DefP := ⟨fun K => He.ga K "_law_part", "_law_part", "_law_part", defArgs (top 37), defBody (top 37), defScope (top 37), [], []⟩
def d_law_case : ZH.DefP := ⟨fun K => He.ga K "_law_case", "_law_case", "_law_case", defArgs (top 38), defBody (top 38), defScope (top 38), [], []⟩
def d_law_rule : ZH.DefP := ⟨fun K => He.ga K "_law_rule", "_law_rule", "_law_rule", defArgs (top 39), defBody (top 39), defScope (top 39), [], []⟩
def d_law_row_words : ZH.DefP := ⟨fun K => He.ga K "_law_row_words", "_law_row_words", "_law_row_words", defArgs (top 40), defBody (top 40), defScope (top 40), [], []⟩
def d_law_lines : ZH.DefP := ⟨fun K => He.ga K "_law_lines", "_law_lines", "_law_lines", defArgs (top 41), defBody (top 41), defScope (top 41), [], []⟩
def d_law : ZH.DefP := ⟨fun K => He.ga K "law", "law", "law", defArgs (top 42), defBody (top 42), defScope (top 42), [], []⟩
structure Fx (w : World) (K : PySem.W.Frag) (mg : Str → Option Value) : Prop where
  b_abs : mg "abs" = none
  b_all : mg "all" = none
  b_bool : mg "bool" = none
  b_divmod : mg "divmod" = none
  b_enumerate : mg "enumerate" = none
  b_int : mg "int" = none
  b_isinstance : mg "isinstance" = none
  b_len : mg "len" = none
  b_list : mg "list" = none
  b_min : mg "min" = none
  b_range : mg "range" = none
  b_str : mg "str" = none
  b_tuple : mg "tuple" = none
  i_FIRST_WORDS : ∃ t, mg "FIRST_WORDS" = some (.int 7 t)
  i_HIGHEST_MARK : ∃ t, mg "HIGHEST_MARK" = some (.int 60 t)
  i_LONGEST_NUMBER : ∃ t, mg "LONGEST_NUMBER" = some (.int 3 t)
  i_LONGEST_WINDOW : ∃ t, mg "LONGEST_WINDOW" = some (.int 3 t)
  i_MOST_PARTS : ∃ t, mg "MOST_PARTS" = some (.int 4 t)
  i_MOST_SERVERS : ∃ t, mg "MOST_SERVERS" = some (.int 8 t)
  m_is_integer : mg "is_integer" = some (.ref (He.ga K "is_integer"))
  m_is_between : mg "is_between" = some (.ref (He.ga K "is_between"))
  m_is_part : mg "is_part" = some (.ref (He.ga K "is_part"))
  m_are_parts : mg "are_parts" = some (.ref (He.ga K "are_parts"))
  m_is_limit : mg "is_limit" = some (.ref (He.ga K "is_limit"))
  m_need_limits : mg "need_limits" = some (.ref (He.ga K "need_limits"))
  m_is_number : mg "is_number" = some (.ref (He.ga K "is_number"))
  m_limit_word : mg "limit_word" = some (.ref (He.ga K "limit_word"))
  m_limit_of : mg "limit_of" = some (.ref (He.ga K "limit_of"))
  m_part_words : mg "part_words" = some (.ref (He.ga K "part_words"))
  m_part_of : mg "part_of" = some (.ref (He.ga K "part_of"))
  m_rule_text : mg "rule_text" = some (.ref (He.ga K "rule_text"))
  m_is_first_line : mg "is_first_line" = some (.ref (He.ga K "is_first_line"))
  m_is_part_line : mg "is_part_line" = some (.ref (He.ga K "is_part_line"))
  m_parted_lines : mg "parted_lines" = some (.ref (He.ga K "parted_lines"))
  m_read_rule : mg "read_rule" = some (.ref (He.ga K "read_rule"))
  m_law_begin : mg "_law_begin" = some (.ref (He.ga K "_law_begin"))
  m_law_take : mg "_law_take" = some (.ref (He.ga K "_law_take"))
  m_law_pick : mg "_law_pick" = some (.ref (He.ga K "_law_pick"))
  m_law_part : mg "_law_part" = some (.ref (He.ga K "_law_part"))
  m_law_case : mg "_law_case" = some (.ref (He.ga K "_law_case"))
  m_law_rule : mg "_law_rule" = some (.ref (He.ga K "_law_rule"))
  m_law_row_words : mg "_law_row_words" = some (.ref (He.ga K "_law_row_words"))
  m_law_lines : mg "_law_lines" = some (.ref (He.ga K "_law_lines"))
  m_law : mg "law" = some (.ref (He.ga K "law"))
  m_SIZES : mg "SIZES" = some (.ref (He.ga K "SIZES"))
  mc_Rule : mg "Rule" = some (.ref (He.ga K "Rule"))
  c_Rule : Cls K (He.ga K "Rule")
  n_Rule_r_bounds : NoAttr K (He.ga K "Rule") "r_bounds"
  n_Rule_r_limits : NoAttr K (He.ga K "Rule") "r_limits"
  n_Rule_r_parts : NoAttr K (He.ga K "Rule") "r_parts"
  mk_Rule : Mk K (He.ga K "Rule") (He.ma K (He.ga K "Rule") "__init__")
  me_Rule_with_parts : Meth K (He.ga K "Rule") "with_parts" (He.ma K (He.ga K "Rule") "with_parts")
  p_Rule_down : PropOf K (He.ga K "Rule") "down" (ZH.pa K "Rule" "down") (ZH.gt K "Rule" "down")
  p_Rule_fall : PropOf K (He.ga K "Rule") "fall" (ZH.pa K "Rule" "fall") (ZH.gt K "Rule" "fall")
  p_Rule_least : PropOf K (He.ga K "Rule") "least" (ZH.pa K "Rule" "least") (ZH.gt K "Rule" "least")
  p_Rule_most : PropOf K (He.ga K "Rule") "most" (ZH.pa K "Rule" "most") (ZH.gt K "Rule" "most")
  p_Rule_parts : PropOf K (He.ga K "Rule") "parts" (ZH.pa K "Rule" "parts") (ZH.gt K "Rule" "parts")
  p_Rule_rise : PropOf K (He.ga K "Rule") "rise" (ZH.pa K "Rule" "rise") (ZH.gt K "Rule" "rise")
  p_Rule_up : PropOf K (He.ga K "Rule") "up" (ZH.pa K "Rule" "up") (ZH.gt K "Rule" "up")
  e_Rule : (PySem.W.findIn K (.ref (He.ga K "Rule")) "__eq__" = some (some (.ref (He.ma K (He.ga K "Rule") "__eq__"))) ∧ PySem.W.isFn K (.ref (He.ma K (He.ga K "Rule") "__eq__")) = true) ∧ PySem.W.findIn K (.ref (He.ga K "Rule")) "__ne__" = some (some (.builtin "object.__ne__")) ∧ PySem.W.mroIn K (He.ga K "Rule") (.type "object") = some true
  in_Rule : InsK K "Rule"
  t_SIZES : TabK K w (He.ga K "SIZES") tab_SIZES
  f_is_integer : ∃ fd, FunD K d_is_integer.name d_is_integer.qual d_is_integer.params d_is_integer.body d_is_integer.scope (d_is_integer.dvs K) (d_is_integer.kws K) (d_is_integer.ad K) fd
  f_is_between : ∃ fd, FunD K d_is_between.name d_is_between.qual d_is_between.params d_is_between.body d_is_between.scope (d_is_between.dvs K) (d_is_between.kws K) (d_is_between.ad K) fd
  f_is_part : ∃ fd, FunD K d_is_part.name d_is_part.qual d_is_part.params d_is_part.body d_is_part.scope (d_is_part.dvs K) (d_is_part.kws K) (d_is_part.ad K) fd
  f_are_parts : ∃ fd, FunD K d_are_parts.name d_are_parts.qual d_are_parts.params d_are_parts.body d_are_parts.scope (d_are_parts.dvs K) (d_are_parts.kws K) (d_are_parts.ad K) fd
  f_is_limit : ∃ fd, FunD K d_is_limit.name d_is_limit.qual d_is_limit.params d_is_limit.body d_is_limit.scope (d_is_limit.dvs K) (d_is_limit.kws K) (d_is_limit.ad K) fd
  f_need_limits : ∃ fd, FunD K d_need_limits.name d_need_limits.qual d_need_limits.params d_need_limits.body d_need_limits.scope (d_need_limits.dvs K) (d_need_limits.kws K) (d_need_limits.ad K) fd
  f_Rule_init : ∃ fd, FunD K d_Rule_init.name d_Rule_init.qual d_Rule_init.params d_Rule_init.body d_Rule_init.scope (d_Rule_init.dvs K) (d_Rule_init.kws K) (d_Rule_init.ad K) fd
  f_Rule_parts : ∃ fd, FunD K d_Rule_parts.name d_Rule_parts.qual d_Rule_parts.params d_Rule_parts.body d_Rule_parts.scope (d_Rule_parts.dvs K) (d_Rule_parts.kws K) (d_Rule_parts.ad K) fd
  f_Rule_least : ∃ fd, FunD K d_Rule_least.name d_Rule_least.qual d_Rule_least.params d_Rule_least.body d_Rule_least.scope (d_Rule_least.dvs K) (d_Rule_least.kws K) (d_Rule_least.ad K) fd
  f_Rule_most : ∃ fd, FunD K d_Rule_most.name d_Rule_most.qual d_Rule_most.params d_Rule_most.body d_Rule_most.scope (d_Rule_most.dvs K) (d_Rule_most.kws K) (d_Rule_most.ad K) fd
  f_Rule_rise : ∃ fd, FunD K d_Rule_rise.name d_Rule_rise.qual d_Rule_rise.params d_Rule_rise.body d_Rule_rise.scope (d_Rule_rise.dvs K) (d_Rule_rise.kws K) (d_Rule_rise.ad K) fd
  f_Rule_fall : ∃ fd, FunD K d_Rule_fall.name d_Rule_fall.qual d_Rule_fall.params d_Rule_fall.body d_Rule_fall.scope (d_Rule_fall.dvs K) (d_Rule_fall.kws K) (d_Rule_fall.ad K) fd
  f_Rule_up : ∃ fd, FunD K d_Rule_up.name d_Rule_up.qual d_Rule_up.params d_Rule_up.body d_Rule_up.scope (d_Rule_up.dvs K) (d_Rule_up.kws K) (d_Rule_up.ad K) fd
  f_Rule_down : ∃ fd, FunD K d_Rule_down.name d_Rule_down.qual d_Rule_down.params d_Rule_down.body d_Rule_down.scope (d_Rule_down.dvs K) (d_Rule_down.kws K) (d_Rule_down.ad K) fd
  f_Rule_with_parts : ∃ fd, FunD K d_Rule_with_parts.name d_Rule_with_parts.qual d_Rule_with_parts.params d_Rule_with_parts.body d_Rule_with_parts.scope (d_Rule_with_parts.dvs K) (d_Rule_with_parts.kws K) (d_Rule_with_parts.ad K) fd
  f_Rule_eq : ∃ fd, FunD K d_Rule_eq.name d_Rule_eq.qual d_Rule_eq.params d_Rule_eq.body d_Rule_eq.scope (d_Rule_eq.dvs K) (d_Rule_eq.kws K) (d_Rule_eq.ad K) fd
  f_is_number : ∃ fd, FunD K d_is_number.name d_is_number.qual d_is_number.params d_is_number.body d_is_number.scope (d_is_number.dvs K) (d_is_number.kws K) (d_is_number.ad K) fd
  f_limit_word : ∃ fd, FunD K d_limit_word.name d_limit_word.qual d_limit_word.params d_limit_word.body d_limit_word.scope (d_limit_word.dvs K) (d_limit_word.kws K) (d_limit_word.ad K) fd
  f_limit_of : ∃ fd, FunD K d_limit_of.name d_limit_of.qual d_limit_of.params d_limit_of.body d_limit_of.scope (d_limit_of.dvs K) (d_limit_of.kws K) (d_limit_of.ad K) fd
  f_part_words : ∃ fd, FunD K d_part_words.name d_part_words.qual d_part_words.params d_part_words.body d_part_words.scope (d_part_words.dvs K) (d_part_words.kws K) (d_part_words.ad K) fd
  f_part_of : ∃ fd, FunD K d_part_of.name d_part_of.qual d_part_of.params d_part_of.body d_part_of.scope (d_part_of.dvs K) (d_part_of.kws K) (d_part_of.ad K) fd
  f_rule_text : ∃ fd, FunD K d_rule_text.name d_rule_text.qual d_rule_text.params d_rule_text.body d_rule_text.scope (d_rule_text.dvs K) (d_rule_text.kws K) (d_rule_text.ad K) fd
  f_is_first_line : ∃ fd, FunD K d_is_first_line.name d_is_first_line.qual d_is_first_line.params d_is_first_line.body d_is_first_line.scope (d_is_first_line.dvs K) (d_is_first_line.kws K) (d_is_first_line.ad K) fd
  f_is_part_line : ∃ fd, FunD K d_is_part_line.name d_is_part_line.qual d_is_part_line.params d_is_part_line.body d_is_part_line.scope (d_is_part_line.dvs K) (d_is_part_line.kws K) (d_is_part_line.ad K) fd
  f_parted_lines : ∃ fd, FunD K d_parted_lines.name d_parted_lines.qual d_parted_lines.params d_parted_lines.body d_parted_lines.scope (d_parted_lines.dvs K) (d_parted_lines.kws K) (d_parted_lines.ad K) fd
  f_read_rule : ∃ fd, FunD K d_read_rule.name d_read_rule.qual d_read_rule.params d_read_rule.body d_read_rule.scope (d_read_rule.dvs K) (d_read_rule.kws K) (d_read_rule.ad K) fd
  f_law_begin : ∃ fd, FunD K d_law_begin.name d_law_begin.qual d_law_begin.params d_law_begin.body d_law_begin.scope (d_law_begin.dvs K) (d_law_begin.kws K) (d_law_begin.ad K) fd
  f_law_take : ∃ fd, FunD K d_law_take.name d_law_take.qual d_law_take.params d_law_take.body d_law_take.scope (d_law_take.dvs K) (d_law_take.kws K) (d_law_take.ad K) fd
  f_law_pick : ∃ fd, FunD K d_law_pick.name d_law_pick.qual d_law_pick.params d_law_pick.body d_law_pick.scope (d_law_pick.dvs K) (d_law_pick.kws K) (d_law_pick.ad K) fd
  f_law_part : ∃ fd, FunD K d_law_part.name d_law_part.qual d_law_part.params d_law_part.body d_law_part.scope (d_law_part.dvs K) (d_law_part.kws K) (d_law_part.ad K) fd
  f_law_case : ∃ fd, FunD K d_law_case.name d_law_case.qual d_law_case.params d_law_case.body d_law_case.scope (d_law_case.dvs K) (d_law_case.kws K) (d_law_case.ad K) fd
  f_law_rule : ∃ fd, FunD K d_law_rule.name d_law_rule.qual d_law_rule.params d_law_rule.body d_law_rule.scope (d_law_rule.dvs K) (d_law_rule.kws K) (d_law_rule.ad K) fd
  f_law_row_words : ∃ fd, FunD K d_law_row_words.name d_law_row_words.qual d_law_row_words.params d_law_row_words.body d_law_row_words.scope (d_law_row_words.dvs K) (d_law_row_words.kws K) (d_law_row_words.ad K) fd
  f_law_lines : ∃ fd, FunD K d_law_lines.name d_law_lines.qual d_law_lines.params d_law_lines.body d_law_lines.scope (d_law_lines.dvs K) (d_law_lines.kws K) (d_law_lines.ad K) fd
  f_law : ∃ fd, FunD K d_law.name d_law.qual d_law.params d_law.body d_law.scope (d_law.dvs K) (d_law.kws K) (d_law.ad K) fd
def hfa0 : List He.Fa := [.free "abs", .free "all", .free "bool", .free "divmod", .free "enumerate", .free "int", .free "isinstance", .free "len", .free "list", .free "min", .free "range", .free "str", .free "tuple", .int "FIRST_WORDS" 7, .int "HIGHEST_MARK" 60]
def hfa1 : List He.Fa := [.int "LONGEST_NUMBER" 3, .int "LONGEST_WINDOW" 3, .int "MOST_PARTS" 4, .int "MOST_SERVERS" 8, .glo "is_integer", .glo "is_between", .glo "is_part", .glo "are_parts", .glo "is_limit", .glo "need_limits", .glo "is_number", .glo "limit_word", .glo "limit_of", .glo "part_words", .glo "part_of"]
def hfa2 : List He.Fa := [.glo "rule_text", .glo "is_first_line", .glo "is_part_line", .glo "parted_lines", .glo "read_rule", .glo "_law_begin", .glo "_law_take", .glo "_law_pick", .glo "_law_part", .glo "_law_case", .glo "_law_rule", .glo "_law_row_words", .glo "_law_lines", .glo "law", .glo "SIZES"]
def hfa3 : List He.Fa := [.glo "Rule", .cls "Rule", .noat "Rule" "r_bounds", .noat "Rule" "r_limits", .noat "Rule" "r_parts", .mkr "Rule", .meth "Rule" "with_parts"]
def hfa : List He.Fa := hfa0 ++ hfa1 ++ hfa2 ++ hfa3
def hfp0 : List ZH.DefP := [d_is_integer, d_is_between, d_is_part, d_are_parts, d_is_limit, d_need_limits, d_Rule_init, d_Rule_parts, d_Rule_least, d_Rule_most, d_Rule_rise, d_Rule_fall, d_Rule_up, d_Rule_down, d_Rule_with_parts]
def hfp1 : List ZH.DefP := [d_Rule_eq, d_is_number, d_limit_word, d_limit_of, d_part_words, d_part_of, d_rule_text, d_is_first_line, d_is_part_line, d_parted_lines, d_read_rule, d_law_begin, d_law_take, d_law_pick, d_law_part]
def hfp2 : List ZH.DefP := [d_law_case, d_law_rule, d_law_row_words, d_law_lines, d_law]
def hfp : List ZH.DefP := hfp0 ++ hfp1 ++ hfp2
def hex0 : List ZH.ExF := [ZH.exProp "Rule" "down", ZH.exProp "Rule" "fall", ZH.exProp "Rule" "least", ZH.exProp "Rule" "most", ZH.exProp "Rule" "parts", ZH.exProp "Rule" "rise", ZH.exProp "Rule" "up", ZH.exEq "Rule", ZH.exIns "Rule"]
def hex : List ZH.ExF := hex0
def hts0 : List ZH.TabD := [("SIZES", tab_SIZES)]
def hts : List ZH.TabD := hts0
def hdd : ZH.Hd := ⟨hfa, hfp, hex, hts⟩
theorem fx_of {w : World} {K : PySem.W.Frag} {h : Heap} {mg : Str → Option Value} (X : K.In h) (G : h.Ns mainGlobals mg) (c : ZH.SaysZ hdd w K) : Fx w K mg where
  b_abs := He.free_ok X G (c.fact 0 rfl)
  b_all := He.free_ok X G (c.fact 1 rfl)
  b_bool := He.free_ok X G (c.fact 2 rfl)
  b_divmod := He.free_ok X G (c.fact 3 rfl)
  b_enumerate := He.free_ok X G (c.fact 4 rfl)
  b_int := He.free_ok X G (c.fact 5 rfl)
  b_isinstance := He.free_ok X G (c.fact 6 rfl)
  b_len := He.free_ok X G (c.fact 7 rfl)
  b_list := He.free_ok X G (c.fact 8 rfl)
  b_min := He.free_ok X G (c.fact 9 rfl)
  b_range := He.free_ok X G (c.fact 10 rfl)
  b_str := He.free_ok X G (c.fact 11 rfl)
  b_tuple := He.free_ok X G (c.fact 12 rfl)
  i_FIRST_WORDS := He.int_ok X G (c.fact 13 rfl)
  i_HIGHEST_MARK := He.int_ok X G (c.fact 14 rfl)
  i_LONGEST_NUMBER := He.int_ok X G (c.fact 15 rfl)
  i_LONGEST_WINDOW := He.int_ok X G (c.fact 16 rfl)
  i_MOST_PARTS := He.int_ok X G (c.fact 17 rfl)
  i_MOST_SERVERS := He.int_ok X G (c.fact 18 rfl)
  m_is_integer := He.glo_ok X G (c.fact 19 rfl)
  m_is_between := He.glo_ok X G (c.fact 20 rfl)
  m_is_part := He.glo_ok X G (c.fact 21 rfl)
  m_are_parts := He.glo_ok X G (c.fact 22 rfl)
  m_is_limit := He.glo_ok X G (c.fact 23 rfl)
  m_need_limits := He.glo_ok X G (c.fact 24 rfl)
  m_is_number := He.glo_ok X G (c.fact 25 rfl)
  m_limit_word := He.glo_ok X G (c.fact 26 rfl)
  m_limit_of := He.glo_ok X G (c.fact 27 rfl)
  m_part_words := He.glo_ok X G (c.fact 28 rfl)
  m_part_of := He.glo_ok X G (c.fact 29 rfl)
  m_rule_text := He.glo_ok X G (c.fact 30 rfl)
  m_is_first_line := He.glo_ok X G (c.fact 31 rfl)
  m_is_part_line := He.glo_ok X G (c.fact 32 rfl)
  m_parted_lines := He.glo_ok X G (c.fact 33 rfl)
  m_read_rule := He.glo_ok X G (c.fact 34 rfl)
  m_law_begin := He.glo_ok X G (c.fact 35 rfl)
  m_law_take := He.glo_ok X G (c.fact 36 rfl)
  m_law_pick := He.glo_ok X G (c.fact 37 rfl)
  m_law_part := He.glo_ok X G (c.fact 38 rfl)
  m_law_case := He.glo_ok X G (c.fact 39 rfl)
  m_law_rule := He.glo_ok X G (c.fact 40 rfl)
  m_law_row_words := He.glo_ok X G (c.fact 41 rfl)
  m_law_lines := He.glo_ok X G (c.fact 42 rfl)
  m_law := He.glo_ok X G (c.fact 43 rfl)
  m_SIZES := He.glo_ok X G (c.fact 44 rfl)
  mc_Rule := He.glo_ok X G (c.fact 45 rfl)
  c_Rule := He.cls_ok (c.fact 46 rfl)
  n_Rule_r_bounds := He.noat_ok (c.fact 47 rfl)
  n_Rule_r_limits := He.noat_ok (c.fact 48 rfl)
  n_Rule_r_parts := He.noat_ok (c.fact 49 rfl)
  mk_Rule := He.mkr_ok (c.fact 50 rfl)
  me_Rule_with_parts := He.meth_ok (c.fact 51 rfl)
  p_Rule_down := ZH.prop_ok (c.ext 0 rfl)
  p_Rule_fall := ZH.prop_ok (c.ext 1 rfl)
  p_Rule_least := ZH.prop_ok (c.ext 2 rfl)
  p_Rule_most := ZH.prop_ok (c.ext 3 rfl)
  p_Rule_parts := ZH.prop_ok (c.ext 4 rfl)
  p_Rule_rise := ZH.prop_ok (c.ext 5 rfl)
  p_Rule_up := ZH.prop_ok (c.ext 6 rfl)
  e_Rule := ZH.eq_ok (c.ext 7 rfl)
  in_Rule := ZH.ins_ok (c.ext 8 rfl)
  t_SIZES := c.tab 0 rfl
  f_is_integer := c.def_ 0 rfl
  f_is_between := c.def_ 1 rfl
  f_is_part := c.def_ 2 rfl
  f_are_parts := c.def_ 3 rfl
  f_is_limit := c.def_ 4 rfl
  f_need_limits := c.def_ 5 rfl
  f_Rule_init := c.def_ 6 rfl
  f_Rule_parts := c.def_ 7 rfl
  f_Rule_least := c.def_ 8 rfl
  f_Rule_most := c.def_ 9 rfl
  f_Rule_rise := c.def_ 10 rfl
  f_Rule_fall := c.def_ 11 rfl
  f_Rule_up := c.def_ 12 rfl
  f_Rule_down := c.def_ 13 rfl
  f_Rule_with_parts := c.def_ 14 rfl
  f_Rule_eq := c.def_ 15 rfl
  f_is_number := c.def_ 16 rfl
  f_limit_word := c.def_ 17 rfl
  f_limit_of := c.def_ 18 rfl
  f_part_words := c.def_ 19 rfl
  f_part_of := c.def_ 20 rfl
  f_rule_text := c.def_ 21 rfl
  f_is_first_line := c.def_ 22 rfl
  f_is_part_line := c.def_ 23 rfl
  f_parted_lines := c.def_ 24 rfl
  f_read_rule := c.def_ 25 rfl
  f_law_begin := c.def_ 26 rfl
  f_law_take := c.def_ 27 rfl
  f_law_pick := c.def_ 28 rfl
  f_law_part := c.def_ 29 rfl
  f_law_case := c.def_ 30 rfl
  f_law_rule := c.def_ 31 rfl
  f_law_row_words := c.def_ 32 rfl
  f_law_lines := c.def_ 33 rfl
  f_law := c.def_ 34 rfl
def loose0 : List Str := ["LoadError", "BadRule", "NoPlace", "BadLine", "is_integer", "HIGHEST_MARK", "MOST_SERVERS", "MOST_PARTS", "LONGEST_WINDOW", "SIZES", "is_between", "is_part", "are_parts", "is_limit", "need_limits"]
def loose1 : List Str := ["raised", "Rule", "LONGEST_NUMBER", "FIRST_WORDS", "is_number", "limit_word", "limit_of", "part_words", "part_of", "rule_text", "is_first_line", "is_part_line", "parted_lines", "read_rule", "_law_begin"]
def loose2 : List Str := ["_law_take", "_law_pick", "_law_part", "_law_case", "_law_rule", "_law_row_words", "_law_lines"]
def loose : List Str := loose0 ++ loose1 ++ loose2
abbrev R : PySem.W.OpenRow := PySem.W.OpenLaw.row PySem.Challenge.rw_allloads_k78_texts_of_rules
abbrev hk : PySem.W.Hook := ZH.hookZ 5 hdd
def ob (s : PySem.W.SharedT) : ZH.AlZ := ZH.obsZG 5 hdd (HandSHeadRun.getT s)
theorem ob_eq (s : PySem.W.SharedT) : ob s = hk.obs s.abs := ZH.obsZG_eq (HandSHeadRun.getT_eq s)
end K78
namespace K78
open PySem PySem.Spec PyProof.Rows L2 Z
section
variable {P : Program} {w : World} {K : PySem.W.Frag} {mg : Str → Option Value} {base : Heap}
theorem sc_law_begin : FnScope ["_law_script", "_law_large", "_law_cell"] ["_law_script"] d_law_begin.scope := ⟨rfl, rfl, rfl, by decide +kernel, rfl, by decide +kernel, by decide +kernel⟩
theorem fo_law_begin (F : Fx w K mg) {fd} (h : FunD K d_law_begin.name d_law_begin.qual d_law_begin.params d_law_begin.body d_law_begin.scope (d_law_begin.dvs K) (d_law_begin.kws K) (d_law_begin.ad K) fd) : FnOk P w K mg base (L2.CX P w) 1 (d_law_begin.ad K) fd ["_law_script"] (spBegin K) := by
  refine h.ok sc_law_begin (fun vs H Q E q => ?_) fun cdv A outer s H vs Q E hr q => ⟨tBegin K, ?_, begin_run rfl q⟩
  · obtain ⟨a, ns, rfl, _⟩ := q
    rfl
  · have hN := sc_law_begin.nd
    exact pss_cons (ps_setLc (own := [("_law_cell", 2)]) rfl hN rfl rfl (sw_true rfl rfl rfl (by decide +kernel)) (pi_list (pv 0)) (blkOk_by rfl) (fun _ _ _ _ _ => pg_name hN rfl (Or.inl rfl))       (fun _ _ _ _ _ => pts_one (pt_cmp (pc_ge (pe_callB call_abs rfl F.b_abs rfl (pa_cons (pv 2) pa_nil)) (pe_op op_pow pe_int pe_int)))) (fun _ _ _ _ _ => pe_callB call_abs rfl F.b_abs rfl (pa_cons (pv 2) pa_nil)))     (pss_one (ps_ret (pe_disp (pps_cons pe_str (pv 1) (pps_cons pe_str (pe_callTy call_list_of rfl F.b_list rfl (pa_cons (pv 0) pa_nil)) (pps_cons pe_str pe_int (pps_cons pe_str pe_int (pps_cons pe_str pe_int pps_nil))))) rfl rfl (fun z => by cases z) (by decide))))
theorem sc_law_take : FnScope ["_law_draw", "_law_size", "_law_cell", "_law_found"] ["_law_draw", "_law_size"] d_law_take.scope := ⟨rfl, rfl, rfl, by decide +kernel, rfl, by decide +kernel, by decide +kernel⟩
theorem fo_law_take (F : Fx w K mg) {fd} (h : FunD K d_law_take.name d_law_take.qual d_law_take.params d_law_take.body d_law_take.scope (d_law_take.dvs K) (d_law_take.kws K) (d_law_take.ad K) fd) : FnOk P w K mg base (L2.CX P w) 1 (d_law_take.ad K) fd ["_law_draw", "_law_size"] (lift K spTake) := by
  refine h.ok sc_law_take (fun vs H Q E q => ?_) fun cdv A outer s H vs Q E hr q => ⟨tTake K, ?_, take_run rfl (take_lift q)⟩
  · obtain ⟨x, n, rfl, _⟩ := take_lift q
    rfl
  · have hN := sc_law_take.nd
    have hu := units1 hr
    exact pss_cons (ps_if (PW.pt (pw_and (pt_cmpR op_eq (pe_dget hu (pv 0) pe_str (fun _ _ => rfl)) pe_int (nomark _)) (pw_and1 (pt_cmpR (op_neD hr.units) (pe_dget hu (pv 0) pe_str (fun _ _ => rfl)) (pe_lst pa_nil) (nomark _)))))       (pss_one (ps_dput hu (pv 0) pe_str (pe_bm PySem.F.plainAttrs_list PySem.F.slot_list_pop PySem.F.type_list_pop mt_popAt (pe_dget hu (pv 0) pe_str (fun _ _ => rfl)) (pa_cons pe_int pa_nil)) rfl))       (pss_one (ps_if (pt_cmpR op_eq (pe_dget hu (pv 0) pe_str (fun _ _ => rfl)) pe_int (nomark _))         (pss_cons (ps_dput hu (pv 0) pe_str (pe_op op_add (pe_dget hu (pv 0) pe_str (fun _ _ => rfl)) pe_int) rfl)           (pss_cons (ps_for (passes_of rfl) rfl (pi_list (pe_op op_cat (pe_lst (pa_cons (pe_dget hu (pv 0) pe_str (fun _ _ => rfl)) pa_nil)) (pe_dget hu (pv 0) pe_str (fun _ _ => rfl)))) (pg_name hN rfl (Or.inl rfl))               (pss_one (ps_dput hu (pv 0) pe_str (pe_op op_mod (pe_callTy call_int1 rfl F.b_int rfl (pa_cons (pe_op op_add (pe_op op_add (pe_op op_mul (pe_dget hu (pv 0) pe_str (fun _ _ => rfl)) pe_int) (pe_op op_mul (pv 2) pe_int)) pe_int) pa_nil)) pe_int) rfl)))             (pss_one (ps_dput hu (pv 0) pe_str (pe_op op_mod (pe_callTy call_int1 rfl F.b_int rfl (pa_cons (pe_op op_pow (pe_dget hu (pv 0) pe_str (fun _ _ => rfl)) pe_int) pa_nil)) pe_int) rfl))))         pss_nil)))     (pss_cons (ps_asg (pe_callB call_divmod rfl F.b_divmod rfl (pa_cons (pe_dget hu (pv 0) pe_str (fun _ _ => rfl)) (pa_cons (pv 1) pa_nil))) (pg_tup rfl (pgs_cons (pg_sub (pv 0) pe_str (set_dict hu)) (pgs_cons (pg_name hN rfl (Or.inl rfl)) pgs_nil))))       (pss_one (ps_ret (pv 3))))
theorem gf_law_take (F : Fx w K mg) : Gf P w K mg base "_law_take" 1 ["_law_draw", "_law_size"] spTake := by
  obtain ⟨fd, h⟩ := F.f_law_take
  exact ⟨_, fd, F.m_law_take, h.kp, (h.bindsN fun _ _ _ _ _ _ us hl => match us, hl with | [_, _], _ => rfl), fo_law_take F h⟩
theorem sc_law_pick : FnScope ["_law_draw", "_law_some"] ["_law_draw", "_law_some"] d_law_pick.scope := ⟨rfl, rfl, rfl, by decide +kernel, rfl, by decide +kernel, by decide +kernel⟩
theorem fo_law_pick (F : Fx w K mg) {fd} (h : FunD K d_law_pick.name d_law_pick.qual d_law_pick.params d_law_pick.body d_law_pick.scope (d_law_pick.dvs K) (d_law_pick.kws K) (d_law_pick.ad K) fd) : FnOk P w K mg base (L2.CX P w) 2 (d_law_pick.ad K) fd ["_law_draw", "_law_some"] (lift K sp_law_pick) := by
  refine FnOk.of_z (z := zb_law_pick) h sc_law_pick (fun _ _ _ _ q => ln_law_pick q) (fun cdv A outer s H E hr => ?_) (fun _ _ _ _ q => rd_law_pick q)
  have hN := sc_law_pick.nd
  exact zss_one (zs_ret (ze_ix ix_seq opz_ix (ze_var 1) (ze_call (gf_law_take F) (takes_of rfl rfl rfl rfl) (hr.mono (by decide)) (za_cons (ze_var 0) (za_cons (ze_len F.b_len (ze_var 1)) (za_nil))))))
theorem gf_law_pick (F : Fx w K mg) : Gf P w K mg base "_law_pick" 2 ["_law_draw", "_law_some"] sp_law_pick := by
  obtain ⟨fd, h⟩ := F.f_law_pick
  exact ⟨_, fd, F.m_law_pick, h.kp, (h.bindsN fun _ _ _ _ _ _ us hl => match us, hl with | [_, _], _ => rfl), fo_law_pick F h⟩
theorem sc_law_part : FnScope ["_law_draw", "_law_way", "_law_top", "_law_mark", "_law_high"] ["_law_draw"] d_law_part.scope := ⟨rfl, rfl, rfl, by decide +kernel, rfl, by decide +kernel, by decide +kernel⟩
theorem fo_law_part (F : Fx w K mg) {fd} (h : FunD K d_law_part.name d_law_part.qual d_law_part.params d_law_part.body d_law_part.scope (d_law_part.dvs K) (d_law_part.kws K) (d_law_part.ad K) fd) : FnOk P w K mg base (L2.CX P w) 3 (d_law_part.ad K) fd ["_law_draw"] (lift K sp_law_part) := by
  refine FnOk.of_z (z := zb_law_part) h sc_law_part (fun _ _ _ _ q => ln_law_part q) (fun cdv A outer s H E hr => ?_) (fun _ _ _ _ q => rd_law_part q)
  have hN := sc_law_part.nd
  exact zss_cons (zs_par 1 2 rfl hN (za_cons (ze_call (gf_law_take F) (takes_of rfl rfl rfl rfl) (hr.mono (by decide)) (za_cons (ze_var 0) (za_cons (ze_int) (za_nil)))) (za_cons (ze_call (gf_law_pick F) (takes_of rfl rfl rfl rfl) (hr.mono (by decide)) (za_cons (ze_var 0) (za_cons (ze_lst (za_cons (ze_int) (za_cons (ze_int) (za_cons (ze_int) (za_cons (ze_int) (za_nil)))))) (za_nil)))) (za_nil)))) (zss_cons (zs_set 3 hN (ze_op op_addZ opz_add (ze_int) (ze_call (gf_law_take F) (takes_of rfl rfl rfl rfl) (hr.mono (by decide)) (za_cons (ze_var 0) (za_cons (ze_var 2) (za_nil)))))) (zss_cons (zs_if (zt_cmp op_lt (cmp_I _) (ze_var 1) (ze_int)) (zss_one (zs_ret (ze_tup (za_cons (ze_str) (za_cons (ze_var 3) (za_cons (ze_call (gf_law_pick F) (takes_of rfl rfl rfl rfl) (hr.mono (by decide)) (za_cons (ze_var 0) (za_cons (ze_lst (za_cons (ze_int) (za_cons (ze_int) (za_cons (ze_int) (za_cons (ze_op op_addZ opz_add (ze_int) (ze_call (gf_law_take F) (takes_of rfl rfl rfl rfl) (hr.mono (by decide)) (za_cons (ze_var 0) (za_cons (ze_int) (za_nil))))) (za_nil)))))) (za_nil)))) (za_nil))))))) (zss_nil)) (zss_cons (zs_if (zt_cmp op_lt (cmp_I _) (ze_var 1) (ze_int)) (zss_one (zs_ret (ze_tup (za_cons (ze_str) (za_cons (ze_var 3) (za_cons (ze_call (gf_law_pick F) (takes_of rfl rfl rfl rfl) (hr.mono (by decide)) (za_cons (ze_var 0) (za_cons (ze_lst (za_cons (ze_int) (za_cons (ze_int) (za_cons (ze_int) (za_cons (ze_op op_addZ opz_add (ze_int) (ze_call (gf_law_take F) (takes_of rfl rfl rfl rfl) (hr.mono (by decide)) (za_cons (ze_var 0) (za_cons (ze_int) (za_nil))))) (za_nil)))))) (za_nil)))) (za_nil))))))) (zss_nil)) (zss_cons (zs_set 4 hN (ze_op op_addZ opz_add (ze_var 3) (ze_call (gf_law_take F) (takes_of rfl rfl rfl rfl) (hr.mono (by decide)) (za_cons (ze_var 0) (za_cons (ze_call (gf_law_pick F) (takes_of rfl rfl rfl rfl) (hr.mono (by decide)) (za_cons (ze_var 0) (za_cons (ze_lst (za_cons (ze_bi (call_min2 rfl) cz_min2 F.b_min rfl (za_cons (ze_int) (za_cons (ze_op op_sub (opz_I0 _) (ze_int) (ze_var 3)) (za_nil)))) (za_cons (ze_op op_sub (opz_I0 _) (ze_int) (ze_var 3)) (za_nil)))) (za_nil)))) (za_nil)))))) (zss_one (zs_ret (ze_tup (za_cons (ze_str) (za_cons (ze_var 3) (za_cons (ze_op op_addZ opz_add (ze_int) (ze_call (gf_law_take F) (takes_of rfl rfl rfl rfl) (hr.mono (by decide)) (za_cons (ze_var 0) (za_cons (ze_var 3) (za_nil))))) (za_cons (ze_var 4) (za_nil))))))))))))
theorem gf_law_part (F : Fx w K mg) : Gf P w K mg base "_law_part" 3 ["_law_draw"] sp_law_part := by
  obtain ⟨fd, h⟩ := F.f_law_part
  exact ⟨_, fd, F.m_law_part, h.kp, (h.bindsN fun _ _ _ _ _ _ us hl => match us, hl with | [_], _ => rfl), fo_law_part F h⟩
theorem sc_law_case : FnScope ["_law_draw", "_law_floor", "_law_case_here", "_law_turn"] ["_law_draw"] d_law_case.scope := ⟨rfl, rfl, rfl, by decide +kernel, rfl, by decide +kernel, by decide +kernel⟩
theorem fo_law_case (F : Fx w K mg) {fd} (h : FunD K d_law_case.name d_law_case.qual d_law_case.params d_law_case.body d_law_case.scope (d_law_case.dvs K) (d_law_case.kws K) (d_law_case.ad K) fd) : FnOk P w K mg base (L2.CX P w) 4 (d_law_case.ad K) fd ["_law_draw"] (lift K sp_law_case) := by
  refine FnOk.of_z (z := zb_law_case) h sc_law_case (fun _ _ _ _ q => ln_law_case q) (fun cdv A outer s H E hr => ?_) (fun _ _ _ _ q => rd_law_case q)
  have hN := sc_law_case.nd
  exact zss_cons (zs_set 1 hN (ze_call (gf_law_pick F) (takes_of rfl rfl rfl rfl) (hr.mono (by decide)) (za_cons (ze_var 0) (za_cons (ze_lst (za_cons (ze_int) (za_cons (ze_int) (za_cons (ze_int) (za_cons (ze_int) (za_cons (ze_op op_addZ opz_add (ze_int) (ze_call (gf_law_take F) (takes_of rfl rfl rfl rfl) (hr.mono (by decide)) (za_cons (ze_var 0) (za_cons (ze_int) (za_nil))))) (za_nil))))))) (za_nil))))) (zss_cons (zs_set 2 hN (ze_dictN (zp_cons (ze_str) (ze_var 1) (zp_cons (ze_str) (ze_bi (call_min2 rfl) cz_min2 F.b_min rfl (za_cons (ze_int) (za_cons (ze_op op_addZ opz_add (ze_var 1) (ze_call (gf_law_take F) (takes_of rfl rfl rfl rfl) (hr.mono (by decide)) (za_cons (ze_var 0) (za_cons (ze_int) (za_nil))))) (za_nil)))) (zp_cons (ze_str) (ze_non) (zp_cons (ze_str) (ze_non) (zp_nil))))))) (zss_cons (zs_dput (units1 hr) (ze_var 2) (ze_str) (ze_lc (own := [("_law_turn", 3)]) rfl hN (zi_rng1 (za_cons (ze_call (gf_law_pick F) (takes_of rfl rfl rfl rfl) (hr.mono (by decide)) (za_cons (ze_var 0) (za_cons (ze_lst (za_cons (ze_int) (za_cons (ze_int) (za_cons (ze_int) (za_cons (ze_int) (za_cons (ze_int) (za_cons (ze_int) (za_cons (ze_int) (za_nil))))))))) (za_nil)))) (za_nil)) F.b_range) (blkOk_by rfl) (by decide) (fun _ _ _ _ _ => zg_name 3 hN) (fun _ _ _ _ _ => zts_nil) (fun _ _ _ _ _ => ze_call (gf_law_part F) Z.takes0 (hr.mono (by decide)) (za_cons (ze_var 0) (za_nil))))) (zss_cons (zs_if (zt_cmp (op_eqZ hr.units) (cmp_eq) (ze_call (gf_law_take F) (takes_of rfl rfl rfl rfl) (hr.mono (by decide)) (za_cons (ze_var 0) (za_cons (ze_int) (za_nil)))) (ze_int)) (zss_one (zs_dput (units1 hr) (ze_var 2) (ze_str) (ze_call (gf_law_pick F) (takes_of rfl rfl rfl rfl) (hr.mono (by decide)) (za_cons (ze_var 0) (za_cons (ze_lst (za_cons (ze_int) (za_cons (ze_int) (za_cons (ze_int) (za_cons (ze_op op_addZ opz_add (ze_int) (ze_call (gf_law_take F) (takes_of rfl rfl rfl rfl) (hr.mono (by decide)) (za_cons (ze_var 0) (za_cons (ze_int) (za_nil))))) (za_nil)))))) (za_nil)))))) (zss_nil)) (zss_cons (zs_if (zt_cmp (op_eqZ hr.units) (cmp_eq) (ze_call (gf_law_take F) (takes_of rfl rfl rfl rfl) (hr.mono (by decide)) (za_cons (ze_var 0) (za_cons (ze_int) (za_nil)))) (ze_int)) (zss_one (zs_dput (units1 hr) (ze_var 2) (ze_str) (ze_call (gf_law_pick F) (takes_of rfl rfl rfl rfl) (hr.mono (by decide)) (za_cons (ze_var 0) (za_cons (ze_lst (za_cons (ze_int) (za_cons (ze_int) (za_cons (ze_int) (za_cons (ze_op op_addZ opz_add (ze_int) (ze_call (gf_law_take F) (takes_of rfl rfl rfl rfl) (hr.mono (by decide)) (za_cons (ze_var 0) (za_cons (ze_int) (za_nil))))) (za_nil)))))) (za_nil)))))) (zss_nil)) (zss_cons (zs_asg (ze_tup (za_cons (ze_call (gf_law_pick F) (takes_of rfl rfl rfl rfl) (hr.mono (by decide)) (za_cons (ze_var 0) (za_cons (ze_lst (za_cons (ze_int) (za_cons (ze_int) (za_cons (ze_int) (za_cons (ze_int) (za_nil)))))) (za_nil)))) (za_cons (ze_call (gf_law_pick F) (takes_of rfl rfl rfl rfl) (hr.mono (by decide)) (za_cons (ze_var 0) (za_cons (ze_lst (za_cons (ze_int) (za_cons (ze_int) (za_cons (ze_int) (za_cons (ze_int) (za_nil)))))) (za_nil)))) (za_nil)))) (zg_tup rfl (zgs_cons (zg_dput (units1 hr) (ze_var 2) (ze_str)) (zgs_cons (zg_dput (units1 hr) (ze_var 2) (ze_str)) (zgs_nil))) (gs_lenS (str_dput stre_var stre_c) (gs_lenS (str_dput stre_var stre_c) (gs_len0))))) (zss_one (zs_retF (ze_var 2))))))))
theorem gf_law_case (F : Fx w K mg) : Gf P w K mg base "_law_case" 4 ["_law_draw"] sp_law_case := by
  obtain ⟨fd, h⟩ := F.f_law_case
  exact ⟨_, fd, F.m_law_case, h.kp, (h.bindsN fun _ _ _ _ _ _ us hl => match us, hl with | [_], _ => rfl), fo_law_case F h⟩
theorem sc_law_row_words : FnScope ["_law_case_here", "_law_name", "_law_limits", "_law_rows", "_law_number", "_law_part_here"] ["_law_case_here"] d_law_row_words.scope := ⟨rfl, rfl, rfl, by decide +kernel, rfl, by decide +kernel, by decide +kernel⟩
theorem fo_law_row_words (F : Fx w K mg) {fd} (h : FunD K d_law_row_words.name d_law_row_words.qual d_law_row_words.params d_law_row_words.body d_law_row_words.scope (d_law_row_words.dvs K) (d_law_row_words.kws K) (d_law_row_words.ad K) fd) : FnOk P w K mg base (L2.CX P w) 1 (d_law_row_words.ad K) fd ["_law_case_here"] (lift K sp_law_row_words) := by
  refine FnOk.of_z (z := zb_law_row_words) h sc_law_row_words (fun _ _ _ _ q => ln_law_row_words q) (fun cdv A outer s H E hr => ?_) (fun _ _ _ _ q => rd_law_row_words q)
  have hN := sc_law_row_words.nd
  exact zss_cons (zs_setLc 2 (own := [("_law_name", 1)]) rfl hN (zi_lst (ze_lst (za_cons (ze_str) (za_cons (ze_str) (za_nil))))) (blkOk_by rfl) (by decide) (fun _ _ _ _ _ => zg_name 1 hN) (fun _ _ _ _ _ => zts_nil) (fun _ _ _ _ _ => ze_ite (zt_cmp op_isN (cmp_is) (ze_dget (units1 hr) (ze_var 0) (ze_var 1)) (ze_non)) (ze_str) (ze_ty call_str_int cz_str F.b_str rfl (za_cons (ze_dget (units1 hr) (ze_var 0) (ze_var 1)) (za_nil))))) (zss_cons (zs_set 3 hN (ze_lst (za_cons (ze_op op_addZ opz_add (ze_op op_addZ opz_add (ze_lst (za_cons (ze_str) (za_cons (ze_ty call_str_int cz_str F.b_str rfl (za_cons (ze_dget (units1 hr) (ze_var 0) (ze_str)) (za_nil))) (za_cons (ze_ty call_str_int cz_str F.b_str rfl (za_cons (ze_dget (units1 hr) (ze_var 0) (ze_str)) (za_nil))) (za_nil))))) (ze_var 2)) (ze_lst (za_cons (ze_ty call_str_int cz_str F.b_str rfl (za_cons (ze_dget (units1 hr) (ze_var 0) (ze_str)) (za_nil))) (za_cons (ze_ty call_str_int cz_str F.b_str rfl (za_cons (ze_dget (units1 hr) (ze_var 0) (ze_str)) (za_nil))) (za_nil))))) (za_nil)))) (zss_one (zs_ret (ze_op op_addZ opz_add (ze_var 3) (ze_lc (own := [("_law_part_here", 5)]) rfl hN (zi_lst (ze_dget (units1 hr) (ze_var 0) (ze_str))) (blkOk_by rfl) (by decide) (fun _ _ _ _ _ => zg_name 5 hN) (fun _ _ _ _ _ => zts_nil) (fun _ _ _ _ _ => ze_op op_addZ opz_add (ze_lst (za_cons (ze_ix ix_seq opz_ix (ze_var 5) (ze_int)) (za_nil))) (ze_lc (own := [("_law_number", 4)]) rfl hN (zi_tup (ze_sl (ze_var 5) (zo_some (ze_int)) (zo_none))) (blkOk_by rfl) (by decide) (fun _ _ _ _ _ => zg_name 4 hN) (fun _ _ _ _ _ => zts_nil) (fun _ _ _ _ _ => ze_ty call_str_int cz_str F.b_str rfl (za_cons (ze_var 4) (za_nil))))))))))
theorem gf_law_row_words (F : Fx w K mg) : Gf P w K mg base "_law_row_words" 1 ["_law_case_here"] sp_law_row_words := by
  obtain ⟨fd, h⟩ := F.f_law_row_words
  exact ⟨_, fd, F.m_law_row_words, h.kp, (h.bindsN fun _ _ _ _ _ _ us hl => match us, hl with | [_], _ => rfl), fo_law_row_words F h⟩
theorem sc_law_lines : FnScope ["_law_case_here", "_law_words"] ["_law_case_here"] d_law_lines.scope := ⟨rfl, rfl, rfl, by decide +kernel, rfl, by decide +kernel, by decide +kernel⟩
theorem fo_law_lines (F : Fx w K mg) {fd} (h : FunD K d_law_lines.name d_law_lines.qual d_law_lines.params d_law_lines.body d_law_lines.scope (d_law_lines.dvs K) (d_law_lines.kws K) (d_law_lines.ad K) fd) : FnOk P w K mg base (L2.CX P w) 2 (d_law_lines.ad K) fd ["_law_case_here"] (lift K sp_law_lines) := by
  refine FnOk.of_z (z := zb_law_lines) h sc_law_lines (fun _ _ _ _ q => ln_law_lines q) (fun cdv A outer s H E hr => ?_) (fun _ _ _ _ q => rd_law_lines q)
  have hN := sc_law_lines.nd
  exact zss_one (zs_ret (ze_join (ze_str) (ze_lc (own := [("_law_words", 1)]) rfl hN (zi_lst (ze_call (gf_law_row_words F) (takes_of rfl rfl rfl rfl) (hr.mono (by decide)) (za_cons (ze_var 0) (za_nil)))) (blkOk_by rfl) (by decide) (fun _ _ _ _ _ => zg_name 1 hN) (fun _ _ _ _ _ => zts_nil) (fun _ _ _ _ _ => ze_op op_addZ opz_add (ze_join (ze_str) (ze_var 1)) (ze_str)))))
theorem gf_law_lines (F : Fx w K mg) : Gf P w K mg base "_law_lines" 2 ["_law_case_here"] sp_law_lines := by
  obtain ⟨fd, h⟩ := F.f_law_lines
  exact ⟨_, fd, F.m_law_lines, h.kp, (h.bindsN fun _ _ _ _ _ _ us hl => match us, hl with | [_], _ => rfl), fo_law_lines F h⟩
theorem sc_is_integer : FnScope ["thing"] ["thing"] d_is_integer.scope := ⟨rfl, rfl, rfl, by decide +kernel, rfl, by decide +kernel, by decide +kernel⟩
theorem fo_is_integer (F : Fx w K mg) {fd} (h : FunD K d_is_integer.name d_is_integer.qual d_is_integer.params d_is_integer.body d_is_integer.scope (d_is_integer.dvs K) (d_is_integer.kws K) (d_is_integer.ad K) fd) : FnOk P w K mg base (L2.CX P w) 1 (d_is_integer.ad K) fd ["thing"] (lift K sp_is_integer) := by
  refine FnOk.of_z (z := zb_is_integer) h sc_is_integer (fun _ _ _ _ q => ln_is_integer q) (fun cdv A outer s H E hr => ?_) (fun _ _ _ _ q => rd_is_integer q)
  have hN := sc_is_integer.nd
  exact zss_one (zs_ret (ze_and (ze_isi F.b_isinstance F.b_int rfl (ze_var 0)) (ze_one (ze_not (ze_isi F.b_isinstance F.b_bool rfl (ze_var 0))))))
theorem gf_is_integer (F : Fx w K mg) : Gf P w K mg base "is_integer" 1 ["thing"] sp_is_integer := by
  obtain ⟨fd, h⟩ := F.f_is_integer
  exact ⟨_, fd, F.m_is_integer, h.kp, (h.bindsN fun _ _ _ _ _ _ us hl => match us, hl with | [_], _ => rfl), fo_is_integer F h⟩
theorem sc_is_between : FnScope ["thing", "low", "high"] ["thing", "low", "high"] d_is_between.scope := ⟨rfl, rfl, rfl, by decide +kernel, rfl, by decide +kernel, by decide +kernel⟩
theorem fo_is_between (F : Fx w K mg) {fd} (h : FunD K d_is_between.name d_is_between.qual d_is_between.params d_is_between.body d_is_between.scope (d_is_between.dvs K) (d_is_between.kws K) (d_is_between.ad K) fd) : FnOk P w K mg base (L2.CX P w) 2 (d_is_between.ad K) fd ["thing", "low", "high"] (lift K sp_is_between) := by
  refine FnOk.of_z (z := zb_is_between) h sc_is_between (fun _ _ _ _ q => ln_is_between q) (fun cdv A outer s H E hr => ?_) (fun _ _ _ _ q => rd_is_between q)
  have hN := sc_is_between.nd
  exact zss_one (zs_ret (ze_and (ze_call (gf_is_integer F) (takes_of rfl rfl rfl rfl) (hr.mono (by decide)) (za_cons (ze_var 0) (za_nil))) (ze_one (ze_chain op_le (cmp_I _) op_le (cmp_I _) (ze_var 1) (ze_var 0) (ze_var 2)))))
theorem gf_is_between (F : Fx w K mg) : Gf P w K mg base "is_between" 2 ["thing", "low", "high"] sp_is_between := by
  obtain ⟨fd, h⟩ := F.f_is_between
  exact ⟨_, fd, F.m_is_between, h.kp, (h.bindsN fun _ _ _ _ _ _ us hl => match us, hl with | [_, _, _], _ => rfl), fo_is_between F h⟩
theorem sc_is_part : FnScope ["thing", "one"] ["thing"] d_is_part.scope := ⟨rfl, rfl, rfl, by decide +kernel, rfl, by decide +kernel, by decide +kernel⟩
theorem fo_is_part (F : Fx w K mg) {fd} (h : FunD K d_is_part.name d_is_part.qual d_is_part.params d_is_part.body d_is_part.scope (d_is_part.dvs K) (d_is_part.kws K) (d_is_part.ad K) fd) : FnOk P w K mg base (L2.CX P w) 3 (d_is_part.ad K) fd ["thing"] (lift K sp_is_part) := by
  refine FnOk.of_z (z := zb_is_part) h sc_is_part (fun _ _ _ _ q => ln_is_part q) (fun cdv A outer s H E hr => ?_) (fun _ _ _ _ q => rd_is_part q)
  have hN := sc_is_part.nd
  exact zss_cons (zs_if (zt_w (zw_or (zt_not (zt_val (ze_isi F.b_isinstance F.b_tuple rfl (ze_var 0)))) (zw_or (zt_cmp (op_eqZ hr.units) (cmp_eq) (ze_var 0) (ze_tup (za_nil))) (zw_or1 (zt_not (zt_val (ze_isi F.b_isinstance F.b_str rfl (ze_ix ix_seq opz_ix (ze_var 0) (ze_int))))))))) (zss_one (zs_ret (ze_bl))) (zss_nil)) (zss_cons (zs_if (zt_w (zw_or (zt_cmp (op_neZ hr.units) (cmp_ne) (ze_getTab F.m_SIZES F.t_SIZES (ze_ix ix_seq opz_ix (ze_var 0) (ze_int)) (ze_int)) (ze_len F.b_len (ze_var 0))) (zw_or1 (zt_not (zt_val (ze_bi (cr_all rfl) cz_all F.b_all rfl (za_cons (ze_lc (own := [("one", 1)]) rfl hN (zi_tup (ze_sl (ze_var 0) (zo_some (ze_int)) (zo_none))) (blkOk_by rfl) (by decide) (fun _ _ _ _ _ => zg_name 1 hN) (fun _ _ _ _ _ => zts_nil) (fun _ _ _ _ _ => ze_call (gf_is_between F) Z.takes0 (hr.mono (by decide)) (za_cons (ze_var 1) (za_cons (ze_int) (za_cons (ze_gint rfl F.i_HIGHEST_MARK) (za_nil)))))) (za_nil)))))))) (zss_one (zs_ret (ze_bl))) (zss_nil)) (zss_cons (zs_if (zt_cmp (op_eqZ hr.units) (cmp_eq) (ze_ix ix_seq opz_ix (ze_var 0) (ze_int)) (ze_str)) (zss_one (zs_ret (ze_chain op_le (cmp_I _) op_le (cmp_I _) (ze_ix ix_seq opz_ix (ze_var 0) (ze_int)) (ze_ix ix_seq opz_ix (ze_var 0) (ze_int)) (ze_ix ix_seq opz_ix (ze_var 0) (ze_int))))) (zss_nil)) (zss_one (zs_ret (ze_cmp op_le (cmp_I _) (ze_ix ix_seq opz_ix (ze_var 0) (ze_int)) (ze_gint rfl F.i_MOST_SERVERS))))))
theorem gf_is_part (F : Fx w K mg) : Gf P w K mg base "is_part" 3 ["thing"] sp_is_part := by
  obtain ⟨fd, h⟩ := F.f_is_part
  exact ⟨_, fd, F.m_is_part, h.kp, (h.bindsN fun _ _ _ _ _ _ us hl => match us, hl with | [_], _ => rfl), fo_is_part F h⟩
theorem sc_are_parts : FnScope ["thing", "one"] ["thing"] d_are_parts.scope := ⟨rfl, rfl, rfl, by decide +kernel, rfl, by decide +kernel, by decide +kernel⟩
theorem fo_are_parts (F : Fx w K mg) {fd} (h : FunD K d_are_parts.name d_are_parts.qual d_are_parts.params d_are_parts.body d_are_parts.scope (d_are_parts.dvs K) (d_are_parts.kws K) (d_are_parts.ad K) fd) : FnOk P w K mg base (L2.CX P w) 4 (d_are_parts.ad K) fd ["thing"] (lift K sp_are_parts) := by
  refine FnOk.of_z (z := zb_are_parts) h sc_are_parts (fun _ _ _ _ q => ln_are_parts q) (fun cdv A outer s H E hr => ?_) (fun _ _ _ _ q => rd_are_parts q)
  have hN := sc_are_parts.nd
  exact zss_one (zs_ret (ze_and (ze_isi2 F.b_isinstance F.b_list rfl F.b_tuple rfl (ze_var 0)) (ze_and (ze_cmp op_le (cmp_I _) (ze_len F.b_len (ze_var 0)) (ze_gint rfl F.i_MOST_PARTS)) (ze_one (ze_bi (cr_all rfl) cz_all F.b_all rfl (za_cons (ze_lc (own := [("one", 1)]) rfl hN (zi_seq (ze_var 0)) (blkOk_by rfl) (by decide) (fun _ _ _ _ _ => zg_name 1 hN) (fun _ _ _ _ _ => zts_nil) (fun _ _ _ _ _ => ze_call (gf_is_part F) Z.takes0 (hr.mono (by decide)) (za_cons (ze_var 1) (za_nil)))) (za_nil)))))))
theorem gf_are_parts (F : Fx w K mg) : Gf P w K mg base "are_parts" 4 ["thing"] sp_are_parts := by
  obtain ⟨fd, h⟩ := F.f_are_parts
  exact ⟨_, fd, F.m_are_parts, h.kp, (h.bindsN fun _ _ _ _ _ _ us hl => match us, hl with | [_], _ => rfl), fo_are_parts F h⟩
theorem sc_is_limit : FnScope ["thing"] ["thing"] d_is_limit.scope := ⟨rfl, rfl, rfl, by decide +kernel, rfl, by decide +kernel, by decide +kernel⟩
theorem fo_is_limit (F : Fx w K mg) {fd} (h : FunD K d_is_limit.name d_is_limit.qual d_is_limit.params d_is_limit.body d_is_limit.scope (d_is_limit.dvs K) (d_is_limit.kws K) (d_is_limit.ad K) fd) : FnOk P w K mg base (L2.CX P w) 3 (d_is_limit.ad K) fd ["thing"] (lift K sp_is_limit) := by
  refine FnOk.of_z (z := zb_is_limit) h sc_is_limit (fun _ _ _ _ q => ln_is_limit q) (fun cdv A outer s H E hr => ?_) (fun _ _ _ _ q => rd_is_limit q)
  have hN := sc_is_limit.nd
  exact zss_one (zs_ret (ze_or (ze_cmp op_isN (cmp_is) (ze_var 0) (ze_non)) (ze_one (ze_call (gf_is_between F) (takes_of rfl rfl rfl rfl) (hr.mono (by decide)) (za_cons (ze_var 0) (za_cons (ze_int) (za_cons (ze_gint rfl F.i_MOST_SERVERS) (za_nil))))))))
theorem gf_is_limit (F : Fx w K mg) : Gf P w K mg base "is_limit" 3 ["thing"] sp_is_limit := by
  obtain ⟨fd, h⟩ := F.f_is_limit
  exact ⟨_, fd, F.m_is_limit, h.kp, (h.bindsN fun _ _ _ _ _ _ us hl => match us, hl with | [_], _ => rfl), fo_is_limit F h⟩
theorem sc_need_limits : FnScope ["rise", "fall", "up", "down"] ["rise", "fall", "up", "down"] d_need_limits.scope := ⟨rfl, rfl, rfl, by decide +kernel, rfl, by decide +kernel, by decide +kernel⟩
theorem fo_need_limits (F : Fx w K mg) {fd} (h : FunD K d_need_limits.name d_need_limits.qual d_need_limits.params d_need_limits.body d_need_limits.scope (d_need_limits.dvs K) (d_need_limits.kws K) (d_need_limits.ad K) fd) : FnOk P w K mg base (L2.CX P w) 4 (d_need_limits.ad K) fd ["rise", "fall", "up", "down"] (lift K sp_need_limits) := by
  refine FnOk.of_z (z := zb_need_limits) h sc_need_limits (fun _ _ _ _ q => ln_need_limits q) (fun cdv A outer s H E hr => ?_) (fun _ _ _ _ q => rd_need_limits q)
  have hN := sc_need_limits.nd
  exact zss_cons (zs_if (zt_not (zt_val (ze_call (gf_is_limit F) (takes_of rfl rfl rfl rfl) (hr.mono (by decide)) (za_cons (ze_var 0) (za_nil))))) (zss_one (zs_never)) (zss_nil)) (zss_cons (zs_if (zt_not (zt_val (ze_call (gf_is_limit F) (takes_of rfl rfl rfl rfl) (hr.mono (by decide)) (za_cons (ze_var 1) (za_nil))))) (zss_one (zs_never)) (zss_nil)) (zss_cons (zs_if (zt_not (zt_val (ze_call (gf_is_between F) (takes_of rfl rfl rfl rfl) (hr.mono (by decide)) (za_cons (ze_var 2) (za_cons (ze_int) (za_cons (ze_gint rfl F.i_LONGEST_WINDOW) (za_nil))))))) (zss_one (zs_never)) (zss_nil)) (zss_one (zs_if (zt_not (zt_val (ze_call (gf_is_between F) (takes_of rfl rfl rfl rfl) (hr.mono (by decide)) (za_cons (ze_var 3) (za_cons (ze_int) (za_cons (ze_gint rfl F.i_LONGEST_WINDOW) (za_nil))))))) (zss_one (zs_never)) (zss_nil)))))
theorem gf_need_limits (F : Fx w K mg) : Gf P w K mg base "need_limits" 4 ["rise", "fall", "up", "down"] sp_need_limits := by
  obtain ⟨fd, h⟩ := F.f_need_limits
  exact ⟨_, fd, F.m_need_limits, h.kp, (h.bindsN fun _ _ _ _ _ _ us hl => match us, hl with | [_, _, _, _], _ => rfl), fo_need_limits F h⟩
theorem sc_Rule_init : FnScope ["self", "parts", "least", "most", "rise", "fall", "up", "down"] ["self", "parts", "least", "most", "rise", "fall", "up", "down"] d_Rule_init.scope := ⟨rfl, rfl, rfl, by decide +kernel, rfl, by decide +kernel, by decide +kernel⟩
theorem fo_Rule_init (F : Fx w K mg) {fd} (h : FunD K d_Rule_init.name d_Rule_init.qual d_Rule_init.params d_Rule_init.body d_Rule_init.scope (d_Rule_init.dvs K) (d_Rule_init.kws K) (d_Rule_init.ad K) fd) : FnOk P w K mg base (L2.CX P w) 5 (d_Rule_init.ad K) fd ["self", "parts", "least", "most", "rise", "fall", "up", "down"] (lift K sp_Rule_init) := by
  refine FnOk.of_z (z := zb_Rule_init) h sc_Rule_init (fun _ _ _ _ q => ln_Rule_init q) (fun cdv A outer s H E hr => ?_) (fun _ _ _ _ q => rd_Rule_init q)
  have hN := sc_Rule_init.nd
  exact zss_cons (zs_if (zt_not (zt_val (ze_call (gf_are_parts F) (takes_of rfl rfl rfl rfl) (hr.mono (by decide)) (za_cons (ze_var 1) (za_nil))))) (zss_one (zs_never)) (zss_nil)) (zss_cons (zs_if (zt_not (zt_val (ze_call (gf_is_between F) (takes_of rfl rfl rfl rfl) (hr.mono (by decide)) (za_cons (ze_var 2) (za_cons (ze_int) (za_cons (ze_gint rfl F.i_MOST_SERVERS) (za_nil))))))) (zss_one (zs_never)) (zss_nil)) (zss_cons (zs_if (zt_not (zt_val (ze_call (gf_is_between F) (takes_of rfl rfl rfl rfl) (hr.mono (by decide)) (za_cons (ze_var 3) (za_cons (ze_var 2) (za_cons (ze_gint rfl F.i_MOST_SERVERS) (za_nil))))))) (zss_one (zs_never)) (zss_nil)) (zss_cons (zs_expr (ze_call (gf_need_limits F) (takes_of rfl rfl rfl rfl) (hr.mono (by decide)) (za_cons (ze_var 4) (za_cons (ze_var 5) (za_cons (ze_var 6) (za_cons (ze_var 7) (za_nil))))))) (zss_cons (zs_fld (c := "Rule") (ze_var 0) (ze_ty call_tuple_of cz_tuple F.b_tuple rfl (za_cons (ze_var 1) (za_nil))) F.c_Rule F.n_Rule_r_parts) (zss_cons (zs_fld (c := "Rule") (ze_var 0) (ze_tup (za_cons (ze_var 2) (za_cons (ze_var 3) (za_nil)))) F.c_Rule F.n_Rule_r_bounds) (zss_one (zs_fld (c := "Rule") (ze_var 0) (ze_tup (za_cons (ze_var 4) (za_cons (ze_var 5) (za_cons (ze_var 6) (za_cons (ze_var 7) (za_nil)))))) F.c_Rule F.n_Rule_r_limits)))))))
theorem mkc_Rule_1_least_most_rise_fall_up_down (F : Fx w K mg) : MkC P w K mg base "Rule" 5 1 ["least", "most", "rise", "fall", "up", "down"] ["self", "parts", "least", "most", "rise", "fall", "up", "down"] sp_Rule_init := by
  obtain ⟨fd, h⟩ := F.f_Rule_init
  obtain ⟨mv, hb⟩ := h.kbinds0 (ps := ["self", "parts", "least", "most", "rise", "fall", "up", "down"]) 2 ["least", "most", "rise", "fall", "up", "down"] [] (fun vs _ zs => vs ++ zs) (fun z => by cases z) (fun _ z => by cases z) (fun h1 _ h3 => h1.append h3) (fun _ _ _ _ _ _ us mv ws h1 h2 h3 => match us, mv, ws, h1, h2, h3 with | [_, _], [], [_, _, _, _, _, _], _, _, _ => rfl)
  exact ⟨_, fd, F.mc_Rule, F.mk_Rule, fo_Rule_init F h, hb⟩
theorem sc_law_rule : FnScope ["_law_case_here", "_law_limits", "_law_more"] ["_law_case_here"] d_law_rule.scope := ⟨rfl, rfl, rfl, by decide +kernel, rfl, by decide +kernel, by decide +kernel⟩
theorem fo_law_rule (F : Fx w K mg) {fd} (h : FunD K d_law_rule.name d_law_rule.qual d_law_rule.params d_law_rule.body d_law_rule.scope (d_law_rule.dvs K) (d_law_rule.kws K) (d_law_rule.ad K) fd) : FnOk P w K mg base (L2.CX P w) 7 (d_law_rule.ad K) fd ["_law_case_here"] (lift K sp_law_rule) := by
  refine FnOk.of_z (z := zb_law_rule) h sc_law_rule (fun _ _ _ _ q => ln_law_rule q) (fun cdv A outer s H E hr => ?_) (fun _ _ _ _ q => rd_law_rule q)
  have hN := sc_law_rule.nd
  exact zss_cons (zs_set 1 hN (ze_tup (za_cons (ze_dget (units1 hr) (ze_var 0) (ze_str)) (za_cons (ze_dget (units1 hr) (ze_var 0) (ze_str)) (za_cons (ze_dget (units1 hr) (ze_var 0) (ze_str)) (za_cons (ze_dget (units1 hr) (ze_var 0) (ze_str)) (za_nil))))))) (zss_cons (zs_set 2 hN (ze_dictF (zp_cons (ze_str) (ze_dget (units1 hr) (ze_var 0) (ze_str)) (zp_cons (ze_str) (ze_dget (units1 hr) (ze_var 0) (ze_str)) (zp_nil))))) (zss_one (zs_ret (ze_make (mkc_Rule_1_least_most_rise_fall_up_down F) (takes_of rfl rfl rfl rfl) (hr.mono (by decide)) (za_cons (ze_ty call_list_of cz_list F.b_list rfl (za_cons (ze_dget (units1 hr) (ze_var 0) (ze_str)) (za_nil))) (za_nil)) (zk_cons (ze_dget (units1 hr) (ze_var 2) (ze_str)) (zk_cons (ze_dget (units1 hr) (ze_var 2) (ze_str)) (zk_cons (ze_ix ix_seq opz_ix (ze_var 1) (ze_int)) (zk_cons (ze_ix ix_seq opz_ix (ze_var 1) (ze_int)) (zk_cons (ze_ix ix_seq opz_ix (ze_var 1) (ze_int)) (zk_cons (ze_ix ix_seq opz_ix (ze_var 1) (ze_int)) (zk_nil)))))))))))
theorem gf_law_rule (F : Fx w K mg) : Gf P w K mg base "_law_rule" 7 ["_law_case_here"] sp_law_rule := by
  obtain ⟨fd, h⟩ := F.f_law_rule
  exact ⟨_, fd, F.m_law_rule, h.kp, (h.bindsN fun _ _ _ _ _ _ us hl => match us, hl with | [_], _ => rfl), fo_law_rule F h⟩
theorem sc_limit_word : FnScope ["limit"] ["limit"] d_limit_word.scope := ⟨rfl, rfl, rfl, by decide +kernel, rfl, by decide +kernel, by decide +kernel⟩
theorem fo_limit_word (F : Fx w K mg) {fd} (h : FunD K d_limit_word.name d_limit_word.qual d_limit_word.params d_limit_word.body d_limit_word.scope (d_limit_word.dvs K) (d_limit_word.kws K) (d_limit_word.ad K) fd) : FnOk P w K mg base (L2.CX P w) 1 (d_limit_word.ad K) fd ["limit"] (lift K sp_limit_word) := by
  refine FnOk.of_z (z := zb_limit_word) h sc_limit_word (fun _ _ _ _ q => ln_limit_word q) (fun cdv A outer s H E hr => ?_) (fun _ _ _ _ q => rd_limit_word q)
  have hN := sc_limit_word.nd
  exact zss_one (zs_ret (ze_ite (zt_cmp op_isN (cmp_is) (ze_var 0) (ze_non)) (ze_str) (ze_ty call_str_int cz_str F.b_str rfl (za_cons (ze_var 0) (za_nil)))))
theorem gf_limit_word (F : Fx w K mg) : Gf P w K mg base "limit_word" 1 ["limit"] sp_limit_word := by
  obtain ⟨fd, h⟩ := F.f_limit_word
  exact ⟨_, fd, F.m_limit_word, h.kp, (h.bindsN fun _ _ _ _ _ _ us hl => match us, hl with | [_], _ => rfl), fo_limit_word F h⟩
theorem sc_Rule_fall : FnScope ["self"] ["self"] d_Rule_fall.scope := ⟨rfl, rfl, rfl, by decide +kernel, rfl, by decide +kernel, by decide +kernel⟩
theorem fo_Rule_fall (F : Fx w K mg) {fd} (h : FunD K d_Rule_fall.name d_Rule_fall.qual d_Rule_fall.params d_Rule_fall.body d_Rule_fall.scope (d_Rule_fall.dvs K) (d_Rule_fall.kws K) (d_Rule_fall.ad K) fd) : FnOk P w K mg base (L2.CX P w) 1 (d_Rule_fall.ad K) fd ["self"] (lift K sp_Rule_fall) := by
  refine FnOk.of_z (z := zb_Rule_fall) h sc_Rule_fall (fun _ _ _ _ q => ln_Rule_fall q) (fun cdv A outer s H E hr => ?_) (fun _ _ _ _ q => rd_Rule_fall q)
  have hN := sc_Rule_fall.nd
  exact zss_one (zs_ret (ze_ix ix_seq opz_ix (ze_fld (c := "Rule") (ze_var 0) F.c_Rule F.n_Rule_r_limits) (ze_int)))
theorem pr_Rule_fall (F : Fx w K mg) : PropC P w K mg base "Rule" "fall" 1 ["self"] sp_Rule_fall := by
  obtain ⟨fd, h⟩ := F.f_Rule_fall
  exact ⟨_, _, fd, F.p_Rule_fall, (h.bindsN fun _ _ _ _ _ _ us hl => match us, hl with | [_], _ => rfl), fo_Rule_fall F h⟩
theorem sc_Rule_rise : FnScope ["self"] ["self"] d_Rule_rise.scope := ⟨rfl, rfl, rfl, by decide +kernel, rfl, by decide +kernel, by decide +kernel⟩
theorem fo_Rule_rise (F : Fx w K mg) {fd} (h : FunD K d_Rule_rise.name d_Rule_rise.qual d_Rule_rise.params d_Rule_rise.body d_Rule_rise.scope (d_Rule_rise.dvs K) (d_Rule_rise.kws K) (d_Rule_rise.ad K) fd) : FnOk P w K mg base (L2.CX P w) 1 (d_Rule_rise.ad K) fd ["self"] (lift K sp_Rule_rise) := by
  refine FnOk.of_z (z := zb_Rule_rise) h sc_Rule_rise (fun _ _ _ _ q => ln_Rule_rise q) (fun cdv A outer s H E hr => ?_) (fun _ _ _ _ q => rd_Rule_rise q)
  have hN := sc_Rule_rise.nd
  exact zss_one (zs_ret (ze_ix ix_seq opz_ix (ze_fld (c := "Rule") (ze_var 0) F.c_Rule F.n_Rule_r_limits) (ze_int)))
theorem pr_Rule_rise (F : Fx w K mg) : PropC P w K mg base "Rule" "rise" 1 ["self"] sp_Rule_rise := by
  obtain ⟨fd, h⟩ := F.f_Rule_rise
  exact ⟨_, _, fd, F.p_Rule_rise, (h.bindsN fun _ _ _ _ _ _ us hl => match us, hl with | [_], _ => rfl), fo_Rule_rise F h⟩
theorem sc_Rule_most : FnScope ["self"] ["self"] d_Rule_most.scope := ⟨rfl, rfl, rfl, by decide +kernel, rfl, by decide +kernel, by decide +kernel⟩
theorem fo_Rule_most (F : Fx w K mg) {fd} (h : FunD K d_Rule_most.name d_Rule_most.qual d_Rule_most.params d_Rule_most.body d_Rule_most.scope (d_Rule_most.dvs K) (d_Rule_most.kws K) (d_Rule_most.ad K) fd) : FnOk P w K mg base (L2.CX P w) 1 (d_Rule_most.ad K) fd ["self"] (lift K sp_Rule_most) := by
  refine FnOk.of_z (z := zb_Rule_most) h sc_Rule_most (fun _ _ _ _ q => ln_Rule_most q) (fun cdv A outer s H E hr => ?_) (fun _ _ _ _ q => rd_Rule_most q)
  have hN := sc_Rule_most.nd
  exact zss_one (zs_ret (ze_ix ix_seq opz_ix (ze_fld (c := "Rule") (ze_var 0) F.c_Rule F.n_Rule_r_bounds) (ze_int)))
theorem pr_Rule_most (F : Fx w K mg) : PropC P w K mg base "Rule" "most" 1 ["self"] sp_Rule_most := by
  obtain ⟨fd, h⟩ := F.f_Rule_most
  exact ⟨_, _, fd, F.p_Rule_most, (h.bindsN fun _ _ _ _ _ _ us hl => match us, hl with | [_], _ => rfl), fo_Rule_most F h⟩
theorem sc_Rule_least : FnScope ["self"] ["self"] d_Rule_least.scope := ⟨rfl, rfl, rfl, by decide +kernel, rfl, by decide +kernel, by decide +kernel⟩
theorem fo_Rule_least (F : Fx w K mg) {fd} (h : FunD K d_Rule_least.name d_Rule_least.qual d_Rule_least.params d_Rule_least.body d_Rule_least.scope (d_Rule_least.dvs K) (d_Rule_least.kws K) (d_Rule_least.ad K) fd) : FnOk P w K mg base (L2.CX P w) 1 (d_Rule_least.ad K) fd ["self"] (lift K sp_Rule_least) := by
  refine FnOk.of_z (z := zb_Rule_least) h sc_Rule_least (fun _ _ _ _ q => ln_Rule_least q) (fun cdv A outer s H E hr => ?_) (fun _ _ _ _ q => rd_Rule_least q)
  have hN := sc_Rule_least.nd
  exact zss_one (zs_ret (ze_ix ix_seq opz_ix (ze_fld (c := "Rule") (ze_var 0) F.c_Rule F.n_Rule_r_bounds) (ze_int)))
theorem pr_Rule_least (F : Fx w K mg) : PropC P w K mg base "Rule" "least" 1 ["self"] sp_Rule_least := by
  obtain ⟨fd, h⟩ := F.f_Rule_least
  exact ⟨_, _, fd, F.p_Rule_least, (h.bindsN fun _ _ _ _ _ _ us hl => match us, hl with | [_], _ => rfl), fo_Rule_least F h⟩
theorem sc_Rule_down : FnScope ["self"] ["self"] d_Rule_down.scope := ⟨rfl, rfl, rfl, by decide +kernel, rfl, by decide +kernel, by decide +kernel⟩
theorem fo_Rule_down (F : Fx w K mg) {fd} (h : FunD K d_Rule_down.name d_Rule_down.qual d_Rule_down.params d_Rule_down.body d_Rule_down.scope (d_Rule_down.dvs K) (d_Rule_down.kws K) (d_Rule_down.ad K) fd) : FnOk P w K mg base (L2.CX P w) 1 (d_Rule_down.ad K) fd ["self"] (lift K sp_Rule_down) := by
  refine FnOk.of_z (z := zb_Rule_down) h sc_Rule_down (fun _ _ _ _ q => ln_Rule_down q) (fun cdv A outer s H E hr => ?_) (fun _ _ _ _ q => rd_Rule_down q)
  have hN := sc_Rule_down.nd
  exact zss_one (zs_ret (ze_ix ix_seq opz_ix (ze_fld (c := "Rule") (ze_var 0) F.c_Rule F.n_Rule_r_limits) (ze_int)))
theorem pr_Rule_down (F : Fx w K mg) : PropC P w K mg base "Rule" "down" 1 ["self"] sp_Rule_down := by
  obtain ⟨fd, h⟩ := F.f_Rule_down
  exact ⟨_, _, fd, F.p_Rule_down, (h.bindsN fun _ _ _ _ _ _ us hl => match us, hl with | [_], _ => rfl), fo_Rule_down F h⟩
theorem sc_Rule_up : FnScope ["self"] ["self"] d_Rule_up.scope := ⟨rfl, rfl, rfl, by decide +kernel, rfl, by decide +kernel, by decide +kernel⟩
theorem fo_Rule_up (F : Fx w K mg) {fd} (h : FunD K d_Rule_up.name d_Rule_up.qual d_Rule_up.params d_Rule_up.body d_Rule_up.scope (d_Rule_up.dvs K) (d_Rule_up.kws K) (d_Rule_up.ad K) fd) : FnOk P w K mg base (L2.CX P w) 1 (d_Rule_up.ad K) fd ["self"] (lift K sp_Rule_up) := by
  refine FnOk.of_z (z := zb_Rule_up) h sc_Rule_up (fun _ _ _ _ q => ln_Rule_up q) (fun cdv A outer s H E hr => ?_) (fun _ _ _ _ q => rd_Rule_up q)
  have hN := sc_Rule_up.nd
  exact zss_one (zs_ret (ze_ix ix_seq opz_ix (ze_fld (c := "Rule") (ze_var 0) F.c_Rule F.n_Rule_r_limits) (ze_int)))
theorem pr_Rule_up (F : Fx w K mg) : PropC P w K mg base "Rule" "up" 1 ["self"] sp_Rule_up := by
  obtain ⟨fd, h⟩ := F.f_Rule_up
  exact ⟨_, _, fd, F.p_Rule_up, (h.bindsN fun _ _ _ _ _ _ us hl => match us, hl with | [_], _ => rfl), fo_Rule_up F h⟩
theorem sc_Rule_parts : FnScope ["self"] ["self"] d_Rule_parts.scope := ⟨rfl, rfl, rfl, by decide +kernel, rfl, by decide +kernel, by decide +kernel⟩
theorem fo_Rule_parts (F : Fx w K mg) {fd} (h : FunD K d_Rule_parts.name d_Rule_parts.qual d_Rule_parts.params d_Rule_parts.body d_Rule_parts.scope (d_Rule_parts.dvs K) (d_Rule_parts.kws K) (d_Rule_parts.ad K) fd) : FnOk P w K mg base (L2.CX P w) 1 (d_Rule_parts.ad K) fd ["self"] (lift K sp_Rule_parts) := by
  refine FnOk.of_z (z := zb_Rule_parts) h sc_Rule_parts (fun _ _ _ _ q => ln_Rule_parts q) (fun cdv A outer s H E hr => ?_) (fun _ _ _ _ q => rd_Rule_parts q)
  have hN := sc_Rule_parts.nd
  exact zss_one (zs_ret (ze_fld (c := "Rule") (ze_var 0) F.c_Rule F.n_Rule_r_parts))
theorem pr_Rule_parts (F : Fx w K mg) : PropC P w K mg base "Rule" "parts" 1 ["self"] sp_Rule_parts := by
  obtain ⟨fd, h⟩ := F.f_Rule_parts
  exact ⟨_, _, fd, F.p_Rule_parts, (h.bindsN fun _ _ _ _ _ _ us hl => match us, hl with | [_], _ => rfl), fo_Rule_parts F h⟩
theorem sc_part_words : FnScope ["part", "number"] ["part"] d_part_words.scope := ⟨rfl, rfl, rfl, by decide +kernel, rfl, by decide +kernel, by decide +kernel⟩
theorem fo_part_words (F : Fx w K mg) {fd} (h : FunD K d_part_words.name d_part_words.qual d_part_words.params d_part_words.body d_part_words.scope (d_part_words.dvs K) (d_part_words.kws K) (d_part_words.ad K) fd) : FnOk P w K mg base (L2.CX P w) 1 (d_part_words.ad K) fd ["part"] (lift K sp_part_words) := by
  refine FnOk.of_z (z := zb_part_words) h sc_part_words (fun _ _ _ _ q => ln_part_words q) (fun cdv A outer s H E hr => ?_) (fun _ _ _ _ q => rd_part_words q)
  have hN := sc_part_words.nd
  exact zss_one (zs_ret (ze_op op_addZ opz_add (ze_lst (za_cons (ze_ix ix_seq opz_ix (ze_var 0) (ze_int)) (za_nil))) (ze_lc (own := [("number", 1)]) rfl hN (zi_tup (ze_sl (ze_var 0) (zo_some (ze_int)) (zo_none))) (blkOk_by rfl) (by decide) (fun _ _ _ _ _ => zg_name 1 hN) (fun _ _ _ _ _ => zts_nil) (fun _ _ _ _ _ => ze_ty call_str_int cz_str F.b_str rfl (za_cons (ze_var 1) (za_nil))))))
theorem gf_part_words (F : Fx w K mg) : Gf P w K mg base "part_words" 1 ["part"] sp_part_words := by
  obtain ⟨fd, h⟩ := F.f_part_words
  exact ⟨_, fd, F.m_part_words, h.kp, (h.bindsN fun _ _ _ _ _ _ us hl => match us, hl with | [_], _ => rfl), fo_part_words F h⟩
theorem sc_rule_text : FnScope ["rule", "words", "part", "rows", "row"] ["rule"] d_rule_text.scope := ⟨rfl, rfl, rfl, by decide +kernel, rfl, by decide +kernel, by decide +kernel⟩
theorem fo_rule_text (F : Fx w K mg) {fd} (h : FunD K d_rule_text.name d_rule_text.qual d_rule_text.params d_rule_text.body d_rule_text.scope (d_rule_text.dvs K) (d_rule_text.kws K) (d_rule_text.ad K) fd) : FnOk P w K mg base (L2.CX P w) 3 (d_rule_text.ad K) fd ["rule"] (lift K sp_rule_text) := by
  refine FnOk.of_z (z := zb_rule_text) h sc_rule_text (fun _ _ _ _ q => ln_rule_text q) (fun cdv A outer s H E hr => ?_) (fun _ _ _ _ q => rd_rule_text q)
  have hN := sc_rule_text.nd
  exact zss_cons (zs_set 1 hN (ze_lst (za_cons (ze_str) (za_cons (ze_ty call_str_int cz_str F.b_str rfl (za_cons (ze_prop F.c_Rule (pr_Rule_least F) (hr.mono (by decide)) (ze_var 0)) (za_nil))) (za_cons (ze_ty call_str_int cz_str F.b_str rfl (za_cons (ze_prop F.c_Rule (pr_Rule_most F) (hr.mono (by decide)) (ze_var 0)) (za_nil))) (za_cons (ze_call (gf_limit_word F) (takes_of rfl rfl rfl rfl) (hr.mono (by decide)) (za_cons (ze_prop F.c_Rule (pr_Rule_rise F) (hr.mono (by decide)) (ze_var 0)) (za_nil))) (za_cons (ze_call (gf_limit_word F) (takes_of rfl rfl rfl rfl) (hr.mono (by decide)) (za_cons (ze_prop F.c_Rule (pr_Rule_fall F) (hr.mono (by decide)) (ze_var 0)) (za_nil))) (za_nil)))))))) (zss_cons (zs_set 3 hN (ze_op op_addZ opz_add (ze_lst (za_cons (ze_op op_addZ opz_add (ze_var 1) (ze_lst (za_cons (ze_ty call_str_int cz_str F.b_str rfl (za_cons (ze_prop F.c_Rule (pr_Rule_up F) (hr.mono (by decide)) (ze_var 0)) (za_nil))) (za_cons (ze_ty call_str_int cz_str F.b_str rfl (za_cons (ze_prop F.c_Rule (pr_Rule_down F) (hr.mono (by decide)) (ze_var 0)) (za_nil))) (za_nil))))) (za_nil))) (ze_lc (own := [("part", 2)]) rfl hN (zi_tup (ze_prop F.c_Rule (pr_Rule_parts F) (hr.mono (by decide)) (ze_var 0))) (blkOk_by rfl) (by decide) (fun _ _ _ _ _ => zg_name 2 hN) (fun _ _ _ _ _ => zts_nil) (fun _ _ _ _ _ => ze_call (gf_part_words F) Z.takes0 (hr.mono (by decide)) (za_cons (ze_var 2) (za_nil)))))) (zss_one (zs_ret (ze_join (ze_str) (ze_lc (own := [("row", 4)]) rfl hN (zi_lst (ze_var 3)) (blkOk_by rfl) (by decide) (fun _ _ _ _ _ => zg_name 4 hN) (fun _ _ _ _ _ => zts_nil) (fun _ _ _ _ _ => ze_op op_addZ opz_add (ze_join (ze_str) (ze_var 4)) (ze_str)))))))
theorem gf_rule_text (F : Fx w K mg) : Gf P w K mg base "rule_text" 3 ["rule"] sp_rule_text := by
  obtain ⟨fd, h⟩ := F.f_rule_text
  exact ⟨_, fd, F.m_rule_text, h.kp, (h.bindsN fun _ _ _ _ _ _ us hl => match us, hl with | [_], _ => rfl), fo_rule_text F h⟩
theorem gk_rule_text_0_rule (F : Fx w K mg) : GfK P w K mg base "rule_text" 3 0 ["rule"] [0] ["rule"] sp_rule_text := by
  obtain ⟨fd, h⟩ := F.f_rule_text
  exact ⟨_, fd, F.m_rule_text, h.kp, kbn_pick h 0 ["rule"] [0] (fun _ _ _ _ _ _ us ws h1 h2 => match us, ws, h1, h2 with | [], [_], _, _ => rfl), fo_rule_text F h⟩
theorem sc_is_number : FnScope ["word", "longest", "sign"] ["word", "longest"] d_is_number.scope := ⟨rfl, rfl, rfl, by decide +kernel, rfl, by decide +kernel, by decide +kernel⟩
theorem fo_is_number (F : Fx w K mg) {fd} (h : FunD K d_is_number.name d_is_number.qual d_is_number.params d_is_number.body d_is_number.scope (d_is_number.dvs K) (d_is_number.kws K) (d_is_number.ad K) fd) : FnOk P w K mg base (L2.CX P w) 1 (d_is_number.ad K) fd ["word", "longest"] (lift K sp_is_number) := by
  refine FnOk.of_z (z := zb_is_number) h sc_is_number (fun _ _ _ _ q => ln_is_number q) (fun cdv A outer s H E hr => ?_) (fun _ _ _ _ q => rd_is_number q)
  have hN := sc_is_number.nd
  exact zss_cons (zs_if (zt_w (zw_or (zt_not (zt_chain op_le (cmp_I _) op_le (cmp_I _) (ze_int) (ze_len F.b_len (ze_var 0)) (ze_var 1))) (zw_or1 (zt_not (zt_val (ze_bi (cr_all rfl) cz_all F.b_all rfl (za_cons (ze_lc (own := [("sign", 2)]) rfl hN (zi_str (ze_var 0)) (blkOk_by rfl) (by decide) (fun _ _ _ _ _ => zg_name 2 hN) (fun _ _ _ _ _ => zts_nil) (fun _ _ _ _ _ => ze_cmp op_in_sign (cmp_inS) (ze_var 2) (ze_str))) (za_nil)))))))) (zss_one (zs_ret (ze_bl))) (zss_nil)) (zss_one (zs_ret (ze_or (ze_cmp (op_eqZ hr.units) (cmp_eq) (ze_var 0) (ze_str)) (ze_one (ze_cmp (op_neZ hr.units) (cmp_ne) (ze_ix ix_seq opz_ix (ze_var 0) (ze_int)) (ze_str))))))
theorem gf_is_number (F : Fx w K mg) : Gf P w K mg base "is_number" 1 ["word", "longest"] sp_is_number := by
  obtain ⟨fd, h⟩ := F.f_is_number
  exact ⟨_, fd, F.m_is_number, h.kp, (h.bindsN fun _ _ _ _ _ _ us hl => match us, hl with | [_, _], _ => rfl), fo_is_number F h⟩
theorem sc_is_first_line : FnScope ["words", "word"] ["words"] d_is_first_line.scope := ⟨rfl, rfl, rfl, by decide +kernel, rfl, by decide +kernel, by decide +kernel⟩
theorem fo_is_first_line (F : Fx w K mg) {fd} (h : FunD K d_is_first_line.name d_is_first_line.qual d_is_first_line.params d_is_first_line.body d_is_first_line.scope (d_is_first_line.dvs K) (d_is_first_line.kws K) (d_is_first_line.ad K) fd) : FnOk P w K mg base (L2.CX P w) 2 (d_is_first_line.ad K) fd ["words"] (lift K sp_is_first_line) := by
  refine FnOk.of_z (z := zb_is_first_line) h sc_is_first_line (fun _ _ _ _ q => ln_is_first_line q) (fun cdv A outer s H E hr => ?_) (fun _ _ _ _ q => rd_is_first_line q)
  have hN := sc_is_first_line.nd
  exact zss_cons (zs_if (zt_w (zw_or (zt_cmp (op_neZ hr.units) (cmp_ne) (ze_len F.b_len (ze_var 0)) (ze_gint rfl F.i_FIRST_WORDS)) (zw_or1 (zt_cmp (op_neZ hr.units) (cmp_ne) (ze_ix ix_seq opz_ix (ze_var 0) (ze_int)) (ze_str))))) (zss_one (zs_ret (ze_bl))) (zss_nil)) (zss_cons (zs_if (zt_not (zt_val (ze_bi (cr_all rfl) cz_all F.b_all rfl (za_cons (ze_lc (own := [("word", 1)]) rfl hN (zi_lst (ze_sl (ze_var 0) (zo_some (ze_int)) (zo_some (ze_int)))) (blkOk_by rfl) (by decide) (fun _ _ _ _ _ => zg_name 1 hN) (fun _ _ _ _ _ => zts_nil) (fun _ _ _ _ _ => ze_or (ze_cmp (op_eqZ hr.units) (cmp_eq) (ze_var 1) (ze_str)) (ze_one (ze_call (gf_is_number F) Z.takes0 (hr.mono (by decide)) (za_cons (ze_var 1) (za_cons (ze_gint rfl F.i_LONGEST_NUMBER) (za_nil))))))) (za_nil))))) (zss_one (zs_ret (ze_bl))) (zss_nil)) (zss_one (zs_ret (ze_bi (cr_all rfl) cz_all F.b_all rfl (za_cons (ze_lc (own := [("word", 1)]) rfl hN (zi_lst (ze_op op_addZ opz_add (ze_sl (ze_var 0) (zo_some (ze_int)) (zo_some (ze_int))) (ze_sl (ze_var 0) (zo_some (ze_int)) (zo_none)))) (blkOk_by rfl) (by decide) (fun _ _ _ _ _ => zg_name 1 hN) (fun _ _ _ _ _ => zts_nil) (fun _ _ _ _ _ => ze_call (gf_is_number F) Z.takes0 (hr.mono (by decide)) (za_cons (ze_var 1) (za_cons (ze_gint rfl F.i_LONGEST_NUMBER) (za_nil))))) (za_nil))))))
theorem gf_is_first_line (F : Fx w K mg) : Gf P w K mg base "is_first_line" 2 ["words"] sp_is_first_line := by
  obtain ⟨fd, h⟩ := F.f_is_first_line
  exact ⟨_, fd, F.m_is_first_line, h.kp, (h.bindsN fun _ _ _ _ _ _ us hl => match us, hl with | [_], _ => rfl), fo_is_first_line F h⟩
theorem sc_is_part_line : FnScope ["words", "longest", "word"] ["words", "longest"] d_is_part_line.scope := ⟨rfl, rfl, rfl, by decide +kernel, rfl, by decide +kernel, by decide +kernel⟩
theorem fo_is_part_line (F : Fx w K mg) {fd} (h : FunD K d_is_part_line.name d_is_part_line.qual d_is_part_line.params d_is_part_line.body d_is_part_line.scope (d_is_part_line.dvs K) (d_is_part_line.kws K) (d_is_part_line.ad K) fd) : FnOk P w K mg base (L2.CX P w) 2 (d_is_part_line.ad K) fd ["words", "longest"] (lift K sp_is_part_line) := by
  refine FnOk.of_z (z := zb_is_part_line) h sc_is_part_line (fun _ _ _ _ q => ln_is_part_line q) (fun cdv A outer s H E hr => ?_) (fun _ _ _ _ q => rd_is_part_line q)
  have hN := sc_is_part_line.nd
  exact zss_cons (zs_if (zt_cmp (op_neZ hr.units) (cmp_ne) (ze_getTab F.m_SIZES F.t_SIZES (ze_ix ix_seq opz_ix (ze_var 0) (ze_int)) (ze_int)) (ze_len F.b_len (ze_var 0))) (zss_one (zs_ret (ze_bl))) (zss_nil)) (zss_one (zs_ret (ze_bi (cr_all rfl) cz_all F.b_all rfl (za_cons (ze_lc (own := [("word", 2)]) rfl hN (zi_lst (ze_sl (ze_var 0) (zo_some (ze_int)) (zo_none))) (blkOk_by rfl) (by decide) (fun _ _ _ _ _ => zg_name 2 hN) (fun _ _ _ _ _ => zts_nil) (fun _ _ _ _ _ => ze_call (gf_is_number F) Z.takes0 (hr.mono (by decide)) (za_cons (ze_var 2) (za_cons (ze_var 1) (za_nil))))) (za_nil)))))
theorem gf_is_part_line (F : Fx w K mg) : Gf P w K mg base "is_part_line" 2 ["words", "longest"] sp_is_part_line := by
  obtain ⟨fd, h⟩ := F.f_is_part_line
  exact ⟨_, fd, F.m_is_part_line, h.kp, (h.bindsN fun _ _ _ _ _ _ us hl => match us, hl with | [_, _], _ => rfl), fo_is_part_line F h⟩
theorem sc_parted_lines : FnScope ["text", "rows", "is_ended", "row", "lines", "at", "words"] ["text"] d_parted_lines.scope := ⟨rfl, rfl, rfl, by decide +kernel, rfl, by decide +kernel, by decide +kernel⟩
theorem fo_parted_lines (F : Fx w K mg) {fd} (h : FunD K d_parted_lines.name d_parted_lines.qual d_parted_lines.params d_parted_lines.body d_parted_lines.scope (d_parted_lines.dvs K) (d_parted_lines.kws K) (d_parted_lines.ad K) fd) : FnOk P w K mg base (L2.CX P w) 3 (d_parted_lines.ad K) fd ["text"] (lift K sp_parted_lines) := by
  refine FnOk.of_z (z := zb_parted_lines) h sc_parted_lines (fun _ _ _ _ q => ln_parted_lines q) (fun cdv A outer s H E hr => ?_) (fun _ _ _ _ q => rd_parted_lines q)
  have hN := sc_parted_lines.nd
  exact zss_cons (zs_set 1 hN (ze_split (ze_var 0) (ze_str))) (zss_cons (zs_set 2 hN (ze_cmp (op_eqZ hr.units) (cmp_eq) (ze_ix ix_seq opz_ix (ze_var 1) (ze_un un_neg opz_neg (ze_int))) (ze_str))) (zss_cons (zs_setLc 4 (own := [("row", 3)]) rfl hN (zi_lst (ze_ite (zt_val (ze_var 2)) (ze_sl (ze_var 1) (zo_none) (zo_some (ze_un un_neg opz_neg (ze_int)))) (ze_var 1))) (blkOk_by rfl) (by decide) (fun _ _ _ _ _ => zg_name 3 hN) (fun _ _ _ _ _ => zts_nil) (fun _ _ _ _ _ => ze_split (ze_var 3) (ze_str))) (zss_cons (zs_for (passes_of rfl) rfl (zi_enum (za_cons (ze_var 4) (za_nil)) F.b_enumerate) (zg_tup rfl (zgs_cons (zg_name 5 hN) (zgs_cons (zg_name 6 hN) (zgs_nil))) (gs_lenS str_var (gs_lenS str_var (gs_len0)))) (zss_one (zs_if (zt_not (zt_ite (zt_cmp (op_eqZ hr.units) (cmp_eq) (ze_var 5) (ze_int)) (zt_val (ze_call (gf_is_first_line F) (takes_of rfl rfl rfl rfl) (hr.mono (by decide)) (za_cons (ze_var 6) (za_nil)))) (zt_val (ze_call (gf_is_part_line F) (takes_of rfl rfl rfl rfl) (hr.mono (by decide)) (za_cons (ze_var 6) (za_cons (ze_gint rfl F.i_LONGEST_NUMBER) (za_nil))))))) (zss_one (zs_never)) (zss_nil)))) (zss_cons (zs_if (zt_not (zt_val (ze_var 2))) (zss_one (zs_never)) (zss_nil)) (zss_one (zs_ret (ze_var 4)))))))
theorem gf_parted_lines (F : Fx w K mg) : Gf P w K mg base "parted_lines" 3 ["text"] sp_parted_lines := by
  obtain ⟨fd, h⟩ := F.f_parted_lines
  exact ⟨_, fd, F.m_parted_lines, h.kp, (h.bindsN fun _ _ _ _ _ _ us hl => match us, hl with | [_], _ => rfl), fo_parted_lines F h⟩
theorem sc_limit_of : FnScope ["word"] ["word"] d_limit_of.scope := ⟨rfl, rfl, rfl, by decide +kernel, rfl, by decide +kernel, by decide +kernel⟩
theorem fo_limit_of (F : Fx w K mg) {fd} (h : FunD K d_limit_of.name d_limit_of.qual d_limit_of.params d_limit_of.body d_limit_of.scope (d_limit_of.dvs K) (d_limit_of.kws K) (d_limit_of.ad K) fd) : FnOk P w K mg base (L2.CX P w) 1 (d_limit_of.ad K) fd ["word"] (lift K sp_limit_of) := by
  refine FnOk.of_z (z := zb_limit_of) h sc_limit_of (fun _ _ _ _ q => ln_limit_of q) (fun cdv A outer s H E hr => ?_) (fun _ _ _ _ q => rd_limit_of q)
  have hN := sc_limit_of.nd
  exact zss_one (zs_ret (ze_ite (zt_cmp (op_eqZ hr.units) (cmp_eq) (ze_var 0) (ze_str)) (ze_non) (ze_ty call_intZ cz_int F.b_int rfl (za_cons (ze_var 0) (za_nil)))))
theorem gf_limit_of (F : Fx w K mg) : Gf P w K mg base "limit_of" 1 ["word"] sp_limit_of := by
  obtain ⟨fd, h⟩ := F.f_limit_of
  exact ⟨_, fd, F.m_limit_of, h.kp, (h.bindsN fun _ _ _ _ _ _ us hl => match us, hl with | [_], _ => rfl), fo_limit_of F h⟩
theorem sc_Rule_with_parts : FnScope ["self", "parts", "rise", "fall", "up", "down"] ["self", "parts"] d_Rule_with_parts.scope := ⟨rfl, rfl, rfl, by decide +kernel, rfl, by decide +kernel, by decide +kernel⟩
theorem fo_Rule_with_parts (F : Fx w K mg) {fd} (h : FunD K d_Rule_with_parts.name d_Rule_with_parts.qual d_Rule_with_parts.params d_Rule_with_parts.body d_Rule_with_parts.scope (d_Rule_with_parts.dvs K) (d_Rule_with_parts.kws K) (d_Rule_with_parts.ad K) fd) : FnOk P w K mg base (L2.CX P w) 7 (d_Rule_with_parts.ad K) fd ["self", "parts"] (lift K sp_Rule_with_parts) := by
  refine FnOk.of_z (z := zb_Rule_with_parts) h sc_Rule_with_parts (fun _ _ _ _ q => ln_Rule_with_parts q) (fun cdv A outer s H E hr => ?_) (fun _ _ _ _ q => rd_Rule_with_parts q)
  have hN := sc_Rule_with_parts.nd
  exact zss_cons (zs_asg (ze_fld (c := "Rule") (ze_var 0) F.c_Rule F.n_Rule_r_limits) (zg_tup rfl (zgs_cons (zg_name 2 hN) (zgs_cons (zg_name 3 hN) (zgs_cons (zg_name 4 hN) (zgs_cons (zg_name 5 hN) (zgs_nil))))) (gs_lenS str_var (gs_lenS str_var (gs_lenS str_var (gs_lenS str_var (gs_len0))))))) (zss_one (zs_ret (ze_make (mkc_Rule_1_least_most_rise_fall_up_down F) (takes_of rfl rfl rfl rfl) (hr.mono (by decide)) (za_cons (ze_var 1) (za_nil)) (zk_cons (ze_prop F.c_Rule (pr_Rule_least F) (hr.mono (by decide)) (ze_var 0)) (zk_cons (ze_prop F.c_Rule (pr_Rule_most F) (hr.mono (by decide)) (ze_var 0)) (zk_cons (ze_var 2) (zk_cons (ze_var 3) (zk_cons (ze_var 4) (zk_cons (ze_var 5) (zk_nil))))))))))
theorem me_Rule_with_parts (F : Fx w K mg) : MethC P w K mg base "Rule" "with_parts" 7 ["self", "parts"] sp_Rule_with_parts := by
  obtain ⟨fd, h⟩ := F.f_Rule_with_parts
  exact ⟨_, fd, F.me_Rule_with_parts, (h.bindsN fun _ _ _ _ _ _ us hl => match us, hl with | [_, _], _ => rfl), fo_Rule_with_parts F h⟩
theorem sc_part_of : FnScope ["words", "word"] ["words"] d_part_of.scope := ⟨rfl, rfl, rfl, by decide +kernel, rfl, by decide +kernel, by decide +kernel⟩
theorem fo_part_of (F : Fx w K mg) {fd} (h : FunD K d_part_of.name d_part_of.qual d_part_of.params d_part_of.body d_part_of.scope (d_part_of.dvs K) (d_part_of.kws K) (d_part_of.ad K) fd) : FnOk P w K mg base (L2.CX P w) 1 (d_part_of.ad K) fd ["words"] (lift K sp_part_of) := by
  refine FnOk.of_z (z := zb_part_of) h sc_part_of (fun _ _ _ _ q => ln_part_of q) (fun cdv A outer s H E hr => ?_) (fun _ _ _ _ q => rd_part_of q)
  have hN := sc_part_of.nd
  exact zss_one (zs_ret (ze_op op_addZ opz_add (ze_tup (za_cons (ze_ix ix_seq opz_ix (ze_var 0) (ze_int)) (za_nil))) (ze_ty call_tuple_of cz_tuple F.b_tuple rfl (za_cons (ze_lc (own := [("word", 1)]) rfl hN (zi_lst (ze_sl (ze_var 0) (zo_some (ze_int)) (zo_none))) (blkOk_by rfl) (by decide) (fun _ _ _ _ _ => zg_name 1 hN) (fun _ _ _ _ _ => zts_nil) (fun _ _ _ _ _ => ze_ty call_intZ cz_int F.b_int rfl (za_cons (ze_var 1) (za_nil)))) (za_nil)))))
theorem gf_part_of (F : Fx w K mg) : Gf P w K mg base "part_of" 1 ["words"] sp_part_of := by
  obtain ⟨fd, h⟩ := F.f_part_of
  exact ⟨_, fd, F.m_part_of, h.kp, (h.bindsN fun _ _ _ _ _ _ us hl => match us, hl with | [_], _ => rfl), fo_part_of F h⟩
theorem sc_read_rule : FnScope ["text", "lines", "word", "least", "most", "up", "down", "rise", "fall", "bare", "words"] ["text"] d_read_rule.scope := ⟨rfl, rfl, rfl, by decide +kernel, rfl, by decide +kernel, by decide +kernel⟩
theorem fo_read_rule (F : Fx w K mg) {fd} (h : FunD K d_read_rule.name d_read_rule.qual d_read_rule.params d_read_rule.body d_read_rule.scope (d_read_rule.dvs K) (d_read_rule.kws K) (d_read_rule.ad K) fd) : FnOk P w K mg base (L2.CX P w) 8 (d_read_rule.ad K) fd ["text"] (lift K sp_read_rule) := by
  refine FnOk.of_z (z := zb_read_rule) h sc_read_rule (fun _ _ _ _ q => ln_read_rule q) (fun cdv A outer s H E hr => ?_) (fun _ _ _ _ q => rd_read_rule q)
  have hN := sc_read_rule.nd
  exact zss_cons (zs_if (zt_w (zw_or (zt_not (zt_val (ze_isi F.b_isinstance F.b_str rfl (ze_var 0)))) (zw_or1 (zt_cmp (op_eqZ hr.units) (cmp_eq) (ze_var 0) (ze_str))))) (zss_one (zs_never)) (zss_nil)) (zss_cons (zs_set 1 hN (ze_call (gf_parted_lines F) (takes_of rfl rfl rfl rfl) (hr.mono (by decide)) (za_cons (ze_var 0) (za_nil)))) (zss_cons (zs_asg (ze_lc (own := [("word", 2)]) rfl hN (zi_lst (ze_op op_addZ opz_add (ze_sl (ze_ix ix_seq opz_ix (ze_var 1) (ze_int)) (zo_some (ze_int)) (zo_some (ze_int))) (ze_sl (ze_ix ix_seq opz_ix (ze_var 1) (ze_int)) (zo_some (ze_int)) (zo_none)))) (blkOk_by rfl) (by decide) (fun _ _ _ _ _ => zg_name 2 hN) (fun _ _ _ _ _ => zts_nil) (fun _ _ _ _ _ => ze_ty call_intZ cz_int F.b_int rfl (za_cons (ze_var 2) (za_nil)))) (zg_lst rfl (zgs_cons (zg_name 3 hN) (zgs_cons (zg_name 4 hN) (zgs_cons (zg_name 5 hN) (zgs_cons (zg_name 6 hN) (zgs_nil))))) (gs_lenS str_var (gs_lenS str_var (gs_lenS str_var (gs_lenS str_var (gs_len0))))))) (zss_cons (zs_par 7 8 rfl hN (za_cons (ze_call (gf_limit_of F) (takes_of rfl rfl rfl rfl) (hr.mono (by decide)) (za_cons (ze_ix ix_seq opz_ix (ze_ix ix_seq opz_ix (ze_var 1) (ze_int)) (ze_int)) (za_nil))) (za_cons (ze_call (gf_limit_of F) (takes_of rfl rfl rfl rfl) (hr.mono (by decide)) (za_cons (ze_ix ix_seq opz_ix (ze_ix ix_seq opz_ix (ze_var 1) (ze_int)) (ze_int)) (za_nil))) (za_nil)))) (zss_cons (zs_set 9 hN (ze_make (mkc_Rule_1_least_most_rise_fall_up_down F) (takes_of rfl rfl rfl rfl) (hr.mono (by decide)) (za_cons (ze_lst (za_nil)) (za_nil)) (zk_cons (ze_var 3) (zk_cons (ze_var 4) (zk_cons (ze_var 7) (zk_cons (ze_var 8) (zk_cons (ze_var 5) (zk_cons (ze_var 6) (zk_nil))))))))) (zss_one (zs_ret (ze_meth F.c_Rule (me_Rule_with_parts F) (takes_of rfl rfl rfl rfl) (hr.mono (by decide)) (ze_var 9) (za_cons (ze_lc (own := [("words", 10)]) rfl hN (zi_lst (ze_sl (ze_var 1) (zo_some (ze_int)) (zo_none))) (blkOk_by rfl) (by decide) (fun _ _ _ _ _ => zg_name 10 hN) (fun _ _ _ _ _ => zts_nil) (fun _ _ _ _ _ => ze_call (gf_part_of F) Z.takes0 (hr.mono (by decide)) (za_cons (ze_var 10) (za_nil)))) (za_nil)))))))))
theorem gf_read_rule (F : Fx w K mg) : Gf P w K mg base "read_rule" 8 ["text"] sp_read_rule := by
  obtain ⟨fd, h⟩ := F.f_read_rule
  exact ⟨_, fd, F.m_read_rule, h.kp, (h.bindsN fun _ _ _ _ _ _ us hl => match us, hl with | [_], _ => rfl), fo_read_rule F h⟩
theorem gk_read_rule_0_text (F : Fx w K mg) : GfK P w K mg base "read_rule" 8 0 ["text"] [0] ["text"] sp_read_rule := by
  obtain ⟨fd, h⟩ := F.f_read_rule
  exact ⟨_, fd, F.m_read_rule, h.kp, kbn_pick h 0 ["text"] [0] (fun _ _ _ _ _ _ us ws h1 h2 => match us, ws, h1, h2 with | [], [_], _, _ => rfl), fo_read_rule F h⟩
theorem sc_Rule_eq : FnScope ["self", "other"] ["self", "other"] d_Rule_eq.scope := ⟨rfl, rfl, rfl, by decide +kernel, rfl, by decide +kernel, by decide +kernel⟩
theorem fo_Rule_eq (F : Fx w K mg) {fd} (h : FunD K d_Rule_eq.name d_Rule_eq.qual d_Rule_eq.params d_Rule_eq.body d_Rule_eq.scope (d_Rule_eq.dvs K) (d_Rule_eq.kws K) (d_Rule_eq.ad K) fd) : FnOk P w K mg base (L2.CX P w) 1 (d_Rule_eq.ad K) fd ["self", "other"] (lift K sp_Rule_eq) := by
  refine FnOk.of_z (z := zb_Rule_eq) h sc_Rule_eq (fun _ _ _ _ q => ln_Rule_eq q) (fun cdv A outer s H E hr => ?_) (fun _ _ _ _ q => rd_Rule_eq q)
  have hN := sc_Rule_eq.nd
  exact zss_cons (zs_if (zt_w (zw_or (zt_not (zt_val (ze_isiC F.in_Rule F.b_isinstance F.mc_Rule (ze_var 1)))) (zw_or1 (zt_cmp (op_neZ hr.units) (cmp_ne) (ze_fld (c := "Rule") (ze_var 0) F.c_Rule F.n_Rule_r_parts) (ze_fld (c := "Rule") (ze_var 1) F.c_Rule F.n_Rule_r_parts))))) (zss_one (zs_ret (ze_bl))) (zss_nil)) (zss_one (zs_ret (ze_and (ze_cmp (op_eqZ hr.units) (cmp_eq) (ze_fld (c := "Rule") (ze_var 0) F.c_Rule F.n_Rule_r_bounds) (ze_fld (c := "Rule") (ze_var 1) F.c_Rule F.n_Rule_r_bounds)) (ze_one (ze_cmp (op_eqZ hr.units) (cmp_eq) (ze_fld (c := "Rule") (ze_var 0) F.c_Rule F.n_Rule_r_limits) (ze_fld (c := "Rule") (ze_var 1) F.c_Rule F.n_Rule_r_limits))))))
theorem eq_Rule (F : Fx w K mg) : EqC P w K mg base "Rule" 1 ["self", "other"] sp_Rule_eq := by
  obtain ⟨fd, h⟩ := F.f_Rule_eq
  obtain ⟨⟨h1, h2⟩, h3, h4⟩ := F.e_Rule
  exact ⟨⟨_, fd, h1, h2, (h.bindsN fun _ _ _ _ _ _ us hl => match us, hl with | [_, _], _ => rfl), fo_Rule_eq F h⟩, h3, h4⟩
theorem sc_law : FnScope ["_law_script", "_law_draw", "_law_last", "_law_turn", "_law_case_here", "_law_made", "_law_page", "_law_found"] ["_law_script"] d_law.scope := ⟨rfl, rfl, rfl, by decide +kernel, rfl, by decide +kernel, by decide +kernel⟩
theorem fo_law (F : Fx w K mg) {fd} (h : FunD K d_law.name d_law.qual d_law.params d_law.body d_law.scope (d_law.dvs K) (d_law.kws K) (d_law.ad K) fd) : FnOk P w K mg base (L2.CX P w) 9 (d_law.ad K) fd ["_law_script"] (spLaw K) := by
  obtain ⟨fdB, hB⟩ := F.f_law_begin
  have hb : Binds K fdB ["_law_script"] [] := hB.bindsN fun _ _ _ _ _ _ us hl => match us, hl with | [_], _ => rfl
  refine h.ok sc_law (fun vs H Q E q => ?_) fun cdv A outer s H vs Q E hr q => ⟨tLawS K (fun cls d _ H' => E cls d H') zb_law, ?_, law_run (by decide) rd_law q⟩
  · obtain ⟨a, ns, rfl, _⟩ := q
    rfl
  · have hN := sc_law.nd
    exact pss_cons (ps_set (i := 1) hN rfl (Or.inl rfl) (pe_callS (fo_law_begin F hB) (hr.mono (by decide)) rfl F.m_law_begin hB.kp hb (fun σ => passAt (takes_of rfl rfl rfl rfl) σ) (pa_cons (pv 0) pa_nil))) (zss_cons (zs_set 2 hN (ze_non)) (zss_cons (zs_for (passes_of rfl) rfl (zi_rng1 (za_cons (ze_op op_addZ opz_add (ze_int) (ze_bi (call_min2 rfl) cz_min2 F.b_min rfl (za_cons (ze_len F.b_len (ze_var 0)) (za_cons (ze_int) (za_nil))))) (za_nil)) F.b_range) (zg_name 3 hN) (zss_cons (zs_set 4 hN (ze_call (gf_law_case F) (takes_of rfl rfl rfl rfl) (hr.mono (by decide)) (za_cons (ze_var 1) (za_nil)))) (zss_cons (zs_par 5 6 rfl hN (za_cons (ze_call (gf_law_rule F) (takes_of rfl rfl rfl rfl) (hr.mono (by decide)) (za_cons (ze_var 4) (za_nil))) (za_cons (ze_call (gf_law_lines F) (takes_of rfl rfl rfl rfl) (hr.mono (by decide)) (za_cons (ze_var 4) (za_nil))) (za_nil)))) (zss_cons (zs_if (zt_w (zw_or (zt_cmp (op_neZ hr.units) (cmp_ne) (ze_call (gf_rule_text F) (takes_of rfl rfl rfl rfl) (hr.mono (by decide)) (za_cons (ze_var 5) (za_nil))) (ze_var 6)) (zw_or1 (zt_cmp (op_neZ hr.units) (cmp_ne) (ze_callK0 (gk_rule_text_0_rule F) (takes_of rfl rfl rfl rfl) (hr.mono (by decide)) (zk_cons (ze_var 5) (zk_nil)) ⟨_, rfl⟩) (ze_var 6))))) (zss_one (zs_ret (ze_bl))) (zss_nil)) (zss_cons (zs_set 7 hN (ze_call (gf_read_rule F) (takes_of rfl rfl rfl rfl) (hr.mono (by decide)) (za_cons (ze_var 6) (za_nil)))) (zss_cons (zs_if (zt_w (zw_or (zt_neO (eq_Rule F) (hr.mono (by decide)) (ze_var 7) (ze_var 5)) (zw_or (zt_neO (eq_Rule F) (hr.mono (by decide)) (ze_callK0 (gk_read_rule_0_text F) (takes_of rfl rfl rfl rfl) (hr.mono (by decide)) (zk_cons (ze_var 6) (zk_nil)) ⟨_, rfl⟩) (ze_var 5)) (zw_or1 (zt_cmp (op_neZ hr.units) (cmp_ne) (ze_call (gf_rule_text F) (takes_of rfl rfl rfl rfl) (hr.mono (by decide)) (za_cons (ze_var 7) (za_nil))) (ze_var 6)))))) (zss_one (zs_ret (ze_bl))) (zss_nil)) (zss_cons (zs_if (zt_w (zw_and (zt_cmp op_notN (cmp_isnot) (ze_var 2) (ze_non)) (zw_and1 (zt_cmp (op_neZ hr.units) (cmp_ne) (ze_eqO (eq_Rule F) (hr.mono (by decide)) (ze_ix ix_seq opz_ix (ze_var 2) (ze_int)) (ze_var 5)) (ze_cmp (op_eqZ hr.units) (cmp_eq) (ze_ix ix_seq opz_ix (ze_var 2) (ze_int)) (ze_var 6)))))) (zss_one (zs_ret (ze_bl))) (zss_nil)) (zss_one (zs_set 2 hN (ze_tup (za_cons (ze_var 5) (za_cons (ze_var 6) (za_nil))))))))))))) (zss_one (zs_ret (ze_bl)))))
end
end K78
namespace K78
open PySem PySem.Spec PyProof.Rows L2 Z
theorem run (w : World) : HandSHeadRun.RunEq R (PySem.W.view R.prog [42]) hk ob 4000 loose w :=
  PySem.W.byRow2 (P := fun w => HandSHeadRun.RunEq R (PySem.W.view R.prog [42]) hk ob 4000 loose w) "special-get-raises" (fun w => by intro os; kernel_rfl) (fun w => by intro os; kernel_rfl) w
end K78
namespace K78
open PySem PySem.Spec PyProof.Rows L2 Z
theorem walk : PySem.W.WalkO (PySem.W.view R.prog [42]) loose (PySem.W.XL (PySem.W.view R.prog [42]) []) hk.says R.toRowW (HandSHeadRun.topDef R.prog 42) [] (fun f vs => PySem.call f vs) := by
  refine Z.walk_w (l := PySem.Challenge.rw_allloads_k78_texts_of_rules) (n := 63) (k := 9) (x := "_law_script") rfl (by decide) (by kernel_rfl) ⟨rfl, by decide, by decide⟩ ?F
  intro w mg fa h Y G hmg0
  obtain ⟨K, KX, c⟩ := Y
  have hmg : mg ("law" : PySem.Str) = some (.ref fa) := by
    have e : (HandSHeadRun.topDef R.prog 42).name = ("law" : PySem.Str) := by kernel_rfl
    rw [← e]
    exact hmg0
  have F : Fx w K mg := fx_of KX G c
  obtain ⟨fd, hl⟩ := F.f_law
  have e := hmg.symm.trans F.m_law
  cases e
  exact ⟨K, fd, Z.spLaw K, KX, fun s v => hl.bindsA (ps := ["_law_script"]) (fun _ _ _ _ _ _ us hl => match us, hl with | [_], _ => rfl) s [v] rfl, fun H a ns hl _ hS => ⟨a, ns, rfl, hl, hS, fun _ => rfl⟩, fun base _ _ => fo_law F hl⟩
end K78
open PySem PySem.W PySem.Calls PyProof.Rows
theorem PySem.Challenge.cw_allloads_k78_texts_of_rules_holds : PySem.Challenge.rw_allloads_k78_texts_of_rules.Holds := by
  w_on; o_law
  refine HandSHeadRun.head_any (r := OpenLaw.row PySem.Challenge.rw_allloads_k78_texts_of_rules) (q := view (OpenLaw.row PySem.Challenge.rw_allloads_k78_texts_of_rules).prog [42]) (H := K78.hk) (ob := K78.ob) (M := 4000) (loose := K78.loose) (d := HandSHeadRun.topDef (OpenLaw.row PySem.Challenge.rw_allloads_k78_texts_of_rules).prog 42) (kwd := []) K78.ob_eq
    (by kernel_rfl) (fun s => by kernel_rfl) K78.run (by kernel_rfl) (by kernel_rfl) (by kernel_rfl) (by rfl) (by first | assumption | decide +kernel) (by decide +kernel) ⟨rfl, rfl, rfl, rfl, rfl, by decide +kernel⟩ ?hw ?hc
  case hw => w_witness2
  case hc => exact K78.walk
