import PyProof.Rows.All
import HandS.Lambda
import KE.KNestM
import Wide.All
import OpenK.AllK
import Wide.FinOn
import HandS.ForMost
import HandS.Walk
import HandS.Exc
import HandS.ExcOwn
import HandS.TryOnly
import HandS.WordsExc
import HandS.TupMul
import HandS.TupAny
import HandS.Deep
import KE.KeyNested
import KE.KDictKeyed
import HandS.Wide
import HandS.RaiseMore
import HandS.Evl
import HandS.Style
import HandS.Zip
import KE.GoesEnum
import HandS.Strs
import HandS.SetKeys
import HandS.IsInst
import HandS.ExcInit
import HandS.ExcField
import HandS.Nested
import KE.KExcSuper
import HandS.Star
import HandS.Small
import PyProof.ExcBaseAll.ValueError
import KE.KExcIs
import HandS.DictTup
import HandS.Conv
import KE.KSortTupUse
import HandS.SortInts
import PyProof.ReprRoads
import PyProof.ReprDict
import KE.KRevSl
import HandS.TupLe
import KE.SortData
import KE.KDictCopyH
import HandS.More
import KE.KTupSum
import KE.DataCmp
import KE.GoesMore
import KE.KDictDisplayH
import PySem.Challenge.RW_onceortold_k29_webs_of_rooms
set_option Elab.async false
set_option linter.all false
set_option maxRecDepth 100000
set_option maxHeartbeats 4000000
namespace DL
/-- the defs of the text that make lambdas -/
def lamNames : List PySem.Str := []
end DL

/-! DL: Python over plain data. Part 1: the meaning of expressions and statements over data, without a heap. -/
namespace DL
open PySem

abbrev D := PyData
abbrev D.no : D := PyData.none
/-- what a slot holds: data that nobody changes; a list that this frame alone holds; the bag of drawn numbers -/
inductive DV where
  | dat (d : D)
  | own (ds : List D)
  | dct (t : Bool) (kvs : List (D × D))
  | nd (ds : List D)
  | rng (n : Int)
  | bag
structure Err where
  cls : Str
  fs : List (Str × D)
abbrev Env := List (Option DV)
abbrev XW := Err → Env → Prop
abbrev TX := XW → Env → (DV → Env → Prop) → Prop
abbrev Get := Env → Option D
abbrev OX := XW → Env → (Get → Env → Prop) → Prop
abbrev TB := XW → Env → (Bool → Env → Prop) → Prop
abbrev AX := XW → Env → (List DV → Env → Prop) → Prop
abbrev OAX := XW → Env → (List Get → Env → Prop) → Prop
abbrev Op2 := D → D → (DV → Prop) → Prop
abbrev OpN := List D → (DV → Prop) → Prop
abbrev Spec := List DV → (DV → Prop) → (Err → Prop) → Prop

def DV.toD : DV → Option D
  | .dat d => some d
  | .own ds => some (.list ds)
  | .dct _ _ => none
  | .nd ds => some (.tuple ds)
  | .rng _ => none
  | .bag => none
def DV.hold : DV → Bool
  | .own _ => true
  | .dct _ _ => true
  | _ => false
/-- a value, handed over -/
def onArg (dv : DV) (k : DV → Prop) : Prop := match dv with
  | .dat d => k (.dat d)
  | .own ds => k (.dat (.list ds))
  | .nd ds => k (.dat (.tuple ds))
  | .rng _ => False
  | .bag => k .bag
  | .dct t kvs => t = false ∧ k (.dat (.dict kvs))

def sl : Env → Nat → Option DV
  | [], _ => none
  | x :: _, 0 => x
  | _ :: r, i + 1 => sl r i
def putO : Env → Nat → Option DV → Env
  | [], _, _ => []
  | _ :: r, 0, v => v :: r
  | x :: r, i + 1, v => x :: putO r i v
abbrev put (r : Env) (i : Nat) (v : DV) : Env := putO r i (some v)

/-! expressions -/
def xC (d : D) : TX := fun _ r Q => Q (.dat d) r
/-- a name's value; a list that the frame holds alone is from then on nobody's to change -/
def xVar (i : Nat) : TX := fun _ r Q => match sl r i with
  | some (.own ds) => Q (.dat (.list ds)) (put r i (.dat (.list ds)))
  | some (.dct _ _) => False
  | some dv => Q dv r
  | none => False
/-- a name's value, the name given up -/
def xMv (i : Nat) : TX := fun _ r Q => match sl r i with
  | some dv => Q dv (putO r i none)
  | none => False
/-- operands: looked at when they are used -/
def oV (i : Nat) : OX := fun _ r Q => match sl r i with
  | some _ => Q (fun r' => (sl r' i).bind DV.toD) r
  | none => False
def oE (f : TX) : OX := fun X r Q => f X r fun dv r1 => match dv.toD with
  | some d => Q (fun _ => some d) r1
  | none => False
def xB (o : Op2) (a b : OX) : TX := fun X r Q => a X r fun g r1 => b X r1 fun h r2 => match g r2, h r2 with
  | some x, some y => o x y fun v => Q v r2
  | _, _ => False
def xU (o : D → (DV → Prop) → Prop) (a : OX) : TX := fun X r Q => a X r fun g r1 => match g r1 with
  | some x => o x fun v => Q v r1
  | none => False
/-- a < b < c -/
def xCh (o o' : Op2) (a b c : OX) : TX := fun X r Q => a X r fun g r1 => b X r1 fun h r2 => match g r2, h r2 with
  | some x, some y => o x y fun v => match v with
    | .dat (.bool true) => c X r2 fun k r3 => match h r3, k r3 with
      | some y', some z => o' y' z fun w => match w with
        | .dat (.bool q) => Q (.dat (.bool q)) r3
        | _ => False
      | _, _ => False
    | .dat (.bool false) => Q (.dat (.bool false)) r2
    | _ => False
  | _, _ => False
def oNil : OAX := fun _ r Q => Q [] r
def oCons (a : OX) (t : OAX) : OAX := fun X r Q => a X r fun g r1 => t X r1 fun gs r2 => Q (g :: gs) r2
def gets : List Get → Env → Option (List D)
  | [], _ => some []
  | g :: gs, r => match g r, gets gs r with
    | some d, some ds => some (d :: ds)
    | _, _ => none
/-- a built-in, called -/
def xCB (o : OpN) (t : OAX) : TX := fun X r Q => t X r fun gs r1 => match gets gs r1 with
  | some ds => o ds fun v => Q v r1
  | none => False
def aNil : AX := fun _ r Q => Q [] r
def aCons (f : TX) (t : AX) : AX := fun X r Q => f X r fun dv r1 => onArg dv fun w => t X r1 fun vs r2 => Q (w :: vs) r2
/-- a def of the text, called -/
def xCall (S : Spec) (t : AX) : TX := fun X r Q => t X r fun vs r1 => S vs (fun v => Q v r1) fun e => X e r1
def allD : List DV → Option (List D)
  | [] => some []
  | .dat d :: r => match allD r with
    | some ds => some (d :: ds)
    | none => none
  | _ :: _ => none
def xTup (t : AX) : TX := fun X r Q => t X r fun vs r1 => match allD vs with
  | some ds => ds.length ≤ 16777216 ∧ Q (.dat (.tuple ds)) r1
  | none => False
def xLst (t : AX) : TX := fun X r Q => t X r fun vs r1 => match allD vs with
  | some ds => ds.length ≤ 16777216 ∧ Q (.own ds) r1
  | none => False
/-! tests -/
def bX (f : TX) : TB := fun X r Q => f X r fun dv r1 => match dv with
  | .dat (.bool b) => Q b r1
  | _ => False
def truth : D → Option Bool
  | .none => some false
  | .bool b => some b
  | .int i => some (i != 0)
  | .str x => some ((x.length : Int) != 0)
  | .list xs => some (!xs.isEmpty)
  | .tuple xs => some (!xs.isEmpty)
  | .dict _ => none
def bO (a : OX) : TB := fun X r Q => a X r fun g r1 => match (g r1).bind truth with
  | some b => (∀ x, g r1 = some (.str x) → x.length ≤ 16777216) ∧ Q b r1
  | none => False
def bAnd (a b : TB) : TB := fun X r Q => a X r fun c r1 => if c = true then b X r1 Q else Q false r1
def bOr (a b : TB) : TB := fun X r Q => a X r fun c r1 => if c = true then Q true r1 else b X r1 Q
def bNot (a : TB) : TB := fun X r Q => a X r fun c r1 => Q (!c) r1
def xAnd (a b : TX) : TX := fun X r Q => a X r fun dv r1 => match dv with
  | .dat (.bool c) => if c = true then b X r1 Q else Q (.dat (.bool false)) r1
  | _ => False
def xOr (a b : TX) : TX := fun X r Q => a X r fun dv r1 => match dv with
  | .dat (.bool c) => if c = true then Q (.dat (.bool true)) r1 else b X r1 Q
  | _ => False
def xNot (a : TB) : TX := fun X r Q => a X r fun c r1 => Q (.dat (.bool (!c))) r1
def xIf (t : TB) (a b : TX) : TX := fun X r Q => t X r fun c r1 => if c = true then a X r1 Q else b X r1 Q
/-! what is walked -/
abbrev SX := XW → Env → (List D → Env → Prop) → Prop
def itemsOf : D → Option (List D)
  | .list xs => some xs
  | .tuple xs => some xs
  | .str z => some (z.cps.toList.map fun c => .str ⟨#[c]⟩)
  | _ => none
def wX (f : TX) : SX := fun X r Q => f X r fun dv r1 => match dv.toD with
  | some d => (match itemsOf d with
    | some ds => Q ds r1
    | none => False)
  | none => False
def rangeL (lo hi : Int) : List D := (List.range (hi - lo).toNat).map fun k => .int (lo + (k : Nat))
def wRange1 (a : OX) : SX := fun X r Q => a X r fun g r1 => match g r1 with
  | some (.int n) => (-(2 ^ 62) ≤ n ∧ n < 2 ^ 62) ∧ Q (rangeL 0 n) r1
  | _ => False
def wRange2 (a b : OX) : SX := fun X r Q => a X r fun g r1 => b X r1 fun h r2 => match g r2, h r2 with
  | some (.int n), some (.int m) => (-(2 ^ 62) ≤ n ∧ n < 2 ^ 62 ∧ -(2 ^ 62) ≤ m ∧ m < 2 ^ 62) ∧ Q (rangeL n m) r2
  | _, _ => False
/-- range(n), as a value; walked -/
def xRng (a : OX) : TX := fun X r Q => a X r fun g r1 => match g r1 with
  | some (.int n) => Q (.rng n) r1
  | _ => False
def wRngV (i : Nat) : SX := fun _ r Q => match sl r i with
  | some (.rng n) => (-(2 ^ 62) ≤ n ∧ n < 2 ^ 62) ∧ Q (rangeL 0 n) r
  | _ => False
/-! targets -/
abbrev TG := DV → Env → (Env → Prop) → Prop
def gN (i : Nat) : TG := fun v r Q => Q (put r i v)
def gsAll : List TG → List D → Env → (Env → Prop) → Prop
  | [], ds, r, Q => ds = [] ∧ Q r
  | g :: gs, ds, r, Q => match ds with
    | d :: dr => g (.dat d) r fun r1 => gsAll gs dr r1 Q
    | [] => False
def gT (gs : List TG) : TG := fun v r Q => match v with
  | .dat (.tuple ds) => ds.length = gs.length ∧ gsAll gs ds r Q
  | _ => False
/-! comprehensions -/
def clrs (r : Env) : List Nat → Env
  | [] => r
  | i :: is => putO (clrs r is) i none
def back (r0 r : Env) : List Nat → Env
  | [] => r
  | i :: is => putO (back r0 r is) i (sl r0 i)
def noX : XW := fun _ _ => False
def lcL (own : List Nat) (g : TG) (t : TB) (f : TX) : List D → List D → Env → (List D → Env → Prop) → Prop
  | [], acc, r, Q => Q acc r
  | x :: xs, acc, r, Q => g (.dat x) r fun r1 => t noX r1 fun b r2 => if b = true then
      f noX r2 fun dv r3 => match dv.toD with
        | some d => acc.length < 16777216 ∧ lcL own g t f xs (acc ++ [d]) (clrs r3 own) Q
        | none => False
    else lcL own g t f xs acc (clrs r2 own) Q
def notOwn (r : Env) (i : Nat) : Prop := ∀ dv, sl r i = some dv → dv.hold = false
def xLc (own : List Nat) (s : SX) (g : TG) (t : TB) (f : TX) : TX := fun X r Q => s X r fun ds r1 =>
  (∀ i ∈ own, notOwn r1 i) ∧ lcL own g t f ds [] (clrs r1 own) fun acc r2 => Q (.own acc) (back r1 r2 own)
def bYes : TB := fun _ r Q => Q true r
/-! statements -/
structure Ends where
  nx : Env → Prop
  rt : DV → Prop
  bk : Env → Prop := fun _ => False
  ct : Env → Prop := fun _ => False
  ex : XW := fun _ _ => False
abbrev TS := Ends → Env → Prop
def sNext : TS := fun E r => E.nx r
def sSeq (a b : TS) : TS := fun E r => a { E with nx := b E } r
def sAsg (g : TG) (f : TX) : TS := fun E r => f E.ex r fun v r1 => g v r1 E.nx
def sPar (i j : Nat) (f h : TX) : TS := fun E r => f E.ex r fun v r1 => h E.ex r1 fun w r2 => E.nx (put (put r2 i v) j w)
def sDrop (f : TX) : TS := fun E r => f E.ex r fun _ r1 => E.nx r1
def sRet (f : TX) : TS := fun E r => f E.ex r fun v _ => E.rt v
def sRetN : TS := fun E _ => E.rt (.dat .none)
def sIf (t : TB) (a b : TS) : TS := fun E r => t E.ex r fun c r1 => if c = true then a E r1 else b E r1
def sBrk : TS := fun E r => E.bk r
def sCnt : TS := fun E r => E.ct r
def sAug (i : Nat) (o : Op2) (b : OX) : TS := fun E r => match sl r i with
  | some (.dat x) => b E.ex r fun g r1 => (match g r1 with
    | some y => o x y fun v => E.nx (put r1 i v)
    | none => False)
  | _ => False
def forL (g : TG) (b : TS) (E : Ends) : List D → Env → Prop
  | [], r => E.nx r
  | x :: xs, r => g (.dat x) r fun r1 => b { E with nx := forL g b E xs, ct := forL g b E xs, bk := E.nx } r1
def sFor (s : SX) (g : TG) (b : TS) : TS := fun E r => s E.ex r fun ds r1 => forL g b E ds r1
def sWhile (t : TB) (b : TS) : TS := fun E r => ∃ W : Nat → Env → Prop, (∃ m, W m r) ∧ ∀ m r, W m r →
  t E.ex r fun c r1 => if c = true then
    b { E with nx := fun r' => ∃ m', m' < m ∧ W m' r', ct := fun r' => ∃ m', m' < m ∧ W m' r', bk := E.nx } r1
  else E.nx r1
/-- the list in a slot, changed -/
def xApp (i : Nat) (f : TX) : TX := fun X r Q => (∃ ds, sl r i = some (.own ds)) ∧ f X r fun dv r1 => match dv.toD, sl r1 i with
  | some d, some (.own ds) => ds.length < 16777216 ∧ Q (.dat .none) (put r1 i (.own (ds ++ [d])))
  | _, _ => False
def fnSpec (n : Nat) (b : TS) : Spec := fun vs Q E =>
  b { nx := fun _ => Q (.dat .none), rt := Q, ex := fun e _ => E e } (vs.map some ++ List.replicate (n - vs.length) none)
end DL

/-! DL, part 2: data in the abstract heap; a frame's slots. -/
namespace DL
open PySem PySem.Spec L2

abbrev AP := Addr → Prop
def KL (K : PySem.W.Frag) (a : Addr) (xs : List V) : Prop := SqL K (fun _ => none) a xs
def KT (K : PySem.W.Frag) (a : Addr) (xs : List V) : Prop := SqT K (fun _ => none) a xs
/-- a key of a dict -/
def keyD : D → Option L2.Key
  | .int i => some (.inl i)
  | .str x => some (.inr x)
  | _ => none
mutual
inductive DpF (K : PySem.W.Frag) (H : Hp) (F : AP) : V → D → Prop
  | non : DpF K H F .non .none
  | bl (b : Bool) : DpF K H F (.bl b) (.bool b)
  | int (i : Int) : DpF K H F (.int i) (.int i)
  | str (x : Str) : DpF K H F (.str x) (.str x)
  | lst {a : Addr} {xs : List V} {ds : List D} : (F a ∧ H a = some (.lst xs)) → DpFs K H F xs ds → DpF K H F (.ref a) (.list ds)
  | tup {a : Addr} {xs : List V} {ds : List D} : ((F a ∧ Rd H a (.tup xs)) ∨ KT K a xs) → DpFs K H F xs ds → DpF K H F (.ref a) (.tuple ds)
  | dct {a : Addr} {ps : List (L2.Key × V)} {kvs : List (D × D)} : (F a ∧ H a = some (.dK ps)) → DpKs K H F ps kvs → DpF K H F (.ref a) (.dict kvs)
inductive DpFs (K : PySem.W.Frag) (H : Hp) (F : AP) : List V → List D → Prop
  | nil : DpFs K H F [] []
  | cons {v : V} {vs : List V} {d : D} {ds : List D} : DpF K H F v d → DpFs K H F vs ds → DpFs K H F (v :: vs) (d :: ds)
inductive DpKs (K : PySem.W.Frag) (H : Hp) (F : AP) : List (L2.Key × V) → List (D × D) → Prop
  | nil : DpKs K H F [] []
  | cons {k : L2.Key} {v : V} {kd d : D} {ps : List (L2.Key × V)} {kvs : List (D × D)} : keyD kd = some k → DpF K H F v d → DpKs K H F ps kvs → DpKs K H F ((k, v) :: ps) ((kd, d) :: kvs)
end
section
variable {K : PySem.W.Frag} {H H' : Hp} {F F' : AP}
theorem KL.sq {a : Addr} {xs : List V} (h : KL K a xs) (H : Hp) : SqL K H a xs := by
  rcases h with (h | ⟨o, h⟩) | h
  · cases h
  · cases h
  · exact .inr h
theorem KT.sq {a : Addr} {xs : List V} (h : KT K a xs) (H : Hp) : SqT K H a xs := by
  rcases h with (h | ⟨o, h⟩) | h
  · cases h
  · cases h
  · exact .inr h
/-- later: what was frozen stands -/
def Later (H : Hp) (F : AP) (H' : Hp) (F' : AP) : Prop := ∀ a, F a → F' a ∧ H' a = H a
theorem Later.refl : Later H F H F := fun _ h => ⟨h, rfl⟩
theorem Later.trans {H2 : Hp} {F2 : AP} (a : Later H F H' F') (b : Later H' F' H2 F2) : Later H F H2 F2 := fun x h =>
  ⟨(b x (a x h).1).1, ((b x (a x h).1).2).trans (a x h).2⟩
theorem rd_later {a : Addr} {u : HO} (e : H' a = H a) (r : Rd H a u) : Rd H' a u := by
  rcases r with r | ⟨o, r⟩
  · exact .inl (e.trans r)
  · exact .inr ⟨o, e.trans r⟩
mutual
theorem DpF.mono (l : Later H F H' F') : ∀ {v : V} {d : D}, DpF K H F v d → DpF K H' F' v d
  | _, _, .non => .non
  | _, _, .bl b => .bl b
  | _, _, .int i => .int i
  | _, _, .str x => .str x
  | _, _, .lst h hs => .lst ⟨(l _ h.1).1, (l _ h.1).2.trans h.2⟩ (DpFs.mono l hs)
  | _, _, .tup h hs => .tup (h.imp (fun p => ⟨(l _ p.1).1, rd_later (l _ p.1).2 p.2⟩) id) (DpFs.mono l hs)
  | _, _, .dct h hs => .dct ⟨(l _ h.1).1, (l _ h.1).2.trans h.2⟩ (DpKs.mono l hs)
theorem DpFs.mono (l : Later H F H' F') : ∀ {vs : List V} {ds : List D}, DpFs K H F vs ds → DpFs K H' F' vs ds
  | _, _, .nil => .nil
  | _, _, .cons h hs => .cons (DpF.mono l h) (DpFs.mono l hs)
theorem DpKs.mono (l : Later H F H' F') : ∀ {ps : List (L2.Key × V)} {kvs : List (D × D)}, DpKs K H F ps kvs → DpKs K H' F' ps kvs
  | _, _, .nil => .nil
  | _, _, .cons e h hs => .cons e (DpF.mono l h) (DpKs.mono l hs)
end
mutual
theorem DpF.dp : ∀ {v : V} {d : D}, DpF K H F v d → d.hasDict = false → Dp K H v d
  | _, _, .non, _ => .non
  | _, _, .bl b, _ => .bl b
  | _, _, .int i, _ => .int i
  | _, _, .str x, _ => .str x
  | _, _, .lst h hs, e => .lst (.inl (.inl h.2)) (DpFs.dps hs (by simpa only [PyData.hasDict] using e))
  | _, _, .tup h hs, e => .tup (h.elim (fun p => .inl p.2) fun p => p.sq H) (DpFs.dps hs (by simpa only [PyData.hasDict] using e))
  | _, _, .dct h hs, e => absurd e (by simp [PyData.hasDict])
theorem DpFs.dps : ∀ {vs : List V} {ds : List D}, DpFs K H F vs ds → PyData.hasDictAll ds = false → DpAll K H vs ds
  | _, _, .nil, _ => .nil
  | _, _, .cons h hs, e => by
    simp only [PyData.hasDictAll, Bool.or_eq_false_iff] at e
    exact .cons (DpF.dp h e.1) (DpFs.dps hs e.2)
end
theorem okd_nodict {d : D} (h : SeqAt.shaped d = true) : d.hasDict = false := PyData.hasDict_of_canLay d (SeqAt.canLay_of_shaped h)
theorem DpFs.length : ∀ {vs : List V} {ds : List D}, DpFs K H F vs ds → vs.length = ds.length
  | _, _, .nil => rfl
  | _, _, .cons _ hs => congrArg (· + 1) (DpFs.length hs)
theorem DpFs.app : ∀ {vs ws : List V} {ds es : List D}, DpFs K H F vs ds → DpFs K H F ws es → DpFs K H F (vs ++ ws) (ds ++ es)
  | _, _, _, _, .nil, k => k
  | _, _, _, _, .cons h hs, k => .cons h (DpFs.app hs k)
theorem DpFs.get : ∀ {vs : List V} {ds : List D} {i : Nat} {d : D}, DpFs K H F vs ds → ds[i]? = some d → ∃ v, vs[i]? = some v ∧ DpF K H F v d
  | _, _, _, _, .nil, e => by simp at e
  | _, _, 0, _, .cons h _, e => by simp at e; subst e; exact ⟨_, rfl, h⟩
  | _, _, i + 1, d, .cons _ hs, e => by
    obtain ⟨v, a, b⟩ := DpFs.get (i := i) (d := d) hs (by simpa using e)
    exact ⟨v, by simpa using a, b⟩
theorem DpFs.getV : ∀ {vs : List V} {ds : List D} {i : Nat} {v : V}, DpFs K H F vs ds → vs[i]? = some v → ∃ d, ds[i]? = some d ∧ DpF K H F v d
  | _, _, _, _, .nil, e => by simp at e
  | _, _, 0, _, .cons h _, e => by simp at e; subst e; exact ⟨_, rfl, h⟩
  | _, _, i + 1, v, .cons _ hs, e => by
    obtain ⟨d, a, b⟩ := DpFs.getV (i := i) (v := v) hs (by simpa using e)
    exact ⟨d, by simpa using a, b⟩
theorem DpFs.take : ∀ {vs : List V} {ds : List D} (n : Nat), DpFs K H F vs ds → DpFs K H F (vs.take n) (ds.take n)
  | _, _, 0, _ => .nil
  | _, _, _ + 1, .nil => .nil
  | _, _, n + 1, .cons h hs => .cons h (DpFs.take n hs)
theorem DpFs.drop : ∀ {vs : List V} {ds : List D} (n : Nat), DpFs K H F vs ds → DpFs K H F (vs.drop n) (ds.drop n)
  | _, _, 0, h => h
  | _, _, _ + 1, .nil => .nil
  | _, _, n + 1, .cons _ hs => DpFs.drop n hs
theorem DpFs.set : ∀ {vs : List V} {ds : List D} (n : Nat) {v : V} {d : D}, DpF K H F v d → DpFs K H F vs ds → DpFs K H F (vs.set n v) (ds.set n d)
  | _, _, _, _, _, _, .nil => .nil
  | _, _, 0, _, _, h, .cons _ hs => .cons h hs
  | _, _, n + 1, _, _, h, .cons k hs => .cons k (DpFs.set n h hs)
theorem DpFs.erase : ∀ {vs : List V} {ds : List D} (n : Nat), DpFs K H F vs ds → DpFs K H F (vs.eraseIdx n) (ds.eraseIdx n)
  | _, _, _, .nil => .nil
  | _, _, 0, .cons _ hs => hs
  | _, _, n + 1, .cons k hs => .cons k (DpFs.erase n hs)
theorem DpFs.rev {vs : List V} {ds : List D} (h : DpFs K H F vs ds) : DpFs K H F vs.reverse ds.reverse := by
  induction vs generalizing ds with
  | nil => cases h; exact .nil
  | cons v vs ih =>
    cases h with
    | cons a b =>
      rw [List.reverse_cons, List.reverse_cons]
      exact (ih b).app (.cons a .nil)
theorem DpFs.rep {vs : List V} {ds : List D} (h : DpFs K H F vs ds) : ∀ n : Nat, DpFs K H F (List.replicate n vs).flatten (List.replicate n ds).flatten
  | 0 => .nil
  | n + 1 => by
    rw [List.replicate_succ, List.replicate_succ, List.flatten_cons, List.flatten_cons]
    exact h.app (DpFs.rep h n)
theorem DpFs.ints : ∀ (ns : List Int), DpFs K H F (ns.map V.int) (ns.map PyData.int)
  | [] => .nil
  | _ :: ns => .cons (.int _) (DpFs.ints ns)
theorem DpFs.vints : ∀ {vs : List V} {ns : List Int}, DpFs K H F vs (ns.map PyData.int) → vs = ns.map V.int
  | _, [], .nil => rfl
  | _, _ :: _, .cons (.int _) hs => congrArg _ (DpFs.vints hs)
theorem DpFs.vbools : ∀ {vs : List V} {ns : List Bool}, DpFs K H F vs (ns.map PyData.bool) → vs = ns.map V.bl
  | _, [], .nil => rfl
  | _, _ :: _, .cons (.bl _) hs => congrArg _ (DpFs.vbools hs)
theorem DpFs.vstrs : ∀ {vs : List V} {ns : List Str}, DpFs K H F vs (ns.map PyData.str) → vs = ns.map V.str
  | _, [], .nil => rfl
  | _, _ :: _, .cons (.str _) hs => congrArg _ (DpFs.vstrs hs)
end

inductive KvR (K : PySem.W.Frag) (H : Hp) (F : AP) {κ : Type} (g : D → Option κ) : List (κ × V) → List (D × D) → Prop
  | nil : KvR K H F g [] []
  | cons {k : κ} {v : V} {kd d : D} {r : List (κ × V)} {s : List (D × D)} : g kd = some k → DpF K H F v d → KvR K H F g r s → KvR K H F g ((k, v) :: r) ((kd, d) :: s)
mutual
/-- data as a key -/
def nkD : D → Option NestedKey
  | .none => some .none
  | .bool b => some (.num (if b then 1 else 0))
  | .int i => some (.num i)
  | .str x => some (.text x)
  | .tuple ds => match nkDs ds with
    | some ks => some (.tup ks)
    | none => none
  | .list _ => none
  | .dict _ => none
def nkDs : List D → Option (List NestedKey)
  | [] => some []
  | d :: ds => match nkD d, nkDs ds with
    | some k, some ks => some (k :: ks)
    | _, _ => none
end
/-- a tuple as a key -/
def keyN : D → Option NestedKey
  | .tuple ds => match nkDs ds with
    | some ks => if (NestedKey.tup ks).depth ≤ 8 then some (.tup ks) else none
    | none => none
  | _ => none
/-- a dict whose keys are tuples: its object -/
def DNp (w : World) (a : Addr) (ps : List (NestedKey × Addr × V)) (h : Heap) : Prop :=
  ps.length ≤ sizeLine ∧ (a == sysModules) = false ∧ ∃ ys : List (NestedKey × Addr × Value), Paired (fun (p : NestedKey × Addr × V) (q : NestedKey × Addr × Value) => p.1 = q.1 ∧ p.2.1 = q.2.1 ∧ RelV p.2.2 q.2.2) ps ys ∧
    ∃ o es ep, h.get? a = some o ∧ o.ExactDict ∧ o.data = .dict es ep ∧ es.toList = ys.map (fun x => (⟨x.1.hash w, .ref x.2.1, x.2.2⟩ : DictEntry)) ∧ (ys.map (·.1)).Nodup
abbrev dN (w : World) (a : Addr) (ps : List (NestedKey × Addr × V)) : HO := .ext (DNp w a ps)
theorem dN_no_code {w : World} {a c : Addr} {ps : List (NestedKey × Addr × V)} {q : Str} : dN w a ps ≠ LamX.CodeO c q := by
  intro e
  have e2 : DNp w a ps = fun h => ∃ (oc : Obj) (vs : Array Value) (t : Tok), h.get? c = some oc ∧ oc.data = .fields vs ∧ vs[1]? = some (.str q t) := HO.ext.inj e
  let ob : Obj := { cls := .none, data := .fields #[.none, .str q 0] }
  let h0 : Heap := { objs := Array.replicate (c + 1) ob }
  have g : ∀ b, h0.get? b = some ob ∨ h0.get? b = none := fun b => by
    have key : h0.get? b = if b < c + 1 then some ob else none := by
      show (match (Array.replicate (c + 1) ob)[b]? with | some ⟨_, _, .freed, _⟩ => none | o => o) = _
      rw [Array.getElem?_replicate]
      by_cases q : b < c + 1
      · rw [if_pos q]
      · rw [if_neg q]
    rw [key]
    by_cases q : b < c + 1
    · rw [if_pos q]; exact .inl rfl
    · rw [if_neg q]; exact .inr rfl
  have g2 : h0.get? c = some ob := by
    show (match (Array.replicate (c + 1) ob)[c]? with | some ⟨_, _, .freed, _⟩ => none | o => o) = some ob
    rw [Array.getElem?_replicate, if_pos (Nat.lt_succ_self c)]
  have r : DNp w a ps h0 := by
    rw [e2]
    exact ⟨ob, _, 0, g2, rfl, rfl⟩
  obtain ⟨_, _, ys, _, o, es, ep, h1, _, h3, _⟩ := r
  rcases g a with z | z
  · rw [z] at h1
    cases h1
    cases h3
  · rw [z] at h1
    cases h1
inductive KnR (K : PySem.W.Frag) (H : Hp) (F : AP) : List (NestedKey × Addr × V) → List (D × D) → Prop
  | nil : KnR K H F [] []
  | cons {k : NestedKey} {b : Addr} {v : V} {kd d : D} {r : List (NestedKey × Addr × V)} {s : List (D × D)} : keyN kd = some k → DpF K H F (.ref b) kd → DpF K H F v d → KnR K H F r s → KnR K H F ((k, b, v) :: r) ((kd, d) :: s)
def DctR (K : PySem.W.Frag) (w : World) (H : Hp) (F : AP) (a : Addr) (t : Bool) (kvs : List (D × D)) : Prop :=
  (t = false ∧ ∃ ps, H a = some (.dK ps) ∧ KvR K H F keyD ps kvs) ∨ (t = true ∧ ∃ ps, H a = some (dN w a ps) ∧ KnR K H F ps kvs)
theorem KnR.mono {K : PySem.W.Frag} {H H' : Hp} {F F' : AP} (l : Later H F H' F') : ∀ {ps : List (NestedKey × Addr × V)} {kvs : List (D × D)}, KnR K H F ps kvs → KnR K H' F' ps kvs
  | _, _, .nil => .nil
  | _, _, .cons e hk h hs => .cons e (hk.mono l) (h.mono l) (KnR.mono l hs)
theorem KvR.mono {K : PySem.W.Frag} {H H' : Hp} {F F' : AP} {κ : Type} {g : D → Option κ} (l : Later H F H' F') : ∀ {ps : List (κ × V)} {kvs : List (D × D)}, KvR K H F g ps kvs → KvR K H' F' g ps kvs
  | _, _, .nil => .nil
  | _, _, .cons e h hs => .cons e (h.mono l) (KvR.mono l hs)
theorem KvR.ks {K : PySem.W.Frag} {H : Hp} {F : AP} : ∀ {ps : List (L2.Key × V)} {kvs : List (D × D)}, KvR K H F keyD ps kvs → DpKs K H F ps kvs
  | _, _, .nil => .nil
  | _, _, .cons e h hs => .cons e h (KvR.ks hs)
theorem DctR.mono {K : PySem.W.Frag} {w : World} {H H' : Hp} {F F' : AP} {a : Addr} {t : Bool} {kvs : List (D × D)} (l : Later H F H' F') (e : H' a = H a) (h : DctR K w H F a t kvs) : DctR K w H' F' a t kvs := by
  rcases h with ⟨h1, ps, h2, h3⟩ | ⟨h1, ps, h2, h3⟩
  · exact .inl ⟨h1, ps, e.trans h2, h3.mono l⟩
  · exact .inr ⟨h1, ps, e.trans h2, h3.mono l⟩
theorem DctR.ne {K : PySem.W.Frag} {w : World} {H : Hp} {F : AP} {a : Addr} {t : Bool} {kvs : List (D × D)} (h : DctR K w H F a t kvs) : (∀ xs, H a ≠ some (.lst xs)) ∧ H a ≠ none := by
  rcases h with ⟨_, ps, h2, _⟩ | ⟨_, ps, h2, _⟩ <;> exact ⟨(fun xs z => by rw [h2] at z; cases z), (by rw [h2]; simp)⟩
/-- the bag of drawn numbers -/
def BagOk (K : PySem.W.Frag) (H : Hp) (F : AP) (b : Addr) : Prop :=
  ∃ (c : Addr) (i j k : Int) (cells : List Int), H b = some (.lst [.int i, .int j, .int k, .ref c]) ∧ DpF K H F (.ref c) (.list (cells.map PyData.int)) ∧ cells.length ≤ 63
/-- a tuple of which it is known that it has no dict -/
def NdR (H : Hp) (F : AP) (v : V) : Prop := ∃ (a : Addr) (o : Obj) (u : HO), v = .ref a ∧ F a ∧ o.dict = none ∧ o.cls = .type "tuple" ∧ H a = some (.frz o u)
theorem NdR.mono {H H' : Hp} {F F' : AP} {v : V} (l : Later H F H' F') (h : NdR H F v) : NdR H' F' v := by
  obtain ⟨a, o, u, e, f, d, c, q⟩ := h
  exact ⟨a, o, u, e, (l a f).1, d, c, (l a f).2.trans q⟩
/-- range(n), which nobody changes -/
def RngR (H : Hp) (F : AP) (v : V) (n : Int) : Prop := ∃ a : Addr, v = .ref a ∧ F a ∧ H a = some (.rng 0 n)
theorem RngR.mono {H H' : Hp} {F F' : AP} {v : V} {n : Int} (l : Later H F H' F') (h : RngR H F v n) : RngR H' F' v n := by
  obtain ⟨a, e, f, q⟩ := h
  exact ⟨a, e, (l a f).1, (l a f).2.trans q⟩
inductive SltR (K : PySem.W.Frag) (w : World) (H : Hp) (F : AP) (b : Option Addr) : V → DV → Prop
  | dat {v : V} {d : D} : DpF K H F v d → SltR K w H F b v (.dat d)
  | own {a : Addr} {xs : List V} {ds : List D} : H a = some (.lst xs) → DpFs K H F xs ds → ¬ F a → SltR K w H F b (.ref a) (.own ds)
  | dct {a : Addr} {t : Bool} {kvs : List (D × D)} : DctR K w H F a t kvs → ¬ F a → SltR K w H F b (.ref a) (.dct t kvs)
  | nd {v : V} {ds : List D} : DpF K H F v (.tuple ds) → NdR H F v → SltR K w H F b v (.nd ds)
  | rng {v : V} {n : Int} : RngR H F v n → SltR K w H F b v (.rng n)
  | bag {a : Addr} : b = some a → SltR K w H F b (.ref a) .bag
/-! tables of code objects -/
def lamQ (x : Str) : Str := x ++ ".<locals>." ++ "<lambda>"
def tabsOf (K : PySem.W.Frag) : List (Addr × Str) := lamNames.filterMap fun x => (PySem.W.tabIn K x).map fun cp => (cp.2, lamQ x)
def NT (H : Hp) (a : Addr) : Prop := ∀ ps, H a ≠ some (.tbl ps)
/-- what may be written over: no table, no code object -/
def FreeAt (H : Hp) (a : Addr) : Prop := ∀ u, H a = some u → (∀ ps, u ≠ .tbl ps) ∧ ∀ c q, u ≠ LamX.CodeO c q
structure TBk (K : PySem.W.Frag) (Z F : AP) (H : Hp) : Prop where
  tab : LamX.Tabs (tabsOf K) H
  z : ∀ a, Z a → NT H a
  f : ∀ a, F a → NT H a
theorem TBk.grow {K : PySem.W.Frag} {Z F F' : AP} {H H' : Hp} (t : TBk K Z F H) (hs : ∀ a o, H a = some o → H' a = some o) (hz : ∀ a, Z a → H a ≠ none) (hf : ∀ a, F' a → (F a ∧ H a ≠ none) ∨ NT H' a) : TBk K Z F' H' where
  tab := t.tab.ext hs
  z := fun a za ps e => by
    cases q : H a with
    | none => exact hz a za q
    | some o =>
      rw [hs a o q] at e
      cases e
      exact t.z a za ps q
  f := fun a fa ps e => by
    rcases hf a fa with ⟨f, n⟩ | n
    · cases q : H a with
      | none => exact n q
      | some o =>
        rw [hs a o q] at e
        cases e
        exact t.f a f ps q
    · exact n ps e
theorem TBk.upd {K : PySem.W.Frag} {Z F : AP} {H : Hp} {a : Addr} {o : HO} (t : TBk K Z F H) (h : FreeAt H a) (ho : ∀ ps, o ≠ .tbl ps) : TBk K Z F (upd H a o) where
  tab := fun p hp => by
    obtain ⟨ps, h1, h2, h3⟩ := t.tab p hp
    have n1 : p.1 ≠ a := fun e => (h _ (e ▸ h1)).1 ps rfl
    refine ⟨ps, by rw [upd_ne n1]; exact h1, h2, fun pos cv hc => ?_⟩
    obtain ⟨c, e1, e2⟩ := h3 pos cv hc
    have n2 : c ≠ a := fun e => (h _ (e ▸ e2)).2 _ _ rfl
    exact ⟨c, e1, by rw [upd_ne n2]; exact e2⟩
  z := fun x zx ps e => by
    by_cases q : x = a
    · rw [q, upd_same] at e
      exact ho ps (Option.some.inj e)
    · rw [upd_ne q] at e
      exact t.z x zx ps e
  f := fun x zx ps e => by
    by_cases q : x = a
    · rw [q, upd_same] at e
      exact ho ps (Option.some.inj e)
    · rw [upd_ne q] at e
      exact t.f x zx ps e
theorem TBk.imp {K : PySem.W.Frag} {Z F Z' F' : AP} {H : Hp} (t : TBk K Z F H) (hz : ∀ a, Z' a → NT H a) (hf : ∀ a, F' a → NT H a) : TBk K Z' F' H := ⟨t.tab, hz, hf⟩
theorem nt_lst {H : Hp} {a : Addr} {xs : List V} (h : H a = some (.lst xs)) : NT H a := fun ps e => by rw [h] at e; cases e
theorem nt_tup {H : Hp} {a : Addr} {xs : List V} (h : H a = some (.tup xs)) : NT H a := fun ps e => by rw [h] at e; cases e
theorem free_lst {H : Hp} {a : Addr} {xs : List V} (h : H a = some (.lst xs)) : FreeAt H a := fun u e => by
  rw [h] at e; cases e
  exact ⟨fun _ z => (by cases z), fun _ _ z => (by cases z)⟩
theorem FreeAt.nt {H : Hp} {a : Addr} (h : FreeAt H a) : NT H a := fun ps e => (h _ e).1 ps rfl
theorem free_none {H : Hp} {a : Addr} (h : H a = none) : FreeAt H a := fun u e => by rw [h] at e; cases e
theorem free_dct {K : PySem.W.Frag} {w : World} {H : Hp} {F : AP} {a : Addr} {t : Bool} {kvs : List (D × D)} (h : DctR K w H F a t kvs) : FreeAt H a := fun u e => by
  rcases h with ⟨_, ps, h2, _⟩ | ⟨_, ps, h2, _⟩
  · rw [h2] at e; cases e; exact ⟨fun _ z => (by cases z), fun _ _ z => (by cases z)⟩
  · rw [h2] at e; cases e; exact ⟨fun _ z => (by cases z), fun _ _ z => dN_no_code z⟩
/-- a frame's surroundings: the bag; what is not to change, and what stands there; what was frozen at the start -/
structure Ctx where
  K : PySem.W.Frag
  w : World
  b : Option Addr
  Z : AP
  HZ : Hp
  F0 : AP
structure Rep (C : Ctx) (r : Env) (σ : L2.St) (H : Hp) (F : AP) : Prop where
  len : r.length = σ.length
  slot : ∀ i dv, sl r i = some dv → ∃ v, σ[i]? = some (some v) ∧ SltR C.K C.w H F C.b v dv
  dist : ∀ i j di dj a, sl r i = some di → sl r j = some dj → di.hold = true → dj.hold = true → σ[i]? = some (some (.ref a)) → σ[j]? = some (some (.ref a)) → i = j
  keep : ∀ a, C.Z a → H a = C.HZ a ∧ H a ≠ none
  fsub : ∀ a, C.F0 a → F a
  fnew : ∀ a, F a → C.F0 a ∨ ¬ C.Z a
  fz : ∀ a, C.F0 a → C.Z a
  ftrk : ∀ a, F a → H a ≠ none
  ownz : ∀ i ds a, sl r i = some ds → ds.hold = true → σ[i]? = some (some (.ref a)) → ¬ C.Z a ∧ C.b ≠ some a
  bag : ∀ b, C.b = some b → BagOk C.K H F b ∧ ¬ F b ∧ ¬ C.Z b
  tb : TBk C.K C.Z F H
/-- a value just made -/
inductive Res (C : Ctx) (r : Env) (σ : L2.St) (H : Hp) (F : AP) : V → DV → Prop
  | dat {v : V} {d : D} : DpF C.K H F v d → Res C r σ H F v (.dat d)
  | own {a : Addr} {xs : List V} {ds : List D} : H a = some (.lst xs) → DpFs C.K H F xs ds → ¬ F a → ¬ C.Z a → C.b ≠ some a →
      (∀ i es, sl r i = some es → es.hold = true → σ[i]? ≠ some (some (.ref a))) → Res C r σ H F (.ref a) (.own ds)
  | dct {a : Addr} {t : Bool} {kvs : List (D × D)} : DctR C.K C.w H F a t kvs → ¬ F a → ¬ C.Z a → C.b ≠ some a →
      (∀ i es, sl r i = some es → es.hold = true → σ[i]? ≠ some (some (.ref a))) → Res C r σ H F (.ref a) (.dct t kvs)
  | nd {v : V} {ds : List D} : DpF C.K H F v (.tuple ds) → NdR H F v → Res C r σ H F v (.nd ds)
  | rng {v : V} {n : Int} : RngR H F v n → Res C r σ H F v (.rng n)
  | bag {a : Addr} : C.b = some a → Res C r σ H F (.ref a) .bag

theorem sl_putO : ∀ (r : Env) (i j : Nat) (v : Option DV), sl (putO r i v) j = if j = i then (if i < r.length then v else none) else sl r j
  | [], i, j, v => by simp [putO, sl]
  | x :: r, 0, 0, v => by simp [putO, sl]
  | x :: r, 0, j + 1, v => by simp [putO, sl]
  | x :: r, i + 1, 0, v => by simp [putO, sl]
  | x :: r, i + 1, j + 1, v => by
    simp only [putO, sl, sl_putO r i j v, List.length_cons, Nat.add_right_cancel_iff, Nat.add_lt_add_iff_right]
theorem len_putO : ∀ (r : Env) (i : Nat) (v : Option DV), (putO r i v).length = r.length
  | [], _, _ => rfl
  | _ :: _, 0, _ => rfl
  | _ :: r, i + 1, v => congrArg (· + 1) (len_putO r i v)
theorem sl_lt : ∀ {r : Env} {i : Nat} {v : DV}, sl r i = some v → i < r.length
  | [], _, _, h => by simp [sl] at h
  | _ :: _, 0, _, _ => Nat.succ_pos _
  | _ :: r, i + 1, _, h => Nat.succ_lt_succ (sl_lt (r := r) h)
theorem sl_put_some {r : Env} {i j : Nat} {v dv : DV} (h : sl (put r i v) j = some dv) : (j = i ∧ dv = v) ∨ (j ≠ i ∧ sl r j = some dv) := by
  rw [sl_putO] at h
  by_cases e : j = i
  · rw [if_pos e] at h
    split at h
    · exact .inl ⟨e, (Option.some.inj h).symm⟩
    · cases h
  · rw [if_neg e] at h
    exact .inr ⟨e, h⟩
theorem sl_put_none {r : Env} {i j : Nat} {dv : DV} (h : sl (putO r i none) j = some dv) : j ≠ i ∧ sl r j = some dv := by
  rw [sl_putO] at h
  by_cases e : j = i
  · rw [if_pos e] at h
    split at h <;> cases h
  · rw [if_neg e] at h
    exact ⟨e, h⟩

section
variable {C : Ctx} {r r' : Env} {σ σ' : L2.St} {H H' : Hp} {F F' : AP} {v : V} {dv : DV}
theorem SltR.mono {b : Option Addr} (l : Later H F H' F') (hk : ∀ a, v = .ref a → dv.hold = true → ¬ F a → H a ≠ none → H' a = H a ∧ ¬ F' a) (h : SltR C.K C.w H F b v dv) : SltR C.K C.w H' F' b v dv := by
  cases h with
  | dat h => exact .dat (h.mono l)
  | own h1 h2 h3 =>
    obtain ⟨e, n⟩ := hk _ rfl rfl h3 (by rw [h1]; simp)
    exact .own (e.trans h1) (h2.mono l) n
  | dct h1 h3 =>
    obtain ⟨e, n⟩ := hk _ rfl rfl h3 h1.ne.2
    exact .dct (h1.mono l e) n
  | nd h n => exact .nd (h.mono l) (n.mono l)
  | rng n => exact .rng (n.mono l)
  | bag h => exact .bag h
theorem BagOk.mono {b : Addr} (l : Later H F H' F') (e : H' b = H b) (h : BagOk C.K H F b) : BagOk C.K H' F' b := by
  obtain ⟨c, i, j, k, cells, h1, h2, h3⟩ := h
  exact ⟨c, i, j, k, cells, e.trans h1, h2.mono l, h3⟩
/-- the slots as they are; the heap and what is frozen have grown -/
theorem Rep.grow (R : Rep C r σ H F) (l : Later H F H' F') (hs : ∀ a o, H a = some o → H' a = some o) (hf : ∀ a, F' a → F a ∨ (H a = none ∧ H' a ≠ none ∧ NT H' a)) : Rep C r σ H' F' where
  len := R.len
  slot := fun i dv e => by
    obtain ⟨v, e1, q⟩ := R.slot i dv e
    refine ⟨v, e1, SltR.mono (C := C) l (fun a ev _ nf nn => ⟨?_, fun z => ?_⟩) q⟩
    · cases hx : H a with
      | none => exact absurd hx nn
      | some o => exact hs _ _ hx
    rcases hf a z with z | ⟨z, _⟩
    · exact nf z
    · exact nn z
  dist := R.dist
  keep := fun a z => by
    obtain ⟨e, n⟩ := R.keep a z
    cases q : H a with
    | none => exact absurd q n
    | some o =>
      have q' := hs a o q
      exact ⟨q'.trans (q.symm.trans e), by rw [q']; simp⟩
  fsub := fun a z => (l a (R.fsub a z)).1
  fnew := fun a z => by
    rcases hf a z with z | ⟨z, _⟩
    · exact R.fnew a z
    · exact .inr fun q => (R.keep a q).2 z
  fz := R.fz
  ftrk := fun a z => by
    rcases hf a z with z | ⟨_, z, _⟩
    · have n := R.ftrk a z
      rw [(l a z).2]; exact n
    · exact z
  ownz := R.ownz
  bag := fun b e => by
    obtain ⟨k, nf, nz⟩ := R.bag b e
    obtain ⟨c, i, j, k', cells, h1, h2⟩ := id k
    refine ⟨BagOk.mono (C := C) l ((hs _ _ h1).trans h1.symm) k, fun z => ?_, nz⟩
    rcases hf b z with z | ⟨z, _⟩
    · exact nf z
    · rw [h1] at z; cases z
  tb := R.tb.grow hs (fun a z => (R.keep a z).2) fun a z => by
    rcases hf a z with z | ⟨_, _, n⟩
    · exact .inl ⟨z, R.ftrk a z⟩
    · exact .inr n
/-- a new object, frozen at once (a tuple) or not -/
theorem Rep.new {p : Addr} {o : HO} (R : Rep C r σ H F) (hp : H p = none) : Rep C r σ (upd H p o) F :=
  R.grow (fun a z => ⟨z, upd_ne fun e => R.ftrk a z (e ▸ hp)⟩) (fun a u e => by rw [upd_ne (ne_of_none e hp)]; exact e) fun a z => .inl z
theorem Rep.newF {p : Addr} {o : HO} (R : Rep C r σ H F) (hp : H p = none) (ho : ∀ ps, o ≠ .tbl ps := by intro _ z; cases z) : Rep C r σ (upd H p o) (fun a => F a ∨ a = p) :=
  R.grow (fun a z => ⟨.inl z, upd_ne fun e => R.ftrk a z (e ▸ hp)⟩) (fun a u e => by rw [upd_ne (ne_of_none e hp)]; exact e) fun a z => by
    rcases z with z | rfl
    · exact .inl z
    · exact .inr ⟨hp, by rw [upd_same]; simp, fun ps q => by rw [upd_same] at q; exact ho ps (Option.some.inj q)⟩
theorem later_new {p : Addr} {o : HO} (R : Rep C r σ H F) (hp : H p = none) : Later H F (upd H p o) (fun a => F a ∨ a = p) :=
  fun a z => ⟨.inl z, upd_ne fun e => R.ftrk a z (e ▸ hp)⟩
theorem later_new0 {p : Addr} {o : HO} (R : Rep C r σ H F) (hp : H p = none) : Later H F (upd H p o) F :=
  fun a z => ⟨z, upd_ne fun e => R.ftrk a z (e ▸ hp)⟩
/-- a tracked list that nobody holds is frozen -/
theorem Rep.freezeT {a : Addr} {xs : List V} (R : Rep C r σ H F) (ha : H a = some (.lst xs)) (nf : ¬ F a) (nz : ¬ C.Z a) (nb : C.b ≠ some a) (no : ∀ i es, sl r i = some es → es.hold = true → σ[i]? ≠ some (some (.ref a))) :
    Rep C r σ H (fun x => F x ∨ x = a) where
  len := R.len
  slot := fun i dv e => by
    obtain ⟨v, e1, q⟩ := R.slot i dv e
    have l : Later H F H (fun x => F x ∨ x = a) := fun x z => ⟨.inl z, rfl⟩
    cases q with
    | dat q => exact ⟨_, e1, .dat (q.mono l)⟩
    | own h1 h2 h3 => exact ⟨_, e1, .own h1 (h2.mono l) fun z => z.elim h3 fun z => no i _ e rfl (z ▸ e1)⟩
    | dct h1 h3 => exact ⟨_, e1, .dct (h1.mono l rfl) fun z => z.elim h3 fun z => no i _ e rfl (z ▸ e1)⟩
    | nd h n => exact ⟨_, e1, .nd (h.mono l) (n.mono l)⟩
    | rng n => exact ⟨_, e1, .rng (n.mono l)⟩
    | bag h => exact ⟨_, e1, .bag h⟩
  dist := R.dist
  keep := R.keep
  fsub := fun x z => .inl (R.fsub x z)
  fnew := fun x z => z.elim (R.fnew x) fun z => .inr (z ▸ nz)
  fz := R.fz
  ftrk := fun x z => z.elim (R.ftrk x) fun z => by rw [z, ha]; simp
  ownz := R.ownz
  bag := fun b e => by
    obtain ⟨k, nf', nz'⟩ := R.bag b e
    exact ⟨BagOk.mono (C := C) (fun x z => ⟨.inl z, rfl⟩) rfl k, fun z => z.elim nf' fun z => nb (z ▸ e), nz'⟩
  tb := R.tb.imp R.tb.z fun x z => z.elim (R.tb.f x) fun z => z ▸ nt_lst ha
/-- a tracked object that nobody holds is frozen -/
theorem Rep.freezeG {a : Addr} (R : Rep C r σ H F) (ha : H a ≠ none) (nt : NT H a) (nf : ¬ F a) (nz : ¬ C.Z a) (nb : C.b ≠ some a) (no : ∀ i es, sl r i = some es → es.hold = true → σ[i]? ≠ some (some (.ref a))) :
    Rep C r σ H (fun x => F x ∨ x = a) where
  len := R.len
  slot := fun i dv e => by
    obtain ⟨v, e1, q⟩ := R.slot i dv e
    have l : Later H F H (fun x => F x ∨ x = a) := fun x z => ⟨.inl z, rfl⟩
    cases q with
    | dat q => exact ⟨_, e1, .dat (q.mono l)⟩
    | own h1 h2 h3 => exact ⟨_, e1, .own h1 (h2.mono l) fun z => z.elim h3 fun z => no i _ e rfl (z ▸ e1)⟩
    | dct h1 h3 => exact ⟨_, e1, .dct (h1.mono l rfl) fun z => z.elim h3 fun z => no i _ e rfl (z ▸ e1)⟩
    | nd h n => exact ⟨_, e1, .nd (h.mono l) (n.mono l)⟩
    | rng n => exact ⟨_, e1, .rng (n.mono l)⟩
    | bag h => exact ⟨_, e1, .bag h⟩
  dist := R.dist
  keep := R.keep
  fsub := fun x z => .inl (R.fsub x z)
  fnew := fun x z => z.elim (R.fnew x) fun z => .inr (z ▸ nz)
  fz := R.fz
  ftrk := fun x z => z.elim (R.ftrk x) fun z => by rw [z]; exact ha
  ownz := R.ownz
  bag := fun b e => by
    obtain ⟨k, nf', nz'⟩ := R.bag b e
    exact ⟨BagOk.mono (C := C) (fun x z => ⟨.inl z, rfl⟩) rfl k, fun z => z.elim nf' fun z => nb (z ▸ e), nz'⟩
  tb := R.tb.imp R.tb.z fun x z => z.elim (R.tb.f x) fun z => z ▸ nt
theorem later_fr {a : Addr} : Later H F H (fun x => F x ∨ x = a) := fun x z => ⟨.inl z, rfl⟩
/-- a slot takes a value -/
theorem Rep.store {i : Nat} (R : Rep C r σ H F) (q : Res C r σ H F v dv) : Rep C (put r i dv) (σ.set i (some v)) H F where
  len := by rw [len_putO, List.length_set]; exact R.len
  slot := fun j d e => by
    have hj : j < r.length := by have := sl_lt e; rwa [len_putO] at this
    rcases sl_put_some e with ⟨rfl, rfl⟩ | ⟨ne, e'⟩
    · refine ⟨v, List.getElem?_set_self (by rw [← R.len]; exact hj), ?_⟩
      cases q with
      | dat q => exact .dat q
      | own h1 h2 h3 => exact .own h1 h2 h3
      | dct h1 h3 => exact .dct h1 h3
      | nd h n => exact .nd h n
      | rng n => exact .rng n
      | bag h => exact .bag h
    · rw [List.getElem?_set_ne (Ne.symm ne)]
      exact R.slot j d e'
  dist := fun j k dj dk a e1 e2 o1 o2 s1 s2 => by
    have hj : j < σ.length := by have := sl_lt e1; rw [len_putO] at this; rw [← R.len]; exact this
    have hk : k < σ.length := by have := sl_lt e2; rw [len_putO] at this; rw [← R.len]; exact this
    rcases sl_put_some e1 with ⟨rfl, q1⟩ | ⟨n1, q1⟩ <;> rcases sl_put_some e2 with ⟨rfl, q2⟩ | ⟨n2, q2⟩
    · rfl
    · rw [List.getElem?_set_self hj] at s1
      rw [List.getElem?_set_ne (Ne.symm n2)] at s2
      cases s1
      subst q1
      cases q with
      | dat _ => cases o1
      | nd _ _ => cases o1
      | rng _ => cases o1
      | bag _ => cases o1
      | dct _ _ _ _ no => exact absurd s2 (no k _ q2 o2)
      | own _ _ _ _ _ no => exact absurd s2 (no k _ q2 o2)
    · rw [List.getElem?_set_self hk] at s2
      rw [List.getElem?_set_ne (Ne.symm n1)] at s1
      cases s2
      subst q2
      cases q with
      | dat _ => cases o2
      | nd _ _ => cases o2
      | rng _ => cases o2
      | bag _ => cases o2
      | dct _ _ _ _ no => exact absurd s1 (no j _ q1 o1)
      | own _ _ _ _ _ no => exact absurd s1 (no j _ q1 o1)
    · rw [List.getElem?_set_ne (Ne.symm n1)] at s1
      rw [List.getElem?_set_ne (Ne.symm n2)] at s2
      exact R.dist j k dj dk a q1 q2 o1 o2 s1 s2
  keep := R.keep
  fsub := R.fsub
  fnew := R.fnew
  fz := R.fz
  ftrk := R.ftrk
  ownz := fun j ds a e o1 s1 => by
    have hj : j < σ.length := by have := sl_lt e; rw [len_putO] at this; rw [← R.len]; exact this
    rcases sl_put_some e with ⟨rfl, q1⟩ | ⟨n1, q1⟩
    · rw [List.getElem?_set_self hj] at s1
      cases s1
      subst q1
      cases q with
      | dat _ => cases o1
      | nd _ _ => cases o1
      | rng _ => cases o1
      | bag _ => cases o1
      | dct _ _ nz nb _ => exact ⟨nz, nb⟩
      | own _ _ _ nz nb _ => exact ⟨nz, nb⟩
    · rw [List.getElem?_set_ne (Ne.symm n1)] at s1
      exact R.ownz j ds a q1 o1 s1
  bag := R.bag
  tb := R.tb
/-- a name is given up (the frame may still hold it) -/
theorem Rep.drop {i : Nat} (R : Rep C r σ H F) : Rep C (putO r i none) σ H F where
  len := by rw [len_putO]; exact R.len
  slot := fun j d e => R.slot j d (sl_put_none e).2
  dist := fun j k dj dk a e1 e2 => R.dist j k dj dk a (sl_put_none e1).2 (sl_put_none e2).2
  keep := R.keep
  fsub := R.fsub
  fnew := R.fnew
  fz := R.fz
  ftrk := R.ftrk
  ownz := fun j ds a e => R.ownz j ds a (sl_put_none e).2
  bag := R.bag
  tb := R.tb
/-- the list in a slot is frozen -/
theorem Rep.freeze {i : Nat} {ds : List D} {a : Addr} {xs : List V} (R : Rep C r σ H F) (e : sl r i = some (.own ds)) (e1 : σ[i]? = some (some (.ref a))) (ha : H a = some (.lst xs)) (hd : DpFs C.K H F xs ds) (nf : ¬ F a) :
    Rep C (put r i (.dat (.list ds))) σ H (fun x => F x ∨ x = a) ∧ DpF C.K H (fun x => F x ∨ x = a) (.ref a) (.list ds) := by
  obtain ⟨nz, nb⟩ := R.ownz i _ a e rfl e1
  have R1 : Rep C (putO r i none) σ H F := R.drop
  have R2 := R1.freezeT ha nf nz nb fun j es e2 o2 s2 => by
    obtain ⟨n, e3⟩ := sl_put_none e2
    exact n (R.dist j i es _ a e3 e o2 rfl s2 e1)
  have hv : DpF C.K H (fun x => F x ∨ x = a) (.ref a) (.list ds) := .lst ⟨.inr rfl, ha⟩ (hd.mono later_fr)
  refine ⟨?_, hv⟩
  have R3 := R2.store (i := i) (v := .ref a) (dv := .dat (.list ds)) (.dat hv)
  have q : put (putO r i none) i (.dat (.list ds)) = put r i (.dat (.list ds)) := by
    clear R R1 R2 R3 hv e e1
    induction r generalizing i with
    | nil => rfl
    | cons x r ih =>
      cases i with
      | zero => rfl
      | succ i => exact congrArg (x :: ·) (ih)
  rw [q] at R3
  have qs : σ.set i (some (.ref a)) = σ := by
    apply List.ext_getElem?
    intro j
    by_cases h : i = j
    · subst h
      have hl : i < σ.length := (List.getElem?_eq_some_iff.mp e1).1
      rw [List.getElem?_set_self hl, e1]
    · rw [List.getElem?_set_ne h]
  rwa [qs] at R3
/-- the floor: nothing that is frozen now, nor what T names, will change -/
def Ctx.up (C : Ctx) (H : Hp) (F T : AP) : Ctx := { C with Z := fun a => C.Z a ∨ F a ∨ T a, HZ := H, F0 := F }
theorem Rep.up {T : AP} (R : Rep C r σ H F) (ht : ∀ a, T a → H a ≠ none ∧ C.b ≠ some a ∧ (∀ i es, sl r i = some es → es.hold = true → σ[i]? ≠ some (some (.ref a))) ∧ NT H a) : Rep (C.up H F T) r σ H F where
  len := R.len
  slot := R.slot
  dist := R.dist
  keep := fun a z => ⟨rfl, by
    rcases z with z | z | z
    · exact (R.keep a z).2
    · exact R.ftrk a z
    · exact (ht a z).1⟩
  fsub := fun _ z => z
  fnew := fun _ z => .inl z
  fz := fun _ z => .inr (.inl z)
  ftrk := R.ftrk
  ownz := fun i ds a e o1 e1 => by
    obtain ⟨nz, nb⟩ := R.ownz i ds a e o1 e1
    refine ⟨fun z => ?_, nb⟩
    rcases z with z | z | z
    · exact nz z
    · obtain ⟨v, e2, q⟩ := R.slot i _ e
      rw [e1] at e2; cases e2
      cases q with
      | own _ _ nf => exact nf z
      | dct _ nf => exact nf z
      | nd _ _ => cases o1
      | rng _ => cases o1
      | dat _ => cases o1
      | bag _ => cases o1
    · exact (ht a z).2.2.1 i ds e o1 e1
  bag := fun b e => by
    obtain ⟨k, nf, nz⟩ := R.bag b e
    refine ⟨k, nf, fun z => ?_⟩
    rcases z with z | z | z
    · exact nz z
    · exact nf z
    · exact (ht b z).2.1 e
  tb := R.tb.imp (fun a z => z.elim (R.tb.z a) fun z => z.elim (R.tb.f a) fun z => (ht a z).2.2.2) R.tb.f
theorem Rep.down {T : AP} (R : Rep C r σ H F) (R' : Rep (C.up H F T) r' σ' H' F') : Rep C r' σ' H' F' where
  len := R'.len
  slot := R'.slot
  dist := R'.dist
  keep := fun a z => by
    obtain ⟨e, n⟩ := R'.keep a (.inl z)
    exact ⟨e.trans (R.keep a z).1, n⟩
  fsub := fun a z => R'.fsub a (R.fsub a z)
  fnew := fun a z => by
    rcases R'.fnew a z with z | z
    · exact R.fnew a z
    · exact .inr fun q => z (.inl q)
  fz := R.fz
  ftrk := R'.ftrk
  ownz := fun i ds a e o1 e1 => by
    obtain ⟨nz, nb⟩ := R'.ownz i ds a e o1 e1
    exact ⟨fun z => nz (.inl z), nb⟩
  bag := fun b e => by
    obtain ⟨k, nf, nz⟩ := R'.bag b e
    exact ⟨k, nf, fun z => nz (.inl z)⟩
  tb := R'.tb.imp (fun a z => R'.tb.z a (.inl z)) R'.tb.f
theorem Rep.later {T : AP} (R' : Rep (C.up H F T) r' σ' H' F') : Later H F H' F' := fun a z => ⟨R'.fsub a z, (R'.keep a (.inr (.inl z))).1⟩
theorem Rep.still {T : AP} {a : Addr} (R' : Rep (C.up H F T) r' σ' H' F') (ht : T a) (nf : ¬ F a) : H' a = H a ∧ ¬ F' a :=
  ⟨(R'.keep a (.inr (.inr ht))).1, fun z => (R'.fnew a z).elim nf fun q => q (.inr (.inr ht))⟩
theorem Res.down {T : AP} (q : Res (C.up H F T) r' σ' H' F' v dv) : Res C r' σ' H' F' v dv := by
  cases q with
  | dat q => exact .dat q
  | own h1 h2 h3 h4 h5 h6 => exact .own h1 h2 h3 (fun z => h4 (.inl z)) h5 h6
  | dct h1 h3 h4 h5 h6 => exact .dct h1 h3 (fun z => h4 (.inl z)) h5 h6
  | nd h n => exact .nd h n
  | rng n => exact .rng n
  | bag h => exact .bag h
def noT : AP := fun _ => False
theorem Rep.up0 (R : Rep C r σ H F) : Rep (C.up H F noT) r σ H F := R.up fun _ z => z.elim
end
end DL

/-! DL, part 3: what an expression, a statement of the text means over data; defs. -/
namespace DL
open PySem PySem.Spec L2

/-- a value that is looked at now: data, or the list that a slot holds alone -/
def DpT (K : PySem.W.Frag) (H : Hp) (F : AP) (v : V) (d : D) : Prop :=
  DpF K H F v d ∨ ∃ a xs ds, v = .ref a ∧ d = .list ds ∧ H a = some (.lst xs) ∧ DpFs K H F xs ds
inductive DpTs (K : PySem.W.Frag) (H : Hp) (F : AP) : List V → List D → Prop
  | nil : DpTs K H F [] []
  | cons {v : V} {vs : List V} {d : D} {ds : List D} : DpT K H F v d → DpTs K H F vs ds → DpTs K H F (v :: vs) (d :: ds)
theorem DpT.dp {K : PySem.W.Frag} {H : Hp} {F : AP} {v : V} {d : D} (h : DpT K H F v d) (e : d.hasDict = false) : Dp K H v d := by
  rcases h with h | ⟨a, xs, ds, rfl, rfl, h1, h2⟩
  · exact h.dp e
  · exact .lst (.inl (.inl h1)) (h2.dps (by simpa only [PyData.hasDict] using e))
theorem DpT.lst {K : PySem.W.Frag} {H : Hp} {F : AP} {v : V} {ds : List D} (h : DpT K H F v (.list ds)) : ∃ a xs, v = .ref a ∧ H a = some (.lst xs) ∧ DpFs K H F xs ds := by
  rcases h with h | ⟨a, xs, ds', rfl, e, h1, h2⟩
  · cases h with
    | lst h hs => exact ⟨_, _, rfl, h.2, hs⟩
  · cases e
    exact ⟨_, _, rfl, h1, h2⟩
theorem DpT.tup {K : PySem.W.Frag} {H : Hp} {F : AP} {v : V} {ds : List D} (h : DpT K H F v (.tuple ds)) : ∃ a xs, v = .ref a ∧ SqT K H a xs ∧ DpFs K H F xs ds ∧ ((F a ∧ Rd H a (.tup xs)) ∨ KT K a xs) := by
  rcases h with h | ⟨a, xs, ds', rfl, e, h1, h2⟩
  · cases h with
    | tup h hs => exact ⟨_, _, rfl, h.elim (fun p => .inl p.2) fun p => p.sq H, hs, h⟩
  · cases e
theorem DpT.int {K : PySem.W.Frag} {H : Hp} {F : AP} {v : V} {i : Int} (h : DpT K H F v (.int i)) : v = .int i := by
  rcases h with h | ⟨a, xs, ds', rfl, e, h1, h2⟩
  · cases h; rfl
  · cases e
theorem DpT.bl {K : PySem.W.Frag} {H : Hp} {F : AP} {v : V} {i : Bool} (h : DpT K H F v (.bool i)) : v = .bl i := by
  rcases h with h | ⟨a, xs, ds', rfl, e, h1, h2⟩
  · cases h; rfl
  · cases e
theorem DpT.str {K : PySem.W.Frag} {H : Hp} {F : AP} {v : V} {i : Str} (h : DpT K H F v (.str i)) : v = .str i := by
  rcases h with h | ⟨a, xs, ds', rfl, e, h1, h2⟩
  · cases h; rfl
  · cases e
theorem DpT.non {K : PySem.W.Frag} {H : Hp} {F : AP} {v : V} (h : DpT K H F v .none) : v = .non := by
  rcases h with h | ⟨a, xs, ds', rfl, e, h1, h2⟩
  · cases h; rfl
  · cases e

def ErrR (mg : Str → Option Value) (K : PySem.W.Frag) (H : Hp) (F : AP) (cls : Value) (d : Option Addr) (er : Err) : Prop :=
  ∃ (Cc : Addr), mg er.cls = some (.ref Cc) ∧ cls = .ref Cc ∧ ((er.fs = [] ∧ d = none) ∨ ∃ (dd : Addr) (vs : List V), d = some dd ∧ H dd = some (.xd (List.zip (er.fs.map (·.1)) vs)) ∧ DpFs K H F vs (er.fs.map (·.2)))
/-- the errors that the data's side lets out are wished for -/
structure LinkG (w : World) (mg : Str → Option Value) (W : WX) (Xk : XW) (C : Ctx) (σ : L2.St) : Prop where
  w : C.w = w
  go : ∀ er r' H' F' cls d, Rep C r' σ H' F' → ErrR mg C.K H' F' cls d er → Xk er r' → W cls d σ H'
abbrev Link (X : Cx) (W : WX) (Xk : XW) (C : Ctx) (σ : L2.St) : Prop := LinkG X.w X.mg W Xk C σ
theorem Link.up {X : Cx} {W : WX} {Xk : XW} {C : Ctx} {r : Env} {σ σ' : L2.St} {H : Hp} {F T : AP} (l : Link X W Xk C σ') (R : Rep C r σ H F) : Link X W Xk (C.up H F T) σ' :=
  ⟨l.w, fun er r' H' F' cls d R' e q => l.go er r' H' F' cls d (R.down R') e q⟩
/-- an operand's data, whenever it is looked at -/
def Gd (C : Ctx) (σ : L2.St) (v : V) (g : Get) (H : Hp) (F : AP) : Prop :=
  ∀ H' F' r' d, Rep C r' σ H' F' → Later H F H' F' → g r' = some d → DpT C.K H' F' v d
section
variable (X : Cx) (W : WX)
structure DE (e : Expr) (f : TX) : Prop where
  ex : ∃ t, PE X e t ∧ ∀ (C : Ctx) (r : Env) (σ : L2.St) (H : Hp) (F : AP) (Q : DV → Env → Prop) (Xk : XW) (QV : VK), C.K = X.K → Rep C r σ H F → Link X W Xk C σ → f Xk r Q →
    (∀ v H' F' dv r', Rep C r' σ H' F' → Res C r' σ H' F' v dv → Q dv r' → QV v H') → t σ H QV
structure DO (e : Expr) (f : OX) : Prop where
  ex : ∃ t, PE X e t ∧ ∀ (C : Ctx) (r : Env) (σ : L2.St) (H : Hp) (F : AP) (Q : Get → Env → Prop) (Xk : XW) (QV : VK), C.K = X.K → Rep C r σ H F → Link X W Xk C σ → f Xk r Q →
    (∀ v H' F' g r', Rep C r' σ H' F' → Gd C σ v g H' F' → Q g r' → QV v H') → t σ H QV
structure DT (e : Expr) (f : TB) : Prop where
  ex : ∃ t, PT X e t ∧ ∀ (C : Ctx) (r : Env) (σ : L2.St) (H : Hp) (F : AP) (Q : Bool → Env → Prop) (Xk : XW) (QV : Bool → Hp → Prop), C.K = X.K → Rep C r σ H F → Link X W Xk C σ → f Xk r Q →
    (∀ b H' F' r', Rep C r' σ H' F' → Q b r' → QV b H') → t σ H QV
structure DW (e : Expr) (f : TB) : Prop where
  ex : ∃ t, PW X e t ∧ ∀ (C : Ctx) (r : Env) (σ : L2.St) (H : Hp) (F : AP) (Q : Bool → Env → Prop) (Xk : XW) (QV : Bool → Hp → Prop), C.K = X.K → Rep C r σ H F → Link X W Xk C σ → f Xk r Q →
    (∀ b H' F' r', Rep C r' σ H' F' → Q b r' → QV b H') → t σ H QV
/-- arguments: data or the bag -/
inductive ArgR (K : PySem.W.Frag) (H : Hp) (F : AP) (b : Option Addr) : List V → List DV → Prop
  | nil : ArgR K H F b [] []
  | dat {v : V} {d : D} {vs : List V} {ds : List DV} : DpF K H F v d → ArgR K H F b vs ds → ArgR K H F b (v :: vs) (.dat d :: ds)
  | bag {a : Addr} {vs : List V} {ds : List DV} : b = some a → ArgR K H F b vs ds → ArgR K H F b (.ref a :: vs) (.bag :: ds)
structure DA (es : List Expr) (f : AX) : Prop where
  ex : ∃ t, PA X es t ∧ ∀ (C : Ctx) (r : Env) (σ : L2.St) (H : Hp) (F : AP) (Q : List DV → Env → Prop) (Xk : XW) (QV : List V → Hp → Prop), C.K = X.K → Rep C r σ H F → Link X W Xk C σ → f Xk r Q →
    (∀ vs H' F' ds r', vs.length = es.length → Rep C r' σ H' F' → ArgR C.K H' F' C.b vs ds → Q ds r' → QV vs H') → t σ H QV
inductive GdAll (C : Ctx) (σ : L2.St) (H : Hp) (F : AP) : List V → List Get → Prop
  | nil : GdAll C σ H F [] []
  | cons {v : V} {g : Get} {vs : List V} {gs : List Get} : Gd C σ v g H F → GdAll C σ H F vs gs → GdAll C σ H F (v :: vs) (g :: gs)
structure DOA (es : List Expr) (f : OAX) : Prop where
  ex : ∃ t, PA X es t ∧ ∀ (C : Ctx) (r : Env) (σ : L2.St) (H : Hp) (F : AP) (Q : List Get → Env → Prop) (Xk : XW) (QV : List V → Hp → Prop), C.K = X.K → Rep C r σ H F → Link X W Xk C σ → f Xk r Q →
    (∀ vs H' F' gs r', Rep C r' σ H' F' → GdAll C σ H' F' vs gs → Q gs r' → QV vs H') → t σ H QV
end
theorem ArgR.mono {K : PySem.W.Frag} {H H' : Hp} {F F' : AP} {b : Option Addr} (l : Later H F H' F') : ∀ {vs : List V} {ds : List DV}, ArgR K H F b vs ds → ArgR K H' F' b vs ds
  | _, _, .nil => .nil
  | _, _, .dat h hs => .dat (h.mono l) (ArgR.mono l hs)
  | _, _, .bag h hs => .bag h (ArgR.mono l hs)
theorem ArgR.length {K : PySem.W.Frag} {H : Hp} {F : AP} {b : Option Addr} : ∀ {vs : List V} {ds : List DV}, ArgR K H F b vs ds → vs.length = ds.length
  | _, _, .nil => rfl
  | _, _, .dat _ hs => congrArg (· + 1) (ArgR.length hs)
  | _, _, .bag _ hs => congrArg (· + 1) (ArgR.length hs)
theorem ArgR.all {K : PySem.W.Frag} {H : Hp} {F : AP} {b : Option Addr} : ∀ {vs : List V} {ds : List DV} {es : List D}, ArgR K H F b vs ds → allD ds = some es → DpFs K H F vs es
  | _, _, _, .nil, e => by cases e; exact .nil
  | _, _, es, .dat (ds := ds) h hs, e => by
    simp only [allD] at e
    cases q : allD ds with
    | none => rw [q] at e; cases e
    | some x => rw [q] at e; cases e; exact .cons h (ArgR.all hs q)
  | _, _, _, .bag _ _, e => by cases e
theorem Gd.mono {C : Ctx} {σ : L2.St} {v : V} {g : Get} {H H' : Hp} {F F' : AP} (l : Later H F H' F') (h : Gd C σ v g H F) : Gd C σ v g H' F' :=
  fun H2 F2 r2 d R l2 e => h H2 F2 r2 d R (l.trans l2) e
theorem Gd.down {C : Ctx} {σ : L2.St} {v : V} {g : Get} {H1 H : Hp} {F1 F T : AP} (h : Gd (C.up H1 F1 T) σ v g H F) (k : ∀ H' F' r', Rep C r' σ H' F' → Later H F H' F' → Rep (C.up H1 F1 T) r' σ H' F') : Gd C σ v g H F :=
  fun H2 F2 r2 d R l2 e => h H2 F2 r2 d (k H2 F2 r2 R l2) l2 e
theorem gets_of {C : Ctx} {r : Env} {σ : L2.St} {H : Hp} {F : AP} (R : Rep C r σ H F) : ∀ {vs : List V} {gs : List Get} {ds : List D}, GdAll C σ H F vs gs → gets gs r = some ds → DpTs C.K H F vs ds
  | _, _, _, .nil, e => by cases e; exact .nil
  | _, _, _, .cons (g := g) (gs := gs) h hs, e => by
    simp only [gets] at e
    split at e
    · rename_i d ds' e1 e2
      cases e
      exact .cons (h _ _ _ _ R Later.refl e1) (gets_of R hs e2)
    · cases e

section
variable {X : Cx} {W : WX} {e a b c : Expr} {es : List Expr} {f h k : TX} {pos : Pos}
/-! ### names, constants -/
theorem de_c {v : V} {d : D} (p : PE X e (tC v)) (q : ∀ K H F, DpF K H F v d) : DE X W e (xC d) :=
  ⟨⟨_, p, fun C r σ H F Q Xk QV _ R _ hf k => k v H F _ r R (.dat (q _ _ _)) hf⟩⟩
theorem de_int {i : Int} {j : Nat} : DE X W (.Constant (.int i) j pos) (xC (.int i)) := de_c pe_int fun _ _ _ => .int i
theorem de_bl {i : Bool} {j : Nat} : DE X W (.Constant (.bool i) j pos) (xC (.bool i)) := de_c pe_bl fun _ _ _ => .bl i
theorem de_str {i : Str} {j : Nat} : DE X W (.Constant (.str i) j pos) (xC (.str i)) := de_c pe_str fun _ _ _ => .str i
theorem de_non {j : Nat} : DE X W (.Constant .none j pos) (xC .none) := de_c pe_non fun _ _ _ => .non
theorem de_var {i : Nat} (p : PE X e (tVar i)) : DE X W e (xVar i) := by
  refine ⟨⟨_, p, fun C r σ H F Q Xk QV _ R _ hf k => ?_⟩⟩
  unfold xVar at hf
  cases q : sl r i with
  | none => rw [q] at hf; exact hf.elim
  | some dv =>
    rw [q] at hf
    obtain ⟨v, e1, sr⟩ := R.slot i dv q
    refine ⟨v, e1, ?_⟩
    cases sr with
    | dat s => exact k v H F _ r R (.dat s) hf
    | own h1 h2 h3 =>
      obtain ⟨R2, s2⟩ := R.freeze q e1 h1 h2 h3
      exact k _ H _ _ _ R2 (.dat s2) hf
    | dct _ _ => exact hf.elim
    | nd s n => exact k v H F _ r R (.nd s n) hf
    | rng n => exact k v H F _ r R (.rng n) hf
    | bag s => exact k _ H F _ r R (.bag s) hf
theorem de_mv {i : Nat} (p : PE X e (tVar i)) : DE X W e (xMv i) := by
  refine ⟨⟨_, p, fun C r σ H F Q Xk QV _ R _ hf k => ?_⟩⟩
  unfold xMv at hf
  cases q : sl r i with
  | none => rw [q] at hf; exact hf.elim
  | some dv =>
    rw [q] at hf
    obtain ⟨v, e1, sr⟩ := R.slot i dv q
    refine ⟨v, e1, k v H F dv _ R.drop ?_ hf⟩
    cases sr with
    | dat s => exact .dat s
    | own h1 h2 h3 =>
      obtain ⟨nz, nb⟩ := R.ownz i _ _ q rfl e1
      exact .own h1 h2 h3 nz nb fun j es e2 o2 s2 => (sl_put_none e2).1 (R.dist j i es _ _ (sl_put_none e2).2 q o2 rfl s2 e1)
    | dct h1 h3 =>
      obtain ⟨nz, nb⟩ := R.ownz i _ _ q rfl e1
      exact .dct h1 h3 nz nb fun j es e2 o2 s2 => (sl_put_none e2).1 (R.dist j i es _ _ (sl_put_none e2).2 q o2 rfl s2 e1)
    | nd s n => exact .nd s n
    | rng n => exact .rng n
    | bag s => exact .bag s
/-! ### operands -/
theorem do_v {i : Nat} (p : PE X e (tVar i)) : DO X W e (oV i) := by
  refine ⟨⟨_, p, fun C r σ H F Q Xk QV _ R _ hf k => ?_⟩⟩
  unfold oV at hf
  cases q : sl r i with
  | none => rw [q] at hf; exact hf.elim
  | some dv =>
    rw [q] at hf
    obtain ⟨v, e1, _⟩ := R.slot i dv q
    refine ⟨v, e1, k v H F _ r R (fun H' F' r' d R' _ eg => ?_) hf⟩
    cases q' : sl r' i with
    | none => rw [q'] at eg; cases eg
    | some dv' =>
      rw [q'] at eg
      obtain ⟨v', e2, sr⟩ := R'.slot i dv' q'
      rw [e1] at e2; cases e2
      cases sr with
      | dat s => cases eg; exact .inl s
      | own h1 h2 h3 => cases eg; exact .inr ⟨_, _, _, rfl, rfl, h1, h2⟩
      | dct _ _ => cases eg
      | nd s _ => cases eg; exact .inl s
      | rng _ => cases eg
      | bag s => cases eg
theorem Res.froz {C : Ctx} {r : Env} {σ : L2.St} {H : Hp} {F : AP} {v : V} {dv : DV} {d : D} (R : Rep C r σ H F) (q : Res C r σ H F v dv) (e : dv.toD = some d) :
    ∃ F', Rep C r σ H F' ∧ DpF C.K H F' v d ∧ Later H F H F' := by
  cases q with
  | dat s => cases e; exact ⟨F, R, s, Later.refl⟩
  | own h1 h2 h3 h4 h5 h6 =>
    cases e
    exact ⟨_, R.freezeT h1 h3 h4 h5 h6, .lst ⟨.inr rfl, h1⟩ (h2.mono later_fr), later_fr⟩
  | dct _ _ _ _ _ => cases e
  | nd s _ => cases e; exact ⟨F, R, s, Later.refl⟩
  | rng _ => cases e
  | bag s => cases e
theorem do_e (p : DE X W e f) : DO X W e (oE f) := by
  obtain ⟨t, pe, ent⟩ := p.ex
  refine ⟨⟨t, pe, fun C r σ H F Q Xk QV hK R L hf k => ?_⟩⟩
  refine ent C r σ H F _ Xk QV hK R L hf fun v H1 F1 dv r1 R1 G1 q1 => ?_
  cases q : dv.toD with
  | none => rw [q] at q1; exact q1.elim
  | some d =>
    rw [q] at q1
    obtain ⟨F2, R2, s2, _⟩ := G1.froz R1 q
    exact k v H1 F2 _ r1 R2 (fun H' F' r' d' _ l eg => by cases eg; exact .inl (s2.mono l)) q1
/-! ### operators -/
def Sem2 (K : PySem.W.Frag) (p : R2) (o : Op2) : Prop := ∀ (C : Ctx) (r : Env) (σ : L2.St) (H : Hp) (F : AP) (x y : V) (dx dy : D) (Q : DV → Prop) (QV : VK), C.K = K → Rep C r σ H F → DpT C.K H F x dx → DpT C.K H F y dy → o dx dy Q →
  (∀ v H' F' dv, Rep C r σ H' F' → Later H F H' F' → Res C r σ H' F' v dv → Q dv → QV v H') → p x y H QV
theorem bin_ent {ta tb : TE} {p : R2} {o : Op2} {oa ob : OX} (hs : Sem2 X.K p o)
    (ea : ∀ (C : Ctx) (r : Env) (σ : L2.St) (H : Hp) (F : AP) (Q : Get → Env → Prop) (Xk : XW) (QV : VK), C.K = X.K → Rep C r σ H F → Link X W Xk C σ → oa Xk r Q → (∀ v H' F' g r', Rep C r' σ H' F' → Gd C σ v g H' F' → Q g r' → QV v H') → ta σ H QV)
    (eb : ∀ (C : Ctx) (r : Env) (σ : L2.St) (H : Hp) (F : AP) (Q : Get → Env → Prop) (Xk : XW) (QV : VK), C.K = X.K → Rep C r σ H F → Link X W Xk C σ → ob Xk r Q → (∀ v H' F' g r', Rep C r' σ H' F' → Gd C σ v g H' F' → Q g r' → QV v H') → tb σ H QV) :
    ∀ (C : Ctx) (r : Env) (σ : L2.St) (H : Hp) (F : AP) (Q : DV → Env → Prop) (Xk : XW) (QV : VK), C.K = X.K → Rep C r σ H F → Link X W Xk C σ → xB o oa ob Xk r Q → (∀ v H' F' dv r', Rep C r' σ H' F' → Res C r' σ H' F' v dv → Q dv r' → QV v H') → tOp p ta tb σ H QV := by
  intro C r σ H F Q Xk QV hK R L hf k
  refine ea C r σ H F _ Xk _ hK R L hf fun v1 H1 F1 g r1 R1 G1 q1 => ?_
  refine eb (C.up H1 F1 noT) r1 σ H1 F1 _ Xk _ hK R1.up0 (L.up R1) q1 fun v2 H2 F2 g2 r2 R2' G2 q2 => ?_
  have R2 := R1.down R2'
  have l := R2'.later
  split at q2
  · rename_i x y ex ey
    exact hs C r2 σ H2 F2 v1 v2 x y _ QV hK R2 (G1 _ _ _ _ R2 l ex) (G2 _ _ _ _ R2' Later.refl ey) q2 fun v H' F' dv R' _ G' q' => k v H' F' dv r2 R' G' q'
  · exact q2.elim
theorem de_bin {op : Operator} {p : R2} {o : Op2} {oa ob : OX} (ho : OpR X (binaryOp op) p) (hs : Sem2 X.K p o) (ha : DO X W a oa) (hb : DO X W b ob) : DE X W (.BinOp a op b pos) (xB o oa ob) := by
  obtain ⟨ta, pa, ea⟩ := ha.ex
  obtain ⟨tb, pb, eb⟩ := hb.ex
  exact ⟨⟨tOp p ta tb, pe_op ho pa pb, bin_ent hs ea eb⟩⟩
theorem de_cmp {op : CmpOp} {p : R2} {o : Op2} {oa ob : OX} (ho : OpR X (compareOp op) p) (hs : Sem2 X.K p o) (ha : DO X W a oa) (hb : DO X W b ob) (hm : behindInMarks op b = false) : DE X W (.Compare a [op] [b] pos) (xB o oa ob) := by
  obtain ⟨ta, pa, ea⟩ := ha.ex
  obtain ⟨tb, pb, eb⟩ := hb.ex
  exact ⟨⟨tOp p ta tb, pe_cmpR ho pa pb hm, bin_ent hs ea eb⟩⟩
theorem dt_cmp {op : CmpOp} {p : R2} {o : Op2} {oa ob : OX} (ho : OpR X (compareOp op) p) (hs : Sem2 X.K p o) (ha : DO X W a oa) (hb : DO X W b ob) (hm : behindInMarks op b = false) : DT X W (.Compare a [op] [b] pos) (bX (xB o oa ob)) := by
  obtain ⟨ta, pa, ea⟩ := ha.ex
  obtain ⟨tb, pb, eb⟩ := hb.ex
  refine ⟨⟨_, pt_cmpR ho pa pb hm, fun C r σ H F Q Xk QV hK R L hf k => ?_⟩⟩
  refine bin_ent hs ea eb C r σ H F _ Xk _ hK R L hf fun v H' F' dv r' R' G' q' => ?_
  split at q'
  · rename_i bb
    cases G' with
    | dat s =>
      cases s
      exact ⟨_, rfl, k bb H' F' r' R' q'⟩
  · exact q'.elim
theorem de_ix {p : R2} {o : Op2} {oa ob : OX} (ho : IxR X p) (hs : Sem2 X.K p o) (ha : DO X W a oa) (hb : DO X W b ob) (hp : PlainIx b) : DE X W (.Subscript a b pos) (xB o oa ob) := by
  obtain ⟨ta, pa, ea⟩ := ha.ex
  obtain ⟨tb, pb, eb⟩ := hb.ex
  exact ⟨⟨tOp p ta tb, pe_ix ho pa pb hp, bin_ent hs ea eb⟩⟩
def Sem1 (K : PySem.W.Frag) (p : V → Hp → VK → Prop) (o : D → (DV → Prop) → Prop) : Prop := ∀ (C : Ctx) (r : Env) (σ : L2.St) (H : Hp) (F : AP) (x : V) (dx : D) (Q : DV → Prop) (QV : VK), C.K = K → Rep C r σ H F → DpT C.K H F x dx → o dx Q →
  (∀ v H' F' dv, Rep C r σ H' F' → Later H F H' F' → Res C r σ H' F' v dv → Q dv → QV v H') → p x H QV
theorem de_un {op : UnaryOp} {p : V → Hp → VK → Prop} {o : D → (DV → Prop) → Prop} {oa : OX} (ho : UnR X (unaryOp op) p) (hs : Sem1 X.K p o) (ha : DO X W a oa) : DE X W (.UnaryOp op a pos) (xU o oa) := by
  obtain ⟨ta, pa, ea⟩ := ha.ex
  refine ⟨⟨_, pe_un ho pa, fun C r σ H F Q Xk QV hK R L hf k => ?_⟩⟩
  refine ea C r σ H F _ Xk _ hK R L hf fun v1 H1 F1 g r1 R1 G1 q1 => ?_
  split at q1
  · rename_i x ex
    exact hs C r1 σ H1 F1 v1 x _ QV hK R1 (G1 _ _ _ _ R1 Later.refl ex) q1 fun v H' F' dv R' _ G' q' => k v H' F' dv r1 R' G' q'
  · exact q1.elim
theorem chain_ent {ta tb tc : L2.TE} {p p' : R2} {o o' : Op2} {oa ob oc : OX} (hs : Sem2 X.K p o) (hs' : Sem2 X.K p' o')
    (ea : ∀ (C : Ctx) (r : Env) (σ : L2.St) (H : Hp) (F : AP) (Q : Get → Env → Prop) (Xk : XW) (QV : VK), C.K = X.K → Rep C r σ H F → Link X W Xk C σ → oa Xk r Q → (∀ v H' F' g r', Rep C r' σ H' F' → Gd C σ v g H' F' → Q g r' → QV v H') → ta σ H QV)
    (eb : ∀ (C : Ctx) (r : Env) (σ : L2.St) (H : Hp) (F : AP) (Q : Get → Env → Prop) (Xk : XW) (QV : VK), C.K = X.K → Rep C r σ H F → Link X W Xk C σ → ob Xk r Q → (∀ v H' F' g r', Rep C r' σ H' F' → Gd C σ v g H' F' → Q g r' → QV v H') → tb σ H QV)
    (ec : ∀ (C : Ctx) (r : Env) (σ : L2.St) (H : Hp) (F : AP) (Q : Get → Env → Prop) (Xk : XW) (QV : VK), C.K = X.K → Rep C r σ H F → Link X W Xk C σ → oc Xk r Q → (∀ v H' F' g r', Rep C r' σ H' F' → Gd C σ v g H' F' → Q g r' → QV v H') → tc σ H QV) :
    ∀ (C : Ctx) (r : Env) (σ : L2.St) (H : Hp) (F : AP) (Q : DV → Env → Prop) (Xk : XW) (QV : VK), C.K = X.K → Rep C r σ H F → Link X W Xk C σ → xCh o o' oa ob oc Xk r Q → (∀ v H' F' dv r', Rep C r' σ H' F' → Res C r' σ H' F' v dv → Q dv r' → QV v H') → tChain p p' ta tb tc σ H QV := by
  intro C r σ H F Q Xk QV hK R L hf k
  refine ea C r σ H F _ Xk _ hK R L hf fun v1 H1 F1 g r1 R1 G1 q1 => ?_
  refine eb (C.up H1 F1 noT) r1 σ H1 F1 _ Xk _ hK R1.up0 (L.up R1) q1 fun v2 H2 F2 g2 r2 R2' G2 q2 => ?_
  have R2 := R1.down R2'
  have l := R2'.later
  split at q2
  · rename_i x y ex ey
    refine hs C r2 σ H2 F2 v1 v2 x y _ _ hK R2 (G1 _ _ _ _ R2 l ex) (G2 _ _ _ _ R2' Later.refl ey) q2 fun v H3 F3 dv R3 l3 G3 q3 => ?_
    split at q3
    · cases G3 with
      | dat s =>
        cases s
        refine ⟨true, rfl, iteT ?_⟩
        have R3u : Rep (C.up H1 F1 noT) r2 σ H3 F3 := by
          have u := R3.up0
          refine { u with tb := R3.tb.imp (fun a z => z.elim (R3.tb.z a) fun z => z.elim (fun z => R3.tb.f a ((l.trans l3) a z).1) fun z => z.elim) R3.tb.f, keep := fun x z => ?_, fsub := fun x z => (l.trans l3 x z).1, fnew := fun x z => ?_, fz := fun x z => .inr (.inl z), ownz := fun i ds x e1 o1 e2 => ?_, bag := fun x e1 => ?_ }
          · rcases z with z | z | z
            · exact ⟨((R3.keep x z).1).trans (R1.keep x z).1.symm, (R3.keep x z).2⟩
            · have q := (l.trans l3) x z
              exact ⟨q.2, R3.ftrk x q.1⟩
            · exact z.elim
          · by_cases hz : F1 x
            · exact .inl hz
            · refine .inr fun w => ?_
              rcases w with w | w | w
              · rcases R3.fnew x z with q | q
                · exact hz (R1.fsub x q)
                · exact q w
              · exact hz w
              · exact w
          · obtain ⟨nz, nb⟩ := R3.ownz i ds x e1 o1 e2
            refine ⟨fun w => ?_, nb⟩
            rcases w with w | w | w
            · exact nz w
            · obtain ⟨v, e3, sr⟩ := R3.slot i _ e1
              rw [e2] at e3; cases e3
              cases sr with
              | own _ _ nf => exact nf ((l.trans l3) x w).1
              | dct _ nf => exact nf ((l.trans l3) x w).1
              | nd _ _ => cases o1
              | rng _ => cases o1
              | dat _ => cases o1
              | bag _ => cases o1
            · exact w
          · obtain ⟨kk, nf, nz⟩ := R3.bag x e1
            refine ⟨kk, nf, fun w => ?_⟩
            rcases w with w | w | w
            · exact nz w
            · exact nf ((l.trans l3) x w).1
            · exact w
        refine ec (C.up H3 F3 noT) r2 σ H3 F3 _ Xk _ hK R3.up0 (L.up R3) q3 fun v4 H4 F4 g4 r4 R4' G4 q4 => ?_
        have R4 := R3.down R4'
        split at q4
        · rename_i y' z ey' ez
          -- the middle one, looked at again
          have hy : DpT C.K H4 F4 v2 y' := by
            refine G2 H4 F4 r4 y' ?_ (l3.trans R4'.later) ey'
            have l4 := l3.trans R4'.later
            refine { R4 with tb := R4.tb.imp (fun a z => z.elim (R4.tb.z a) fun z => z.elim (fun z => R4.tb.f a ((l.trans l4) a z).1) fun z => z.elim) R4.tb.f, keep := fun x z => ?_, fsub := fun x z => ((l.trans l4) x z).1, fnew := fun x z => ?_, fz := fun x z => .inr (.inl z), ownz := fun i ds x e1 o1 e2 => ?_, bag := fun x e1 => ?_ }
            · rcases z with z | z | z
              · exact ⟨((R4.keep x z).1).trans (R1.keep x z).1.symm, (R4.keep x z).2⟩
              · have q := (l.trans l4) x z
                exact ⟨q.2, R4.ftrk x q.1⟩
              · exact z.elim
            · by_cases hz : F1 x
              · exact .inl hz
              · refine .inr fun w => ?_
                rcases w with w | w | w
                · rcases R4.fnew x z with q | q
                  · exact hz (R1.fsub x q)
                  · exact q w
                · exact hz w
                · exact w
            · obtain ⟨nz, nb⟩ := R4.ownz i ds x e1 o1 e2
              refine ⟨fun w => ?_, nb⟩
              rcases w with w | w | w
              · exact nz w
              · obtain ⟨v, e3, sr⟩ := R4.slot i _ e1
                rw [e2] at e3; cases e3
                cases sr with
                | own _ _ nf => exact nf ((l.trans l4) x w).1
                | dct _ nf => exact nf ((l.trans l4) x w).1
                | nd _ _ => cases o1
                | rng _ => cases o1
                | dat _ => cases o1
                | bag _ => cases o1
              · exact w
            · obtain ⟨kk, nf, nz⟩ := R4.bag x e1
              refine ⟨kk, nf, fun w => ?_⟩
              rcases w with w | w | w
              · exact nz w
              · exact nf ((l.trans l4) x w).1
              · exact w
          refine hs' C r4 σ H4 F4 v2 v4 y' z _ QV hK R4 hy (G4 _ _ _ _ R4' Later.refl ez) q4 fun v5 H5 F5 dv5 R5 _ G5 q5 => ?_
          split at q5
          · exact k v5 H5 F5 _ r4 R5 G5 q5
          · exact q5.elim
        · exact q4.elim
    · cases G3 with
      | dat s =>
        cases s
        exact ⟨false, rfl, iteF (k (.bl false) H3 F3 _ r2 R3 (.dat (.bl false)) q3)⟩
    · exact q3.elim
  · exact q2.elim
theorem de_chain {op op' : CmpOp} {p p' : R2} {o o' : Op2} {oa ob oc : OX} (ho : OpR X (compareOp op) p) (ho' : OpR X (compareOp op') p') (hs : Sem2 X.K p o) (hs' : Sem2 X.K p' o') (ha : DO X W a oa) (hb : DO X W b ob) (hc : DO X W c oc)
    (hm : lastMarks [op, op'] [b, c] = false := by with_unfolding_all rfl) : DE X W (.Compare a [op, op'] [b, c] pos) (xCh o o' oa ob oc) := by
  obtain ⟨ta, pa, ea⟩ := ha.ex
  obtain ⟨tb, pb, eb⟩ := hb.ex
  obtain ⟨tc, pc, ec⟩ := hc.ex
  exact ⟨⟨_, pe_chain ho ho' pa pb pc hm, chain_ent hs hs' ea eb ec⟩⟩
end
end DL

/-! DL, part 4: tests, displays, calls, comprehensions, statements. -/
namespace DL
open PySem PySem.Spec L2
theorem Rep.reup {C : Ctx} {r r1 : Env} {σ σ1 : L2.St} {H H1 : Hp} {F F1 : AP} (R : Rep C r σ H F) (R1 : Rep C r1 σ1 H1 F1) (l : Later H1 F1 H F) : Rep (C.up H1 F1 noT) r σ H F where
  len := R.len
  slot := R.slot
  dist := R.dist
  keep := fun x z => by
    rcases z with z | z | z
    · exact ⟨((R.keep x z).1).trans (R1.keep x z).1.symm, (R.keep x z).2⟩
    · exact ⟨(l x z).2, R.ftrk x (l x z).1⟩
    · exact z.elim
  fsub := fun x z => (l x z).1
  fnew := fun x z => by
    by_cases hz : F1 x
    · exact .inl hz
    · refine .inr fun w => ?_
      rcases w with w | w | w
      · rcases R.fnew x z with q | q
        · exact hz (R1.fsub x q)
        · exact q w
      · exact hz w
      · exact w
  fz := fun x z => .inr (.inl z)
  ftrk := R.ftrk
  ownz := fun i ds x e1 o1 e2 => by
    obtain ⟨nz, nb⟩ := R.ownz i ds x e1 o1 e2
    refine ⟨fun w => ?_, nb⟩
    rcases w with w | w | w
    · exact nz w
    · obtain ⟨v, e3, sr⟩ := R.slot i _ e1
      rw [e2] at e3; cases e3
      cases sr with
      | own _ _ nf => exact nf (l x w).1
      | dct _ nf => exact nf (l x w).1
      | nd _ _ => cases o1
      | rng _ => cases o1
      | dat _ => cases o1
      | bag _ => cases o1
    · exact w
  bag := fun x e1 => by
    obtain ⟨kk, nf, nz⟩ := R.bag x e1
    refine ⟨kk, nf, fun w => ?_⟩
    rcases w with w | w | w
    · exact nz w
    · exact nf (l x w).1
    · exact w
  tb := R.tb.imp (fun a z => z.elim (R.tb.z a) fun z => z.elim (fun z => R.tb.f a (l a z).1) fun z => z.elim) R.tb.f
section
variable {X : Cx} {W : WX} {e a b c : Expr} {es : List Expr} {f h k : TX} {pos : Pos}
/-! ### tests -/
theorem dt_x (p : DE X W e f) (he : ∀ whole, isTrue e X.env whole = (do let v ← whole; standAt e.pos; holding [v] (truthy v)) := by intro _; rfl) : DT X W e (bX f) := by
  obtain ⟨t, pe, ent⟩ := p.ex
  refine ⟨⟨_, pt_val pe he, fun C r σ H F Q Xk QV hK R L hf k => ?_⟩⟩
  refine ent C r σ H F _ Xk _ hK R L hf fun v H1 F1 dv r1 R1 G1 q1 => ?_
  split at q1
  · cases G1 with
    | dat s =>
      cases s
      exact ⟨_, rfl, k _ H1 F1 r1 R1 q1⟩
  · exact q1.elim
theorem line_eq : sizeLine = 16777216 := sizeLine_eq
theorem dt_o {o : OX} (p : DO X W e o) (he : ∀ whole, isTrue e X.env whole = (do let v ← whole; standAt e.pos; holding [v] (truthy v)) := by intro _; rfl) : DT X W e (bO o) := by
  obtain ⟨t, pe, ent⟩ := p.ex
  refine ⟨⟨_, pt_truth pe he, fun C r σ H F Q Xk QV hK R L hf k => ?_⟩⟩
  refine ent C r σ H F _ Xk _ hK R L hf fun v H1 F1 g r1 R1 G1 q1 => ?_
  split at q1
  · rename_i bb eb
    obtain ⟨d, ed, et⟩ := Option.bind_eq_some_iff.mp eb
    have hd := G1 _ _ _ _ R1 Later.refl ed
    refine ⟨bb, ?_, k _ H1 F1 r1 R1 q1.2⟩
    cases d with
    | none => cases hd.non; cases et; rfl
    | bool => cases hd.bl; cases et; rfl
    | int => cases hd.int; cases et; rfl
    | str x =>
      cases hd.str
      cases et
      exact ⟨by rw [line_eq]; exact q1.1 x ed, rfl⟩
    | list ds =>
      obtain ⟨a, xs, rfl, h1, h2⟩ := hd.lst
      cases et
      refine .inl ⟨xs, .inl (.inl h1), ?_⟩
      cases h2 <;> rfl
    | tuple ds =>
      obtain ⟨a, xs, rfl, h1, h2, _⟩ := hd.tup
      cases et
      refine .inr (.inl ⟨xs, hK ▸ h1, ?_⟩)
      cases h2 <;> rfl
    | dict => cases et
  · exact q1.elim
variable {ta tb : TB} {rest : List Expr}
theorem DW.t (p : DW X W e ta) : DT X W e ta := by
  obtain ⟨t, pe, ent⟩ := p.ex
  exact ⟨⟨t, pe.pt, ent⟩⟩
theorem dw_and1 (p : DT X W a ta) : DW X W (.BoolOp .And [a] pos) ta := by
  obtain ⟨t, pe, ent⟩ := p.ex
  exact ⟨⟨t, pw_and1 pe, ent⟩⟩
theorem dw_or1 (p : DT X W a ta) : DW X W (.BoolOp .Or [a] pos) ta := by
  obtain ⟨t, pe, ent⟩ := p.ex
  exact ⟨⟨t, pw_or1 pe, ent⟩⟩
theorem dw_and (p : DT X W a ta) (q : DW X W (.BoolOp .And (b :: rest) pos) tb) : DW X W (.BoolOp .And (a :: b :: rest) pos) (bAnd ta tb) := by
  obtain ⟨t, pe, ent⟩ := p.ex
  obtain ⟨u, pu, enu⟩ := q.ex
  refine ⟨⟨_, pw_and pe pu, fun C r σ H F Q Xk QV hK R L hf k => ?_⟩⟩
  refine ent C r σ H F _ Xk _ hK R L hf fun v H1 F1 r1 R1 q1 => ?_
  cases v with
  | true => exact enu C r1 σ H1 F1 _ Xk _ hK R1 L q1 k
  | false => exact k false H1 F1 r1 R1 q1
theorem dw_or (p : DT X W a ta) (q : DW X W (.BoolOp .Or (b :: rest) pos) tb) : DW X W (.BoolOp .Or (a :: b :: rest) pos) (bOr ta tb) := by
  obtain ⟨t, pe, ent⟩ := p.ex
  obtain ⟨u, pu, enu⟩ := q.ex
  refine ⟨⟨_, pw_or pe pu, fun C r σ H F Q Xk QV hK R L hf k => ?_⟩⟩
  refine ent C r σ H F _ Xk _ hK R L hf fun v H1 F1 r1 R1 q1 => ?_
  cases v with
  | true => exact k true H1 F1 r1 R1 q1
  | false => exact enu C r1 σ H1 F1 _ Xk _ hK R1 L q1 k
theorem dt_not (p : DT X W a ta) : DT X W (.UnaryOp .Not a pos) (bNot ta) := by
  obtain ⟨t, pe, ent⟩ := p.ex
  refine ⟨⟨_, pt_not pe, fun C r σ H F Q Xk QV hK R L hf k => ?_⟩⟩
  exact ent C r σ H F _ Xk _ hK R L hf fun v H1 F1 r1 R1 q1 => k (!v) H1 F1 r1 R1 q1
theorem de_one {op} (p : DE X W a f) : DE X W (.BoolOp op [a] pos) f := by
  obtain ⟨t, pe, ent⟩ := p.ex
  exact ⟨⟨t, pe_one pe, ent⟩⟩
theorem de_and (p : DE X W a f) (q : DE X W (.BoolOp .And (b :: rest) pos) h) : DE X W (.BoolOp .And (a :: b :: rest) pos) (xAnd f h) := by
  obtain ⟨t, pe, ent⟩ := p.ex
  obtain ⟨u, pu, enu⟩ := q.ex
  refine ⟨⟨_, pe_and pe pu, fun C r σ H F Q Xk QV hK R L hf k => ?_⟩⟩
  refine ent C r σ H F _ Xk _ hK R L hf fun v H1 F1 dv r1 R1 G1 q1 => ?_
  split at q1
  · cases G1 with
    | dat s =>
      cases s
      rename_i cc
      refine ⟨cc, rfl, ?_⟩
      cases cc with
      | true => exact enu C r1 σ H1 F1 _ Xk _ hK R1 L q1 k
      | false => exact k _ H1 F1 _ r1 R1 (.dat (.bl false)) q1
  · exact q1.elim
theorem de_or (p : DE X W a f) (q : DE X W (.BoolOp .Or (b :: rest) pos) h) : DE X W (.BoolOp .Or (a :: b :: rest) pos) (xOr f h) := by
  obtain ⟨t, pe, ent⟩ := p.ex
  obtain ⟨u, pu, enu⟩ := q.ex
  refine ⟨⟨_, pe_or pe pu, fun C r σ H F Q Xk QV hK R L hf k => ?_⟩⟩
  refine ent C r σ H F _ Xk _ hK R L hf fun v H1 F1 dv r1 R1 G1 q1 => ?_
  split at q1
  · cases G1 with
    | dat s =>
      cases s
      rename_i cc
      refine ⟨cc, rfl, ?_⟩
      cases cc with
      | true => exact k _ H1 F1 _ r1 R1 (.dat (.bl true)) q1
      | false => exact enu C r1 σ H1 F1 _ Xk _ hK R1 L q1 k
  · exact q1.elim
theorem de_not (p : DE X W a f) : DE X W (.UnaryOp .Not a pos) (xNot (bX f)) := by
  obtain ⟨t, pe, ent⟩ := p.ex
  refine ⟨⟨_, pe_not pe, fun C r σ H F Q Xk QV hK R L hf k => ?_⟩⟩
  refine ent C r σ H F _ Xk _ hK R L hf fun v H1 F1 dv r1 R1 G1 q1 => ?_
  split at q1
  · cases G1 with
    | dat s =>
      cases s
      exact ⟨_, rfl, k _ H1 F1 _ r1 R1 (.dat (.bl _)) q1⟩
  · exact q1.elim
theorem de_if (t : DT X W c ta) (p : DE X W a f) (q : DE X W b h) : DE X W (.IfExp c a b pos) (xIf ta f h) := by
  obtain ⟨t, pt, ent⟩ := t.ex
  obtain ⟨ua, pa, ena⟩ := p.ex
  obtain ⟨ub, pb, enb⟩ := q.ex
  refine ⟨⟨_, pe_ifExp pt pa pb, fun C r σ H F Q Xk QV hK R L hf k => ?_⟩⟩
  refine ent C r σ H F _ Xk _ hK R L hf fun v H1 F1 r1 R1 q1 => ?_
  cases v with
  | true => exact ena C r1 σ H1 F1 _ Xk _ hK R1 L q1 k
  | false => exact enb C r1 σ H1 F1 _ Xk _ hK R1 L q1 k
/-! ### arguments, displays -/
theorem da_nil : DA X W [] aNil := ⟨⟨_, pa_nil, fun C r σ H F Q Xk QV _ R _ hf k => k [] H F [] r rfl R .nil hf⟩⟩
theorem da_cons {t : AX} (p : DE X W e f) (q : DA X W es t) (hs : starEach (e :: es) X.env = (false, eval e X.env) :: starEach es X.env := by rfl) : DA X W (e :: es) (aCons f t) := by
  obtain ⟨u, pe, ent⟩ := p.ex
  obtain ⟨w, pa, ena⟩ := q.ex
  refine ⟨⟨_, pa_cons pe pa hs, fun C r σ H F Q Xk QV hK R L hf k => ?_⟩⟩
  refine ent C r σ H F _ Xk _ hK R L hf fun v H1 F1 dv r1 R1 G1 q1 => ?_
  cases G1 with
  | dat s =>
    refine ena (C.up H1 F1 noT) r1 σ H1 F1 _ Xk _ hK R1.up0 (L.up R1) q1 fun vs H2 F2 ds r2 n2 R2' A2 q2 => ?_
    exact k _ H2 F2 _ r2 (congrArg (· + 1) n2) (R1.down R2') (.dat (s.mono R2'.later) A2) q2
  | own h1 h2 h3 h4 h5 h6 =>
    have R1f := R1.freezeT h1 h3 h4 h5 h6
    have s : DpF C.K H1 (fun x => F1 x ∨ x = _) (.ref _) (.list _) := .lst ⟨.inr rfl, h1⟩ (h2.mono later_fr)
    refine ena (C.up H1 _ noT) r1 σ H1 _ _ Xk _ hK R1f.up0 (L.up R1f) q1 fun vs H2 F2 ds r2 n2 R2' A2 q2 => ?_
    exact k _ H2 F2 _ r2 (congrArg (· + 1) n2) (R1f.down R2') (.dat (s.mono R2'.later) A2) q2
  | bag s =>
    refine ena (C.up H1 F1 noT) r1 σ H1 F1 _ Xk _ hK R1.up0 (L.up R1) q1 fun vs H2 F2 ds r2 n2 R2' A2 q2 => ?_
    exact k _ H2 F2 _ r2 (congrArg (· + 1) n2) (R1.down R2') (.bag s A2) q2
  | dct g1 g2 g3 g4 g5 =>
    obtain ⟨rfl, q1⟩ := q1
    rcases g1 with ⟨_, ps, h1, h2⟩ | ⟨z, _⟩
    · have R1f := R1.freezeG (by rw [h1]; simp) (fun _ z => by rw [h1] at z; cases z) g2 g3 g4 g5
      have s : DpF C.K H1 (fun x => F1 x ∨ x = _) (.ref _) (.dict _) := .dct ⟨.inr rfl, h1⟩ ((h2.mono later_fr).ks)
      refine ena (C.up H1 _ noT) r1 σ H1 _ _ Xk _ hK R1f.up0 (L.up R1f) q1 fun vs H2 F2 ds r2 n2 R2' A2 q2 => ?_
      exact k _ H2 F2 _ r2 (congrArg (· + 1) n2) (R1f.down R2') (.dat (s.mono R2'.later) A2) q2
    · cases z
  | rng _ => exact q1.elim
  | nd s n =>
    refine ena (C.up H1 F1 noT) r1 σ H1 F1 _ Xk _ hK R1.up0 (L.up R1) q1 fun vs H2 F2 ds r2 n2 R2' A2 q2 => ?_
    exact k _ H2 F2 _ r2 (congrArg (· + 1) n2) (R1.down R2') (.dat (s.mono R2'.later) A2) q2
theorem de_tup {t : AX} {x1} (p : DA X W es t) : DE X W (.Tuple es x1 pos) (xTup t) := by
  obtain ⟨u, pa, ent⟩ := p.ex
  refine ⟨⟨_, pe_tup pa, fun C r σ H F Q Xk QV hK R L hf k => ?_⟩⟩
  refine ent C r σ H F _ Xk _ hK R L hf fun vs H1 F1 ds r1 _ R1 A1 q1 => ?_
  split at q1
  · rename_i es' ee
    have hd := A1.all ee
    refine ⟨by rw [line_eq, hd.length]; exact q1.1, fun p hp => ?_⟩
    exact k _ _ _ _ r1 (R1.newF hp) (.dat (.tup (.inl ⟨.inr rfl, .inl upd_same⟩) (hd.mono (later_new R1 hp)))) q1.2
  · exact q1.elim
theorem Rep.freshOwn {C : Ctx} {r : Env} {σ : L2.St} {H : Hp} {F : AP} {p : Addr} {xs : List V} {ds : List D} (R : Rep C r σ H F) (hp : H p = none) (hd : DpFs C.K H F xs ds) :
    Rep C r σ (upd H p (.lst xs)) F ∧ Res C r σ (upd H p (.lst xs)) F (.ref p) (.own ds) ∧ Later H F (upd H p (.lst xs)) F := by
  refine ⟨R.new hp, .own upd_same (hd.mono (later_new0 R hp)) (fun z => R.ftrk p z hp) (fun z => (R.keep p z).2 hp) (fun z => ?_) (fun i es e o1 e1 => ?_), later_new0 R hp⟩
  · obtain ⟨⟨_, _, _, _, _, h1, _⟩, _, _⟩ := R.bag p z
    rw [hp] at h1; cases h1
  · obtain ⟨v, e2, sr⟩ := R.slot i _ e
    rw [e1] at e2; cases e2
    cases sr with
    | own h1 _ _ => rw [hp] at h1; cases h1
    | dct h1 _ => exact h1.ne.2 hp
    | nd _ _ => cases o1
    | rng _ => cases o1
    | dat _ => cases o1
    | bag _ => cases o1
theorem Rep.freshTup {C : Ctx} {r : Env} {σ : L2.St} {H : Hp} {F : AP} {p : Addr} {xs : List V} {ds : List D} (R : Rep C r σ H F) (hp : H p = none) (hd : DpFs C.K H F xs ds) :
    Rep C r σ (upd H p (.tup xs)) (fun a => F a ∨ a = p) ∧ Res C r σ (upd H p (.tup xs)) (fun a => F a ∨ a = p) (.ref p) (.dat (.tuple ds)) ∧ Later H F (upd H p (.tup xs)) (fun a => F a ∨ a = p) :=
  ⟨R.newF hp, .dat (.tup (.inl ⟨.inr rfl, .inl upd_same⟩) (hd.mono (later_new R hp))), later_new R hp⟩
theorem de_lst {t : AX} (p : DA X W es t) : DE X W (.List es pos) (xLst t) := by
  obtain ⟨u, pa, ent⟩ := p.ex
  refine ⟨⟨_, pe_lst pa, fun C r σ H F Q Xk QV hK R L hf k => ?_⟩⟩
  refine ent C r σ H F _ Xk _ hK R L hf fun vs H1 F1 ds r1 _ R1 A1 q1 => ?_
  split at q1
  · rename_i es' ee
    have hd := A1.all ee
    refine ⟨by rw [line_eq, hd.length]; exact q1.1, fun p hp => ?_⟩
    obtain ⟨R2, G2, _⟩ := R1.freshOwn hp hd
    exact k _ _ _ _ r1 R2 G2 q1.2
  · exact q1.elim
/-! ### built-ins -/
theorem doa_nil : DOA X W [] oNil := ⟨⟨_, pa_nil, fun C r σ H F Q Xk QV _ R _ hf k => k [] H F [] r R .nil hf⟩⟩
theorem GdAll.re {C : Ctx} {r : Env} {σ : L2.St} {H1 H : Hp} {F1 F : AP} (R1 : Rep C r σ H1 F1) (l0 : Later H1 F1 H F) : ∀ {vs : List V} {gs : List Get}, GdAll (C.up H1 F1 noT) σ H F vs gs → GdAll C σ H F vs gs
  | _, _, .nil => .nil
  | _, _, .cons h hs => .cons (h.down fun H' F' r' R l => R.reup R1 (l0.trans l)) (GdAll.re R1 l0 hs)
theorem doa_cons {o : OX} {t : OAX} (p : DO X W e o) (q : DOA X W es t) (hs : starEach (e :: es) X.env = (false, eval e X.env) :: starEach es X.env := by rfl) : DOA X W (e :: es) (oCons o t) := by
  obtain ⟨u, pe, ent⟩ := p.ex
  obtain ⟨w, pa, ena⟩ := q.ex
  refine ⟨⟨_, pa_cons pe pa hs, fun C r σ H F Q Xk QV hK R L hf k => ?_⟩⟩
  refine ent C r σ H F _ Xk _ hK R L hf fun v H1 F1 g r1 R1 G1 q1 => ?_
  refine ena (C.up H1 F1 noT) r1 σ H1 F1 _ Xk _ hK R1.up0 (L.up R1) q1 fun vs H2 F2 gs r2 R2' A2 q2 => ?_
  exact k _ H2 F2 _ r2 (R1.down R2') (.cons (G1.mono R2'.later) (A2.re R1 R2'.later)) q2
def SemN (K : PySem.W.Frag) (p : List V → Hp → VK → Prop) (o : OpN) : Prop := ∀ (C : Ctx) (r : Env) (σ : L2.St) (H : Hp) (F : AP) (xs : List V) (ds : List D) (Q : DV → Prop) (QV : VK), C.K = K → Rep C r σ H F → DpTs C.K H F xs ds → o ds Q →
  (∀ v H' F' dv, Rep C r σ H' F' → Later H F H' F' → Res C r σ H' F' v dv → Q dv → QV v H') → p xs H QV
theorem cb_ent {t : TA} {p : List V → Hp → VK → Prop} {o : OpN} {u : OAX} (hs : SemN X.K p o)
    (ea : ∀ (C : Ctx) (r : Env) (σ : L2.St) (H : Hp) (F : AP) (Q : List Get → Env → Prop) (Xk : XW) (QV : List V → Hp → Prop), C.K = X.K → Rep C r σ H F → Link X W Xk C σ → u Xk r Q →
      (∀ vs H' F' gs r', Rep C r' σ H' F' → GdAll C σ H' F' vs gs → Q gs r' → QV vs H') → t σ H QV) :
    ∀ (C : Ctx) (r : Env) (σ : L2.St) (H : Hp) (F : AP) (Q : DV → Env → Prop) (Xk : XW) (QV : VK), C.K = X.K → Rep C r σ H F → Link X W Xk C σ → xCB o u Xk r Q → (∀ v H' F' dv r', Rep C r' σ H' F' → Res C r' σ H' F' v dv → Q dv r' → QV v H') → tCB p t σ H QV := by
  intro C r σ H F Q Xk QV hK R L hf k
  refine ea C r σ H F _ Xk _ hK R L hf fun vs H1 F1 gs r1 R1 G1 q1 => ?_
  split at q1
  · rename_i ds ed
    exact hs C r1 σ H1 F1 vs ds _ QV hK R1 (gets_of R1 G1 ed) q1 fun v H' F' dv R' _ G' q' => k v H' F' dv r1 R' G' q'
  · exact q1.elim
theorem de_cb {x : Str} {p : Pos} {id : String} {q : List V → Hp → VK → Prop} {o : OpN} {u : OAX} (hc : CallR X (.builtin id) q) (hs : SemN X.K q o) (hm : X.mg x = none) (hv : bootBuiltins x = some (.builtin id)) (ha : DOA X W (e :: es) u)
    (hg : Gl X x := by rfl) (hn : x ≠ "__name__" := by decide) (hdb : (x == ("__debug__" : Str)) = false := by decide)
    (he : starEach (e :: es) X.env = (false, eval e X.env) :: starEach es X.env := by rfl) (hpl : (backTo pos (starEach es X.env)).any (·.1) = false := by rfl) : DE X W (.Call (.Name x p) (e :: es) [] pos) (xCB o u) := by
  obtain ⟨t, pa, ea⟩ := ha.ex
  exact ⟨⟨_, pe_callB hc hg hm hv pa hn hdb he hpl, cb_ent hs ea⟩⟩
theorem de_ct {x : Str} {p : Pos} {T : String} {q : List V → Hp → VK → Prop} {o : OpN} {u : OAX} (hc : CallR X (.type T) q) (hs : SemN X.K q o) (hm : X.mg x = none) (hv : bootBuiltins x = some (.type T)) (ha : DOA X W (e :: es) u)
    (hg : Gl X x := by rfl) (hn : x ≠ "__name__" := by decide) (hdb : (x == ("__debug__" : Str)) = false := by decide)
    (he : starEach (e :: es) X.env = (false, eval e X.env) :: starEach es X.env := by rfl) (hpl : (backTo pos (starEach es X.env)).any (·.1) = false := by rfl) : DE X W (.Call (.Name x p) (e :: es) [] pos) (xCB o u) := by
  obtain ⟨t, pa, ea⟩ := ha.ex
  exact ⟨⟨_, pe_callTy hc hg hm hv pa hn hdb he hpl, cb_ent hs ea⟩⟩
/-! ### statements -/
end
/-- a frame's end: what a caller finds -/
inductive RetR (C : Ctx) (H : Hp) (F : AP) : V → DV → Prop
  | dat {v : V} {d : D} : DpF C.K H F v d → RetR C H F v (.dat d)
  | own {a : Addr} {xs : List V} {ds : List D} : H a = some (.lst xs) → DpFs C.K H F xs ds → ¬ F a → ¬ C.Z a → C.b ≠ some a → RetR C H F (.ref a) (.own ds)
  | dct {a : Addr} {t : Bool} {kvs : List (D × D)} : DctR C.K C.w H F a t kvs → ¬ F a → ¬ C.Z a → C.b ≠ some a → RetR C H F (.ref a) (.dct t kvs)
  | nd {v : V} {ds : List D} : DpF C.K H F v (.tuple ds) → NdR H F v → RetR C H F v (.nd ds)
  | rng {v : V} {n : Int} : RngR H F v n → RetR C H F v (.rng n)
  | bag {a : Addr} : C.b = some a → RetR C H F (.ref a) .bag
structure Fin (C : Ctx) (H : Hp) (F : AP) : Prop where
  keep : ∀ a, C.Z a → H a = C.HZ a ∧ H a ≠ none
  fsub : ∀ a, C.F0 a → F a
  fnew : ∀ a, F a → C.F0 a ∨ ¬ C.Z a
  ftrk : ∀ a, F a → H a ≠ none
  bag : ∀ b, C.b = some b → BagOk C.K H F b ∧ ¬ F b ∧ ¬ C.Z b
  tb : TBk C.K C.Z F H
theorem Rep.fin {C : Ctx} {r : Env} {σ : L2.St} {H : Hp} {F : AP} (R : Rep C r σ H F) : Fin C H F := ⟨R.keep, R.fsub, R.fnew, R.ftrk, R.bag, R.tb⟩
theorem Res.ret {C : Ctx} {r : Env} {σ : L2.St} {H : Hp} {F : AP} {v : V} {dv : DV} (q : Res C r σ H F v dv) : RetR C H F v dv := by
  cases q with
  | dat s => exact .dat s
  | own h1 h2 h3 h4 h5 _ => exact .own h1 h2 h3 h4 h5
  | dct h1 h3 h4 h5 _ => exact .dct h1 h3 h4 h5
  | nd h n => exact .nd h n
  | rng n => exact .rng n
  | bag s => exact .bag s
theorem Fin.down {C : Ctx} {r : Env} {σ : L2.St} {H1 H : Hp} {F1 F T : AP} (R : Rep C r σ H1 F1) (q : Fin (C.up H1 F1 T) H F) : Fin C H F where
  keep := fun a z => by
    obtain ⟨e, n⟩ := q.keep a (.inl z)
    exact ⟨e.trans (R.keep a z).1, n⟩
  fsub := fun a z => q.fsub a (R.fsub a z)
  fnew := fun a z => by
    rcases q.fnew a z with z | z
    · exact R.fnew a z
    · exact .inr fun w => z (.inl w)
  ftrk := q.ftrk
  bag := fun b e => by
    obtain ⟨k, nf, nz⟩ := q.bag b e
    exact ⟨k, nf, fun z => nz (.inl z)⟩
  tb := q.tb.imp (fun a z => q.tb.z a (.inl z)) q.tb.f
theorem RetR.down {C : Ctx} {H1 H : Hp} {F1 F T : AP} {v : V} {dv : DV} (q : RetR (C.up H1 F1 T) H F v dv) : RetR C H F v dv := by
  cases q with
  | dat s => exact .dat s
  | own h1 h2 h3 h4 h5 => exact .own h1 h2 h3 (fun z => h4 (.inl z)) h5
  | dct h1 h3 h4 h5 => exact .dct h1 h3 (fun z => h4 (.inl z)) h5
  | nd h n => exact .nd h n
  | rng n => exact .rng n
  | bag s => exact .bag s
/-- what a target stores into -/
def Wr (ws : List Nat) (σ σ' : L2.St) : Prop := σ'.length = σ.length ∧ ∀ i, i ∉ ws → σ'[i]? = σ[i]?
/-- the data's ends behind the text's ends -/
structure EndsR (X : Cx) (W : WX) (C : Ctx) (D' : L2.Ends) (E : Ends) : Prop where
  nx : ∀ σ' H' F' r', Rep C r' σ' H' F' → E.nx r' → D'.nx σ' H'
  rt : ∀ v H' F' dv, Fin C H' F' → RetR C H' F' v dv → E.rt dv → D'.rt v H'
  bk : ∀ σ' H' F' r', Rep C r' σ' H' F' → E.bk r' → D'.bk σ' H'
  ct : ∀ σ' H' F' r', Rep C r' σ' H' F' → E.ct r' → D'.ct σ' H'
  ex : ∀ σ', Link X W E.ex C σ'
theorem EndsR.up {X : Cx} {W : WX} {C : Ctx} {D' : L2.Ends} {E : Ends} {r : Env} {σ : L2.St} {H : Hp} {F T : AP} (q : EndsR X W C D' E) (R : Rep C r σ H F) : EndsR X W (C.up H F T) D' E where
  nx := fun σ' H' F' r' R' => q.nx σ' H' F' r' (R.down R')
  rt := fun v H' F' dv k s => q.rt v H' F' dv (k.down R) s.down
  bk := fun σ' H' F' r' R' => q.bk σ' H' F' r' (R.down R')
  ct := fun σ' H' F' r' R' => q.ct σ' H' F' r' (R.down R')
  ex := fun σ' => (q.ex σ').up R
section
variable (X : Cx) (W : WX)
structure DS (st : Stmt) (f : TS) : Prop where
  ex : ∃ t, PS X st t ∧ ∀ (C : Ctx) (r : Env) (σ : L2.St) (H : Hp) (F : AP) (E : Ends) (D' : L2.Ends), C.K = X.K → Rep C r σ H F → EndsR X W C D' E → f E r → t D' σ H
structure DSs (st : List Stmt) (f : TS) : Prop where
  ex : ∃ t, PSs X st t ∧ ∀ (C : Ctx) (r : Env) (σ : L2.St) (H : Hp) (F : AP) (E : Ends) (D' : L2.Ends), C.K = X.K → Rep C r σ H F → EndsR X W C D' E → f E r → t D' σ H
structure DG (e : Expr) (ws : List Nat) (g : TG) : Prop where
  ex : ∃ t, PG X e t ∧ ∀ (C : Ctx) (r : Env) (σ : L2.St) (H : Hp) (F : AP) (v : V) (dv : DV) (Q : Env → Prop) (QV : L2.St → Hp → Prop), C.K = X.K → Rep C r σ H F → Res C r σ H F v dv → g dv r Q →
    (∀ σ' r', Rep C r' σ' H F → Wr ws σ σ' → Q r' → QV σ' H) → t v σ H QV
structure DGs (es : List Expr) (ws : List Nat) (gs : List TG) : Prop where
  ex : ∃ t, PGs X es t ∧ ∀ (C : Ctx) (r : Env) (σ : L2.St) (H : Hp) (F : AP) (vs : List V) (ds : List D) (Q : Env → Prop) (QV : L2.St → Hp → Prop), C.K = X.K → Rep C r σ H F → DpFs C.K H F vs ds → gsAll gs ds r Q →
    (∀ σ' r', Rep C r' σ' H F → Wr ws σ σ' → Q r' → QV σ' H) → t vs σ H QV
end
section
variable {X : Cx} {W : WX} {e a b c : Expr} {es : List Expr} {f h : TX} {pos : Pos} {st : Stmt} {rest : List Stmt} {p q : TS}
theorem dss_nil : DSs X W [] sNext := ⟨⟨_, pss_nil, fun C r σ H F E D' _ R k hf => k.nx σ H F r R hf⟩⟩
theorem dss_one (s : DS X W st p) : DSs X W [st] p := by
  obtain ⟨t, ps, ent⟩ := s.ex
  exact ⟨⟨t, pss_one ps, ent⟩⟩
theorem dss_cons (s : DS X W st p) (ss : DSs X W rest q) : DSs X W (st :: rest) (sSeq p q) := by
  obtain ⟨t, ps, ent⟩ := s.ex
  obtain ⟨u, pss, enu⟩ := ss.ex
  refine ⟨⟨_, pss_cons ps pss, fun C r σ H F E D' hK R k hf => ?_⟩⟩
  exact ent C r σ H F { E with nx := q E } { D' with nx := u D' } hK R ⟨fun σ' H' F' r' R' q' => enu C r' σ' H' F' E D' hK R' k q', k.rt, k.bk, k.ct, k.ex⟩ hf
theorem ds_pass : DS X W (.Pass pos) sNext := ⟨⟨_, ps_pass, fun C r σ H F E D' _ R k hf => k.nx σ H F r R hf⟩⟩
theorem ds_brk : DS X W (.Break pos) sBrk := ⟨⟨_, ps_break, fun C r σ H F E D' _ R k hf => k.bk σ H F r R hf⟩⟩
theorem ds_cnt : DS X W (.Continue pos) sCnt := ⟨⟨_, ps_continue, fun C r σ H F E D' _ R k hf => k.ct σ H F r R hf⟩⟩
theorem ds_drop (s : DE X W e f) (hs : swapsWith e none pos.line X.env = pure false := by rfl) : DS X W (.Expr e pos) (sDrop f) := by
  obtain ⟨t, pe, ent⟩ := s.ex
  refine ⟨⟨_, ps_expr pe hs, fun C r σ H F E D' hK R k hf => ?_⟩⟩
  exact ent C r σ H F _ E.ex _ hK R (k.ex σ) hf fun v H1 F1 dv r1 R1 _ q1 => k.nx σ H1 F1 r1 R1 q1
theorem ds_ret (s : DE X W e f) : DS X W (.Return (some e) pos) (sRet f) := by
  obtain ⟨t, pe, ent⟩ := s.ex
  refine ⟨⟨_, ps_ret pe, fun C r σ H F E D' hK R k hf => ?_⟩⟩
  exact ent C r σ H F _ E.ex _ hK R (k.ex σ) hf fun v H1 F1 dv r1 R1 G1 q1 => k.rt v H1 F1 dv R1.fin G1.ret q1
theorem ds_retN : DS X W (.Return none pos) sRetN := ⟨⟨_, ps_retN, fun C r σ H F E D' _ R k hf => k.rt .non H F _ R.fin (.dat .non) hf⟩⟩
theorem ds_if {t : TB} {as bs : List Stmt} (hc : DT X W c t) (ha : DSs X W as p) (hb : DSs X W bs q) : DS X W (.If c as bs pos) (sIf t p q) := by
  obtain ⟨u, pc, enc⟩ := hc.ex
  obtain ⟨ua, pa, ena⟩ := ha.ex
  obtain ⟨ub, pb, enb⟩ := hb.ex
  refine ⟨⟨_, ps_if pc pa pb, fun C r σ H F E D' hK R k hf => ?_⟩⟩
  refine enc C r σ H F _ E.ex _ hK R (k.ex σ) hf fun v H1 F1 r1 R1 q1 => ?_
  cases v with
  | true => exact ena C r1 σ H1 F1 E D' hK R1 k q1
  | false => exact enb C r1 σ H1 F1 E D' hK R1 k q1
theorem ds_never : DS X W st (fun _ _ => False) := ⟨⟨_, ps_never, fun _ _ _ _ _ _ _ _ _ _ hf => hf⟩⟩
/-! ### targets -/
theorem dg_name {i : Nat} (p : PG X e (gName i)) : DG X e [i] (gN i) :=
  ⟨⟨_, p, fun C r σ H F v dv Q QV _ R G hf k => k _ _ (R.store G) ⟨by rw [List.length_set], fun j hj => List.getElem?_set_ne fun z => hj (by simp [z])⟩ hf⟩⟩
theorem dgs_nil : DGs X [] [] [] := ⟨⟨_, pgs_nil, fun C r σ H F vs ds Q QV _ R G hf k => by
  obtain ⟨rfl, hf⟩ := hf
  cases G
  exact ⟨rfl, k σ r R ⟨rfl, fun _ _ => rfl⟩ hf⟩⟩⟩
theorem dgs_cons {g : TG} {gs : List TG} {ws us : List Nat} (s : DG X e ws g) (ss : DGs X es us gs) (hs : (assignEach (e :: es) X.env).map (·.2) = assign e X.env :: (assignEach es X.env).map (·.2) := by rfl) : DGs X (e :: es) (ws ++ us) (g :: gs) := by
  obtain ⟨t, pg, ent⟩ := s.ex
  obtain ⟨u, pgs, enu⟩ := ss.ex
  refine ⟨⟨_, pgs_cons pg pgs hs, fun C r σ H F vs ds Q QV hK R G hf k => ?_⟩⟩
  cases G with
  | nil => exact hf.elim
  | cons g1 g2 =>
    refine ⟨_, _, rfl, ent C r σ H F _ _ _ _ hK R (.dat g1) hf fun σ1 r1 R1 w1 q1 => ?_⟩
    exact enu C r1 σ1 H F _ _ _ QV hK R1 g2 q1 fun σ2 r2 R2 w2 q2 => k σ2 r2 R2 ⟨w2.1.trans w1.1, fun i hi => (w2.2 i fun z => hi (List.mem_append_right _ z)).trans (w1.2 i fun z => hi (List.mem_append_left _ z))⟩ q2
theorem dg_tup {gs : List TG} {ws : List Nat} {k : Nat} (hc : X.calm = true) (ss : DGs X es ws gs) (hn : (assignEach es X.env).length = gs.length := by rfl) (hst : (assignEach es X.env).findIdx? (·.1) = none := by rfl) : DG X (.Tuple es k pos) ws (gT gs) := by
  obtain ⟨u, pgs, enu⟩ := ss.ex
  refine ⟨⟨_, pg_tup hc pgs hn hst, fun C r σ H F v dv Q QV hK R G hf k => ?_⟩⟩
  cases G with
  | dat s =>
    cases s with
    | tup h1 h2 =>
      refine ⟨_, _, rfl, ?_, ?_, enu C r σ H F _ _ Q QV hK R h2 hf.2 k⟩
      · rw [← hK]; exact h1.elim (fun p => .inl p.2) fun p => p.sq H
      · rw [h2.length]; exact hf.1
    | non => exact hf.elim
    | bl => exact hf.elim
    | int => exact hf.elim
    | str => exact hf.elim
    | lst => exact hf.elim
    | dct => exact hf.elim
  | own => exact hf.elim
  | dct => exact hf.elim
  | nd => exact hf.elim
  | rng => exact hf.elim
  | bag => exact hf.elim
theorem ds_set {i : Nat} (s : DE X W e f) (mk : ∀ {te : L2.TE}, PE X e te → PS X st (tAsg te (gName i))) : DS X W st (sAsg (gN i) f) := by
  obtain ⟨t, pe, ent⟩ := s.ex
  refine ⟨⟨_, mk pe, fun C r σ H F E D' hK R k hf => ?_⟩⟩
  exact ent C r σ H F _ E.ex _ hK R (k.ex σ) hf fun v H1 F1 dv r1 R1 G1 q1 => k.nx _ H1 F1 _ (R1.store G1) q1
theorem ds_asg {tg : Expr} {g : TG} {ws : List Nat} (s : DE X W e f) (sg : DG X tg ws g) (hs : swapsWithSole [tg] e pos.line X.env = pure false := by rfl) (hw : swappedStores [tg] e X.env = pure none := by rfl)
    (h1 : (assignEach [tg] X.env).map (·.2) = [assign tg X.env] := by rfl) : DS X W (.Assign [tg] e pos) (sAsg g f) := by
  obtain ⟨t, pe, ent⟩ := s.ex
  obtain ⟨u, pg, eng⟩ := sg.ex
  refine ⟨⟨_, ps_asg pe pg hs hw h1, fun C r σ H F E D' hK R k hf => ?_⟩⟩
  refine ent C r σ H F _ E.ex _ hK R (k.ex σ) hf fun v H1 F1 dv r1 R1 G1 q1 => ?_
  exact eng C r1 σ H1 F1 v dv _ _ hK R1 G1 q1 fun σ' r' R' _ q' => k.nx σ' H1 F1 r' R' q'
theorem ds_aug {i : Nat} {op : Operator} {pr : R2} {o : Op2} {ob : OX} (hb : DO X W e ob) (hs : Sem2 X.K pr o) (mk : ∀ {te : L2.TE}, PE X e te → PS X st (tAug i te pr)) : DS X W st (sAug i o ob) := by
  obtain ⟨t, pe, ent⟩ := hb.ex
  refine ⟨⟨_, mk pe, fun C r σ H F E D' hK R k hf => ?_⟩⟩
  unfold sAug at hf
  split at hf
  · rename_i x ex
    obtain ⟨v, e1, sr⟩ := R.slot i _ ex
    refine ⟨v, e1, ?_⟩
    cases sr with
    | dat s =>
      refine ent (C.up H F noT) r σ H F _ E.ex _ hK R.up0 ((k.ex σ).up R) hf fun u H1 F1 g r1 R1' G1 q1 => ?_
      have R1 := R.down R1'
      split at q1
      · rename_i y ey
        exact hs C r1 σ H1 F1 v u x y _ _ hK R1 (.inl (s.mono R1'.later)) (G1 _ _ _ _ R1' Later.refl ey) q1 fun z H2 F2 dz R2 _ G2 q2 => k.nx _ H2 F2 _ (R2.store G2) q2
      · exact q1.elim
  · exact hf.elim
end
end DL

/-! DL, part 5: loops, comprehensions, lists that grow. -/
namespace DL
open PySem PySem.Spec L2
/-- an iterator that gives the data ds, whatever grows meanwhile -/
structure WalkD (K : PySem.W.Frag) (J : It) (ds : List D) (H : Hp) (F : AP) : Prop where
  goes : ∀ i H' F', i < ds.length → Later H F H' F' → J.go i H'
  stops : ∀ H' F', Later H F H' F' → J.stop ds.length H'
  yields : ∀ i H' F' x H2, i < ds.length → (∀ a, F' a → H' a ≠ none) → Later H F H' F' → J.yld i H' x H2 → ∃ F2 d, ds[i]? = some d ∧ DpF K H2 F2 x d ∧ Later H' F' H2 F2 ∧
    (∀ a o, H' a = some o → H2 a = some o) ∧ ∀ a, F2 a → F' a ∨ (H' a = none ∧ H2 a ≠ none ∧ NT H2 a)
section
variable {K : PySem.W.Frag} {H : Hp} {F : AP}
theorem walkD_of {J : It} {ds : List D} {xs : List V} (hx : DpFs K H F xs ds) (w : ∀ H' F', Later H F H' F' → Walk J ds.length (fun Hx => Hx = H') (YAt xs)) : WalkD K J ds H F where
  goes := fun i H' F' hi l => (w H' F' l).goes i H' hi rfl
  stops := fun H' F' l => (w H' F' l).stops H' rfl
  yields := fun i H' F' x H2 hi _ l y => by
    obtain ⟨rfl, e⟩ := (w H' F' l).yields i H' x H2 hi rfl y
    obtain ⟨d, e1, q⟩ := hx.getV e
    exact ⟨F', d, e1, q.mono l, Later.refl, fun _ _ z => z, fun _ z => .inl z⟩
theorem walkD_list {a : Addr} {xs : List V} {ds : List D} (h : F a ∧ H a = some (.lst xs)) (hx : DpFs K H F xs ds) : WalkD K (Itl K a) ds H F :=
  walkD_of hx fun H' F' l => by
    rw [← hx.length]
    exact walk_list.mono (fun Hx e => by subst e; exact .inl (.inl ((l a h.1).2.trans h.2))) fun _ _ _ _ _ _ y => y
theorem walkD_tup {a : Addr} {xs : List V} {ds : List D} (h : (F a ∧ Rd H a (.tup xs)) ∨ KT K a xs) (hx : DpFs K H F xs ds) : WalkD K (Itt K a) ds H F :=
  walkD_of hx fun H' F' l => by
    rw [← hx.length]
    refine walk_tup.mono (fun Hx e => ?_) fun _ _ _ _ _ _ y => y
    subst e
    rcases h with h | h
    · exact .inl (rd_later (l a h.1).2 h.2)
    · exact h.sq _
theorem walkD_str {z : Str} : WalkD K (Its z) (z.cps.toList.map fun c => .str ⟨#[c]⟩) H F where
  goes := fun i H' F' hi _ => by
    rw [List.length_map, Array.length_toList] at hi
    exact hi
  stops := fun H' F' _ => by
    rw [List.length_map, Array.length_toList]
    exact Nat.le_refl _
  yields := fun i H' F' x H2 hi _ l y => by
    obtain ⟨rfl, c, e, rfl⟩ := y
    exact ⟨F', _, by rw [List.getElem?_map, Array.getElem?_toList, e]; rfl, .str _, Later.refl, fun _ _ z => z, fun _ z => .inl z⟩
theorem walkD_range {lo : Int} {n : Nat} : WalkD K (Itr lo n) ((List.range n).map fun k => .int (lo + (k : Nat))) H F where
  goes := fun i H' F' hi _ => by
    rw [List.length_map, List.length_range] at hi
    exact hi
  stops := fun H' F' _ => by
    rw [List.length_map, List.length_range]
    exact Nat.le_refl _
  yields := fun i H' F' x H2 hi _ l y => by
    obtain ⟨rfl, rfl⟩ := y
    rw [List.length_map, List.length_range] at hi
    exact ⟨F', _, by rw [List.getElem?_map, List.getElem?_range hi]; rfl, .int _, Later.refl, fun _ _ z => z, fun _ z => .inl z⟩
end
section
variable (X : Cx) (W : WX)
structure DSrc (tg iter : Expr) (s : SX) : Prop where
  ex : ∃ wi, PI X tg iter wi ∧ ∀ (C : Ctx) (r : Env) (σ : L2.St) (H : Hp) (F : AP) (Q : List D → Env → Prop) (Xk : XW) (RV : It → Hp → Prop), C.K = X.K → Rep C r σ H F → Link X W Xk C σ → s Xk r Q →
    (∀ J H' F' ds r', Rep C r' σ H' F' → WalkD C.K J ds H' F' → Q ds r' → RV J H') → wi σ H RV
end
section
variable {X : Cx} {W : WX} {tg e a b c : Expr} {es : List Expr} {f h : TX} {pos : Pos} {st : Stmt} {rest : List Stmt} {p q : TS}
/-- what a list, a tuple, a text is walked by -/
def iAny (K : PySem.W.Frag) (tl : L2.TE) : TI := fun σ H R => tl σ H fun x H1 =>
  (∃ a xs, x = .ref a ∧ SqL K H1 a xs ∧ R (Itl K a) H1) ∨ (∃ a xs, x = .ref a ∧ SqT K H1 a xs ∧ R (Itt K a) H1) ∨ ∃ z, x = .str z ∧ R (Its z) H1
theorem pi_any {l : Expr} {tl : L2.TE} (hl : PE X l tl) : PI X tg l (iAny X.K tl) := by
  constructor
  intro pins s σ H R I h
  refine thn (hl.run pins s σ H _ I h) ?_
  rintro v s1 ⟨x, H1, I1, r1, q1⟩
  rcases q1 with ⟨a, xs, rfl, hq, q⟩ | ⟨a, xs, rfl, hq, q⟩ | ⟨z, rfl, q⟩
  · cases r1
    obtain ⟨its, rv, pl, hz⟩ := I1.list hq
    exact wpAny_pyIter_list pl.isList (pi_one (tk := s1.toks) I1 _ (turn_list a _) ⟨_, Heap.get?_push_size _ rfl, rfl, rfl⟩ q)
  · cases r1
    obtain ⟨its, rv, pl, hz⟩ := I1.tuple hq
    exact wpAny_pyIter_tuple (show s1.heap.IsTuple a its.toArray from pl) (pi_one (tk := s1.toks) I1 _ (turn_tuple a _) ⟨_, Heap.get?_push_size _ rfl, rfl, rfl⟩ q)
  · obtain ⟨t, rfl⟩ := r1
    cases hw : z.cps.all (· < 128)
    · exact wpAny_pyIter_wide hw (pi_one (tk := s1.toks) I1 _ (turn_str _ z t "str_iterator" (.inr rfl)) ⟨_, Heap.get?_push_size _ rfl, rfl, rfl⟩ q)
    · exact wpAny_pyIter_ascii hw (pi_one (tk := s1.toks) I1 _ (turn_str _ z t "str_ascii_iterator" (.inl rfl)) ⟨_, Heap.get?_push_size _ rfl, rfl, rfl⟩ q)
theorem src_x (d : DE X W e f) : DSrc X W tg e (wX f) := by
  obtain ⟨t, pe, ent⟩ := d.ex
  refine ⟨⟨_, pi_any pe, fun C r σ H F Q Xk RV hK R L hf k => ?_⟩⟩
  refine ent C r σ H F _ Xk _ hK R L hf fun v H1 F1 dv r1 R1 G1 q1 => ?_
  cases ed : dv.toD with
  | none => rw [ed] at q1; exact q1.elim
  | some d =>
    rw [ed] at q1
    obtain ⟨F2, R2, s2, _⟩ := G1.froz R1 ed
    cases s2 with
    | lst h1 h2 => exact .inl ⟨_, _, rfl, .inl (.inl h1.2), by rw [← hK]; exact k _ _ F2 _ r1 R2 (walkD_list h1 h2) q1⟩
    | tup h1 h2 => exact .inr (.inl ⟨_, _, rfl, by rw [← hK]; exact h1.elim (fun p => .inl p.2) fun p => p.sq _, by rw [← hK]; exact k _ _ F2 _ r1 R2 (walkD_tup h1 h2) q1⟩)
    | str z => exact .inr (.inr ⟨_, rfl, k _ _ F2 _ r1 R2 walkD_str q1⟩)
    | non => exact q1.elim
    | bl => exact q1.elim
    | int => exact q1.elim
    | dct => exact q1.elim
theorem src_range1 {oa : OX} (mk : ∀ {ta : TA}, PA X [a] ta → PI X tg e (iRng1 ta)) (ha : DO X W a oa) (hs : starEach (a :: []) X.env = (false, eval a X.env) :: starEach [] X.env := by rfl) : DSrc X W tg e (wRange1 oa) := by
  obtain ⟨t, pa, ent⟩ := ha.ex
  refine ⟨⟨_, mk (pa_cons pa pa_nil hs), fun C r σ H F Q Xk RV hK R L hf k => ?_⟩⟩
  refine ent C r σ H F _ Xk _ hK R L hf fun v H1 F1 g r1 R1 G1 q1 => ?_
  split at q1
  · rename_i n eg
    have h1 := G1 _ _ _ _ R1 Later.refl eg
    cases h1.int
    refine ⟨n, rfl, q1.1.1, q1.1.2, ?_⟩
    have e0 : n.toNat = (n - 0).toNat := by rw [Int.sub_zero]
    rw [e0]
    exact k _ _ F1 _ r1 R1 walkD_range q1.2
  · exact q1.elim
theorem src_range2 {oa ob : OX} (mk : ∀ {ta : TA}, PA X [a, b] ta → PI X tg e (iRng2 ta)) (ha : DO X W a oa) (hb : DO X W b ob) (hs : starEach (a :: [b]) X.env = (false, eval a X.env) :: starEach [b] X.env := by rfl)
    (hs' : starEach (b :: []) X.env = (false, eval b X.env) :: starEach [] X.env := by rfl) : DSrc X W tg e (wRange2 oa ob) := by
  obtain ⟨t, pa, enta⟩ := ha.ex
  obtain ⟨u, pb, entb⟩ := hb.ex
  refine ⟨⟨_, mk (pa_cons pa (pa_cons pb pa_nil hs') hs), fun C r σ H F Q Xk RV hK R L hf k => ?_⟩⟩
  refine enta C r σ H F _ Xk _ hK R L hf fun v H1 F1 g r1 R1 G1 q1 => ?_
  refine entb (C.up H1 F1 noT) r1 σ H1 F1 _ Xk _ hK R1.up0 (L.up R1) q1 fun w H2 F2 g2 r2 R2' G2 q2 => ?_
  have R2 := R1.down R2'
  split at q2
  · rename_i n m en em
    have h1 := G1 _ _ _ _ R2 R2'.later en
    have h2 := G2 _ _ _ _ R2' Later.refl em
    cases h1.int
    cases h2.int
    exact ⟨n, m, rfl, q2.1, k _ _ F2 _ r2 R2 walkD_range q2.2⟩
  · exact q2.elim
/-! ### for -/
theorem ds_for {s : SX} {g : TG} {ws : List Nat} {body : List Stmt} {q : TS} (hp : PassesOwn (model X.prog X.w) X.A X.env X.xe) (hc : X.calm = true) (hi : DSrc X W tg e s) (hg : DG X tg ws g) (hb : DSs X W body q)
    (hs : ∀ x, foldedSetIterable e X.env x = pure x := by intro _; rfl) : DS X W (.For tg e body [] pos) (sFor s g q) := by
  obtain ⟨wi, pi, enti⟩ := hi.ex
  obtain ⟨tg', pg, entg⟩ := hg.ex
  obtain ⟨tb, pb, entb⟩ := hb.ex
  refine ⟨⟨_, ps_for hp hc pi pg pb hs, fun C r σ H F E D' hK R k hf => ?_⟩⟩
  refine enti C r σ H F _ E.ex _ hK R (k.ex σ) hf fun J H1 F1 ds r1 R1 w q1 => ?_
  -- the invariant: what is left of ds is still to be gone through
  refine ⟨fun i m σ2 H2 => m = ds.length - i ∧ i ≤ ds.length ∧ ∃ r2 F2, Rep C r2 σ2 H2 F2 ∧ Later H1 F1 H2 F2 ∧ forL g q E (ds.drop i) r2, ⟨_, rfl, Nat.zero_le _, r1, F1, R1, Later.refl, q1⟩, ?_⟩
  rintro i m σ2 H2 ⟨rfl, hi, r2, F2, R2, l2, q2⟩
  by_cases hlt : i < ds.length
  · refine .inr ⟨w.goes i H2 F2 hlt l2, fun σ3 H3 => ∃ r3 F3, Rep C r3 σ3 H3 F3 ∧ Later H1 F1 H3 F3 ∧ forL g q E (ds.drop (i + 1)) r3, fun σ3 H3 ⟨r3, F3, R3, l3, q3⟩ => ⟨ds.length - (i + 1), by omega, rfl, hlt, r3, F3, R3, l3, q3⟩, fun x H3 y => ?_⟩
    obtain ⟨F3, d, ed, hd, l3, s3, n3⟩ := w.yields i H2 F2 x H3 hlt R2.ftrk l2 y
    have R3 := R2.grow l3 s3 n3
    have ei : ds.drop i = d :: ds.drop (i + 1) := by
      rw [List.drop_eq_getElem_cons hlt]
      have := List.getElem?_eq_getElem hlt
      rw [ed] at this
      cases this
      rfl
    rw [ei] at q2
    refine entg C r2 σ2 H3 F3 x (.dat d) _ _ hK R3 (.dat hd) q2 fun σ4 r4 R4 _ q4 => ?_
    have l13 := l2.trans l3
    refine entb (C.up H3 F3 noT) r4 σ4 H3 F3 { E with nx := forL g q E (ds.drop (i + 1)), ct := forL g q E (ds.drop (i + 1)), bk := E.nx } _ hK R4.up0 ?_ q4
    exact ⟨fun σ5 H5 F5 r5 R5 q5 => ⟨r5, F5, R4.down R5, l13.trans R5.later, q5⟩, fun v H5 F5 dv fi rr qq => k.rt v H5 F5 dv (fi.down R4) rr.down qq,
      fun σ5 H5 F5 r5 R5 q5 => k.nx σ5 H5 F5 r5 (R4.down R5) q5, fun σ5 H5 F5 r5 R5 q5 => ⟨r5, F5, R4.down R5, l13.trans R5.later, q5⟩, fun σ5 => (k.ex σ5).up R4⟩
  · have ei : ds.length = i := by omega
    subst ei
    rw [List.drop_length] at q2
    exact .inl ⟨w.stops H2 F2 l2, k.nx σ2 H2 F2 r2 R2 q2⟩
theorem ds_while {t : TB} {body : List Stmt} {q : TS} (hp : PassesOwn (model X.prog X.w) X.A X.env X.xe) (hc : DT X W c t) (hb : DSs X W body q) : DS X W (.While c body [] pos) (sWhile t q) := by
  obtain ⟨tc, pc, entc⟩ := hc.ex
  obtain ⟨tb, pb, entb⟩ := hb.ex
  refine ⟨⟨_, ps_while hp pc pb, fun C r σ H F E D' hK R k hf => ?_⟩⟩
  obtain ⟨Wh, ⟨m0, w0⟩, turn⟩ := hf
  refine ⟨fun m σ2 H2 => ∃ r2 F2, Rep C r2 σ2 H2 F2 ∧ Wh m r2, ⟨m0, r, F, R, w0⟩, ?_⟩
  rintro m σ2 H2 ⟨r2, F2, R2, w2⟩
  refine entc C r2 σ2 H2 F2 _ E.ex _ hK R2 (k.ex σ2) (turn m r2 w2) fun v H3 F3 r3 R3 q3 => ?_
  cases v with
  | true =>
    refine ⟨fun σ4 H4 => ∃ r4 F4, Rep C r4 σ4 H4 F4 ∧ ∃ m', m' < m ∧ Wh m' r4, fun σ4 H4 ⟨r4, F4, R4, m', hm, w4⟩ => ⟨m', hm, r4, F4, R4, w4⟩, ?_⟩
    exact entb C r3 σ2 H3 F3 { E with nx := fun r' => ∃ m', m' < m ∧ Wh m' r', ct := fun r' => ∃ m', m' < m ∧ Wh m' r', bk := E.nx } _ hK R3 ⟨fun σ5 H5 F5 r5 R5 q5 => ⟨r5, F5, R5, q5⟩, k.rt, fun σ5 H5 F5 r5 R5 q5 => k.nx σ5 H5 F5 r5 R5 q5, fun σ5 H5 F5 r5 R5 q5 => ⟨r5, F5, R5, q5⟩, k.ex⟩ q3
  | false => exact k.nx σ2 H3 F3 r3 R3 q3
/-! ### the list in a slot grows -/
theorem Rep.lstUpd {C : Ctx} {r : Env} {σ : L2.St} {H : Hp} {F : AP} {i : Nat} {ds es : List D} {a : Addr} {ys : List V} (R : Rep C r σ H F) (e : sl r i = some (.own ds)) (e1 : σ[i]? = some (some (.ref a))) (hd : DpFs C.K H F ys es) :
    Rep C (put r i (.own es)) σ (upd H a (.lst ys)) F ∧ Later H F (upd H a (.lst ys)) F := by
  obtain ⟨nz, nb⟩ := R.ownz i _ a e rfl e1
  obtain ⟨v, e2, sr⟩ := R.slot i _ e
  rw [e1] at e2; cases e2
  cases sr with
  | own h1 h2 nf =>
    have l : Later H F (upd H a (.lst ys)) F := fun x z => ⟨z, upd_ne fun q => nf (q ▸ z)⟩
    refine ⟨⟨by rw [len_putO]; exact R.len, fun j dv ej => ?_, fun j k dj dk x ej ek oj ok sj sk => ?_, fun x z => ?_, R.fsub, R.fnew, R.fz, fun x z => ?_, fun j dj x ej oj sj => ?_, fun x ex => ?_, R.tb.upd (free_lst h1) fun _ z => (by cases z)⟩, l⟩
    · rcases sl_put_some ej with ⟨rfl, rfl⟩ | ⟨ne, ej'⟩
      · exact ⟨_, e1, .own upd_same (hd.mono l) nf⟩
      · obtain ⟨v, ev, sr⟩ := R.slot j dv ej'
        refine ⟨v, ev, ?_⟩
        cases sr with
        | dat s => exact .dat (s.mono l)
        | own g1 g2 g3 => exact .own ((upd_ne fun q => ne (R.dist j i _ _ _ ej' e rfl rfl (q ▸ ev) e1)).trans g1) (g2.mono l) g3
        | dct g1 g3 => exact .dct (g1.mono l (upd_ne fun q => ne (R.dist j i _ _ _ ej' e rfl rfl (q ▸ ev) e1))) g3
        | nd s n => exact .nd (s.mono l) (n.mono l)
        | rng n => exact .rng (n.mono l)
        | bag s => exact .bag s
    · have aux : ∀ {j dj}, sl (put r i (.own es)) j = some dj → dj.hold = true → ∃ d', sl r j = some d' ∧ d'.hold = true := fun {j dj} ej oj => by
        rcases sl_put_some ej with ⟨rfl, _⟩ | ⟨_, ej'⟩
        · exact ⟨_, e, rfl⟩
        · exact ⟨_, ej', oj⟩
      obtain ⟨d1, e3, o3⟩ := aux ej oj
      obtain ⟨d2, e4, o4⟩ := aux ek ok
      exact R.dist j k d1 d2 x e3 e4 o3 o4 sj sk
    · obtain ⟨q, n⟩ := R.keep x z
      have hx : x ≠ a := fun w => nz (w ▸ z)
      rw [upd_ne hx]
      exact ⟨q, n⟩
    · rw [(l x z).2]; exact R.ftrk x z
    · rcases sl_put_some ej with ⟨rfl, _⟩ | ⟨_, ej'⟩
      · exact R.ownz j _ x e rfl sj
      · exact R.ownz j dj x ej' oj sj
    · obtain ⟨k, nf', nz'⟩ := R.bag x ex
      have hx : x ≠ a := fun w => nb (w ▸ ex)
      exact ⟨BagOk.mono (C := C) l (upd_ne hx) k, nf', nz'⟩
/-- a method that changes the list in slot i: p tells the new list and the answer from the old one and the arguments -/
def xMeth (i : Nat) (o : List D → List D → (List D → DV → Prop) → Prop) (t : OAX) : TX := fun X r Q => (∃ ds, sl r i = some (.own ds)) ∧ t X r fun gs r1 => match gets gs r1, sl r1 i with
  | some ds, some (.own es) => o es ds fun es' v => Q v (put r1 i (.own es'))
  | _, _ => False
def SemM (K : PySem.W.Frag) (p : V → List V → Hp → VK → Prop) (o : List D → List D → (List D → DV → Prop) → Prop) : Prop := ∀ (H : Hp) (F : AP) (a : Addr) (ys xs : List V) (es ds : List D) (Q : List D → DV → Prop) (QV : VK),
  (∀ x, F x → H x ≠ none) → ¬ F a → H a = some (.lst ys) → DpFs K H F ys es → DpTs K H F xs ds → o es ds Q →
  (∀ v ys' es' d, DpFs K H F ys' es' → DpF K H F v d → Q es' (.dat d) → QV v (upd H a (.lst ys'))) → p (.ref a) xs H QV
theorem de_meth {i : Nat} {pr : V → List V → Hp → VK → Prop} {o : List D → List D → (List D → DV → Prop) → Prop} {u : OAX} {ob : Expr} (po : PE X ob (tVar i)) (hs : SemM X.K pr o) (ha : DOA X W es u)
    (mk : ∀ {to : L2.TE} {t : TA}, PE X ob to → PA X es t → PE X e (tBM X.K "list" pr to t)) : DE X W e (xMeth i o u) := by
  obtain ⟨t, pa, ent⟩ := ha.ex
  refine ⟨⟨_, mk po pa, fun C r σ H F Q Xk QV hK R L hf k => ?_⟩⟩
  obtain ⟨⟨ds0, e0⟩, hf⟩ := hf
  obtain ⟨v0, s0, sr0⟩ := R.slot i _ e0
  refine ⟨v0, s0, ?_⟩
  cases sr0 with
  | own h1 h2 h3 =>
    refine ⟨.inl ⟨rfl, _, .inl (.inl h1)⟩, ?_⟩
    refine ent C r σ H F _ Xk _ hK R L hf fun vs H1 F1 gs r1 R1 G1 q1 => ?_
    split at q1
    · rename_i ds es' eg e1
      obtain ⟨v1, s1, sr1⟩ := R1.slot i _ e1
      rw [s0] at s1; cases s1
      cases sr1 with
      | own g1 g2 g3 =>
        refine hs H1 F1 _ _ vs es' ds _ QV R1.ftrk g3 g1 (hK ▸ g2) (hK ▸ gets_of R1 G1 eg) q1 fun v ys' es2 d hy hv q2 => ?_
        obtain ⟨R2, l2⟩ := R1.lstUpd e1 s0 (hK ▸ hy)
        exact k v _ F1 _ _ R2 (.dat ((hK ▸ hv : DpF C.K H1 F1 v d).mono l2)) q2
    · exact q1.elim
/-- x.append(e) -/
theorem de_app {i : Nat} {ob el : Expr} {u : TX} (po : PE X ob (tVar i)) (ha : DE X W el u) (hst : starEach (el :: []) X.env = (false, eval el X.env) :: starEach [] X.env := by rfl)
    (mk : ∀ {to : L2.TE} {t : TA}, PE X ob to → PA X [el] t → PE X e (tBM X.K "list" rAppend to t)) : DE X W e (xApp i u) := by
  obtain ⟨t, pa, ent⟩ := ha.ex
  refine ⟨⟨_, mk po (pa_cons pa pa_nil hst), fun C r σ H F Q Xk QV hK R L hf k => ?_⟩⟩
  obtain ⟨⟨ds0, e0⟩, hf⟩ := hf
  obtain ⟨v0, s0, sr0⟩ := R.slot i _ e0
  refine ⟨v0, s0, ?_⟩
  cases sr0 with
  | own h1 h2 h3 =>
    refine ⟨.inl ⟨rfl, _, .inl (.inl h1)⟩, ?_⟩
    refine ent C r σ H F _ Xk _ hK R L hf fun v H1 F1 dv r1 R1 G1 q1 => ?_
    split at q1
    · rename_i d es' ed e1
      obtain ⟨F2, R2, s2, l2⟩ := G1.froz R1 ed
      obtain ⟨v1, s1, sr1⟩ := R2.slot i _ e1
      rw [s0] at s1; cases s1
      cases sr1 with
      | own g1 g2 g3 =>
        refine ⟨_, _, v, rfl, rfl, g1, by rw [line_eq, g2.length]; exact q1.1, ?_⟩
        obtain ⟨R3, l3⟩ := R2.lstUpd e1 s0 (g2.app (.cons s2 .nil))
        exact k _ _ F2 _ _ R3 (.dat .non) q1.2
    · exact q1.elim
/-! ### a, b = e1, e2 -/
theorem Res.store2 {C : Ctx} {r : Env} {σ : L2.St} {H : Hp} {F : AP} {v w : V} {dv dw : DV} {i : Nat} (R : Rep C r σ H F) (q : Res C r σ H F w dw) (ne : ∀ a b, v = .ref a → dv.hold = true → w = .ref b → dw.hold = true → a ≠ b) :
    Res C (put r i dv) (σ.set i (some v)) H F w dw := by
  have key : ∀ a, w = .ref a → dw.hold = true → (∀ i es, sl r i = some es → es.hold = true → σ[i]? ≠ some (some (.ref a))) → ∀ j es, sl (put r i dv) j = some es → es.hold = true → (σ.set i (some v))[j]? ≠ some (some (.ref a)) := fun a ea oa h6 j es ej oj sj => by
    have hj : j < σ.length := by have := sl_lt ej; rw [len_putO] at this; rw [← R.len]; exact this
    rcases sl_put_some ej with ⟨rfl, ed⟩ | ⟨n, ej'⟩
    · rw [List.getElem?_set_self hj] at sj
      cases sj
      subst ed
      exact ne _ _ rfl oj ea oa rfl
    · rw [List.getElem?_set_ne (Ne.symm n)] at sj
      exact h6 j es ej' oj sj
  cases q with
  | dat s => exact .dat s
  | own h1 h2 h3 h4 h5 h6 => exact .own h1 h2 h3 h4 h5 (key _ rfl rfl h6)
  | dct h1 h3 h4 h5 h6 => exact .dct h1 h3 h4 h5 (key _ rfl rfl h6)
  | nd h n => exact .nd h n
  | rng n => exact .rng n
  | bag s => exact .bag s
theorem ds_par {i j : Nat} {e1 e2 : Expr} (h1 : DE X W e1 f) (h2 : DE X W e2 h) (mk : ∀ {ta : TA}, PA X [e1, e2] ta → PS X st (tPar i j ta))
    (hs : starEach (e1 :: [e2]) X.env = (false, eval e1 X.env) :: starEach [e2] X.env := by rfl) (hs' : starEach (e2 :: []) X.env = (false, eval e2 X.env) :: starEach [] X.env := by rfl) : DS X W st (sPar i j f h) := by
  obtain ⟨t, pa, enta⟩ := h1.ex
  obtain ⟨u, pb, entb⟩ := h2.ex
  refine ⟨⟨_, mk (pa_cons pa (pa_cons pb pa_nil hs') hs), fun C r σ H F E D' hK R k hf => ?_⟩⟩
  refine enta C r σ H F _ E.ex _ hK R (k.ex σ) hf fun v H1 F1 dv r1 R1 G1 q1 => ?_
  -- the first value waits: it is not to change meanwhile
  have tmp : ∀ a, (v = .ref a ∧ dv.hold = true) → H1 a ≠ none ∧ C.b ≠ some a ∧ (∀ i es, sl r1 i = some es → es.hold = true → σ[i]? ≠ some (some (.ref a))) ∧ NT H1 a := fun a ⟨ev, ed⟩ => by
    subst ev
    cases G1 with
    | own g1 g2 g3 g4 g5 g6 => exact ⟨by rw [g1]; simp, g5, g6, nt_lst g1⟩
    | dct g1 g3 g4 g5 g6 => exact ⟨g1.ne.2, g5, g6, (free_dct g1).nt⟩
    | nd _ _ => cases ed
    | rng _ => cases ed
    | dat _ => cases ed
    | bag _ => cases ed
  refine entb (C.up H1 F1 fun a => v = .ref a ∧ dv.hold = true) r1 σ H1 F1 _ E.ex _ hK (R1.up tmp) ((k.ex σ).up R1) q1 fun w H2 F2 dw r2 R2' G2 q2 => ?_
  have R2 := R1.down R2'
  have G1' : Res C r2 σ H2 F2 v dv := by
    cases G1 with
    | dat s => exact .dat (s.mono R2'.later)
    | own g1 g2 g3 g4 g5 g6 =>
      obtain ⟨e, nf⟩ := R2'.still ⟨rfl, rfl⟩ g3
      exact .own (e.trans g1) (g2.mono R2'.later) nf g4 g5 fun i es ei oi si => (R2'.ownz i es _ ei oi si).1 (.inr (.inr ⟨rfl, rfl⟩))
    | dct g1 g3 g4 g5 g6 =>
      obtain ⟨e, nf⟩ := R2'.still ⟨rfl, rfl⟩ g3
      exact .dct (g1.mono R2'.later e) nf g4 g5 fun i es ei oi si => (R2'.ownz i es _ ei oi si).1 (.inr (.inr ⟨rfl, rfl⟩))
    | nd s n => exact .nd (s.mono R2'.later) (n.mono R2'.later)
    | rng n => exact .rng (n.mono R2'.later)
    | bag s => exact .bag s
  refine ⟨v, w, rfl, ?_⟩
  have R3 := R2.store (i := i) G1'
  have G2' : Res C (put r2 i dv) (σ.set i (some v)) H2 F2 w dw := by
    refine Res.store2 R2 G2.down fun a b ev ed ew edw eab => ?_
    subst ew
    cases G2 with
    | own _ _ _ nz _ _ => exact nz (.inr (.inr ⟨by rw [ev, eab], ed⟩))
    | dct _ _ nz _ _ => exact nz (.inr (.inr ⟨by rw [ev, eab], ed⟩))
    | nd _ _ => cases edw
    | rng _ => cases edw
    | dat _ => cases edw
    | bag _ => cases edw
  exact k.nx _ H2 F2 _ (R3.store G2') q2
end
end DL

/-! DL, part 6: list comprehensions; defs; the law. -/
namespace DL
open PySem PySem.Spec L2
/-! ### one reading for all blocks -/
def tCan (K : PySem.W.Frag) (w : World) (mg : Str → Option Value) (W : WX) (f : TX) : L2.TE := fun σ H QV => ∃ (C : Ctx) (r : Env) (F : AP) (Xk : XW) (Q : DV → Env → Prop), C.K = K ∧ Rep C r σ H F ∧
  LinkG w mg W Xk C σ ∧ f Xk r Q ∧ ∀ v H' F' dv r', Rep C r' σ H' F' → Res C r' σ H' F' v dv → Q dv r' → QV v H'
theorem DE.can {X : Cx} {W : WX} {e : Expr} {f : TX} (h : DE X W e f) : PE X e (tCan X.K X.w X.mg W f) := by
  obtain ⟨t, pe, ent⟩ := h.ex
  exact ⟨fun pins s σ H Q I ⟨C, r, F, Xk, Qd, hK, R, L, hf, k⟩ => pe.run pins s σ H Q I (ent C r σ H F Qd Xk Q hK R L hf k)⟩
def bCan (K : PySem.W.Frag) (w : World) (mg : Str → Option Value) (W : WX) (f : TB) : L2.TT := fun σ H QV => ∃ (C : Ctx) (r : Env) (F : AP) (Xk : XW) (Q : Bool → Env → Prop), C.K = K ∧ Rep C r σ H F ∧
  LinkG w mg W Xk C σ ∧ f Xk r Q ∧ ∀ b H' F' r', Rep C r' σ H' F' → Q b r' → QV b H'
theorem DT.can {X : Cx} {W : WX} {e : Expr} {f : TB} (h : DT X W e f) : PT X e (bCan X.K X.w X.mg W f) := by
  obtain ⟨t, pe, ent⟩ := h.ex
  exact ⟨fun pins s σ H Q I ⟨C, r, F, Xk, Qd, hK, R, L, hf, k⟩ => pe.run pins s σ H Q I (ent C r σ H F Qd Xk Q hK R L hf k)⟩
def gCan (K : PySem.W.Frag) (ws : List Nat) (g : TG) : L2.TG := fun v σ H QV => ∃ (C : Ctx) (r : Env) (F : AP) (dv : DV) (Q : Env → Prop), C.K = K ∧ Rep C r σ H F ∧ Res C r σ H F v dv ∧ g dv r Q ∧ ∀ σ' r', Rep C r' σ' H F → Wr ws σ σ' → Q r' → QV σ' H
theorem DG.can {X : Cx} {ws : List Nat} {e : Expr} {g : TG} (h : DG X e ws g) : PG X e (gCan X.K ws g) := by
  obtain ⟨t, pe, ent⟩ := h.ex
  exact ⟨fun pins s σ H v u Q I rv ⟨C, r, F, dv, Qd, hK, R, G, hf, k⟩ => pe.run pins s σ H v u Q I rv (ent C r σ H F v dv Qd Q hK R G hf k)⟩
/-! ### the block's own names -/
theorem Rep.wipe1 {C : Ctx} {r : Env} {σ : L2.St} {H : Hp} {F : AP} {i : Nat} (R : Rep C r σ H F) : Rep C (putO r i none) (σ.set i none) H F where
  len := by rw [len_putO, List.length_set]; exact R.len
  slot := fun j d e => by
    obtain ⟨n, e'⟩ := sl_put_none e
    rw [List.getElem?_set_ne (Ne.symm n)]
    exact R.slot j d e'
  dist := fun j k dj dk a e1 e2 o1 o2 s1 s2 => by
    obtain ⟨n1, e1⟩ := sl_put_none e1
    obtain ⟨n2, e2⟩ := sl_put_none e2
    rw [List.getElem?_set_ne (Ne.symm n1)] at s1
    rw [List.getElem?_set_ne (Ne.symm n2)] at s2
    exact R.dist j k dj dk a e1 e2 o1 o2 s1 s2
  keep := R.keep
  fsub := R.fsub
  fnew := R.fnew
  fz := R.fz
  ftrk := R.ftrk
  ownz := fun j ds a e o1 s1 => by
    obtain ⟨n1, e1⟩ := sl_put_none e
    rw [List.getElem?_set_ne (Ne.symm n1)] at s1
    exact R.ownz j ds a e1 o1 s1
  bag := R.bag
  tb := R.tb
theorem Rep.wipe {C : Ctx} {r : Env} {σ : L2.St} {H : Hp} {F : AP} (R : Rep C r σ H F) : ∀ vs : List Nat, Rep C (clrs r vs) (L2.wipe σ vs) H F
  | [] => R
  | _ :: vs => (Rep.wipe R vs).wipe1
theorem wipe_at (σ : L2.St) : ∀ (vs : List Nat) (i : Nat), (L2.wipe σ vs)[i]? = if i ∈ vs ∧ i < σ.length then some none else σ[i]?
  | [], i => by simp [L2.wipe]
  | v :: vs, i => by
    unfold L2.wipe
    rw [List.getElem?_set, L2.wipe_length]
    by_cases h : v = i
    · subst h
      by_cases hl : v < σ.length
      · simp [hl]
      · simp [hl, List.getElem?_eq_none (Nat.le_of_not_lt hl)]
    · rw [if_neg h, wipe_at σ vs i]
      have h' : ¬ i = v := fun z => h z.symm
      simp only [List.mem_cons, h', false_or]
theorem wipe_wr {ws vs : List Nat} {σ σ' : L2.St} (hw : ∀ i ∈ ws, i ∈ vs) (w : Wr ws (L2.wipe σ vs) σ') : L2.wipe σ' vs = L2.wipe σ vs := by
  apply List.ext_getElem?
  intro i
  have hl : σ'.length = σ.length := by rw [w.1, L2.wipe_length]
  rw [wipe_at, wipe_at, hl]
  by_cases h : i ∈ vs ∧ i < σ.length
  · rw [if_pos h, if_pos h]
  · rw [if_neg h, if_neg h]
    by_cases hi : i ∈ ws
    · have hv := hw i hi
      have hn : ¬ i < σ.length := fun z => h ⟨hv, z⟩
      rw [List.getElem?_eq_none (by omega), List.getElem?_eq_none (by omega)]
    · rw [w.2 i hi, wipe_at, if_neg h]
theorem sl_back (r0 r : Env) : ∀ (is : List Nat) (j : Nat), sl (back r0 r is) j = if j ∈ is ∧ j < r.length then sl r0 j else sl r j
  | [], j => by simp [back]
  | i :: is, j => by
    have hl : ∀ is, (back r0 r is).length = r.length := fun is => by
      induction is with
      | nil => rfl
      | cons i is ih => unfold back; rw [len_putO, ih]
    unfold back
    rw [sl_putO, hl, sl_back r0 r is j]
    by_cases h : j = i
    · subst h
      by_cases hj : j < r.length
      · simp [hj]
      · have : sl r j = none := by
          cases q : sl r j with
          | none => rfl
          | some v => exact absurd (sl_lt q) hj
        simp [hj, this]
    · rw [if_neg h]
      simp only [List.mem_cons, h, false_or]
theorem len_back (r0 r : Env) (is : List Nat) : (back r0 r is).length = r.length := by
  induction is with
  | nil => rfl
  | cons i is ih => unfold back; rw [len_putO, ih]
/-- behind the block: its names are what they were -/
theorem Rep.back {C : Ctx} {r r0 : Env} {σ : L2.St} {H H0 : Hp} {F F0 : AP} {vs : List Nat} (R0 : Rep C r0 σ H0 F0) (R : Rep C r (L2.wipe σ vs) H F) (l : Later H0 F0 H F) (no : ∀ i ∈ vs, notOwn r0 i) : Rep C (back r0 r vs) σ H F := by
  have hlen : r.length = σ.length := by rw [R.len, L2.wipe_length]
  have own : ∀ {j ds}, sl (DL.back r0 r vs) j = some ds → ds.hold = true → sl r j = some ds ∧ (L2.wipe σ vs)[j]? = σ[j]? := fun {j ds} e o1 => by
    rw [sl_back] at e
    by_cases h : j ∈ vs ∧ j < r.length
    · rw [if_pos h] at e
      exact absurd (no j h.1 ds e) (by rw [o1]; simp)
    · rw [if_neg h] at e
      refine ⟨e, ?_⟩
      rw [wipe_at, if_neg (by rw [← hlen]; exact h)]
  refine ⟨by rw [len_back, hlen], fun j dv e => ?_, fun j k dj dk a e1 e2 o1 o2 s1 s2 => ?_, R.keep, R.fsub, R.fnew, R.fz, R.ftrk, fun j ds a e o1 s1 => ?_, R.bag, R.tb⟩
  · rw [sl_back] at e
    by_cases h : j ∈ vs ∧ j < r.length
    · rw [if_pos h] at e
      obtain ⟨v, ev, sr⟩ := R0.slot j dv e
      refine ⟨v, ev, ?_⟩
      cases sr with
      | dat s => exact .dat (s.mono l)
      | own => exact absurd (no j h.1 _ e) (by simp [DV.hold])
      | dct => exact absurd (no j h.1 _ e) (by simp [DV.hold])
      | nd s n => exact .nd (s.mono l) (n.mono l)
      | rng n => exact .rng (n.mono l)
      | bag s => exact .bag s
    · rw [if_neg h] at e
      obtain ⟨v, ev, sr⟩ := R.slot j dv e
      rw [wipe_at, if_neg (by rw [← hlen]; exact h)] at ev
      exact ⟨v, ev, sr⟩
  · obtain ⟨q1, w1⟩ := own e1 o1
    obtain ⟨q2, w2⟩ := own e2 o2
    exact R.dist j k dj dk a q1 q2 o1 o2 (w1.trans s1) (w2.trans s2)
  · obtain ⟨q1, w1⟩ := own e o1
    exact R.ownz j ds a q1 o1 (w1.trans s1)
/-- a list that waits is changed -/
theorem Rep.updT {C : Ctx} {r : Env} {σ : L2.St} {H : Hp} {F : AP} {a : Addr} {o : HO} (R : Rep C r σ H F) (nf : ¬ F a) (nz : ¬ C.Z a) (nb : C.b ≠ some a) (no : ∀ i es, sl r i = some es → es.hold = true → σ[i]? ≠ some (some (.ref a))) (hfr : FreeAt H a) (ho : ∀ ps, o ≠ .tbl ps := by intro _ z; cases z) :
    Rep C r σ (upd H a o) F ∧ Later H F (upd H a o) F := by
  have l : Later H F (upd H a o) F := fun x z => ⟨z, upd_ne fun q => nf (q ▸ z)⟩
  refine ⟨⟨R.len, fun j dv e => ?_, R.dist, fun x z => ?_, R.fsub, R.fnew, R.fz, fun x z => ?_, R.ownz, fun x ex => ?_, R.tb.upd hfr ho⟩, l⟩
  · obtain ⟨v, ev, sr⟩ := R.slot j dv e
    refine ⟨v, ev, ?_⟩
    cases sr with
    | dat s => exact .dat (s.mono l)
    | own g1 g2 g3 =>
      rename_i a2 _ _
      have hx : a2 ≠ a := fun q => no j _ e rfl (by rw [← q]; exact ev)
      exact .own ((upd_ne hx).trans g1) (g2.mono l) g3
    | dct g1 g3 =>
      rename_i a2 _ _
      have hx : a2 ≠ a := fun q => no j _ e rfl (by rw [← q]; exact ev)
      exact .dct (g1.mono l (upd_ne hx)) g3
    | nd s n => exact .nd (s.mono l) (n.mono l)
    | rng n => exact .rng (n.mono l)
    | bag s => exact .bag s
  · have hx : x ≠ a := fun w => nz (w ▸ z)
    rw [upd_ne hx]
    exact R.keep x z
  · rw [(l x z).2]; exact R.ftrk x z
  · obtain ⟨k, nf', nz'⟩ := R.bag x ex
    have hx : x ≠ a := fun w => nb (w ▸ ex)
    exact ⟨BagOk.mono (C := C) l (upd_ne hx) k, nf', nz'⟩
section
variable {X : Cx} {W : WX} {tg iter elt e a b c : Expr} {es : List Expr} {f h : TX} {pos : Pos} {st : Stmt}
/-- an iterator that gives the data ds while what the frame's floor holds stands -/
structure WalkZ (C : Ctx) (J : It) (ds : List D) (H : Hp) (F : AP) : Prop where
  goes : ∀ i H' F', i < ds.length → Later H F H' F' → (∀ z, C.Z z → H' z = C.HZ z) → J.go i H'
  stops : ∀ H' F', Later H F H' F' → (∀ z, C.Z z → H' z = C.HZ z) → J.stop ds.length H'
  yields : ∀ i H' F' x H2, i < ds.length → (∀ a, F' a → H' a ≠ none) → Later H F H' F' → (∀ z, C.Z z → H' z = C.HZ z) → J.yld i H' x H2 → ∃ F2 d, ds[i]? = some d ∧ DpF C.K H2 F2 x d ∧ Later H' F' H2 F2 ∧
    (∀ a o, H' a = some o → H2 a = some o) ∧ ∀ a, F2 a → F' a ∨ (H' a = none ∧ H2 a ≠ none ∧ NT H2 a)
theorem WalkD.z {C : Ctx} {J : It} {ds : List D} {H : Hp} {F : AP} (w : WalkD C.K J ds H F) : WalkZ C J ds H F :=
  ⟨fun i H' F' hi l _ => w.goes i H' F' hi l, fun H' F' l _ => w.stops H' F' l, fun i H' F' x H2 hi t l _ y => w.yields i H' F' x H2 hi t l y⟩
theorem lc_coreD {K : PySem.W.Frag} {ww : World} {mg : Str → Option Value} {vs ws : List Nat} {g : TG} {t : TB} {f : TX} (hw : ∀ i ∈ ws, i ∈ vs)
    {tt : L2.TT} (htt : ∀ (C : Ctx) (r : Env) (σ : L2.St) (H : Hp) (F : AP) (Q : Bool → Env → Prop) (QV : Bool → Hp → Prop), C.K = K → C.w = ww → Rep C r σ H F → t noX r Q → (∀ b H' F' r', Rep C r' σ H' F' → Q b r' → QV b H') → tt σ H QV)
    (C : Ctx) (r1 : Env) (σ : L2.St) (H1 : Hp) (F1 : AP) (Q : DV → Env → Prop) (QV : VK) (J : It) (ds : List D) (hK : C.K = K) (hw2 : C.w = ww) (R1 : Rep C r1 σ H1 F1) (w : WalkZ C J ds H1 F1) (no : ∀ i ∈ vs, notOwn r1 i)
    (q1 : lcL vs g t f ds [] (clrs r1 vs) fun acc r2 => Q (.own acc) (DL.back r1 r2 vs)) (k : ∀ v H' F' dv r', Rep C r' σ H' F' → Res C r' σ H' F' v dv → Q dv r' → QV v H') :
    tLc (fun _ _ R => R J H1) (gCan K ws g) tt (tCan K ww mg (fun _ _ _ _ => False) f) vs σ H1 QV := by
  intro Dl hD
  have nbag : C.b ≠ some Dl := fun z => by
    obtain ⟨⟨_, _, _, _, _, h1, _⟩, _, _⟩ := R1.bag Dl z
    rw [hD] at h1; cases h1
  have nzD : ¬ C.Z Dl := fun z => (R1.keep Dl z).2 hD
  have nfD : ¬ F1 Dl := fun z => R1.ftrk Dl z hD
  obtain ⟨R2, G2, l2⟩ := (R1.wipe vs).freshOwn (xs := []) (ds := []) hD .nil
  have noD : ∀ i es, sl (clrs r1 vs) i = some es → es.hold = true → (L2.wipe σ vs)[i]? ≠ some (some (.ref Dl)) := by
    cases G2 with
    | own _ _ _ _ _ h6 => exact h6
  refine ⟨fun i m H2 => m = ds.length - i ∧ i ≤ ds.length ∧ ∃ r2 F2 acc xs, Rep C r2 (L2.wipe σ vs) H2 F2 ∧ Later H1 F1 H2 F2 ∧ H2 Dl = some (.lst xs) ∧ DpFs C.K H2 F2 xs acc ∧ ¬ F2 Dl ∧
    (∀ i es, sl r2 i = some es → es.hold = true → (L2.wipe σ vs)[i]? ≠ some (some (.ref Dl))) ∧ lcL vs g t f (ds.drop i) acc r2 fun acc' r3 => Q (.own acc') (DL.back r1 r3 vs), ⟨_, rfl, Nat.zero_le _, _, F1, [], [], R2, l2, upd_same, .nil, nfD, noD, q1⟩, ?_⟩
  rintro i m H2 ⟨rfl, hi, r2, F2, acc, xs, R2, l2, hDl, hacc, nf2, no2, q2⟩
  by_cases hlt : i < ds.length
  · refine .inr ⟨w.goes i H2 F2 hlt l2 (fun z hz => (R2.keep z hz).1), fun H3 => ∃ r3 F3 acc3 xs3, Rep C r3 (L2.wipe σ vs) H3 F3 ∧ Later H1 F1 H3 F3 ∧ H3 Dl = some (.lst xs3) ∧ DpFs C.K H3 F3 xs3 acc3 ∧ ¬ F3 Dl ∧
      (∀ i es, sl r3 i = some es → es.hold = true → (L2.wipe σ vs)[i]? ≠ some (some (.ref Dl))) ∧ lcL vs g t f (ds.drop (i + 1)) acc3 r3 fun acc' r4 => Q (.own acc') (DL.back r1 r4 vs),
      fun H3 ⟨r3, F3, acc3, xs3, z⟩ => ⟨ds.length - (i + 1), by omega, rfl, hlt, r3, F3, acc3, xs3, z⟩, fun x H3 y => ?_⟩
    obtain ⟨F3, d, ed, hd, l3, s3, n3⟩ := w.yields i H2 F2 x H3 hlt R2.ftrk l2 (fun z hz => (R2.keep z hz).1) y
    have R3 := R2.grow l3 s3 n3
    have hDl3 := s3 _ _ hDl
    have nf3 : ¬ F3 Dl := fun z => (n3 Dl z).elim nf2 fun q => by rw [hDl] at q; cases q.1
    have ei : ds.drop i = d :: ds.drop (i + 1) := by
      rw [List.drop_eq_getElem_cons hlt]
      have := List.getElem?_eq_getElem hlt
      rw [ed] at this
      cases this
      rfl
    rw [ei] at q2
    -- Dl waits
    have R3u := R3.up (T := fun z => z = Dl) fun z e => by
      subst e
      exact ⟨by rw [hDl3]; simp, nbag, no2, nt_lst hDl3⟩
    refine ⟨C.up H3 F3 fun z => z = Dl, r2, F3, .dat d, _, hK, R3u, .dat hd, q2, fun σ4 r4 R4 w4 q4 => ?_⟩
    have hwp : L2.wipe σ4 vs = L2.wipe σ vs := wipe_wr hw w4
    refine ⟨hwp, ?_⟩
    refine htt (C.up H3 F3 fun z => z = Dl) r4 σ4 H3 F3 _ _ hK hw2 R4 q4 fun bb H5 F5 r5 R5 q5 => ?_
    have l35 : Later H3 F3 H5 F5 := R5.later
    have fin : ∀ {H6 : Hp} {F6 : AP} {r6 : Env} {xs6 : List V} {acc6 : List D}, Rep (C.up H3 F3 fun z => z = Dl) r6 σ4 H6 F6 → Rep C (clrs r6 vs) (L2.wipe σ vs) H6 F6 ∧ Later H1 F1 H6 F6 ∧ H6 Dl = some (.lst xs) ∧ DpFs C.K H6 F6 xs acc ∧ ¬ F6 Dl ∧
        (∀ i es, sl (clrs r6 vs) i = some es → es.hold = true → (L2.wipe σ vs)[i]? ≠ some (some (.ref Dl))) := fun {H6 F6 r6 _ _} R6 => by
      have R6w := (R3.down R6).wipe vs
      have R6w' := R6.wipe vs
      rw [hwp] at R6w R6w'
      obtain ⟨e6, n6⟩ := R6.still rfl nf3
      exact ⟨R6w, (l2.trans l3).trans R6.later, e6.trans hDl3, (hacc.mono l3).mono R6.later, n6, fun i es e1 o1 e2 => (R6w'.ownz i es Dl e1 o1 e2).1 (.inr (.inr rfl))⟩
    cases bb with
    | true =>
      refine ⟨C.up H3 F3 fun z => z = Dl, r5, F5, noX, _, hK, R5, ⟨hw2, fun _ _ _ _ _ _ _ _ z => z.elim⟩, q5, fun v H6 F6 dv r6 R6 G6 q6 => ?_⟩
      split at q6
      · rename_i d' ed'
        obtain ⟨F7, R7, s7, l7⟩ := G6.froz R6 ed'
        obtain ⟨R8, l8, e8, h8, n8, o8⟩ := fin (xs6 := xs) (acc6 := acc) R7
        refine ⟨xs, e8, by rw [line_eq, h8.length]; exact q6.1, ?_⟩
        obtain ⟨R9, l9⟩ := R8.updT (o := .lst (xs ++ [v])) n8 nzD nbag o8 (free_lst e8)
        exact ⟨_, F7, _, _, R9, l8.trans l9, upd_same, (h8.mono l9).app (.cons (s7.mono l9) .nil), n8, o8, q6.2⟩
      · exact q6.elim
    | false =>
      obtain ⟨R8, l8, e8, h8, n8, o8⟩ := fin (xs6 := xs) (acc6 := acc) R5
      exact ⟨_, F5, _, _, R8, l8, e8, h8, n8, o8, q5⟩
  · have ei : ds.length = i := by omega
    subst ei
    rw [List.drop_length] at q2
    refine .inl ⟨w.stops H2 F2 l2 (fun z hz => (R2.keep z hz).1), ?_⟩
    have Rb := Rep.back R1 R2 l2 no
    refine k (.ref Dl) H2 F2 _ _ Rb (.own hDl hacc nf2 nzD nbag fun i es e1 o1 e2 => ?_) q2
    -- no slot holds Dl
    have hlen : r2.length = σ.length := by rw [R2.len, L2.wipe_length]
    rw [sl_back] at e1
    by_cases hh : i ∈ vs ∧ i < r2.length
    · rw [if_pos hh] at e1
      exact absurd (no i hh.1 es e1) (by rw [o1]; simp)
    · rw [if_neg hh] at e1
      refine no2 i es e1 o1 ?_
      rw [wipe_at, if_neg (by rw [← hlen]; exact hh)]
      exact e2
theorem lc_ent {K : PySem.W.Frag} {mg : Str → Option Value} {vs ws : List Nat} {s : SX} {g : TG} {t : TB} {f : TX} {wi : TI} {W : WX} (hw : ∀ i ∈ ws, i ∈ vs)
    (enti : ∀ (C : Ctx) (r : Env) (σ : L2.St) (H : Hp) (F : AP) (Q : List D → Env → Prop) (Xk : XW) (RV : It → Hp → Prop), C.K = X.K → Rep C r σ H F → Link X W Xk C σ → s Xk r Q →
      (∀ J H' F' ds r', Rep C r' σ H' F' → WalkD C.K J ds H' F' → Q ds r' → RV J H') → wi σ H RV)
    {tt : L2.TT} (htt : ∀ (C : Ctx) (r : Env) (σ : L2.St) (H : Hp) (F : AP) (Q : Bool → Env → Prop) (QV : Bool → Hp → Prop), C.K = X.K → C.w = X.w → Rep C r σ H F → t noX r Q → (∀ b H' F' r', Rep C r' σ H' F' → Q b r' → QV b H') → tt σ H QV) :
    ∀ (C : Ctx) (r : Env) (σ : L2.St) (H : Hp) (F : AP) (Q : DV → Env → Prop) (Xk : XW) (QV : VK), C.K = X.K → Rep C r σ H F → Link X W Xk C σ → xLc vs s g t f Xk r Q → (∀ v H' F' dv r', Rep C r' σ H' F' → Res C r' σ H' F' v dv → Q dv r' → QV v H') →
      tLc wi (gCan X.K ws g) tt (tCan X.K X.w X.mg (fun _ _ _ _ => False) f) vs σ H QV := by
  intro C r σ H F Q Xk QV hK R L hf k
  refine enti C r σ H F _ Xk _ hK R L hf fun J H1 F1 ds r1 R1 w q1 => ?_
  exact lc_coreD (mg := X.mg) hw htt C r1 σ H1 F1 Q QV J ds hK L.w R1 w.z q1.1 q1.2 k
theorem tYes_ent {K : PySem.W.Frag} {ww : World} : ∀ (C : Ctx) (r : Env) (σ : L2.St) (H : Hp) (F : AP) (Q : Bool → Env → Prop) (QV : Bool → Hp → Prop), C.K = K → C.w = ww → Rep C r σ H F → bYes noX r Q → (∀ b H' F' r', Rep C r' σ H' F' → Q b r' → QV b H') → tYes σ H QV :=
  fun C r σ H F Q QV _ _ R hf k => k true H F r R hf
/-- [e for x in it] -/
theorem de_lc {scope : Scope} {own : List (Str × Nat)} {ws : List Nat} {s : SX} {g : TG} (hi : DSrc X W tg iter s) (hw : ∀ i ∈ ws, i ∈ own.map (·.2))
    (hg : ∀ (s : Shared) (H : Hp) (C : Addr) (cl : List (Str × Addr)) (fp : List Addr), DG (X.blk s H scope (compEnvC scope cl C X.env) fp) tg ws g)
    (he : ∀ (s : Shared) (H : Hp) (C : Addr) (cl : List (Str × Addr)) (fp : List Addr), DE (X.blk s H scope (compEnvC scope cl C X.env) fp) (fun _ _ _ _ => False) elt f)
    (mk : ∀ {wi : TI} {te : L2.TE} {tg' : L2.TG}, PI X tg iter wi → (∀ (s : Shared) (H : Hp) (C : Addr) (cl : List (Str × Addr)) (fp : List Addr), PG (X.blk s H scope (compEnvC scope cl C X.env) fp) tg tg') →
      (∀ (s : Shared) (H : Hp) (C : Addr) (cl : List (Str × Addr)) (fp : List Addr), PE (X.blk s H scope (compEnvC scope cl C X.env) fp) elt te) → PE X e (tLc wi tg' tYes te (own.map (·.2)))) :
    DE X W e (xLc (own.map (·.2)) s g bYes f) := by
  obtain ⟨wi, pi, enti⟩ := hi.ex
  exact ⟨⟨_, mk (te := tCan X.K X.w X.mg (fun _ _ _ _ => False) f) (tg' := gCan X.K ws g) pi (fun s H C cl fp => (hg s H C cl fp).can) (fun s H C cl fp => (he s H C cl fp).can), lc_ent (K := X.K) (mg := X.mg) hw enti tYes_ent⟩⟩
theorem de_lcI {scope : Scope} {own : List (Str × Nat)} {ws : List Nat} {s : SX} {g : TG} {t : TB} {cond : Expr} (hi : DSrc X W tg iter s) (hw : ∀ i ∈ ws, i ∈ own.map (·.2))
    (hg : ∀ (s : Shared) (H : Hp) (C : Addr) (cl : List (Str × Addr)) (fp : List Addr), DG (X.blk s H scope (compEnvC scope cl C X.env) fp) tg ws g)
    (ht : ∀ (s : Shared) (H : Hp) (C : Addr) (cl : List (Str × Addr)) (fp : List Addr), DT (X.blk s H scope (compEnvC scope cl C X.env) fp) (fun _ _ _ _ => False) cond t)
    (he : ∀ (s : Shared) (H : Hp) (C : Addr) (cl : List (Str × Addr)) (fp : List Addr), DE (X.blk s H scope (compEnvC scope cl C X.env) fp) (fun _ _ _ _ => False) elt f)
    (mk : ∀ {wi : TI} {te : L2.TE} {tg' : L2.TG} {tt : L2.TT}, PI X tg iter wi → (∀ (s : Shared) (H : Hp) (C : Addr) (cl : List (Str × Addr)) (fp : List Addr), PG (X.blk s H scope (compEnvC scope cl C X.env) fp) tg tg') →
      (∀ (s : Shared) (H : Hp) (C : Addr) (cl : List (Str × Addr)) (fp : List Addr), PTs (X.blk s H scope (compEnvC scope cl C X.env) fp) [cond] tt) →
      (∀ (s : Shared) (H : Hp) (C : Addr) (cl : List (Str × Addr)) (fp : List Addr), PE (X.blk s H scope (compEnvC scope cl C X.env) fp) elt te) → PE X e (tLc wi tg' tt te (own.map (·.2)))) :
    DE X W e (xLc (own.map (·.2)) s g t f) := by
  obtain ⟨wi, pi, enti⟩ := hi.ex
  exact ⟨⟨_, mk (te := tCan X.K X.w X.mg (fun _ _ _ _ => False) f) (tg' := gCan X.K ws g) (tt := bCan X.K X.w X.mg (fun _ _ _ _ => False) t) pi (fun s H C cl fp => (hg s H C cl fp).can) (fun s H C cl fp => pts_one (ht s H C cl fp).can) (fun s H C cl fp => (he s H C cl fp).can),
    lc_ent (K := X.K) (mg := X.mg) hw enti fun C r σ H F Q QV hK hw2 R hf k => ⟨C, r, F, noX, Q, hK, R, ⟨hw2, fun _ _ _ _ _ _ _ _ z => z.elim⟩, hf, k⟩⟩⟩
/-- y = [e for x in it] -/
theorem ds_setLc {i : Nat} {scope : Scope} {own : List (Str × Nat)} {ws : List Nat} {s : SX} {g : TG} (hi : DSrc X W tg iter s) (hw : ∀ i ∈ ws, i ∈ own.map (·.2))
    (hg : ∀ (s : Shared) (H : Hp) (C : Addr) (cl : List (Str × Addr)) (fp : List Addr), DG (X.blk s H scope (compEnvC scope cl C X.env) fp) tg ws g)
    (he : ∀ (s : Shared) (H : Hp) (C : Addr) (cl : List (Str × Addr)) (fp : List Addr), DE (X.blk s H scope (compEnvC scope cl C X.env) fp) (fun _ _ _ _ => False) elt f)
    (mk : ∀ {wi : TI} {te : L2.TE} {tg' : L2.TG}, PI X tg iter wi → (∀ (s : Shared) (H : Hp) (C : Addr) (cl : List (Str × Addr)) (fp : List Addr), PG (X.blk s H scope (compEnvC scope cl C X.env) fp) tg tg') →
      (∀ (s : Shared) (H : Hp) (C : Addr) (cl : List (Str × Addr)) (fp : List Addr), PE (X.blk s H scope (compEnvC scope cl C X.env) fp) elt te) → PS X st (tAsg (tLc wi tg' tYes te (own.map (·.2))) (gName i))) :
    DS X W st (sAsg (gN i) (xLc (own.map (·.2)) s g bYes f)) := by
  obtain ⟨wi, pi, enti⟩ := hi.ex
  refine ⟨⟨_, mk (te := tCan X.K X.w X.mg (fun _ _ _ _ => False) f) (tg' := gCan X.K ws g) pi (fun s H C cl fp => (hg s H C cl fp).can) (fun s H C cl fp => (he s H C cl fp).can), fun C r σ H F E D' hK R k hf => ?_⟩⟩
  exact lc_ent (K := X.K) (mg := X.mg) hw enti tYes_ent C r σ H F _ E.ex _ hK R (k.ex σ) hf fun v H1 F1 dv r1 R1 G1 q1 => k.nx _ H1 F1 _ (R1.store G1) q1
theorem ds_setLcI {i : Nat} {scope : Scope} {own : List (Str × Nat)} {ws : List Nat} {s : SX} {g : TG} {t : TB} {cond : Expr} (hi : DSrc X W tg iter s) (hw : ∀ i ∈ ws, i ∈ own.map (·.2))
    (hg : ∀ (s : Shared) (H : Hp) (C : Addr) (cl : List (Str × Addr)) (fp : List Addr), DG (X.blk s H scope (compEnvC scope cl C X.env) fp) tg ws g)
    (ht : ∀ (s : Shared) (H : Hp) (C : Addr) (cl : List (Str × Addr)) (fp : List Addr), DT (X.blk s H scope (compEnvC scope cl C X.env) fp) (fun _ _ _ _ => False) cond t)
    (he : ∀ (s : Shared) (H : Hp) (C : Addr) (cl : List (Str × Addr)) (fp : List Addr), DE (X.blk s H scope (compEnvC scope cl C X.env) fp) (fun _ _ _ _ => False) elt f)
    (mk : ∀ {wi : TI} {te : L2.TE} {tg' : L2.TG} {tt : L2.TT}, PI X tg iter wi → (∀ (s : Shared) (H : Hp) (C : Addr) (cl : List (Str × Addr)) (fp : List Addr), PG (X.blk s H scope (compEnvC scope cl C X.env) fp) tg tg') →
      (∀ (s : Shared) (H : Hp) (C : Addr) (cl : List (Str × Addr)) (fp : List Addr), PTs (X.blk s H scope (compEnvC scope cl C X.env) fp) [cond] tt) →
      (∀ (s : Shared) (H : Hp) (C : Addr) (cl : List (Str × Addr)) (fp : List Addr), PE (X.blk s H scope (compEnvC scope cl C X.env) fp) elt te) → PS X st (tAsg (tLc wi tg' tt te (own.map (·.2))) (gName i))) :
    DS X W st (sAsg (gN i) (xLc (own.map (·.2)) s g t f)) := by
  obtain ⟨wi, pi, enti⟩ := hi.ex
  refine ⟨⟨_, mk (te := tCan X.K X.w X.mg (fun _ _ _ _ => False) f) (tg' := gCan X.K ws g) (tt := bCan X.K X.w X.mg (fun _ _ _ _ => False) t) pi (fun s H C cl fp => (hg s H C cl fp).can) (fun s H C cl fp => pts_one (ht s H C cl fp).can) (fun s H C cl fp => (he s H C cl fp).can), fun C r σ H F E D' hK R k hf => ?_⟩⟩
  exact lc_ent (K := X.K) (mg := X.mg) hw enti (fun C r σ H F Q QV hK hw2 R hf k => ⟨C, r, F, noX, Q, hK, R, ⟨hw2, fun _ _ _ _ _ _ _ _ z => z.elim⟩, hf, k⟩) C r σ H F _ E.ex _ hK R (k.ex σ) hf
    fun v H1 F1 dv r1 R1 G1 q1 => k.nx _ H1 F1 _ (R1.store G1) q1
end
end DL

/-! DL, part 7: a def keeps what it means over data; calls; the law at its head. -/
namespace DL
open PySem PySem.Spec L2
/-- what a caller hands over -/
structure Given (K : PySem.W.Frag) (b : Option Addr) (H : Hp) (F : AP) (vs : List V) (ds : List DV) : Prop where
  arg : ArgR K H F b vs ds
  trk : ∀ a, F a → H a ≠ none
  bag : ∀ x, b = some x → BagOk K H F x ∧ ¬ F x
  tb : TBk K (fun _ => False) F H
/-- nothing stood here, or a table -/
def NewAt (H : Hp) (a : Addr) : Prop := ∀ o, H a = some o → ∃ ps, o = .tbl ps
theorem NewAt.no {H : Hp} {a : Addr} (h : NewAt H a) (n : H a ≠ none) : ¬ NT H a := fun nt => by
  cases q : H a with
  | none => exact n q
  | some o =>
    obtain ⟨ps, e⟩ := h o q
    exact nt ps (e ▸ q)
/-- what a callee does not change -/
def Zs (b : Option Addr) (H : Hp) : AP := fun a => H a ≠ none ∧ b ≠ some a ∧ NT H a
/-- what a caller finds: the heap has grown, but the bag nothing changed -/
structure After (K : PySem.W.Frag) (b : Option Addr) (H : Hp) (F : AP) (H' : Hp) (F' : AP) : Prop where
  keep : ∀ a o, H a = some o → b ≠ some a → (∀ ps, o ≠ .tbl ps) → H' a = some o
  sub : ∀ a, F a → F' a
  new : ∀ a, F' a → F a ∨ NewAt H a
  trk : ∀ a, F' a → H' a ≠ none
  bag : ∀ x, b = some x → BagOk K H' F' x ∧ ¬ F' x
  tb : TBk K (fun _ => False) F' H'
inductive BackR (K : PySem.W.Frag) (w : World) (b : Option Addr) (H H' : Hp) (F' : AP) : V → DV → Prop
  | dat {v : V} {d : D} : DpF K H' F' v d → BackR K w b H H' F' v (.dat d)
  | own {a : Addr} {xs : List V} {ds : List D} : H' a = some (.lst xs) → DpFs K H' F' xs ds → ¬ F' a → NewAt H a → BackR K w b H H' F' (.ref a) (.own ds)
  | dct {a : Addr} {t : Bool} {kvs : List (D × D)} : DctR K w H' F' a t kvs → ¬ F' a → NewAt H a → BackR K w b H H' F' (.ref a) (.dct t kvs)
  | nd {v : V} {ds : List D} : DpF K H' F' v (.tuple ds) → NdR H' F' v → BackR K w b H H' F' v (.nd ds)
  | rng {v : V} {n : Int} : RngR H' F' v n → BackR K w b H H' F' v (.rng n)
  | bag {a : Addr} : b = some a → BackR K w b H H' F' (.ref a) .bag
def spD (K : PySem.W.Frag) (w : World) (mg : Str → Option Value) (n : Nat) (S : Spec) : Sp := fun vs H Q E => vs.length = n ∧ ∃ (b : Option Addr) (F : AP) (ds : List DV) (Q0 : DV → Prop) (E0 : Err → Prop), Given K b H F vs ds ∧ S ds Q0 E0 ∧
  (∀ dv, Q0 dv → ∀ v H' F', After K b H F H' F' → BackR K w b H H' F' v dv → Q v H') ∧ ∀ er, E0 er → ∀ cls d H' F', After K b H F H' F' → ErrR mg K H' F' cls d er → E cls d H'
structure FnG (g : Bool) (P : Program) (w : World) (K : PySem.W.Frag) (mg : Str → Option Value) (base : Heap) (k : Nat) (f : Addr) (fd : FuncData) (ps : List Str) (S : Spec) : Prop where
  run : ∀ (A : Around) (outer : List PySem.Env) (s : Shared) (H : Hp) (args : Args) (us : List Value) (vs : List V) (Q : VK) (E : XK), (g = true → A.guards = some []) → Room k A → Env0 P w K mg base A outer s H → BindsTo s fd args (ps.zip us) → Vals vs us →
    spD K w mg ps.length S vs H Q E → codeAny (model P w) A (.call (.ref f) args) (CR (L2.CX P w) outer P w H s Q E) s
theorem FnG.mono {g : Bool} {P : Program} {w : World} {K : PySem.W.Frag} {mg : Str → Option Value} {base : Heap} {j k : Nat} {f : Addr} {fd : FuncData} {ps : List Str} {S : Spec} (F : FnG g P w K mg base j f fd ps S) (h : j ≤ k) : FnG g P w K mg base k f fd ps S :=
  ⟨fun A outer s H args us vs Q E hg hr => F.run A outer s H args us vs Q E hg (hr.mono h)⟩
theorem FnG.imp {g : Bool} {P : Program} {w : World} {K : PySem.W.Frag} {mg : Str → Option Value} {base : Heap} {k : Nat} {f : Addr} {fd : FuncData} {ps : List Str} {S S' : Spec} (F : FnG g P w K mg base k f fd ps S) (h : ∀ ds Q E, S' ds Q E → S ds Q E) : FnG g P w K mg base k f fd ps S' :=
  ⟨fun A outer s H args us vs Q E hg hr he hb hv ⟨hl, b, F', ds, Q0, E0, hG, hS, z⟩ => F.run A outer s H args us vs Q E hg hr he hb hv ⟨hl, b, F', ds, Q0, E0, hG, h _ _ _ hS, z⟩⟩
/-- the code of the def at f -/
def CodeOf (K : PySem.W.Frag) (f : Addr) (cdv : Value) : Prop := ∃ (oc : Value) (od : Option Addr) (fd : FuncData) (osl : Array (Option Value)), K.lookup f = some ⟨oc, od, .func fd, osl⟩ ∧ fd.code = cdv
/-- any promise of the hand layer's kind, where A may be chosen -/
theorem fn_raw {P : Program} {w : World} {K : PySem.W.Frag} {mg : Str → Option Value} {base : Heap} {x qual : Str} {st : Stmt} {f : Addr} {fd : FuncData} {N ps : List Str} {k : Nat} (F : Fun K x qual st f fd) (Sc : FnScope N ps (defScope st))
    {A : Around} {outer : List PySem.Env} {s : Shared} {H : Hp} {args : Args} {us : List Value} {vs : List V} {Q : VK} {E : XK} (hr : Room (k + 1) A) (e0 : Env0 P w K mg base A outer s H) (hb : BindsTo s fd args (ps.zip us)) (rv : Vals vs us) (hl : vs.length = ps.length)
    (body : ∀ cdv, CodeOf K f cdv → ∃ t, PSs (cxOf (L2.CX P w) P w K mg base N qual (defScope st) f cdv A outer s H E) (defBody st) t ∧ t { nx := fun _ H' => Q .non H', rt := Q } (L2.start N vs) H) :
    codeAny (model P w) A (.call (.ref f) args) (CR (L2.CX P w) outer P w H s Q E) s := by
  obtain ⟨oc, od, kV, doc, pm, an, cdv, ct, osl, rfl, lk, hcd⟩ := F.ex
  have up : ∀ b o, base.get? b = some o → s.heap.get? b = some o := fun b o e => (e0.bs b o e).1
  have inK : K.In s.heap := e0.mod.kin.keeps up
  have free := e0.mod.nolimit.keeps up
  have kinds : ∀ y ∈ ps.zip us, (defScope st).names.lookup y.1 = some .local ∨ ((defScope st).names.lookup y.1 = some .cell ∧ ((cellsFrom (s.heap.objs.size + 1) (defScope st).names []).lookup y.1).isSome = true) := by
    rintro ⟨n, v⟩ hy
    exact (Sc.par n (List.of_mem_zip hy).1).imp id fun q => ⟨q, PySem.W.cellsFrom_some _ _ _ (.inl q)⟩
  refine codeAny_call_function hr.depth (inK _ _ lk) rfl Sc.co Sc.gen rfl (PySem.W.codeRec_of inK hcd) (hb _ _ _ _ (wpAny_newFunctionEnv_cells Sc.kind kinds ?_))
  rintro env rfl s1 ic
  refine ⟨free.keeps ic.toInCall.keep, codeAny_func ?_⟩
  obtain ⟨t, ht, hq⟩ := body cdv ⟨_, _, _, _, lk, rfl⟩
  have I0 := inv_start (CX := L2.CX P w) (E := E) Sc hr.hd e0 hl rv ic
  refine wpAny_mono (ht.run [] s1 (L2.start N vs) H _ I0 hq) ?_ fun _ _ z => z
  intro fl s2 h2
  cases fl with
  | ret u =>
    obtain ⟨v, σ2, H2, J, rv2, q2⟩ := h2
    exact ⟨v, H2, J.os, J.bare, J.base, J.hok, rv2, q2⟩
  | next =>
    obtain ⟨σ2, H2, J, q2⟩ := h2
    exact ⟨.non, H2, J.os, J.bare, J.base, J.hok, rfl, q2⟩
  | brk =>
    obtain ⟨_, _, _, z⟩ := h2
    exact z.elim
  | cont =>
    obtain ⟨_, _, _, z⟩ := h2
    exact z.elim
/-- the slots at the start -/
theorem sl_start : ∀ (ds : List DV) (n i : Nat) (dv : DV), sl (ds.map some ++ List.replicate n none) i = some dv → ds[i]? = some dv
  | [], n, i, dv, h => by
    exfalso
    induction n generalizing i with
    | zero => simp [sl] at h
    | succ n ih =>
      cases i with
      | zero => simp [List.replicate_succ, sl] at h
      | succ i => exact ih i (by simpa [List.replicate_succ, sl] using h)
  | d :: ds, n, 0, dv, h => by simpa [sl] using h
  | d :: ds, n, i + 1, dv, h => by
    have := sl_start ds n i dv (by simpa [sl] using h)
    simpa using this
theorem ArgR.at {K : PySem.W.Frag} {H : Hp} {F : AP} {b : Option Addr} : ∀ {vs : List V} {ds : List DV} {i : Nat} {dv : DV}, ArgR K H F b vs ds → ds[i]? = some dv → ∃ v, vs[i]? = some v ∧ ((∃ d, dv = .dat d ∧ DpF K H F v d) ∨ (∃ a, dv = .bag ∧ b = some a ∧ v = .ref a))
  | _, _, _, _, .nil, e => by simp at e
  | _, _, 0, _, .dat h _, e => by simp at e; subst e; exact ⟨_, rfl, .inl ⟨_, rfl, h⟩⟩
  | _, _, 0, _, .bag h _, e => by simp at e; subst e; exact ⟨_, rfl, .inr ⟨_, rfl, h, rfl⟩⟩
  | _, _, i + 1, dv, .dat _ hs, e => by
    obtain ⟨v, e1, q⟩ := ArgR.at (i := i) (dv := dv) hs (by simpa using e)
    exact ⟨v, by simpa using e1, q⟩
  | _, _, i + 1, dv, .bag _ hs, e => by
    obtain ⟨v, e1, q⟩ := ArgR.at (i := i) (dv := dv) hs (by simpa using e)
    exact ⟨v, by simpa using e1, q⟩
theorem rep_start {K : PySem.W.Frag} {w : World} {b : Option Addr} {H : Hp} {F : AP} {vs : List V} {ds : List DV} {N : List Str} (g : Given K b H F vs ds) :
    Rep ⟨K, w, b, Zs b H, H, F⟩ (ds.map some ++ List.replicate (N.length - ds.length) none) (L2.start N vs) H F where
  len := by
    unfold L2.start
    have := g.arg.length
    simp [this]
  slot := fun i dv e => by
    obtain ⟨v, ev, q⟩ := g.arg.at (sl_start ds _ i dv e)
    have hi : i < vs.length := (List.getElem?_eq_some_iff.mp ev).1
    refine ⟨v, ?_, ?_⟩
    · unfold L2.start
      rw [List.getElem?_append_left (by simpa using hi), List.getElem?_map, ev]
      rfl
    · rcases q with ⟨d, rfl, h⟩ | ⟨a, rfl, h, rfl⟩
      · exact .dat h
      · exact .bag h
  dist := fun i j di dj a e1 _ o1 => by
    obtain ⟨v, _, q⟩ := g.arg.at (sl_start ds _ i _ e1)
    rcases q with ⟨d, z, _⟩ | ⟨a, z, _⟩ <;> (subst z; cases o1)
  keep := fun a z => ⟨rfl, z.1⟩
  fsub := fun _ z => z
  fnew := fun _ z => .inl z
  fz := fun a z => ⟨g.trk a z, fun e => (g.bag a e).2 z, g.tb.f a z⟩
  ftrk := g.trk
  ownz := fun i es a e1 o1 => by
    obtain ⟨v, _, q⟩ := g.arg.at (sl_start ds _ i _ e1)
    rcases q with ⟨d, z, _⟩ | ⟨a, z, _⟩ <;> (subst z; cases o1)
  bag := fun x e => ⟨(g.bag x e).1, (g.bag x e).2, fun z => z.2.1 e⟩
  tb := g.tb.imp (fun _ z => z.2.2) g.tb.f
theorem after_of {K : PySem.W.Frag} {w : World} {b : Option Addr} {H H' : Hp} {F F' : AP} {vs : List V} {ds : List DV} (g : Given K b H F vs ds) (q : Fin ⟨K, w, b, Zs b H, H, F⟩ H' F') : After K b H F H' F' where
  keep := fun a o e nb nt => ((q.keep a ⟨by rw [e]; simp, nb, fun ps z => by rw [e] at z; exact nt ps (Option.some.inj z)⟩).1).trans e
  sub := q.fsub
  new := fun a z => by
    rcases q.fnew a z with w | w
    · exact .inl w
    · refine .inr fun o e => ?_
      by_cases nb : b = some a
      · exact absurd z (q.bag a nb).2.1
      · by_cases nt : ∃ ps, o = HO.tbl ps
        · exact nt
        · exact absurd ⟨by rw [e]; simp, nb, fun ps z2 => by rw [e] at z2; exact nt ⟨ps, Option.some.inj z2⟩⟩ w
  trk := q.ftrk
  bag := fun x e => ⟨(q.bag x e).1, (q.bag x e).2.1⟩
  tb := q.tb.imp (fun _ z => z.elim) q.tb.f
theorem backR_of {K : PySem.W.Frag} {w : World} {b : Option Addr} {H H' : Hp} {F F' : AP} {v : V} {dv : DV} (q : RetR ⟨K, w, b, Zs b H, H, F⟩ H' F' v dv) : BackR K w b H H' F' v dv := by
  cases q with
  | dat s => exact .dat s
  | own h1 h2 h3 h4 h5 =>
    rename_i a xs ds
    refine .own h1 h2 h3 ?_
    intro o e
    by_cases nt : ∃ ps, o = HO.tbl ps
    · exact nt
    · exact absurd ⟨by rw [e]; simp, h5, fun ps z2 => by rw [e] at z2; exact nt ⟨ps, Option.some.inj z2⟩⟩ h4
  | nd h n => exact .nd h n
  | rng n => exact .rng n
  | dct h1 h3 h4 h5 =>
    rename_i a t kvs
    refine .dct h1 h3 ?_
    intro o e
    by_cases nt : ∃ ps, o = HO.tbl ps
    · exact nt
    · exact absurd ⟨by rw [e]; simp, h5, fun ps z2 => by rw [e] at z2; exact nt ⟨ps, Option.some.inj z2⟩⟩ h4
  | bag s => exact .bag s
/-- A DEF, by its body -/
theorem fn_mk {g : Bool} {P : Program} {w : World} {K : PySem.W.Frag} {mg : Str → Option Value} {base : Heap} {x qual : Str} {st : Stmt} {f : Addr} {fd : FuncData} {N ps : List Str} {k : Nat} {q : TS} (F : Fun K x qual st f fd) (Sc : FnScope N ps (defScope st))
    (body : ∀ (X : Cx) (cdv : Value) (A : Around) (outer : List PySem.Env) (s : Shared) (H : Hp) (E : XK), CodeOf K f cdv → X = cxOf (L2.CX P w) P w K mg base N qual (defScope st) f cdv A outer s H E → (g = true → X.A.guards = some []) → Room k X.A → Takes X (fun cls d _ H' => E cls d H') →
      PassesOwn (model X.prog X.w) X.A X.env X.xe → DSs X (fun cls d _ H' => E cls d H') (defBody st) q) :
    FnG g P w K mg base (k + 1) f fd ps (fnSpec N.length q) := by
  constructor
  rintro A outer s H args us vs Q E hg hr e0 hb rv ⟨hl, b, Fz, ds, Q0, E0, hG, hS, kQ, kE⟩
  refine fn_raw F Sc hr e0 hb rv hl fun cdv hcd => ?_
  have tk : Takes (cxOf (L2.CX P w) P w K mg base N qual (defScope st) f cdv A outer s H E) (fun cls d _ H' => E cls d H') := takes_of rfl rfl rfl rfl
  obtain ⟨t, pt, ent⟩ := (body _ cdv A outer s H E hcd rfl hg (hr.deeper _) tk (passes_of rfl)).ex
  refine ⟨t, pt, ?_⟩
  refine ent ⟨K, w, b, Zs b H, H, Fz⟩ _ _ H Fz _ _ rfl (rep_start hG) ⟨fun σ' H' F' r' R' q' => ?_, fun v H' F' dv fi rr q' => ?_, fun _ _ _ _ _ z => z, fun _ _ _ _ _ z => z, fun σ' => ⟨rfl, fun er r' H' F' cls d R' he q' => ?_⟩⟩ hS
  · exact kQ _ q' .non H' F' (after_of hG R'.fin) (.dat .non)
  · exact kQ _ q' v H' F' (after_of hG fi) (backR_of rr)
  · exact kE _ q' cls d H' F' (after_of hG R'.fin) he
section
variable {X : Cx} {W : WX} {e : Expr} {es : List Expr} {pos p : Pos} {x : Str}
theorem run_fnG {g : Bool} {k : Nat} {f : Addr} {fd : FuncData} {ps : List Str} {S : Spec} {dvs : List V} {dfs : List Value} {pins : List (Addr × Obj)} {σ : L2.St} {H : Hp} {s : Shared} {Q : VK} {us : List Value} {vs : List V}
    (F : FnG g X.prog X.w X.K X.mg X.base k f fd ps S) (hg : g = true → X.A.guards = some []) (hr : Room k X.A) (hb : Binds X.K fd ps dfs) (hd : Vals dvs dfs) (tk : Takes X W) (I : Inv X pins σ H s) (rv : Vals vs us) (h : spD X.K X.w X.mg ps.length S (vs ++ dvs) H Q (WE W σ)) :
    wpAny (model X.prog X.w) X.A (call (.ref f) us) (EP X pins σ Q) X.xe s := by
  have rv2 := rv.append hd
  have hl : (us ++ dfs).length = ps.length := rv2.length.symm.trans h.1
  refine wpAny_call (codeAny_mono (F.run X.A X.stack s H ⟨us, []⟩ (us ++ dfs) (vs ++ dvs) Q (WE W σ) hg hr I.env0 (hb s us I.kIn hl) rv2 h) ?_)
  intro r s' hq
  cases r with
  | error u => exact passAt tk σ pins H s u s' I hq
  | ok fl =>
    cases fl with
    | ret u => exact I.after hq
    | next => exact hq.elim
    | brk => exact hq.elim
    | cont => exact hq.elim
def tCallG (K : PySem.W.Frag) (w : World) (mg : Str → Option Value) (n : Nat) (S : Spec) (dvs : List V) (W : WX) (t : TA) : L2.TE := fun σ H Q => t σ H fun vs H1 => spD K w mg n S (vs ++ dvs) H1 Q (WE W σ)
/-- what a call leaves of the caller's slots -/
theorem rep_after {C : Ctx} {r : Env} {σ : L2.St} {H H' : Hp} {F F' : AP} (R : Rep C r σ H F) (a : After C.K C.b H F H' F') : Rep C r σ H' F' ∧ Later H F H' F' := by
  have l : Later H F H' F' := fun x z => by
    have n := R.ftrk x z
    cases e : H x with
    | none => exact absurd e n
    | some o => exact ⟨a.sub x z, a.keep x o e (fun eb => (R.bag x eb).2.1 z) fun ps q => R.tb.f x z ps (q ▸ e)⟩
  refine ⟨⟨R.len, fun i dv e => ?_, R.dist, fun x z => ?_, fun x z => a.sub x (R.fsub x z), fun x z => ?_, R.fz, a.trk, R.ownz, fun x e => ⟨(a.bag x e).1, (a.bag x e).2, (R.bag x e).2.2⟩, ?_⟩, l⟩
  · obtain ⟨v, ev, sr⟩ := R.slot i dv e
    refine ⟨v, ev, ?_⟩
    cases sr with
    | dat s => exact .dat (s.mono l)
    | own h1 h2 h3 =>
      refine .own (a.keep _ _ h1 (R.ownz i _ _ e rfl ev).2 fun _ z => (by cases z)) (h2.mono l) fun z => ?_
      rcases a.new _ z with w | w
      · exact h3 w
      · obtain ⟨ps, e⟩ := w _ h1; cases e
    | nd s n => exact .nd (s.mono l) (n.mono l)
    | rng n => exact .rng (n.mono l)
    | dct h1 h3 =>
      rename_i a2 t2 kvs2
      have nn := h1.ne.2
      have e6 : H' a2 = H a2 := by
        cases q : H a2 with
        | none => exact absurd q nn
        | some o => exact a.keep _ _ q (R.ownz i _ _ e rfl ev).2 (free_dct h1 o q).1
      refine .dct (h1.mono l e6) fun z => ?_
      rcases a.new _ z with w | w
      · exact h3 w
      · cases q : H a2 with
        | none => exact nn q
        | some o =>
          obtain ⟨ps, e⟩ := w _ q
          exact (free_dct h1 o q).1 ps e
    | bag s => exact .bag s
  · obtain ⟨e, n⟩ := R.keep x z
    cases q : H x with
    | none => exact absurd q n
    | some o =>
      have q' := a.keep x o q (fun eb => (R.bag x eb).2.2 z) fun ps w => R.tb.z x z ps (w ▸ q)
      exact ⟨q'.trans (q.symm.trans e), by rw [q']; simp⟩
  · rcases a.new x z with w | w
    · exact R.fnew x w
    · refine .inr fun q => ?_
      cases e : H x with
      | none => exact (R.keep x q).2 e
      | some o =>
        obtain ⟨ps, e2⟩ := w _ e
        exact R.tb.z x q ps (e2 ▸ e)
  · refine a.tb.imp (fun x z ps e => ?_) a.tb.f
    cases q : H x with
    | none => exact (R.keep x z).2 q
    | some o =>
      have nt : ∀ ps, o ≠ .tbl ps := fun ps w => R.tb.z x z ps (w ▸ q)
      have q' := a.keep x o q (fun eb => (R.bag x eb).2.2 z) nt
      rw [q'] at e
      exact nt ps (Option.some.inj e)
/-- f(e, ..) -/
theorem de_call {g : Bool} {k : Nat} {f : Addr} {fd : FuncData} {ps : List Str} {S : Spec} {dvs : List V} {dds : List D} {dfs : List Value} {u : AX} (F : FnG g X.prog X.w X.K X.mg X.base k f fd ps S) (hgd : g = true → X.A.guards = some []) (hr : Room k X.A) (tk : Takes X W)
    (hm : X.mg x = some (.ref f)) (hk : PySem.W.keepIn X.K (.ref f) = true) (hb : Binds X.K fd ps dfs) (hd : Vals dvs dfs) (hdd : ∀ K H F, DpFs K H F dvs dds) (hn : es.length + 1 + dds.length = ps.length) (ha : DA X W (e :: es) u) (hg : Gl X x := by rfl)
    (hdb : (x == ("__debug__" : Str)) = false := by decide) (he : starEach (e :: es) X.env = (false, eval e X.env) :: starEach es X.env := by rfl) (hpl : (backTo pos (starEach es X.env)).any (·.1) = false := by rfl) :
    DE X W (.Call (.Name x p) (e :: es) [] pos) (xCall (fun vs => S (vs ++ dds.map .dat)) u) := by
  obtain ⟨t, pa, ent⟩ := ha.ex
  refine ⟨⟨tCallG X.K X.w X.mg ps.length S dvs W t, ⟨fun pins s σ H Q I h => ?_⟩, fun C r σ H F Q Xk QV hK R L hf k => ?_⟩⟩
  · refine wpAny_Call_Name_kw (ld_glob I hg hm ?_ hdb)
    exact PySem.W.callWith_K (h₀ := X.base) I.ok.mod.kin hk (thn (pa.run pos pins s σ H _ I h) fun us s1 ⟨vs, H1, I1, rv, q⟩ => ⟨I1.kIn, run_fnG F hgd hr hb hd tk I1 rv q⟩) he hpl
  · refine ent C r σ H F _ Xk _ hK R L hf fun vs H1 F1 ds r1 hl R1 A1 q1 => ?_
    have hlen1 : (vs ++ dvs).length = ps.length := by
      rw [List.length_append, hl, (hdd X.K H1 F1).length]
      exact hn
    have app : ∀ {vs : List V} {ds : List DV}, ArgR C.K H1 F1 C.b vs ds → ArgR C.K H1 F1 C.b (vs ++ dvs) (ds ++ dds.map .dat) := fun {vs ds} a => by
      induction a with
      | nil =>
        have h0 := hdd C.K H1 F1
        show ArgR C.K H1 F1 C.b dvs (dds.map .dat)
        clear hdd hn hlen1 hf q1 hd
        induction dvs generalizing dds with
        | nil => cases h0; exact .nil
        | cons v vs ih =>
          cases h0 with
          | cons h1 h2 => exact .dat h1 (ih h2)
      | dat h _ ih => exact .dat h ih
      | bag h _ ih => exact .bag h ih
    refine ⟨hlen1, C.b, F1, ds ++ dds.map .dat, _, _, ⟨hK ▸ app A1, R1.ftrk, fun y e => ⟨hK ▸ (R1.bag y e).1, (R1.bag y e).2.1⟩, hK ▸ R1.tb.imp (fun _ z => z.elim) R1.tb.f⟩, q1, fun dv q2 v H' F' af br => ?_, fun er q2 cls d H' F' af he' => ?_⟩
    · obtain ⟨R2, l2⟩ := rep_after R1 (hK ▸ af)
      refine k v H' F' dv r1 R2 ?_ q2
      cases br with
      | dat s => exact .dat (hK ▸ s)
      | own h1 h2 h3 h4 =>
        refine .own h1 (hK ▸ h2) h3 (fun z => h4.no (R1.keep _ z).2 (R1.tb.z _ z)) (fun z => ?_) fun i es e1 o1 e2 => ?_
        · obtain ⟨⟨_, _, _, _, _, g1, _⟩, _, _⟩ := R1.bag _ z
          obtain ⟨ps, e⟩ := h4 _ g1; cases e
        · obtain ⟨v, e3, sr⟩ := R1.slot i _ e1
          rw [e2] at e3; cases e3
          cases sr with
          | own g1 _ _ => obtain ⟨ps, e⟩ := h4 _ g1; cases e
          | dct g1 _ => exact h4.no g1.ne.2 (free_dct g1).nt
          | nd _ _ => cases o1
          | rng _ => cases o1
          | dat _ => cases o1
          | bag _ => cases o1
      | nd s n => exact .nd (hK ▸ s) n
      | rng n => exact .rng n
      | dct h1 h3 h4 =>
        refine .dct (hK ▸ L.w ▸ h1) h3 (fun z => h4.no (R1.keep _ z).2 (R1.tb.z _ z)) (fun z => ?_) fun i es e1 o1 e2 => ?_
        · obtain ⟨⟨_, _, _, _, _, g1, _⟩, _, _⟩ := R1.bag _ z
          obtain ⟨ps, e⟩ := h4 _ g1; cases e
        · obtain ⟨v, e3, sr⟩ := R1.slot i _ e1
          rw [e2] at e3; cases e3
          cases sr with
          | own g1 _ _ => obtain ⟨ps, e⟩ := h4 _ g1; cases e
          | dct g1 _ => exact h4.no g1.ne.2 (free_dct g1).nt
          | nd _ _ => cases o1
          | rng _ => cases o1
          | dat _ => cases o1
          | bag _ => cases o1
      | bag s => exact .bag s
    · exact L.go er r1 H' F' cls d (rep_after R1 (hK ▸ af)).1 (hK ▸ he') q2
end
end DL

/-! DL: what operators and built-ins do with data. -/
namespace DL
open PySem
abbrev LN : Nat := 16777216
def dInt (f : Int → Int → D) : Op2 := fun x y Q => match x, y with
  | .int a, .int b => Q (.dat (f a b))
  | _, _ => False
def dAdd : Op2 := fun x y Q => match x, y with
  | .int a, .int b => Q (.dat (.int (a + b)))
  | .str a, .str b => a.length + b.length ≤ LN ∧ Q (.dat (.str (a ++ b)))
  | .tuple a, .tuple b => a.length + b.length ≤ LN ∧ Q (.dat (.tuple (a ++ b)))
  | .list a, .list b => a.length + b.length ≤ LN ∧ Q (.own (a ++ b))
  | _, _ => False
def dSub : Op2 := dInt fun a b => .int (a - b)
def mulOk (a b : Int) : Prop := (-(2 ^ 64) < a ∧ a < 2 ^ 64) ∨ (-(2 ^ 64) < b ∧ b < 2 ^ 64) ∨ (a.natAbs < 2 ^ 200 ∧ b.natAbs < 2 ^ 200)
def dMul : Op2 := fun x y Q => match x, y with
  | .int a, .int b => mulOk a b ∧ Q (.dat (.int (a * b)))
  | .tuple xs, .int k => (0 ≤ k ∧ k ≤ 1000 ∧ 0 < xs.length ∧ xs.length ≤ 1000) ∧ Q (.dat (.tuple (List.replicate k.toNat xs).flatten))
  | .list xs, .int k => (-(2 ^ 63) ≤ k ∧ k < 2 ^ 63 ∧ xs.length * k.toNat ≤ LN) ∧ Q (.own (List.replicate k.toNat xs).flatten)
  | _, _ => False
def dDiv : Op2 := fun x y Q => match x, y with
  | .int a, .int b => (0 < b ∧ b < 2 ^ 200) ∧ Q (.dat (.int (a / b)))
  | _, _ => False
def dMod : Op2 := fun x y Q => match x, y with
  | .int a, .int b => 0 < b ∧ Q (.dat (.int (a % b)))
  | _, _ => False
def dPow : Op2 := fun x y Q => match x, y with
  | .int a, .int b => (0 ≤ b ∧ b ≤ 1000000 ∧ a.natAbs < 2 ^ 64) ∧ Q (.dat (.int (a ^ b.toNat)))
  | _, _ => False
def dNeg : D → (DV → Prop) → Prop := fun x Q => match x with
  | .int a => Q (.dat (.int (-a)))
  | _ => False
/-- what may be compared by == and shown -/
def okD (d : D) : Prop := SeqAt.shaped d = true
def dEq : Op2 := fun x y Q => okD x ∧ okD y ∧ Q (.dat (.bool (PyData.eqv x y)))
def dNe : Op2 := fun x y Q => okD x ∧ okD y ∧ Q (.dat (.bool (!PyData.eqv x y)))
def intsOf : List D → Option (List Int)
  | [] => some []
  | .int i :: r => (intsOf r).map (i :: ·)
  | _ => none
def cmpI (f : Int → Int → Bool) (g : List Nat → List Nat → Bool) : Op2 := fun x y Q => match x, y with
  | .int a, .int b => Q (.dat (.bool (f a b)))
  | .str a, .str b => Q (.dat (.bool (g a.cps.toList b.cps.toList)))
  | _, _ => False
def dLt : Op2 := fun x y Q => match x, y with
  | .int a, .int b => Q (.dat (.bool (decide (a < b))))
  | .str a, .str b => Q (.dat (.bool (decide (a.cps.toList < b.cps.toList))))
  | .tuple xs, .tuple ys => (match intsOf xs, intsOf ys with
    | some ns, some ms => Q (.dat (.bool (HT.lexLt ns ms)))
    | _, _ => False)
  | _, _ => False
def dLe : Op2 := fun x y Q => match x, y with
  | .int a, .int b => Q (.dat (.bool (decide (a ≤ b))))
  | _, _ => False
def dGt : Op2 := fun x y Q => match x, y with
  | .int a, .int b => Q (.dat (.bool (decide (b < a))))
  | _, _ => False
def dGe : Op2 := fun x y Q => match x, y with
  | .int a, .int b => Q (.dat (.bool (decide (b ≤ a))))
  | _, _ => False
def isNon : D → Bool
  | .none => true
  | _ => false
def dIs : Op2 := fun x y Q => match y with
  | .none => Q (.dat (.bool (isNon x)))
  | _ => False
def dIsNot : Op2 := fun x y Q => match y with
  | .none => Q (.dat (.bool (!isNon x)))
  | _ => False
def flatD : D → Bool
  | .none => true
  | .bool _ => true
  | .int _ => true
  | .str _ => true
  | _ => false
def isIn (x : D) (ds : List D) : Bool := ds.any fun z => PyData.eqv z x
def occurs (a b : Str) : Bool := !(Builtin.Str.occurrences b a 0 b.length 1).isEmpty
def dIn : Op2 := fun x y Q => match y with
  | .list ds => okD x ∧ okD (.list ds) ∧ Q (.dat (.bool (isIn x ds)))
  | .tuple ds => flatD x = true ∧ ds.all flatD = true ∧ Q (.dat (.bool (isIn x ds)))
  | .str b => (match x with
    | .str a => Q (.dat (.bool (occurs a b)))
    | _ => False)
  | _ => False
def dNotIn : Op2 := fun x y Q => match y with
  | .list ds => okD x ∧ okD (.list ds) ∧ Q (.dat (.bool (!isIn x ds)))
  | .tuple ds => flatD x = true ∧ ds.all flatD = true ∧ Q (.dat (.bool (!isIn x ds)))
  | .str b => (match x with
    | .str a => Q (.dat (.bool (!occurs a b)))
    | _ => False)
  | _ => False
def dIx : Op2 := fun x y Q => match x, y with
  | .list xs, .int i => (match L2.atI xs i with
    | some d => Q (.dat d)
    | none => False)
  | .tuple xs, .int i => (match L2.atI xs i with
    | some d => Q (.dat d)
    | none => False)
  | .str z, .int i => z.length ≤ LN ∧ (match L2.atI z.cps.toList i with
    | some c => Q (.dat (.str ⟨#[c]⟩))
    | none => False)
  | _, _ => False
def cutD (xs : List D) (lo hi : Option Int) : List D := (xs.drop (HT.sIx xs.length 0 lo)).take (HT.sIx xs.length xs.length hi - HT.sIx xs.length 0 lo)
def cutC (z : Str) (lo hi : Option Int) : Str := L2.cutS z lo hi
def optI : Option D → Option (Option Int)
  | none => some none
  | some (.int i) => some (some i)
  | some _ => none
def dCut : D → Option Int → Option Int → (DV → Prop) → Prop := fun x lo hi Q => match x with
  | .list xs => Q (.own (cutD xs lo hi))
  | .tuple xs => Q (.dat (.tuple (cutD xs lo hi)))
  | .str z => z.length ≤ LN ∧ Q (.dat (.str (cutC z lo hi)))
  | _ => False
/-! built-ins -/
def nLen : OpN := fun ds Q => match ds with
  | [.list xs] => Q (.dat (.int xs.length))
  | [.tuple xs] => Q (.dat (.int xs.length))
  | [.str z] => z.length ≤ LN ∧ Q (.dat (.int z.length))
  | _ => False
def nRepr : OpN := fun ds Q => match ds with
  | [d] => (d.showable = true ∧ d.hasDict = false ∧ d.depth ≤ 64 ∧ d.shown.length ≤ LN) ∧ Q (.dat (.str d.shown))
  | _ => False
def nTuple : OpN := fun ds Q => match ds with
  | [.list xs] => Q (.dat (.tuple xs))
  | [.tuple xs] => Q (.dat (.tuple xs))
  | _ => False
def nList : OpN := fun ds Q => match ds with
  | [.list xs] => Q (.own xs)
  | [.tuple xs] => Q (.own xs)
  | _ => False
def nInt : OpN := fun ds Q => match ds with
  | [.int i] => Q (.dat (.int i))
  | [.bool k] => Q (.dat (.int (if k then 1 else 0)))
  | _ => False
def nBool : OpN := fun ds Q => match ds with
  | [.int i] => Q (.dat (.bool (i != 0)))
  | [.bool k] => Q (.dat (.bool k))
  | _ => False
def nAbs : OpN := fun ds Q => match ds with
  | [.int i] => Q (.dat (.int (if i < 0 then -i else i)))
  | _ => False
def nMax : OpN := fun ds Q => match ds with
  | [.int i, .int j] => Q (.dat (.int (if j > i then j else i)))
  | [.list xs] => (match intsOf xs with
    | some ns => 0 < ns.length ∧ ∀ m, m ∈ ns → (∀ y, y ∈ ns → y ≤ m) → Q (.dat (.int m))
    | none => False)
  | _ => False
def nMin : OpN := fun ds Q => match ds with
  | [.int i, .int j] => Q (.dat (.int (if j < i then j else i)))
  | [.list xs] => (match intsOf xs with
    | some ns => 0 < ns.length ∧ ∀ m, m ∈ ns → (∀ y, y ∈ ns → m ≤ y) → Q (.dat (.int m))
    | none => False)
  | _ => False
def nSum : OpN := fun ds Q => match ds with
  | [.list xs] => (match intsOf xs with
    | some ns => Q (.dat (.int ns.sum))
    | none => False)
  | _ => False
def boolsOf : List D → Option (List Bool)
  | [] => some []
  | .bool i :: r => (boolsOf r).map (i :: ·)
  | _ => none
def nAll : OpN := fun ds Q => match ds with
  | [.list xs] => (match boolsOf xs with
    | some bs => Q (.dat (.bool (bs.all id)))
    | none => False)
  | _ => False
def nAny : OpN := fun ds Q => match ds with
  | [.list xs] => (match boolsOf xs with
    | some bs => Q (.dat (.bool (bs.any id)))
    | none => False)
  | _ => False
def nStr : OpN := fun ds Q => match ds with
  | [.int i] => i.natAbs.log2 < 1920 ∧ Q (.dat (.str (toString i)))
  | _ => False
/-! methods of lists that change them -/
abbrev OpM := List D → List D → (List D → DV → Prop) → Prop
def mExtend : OpM := fun es ds Q => match ds with
  | [.list xs] => es.length + xs.length ≤ LN ∧ Q (es ++ xs) (.dat .none)
  | _ => False
def mPop : OpM := fun es ds Q => match ds with
  | [.int i] => (-(2 ^ 63) ≤ i ∧ i < 2 ^ 63) ∧ (match seqIndex? i es.length with
    | some k => (match es[k]? with
      | some y => Q (es.eraseIdx k) (.dat y)
      | none => False)
    | none => False)
  | _ => False
def mPop0 : OpM := fun es ds Q => match ds with
  | [] => (match es[es.length - 1]? with
    | some y => Q es.dropLast (.dat y)
    | none => False)
  | _ => False
end DL

/-! DL, part 8: operators and built-ins by the hand layer's rules. -/
namespace DL
open PySem PySem.Spec L2
section
variable {C : Ctx} {r : Env} {σ : L2.St} {H : Hp} {F : AP} {X : Cx}
abbrev KQ (C : Ctx) (r : Env) (σ : L2.St) (H : Hp) (F : AP) (Q : DV → Prop) (QV : VK) : Prop := ∀ v H' F' dv, Rep C r σ H' F' → Later H F H' F' → Res C r σ H' F' v dv → Q dv → QV v H'
theorem kq_dat {Q : DV → Prop} {QV : VK} {v : V} {d : D} (k : KQ C r σ H F Q QV) (R : Rep C r σ H F) (h : DpF C.K H F v d) (q : Q (.dat d)) : QV v H := k v H F _ R Later.refl (.dat h) q
theorem kq_tup {Q : DV → Prop} {QV : VK} {xs : List V} {ds : List D} {p : Addr} (k : KQ C r σ H F Q QV) (R : Rep C r σ H F) (hp : H p = none) (h : DpFs C.K H F xs ds) (q : Q (.dat (.tuple ds))) : QV (.ref p) (upd H p (.tup xs)) := by
  obtain ⟨R2, G2, l2⟩ := R.freshTup hp h
  exact k _ _ _ _ R2 l2 G2 q
theorem kq_own {Q : DV → Prop} {QV : VK} {xs : List V} {ds : List D} {p : Addr} (k : KQ C r σ H F Q QV) (R : Rep C r σ H F) (hp : H p = none) (h : DpFs C.K H F xs ds) (q : Q (.own ds)) : QV (.ref p) (upd H p (.lst xs)) := by
  obtain ⟨R2, G2, l2⟩ := R.freshOwn hp h
  exact k _ _ _ _ R2 l2 G2 q
theorem dpf_tup {v : V} {ds : List D} (h : DpT C.K H F v (.tuple ds)) : DpF C.K H F v (.tuple ds) := by
  rcases h with h | ⟨a, xs, ds', rfl, e, _, _⟩
  · exact h
  · cases e
/-! ### arithmetic -/
def rAdd4 (K : PySem.W.Frag) : R2 := fun x y H Q => rI0 (fun i j => .int (i + j)) x y H Q ∨ ((∃ i j, x = .str i ∧ y = .str j ∧ i.length + j.length ≤ sizeLine ∧ Q (.str (i ++ j)) H) ∨ (rCatA K x y H Q ∨ rCat x y H Q))
theorem op_add4 : OpR X (binaryOp .Add) (rAdd4 X.K) := op_add.or (op_add_str.or (op_catA.or op_cat))
theorem sem_add {K : PySem.W.Frag} : Sem2 K (rAdd4 K) dAdd := by
  intro C r σ H F x y dx dy Q QV hK R hx hy hq k
  subst hK
  unfold dAdd at hq
  split at hq
  · cases hx.int; cases hy.int
    exact .inl ⟨_, _, rfl, rfl, kq_dat k R (.int _) hq⟩
  · cases hx.str; cases hy.str
    exact .inr (.inl ⟨_, _, rfl, rfl, by rw [line_eq]; exact hq.1, kq_dat k R (.str _) hq.2⟩)
  · rename_i a b
    obtain ⟨pa, xs, rfl, h1, h2, _⟩ := hx.tup
    obtain ⟨pb, ys, rfl, h3, h4, _⟩ := hy.tup
    refine .inr (.inr (.inl ⟨_, _, _, _, rfl, rfl, h1, h3, by rw [line_eq, h2.length, h4.length]; exact hq.1, fun e => ?_, fun _ e => ?_, fun _ _ p hp => kq_tup k R hp (h2.app h4) hq.2⟩))
    · subst e
      cases h2
      exact kq_dat k R (dpf_tup hy) (by simpa using hq.2)
    · subst e
      cases h4
      exact kq_dat k R (dpf_tup hx) (by simpa using hq.2)
  · obtain ⟨pa, xs, rfl, h1, h2⟩ := hx.lst
    obtain ⟨pb, ys, rfl, h3, h4⟩ := hy.lst
    exact .inr (.inr (.inr ⟨_, _, _, _, rfl, rfl, h1, h3, by rw [line_eq, h2.length, h4.length]; exact hq.1, fun p hp => kq_own k R hp (h2.app h4) hq.2⟩))
  · exact hq.elim
theorem sem_int {K : PySem.W.Frag} {f : Int → Int → V} {g : Int → Int → D} (h : ∀ K H F i j, DpF K H F (f i j) (g i j)) : Sem2 K (rI0 f) (dInt g) := by
  intro C r σ H F x y dx dy Q QV hK R hx hy hq k
  unfold dInt at hq
  split at hq
  · cases hx.int; cases hy.int
    exact ⟨_, _, rfl, rfl, kq_dat k R (h _ _ _ _ _) hq⟩
  · exact hq.elim
theorem sem_sub {K : PySem.W.Frag} : Sem2 K (rI0 fun i j => .int (i - j)) dSub := sem_int fun _ _ _ _ _ => .int _
def rMul2 : R2 := rI (fun i j => CMul i j ∨ CMulW i j) fun i j => .int (i * j)
theorem op_mul2 : OpR X (binaryOp .Mult) rMul2 := opI fun _ _ _ _ _ _ _ hc q => PyProof.Rows.mul_int q (hc.elim CMul.ok CMulW.ok)
theorem mulOk_of {a b : Int} (h : mulOk a b) : CMul a b ∨ CMulW a b := by
  rcases h with h | h | h
  · exact .inl (.inl h)
  · exact .inl (.inr h)
  · exact .inr (wide_mul (a := 200) (b := 200) h.1 h.2 (by decide) (by decide) (by decide))
theorem sem_div {K : PySem.W.Frag} : Sem2 K (rI CDivW fun i j => .int (i / j)) dDiv := by
  intro C r σ H F x y dx dy Q QV hK R hx hy hq k
  unfold dDiv at hq
  split at hq
  · rename_i a b
    cases hx.int; cases hy.int
    refine ⟨_, _, rfl, rfl, wide_div (b := 200) hq.1.1 ?_ (by decide) (by decide), kq_dat k R (.int _) hq.2⟩
    have h1 := hq.1.1
    have h2 : b < 2 ^ 200 := hq.1.2
    have h3 : (b.natAbs : Int) = b := Int.natAbs_of_nonneg (by omega)
    have h4 : ((b.natAbs : Nat) : Int) < ((2 ^ 200 : Nat) : Int) := by rw [h3]; exact_mod_cast h2
    exact_mod_cast h4
  · exact hq.elim
theorem sem_mod {K : PySem.W.Frag} : Sem2 K (rI (fun _ j => 0 < j) fun i j => .int (i % j)) dMod := by
  intro C r σ H F x y dx dy Q QV hK R hx hy hq k
  unfold dMod at hq
  split at hq
  · cases hx.int; cases hy.int
    exact ⟨_, _, rfl, rfl, hq.1, kq_dat k R (.int _) hq.2⟩
  · exact hq.elim
theorem sem_pow {K : PySem.W.Frag} : Sem2 K (rI CPow fun i j => .int (i ^ j.toNat)) dPow := by
  intro C r σ H F x y dx dy Q QV hK R hx hy hq k
  unfold dPow at hq
  split at hq
  · cases hx.int; cases hy.int
    exact ⟨_, _, rfl, rfl, hq.1, kq_dat k R (.int _) hq.2⟩
  · exact hq.elim
theorem sem_neg {K : PySem.W.Frag} : Sem1 K (rU fun i => .int (-i)) dNeg := by
  intro C r σ H F x dx Q QV hK R hx hq k
  unfold dNeg at hq
  split at hq
  · cases hx.int
    exact ⟨_, rfl, kq_dat k R (.int _) hq⟩
  · exact hq.elim
/-! ### comparisons -/
theorem sem_eq {K : PySem.W.Frag} : Sem2 K (rEqD K) dEq := by
  intro C r σ H F x y dx dy Q QV hK R hx hy hq k
  subst hK
  exact ⟨_, _, hx.dp (okd_nodict hq.1), hy.dp (okd_nodict hq.2.1), hq.1, hq.2.1, kq_dat k R (.bl _) hq.2.2⟩
theorem sem_ne {K : PySem.W.Frag} : Sem2 K (rNeD K) dNe := by
  intro C r σ H F x y dx dy Q QV hK R hx hy hq k
  subst hK
  exact ⟨_, _, hx.dp (okd_nodict hq.1), hy.dp (okd_nodict hq.2.1), hq.1, hq.2.1, kq_dat k R (.bl _) hq.2.2⟩
theorem intsOf_some : ∀ {ds : List D} {ns : List Int}, intsOf ds = some ns → ds = ns.map PyData.int
  | [], _, h => by cases h; rfl
  | .int i :: r, ns, h => by
    simp only [intsOf] at h
    cases q : intsOf r with
    | none => rw [q] at h; cases h
    | some ms => rw [q] at h; cases h; rw [intsOf_some q]; rfl
  | .none :: _, _, h => by cases h
  | .bool _ :: _, _, h => by cases h
  | .str _ :: _, _, h => by cases h
  | .list _ :: _, _, h => by cases h
  | .tuple _ :: _, _, h => by cases h
  | .dict _ :: _, _, h => by cases h
theorem boolsOf_some : ∀ {ds : List D} {ns : List Bool}, boolsOf ds = some ns → ds = ns.map PyData.bool
  | [], _, h => by cases h; rfl
  | .bool i :: r, ns, h => by
    simp only [boolsOf] at h
    cases q : boolsOf r with
    | none => rw [q] at h; cases h
    | some ms => rw [q] at h; cases h; rw [boolsOf_some q]; rfl
  | .none :: _, _, h => by cases h
  | .int _ :: _, _, h => by cases h
  | .str _ :: _, _, h => by cases h
  | .list _ :: _, _, h => by cases h
  | .tuple _ :: _, _, h => by cases h
  | .dict _ :: _, _, h => by cases h
def rLt3 (K : PySem.W.Frag) : R2 := fun x y H Q => rI0 (fun i j => .bl (decide (i < j))) x y H Q ∨ ((∃ i j, x = .str i ∧ y = .str j ∧ Q (.bl (decide (i.cps.toList < j.cps.toList))) H) ∨ rLtT K x y H Q)
theorem op_lt3 (hu : X.A.units < cLine) : OpR X (compareOp .Lt) (rLt3 X.K) := op_lt.or (op_lt_str.or (op_ltT hu))
theorem sem_lt {K : PySem.W.Frag} : Sem2 K (rLt3 K) dLt := by
  intro C r σ H F x y dx dy Q QV hK R hx hy hq k
  subst hK
  unfold dLt at hq
  split at hq
  · cases hx.int; cases hy.int
    exact .inl ⟨_, _, rfl, rfl, kq_dat k R (.bl _) hq⟩
  · cases hx.str; cases hy.str
    exact .inr (.inl ⟨_, _, rfl, rfl, kq_dat k R (.bl _) hq⟩)
  · split at hq
    · rename_i ns ms e1 e2
      have e1 := intsOf_some e1
      have e2 := intsOf_some e2
      subst e1 e2
      obtain ⟨pa, xs, rfl, h1, h2, _⟩ := hx.tup
      obtain ⟨pb, ys, rfl, h3, h4, _⟩ := hy.tup
      have := h2.vints
      subst this
      have := h4.vints
      subst this
      exact .inr (.inr ⟨_, _, _, _, rfl, rfl, h1, h3, kq_dat k R (.bl _) hq⟩)
    · exact hq.elim
  · exact hq.elim
theorem sem_le {K : PySem.W.Frag} : Sem2 K (rI0 fun i j => .bl (decide (i ≤ j))) dLe := by
  intro C r σ H F x y dx dy Q QV hK R hx hy hq k
  unfold dLe at hq
  split at hq
  · cases hx.int; cases hy.int
    exact ⟨_, _, rfl, rfl, kq_dat k R (.bl _) hq⟩
  · exact hq.elim
theorem sem_gt {K : PySem.W.Frag} : Sem2 K (rI0 fun i j => .bl (decide (j < i))) dGt := by
  intro C r σ H F x y dx dy Q QV hK R hx hy hq k
  unfold dGt at hq
  split at hq
  · cases hx.int; cases hy.int
    exact ⟨_, _, rfl, rfl, kq_dat k R (.bl _) hq⟩
  · exact hq.elim
theorem sem_ge {K : PySem.W.Frag} : Sem2 K (rI0 fun i j => .bl (decide (j ≤ i))) dGe := by
  intro C r σ H F x y dx dy Q QV hK R hx hy hq k
  unfold dGe at hq
  split at hq
  · cases hx.int; cases hy.int
    exact ⟨_, _, rfl, rfl, kq_dat k R (.bl _) hq⟩
  · exact hq.elim
theorem isNon_of {v : V} {d : D} (h : DpT C.K H F v d) : decide (v = .non) = isNon d := by
  cases d with
  | none => cases h.non; rfl
  | bool => cases h.bl; rfl
  | int => cases h.int; rfl
  | str => cases h.str; rfl
  | list => obtain ⟨_, _, rfl, _⟩ := h.lst; rfl
  | tuple => obtain ⟨_, _, rfl, _⟩ := h.tup; rfl
  | dict =>
    rcases h with h | ⟨_, _, _, _, e, _⟩
    · cases h
      rfl
    · cases e
theorem sem_is {K : PySem.W.Frag} : Sem2 K (fun x y H Q => y = .non ∧ Q (.bl (decide (x = .non))) H) dIs := by
  intro C r σ H F x y dx dy Q QV hK R hx hy hq k
  unfold dIs at hq
  split at hq
  · cases hy.non
    rw [isNon_of hx]
    exact ⟨rfl, kq_dat k R (.bl _) hq⟩
  · exact hq.elim
theorem sem_isnot {K : PySem.W.Frag} : Sem2 K (fun x y H Q => y = .non ∧ Q (.bl (!decide (x = .non))) H) dIsNot := by
  intro C r σ H F x y dx dy Q QV hK R hx hy hq k
  unfold dIsNot at hq
  split at hq
  · cases hy.non
    rw [isNon_of hx]
    exact ⟨rfl, kq_dat k R (.bl _) hq⟩
  · exact hq.elim
theorem flat_of {v : V} {d : D} (h : DpT C.K H F v d) (f : flatD d = true) : flatV v = true := by
  cases d with
  | none => cases h.non; rfl
  | bool => cases h.bl; rfl
  | int => cases h.int; rfl
  | str => cases h.str; rfl
  | list => cases f
  | tuple => cases f
  | dict => cases f
theorem eqV_of {u v : V} {c d : D} (hu : DpT C.K H F u c) (hv : DpT C.K H F v d) (f : flatD c = true) (g : flatD d = true) : eqV u v = PyData.eqv c d := by
  cases c with
  | none => cases hu.non; cases d with
    | none => cases hv.non; rfl
    | bool => cases hv.bl; rfl
    | int => cases hv.int; rfl
    | str => cases hv.str; rfl
    | _ => cases g
  | bool => cases hu.bl; cases d with
    | none => cases hv.non; rfl
    | bool => cases hv.bl; rfl
    | int => cases hv.int; rfl
    | str => cases hv.str; rfl
    | _ => cases g
  | int => cases hu.int; cases d with
    | none => cases hv.non; rfl
    | bool => cases hv.bl; rfl
    | int => cases hv.int; rfl
    | str => cases hv.str; rfl
    | _ => cases g
  | str => cases hu.str; cases d with
    | none => cases hv.non; rfl
    | bool => cases hv.bl; rfl
    | int => cases hv.int; rfl
    | str => cases hv.str; rfl
    | _ => cases g
  | _ => cases f
theorem flats_of {xs : List V} {ds : List D} (h : DpFs C.K H F xs ds) (f : ds.all flatD = true) : xs.all flatV = true := by
  induction xs generalizing ds with
  | nil => rfl
  | cons x xs ih =>
    cases h with
    | cons h1 h2 =>
      rw [List.all_cons, Bool.and_eq_true] at f
      rw [List.all_cons, flat_of (.inl h1) f.1, ih h2 f.2]
      rfl
theorem inV_of {x : V} {d : D} {xs : List V} {ds : List D} (hx : DpT C.K H F x d) (h : DpFs C.K H F xs ds) (f : flatD d = true) (g : ds.all flatD = true) : inV x xs = isIn d ds := by
  unfold inV isIn
  induction xs generalizing ds with
  | nil => cases h; rfl
  | cons y ys ih =>
    cases h with
    | cons h1 h2 =>
      rw [List.all_cons, Bool.and_eq_true] at g
      rw [List.any_cons, List.any_cons, eqV_of (.inl h1) hx g.1 f, ih h2 g.2]
def rIn3 (K : PySem.W.Frag) : R2 := fun x y H Q => rInD K x y H Q ∨ (rIn K false x y H Q ∨ ∃ i j, x = .str i ∧ y = .str j ∧ Q (.bl (!(Builtin.Str.occurrences j i 0 j.length 1).isEmpty)) H)
theorem op_in3 (hu : X.A.units + 65 < cLine) : OpR X (compareOp .In) (rIn3 X.K) := (op_inD hu).or (op_in_seq.or op_in_str)
theorem sem_in {K : PySem.W.Frag} : Sem2 K (rIn3 K) dIn := by
  intro C r σ H F x y dx dy Q QV hK R hx hy hq k
  subst hK
  unfold dIn at hq
  split at hq
  · exact .inl ⟨_, _, hx.dp (okd_nodict hq.1), hy.dp (okd_nodict hq.2.1), hq.1, hq.2.1, kq_dat k R (.bl _) hq.2.2⟩
  · obtain ⟨pb, ys, rfl, h3, h4, _⟩ := hy.tup
    refine .inr (.inl ⟨_, _, rfl, .inr h3, flat_of hx hq.1, flats_of h4 hq.2.1, ?_⟩)
    rw [inV_of hx h4 hq.1 hq.2.1]
    exact kq_dat k R (.bl _) hq.2.2
  · split at hq
    · cases hx.str; cases hy.str
      exact .inr (.inr ⟨_, _, rfl, rfl, kq_dat k R (.bl _) hq⟩)
    · exact hq.elim
  · exact hq.elim
def rNotIn3 (K : PySem.W.Frag) : R2 := fun x y H Q => rNotInD K x y H Q ∨ (rIn K true x y H Q ∨ ∃ i j, x = .str i ∧ y = .str j ∧ Q (.bl (!(!(Builtin.Str.occurrences j i 0 j.length 1).isEmpty))) H)
theorem op_notin3 (hu : X.A.units + 65 < cLine) : OpR X (compareOp .NotIn) (rNotIn3 X.K) := (op_notInD hu).or (op_notIn_seq.or op_notIn_str)
theorem sem_notin {K : PySem.W.Frag} : Sem2 K (rNotIn3 K) dNotIn := by
  intro C r σ H F x y dx dy Q QV hK R hx hy hq k
  subst hK
  unfold dNotIn at hq
  split at hq
  · exact .inl ⟨_, _, hx.dp (okd_nodict hq.1), hy.dp (okd_nodict hq.2.1), hq.1, hq.2.1, kq_dat k R (.bl _) hq.2.2⟩
  · obtain ⟨pb, ys, rfl, h3, h4, _⟩ := hy.tup
    refine .inr (.inl ⟨_, _, rfl, .inr h3, flat_of hx hq.1, flats_of h4 hq.2.1, ?_⟩)
    rw [inV_of hx h4 hq.1 hq.2.1]
    exact kq_dat k R (.bl _) hq.2.2
  · split at hq
    · cases hx.str; cases hy.str
      exact .inr (.inr ⟨_, _, rfl, rfl, kq_dat k R (.bl _) hq⟩)
    · exact hq.elim
  · exact hq.elim
/-! ### items, slices -/
theorem atI_of {xs : List V} {ds : List D} {i : Int} {d : D} (h : DpFs C.K H F xs ds) (e : atI ds i = some d) : ∃ v, atI xs i = some v ∧ DpF C.K H F v d := by
  unfold atI at e ⊢
  rw [h.length]
  cases q : ixN ds.length i with
  | none => rw [q] at e; cases e
  | some j =>
    rw [q] at e
    exact h.get e
theorem sem_ix {K : PySem.W.Frag} : Sem2 K (rIx K) dIx := by
  intro C r σ H F x y dx dy Q QV hK R hx hy hq k
  subst hK
  unfold dIx at hq
  split at hq
  · split at hq
    · rename_i e
      obtain ⟨pa, xs, rfl, h1, h2⟩ := hx.lst
      cases hy.int
      obtain ⟨v, ev, hv⟩ := atI_of h2 e
      exact .inl ⟨_, _, _, _, rfl, rfl, .inl (.inl h1), ev, kq_dat k R hv hq⟩
    · exact hq.elim
  · split at hq
    · rename_i e
      obtain ⟨pa, xs, rfl, h1, h2, _⟩ := hx.tup
      cases hy.int
      obtain ⟨v, ev, hv⟩ := atI_of h2 e
      exact .inr (.inl ⟨_, _, _, _, rfl, rfl, h1, ev, kq_dat k R hv hq⟩)
    · exact hq.elim
  · obtain ⟨hz, hq⟩ := hq
    split at hq
    · rename_i e
      cases hx.str
      cases hy.int
      exact .inr (.inr ⟨_, _, _, rfl, rfl, by rw [line_eq]; exact hz, e, kq_dat k R (.str _) hq⟩)
    · exact hq.elim
  · exact hq.elim
theorem cut_of {xs : List V} {ds : List D} (h : DpFs C.K H F xs ds) (lo hi : Option Int) : DpFs C.K H F (cutV xs lo hi) (cutD ds lo hi) := by
  unfold cutV cutD
  rw [h.length]
  exact (h.drop _).take _
def rSl3 (K : PySem.W.Frag) : V → Option Int → Option Int → Hp → VK → Prop := fun x lo hi H Q => rSlL K x lo hi H Q ∨ (rSlA K x lo hi H Q ∨ rSlS x lo hi H Q)
theorem sl_3 : L2.SlR X (rSl3 X.K) := L2.SlR.or sl_list (L2.SlR.or sl_tupA sl_str)
end
/-- a bound of a slice -/
abbrev PX := XW → Env → ((Env → Option (Option Int)) → Env → Prop) → Prop
def pNo : PX := fun _ r Q => Q (fun _ => some none) r
def pSome (o : OX) : PX := fun X r Q => o X r fun g r1 => match g r1 with
  | some (.int i) => Q (fun _ => some (some i)) r1
  | _ => False
def xCut (a : OX) (lo hi : PX) : TX := fun X r Q => a X r fun g r1 => lo X r1 fun l r2 => hi X r2 fun h r3 => match g r3, l r3, h r3 with
  | some d, some i, some j => dCut d i j fun v => Q v r3
  | _, _, _ => False
section
variable {X : Cx} {W : WX} {a b e : Expr} {pos : Pos}
structure DP (X : Cx) (W : WX) (e : Option Expr) (f : PX) : Prop where
  ex : ∃ t, PO X e t ∧ ∀ (C : Ctx) (r : Env) (σ : L2.St) (H : Hp) (F : AP) (Q : (Env → Option (Option Int)) → Env → Prop) (Xk : XW) (QV : Option Int → Hp → Prop), C.K = X.K → Rep C r σ H F → Link X W Xk C σ → f Xk r Q →
    (∀ o H' F' r', Rep C r' σ H' F' → Q (fun _ => some o) r' → QV o H') → t σ H QV
theorem dp_no : DP X W none pNo := ⟨⟨_, po_none, fun C r σ H F Q Xk QV _ R _ hf k => k none H F r R hf⟩⟩
theorem dp_some {o : OX} (h : DO X W e o) : DP X W (some e) (pSome o) := by
  obtain ⟨t, pe, ent⟩ := h.ex
  refine ⟨⟨_, po_some pe, fun C r σ H F Q Xk QV hK R L hf k => ?_⟩⟩
  refine ent C r σ H F _ Xk _ hK R L hf fun v H1 F1 g r1 R1 G1 q1 => ?_
  split at q1
  · rename_i i ei
    cases (G1 _ _ _ _ R1 Later.refl ei).int
    exact ⟨i, rfl, k _ H1 F1 r1 R1 q1⟩
  · exact q1.elim
theorem de_cut {oa : OX} {lo hi : Option Expr} {pl ph : PX} {p2 : Pos} (ha : DO X W a oa) (hl : DP X W lo pl) (hh : DP X W hi ph) : DE X W (.Subscript a (.Slice lo hi none p2) pos) (xCut oa pl ph) := by
  obtain ⟨t, pa, enta⟩ := ha.ex
  obtain ⟨u, pl', entl⟩ := hl.ex
  obtain ⟨w, ph', enth⟩ := hh.ex
  refine ⟨⟨_, pe_slice sl_3 pa pl' ph', fun C r σ H F Q Xk QV hK R L hf k => ?_⟩⟩
  refine enta C r σ H F _ Xk _ hK R L hf fun v H1 F1 g r1 R1 G1 q1 => ?_
  refine entl (C.up H1 F1 noT) r1 σ H1 F1 _ Xk _ hK R1.up0 (L.up R1) q1 fun i H2 F2 r2 R2' q2 => ?_
  refine enth (C.up H1 F1 noT) r2 σ H2 F2 _ Xk _ hK R2' (L.up R1) q2 fun j H3 F3 r3 R3' q3 => ?_
  have R3 := R1.down R3'
  split at q3
  · rename_i d i' j' ed ei ej
    cases ei
    cases ej
    have hd := G1 _ _ _ _ R3 R3'.later ed
    have kk : KQ C r3 σ H3 F3 (fun v => Q v r3) QV := fun v H' F' dv R' _ G' q' => k v H' F' dv r3 R' G' q'
    unfold dCut at q3
    split at q3
    · obtain ⟨pa, xs, rfl, h1, h2⟩ := hd.lst
      exact .inl ⟨_, _, rfl, .inl (.inl h1), fun p hp => kq_own kk R3 hp (cut_of h2 _ _) q3⟩
    · obtain ⟨pa, xs, rfl, h1, h2, _⟩ := hd.tup
      refine .inr (.inl ⟨_, _, rfl, hK ▸ h1, fun e => ?_, fun _ p hp => kq_tup kk R3 hp (cut_of h2 _ _) q3⟩)
      refine kq_dat kk R3 (dpf_tup hd) ?_
      rename_i ds _
      have hl := h2.length
      have : cutD ds i j = ds := by
        unfold cutD
        rw [← hl, e.1, e.2]
        simp [hl]
      rw [this] at q3
      exact q3
    · cases hd.str
      exact .inr (.inr ⟨_, rfl, by rw [line_eq]; exact q3.1, kq_dat kk R3 (.str _) q3.2⟩)
    · exact q3.elim
  · exact q3.elim
end
/-! ### built-ins -/
section
variable {X : Cx} {C : Ctx} {r : Env} {σ : L2.St} {H : Hp} {F : AP}
theorem DpTs.one {xs : List V} {d : D} (h : DpTs C.K H F xs [d]) : ∃ v, xs = [v] ∧ DpT C.K H F v d := by
  cases h with
  | cons h1 h2 => cases h2; exact ⟨_, rfl, h1⟩
theorem DpTs.two {xs : List V} {d c : D} (h : DpTs C.K H F xs [d, c]) : ∃ v w, xs = [v, w] ∧ DpT C.K H F v d ∧ DpT C.K H F w c := by
  cases h with
  | cons h1 h2 => cases h2 with
    | cons h3 h4 => cases h4; exact ⟨_, _, rfl, h1, h3⟩
def rLen2 (K : PySem.W.Frag) : List V → Hp → VK → Prop := fun xs H Q => (∃ p ys, xs = [.ref p] ∧ (SqL K H p ys ∨ SqT K H p ys) ∧ Q (.int ys.length) H) ∨ ∃ z, xs = [.str z] ∧ z.length ≤ sizeLine ∧ Q (.int z.length) H
theorem call_len2 : CallR X (.builtin "len") (rLen2 X.K) := call_len_seq.or call_len_str
theorem sem_len {K : PySem.W.Frag} : SemN K (rLen2 K) nLen := by
  intro C r σ H F xs ds Q QV hK R hx hq k
  subst hK
  unfold nLen at hq
  split at hq
  · obtain ⟨v, rfl, hv⟩ := hx.one
    obtain ⟨a, ys, rfl, h1, h2⟩ := hv.lst
    exact .inl ⟨_, _, rfl, .inl (.inl (.inl h1)), by rw [h2.length]; exact kq_dat k R (.int _) hq⟩
  · obtain ⟨v, rfl, hv⟩ := hx.one
    obtain ⟨a, ys, rfl, h1, h2, _⟩ := hv.tup
    exact .inl ⟨_, _, rfl, .inr h1, by rw [h2.length]; exact kq_dat k R (.int _) hq⟩
  · obtain ⟨v, rfl, hv⟩ := hx.one
    cases hv.str
    exact .inr ⟨_, rfl, by rw [line_eq]; exact hq.1, kq_dat k R (.int _) hq.2⟩
  · exact hq.elim
def rReprD (K : PySem.W.Frag) : List V → Hp → VK → Prop := fun xs H Q => ∃ v d, xs = [v] ∧ Dp K H v d ∧ d.showable = true ∧ d.hasDict = false ∧ d.depth ≤ 64 ∧ d.shown.length ≤ sizeLine ∧ Q (.str d.shown) H
theorem call_reprD (hg : X.A.guards = some []) (hu : X.A.units + 100 < cLine) : CallR X (.builtin "repr") (rReprD X.K) := by
  intro pins s σ H xs us Q I rv h
  obtain ⟨v, d, rfl, hd, h1, h2, h3, h4, q⟩ := h
  obtain ⟨u, rfl, ru⟩ := vals1 rv
  obtain ⟨as, rd⟩ := Dp.reads I d v u hd ru
  have fin : ∀ {h' : Heap} {tk : Nat} {t : Tok}, (∀ b o, s.heap.get? b = some o → h'.get? b = some o) → EP X pins σ Q (.str d.shown t) { s with heap := h', toks := tk } := fun {h' tk t} kk =>
    ⟨.str d.shown, H, I.kept kk, ⟨t, rfl⟩, q⟩
  cases hd with
  | non => cases ru; exact PySem.P.repr_of_none (fin fun _ _ z => z)
  | bl b => cases ru; exact PySem.P.repr_of_bool (fin fun _ _ z => z)
  | int i =>
    obtain ⟨t, rfl⟩ := ru
    refine PySem.P.repr_of_int ?_ (fin fun _ _ z => z)
    simpa [PyData.showable] using h1
  | str x =>
    obtain ⟨t, rfl⟩ := ru
    exact PySem.P.repr_of_str (fin fun _ _ z => z) (by simpa [PyData.shown] using h4)
  | lst =>
    cases ru
    exact PySem.repr_of_reads' rd h1 (fun z => by rw [h2] at z; cases z) hg (by omega) (fun _ _ z => z) (fun h' u tk kk => fin kk) h4
  | tup =>
    cases ru
    exact PySem.repr_of_reads' rd h1 (fun z => by rw [h2] at z; cases z) hg (by omega) (fun _ _ z => z) (fun h' u tk kk => fin kk) h4
end
end DL

/-! DL, part 9: more built-ins; t * k of a tuple for any small k. -/
namespace DL
open PySem PySem.Spec PyProof.Rows L2
theorem tup_mul_one (l : Addr) (items : Array Value) (n : Nat) (dd : Option Addr) (sl : Array (Option Value)) (x : Int) (u : Tok) (c0 : (decide (x < -(2 ^ 63)) || decide (x ≥ 2 ^ 63)) = false) (c1 : (items.isEmpty || x == 1) = true) :
    Meets (Builtin.«tuple.__mul__» ⟨[.ref l, .int x u], []⟩) (fun _ R s => s.heap.get? l = some { cls := .type "tuple", dict := dd, data := .seq items n, slots := sl } ∧ R (.ok (.ret (Value.ref l))) { s with heap := s.heap, toks := s.toks }) :=
  .of_wp fun prog w A R s h => by
    obtain ⟨hp, g, d, tk, os⟩ := s
    obtain ⟨hl, h⟩ := h
    have f1 := AutoSeq1.idx_int
    wp_walk using wpAny_loadPart' hl
    repeat (first
      | (refine wpAny_ite_false (decide_eq_false (by rw [c0]; exact Bool.false_ne_true)) ?_; wp_walk using wpAny_loadPart' hl)
      | (refine wpAny_ite_true (decide_eq_true c1) ?_; wp_walk using wpAny_loadPart' hl))
    exact ⟨_, rfl, h⟩
theorem tup_mul_zero (l : Addr) (items : Array Value) (n : Nat) (dd : Option Addr) (sl : Array (Option Value)) (x : Int) (u : Tok) (c0 : (decide (x < -(2 ^ 63)) || decide (x ≥ 2 ^ 63)) = false) (c1 : (items.isEmpty || x == 1) = false) (c2 : (decide (x ≤ 0) || items.isEmpty) = true) :
    Meets (Builtin.«tuple.__mul__» ⟨[.ref l, .int x u], []⟩) (fun _ R s => s.heap.get? l = some { cls := .type "tuple", dict := dd, data := .seq items n, slots := sl } ∧
      R (.ok (.ret (Value.ref s.heap.objs.size))) { s with heap := s.heap.push { cls := Value.type "tuple", data := Data.seq #[] }, toks := s.toks }) :=
  .of_wp fun prog w A R s h => by
    obtain ⟨hp, g, d, tk, os⟩ := s
    obtain ⟨hl, h⟩ := h
    have f1 := AutoSeq1.idx_int
    wp_walk using wpAny_loadPart' hl
    repeat (first
      | (refine wpAny_ite_false (decide_eq_false (by rw [c0]; exact Bool.false_ne_true)) ?_; wp_walk using wpAny_loadPart' hl)
      | (refine wpAny_ite_false (decide_eq_false (by rw [c1]; exact Bool.false_ne_true)) ?_; wp_walk using wpAny_loadPart' hl)
      | (refine wpAny_ite_true (decide_eq_true c2) ?_; wp_walk using wpAny_loadPart' hl))
    exact ⟨_, rfl, h⟩
def rRepX (K : PySem.W.Frag) : R2 := fun x y H Q => ∃ l k xs, x = .ref l ∧ y = .int k ∧ SqT K H l xs ∧ xs ≠ [] ∧ 0 ≤ k ∧ k ≤ 1000 ∧ xs.length ≤ 1000 ∧ (k = 1 → Q (.ref l) H) ∧ (k ≠ 1 → ∀ p, H p = none → Q (.ref p) (upd H p (.tup (List.replicate k.toNat xs).flatten)))
section
variable {X : Cx}
theorem op_repX : OpR X (binaryOp .Mult) (rRepX X.K) := by
  intro pins s σ H x y v u Q I rx ry h
  obtain ⟨l, k, xs, rfl, rfl, hT, hne, h0, h2, hz, q1, q2⟩ := h
  by_cases h3 : 2 ≤ k
  · exact op_repT pins s σ H _ _ v u Q I rx ry ⟨l, k, xs, rfl, rfl, hT, hne, h3, h2, hz, q2 (by omega)⟩
  cases rx
  obtain ⟨t, rfl⟩ := ry
  obtain ⟨its, r, ⟨⟨cls, dd, data, sl⟩, ho, hc, n, hd⟩, hs⟩ := I.tuple hT
  simp only at hc hd
  subst hc hd
  have hi : its.toArray.isEmpty = false := by
    cases its with
    | nil => cases r; exact absurd rfl hne
    | cons a b => rfl
  have c0 : (decide (k < -(2 ^ 63)) || decide (k ≥ 2 ^ 63)) = false := by
    rw [decide_eq_false (by omega), decide_eq_false (by omega)] <;> rfl
  by_cases h1 : k = 1
  · subst h1
    refine wpAny_binaryOp_repeat_ref (T := "tuple") (U := "int") (by decide) ⟨_, ho, rfl⟩ (fun s' => typeIs_int s' 1 t) noFill_tuple_mul F.fills_int_mul F.slot_int_rmul repeat_tuple F.slot_int_index.lookup
      (call_meets F.slot_int_rmul (typeIs_int s 1 t) F.entry_int_rmul (F.args_int_rmul_2 _ _) (int_rmul_tuple 1 t l its.toArray n dd sl)
        ⟨ho, rfl, ⟨_, ho, rfl⟩, call_meets F.slot_tuple_mul ⟨_, ho, rfl⟩ F.entry_tuple_mul (F.args_tuple_mul_2 _ _) (tup_mul_one l its.toArray n dd sl 1 t c0 (by rw [hi]; rfl)) ⟨ho, ?_⟩⟩)
    exact ⟨.ref l, H, I.tok _, rfl, q1 rfl⟩
  · have hk : k = 0 := by omega
    subst hk
    have e : (List.replicate (0 : Int).toNat xs).flatten = [] := rfl
    refine wpAny_binaryOp_repeat_ref (T := "tuple") (U := "int") (by decide) ⟨_, ho, rfl⟩ (fun s' => typeIs_int s' 0 t) noFill_tuple_mul F.fills_int_mul F.slot_int_rmul repeat_tuple F.slot_int_index.lookup
      (call_meets F.slot_int_rmul (typeIs_int s 0 t) F.entry_int_rmul (F.args_int_rmul_2 _ _) (int_rmul_tuple 0 t l its.toArray n dd sl)
        ⟨ho, rfl, ⟨_, ho, rfl⟩, call_meets F.slot_tuple_mul ⟨_, ho, rfl⟩ F.entry_tuple_mul (F.args_tuple_mul_2 _ _) (tup_mul_zero l its.toArray n dd sl 0 t c0 (by rw [hi]; rfl) (by rfl)) ⟨ho, ?_⟩⟩)
    refine ⟨.ref s.heap.objs.size, _, I.laid (t' := s.toks) (o := .tup []) (fun b ob q => Heap.get?_push_of_some _ q) (Nat.le_refl _) ?_, rfl, ?_⟩
    · exact ⟨Nat.zero_le _, [], .nil, IsTup.new _ _⟩
    · have := q2 (by decide) s.heap.objs.size (I.hok.fresh (Nat.le_refl _))
      rw [e] at this
      exact this
def rMul4 (K : PySem.W.Frag) : R2 := fun x y H Q => rMul2 x y H Q ∨ (rRepX K x y H Q ∨ rRep x y H Q)
theorem op_mul4 : OpR X (binaryOp .Mult) (rMul4 X.K) := op_mul2.or (op_repX.or op_rep)
theorem sem_mul {K : PySem.W.Frag} : Sem2 K (rMul4 K) dMul := by
  intro C r σ H F x y dx dy Q QV hK R hx hy hq k
  subst hK
  unfold dMul at hq
  split at hq
  · cases hx.int; cases hy.int
    exact .inl ⟨_, _, rfl, rfl, mulOk_of hq.1, kq_dat k R (.int _) hq.2⟩
  · rename_i ds kk
    obtain ⟨pa, xs, rfl, h1, h2, _⟩ := hx.tup
    cases hy.int
    have hl := h2.length
    refine .inr (.inl ⟨_, _, _, rfl, rfl, h1, fun e => ?_, hq.1.1, hq.1.2.1, by rw [hl]; exact hq.1.2.2.2, fun e => ?_, fun _ p hp => kq_tup k R hp (h2.rep _) hq.2⟩)
    · subst e
      have := hq.1.2.2.1
      rw [← hl] at this
      exact absurd this (by simp)
    · subst e
      refine kq_dat k R (dpf_tup hx) ?_
      have := hq.2
      simpa using this
  · obtain ⟨pa, xs, rfl, h1, h2⟩ := hx.lst
    cases hy.int
    exact .inr (.inr ⟨_, _, _, rfl, rfl, h1, hq.1.1, hq.1.2.1, by rw [line_eq, h2.length]; exact hq.1.2.2, fun p hp => kq_own k R hp (h2.rep _) hq.2⟩)
  · exact hq.elim
variable {C : Ctx} {r : Env} {σ : L2.St} {H : Hp} {F : AP}
theorem sem_repr {K : PySem.W.Frag} : SemN K (rReprD K) nRepr := by
  intro C r σ H F xs ds Q QV hK R hx hq k
  subst hK
  unfold nRepr at hq
  split at hq
  · obtain ⟨v, rfl, hv⟩ := hx.one
    exact ⟨v, _, rfl, hv.dp hq.1.2.1, hq.1.1, hq.1.2.1, hq.1.2.2.1, by rw [line_eq]; exact hq.1.2.2.2, kq_dat k R (.str _) hq.2⟩
  · exact hq.elim
theorem sem_tuple {K : PySem.W.Frag} : SemN K (fun xs H Q => ∃ p ys, xs = [.ref p] ∧ ((SqL K H p ys ∧ ∀ l, H l = none → Q (.ref l) (upd H l (.tup ys))) ∨ (SqT K H p ys ∧ Q (.ref p) H))) nTuple := by
  intro C r σ H F xs ds Q QV hK R hx hq k
  subst hK
  unfold nTuple at hq
  split at hq
  · obtain ⟨v, rfl, hv⟩ := hx.one
    obtain ⟨a, ys, rfl, h1, h2⟩ := hv.lst
    exact ⟨_, _, rfl, .inl ⟨.inl (.inl h1), fun p hp => kq_tup k R hp h2 hq⟩⟩
  · obtain ⟨v, rfl, hv⟩ := hx.one
    have hf := dpf_tup hv
    obtain ⟨a, ys, rfl, h1, h2, _⟩ := hv.tup
    exact ⟨_, _, rfl, .inr ⟨h1, kq_dat k R hf hq⟩⟩
  · exact hq.elim
theorem sem_list {K : PySem.W.Frag} : SemN K (fun xs H Q => ∃ p ys, xs = [.ref p] ∧ (SqL K H p ys ∨ SqT K H p ys) ∧ ∀ l, H l = none → Q (.ref l) (upd H l (.lst ys))) nList := by
  intro C r σ H F xs ds Q QV hK R hx hq k
  subst hK
  unfold nList at hq
  split at hq
  · obtain ⟨v, rfl, hv⟩ := hx.one
    obtain ⟨a, ys, rfl, h1, h2⟩ := hv.lst
    exact ⟨_, _, rfl, .inl (.inl (.inl h1)), fun p hp => kq_own k R hp h2 hq⟩
  · obtain ⟨v, rfl, hv⟩ := hx.one
    obtain ⟨a, ys, rfl, h1, h2, _⟩ := hv.tup
    exact ⟨_, _, rfl, .inr h1, fun p hp => kq_own k R hp h2 hq⟩
  · exact hq.elim
theorem sem_intc {K : PySem.W.Frag} : SemN K (fun xs H Q => (∃ i, xs = [.int i] ∧ Q (.int i) H) ∨ ∃ k, xs = [.bl k] ∧ Q (.int (if k then 1 else 0)) H) nInt := by
  intro C r σ H F xs ds Q QV hK R hx hq k
  unfold nInt at hq
  split at hq
  · obtain ⟨v, rfl, hv⟩ := hx.one
    cases hv.int
    exact .inl ⟨_, rfl, kq_dat k R (.int _) hq⟩
  · obtain ⟨v, rfl, hv⟩ := hx.one
    cases hv.bl
    exact .inr ⟨_, rfl, kq_dat k R (.int _) hq⟩
  · exact hq.elim
theorem sem_boolc {K : PySem.W.Frag} : SemN K (fun xs H Q => (∃ i, xs = [.int i] ∧ Q (.bl (i != 0)) H) ∨ ∃ k, xs = [.bl k] ∧ Q (.bl k) H) nBool := by
  intro C r σ H F xs ds Q QV hK R hx hq k
  unfold nBool at hq
  split at hq
  · obtain ⟨v, rfl, hv⟩ := hx.one
    cases hv.int
    exact .inl ⟨_, rfl, kq_dat k R (.bl _) hq⟩
  · obtain ⟨v, rfl, hv⟩ := hx.one
    cases hv.bl
    exact .inr ⟨_, rfl, kq_dat k R (.bl _) hq⟩
  · exact hq.elim
theorem sem_abs {K : PySem.W.Frag} : SemN K (fun xs H Q => ∃ i, xs = [.int i] ∧ Q (.int (if i < 0 then -i else i)) H) nAbs := by
  intro C r σ H F xs ds Q QV hK R hx hq k
  unfold nAbs at hq
  split at hq
  · obtain ⟨v, rfl, hv⟩ := hx.one
    cases hv.int
    exact ⟨_, rfl, kq_dat k R (.int _) hq⟩
  · exact hq.elim
theorem sem_str {K : PySem.W.Frag} : SemN K (fun xs H Q => ∃ i, xs = [.int i] ∧ i.natAbs.log2 < 1920 ∧ Q (.str (toString i)) H) nStr := by
  intro C r σ H F xs ds Q QV hK R hx hq k
  unfold nStr at hq
  split at hq
  · obtain ⟨v, rfl, hv⟩ := hx.one
    cases hv.int
    exact ⟨_, rfl, hq.1, kq_dat k R (.str _) hq.2⟩
  · exact hq.elim
theorem ints_sq {v : V} {xs : List D} {ns : List Int} (hv : DpT C.K H F v (.list xs)) (e : intsOf xs = some ns) : ∃ a, v = .ref a ∧ SqL C.K H a (ns.map V.int) := by
  obtain ⟨a, ys, rfl, h1, h2⟩ := hv.lst
  have e := intsOf_some e
  subst e
  have := h2.vints
  subst this
  exact ⟨a, rfl, .inl (.inl h1)⟩
theorem bools_sq {v : V} {xs : List D} {ns : List Bool} (hv : DpT C.K H F v (.list xs)) (e : boolsOf xs = some ns) : ∃ a, v = .ref a ∧ SqL C.K H a (ns.map V.bl) := by
  obtain ⟨a, ys, rfl, h1, h2⟩ := hv.lst
  have e := boolsOf_some e
  subst e
  have := h2.vbools
  subst this
  exact ⟨a, rfl, .inl (.inl h1)⟩
def rMax3 (K : PySem.W.Frag) : List V → Hp → VK → Prop := fun xs H Q => (∃ i j, xs = [.int i, .int j] ∧ Q (.int (if j > i then j else i)) H) ∨ rMax K xs H Q
theorem call_max3 (hc : X.calm = true) : CallR X (.builtin "max") (rMax3 X.K) := (call_max2 hc).or (cr_max hc)
theorem sem_max {K : PySem.W.Frag} : SemN K (rMax3 K) nMax := by
  intro C r σ H F xs ds Q QV hK R hx hq k
  subst hK
  unfold nMax at hq
  split at hq
  · obtain ⟨v, w, rfl, hv, hw⟩ := hx.two
    cases hv.int; cases hw.int
    exact .inl ⟨_, _, rfl, kq_dat k R (.int _) hq⟩
  · split at hq
    · rename_i ns e
      obtain ⟨v, rfl, hv⟩ := hx.one
      obtain ⟨a, rfl, hs⟩ := ints_sq hv e
      exact .inr ⟨a, ns, rfl, hs, hq.1, fun m h1 h2 => kq_dat k R (.int _) (hq.2 m h1 h2)⟩
    · exact hq.elim
  · exact hq.elim
def rMin3 (K : PySem.W.Frag) : List V → Hp → VK → Prop := fun xs H Q => (∃ i j, xs = [.int i, .int j] ∧ Q (.int (if j < i then j else i)) H) ∨ rMin K xs H Q
theorem call_min3 (hc : X.calm = true) : CallR X (.builtin "min") (rMin3 X.K) := (call_min2 hc).or (cr_min hc)
theorem sem_min {K : PySem.W.Frag} : SemN K (rMin3 K) nMin := by
  intro C r σ H F xs ds Q QV hK R hx hq k
  subst hK
  unfold nMin at hq
  split at hq
  · obtain ⟨v, w, rfl, hv, hw⟩ := hx.two
    cases hv.int; cases hw.int
    exact .inl ⟨_, _, rfl, kq_dat k R (.int _) hq⟩
  · split at hq
    · rename_i ns e
      obtain ⟨v, rfl, hv⟩ := hx.one
      obtain ⟨a, rfl, hs⟩ := ints_sq hv e
      exact .inr ⟨a, ns, rfl, hs, hq.1, fun m h1 h2 => kq_dat k R (.int _) (hq.2 m h1 h2)⟩
    · exact hq.elim
  · exact hq.elim
theorem sem_sum {K : PySem.W.Frag} : SemN K (rSum K) nSum := by
  intro C r σ H F xs ds Q QV hK R hx hq k
  subst hK
  unfold nSum at hq
  split at hq
  · split at hq
    · rename_i ns e
      obtain ⟨v, rfl, hv⟩ := hx.one
      obtain ⟨a, rfl, hs⟩ := ints_sq hv e
      exact ⟨a, ns, rfl, hs, kq_dat k R (.int _) hq⟩
    · exact hq.elim
  · exact hq.elim
theorem sem_all {K : PySem.W.Frag} : SemN K (rAll K) nAll := by
  intro C r σ H F xs ds Q QV hK R hx hq k
  subst hK
  unfold nAll at hq
  split at hq
  · split at hq
    · rename_i ns e
      obtain ⟨v, rfl, hv⟩ := hx.one
      obtain ⟨a, rfl, hs⟩ := bools_sq hv e
      exact ⟨a, ns, rfl, hs, kq_dat k R (.bl _) hq⟩
    · exact hq.elim
  · exact hq.elim
theorem sem_any {K : PySem.W.Frag} : SemN K (rAny K) nAny := by
  intro C r σ H F xs ds Q QV hK R hx hq k
  subst hK
  unfold nAny at hq
  split at hq
  · split at hq
    · rename_i ns e
      obtain ⟨v, rfl, hv⟩ := hx.one
      obtain ⟨a, rfl, hs⟩ := bools_sq hv e
      exact ⟨a, ns, rfl, hs, kq_dat k R (.bl _) hq⟩
    · exact hq.elim
  · exact hq.elim
/-! ### methods of the list in a slot -/
theorem semM_extend {K : PySem.W.Frag} : SemM K rExtend mExtend := by
  intro H F a ys xs es ds Q QV htrk nf ha hy hx hq k
  unfold mExtend at hq
  split at hq
  · rename_i zs
    cases hx with
    | cons h1 h2 =>
      cases h2
      obtain ⟨b, ws, rfl, g1, g2⟩ := h1.lst
      exact ⟨_, _, _, _, rfl, rfl, ha, g1, by rw [line_eq, hy.length, g2.length]; exact hq.1, k .non _ _ _ (hy.app g2) .non hq.2⟩
  · exact hq.elim
theorem semM_pop {K : PySem.W.Frag} : SemM K rPopAt mPop := by
  intro H F a ys xs es ds Q QV htrk nf ha hy hx hq k
  unfold mPop at hq
  split at hq
  · rename_i i
    cases hx with
    | cons h1 h2 =>
      cases h2
      cases h1.int
      obtain ⟨hb, hq⟩ := hq
      split at hq
      · rename_i kk ek
        split at hq
        · rename_i y ey
          obtain ⟨v, ev, hv⟩ := hy.get ey
          exact ⟨_, _, _, _, _, rfl, rfl, ha, hb.1, hb.2, by rw [hy.length]; exact ek, ev, k _ _ _ _ (hy.erase _) hv hq⟩
        · exact hq.elim
      · exact hq.elim
  · exact hq.elim
end
end DL

/-! DL, part 10: the bag's own defs; the law at its head. -/
namespace DL
open PySem PySem.Spec L2
/-! ### o[i] of a list, by values -/
theorem get_list {X : Cx} : PGet X (rIxL X.K) := by
  intro pins s σ H x y v u Q I rx ry h
  obtain ⟨p, xs, i, z, rfl, rfl, hq, he, q⟩ := h
  cases rx
  obtain ⟨t, rfl⟩ := ry
  obtain ⟨its, r, pl, hz⟩ := I.list hq
  obtain ⟨j, h1, h2, h3, h4, h5⟩ := atI_get he
  obtain ⟨w, ew, rw'⟩ := r.get h2
  have hl := r.length
  have hn := line63
  have fin : EP X pins σ Q w s := ⟨z, H, I, rw', q⟩
  by_cases h0 : 0 ≤ i
  · have hj : i.toNat = j := by
      rw [PySem.seqIndex_of h0 h5] at h1
      exact Option.some.inj h1
    exact wpAny_getItem_list pl.isList h0 (by omega) (by rw [hj]; simpa using ew) fin
  · have hj : (i + (its.toArray.size : Int)).toNat = j := by
      rw [PySem.seqIndex_neg (by omega) h4] at h1
      rw [List.size_toArray, ← hl]
      exact Option.some.inj h1
    exact PySem.wpAny_getItem_list_neg pl.isList (by omega) (by rw [List.size_toArray] <;> omega) (by omega) (by rw [hj]; simpa using ew) fin
/-- _law_take(bag, many): some number from 0 to many less 1 -/
def takeS : Spec := fun ds Q _ => ∃ n : Int, ds = [.bag, .dat (.int n)] ∧ 0 < n ∧ n < 2 ^ 30 ∧ ∀ k : Int, 0 ≤ k → k < n → Q (.dat (.int k))
/-- the bag in H' is still one: H has grown, but at b nothing changed -/
def BagIn (H : Hp) (b c : Addr) (H' : Hp) : Prop := ∃ i j k : Int, H' b = some (.lst [.int i, .int j, .int k, .ref c]) ∧ ∀ a o, H a = some o → a ≠ b → H' a = some o
theorem BagIn.set {H H' : Hp} {b c : Addr} {i j k : Int} (h : BagIn H b c H') : BagIn H b c (upd H' b (.lst [.int i, .int j, .int k, .ref c])) := by
  obtain ⟨_, _, _, _, h2⟩ := h
  exact ⟨i, j, k, upd_same, fun a o e ne => by rw [upd_ne ne]; exact h2 a o e ne⟩
theorem BagIn.new {H H' : Hp} {b c p : Addr} {o : HO} (h : BagIn H b c H') (hp : H' p = none) (hb : H b ≠ none) : BagIn H b c (upd H' p o) := by
  obtain ⟨i, j, k, h1, h2⟩ := h
  refine ⟨i, j, k, by rw [upd_ne (ne_of_none h1 hp)]; exact h1, fun a u e ne => by rw [upd_ne (ne_of_none (h2 a u e ne) hp)]; exact h2 a u e ne⟩
/-! ### the law -/
/-- the code objects of the defs that make lambdas, with their tables -/
def cpOf (K : PySem.W.Frag) : List (Addr × Addr) := lamNames.filterMap fun x => PySem.W.tabIn K x
def Tbs (K : PySem.W.Frag) (mg : Str → Option Value) (base : Heap) : Prop := ∀ p ∈ cpOf K, LamX.TabB base mg p.1 p.2
theorem tabs_cp {K : PySem.W.Frag} {p : Addr × Str} (h : p ∈ tabsOf K) : ∃ c, (c, p.1) ∈ cpOf K := by
  unfold tabsOf at h
  obtain ⟨x, hx, e⟩ := List.mem_filterMap.mp h
  cases q : PySem.W.tabIn K x with
  | none => rw [q] at e; cases e
  | some cp =>
    rw [q] at e
    cases e
    exact ⟨cp.1, List.mem_filterMap.mpr ⟨x, hx, q⟩⟩
/-- the tables as they stand at the head -/
structure HeadTabs (K : PySem.W.Frag) (h : Heap) : Prop where
  at_ : ∀ p ∈ cpOf K, h.get? p.2 = some (PySem.W.tabObj #[])
  out : ∀ p ∈ cpOf K, K.lookup p.2 = none
  code : ∀ p ∈ cpOf K, PySem.W.codeHdIn K p.1 p.2 = true
open Classical in
/-- what is tracked at the head: the script, if it is not among what is known, and the tables -/
noncomputable def headH (K : PySem.W.Frag) (a : Addr) (u : HO) : Hp := fun b =>
  if b = a ∧ K.lookup a = none then some u else if ∃ p ∈ cpOf K, p.2 = b then some (.tbl #[]) else none
theorem headH_some {K : PySem.W.Frag} {a b : Addr} {u v : HO} (h : headH K a u b = some v) : (b = a ∧ K.lookup a = none ∧ v = u) ∨ ((∃ p ∈ cpOf K, p.2 = b) ∧ v = .tbl #[]) := by
  unfold headH at h
  split at h
  · rename_i q
    exact .inl ⟨q.1, q.2, (Option.some.inj h).symm⟩
  · split at h
    · rename_i q
      exact .inr ⟨q, (Option.some.inj h).symm⟩
    · cases h
theorem law_head {P : Program} {w : World} {K : PySem.W.Frag} {mg mb : Str → Option Value} {fa a : Addr} {s : Shared} {vs : List Value} {ns : List Int} (inK : K.In s.heap) (hns : s.heap.Ns mainGlobals mg) (hb : s.heap.Ns builtinsNs mb) (hbb : ∀ x : Str, x ≠ "__name__" → mb x = bootBuiltins x)
    (free : s.heap.NoLimit) (hg : s.gens = #[]) (hbm : ∃ bm o, mg "__builtins__" = some (.ref bm) ∧ bm ≠ builtinsNs ∧ s.heap.get? bm = some o ∧ o.cls = .type "module" ∧ o.dict = some builtinsNs ∧ o.data = .plain)
    (HT : HeadTabs K s.heap) (ha : s.heap.get? a = some { cls := .type "list", data := .seq vs.toArray }) (hi : PyProof.Rows.IntsAre vs ns) (hl : ns.length ≤ sizeLine)
    (run : ∀ (base : Heap) (H : Hp), K.In base → base.Ns mainGlobals mg → Tbs K mg base → LamX.Tabs (tabsOf K) H → Env0 P w K mg base callerA [] s H → SqL K H a (ns.map V.int) → codeAny (model P w) callerA (.call (.ref fa) ⟨[.ref a], []⟩) (CR (L2.CX P w) [] P w H s (fun v _ => v = .bl true) fun _ _ _ => False) s) :
    codeAny (model P w) callerA (.call (.ref fa) ⟨[.ref a], []⟩) (fun r s' => r = .ok (.ret (.bool true)) ∧ PySem.OldK s.heap s'.heap ∧ s'.os = s.os ∧ PyProof.Rows.AllBare s'.gens) s := by
  have rv := vals_ints hi
  let ob : Obj := { cls := .type "list", data := .seq vs.toArray }
  have ata : ∀ p ∈ cpOf K, p.2 ≠ a := fun p hp e => by
    have q := HT.at_ p hp
    rw [e, ha] at q
    cases (show Data.seq vs.toArray _ = Data.fields #[] from congrArg Obj.data (Option.some.inj q))
  generalize hH : headH K a (.frz ob (.lst (ns.map V.int))) = H
  have isT : ∀ p ∈ cpOf K, H p.2 = some (.tbl #[]) := fun p hp => by
    rw [← hH]
    unfold headH
    rw [if_neg fun z => ata p hp z.1, if_pos ⟨p, hp, rfl⟩]
  have cases_ : ∀ {b u}, H b = some u → (b = a ∧ K.lookup a = none ∧ u = .frz ob (.lst (ns.map V.int))) ∨ ((∃ p ∈ cpOf K, p.2 = b) ∧ u = .tbl #[]) := fun {b u} e => by
    rw [← hH] at e
    exact headH_some e
  have hok : HOk P w H s.heap := fun b u e => by
    rcases cases_ e with ⟨rfl, _, rfl⟩ | ⟨⟨p, hp, rfl⟩, rfl⟩
    · exact ⟨ha, by rw [List.length_map]; exact hl, vs, _, rv, ha⟩
    · exact HT.at_ p hp
  -- what is hidden is a list or an empty table
  have seen : ∀ {b : Addr} {o : Obj}, s.heap.get? b = some o → (∀ xs n, o.data ≠ .seq xs n) → o.data ≠ .fields #[] → (hidT s.heap H).get? b = some o := fun {b o} e n1 n2 => hidT_get e (by
    cases z : H b with
    | none => rfl
    | some u =>
      exfalso
      rcases cases_ z with ⟨rfl, _, _⟩ | ⟨⟨p, hp, rfl⟩, _⟩
      · rw [ha] at e
        cases e
        exact n1 _ _ rfl
      · rw [HT.at_ p hp] at e
        cases e
        exact n2 rfl)
  have hid : ∀ {b : Addr} {m : Str → Option Value}, s.heap.Ns b m → (hidT s.heap H).Ns b m := by
    rintro b m ⟨o, es, ep, e, d, q⟩
    exact ⟨o, es, ep, seen e (fun xs n z => by rw [d] at z; cases z) (fun z => by rw [d] at z; cases z), d, q⟩
  have inB : K.In (hidT s.heap H) := fun b o e => hidT_get (inK b o e) (by
    cases z : H b with
    | none => rfl
    | some u =>
      exfalso
      rcases cases_ z with ⟨rfl, n, _⟩ | ⟨⟨p, hp, rfl⟩, _⟩
      · rw [n] at e; cases e
      · rw [HT.out p hp] at e; cases e)
  have tbs : Tbs K mg (hidT s.heap H) := fun p hp => by
    refine ⟨PySem.W.codeHd_of_K inB (HT.code p hp), ?_, fun z => ?_⟩
    · obtain ⟨bm, o, b1, b2, b3, b4, b5, b6⟩ := hbm
      refine ⟨bm, o, b1, b2, fun q => ?_, fun q => ?_, seen b3 (fun xs n z => by rw [b6] at z; cases z) (fun z => by rw [b6] at z; cases z), b4, b5, b6⟩
      · obtain ⟨o2, es, ep, e2, d2, _⟩ := hns
        rw [q, e2] at b3
        cases b3
        rw [d2] at b6
        cases b6
      · rw [q, HT.at_ p hp] at b3
        cases b3
        cases b6
    · obtain ⟨o2, es, ep, e2, d2, _⟩ := hns
      rw [z, HT.at_ p hp] at e2
      cases e2
      cases d2
  have tab : LamX.Tabs (tabsOf K) H := fun p hp => by
    obtain ⟨c, hc⟩ := tabs_cp hp
    exact LamX.TabS.nil (isT _ hc)
  have hS : SqL K H a (ns.map V.int) := by
    cases hk : K.lookup a with
    | some o =>
      have e := inK a o hk
      rw [ha] at e
      cases e
      exact .inr ⟨_, vs.toArray, _, hk, rfl, rfl, rfl, by rw [List.size_toArray, hi.length]; exact hl, by simpa using rv⟩
    | none =>
      refine .inl (.inr ⟨ob, ?_⟩)
      rw [← hH]
      exact if_pos ⟨rfl, hk⟩
  obtain ⟨mc, l1, l2⟩ := free
  have e0 : Env0 P w K mg (hidT s.heap H) callerA [] s H := ⟨rfl, ⟨inB, hid hns, ⟨mb, hid hb, hbb⟩, ⟨mc, hid l1, l2⟩⟩, fun b o e => of_hidT e, Nat.le_of_eq (hidT_size _ _), trivial, fun b z => absurd (show b ∈ ([] : List Addr) from z) (by simp), hok, .of_eq hg⟩
  refine codeAny_mono (run _ H inB (hid hns) tbs tab e0 hS) ?_
  intro r s' h
  cases r with
  | error e =>
    obtain ⟨_, _, _, _, _, _, _, _, _, _, _, _, z⟩ := h
    exact z.elim
  | ok fl =>
    cases fl with
    | next => exact h.elim
    | brk => exact h.elim
    | cont => exact h.elim
    | ret u =>
      obtain ⟨v, H', os, bare, un, hok', ru, qv⟩ := h
      subst qv
      obtain rfl : u = Value.bool true := ru
      have same : ∀ b o, s.heap.get? b = some o → (¬ ∃ p ∈ cpOf K, p.2 = b) → s'.heap.get? b = some o := fun b o e nb => by
        cases z : H b with
        | none => exact un.keep b o e z (fun y => absurd (show b ∈ ([] : List Addr) from y) (by simp)) (by simp)
        | some u =>
          rcases cases_ z with ⟨rfl, _, rfl⟩ | ⟨y, _⟩
          · obtain ⟨e1, _⟩ := hok b _ z
            obtain ⟨e2, _⟩ := hok' b _ (un.frzs b ob _ z)
            rw [e] at e1
            cases e1
            exact e2
          · exact absurd y nb
      refine ⟨rfl, ⟨fun b o e => ?_, fun b o e => ?_⟩, os, bare⟩
      · by_cases y : ∃ p ∈ cpOf K, p.2 = b
        · obtain ⟨p, hp, rfl⟩ := y
          obtain ⟨more, hm⟩ := un.tbls p.2 #[] (isT p hp)
          have e1 := HT.at_ p hp
          rw [e] at e1
          cases e1
          refine .inr (.inl ⟨((PySem.W.codeHd_of_K inK (HT.code p hp)).tab (HT.at_ p hp)).isCodeTable, rfl, #[], more, rfl, ?_⟩)
          have hm2 : s'.heap.get? p.2 = some { cls := .none, data := .fields (#[] ++ more) } := hok' _ _ hm
          exact hm2
        · exact .inl (same b o e y)
      · by_cases y : ∃ p ∈ cpOf K, p.2 = b
        · obtain ⟨p, hp, rfl⟩ := y
          obtain ⟨more, hm⟩ := un.tbls p.2 #[] (isT p hp)
          exact ⟨_, hok' _ _ hm⟩
        · exact ⟨o, same b o e y⟩
/-- the law's def over a bag: behind its first statement, bag = _law_bag(script), the rest means q -/
theorem rep_law {K : PySem.W.Frag} {w : World} {H : Hp} {b c : Addr} {i j k : Int} {cells : List Int} {σ : L2.St} {m : Nat} (h1 : H b = some (.lst [.int i, .int j, .int k, .ref c])) (h2 : H c = some (.lst (cells.map V.int))) (ht : LamX.Tabs (tabsOf K) H) (hl : cells.length ≤ 63) (hm : σ.length = m) (p : Nat) (hp : p < m) (hs : σ[p]? = some (some (.ref b))) :
    Rep ⟨K, w, some b, fun a => a = c, H, fun a => a = c⟩ (putO (List.replicate m none) p (some .bag)) σ H (fun a => a = c) := by
  have nbc : c ≠ b := fun e => by
    subst e
    rw [h1] at h2
    have := Option.some.inj h2
    have e2 : ([V.int i, V.int j, V.int k, V.ref c] : List V) = cells.map V.int := by injection this
    have : V.ref c ∈ cells.map V.int := by rw [← e2]; simp
    simp at this
  have none_ : ∀ j, sl (List.replicate m (none : Option DV)) j = none := fun j => by
    induction m generalizing j with
    | zero => rfl
    | succ m ih =>
      rw [List.replicate_succ]
      cases j with
      | zero => rfl
      | succ j =>
        clear hm hp hs
        have : ∀ (n j : Nat), sl (List.replicate n (none : Option DV)) j = none := fun n => by
          induction n with
          | zero => intro j; rfl
          | succ n ih2 =>
            intro j
            rw [List.replicate_succ]
            cases j with
            | zero => rfl
            | succ j => exact ih2 j
        exact this m j
  have only : ∀ {j dv}, sl (putO (List.replicate m none) p (some DV.bag)) j = some dv → j = p ∧ dv = .bag := fun {j dv} e => by
    rcases sl_put_some e with ⟨a, b⟩ | ⟨_, e'⟩
    · exact ⟨a, b⟩
    · rw [none_] at e'; cases e'
  refine ⟨by rw [len_putO, List.length_replicate, hm], fun j dv e => ?_, fun j j2 d1 d2 a e1 _ o1 => ?_, fun a z => ?_, fun _ z => z, fun _ z => .inl z, fun _ z => z, fun a z => ?_, fun j ds a e1 o1 => ?_, fun x e => ?_, ⟨ht, fun a z => z ▸ nt_lst h2, fun a z => z ▸ nt_lst h2⟩⟩
  · obtain ⟨rfl, rfl⟩ := only e
    exact ⟨_, hs, .bag rfl⟩
  · obtain ⟨_, z⟩ := only e1
    subst z
    cases o1
  · subst z
    exact ⟨rfl, by rw [h2]; simp⟩
  · subst z
    rw [h2]; simp
  · obtain ⟨_, z⟩ := only e1
    subst z
    cases o1
  · have e' : b = x := Option.some.inj e
    subst e'
    exact ⟨⟨c, i, j, k, cells, h1, .lst ⟨rfl, h2⟩ (.ints cells), hl⟩, fun z => nbc z.symm, fun z => nbc z.symm⟩
end DL

/-! DL, part 11: _law_take, _law_bag; the law's def. -/
namespace DL
open PySem PySem.Spec L2
abbrev rGeI : R2 := rI0 fun i j => .bl (decide (j ≤ i))
abbrev rGtI : R2 := rI0 fun i j => .bl (decide (j < i))
abbrev rAddI : R2 := rI0 fun i j => .int (i + j)
abbrev rMulI : R2 := rI CMul fun i j => .int (i * j)
abbrev rModI : R2 := rI (fun _ j => 0 < j) fun i j => .int (i % j)
abbrev rDivI : R2 := rI CDiv fun i j => .int (i / j)
abbrev rPowI : R2 := rI CPow fun i j => .int (i ^ j.toNat)
abbrev rIntI : List V → Hp → VK → Prop := fun xs H Q => (∃ i, xs = [.int i] ∧ Q (.int i) H) ∨ ∃ k, xs = [.bl k] ∧ Q (.int (if k then 1 else 0)) H
section
variable (K : PySem.W.Frag)
abbrev bagAt (i : Int) : L2.TE := tOp (rIxL K) (tVar 0) (tC (.int i))
abbrev intOf (t : L2.TE) : L2.TE := tCB rIntI (tCons t tNil)
def takeIn : L2.TS :=
  tSeq (tAsg (tOp (rIxL K) (tOp rCat (tSl (rSlL K) (bagAt K 3) (tPart (bagAt K 2)) tNoPart) (tLst (tCons (tC (.int 0)) tNil))) (tC (.int 0))) (gName 2))
  (tSeq (tAugS (tVar 0) (tC (.int 2)) (tC (.int 1)) (rIxL K) (ipI fun i j => i + j) rSetL)
  (tSeq (tIfS (tTest (tOp rGeI (tVar 2) (tOp rPowI (tC (.int 10)) (tC (.int 18))))) (tAsg (tVar 2) (gSub (tVar 0) (tC (.int 0)) rSetL)) tNext)
  (tSeq (tAsg (tOp rAddI (tOp rAddI (tOp rMulI (bagAt K 1) (tC (.int 48271))) (tOp rModI (intOf (tVar 2)) (tC (.int 2147483647)))) (tOp rMulI (tC (.int 7919)) (bagAt K 2))) (gName 3))
  (tAsg (tOp rModI (intOf (tVar 3)) (tC (.int 2147483647))) (gSub (tVar 0) (tC (.int 1)) rSetL)))))
def takeOut : L2.TS :=
  tSeq (tIfS (tTest (tOp rGtI (bagAt K 0) (tC (.int 0))))
    (tSeq (tAsg (tOp rModI (intOf (bagAt K 0)) (tVar 1)) (gName 4)) (tSeq (tAsg (tOp rDivI (intOf (bagAt K 0)) (tVar 1)) (gSub (tVar 0) (tC (.int 0)) rSetL)) (tRet (tVar 4)))) tNext)
  (tSeq (tAsg (tOp rModI (intOf (tOp rMulI (tOp rAddI (bagAt K 1) (tC (.int 1))) (tC (.int 39373)))) (tC (.int 1000000007))) (gName 5))
  (tSeq (tAsg (tOp rModI (intOf (tOp rMulI (tOp rModI (intOf (tOp rMulI (tVar 5) (tVar 5))) (tC (.int 998244353))) (tC (.int 30011)))) (tC (.int 998244353))) (gName 6))
  (tRet (tOp rModI (intOf (tOp rDivI (tVar 6) (tC (.int 7)))) (tVar 1)))))
def takeT : L2.TS := Evl.tCut (tIfS (tTest (tOp rEq (bagAt K 0) (tC (.int 0)))) (takeIn K) tNext) (takeOut K)
end
theorem atI4 {x0 x1 x2 x3 : V} : atI [x0, x1, x2, x3] 0 = some x0 ∧ atI [x0, x1, x2, x3] 1 = some x1 ∧ atI [x0, x1, x2, x3] 2 = some x2 ∧ atI [x0, x1, x2, x3] 3 = some x3 := ⟨rfl, rfl, rfl, rfl⟩
section
variable {K : PySem.W.Frag} {H0 : Hp} {b c : Addr} {n : Int} {cells : List Int}
def TakeMid (H0 : Hp) (b c : Addr) (n : Int) (σ : L2.St) (H : Hp) : Prop := BagIn H0 b c H ∧ ∃ x2 x3 x4 x5 x6, σ = [some (.ref b), some (.int n), x2, x3, x4, x5, x6]
theorem bag_at {σ : L2.St} {H : Hp} {i j k : Int} {Q : VK} (h0 : σ[0]? = some (some (.ref b))) (h : H b = some (.lst [.int i, .int j, .int k, .ref c])) (m : Int) (v : V) (hm : atI [V.int i, V.int j, V.int k, V.ref c] m = some v) (q : Q v H) : bagAt K m σ H Q :=
  ⟨.ref b, h0, b, _, m, v, rfl, rfl, .inl (.inl h), hm, q⟩
theorem take_in (hc : H0 c = some (.lst (cells.map V.int))) (nbc : c ≠ b) (hb0 : H0 b ≠ none) (hl : cells.length ≤ 1000) {D : L2.Ends} (k : ∀ σ H, TakeMid H0 b c n σ H → D.nx σ H) {σ : L2.St} {H : Hp} (M : TakeMid H0 b c n σ H) : takeIn K D σ H := by
  obtain ⟨B, x2, x3, x4, x5, x6, rfl⟩ := M
  obtain ⟨i, j, kk, h1, h2⟩ := id B
  have hcH := h2 c _ hc nbc
  -- cell
  refine bag_at rfl h1 3 _ rfl ?_
  refine bag_at rfl h1 2 _ rfl ⟨kk, rfl, ?_⟩
  refine ⟨c, cells.map V.int, rfl, .inl (.inl hcH), fun p hp => ?_⟩
  have B1 := B.new (o := .lst (cutV (cells.map V.int) (some kk) none)) hp hb0
  refine ⟨by show 1 ≤ sizeLine; rw [line_eq]; decide, fun p2 hp2 => ?_⟩
  have B2 := B1.new (o := .lst [V.int 0]) hp2 hb0
  have e1 : upd (upd H p (.lst (cutV (cells.map V.int) (some kk) none))) p2 (.lst [V.int 0]) p = some (.lst (cutV (cells.map V.int) (some kk) none)) := by
    rw [upd_ne (ne_of_none upd_same hp2)]
    exact upd_same
  obtain ⟨rest, hrest⟩ : ∃ rest : List Int, cutV (cells.map V.int) (some kk) none = rest.map V.int := ⟨(cells.drop (HT.sIx cells.length 0 (some kk))).take (HT.sIx cells.length cells.length none - HT.sIx cells.length 0 (some kk)), by
    unfold cutV
    rw [List.length_map, List.map_take, List.map_drop]⟩
  have hlr := cutV_length (cells.map V.int) (some kk) none
  rw [List.length_map] at hlr
  refine ⟨p, p2, _, _, rfl, rfl, e1, upd_same, by rw [line_eq]; show _ + 1 ≤ _; omega, fun p3 hp3 => ?_⟩
  have B3 := B2.new (o := .lst (cutV (cells.map V.int) (some kk) none ++ [V.int 0])) hp3 hb0
  obtain ⟨z, hz⟩ : ∃ z : Int, atI (cutV (cells.map V.int) (some kk) none ++ [V.int 0]) 0 = some (.int z) := by
    rw [hrest]
    cases rest with
    | nil => exact ⟨0, rfl⟩
    | cons y r => exact ⟨y, atI_nat (j := 0) rfl⟩
  refine ⟨p3, _, 0, _, rfl, rfl, .inl (.inl upd_same), hz, ?_⟩
  generalize upd (upd (upd H p (.lst (cutV (cells.map V.int) (some kk) none))) p2 (.lst [V.int 0])) p3 (.lst (cutV (cells.map V.int) (some kk) none ++ [V.int 0])) = H3 at B3
  clear h1 h2 hcH e1 hp hp2 hp3 B1 B2 B
  -- bag[2] += 1
  obtain ⟨i3, j3, k3, g1, g2⟩ := id B3
  refine ⟨.ref b, rfl, b, _, 2, _, rfl, rfl, .inl (.inl g1), rfl, ?_⟩
  refine ⟨k3, 1, rfl, rfl, b, _, 2, 2, rfl, rfl, g1, rfl, ?_⟩
  have B4 : BagIn H0 b c (upd H3 b (.lst [.int i3, .int j3, .int (k3 + 1), .ref c])) := B3.set
  show (tSeq (tIfS (tTest (tOp rGeI (tVar 2) (tOp rPowI (tC (.int 10)) (tC (.int 18))))) (tAsg (tVar 2) (gSub (tVar 0) (tC (.int 0)) rSetL)) tNext) _) D _ (upd H3 b (.lst [.int i3, .int j3, .int (k3 + 1), .ref c]))
  generalize upd H3 b (.lst [.int i3, .int j3, .int (k3 + 1), .ref c]) = H4 at B4
  -- if cell >= 10 ** 18
  have rest5 : ∀ H5, BagIn H0 b c H5 → (tSeq (tAsg (tOp rAddI (tOp rAddI (tOp rMulI (bagAt K 1) (tC (.int 48271))) (tOp rModI (intOf (tVar 2)) (tC (.int 2147483647)))) (tOp rMulI (tC (.int 7919)) (bagAt K 2))) (gName 3))
      (tAsg (tOp rModI (intOf (tVar 3)) (tC (.int 2147483647))) (gSub (tVar 0) (tC (.int 1)) rSetL))) D [some (.ref b), some (.int n), some (.int z), x3, x4, x5, x6] H5 := by
    intro H5 B5
    obtain ⟨i5, j5, k5, f1, f2⟩ := id B5
    refine bag_at rfl f1 1 _ rfl ⟨_, _, rfl, rfl, .inr ⟨by decide, by decide⟩, ?_⟩
    refine ⟨_, rfl, .inl ⟨z, rfl, _, _, rfl, rfl, (by show (0 : Int) < 2147483647; decide), _, _, rfl, rfl, ?_⟩⟩
    refine bag_at rfl f1 2 _ rfl ⟨_, _, rfl, rfl, .inl ⟨by decide, by decide⟩, _, _, rfl, rfl, ?_⟩
    refine ⟨_, rfl, .inl ⟨_, rfl, _, _, rfl, rfl, (by show (0 : Int) < 2147483647; decide), .ref b, rfl, b, _, 1, 1, rfl, rfl, f1, rfl, ?_⟩⟩
    exact k _ _ ⟨B5.set, _, _, _, _, _, rfl⟩
  refine ⟨_, rfl, _, _, rfl, rfl, ⟨by decide, by decide, by decide⟩, _, _, rfl, rfl, _, rfl, ite2 (fun _ => ?_) fun _ => rest5 H4 B4⟩
  obtain ⟨i4, j4, k4, f1, f2⟩ := id B4
  exact ⟨_, rfl, .ref b, rfl, b, _, 0, 0, rfl, rfl, f1, rfl, rest5 _ B4.set⟩
theorem take_out (hn : 0 < n) (hn2 : n < 2 ^ 30) {D : L2.Ends} (k : ∀ z H, 0 ≤ z → z < n → BagIn H0 b c H → D.rt (.int z) H) {σ : L2.St} {H : Hp} (M : TakeMid H0 b c n σ H) : takeOut K D σ H := by
  obtain ⟨B, x2, x3, x4, x5, x6, rfl⟩ := M
  obtain ⟨i, j, kk, h1, h2⟩ := id B
  have cd : CDiv i n := ⟨hn, by omega⟩
  refine bag_at rfl h1 0 _ rfl ⟨_, _, rfl, rfl, _, rfl, ite2 (fun _ => ?_) fun _ => ?_⟩
  · refine bag_at rfl h1 0 _ rfl (.inl ⟨_, rfl, _, rfl, _, _, rfl, rfl, hn, ?_⟩)
    refine bag_at rfl h1 0 _ rfl (.inl ⟨_, rfl, _, rfl, _, _, rfl, rfl, cd, .ref b, rfl, b, _, 0, 0, rfl, rfl, h1, rfl, ?_⟩)
    exact ⟨_, rfl, k _ _ (Int.emod_nonneg _ (by omega)) (Int.emod_lt_of_pos _ hn) B.set⟩
  · refine bag_at rfl h1 1 _ rfl ⟨_, _, rfl, rfl, _, _, rfl, rfl, .inr ⟨by decide, by decide⟩, ?_⟩
    refine .inl ⟨_, rfl, _, _, rfl, rfl, (by show (0 : Int) < 1000000007; decide), ?_⟩
    have a1 := Int.emod_nonneg ((j + 1) * 39373) (show (1000000007 : Int) ≠ 0 by decide)
    have a2 := Int.emod_lt_of_pos ((j + 1) * 39373) (show (0 : Int) < 1000000007 by decide)
    refine ⟨_, rfl, _, rfl, _, _, rfl, rfl, .inl ⟨by omega, by omega⟩, .inl ⟨_, rfl, _, _, rfl, rfl, (by show (0 : Int) < 998244353; decide), ?_⟩⟩
    refine ⟨_, _, rfl, rfl, .inr ⟨by decide, by decide⟩, .inl ⟨_, rfl, _, _, rfl, rfl, (by show (0 : Int) < 998244353; decide), ?_⟩⟩
    refine ⟨_, rfl, _, _, rfl, rfl, ⟨by decide, by decide⟩, .inl ⟨_, rfl, _, rfl, _, _, rfl, rfl, hn, ?_⟩⟩
    exact k _ _ (Int.emod_nonneg _ (by omega)) (Int.emod_lt_of_pos _ hn) B
end
theorem pure_take {K : PySem.W.Frag} {w : World} {mg : Str → Option Value} {vs : List V} {H : Hp} {Q : VK} {E : XK} (h : spD K w mg 2 takeS vs H Q E) :
    takeT K { nx := fun _ H' => Q .non H', rt := Q } (L2.start ["bag", "many", "cell", "stirred", "value", "begin", "second"] vs) H := by
  obtain ⟨hl, ob, F, ds, Q0, E0, g, ⟨n, rfl, hn, hn2, hq⟩, kQ, _⟩ := h
  obtain ⟨ga, gt, gb, gtb⟩ := g
  cases ga with
  | bag eb g2 =>
    rename_i b vs'
    cases g2 with
    | dat h2 g3 =>
      cases g3
      cases h2
      obtain ⟨⟨c, i, j, k, cells, h1, h3, hlc⟩, nf⟩ := gb b eb
      have hc : H c = some (.lst (cells.map V.int)) ∧ F c := by
        cases h3 with
        | lst p q =>
          have := q.vints
          subst this
          exact ⟨p.2, p.1⟩
      have nbc : c ≠ b := fun z => nf (z ▸ hc.2)
      have B0 : BagIn H b c H := ⟨i, j, k, h1, fun _ _ e _ => e⟩
      have hb0 : H b ≠ none := by rw [h1]; simp
      have M0 : TakeMid H b c n (L2.start ["bag", "many", "cell", "stirred", "value", "begin", "second"] [.ref b, .int n]) H := ⟨B0, none, none, none, none, none, rfl⟩
      refine ⟨TakeMid H b c n, ?_, fun σ' H' M => ?_⟩
      · refine bag_at rfl h1 0 _ rfl ⟨rfl, _, rfl, ite2 (fun _ => ?_) fun _ => M0⟩
        exact take_in (K := K) (cells := cells) hc.1 nbc hb0 (by omega) (fun _ _ M => M) M0
      · refine take_out hn hn2 (fun z H2 h0 hlt B2 => ?_) M
        obtain ⟨i2, j2, k2, f1, f2⟩ := B2
        have l : Later H F H2 F := fun a z => by
          have na : a ≠ b := fun e => nf (e ▸ z)
          cases e : H a with
          | none => exact absurd e (gt a z)
          | some o => exact ⟨z, f2 a o e na⟩
        have tb2 : TBk K (fun _ => False) F H2 := by
          refine ⟨fun p hp => ?_, fun _ z => z.elim, fun x fx ps e => ?_⟩
          · obtain ⟨ps, t1, t2, t3⟩ := gtb.tab p hp
            refine ⟨ps, f2 _ _ t1 fun q => ?_, t2, fun pos cv hc => ?_⟩
            · rw [q, h1] at t1; cases t1
            · obtain ⟨c0, e1, e2⟩ := t3 pos cv hc
              exact ⟨c0, e1, f2 _ _ e2 fun q => by rw [q, h1] at e2; cases e2⟩
          · rw [(l x fx).2] at e
            exact gtb.f x fx ps e
        refine kQ _ (hq z h0 hlt) _ _ F ⟨fun a o e nb _ => f2 a o e fun q => nb (q ▸ eb), fun _ z => z, fun _ z => .inl z, fun a z => by rw [(l a z).2]; exact gt a z, fun x ex => ?_, tb2⟩ (.dat (.int z))
        have : b = x := Option.some.inj (eb.symm.trans ex)
        subst this
        exact ⟨⟨c, i2, j2, k2, cells, f1, h3.mono l, hlc⟩, nf⟩
/-! ### the bag's making, the law's def -/
/-- _law_bag(script) -/
def spBag (K : PySem.W.Frag) : Sp := fun vs H Q _ => ∃ (a : Addr) (ns : List Int), vs = [.ref a] ∧ SqL K H a (ns.map V.int) ∧ ns.length ≤ 63 ∧
  ∀ (H' : Hp) (b c : Addr) (i j k : Int) (cells : List Int), (∀ x o, H x = some o → H' x = some o) → cells.length ≤ 63 → H' b = some (.lst [.int i, .int j, .int k, .ref c]) → H' c = some (.lst (cells.map V.int)) → Q (.ref b) H'
abbrev rAbsI : List V → Hp → VK → Prop := fun xs H Q => ∃ i, xs = [.int i] ∧ Q (.int (if i < 0 then -i else i)) H
def bagT (K : PySem.W.Frag) : L2.TS := tRet (tLst (tCons (tC (.int 0)) (tCons (tC (.int 1234567891)) (tCons (tC (.int 0)) (tCons
  (tLc (iList K (tSl (rSlL K) (tVar 0) tNoPart (tPart (tC (.int 63))))) (gName 1) tYes (tCB rAbsI (tCons (tVar 1) tNil)) [1]) tNil)))))
theorem pure_bag {K : PySem.W.Frag} {vs : List V} {H : Hp} {Q : VK} {E : XK} (h : spBag K vs H Q E) : bagT K { nx := fun _ H' => Q .non H', rt := Q } (L2.start ["script", "cell"] vs) H := by
  obtain ⟨a, ns, rfl, hS, hl, k⟩ := h
  refine ⟨.ref a, rfl, 63, rfl, a, _, rfl, hS, fun p hp => ?_⟩
  obtain ⟨ms, hms, hml⟩ : ∃ ms : List Int, cutV (ns.map V.int) none (some 63) = ms.map V.int ∧ ms.length ≤ 63 := by
    refine ⟨(ns.drop (HT.sIx ns.length 0 none)).take (HT.sIx ns.length ns.length (some 63) - HT.sIx ns.length 0 none), ?_, ?_⟩
    · unfold cutV
      rw [List.length_map, List.map_take, List.map_drop]
    · rw [List.length_take, List.length_drop]
      omega
  refine ⟨p, rfl, ⟨_, .inl (.inl upd_same)⟩, fun Dl hD => ?_⟩
  have npD : p ≠ Dl := ne_of_none upd_same hD
  refine lc_list (K := K) (a := p) (xs := cutV (ns.map V.int) none (some 63)) (fun i H' => (∀ x o, H x = some o → H' x = some o) ∧ H' p = some (.lst (cutV (ns.map V.int) none (some 63))) ∧ ∃ acc : List Int, acc.length = i ∧ H' Dl = some (.lst (acc.map V.int))) ?_ (fun i H' _ q => .inl (.inl q.2.1)) ?_ ?_
  · exact ⟨fun x o e => by rw [upd_ne (ne_of_none (show (upd H p _) x = some o by rw [upd_ne (ne_of_none e hp)]; exact e) hD), upd_ne (ne_of_none e hp)]; exact e, by rw [upd_ne npD]; exact upd_same, [], rfl, upd_same⟩
  · rintro i x H' hx ⟨q0, q1, acc, qa, q2⟩
    have hi : i < 63 := by
      have := (List.getElem?_eq_some_iff.mp hx).1
      rw [hms, List.length_map] at this
      omega
    obtain ⟨z, rfl⟩ : ∃ z, x = V.int z := by
      rw [hms, List.getElem?_map] at hx
      cases e : ms[i]? with
      | none => rw [e] at hx; cases hx
      | some z => rw [e] at hx; exact ⟨z, (Option.some.inj hx).symm⟩
    refine ⟨rfl, ?_⟩
    simp only [tYes, if_true]
    exact ⟨.int z, rfl, z, rfl, acc.map V.int, q2, by rw [List.length_map, line_eq]; omega, fun x o e => by rw [upd_ne (ne_of_none (show (upd H p _) x = some o by rw [upd_ne (ne_of_none e hp)]; exact e) hD)]; exact q0 x o e, by rw [upd_ne npD]; exact q1, acc ++ [if z < 0 then -z else z], by rw [List.length_append, qa]; rfl, by rw [upd_same, List.map_append]; rfl⟩
  · rintro H' ⟨q0, _, acc, qa, q2⟩
    have hacc : acc.length ≤ 63 := by rw [qa, hms, List.length_map]; exact hml
    refine ⟨by show 4 ≤ sizeLine; rw [line_eq]; decide, fun b hb => ?_⟩
    exact k _ b Dl _ _ _ acc (fun x o e => by rw [upd_ne (ne_of_none (q0 x o e) hb)]; exact q0 x o e) hacc upd_same (by rw [upd_ne (ne_of_none q2 hb)]; exact q2)
def RunOk (P : Program) (w : World) (K : PySem.W.Frag) (mg : Str → Option Value) (fa : Addr) : Prop := ∀ (base : Heap) (s : Shared) (H : Hp) (a : Addr) (ns : List Int), K.In base → base.Ns mainGlobals mg → Tbs K mg base → LamX.Tabs (tabsOf K) H → Env0 P w K mg base callerA [] s H → SqL K H a (ns.map V.int) → ns.length ≤ 63 →
  codeAny (model P w) callerA (.call (.ref fa) ⟨[.ref a], []⟩) (CR (L2.CX P w) [] P w H s (fun v _ => v = .bl true) fun _ _ _ => False) s
theorem walk_run {l : PySem.W.OpenLaw} {q : Program} {loose : List Str} {XP : (Str → Option Value) → Heap → Prop} {YP : World → Heap → Prop} {d : DefRec} {K : Params → PySem.W.Frag} (hn : l.most = some 63) (hdf : d.params.defaults = []) (hY : ∀ (w : World) (h : Heap), YP w h → (K w.params).In h)
    (HT : ∀ (w : World) (h : Heap), YP w h → HeadTabs (K w.params) h)
    (F : ∀ (w : World) (mg : Str → Option Value) (fa : Addr) (h : Heap), (K w.params).In h → h.Ns mainGlobals mg → mg d.name = some (.ref fa) → RunOk l.prog w (K w.params) mg fa) :
    PySem.W.WalkO q loose XP YP l.row.toRowW d [] (fun f vs => PySem.call f vs) := by
  refine Att.attach_call hn hdf ?_
  intro w s₀ s₁ mg mb fa o pm cd doc a vs ns G Y ho hd hcd hmg hobj hints hlen hg
  have inK := hY w _ Y
  have R := F w mg fa _ inK G.T.g hmg
  exact law_head inK G.T.g G.T.b G.T.builtins G.T.nolimit hg G.T.bmain (HT w _ Y) hobj hints (by rw [line_eq]; omega) fun base H h1 h2 tb ta e0 hS => R base s₁ H a ns h1 h2 tb ta e0 hS hlen
/-- what is to be shown of a law over data: it hands back True, whatever is drawn -/
def LawVC (m p : Nat) (q : TS) : Prop := q { nx := fun _ => False, rt := fun dv => dv = .dat (.bool true) } (putO (List.replicate m none) p (some .bag))
theorem law_mk {P : Program} {w : World} {K : PySem.W.Frag} {mg : Str → Option Value} {st : Stmt} {rest : List Stmt} {f : Addr} {fd : FuncData} {N : List Str} {k : Nat} {q : TS} {p : Nat} (F : Fun K "law" "law" st f fd) (Sc : FnScope N ["script"] (defScope st)) (hr : Room (k + 1) callerA)
    (hb : ∀ (s : Shared) (u : Value), BindsTo s fd ⟨[u], []⟩ [("script", u)]) (hp : 0 < p ∧ p < N.length)
    (body : ∀ (base : Heap), Tbs K mg base → ∀ (X : Cx) (cdv : Value) (s : Shared) (H : Hp), CodeOf K f cdv → X = cxOf (L2.CX P w) P w K mg base N "law" (defScope st) f cdv callerA [] s H (fun _ _ _ => False) → (true = true → X.A.guards = some []) → Room k X.A → Takes X (fun _ _ _ _ => False) → PassesOwn (model X.prog X.w) X.A X.env X.xe →
      (∀ {u : L2.TS}, PSs X rest u → PSs X (defBody st) (tSeq (tAsg (tCall (spBag K) [] E0 (tCons (tVar 0) tNil)) (gName p)) u)) ∧ DSs X (fun _ _ _ _ => False) rest q)
    (vc : LawVC N.length p q) : RunOk P w K mg f := by
  intro base s H a ns inB hns tbs tab e0 hS hl
  refine fn_raw F Sc hr e0 (us := [.ref a]) (vs := [.ref a]) (ps := ["script"]) (hb s _) (.cons rfl .nil) rfl fun cdv hcd => ?_
  have tk : Takes (cxOf (L2.CX P w) P w K mg base N "law" (defScope st) f cdv callerA [] s H (fun _ _ _ => False)) (fun _ _ _ _ => False) := takes0
  obtain ⟨mk, ds⟩ := body base tbs _ cdv s H hcd rfl (fun _ => rfl) (hr.deeper _) tk (passes_of rfl)
  obtain ⟨t, pt, ent⟩ := ds.ex
  refine ⟨_, mk pt, ?_⟩
  have s0 : (L2.start N [V.ref a])[0]? = some (some (V.ref a)) := by
    unfold L2.start
    rfl
  refine ⟨.ref a, s0, a, ns, rfl, hS, hl, fun H' b c i j kk cells grown hc h1 h2 => ?_⟩
  have hlen : ((L2.start N [V.ref a]).set p (some (V.ref b))).length = N.length := by
    rw [List.length_set]
    unfold L2.start
    simp
    omega
  have R := rep_law (K := K) (w := w) (σ := (L2.start N [V.ref a]).set p (some (V.ref b))) h1 h2 (tab.ext grown) hc hlen p hp.2 (List.getElem?_set_self (by rw [List.length_set] at hlen; omega))
  exact ent _ _ _ _ _ { nx := fun _ => False, rt := fun dv => dv = .dat (.bool true) } _ rfl R ⟨fun _ _ _ _ _ z => z.elim, fun v H2 F2 dv _ rr e => by
    subst e
    cases rr with
    | dat s => cases s; rfl, fun _ _ _ _ _ z => z.elim, fun _ _ _ _ _ z => z.elim, fun _ => ⟨rfl, fun _ _ _ _ _ _ _ _ z => z.elim⟩⟩ vc
end DL

/-! DL, part 12: chains as tests, calls without defaults, three targets. -/
namespace DL
open PySem PySem.Spec L2
section
variable {X : Cx} {W : WX} {e a b c : Expr} {es : List Expr} {f h : TX} {pos p : Pos} {st : Stmt} {x : Str}
theorem dt_of {t : L2.TE} (pt : PT X e (tTest t)) (ent : ∀ (C : Ctx) (r : Env) (σ : L2.St) (H : Hp) (F : AP) (Q : DV → Env → Prop) (Xk : XW) (QV : VK), C.K = X.K → Rep C r σ H F → Link X W Xk C σ → f Xk r Q →
    (∀ v H' F' dv r', Rep C r' σ H' F' → Res C r' σ H' F' v dv → Q dv r' → QV v H') → t σ H QV) : DT X W e (bX f) := by
  refine ⟨⟨_, pt, fun C r σ H F Q Xk QV hK R L hf k => ?_⟩⟩
  refine ent C r σ H F _ Xk _ hK R L hf fun v H' F' dv r' R' G' q' => ?_
  split at q'
  · rename_i bb
    cases G' with
    | dat s =>
      cases s
      exact ⟨_, rfl, k bb H' F' r' R' q'⟩
  · exact q'.elim
theorem dt_chain {op op' : CmpOp} {p p' : R2} {o o' : Op2} {oa ob oc : OX} (ho : OpR X (compareOp op) p) (ho' : OpR X (compareOp op') p') (hs : Sem2 X.K p o) (hs' : Sem2 X.K p' o') (ha : DO X W a oa) (hb : DO X W b ob) (hc : DO X W c oc)
    (hm : lastMarks [op, op'] [b, c] = false := by with_unfolding_all rfl) : DT X W (.Compare a [op, op'] [b, c] pos) (bX (xCh o o' oa ob oc)) := by
  obtain ⟨ta, pa, ea⟩ := ha.ex
  obtain ⟨tb, pb, eb⟩ := hb.ex
  obtain ⟨tc, pc, ec⟩ := hc.ex
  exact dt_of (pt_chain ho ho' pa pb pc hm) (chain_ent hs hs' ea eb ec)
/-- f(e, ..), no defaults -/
theorem de_call0 {g : Bool} {k : Nat} {f : Addr} {fd : FuncData} {ps : List Str} {S : Spec} {u : AX} (F : FnG g X.prog X.w X.K X.mg X.base k f fd ps S) (hgd : g = true → X.A.guards = some []) (hr : Room k X.A) (tk : Takes X W)
    (hm : X.mg x = some (.ref f)) (hk : PySem.W.keepIn X.K (.ref f) = true) (hb : Binds X.K fd ps []) (hn : es.length + 1 = ps.length) (ha : DA X W (e :: es) u) (hg : Gl X x := by rfl)
    (hdb : (x == ("__debug__" : Str)) = false := by decide) (he : starEach (e :: es) X.env = (false, eval e X.env) :: starEach es X.env := by rfl) (hpl : (backTo pos (starEach es X.env)).any (·.1) = false := by rfl) :
    DE X W (.Call (.Name x p) (e :: es) [] pos) (xCall S u) := by
  have h := de_call (dvs := []) (dds := []) F hgd hr tk hm hk hb .nil (fun _ _ _ => .nil) hn ha hg hdb he hpl (p := p)
  have e1 : (fun vs => S (vs ++ List.map DV.dat [])) = S := by funext vs; simp
  rw [e1] at h
  exact h
/-- a, b, c = e1, e2, e3: data (lists are frozen) -/
theorem sem_ip {K : PySem.W.Frag} {g : Int → Int → Int} : Sem2 K (ipI g) (dInt fun i j => .int (g i j)) := by
  intro C r σ H F x y dx dy Q QV hK R hx hy hq k
  unfold dInt at hq
  split at hq
  · cases hx.int; cases hy.int
    exact ⟨_, _, rfl, rfl, kq_dat k R (.int _) hq⟩
  · exact hq.elim
theorem hu1 {k : Nat} {A : Around} (hr : Room k A) : A.units + 1 < cLine := by have := hr.un; omega
theorem hu65 {k : Nat} {A : Around} (hr : Room k A) : A.units + 65 < cLine := by have := hr.un; omega
theorem hu100 {k : Nat} {A : Around} (hr : Room k A) : A.units + 100 < cLine := by have := hr.un; omega
end
def sPar3 (i j l : Nat) (t : AX) : TS := fun E r => t E.ex r fun vs r1 => match vs with
  | [u, v, w] => E.nx (put (put (put r1 i u) j v) l w)
  | _ => False
section
variable {X : Cx} {W : WX} {es : List Expr} {st : Stmt}
theorem ds_par3 {i j l : Nat} {u : AX} (ha : DA X W es u) (mk : ∀ {ta : TA}, PA X es ta → PS X st (tPar3 i j l ta)) : DS X W st (sPar3 i j l u) := by
  obtain ⟨t, pa, ent⟩ := ha.ex
  refine ⟨⟨_, mk pa, fun C r σ H F E D' hK R k hf => ?_⟩⟩
  refine ent C r σ H F _ E.ex _ hK R (k.ex σ) hf fun vs H1 F1 ds r1 _ R1 A1 q1 => ?_
  split at q1
  · have res : ∀ {v : V} {dv : DV} {vs : List V} {ds : List DV}, ArgR C.K H1 F1 C.b (v :: vs) (dv :: ds) → (∀ r σ, Res C r σ H1 F1 v dv) ∧ ArgR C.K H1 F1 C.b vs ds := fun {v dv vs ds} a => by
      cases a with
      | dat h hs => exact ⟨fun _ _ => .dat h, hs⟩
      | bag h hs => exact ⟨fun _ _ => .bag h, hs⟩
    obtain ⟨v1, v2, v3, rfl⟩ : ∃ a b c, vs = [a, b, c] := by
      have hl := A1.length
      match vs, hl with
      | [a, b, c], _ => exact ⟨a, b, c, rfl⟩
    obtain ⟨g1, A2⟩ := res A1
    obtain ⟨g2, A3⟩ := res A2
    obtain ⟨g3, _⟩ := res A3
    exact ⟨_, _, _, rfl, k.nx _ H1 F1 _ (((R1.store (g1 _ _)).store (g2 _ _)).store (g3 _ _)) q1⟩
  · exact q1.elim
end
end DL

/-! DL, part 13: enumerate over tuples and texts too; zip. -/
namespace DL
open PySem PySem.Spec PyProof.Rows L2
/-! ### enumerate(v) -/
set_option maxHeartbeats 1000000 in
theorem enum_new1 {v : Value} {ob : Obj} {H : Heap → Prop} (B : Begins v ob H) :
    Meets (Builtin.«enumerate.__new__» ⟨[.type "enumerate", v], []⟩) (fun _ R s => H s.heap ∧
      R (.ok (.ret (.ref (s.heap.push ob).objs.size))) { s with heap := (s.heap.push ob).push { cls := .type "enumerate", data := .fields #[.none, .bool false, .ref s.heap.objs.size, rawInt 0, .none, .none] } }) :=
  .of_wp fun pr wo AA RR st hh => by
    obtain ⟨h0, g0, d0, t0, o0⟩ := st
    obtain ⟨a1, a2⟩ := hh
    have f1 := sub_enumerate
    have go : ∀ {A2 : Around} {E2 : Value → Shared → Prop} {Q2 : Value → Shared → Prop}, Q2 (.ref h0.objs.size) ⟨h0.push ob, g0, d0, t0, o0⟩ → wpAny (model pr wo) A2 (pyIter v) Q2 E2 ⟨h0, g0, d0, t0, o0⟩ := fun q => B.iter pr wo _ _ ⟨h0, g0, d0, t0, o0⟩ _ a1 q
    wp_walk using go
    refine wpAny_stack_any fun sk => wpAny_pure ?_
    split
    · rename_i cc _ _ _ _ _
      cases (cc == Value.type "enumerate")
      all_goals (wp_walk using go; exact ⟨_, rfl, a2⟩)
    · wp_walk using go; exact ⟨_, rfl, a2⟩
theorem enum_call1 {prog : Program} {w : World} {A : Around} {E : Value → Shared → Prop} {s : Shared} {v : Value} {ob : Obj} {H : Heap → Prop} {Q : Value → Shared → Prop} (B : Begins v ob H) (h1 : H s.heap)
    (h : ∀ h', IsEnum h' (s.heap.objs.size + 1) s.heap.objs.size 0 .none → h'.get? s.heap.objs.size = some ob → (∀ b o, s.heap.get? b = some o → h'.get? b = some o) → Q (.ref (s.heap.objs.size + 1)) { s with heap := h' }) : wpAny (model prog w) A (call (.type "enumerate") [v]) Q E s := by
  refine callType_new F.called_enumerate (by decide) (F.typeCall_enumerate_1 _) (F.newCall_enumerate_1 _) (fun x => F.args_object_init_2 x _) F.entry_enumerate_new (enum_new1 B) ⟨h1, ?_⟩
  have z : (s.heap.push ob).objs.size = s.heap.objs.size + 1 := Heap.size_push ..
  show _ ∧ _
  rw [z]
  have en : IsEnum ((s.heap.push ob).push { cls := .type "enumerate", data := .fields #[.none, .bool false, .ref s.heap.objs.size, rawInt 0, .none, .none] }) (s.heap.objs.size + 1) s.heap.objs.size 0 .none := by
    have q := Heap.get?_push_size (s.heap.push ob) (o := { cls := .type "enumerate", data := .fields #[.none, .bool false, .ref s.heap.objs.size, rawInt 0, .none, .none] }) rfl
    rw [z] at q; exact q
  exact ⟨⟨_, en, rfl⟩, h _ en (Heap.get?_push_of_some _ (Heap.get?_push_size _ B.free)) fun b o x => Heap.get?_push_of_some _ (Heap.get?_push_of_some _ x)⟩
/-- the tuple at a, each item in a new pair with its place -/
def IteT (K : PySem.W.Frag) (a : Addr) : It :=
  ⟨fun i H => ∃ (xs : List V) (x : V), SqT K H a xs ∧ xs[i]? = some x, fun i H v H' => ∃ T x, v = .ref T ∧ H T = none ∧ H' = upd H T (.tup [.int (i : Nat), x]) ∧ ∀ xs, SqT K H a xs → xs[i]? = some x, fun i H => ∃ xs : List V, SqT K H a xs ∧ xs.length ≤ i⟩
theorem two_apart {b e it : Addr} (h : b ∈ [e, it]) : b = e ∨ b = it := by simpa using h
theorem turn_enumT {P : Program} {w : World} {K : PySem.W.Frag} {els : List Expr} {kk : Nat} {tpos : Pos} (a en it : Addr) :
    Turn P w K (.Tuple els kk tpos) (IteT K a) [en, it] en (fun i h => (∃ old, IsEnum h en it ((i : Nat) : Int) old) ∧ h.IsTupleIter it a i ∧ en ≠ it ∧ en ≠ a ∧ a ≠ it) where
  mem := by simp
  self := fun _ _ _ _ _ st q => let ⟨⟨_, g⟩, _⟩ := st; wpAny_pyIter_enum g q
  keep := fun i h1 h2 st q => let ⟨⟨old, g⟩, gi, rest⟩ := st; ⟨⟨old, q en (by simp) _ g⟩, gi.at (fun o z => q it (by simp) o z), rest⟩
  obj := fun i h st b hb => by
    obtain ⟨⟨old, g⟩, ⟨ob, e1, _, e3⟩, _⟩ := st
    rcases two_apart hb with rfl | rfl
    · exact ⟨_, g, fun _ z => nomatch z⟩
    · exact ⟨ob, e1, fun _ z => by rw [e3] at z; cases z⟩
  item := by
    intro X eP ew eK hcalm i pins s σ H E I hfp st hgo
    subst eP ew eK
    obtain ⟨⟨old, g⟩, gi, n1, n2, n3⟩ := st
    obtain ⟨xs, x, hq, hx⟩ := hgo
    obtain ⟨its, rv, pl, _⟩ := I.tuple hq
    obtain ⟨u, hu, ru⟩ := rv.get hx
    have lt1 : en < s.heap.objs.size := Heap.lt_size g
    have lt2 : it < s.heap.objs.size := by obtain ⟨_, z, _⟩ := gi; exact Heap.lt_size z
    have hh : (X.A.in1).handled = none := I.ok.hd hcalm
    have hi : i < its.toArray.size := by
      have := (List.getElem?_eq_some_iff.mp hu).1
      simpa using this
    refine wpAny_pyNext_enum_itemC (Draws.tuple hh it a n3 its.toArray) g ⟨gi, pl⟩ hi n1 (by simp [n1, n2]) fun u2 h' tk hp ho ht hT hsz hk => ?_
    obtain rfl : u = u2 := by
      have q : its.toArray[i]? = some u := by simpa using hu
      rw [q] at hp
      exact Option.some.inj hp
    refine ⟨_, rfl, wpAny_letOwnedTupleGo_enum (s := { s with heap := h', toks := tk + 1 }) ho fun h2 he2 sb => ?_⟩
    have hT2 : h2.get? s.heap.objs.size = some { cls := .type "tuple", data := .seq #[.int i tk, u] } := (sb.2 _ (Nat.ne_of_gt lt1)).trans hT
    have new : ObjOk X.prog X.w (upd H s.heap.objs.size (.tup [.int (i : Nat), x])) h2 s.heap.objs.size (.tup [.int (i : Nat), x]) := by
      refine ⟨by show 2 ≤ sizeLine; decide, [.int i tk, u], .cons ⟨_, rfl⟩ (.cons ru .nil), ⟨_, hT2, rfl, _, rfl⟩⟩
    have I1 : Inv X pins σ (upd H s.heap.objs.size (.tup [.int (i : Nat), x])) { s with heap := h2, toks := tk + 1 } := by
      refine I.turnedNew (ch := [en, it]) (fun b ob hb q => ?_) hfp (Nat.le_refl _) new
      have nb1 : b ≠ en := fun z => hb (by simp [z])
      have nb2 : b ≠ it := fun z => hb (by simp [z])
      exact (sb.2 b nb1).trans (hk b ob nb1 nb2 q)
    refine ⟨.ref s.heap.objs.size, _, I1, rfl, ⟨_, x, rfl, I.hok.fresh (Nat.le_refl _), rfl, fun ys hy => ?_⟩, ⟨⟨u, ?_⟩, ht.1.at (fun o q => (sb.2 it (Ne.symm n1)).trans q), n1, n2, n3⟩, fun b hb => ?_⟩
    · rw [I.tuple_inj hy hq]; exact hx
    · have e1 : ((i + 1 : Nat) : Int) = (i : Int) + 1 := by omega
      rw [e1]; exact he2
    · have hb2 : b < s.heap.objs.size := by
        rcases two_apart hb with rfl | rfl
        · exact lt1
        · exact lt2
      rw [upd_ne (Nat.ne_of_lt hb2)]
      exact (hfp b hb).1
  done := by
    intro X eP ew eK hcalm i pins s σ H E I hfp st hgo
    subst eP ew eK
    obtain ⟨⟨old, g⟩, gi, n1, n2, n3⟩ := st
    obtain ⟨xs, hq, hx⟩ := hgo
    obtain ⟨its, rv, pl, _⟩ := I.tuple hq
    have hl := rv.length
    have hh : (X.A.in1).handled = none := I.ok.hd hcalm
    obtain ⟨f0, f1, f2, f3, f4, f5⟩ := hfp it (by simp)
    have pre : ∃ m, m = i ∧ its.toArray.size ≤ m := ⟨i, rfl, by simp; omega⟩
    refine wpAny_pyNext_enum_endD (n := i) (P := fun _ _ => True) (St := fun k h => k = i ∧ h.IsTupleIter it a i ∧ h.IsTuple a its.toArray) (fp := [it, a]) ⟨fun _ _ z => let ⟨o, q, _⟩ := z.2.1; ⟨o, q⟩, fun k h1 h2 z q => ⟨z.1, z.2.1.at fun o y => q it (by simp) o y, z.2.2.at fun o y => q a (by simp) o y⟩, fun k s2 _ _ lt z _ => absurd z.1 (by omega), fun s2 Q2 E2 z q => ?_⟩ g ⟨rfl, gi, pl⟩ fun h' eb => ⟨rfl, I.turned (t' := s.toks) (fun b o hb q => eb b o hb q) f0 f1 f3 f4 f5⟩
    exact PySem.wpAny_nextOf_tuple_end hh z.2.1 z.2.2 (by simp; omega) q
def iEnumT (K : PySem.W.Frag) (ta : TA) : TI := fun σ H R => ta σ H fun vs H1 => ∃ a xs, vs = [.ref a] ∧ ((SqL K H1 a xs ∧ R (Ite K a) H1) ∨ (SqT K H1 a xs ∧ R (IteT K a) H1))
theorem pi_enumT {X : Cx} {e : Expr} {ta : TA} {p pos tpos : Pos} {els : List Expr} {kk : Nat} (hg : Gl X "enumerate") (hm : X.mg "enumerate" = none) (ha : PA X [e] ta) (hs : starEach [e] X.env = [(false, eval e X.env)] := by rfl) :
    PI X (.Tuple els kk tpos) (.Call (.Name "enumerate" p) [e] [] pos) (iEnumT X.K ta) := by
  constructor
  intro pins s σ H R I h
  refine Call_ (ld_blt I hg hm boot_enumerate (PyProof.Rows.callWith_type1 (thn (ha.run pos pins s σ H _ I h) ?_) hs rfl))
  rintro us s1 ⟨vs, H1, I1, r1, a, xs, rfl, q⟩
  cases r1 with
  | cons r rr =>
    cases rr
    cases r
    have fresh : ∀ b, b ∈ [s1.heap.objs.size + 1, s1.heap.objs.size] → FpOk X pins H1 b := fun b hb => by
      have le : s1.heap.objs.size ≤ b := by rcases two_apart hb with rfl | rfl <;> omega
      exact I1.fpOk le (I1.hok.fresh le)
    rcases q with ⟨hq, q⟩ | ⟨hq, q⟩
    · obtain ⟨its, rv, pl, _⟩ := I1.list hq
      refine enum_call1 (begins_list a its.toArray) pl.isList fun h' he hit hk => wpAny_pyIter_enum he ?_
      have I2 : Inv X pins σ H1 { s1 with heap := h' } := I1.kept (t' := s1.toks) hk
      exact ⟨_, _, _, _, H1, rfl, I2, turn_enum a (s1.heap.objs.size + 1) s1.heap.objs.size, ⟨⟨.none, he⟩, ⟨_, hit, rfl, rfl⟩, Nat.succ_ne_self _⟩, fresh, q⟩
    · obtain ⟨its, rv, pl, _⟩ := I1.tuple hq
      have la : a < s1.heap.objs.size := by obtain ⟨_, z, _⟩ := id pl; exact Heap.lt_size z
      refine enum_call1 (begins_tuple a its.toArray) pl fun h' he hit hk => wpAny_pyIter_enum he ?_
      have I2 : Inv X pins σ H1 { s1 with heap := h' } := I1.kept (t' := s1.toks) hk
      exact ⟨_, _, _, _, H1, rfl, I2, turn_enumT a (s1.heap.objs.size + 1) s1.heap.objs.size, ⟨⟨.none, he⟩, ⟨_, hit, rfl, rfl⟩, Nat.succ_ne_self _, Nat.ne_of_gt (Nat.lt_succ_of_lt la), Nat.ne_of_lt la⟩, fresh, q⟩
end DL

/-! DL, part 14: zip; tuple(..) with its object known, its index; list.index; sorted texts; dicts. -/
namespace DL
open PySem PySem.Spec PyProof.Rows L2
/-! ### tuple(list), the object known -/
theorem call_tupF {X : Cx} : CallR X (.type "tuple") (fun vs H Q => ∃ p ys, vs = [.ref p] ∧ SqL X.K H p ys ∧ ∀ (l : Addr) (o : Obj), H l = none → o.dict = none → o.cls = .type "tuple" → Q (.ref l) (upd H l (.frz o (.tup ys)))) := by
  intro pins s σ H vs us Q I r h
  obtain ⟨p, ys, rfl, hq, q⟩ := h
  cases Vals.ref1 r
  obtain ⟨its, rv, pl, hz⟩ := I.list hq
  have hlen := rv.length
  refine call_tuple_list pl.isList (fun h' kp => ?_) (by simp only [List.size_toArray] <;> omega)
  have I1 : Inv X pins σ H { s with heap := h' } := I.kept (t' := s.toks) kp
  let o : Obj := { cls := .type "tuple", data := .seq its.toArray }
  have e1 : (h'.push o).get? h'.objs.size = some o := Heap.get?_push_size _ rfl
  have I2 : Inv X pins σ (upd H h'.objs.size (.frz o (.tup ys))) { s with heap := h'.push o } :=
    I1.laid (t' := s.toks) (fun b u z => Heap.get?_push_of_some _ z) (Nat.le_refl _) (show ObjOk X.prog X.w _ _ _ (.frz o (.tup ys)) from ⟨e1, hz, its, rv, IsTup.new _ _⟩)
  exact ⟨.ref h'.objs.size, _, I2, rfl, q _ o (I1.hok.fresh (Nat.le_refl _)) rfl rfl⟩
def nTupN : OpN := fun ds Q => match ds with
  | [.list xs] => Q (.nd xs)
  | _ => False
theorem sem_tupN {K : PySem.W.Frag} : SemN K (fun vs H Q => ∃ p ys, vs = [.ref p] ∧ SqL K H p ys ∧ ∀ (l : Addr) (o : Obj), H l = none → o.dict = none → o.cls = .type "tuple" → Q (.ref l) (upd H l (.frz o (.tup ys)))) nTupN := by
  intro C r σ H F xs ds Q QV hK R hx hq k
  subst hK
  unfold nTupN at hq
  split at hq
  · obtain ⟨v, rfl, hv⟩ := hx.one
    obtain ⟨a, ys, rfl, h1, h2⟩ := hv.lst
    refine ⟨_, _, rfl, .inl (.inl h1), fun p o hp od oc => ?_⟩
    refine k _ _ _ _ (R.newF hp) (later_new R hp) (.nd (.tup (.inl ⟨.inr rfl, .inr ⟨o, upd_same⟩⟩) (h2.mono (later_new R hp))) ⟨p, o, _, rfl, .inr rfl, od, oc, upd_same⟩) hq
  · exact hq.elim
/-! ### t.index(x) of such a tuple -/
def tTIdx (K : PySem.W.Frag) (i : Nat) (te : L2.TE) : L2.TE := fun σ H Q => ∃ (p : Addr) (o : Obj) (u : HO), σ[i]? = some (some (.ref p)) ∧ H p = some (.frz o u) ∧ o.dict = none ∧ o.cls = .type "tuple" ∧
  te σ H fun y H2 => ∃ (ys : List Str) (z : Str) (j : Nat), y = .str z ∧ SqT K H2 p (ys.map V.str) ∧ ys[j]? = some z ∧ (∀ m, m < j → ys[m]? ≠ some z) ∧ Q (.int (j : Nat)) H2
theorem pe_tidx {X : Cx} {ob e : Expr} {i : Nat} {te : L2.TE} {apos cpos : Pos} (po : PE X ob (tVar i)) (he : PE X e te) (hbase : attributeBase ob "index" X.env (eval ob X.env) = eval ob X.env := by rfl)
    (hfew : ((backTo cpos (starEach [e] X.env)).all (fun x => !x.1) && (backToKw cpos (keywordEach [] X.env)).all (fun x => x.1.isSome) && decide ([e].length + ([] : List Keyword).length + (if ([] : List Keyword).isEmpty then 0 else 1) < 30)) = true := by rfl)
    (hline : (apos.endLine == cpos.line) = true := by rfl) (hs : starEach [e] X.env = (false, eval e X.env) :: starEach [] X.env := by rfl) (hplain : (backTo cpos (starEach [] X.env)).any (·.1) = false := by rfl) :
    PE X (.Call (.Attribute ob "index" apos) [e] [] cpos) (tTIdx X.K i te) := by
  constructor
  intro pins s σ H Q I h
  obtain ⟨p, o, u, e1, e2, od, oc, h⟩ := h
  refine wpAny_Call_method_late hbase hfew hline rfl (thn (po.run pins s σ H (fun x H1 => x = .ref p ∧ H1 = H) I ⟨_, e1, rfl, rfl⟩) ?_)
  rintro v s1 ⟨x, H1, I1, r1, rfl, rfl⟩
  obtain rfl : v = Value.ref p := r1
  have ho : s1.heap.get? p = some o := (I1.hok p _ e2).1
  refine ⟨"tuple", "tuple.index", PySem.F.plainAttrs_tuple, PySem.F.slot_tuple_index, PySem.F.type_tuple_index, ⟨o, ho, oc⟩, fun a z => ?_, ?_⟩
  · cases z; exact ⟨o, ho, od⟩
  have hA := (pa_cons he pa_nil hs).run cpos pins s1 σ H1 (fun vs H2 => match vs with
    | [y] => ∃ (ys : List Str) (z : Str) (j : Nat), y = .str z ∧ SqT X.K H2 p (ys.map V.str) ∧ ys[j]? = some z ∧ (∀ m, m < j → ys[m]? ≠ some z) ∧ Q (.int (j : Nat)) H2
    | _ => False) I1 h
  rw [hs] at hA ⊢
  refine Calls.callWith_builtin (by show (false || (backTo cpos (starEach [] X.env)).any (·.1)) = false; rw [hplain]; rfl) (Calls.evalArgs_plain ?_)
  refine thn hA ?_
  rintro us s2 ⟨vs, H2, I2, r2, q⟩
  split at q
  · obtain ⟨ys, z, j, rfl, a1, a2, a3, q⟩ := q
    exact mt_tup_index pins s2 σ H2 (.ref p) [.str z] _ us Q I2 rfl r2 ⟨p, ys, z, j, rfl, rfl, a1, a2, a3, q⟩
  · exact q.elim
def strsOf : List D → Option (List Str)
  | [] => some []
  | .str i :: r => (strsOf r).map (i :: ·)
  | _ => none
theorem strsOf_map : ∀ {ds : List D} {ss : List Str}, strsOf ds = some ss → ds = ss.map .str
  | [], ss, e => by cases e; rfl
  | .str x :: r, ss, e => by
    have e' : (strsOf r).map (x :: ·) = some ss := e
    cases q : strsOf r with
    | none => rw [q] at e'; cases e'
    | some t =>
      rw [q] at e'
      have := Option.some.inj e'
      subst this
      rw [strsOf_map q]; rfl
  | .none :: _, _, e => by cases e
  | .bool _ :: _, _, e => by cases e
  | .int _ :: _, _, e => by cases e
  | .list _ :: _, _, e => by cases e
  | .tuple _ :: _, _, e => by cases e
  | .dict _ :: _, _, e => by cases e
theorem strsOf_of : ∀ (ss : List Str), strsOf (ss.map .str) = some ss
  | [] => rfl
  | x :: r => by
    show (strsOf (r.map .str)).map (x :: ·) = _
    rw [strsOf_of r]; rfl
def xTIdx (i : Nat) (b : OX) : TX := fun X r Q => (∃ ds, sl r i = some (.nd ds)) ∧ b X r fun g r1 => match g r1, sl r1 i with
  | some (.str z), some (.nd ds) => (match strsOf ds with
    | some zs => ∃ j, zs[j]? = some z ∧ (∀ m, m < j → zs[m]? ≠ some z) ∧ Q (.dat (.int (j : Nat))) r1
    | none => False)
  | _, _ => False
section
variable {X : Cx} {W : WX} {e a b ob : Expr} {es : List Expr} {pos : Pos}
theorem de_tidx {i : Nat} {apos cpos : Pos} {o : OX} (po : PE X ob (tVar i)) (hb : DO X W b o) (hbase : attributeBase ob "index" X.env (eval ob X.env) = eval ob X.env := by rfl)
    (hfew : ((backTo cpos (starEach [b] X.env)).all (fun x => !x.1) && (backToKw cpos (keywordEach [] X.env)).all (fun x => x.1.isSome) && decide ([b].length + ([] : List Keyword).length + (if ([] : List Keyword).isEmpty then 0 else 1) < 30)) = true := by rfl)
    (hline : (apos.endLine == cpos.line) = true := by rfl) (hs : starEach [b] X.env = (false, eval b X.env) :: starEach [] X.env := by rfl) (hplain : (backTo cpos (starEach [] X.env)).any (·.1) = false := by rfl) :
    DE X W (.Call (.Attribute ob "index" apos) [b] [] cpos) (xTIdx i o) := by
  obtain ⟨t, pe, ent⟩ := hb.ex
  refine ⟨⟨_, pe_tidx po pe hbase hfew hline hs hplain, fun C r σ H F Q Xk QV hK R L hf k => ?_⟩⟩
  obtain ⟨⟨ds0, e0⟩, hf⟩ := hf
  obtain ⟨v0, s0, sr0⟩ := R.slot i _ e0
  cases sr0 with
  | nd hd hn =>
    obtain ⟨p, ob0, u, rfl, fp, od, oc, hp⟩ := hn
    refine ⟨p, ob0, u, s0, hp, od, oc, ?_⟩
    refine ent C r σ H F _ Xk _ hK R L hf fun v H1 F1 g r1 R1 G1 q1 => ?_
    split at q1
    · rename_i z ds eg es
      split at q1
      · rename_i zs ez
        obtain ⟨j, h1, h2, h3⟩ := q1
        have hv := G1 _ _ _ _ R1 Later.refl eg
        obtain ⟨v1, s1, sr1⟩ := R1.slot i _ es
        rw [s0] at s1; cases s1
        cases sr1 with
        | nd hd1 _ =>
          have e2 := strsOf_map ez
          subst e2
          cases hd1 with
          | tup g1 g2 =>
            have := g2.vstrs
            subst this
            cases hv.str
            exact ⟨zs, z, j, rfl, by rw [← hK]; exact g1.elim (fun q => .inl q.2) fun q => q.sq _, h1, h2, k _ H1 F1 _ r1 R1 (.dat (.int _)) h3⟩
      · exact q1.elim
    · exact q1.elim
/-! ### xs.index(y) of a list -/
def xLIdx (a b : OX) : TX := fun X r Q => a X r fun g r1 => (∃ ds, g r1 = some (.list ds)) ∧ b X r1 fun h r2 => match g r2, h r2 with
  | some (.list xs), some y => okD (.list xs) ∧ okD y ∧ ∃ (j : Nat) (z : D), xs[j]? = some z ∧ PyData.eqv z y = true ∧ (∀ (m : Nat) (z' : D), m < j → xs[m]? = some z' → PyData.eqv z' y = false) ∧ Q (.dat (.int (j : Nat))) r2
  | _, _ => False
theorem de_lidx {oa o : OX} (ha : DO X W a oa) (hb : DO X W b o) (hs : starEach [b] X.env = (false, eval b X.env) :: starEach [] X.env := by rfl) (mk : ∀ {to : L2.TE} {t : TA}, PE X a to → PA X [b] t → PE X e (tBM X.K "list" (rIndexD X.K) to t)) : DE X W e (xLIdx oa o) := by
  obtain ⟨ta, pa, enta⟩ := ha.ex
  obtain ⟨tb, pb, entb⟩ := hb.ex
  refine ⟨⟨_, mk pa (pa_cons pb pa_nil hs), fun C r σ H F Q Xk QV hK R L hf k => ?_⟩⟩
  refine enta C r σ H F _ Xk _ hK R L hf fun v H1 F1 g r1 R1 G1 q1 => ?_
  obtain ⟨⟨ds0, e0⟩, q1⟩ := q1
  obtain ⟨p, xs, rfl, h1, h2⟩ := (G1 _ _ _ _ R1 Later.refl e0).lst
  refine ⟨.inl ⟨rfl, _, .inl (.inl h1)⟩, ?_⟩
  refine entb (C.up H1 F1 noT) r1 σ H1 F1 _ Xk _ hK R1.up0 (L.up R1) q1 fun w H2 F2 g2 r2 R2' G2 q2 => ?_
  have R2 := R1.down R2'
  split at q2
  · rename_i ys y ex ey
    obtain ⟨k1, k2, j, z, k3, k4, k5, q⟩ := q2
    have hx := G1 _ _ _ _ R2 R2'.later ex
    have hy := G2 _ _ _ _ R2' Later.refl ey
    exact ⟨p, w, y, ys, j, z, rfl, rfl, hK ▸ hx.dp (okd_nodict k1), hK ▸ hy.dp (okd_nodict k2), k1, k2, k3, k4, k5, k _ H2 F2 _ r2 R2 (.dat (.int _)) q⟩
  · exact q2.elim
/-! ### sorted(xs) of fewer than 64 texts -/
def nSortS : OpN := fun ds Q => match ds with
  | [.list xs] => (match strsOf xs with
    | some zs => zs.length < 64 ∧ ∀ ys : List Str, ys.Perm zs → sortedS ys = true → Q (.own (ys.map .str))
    | none => False)
  | _ => False
theorem dpfs_strs {K : PySem.W.Frag} {H : Hp} {F : AP} : ∀ (ss : List Str), DpFs K H F (ss.map V.str) (ss.map .str)
  | [] => .nil
  | x :: r => .cons (.str x) (dpfs_strs r)
theorem sem_sortS {K : PySem.W.Frag} : SemN K (rSortedS K) nSortS := by
  intro C r σ H F xs ds Q QV hK R hx hq k
  subst hK
  unfold nSortS at hq
  split at hq
  · split at hq
    · rename_i zs ez
      obtain ⟨v, rfl, hv⟩ := hx.one
      obtain ⟨a, vs, rfl, h1, h2⟩ := hv.lst
      have e2 := strsOf_map ez
      subst e2
      have := h2.vstrs
      subst this
      exact ⟨a, zs, rfl, .inl (.inl h1), hq.1, fun ys p hp hs hn => kq_own k R hn (dpfs_strs ys) (hq.2 ys hp hs)⟩
    · exact hq.elim
  · exact hq.elim
/-! ### zip -/
def zipD (xs ys : List D) : List D := (xs.zip ys).map fun p => .tuple [p.1, p.2]
theorem zipD_get {xs ys : List D} {i : Nat} {x y : D} (h1 : xs[i]? = some x) (h2 : ys[i]? = some y) : (zipD xs ys)[i]? = some (.tuple [x, y]) := by
  unfold zipD
  rw [List.getElem?_map, (List.getElem?_zip_eq_some (z := (x, y))).mpr ⟨h1, h2⟩]
  rfl
theorem walkD_zipT {K : PySem.W.Frag} {H : Hp} {F : AP} {a b : Addr} {xs ys : List V} {ds es : List D} (ha : (F a ∧ Rd H a (.tup xs)) ∨ KT K a xs) (hb : (F b ∧ Rd H b (.tup ys)) ∨ KT K b ys) (hx : DpFs K H F xs ds) (hy : DpFs K H F ys es) : WalkD K (RZ.ItzT K a b) (zipD ds es) H F := by
  have sq : ∀ {c : Addr} {zs : List V} {H' : Hp} {F' : AP}, ((F c ∧ Rd H c (.tup zs)) ∨ KT K c zs) → Later H F H' F' → SqT K H' c zs := fun {c zs H' F'} h l => by
    rcases h with h | h
    · exact .inl (rd_later (l c h.1).2 h.2)
    · exact h.sq _
  have len : (zipD ds es).length = min xs.length ys.length := by
    unfold zipD
    rw [List.length_map, List.length_zip, hx.length, hy.length]
  refine ⟨fun i H' F' hi l => ?_, fun H' F' l => ?_, fun i H' F' x H2 hi trk l y => ?_⟩
  · rw [len] at hi
    exact ⟨xs, ys, xs[i], ys[i], sq ha l, sq hb l, List.getElem?_eq_getElem (by omega), List.getElem?_eq_getElem (by omega)⟩
  · refine ⟨xs, ys, sq ha l, sq hb l, ?_⟩
    rw [len]; omega
  · rw [len] at hi
    obtain ⟨T, u, w, rfl, hT, rfl, g1, g2⟩ := y
    obtain ⟨d1, e1, q1⟩ := hx.getV (g1 xs (sq ha l))
    obtain ⟨d2, e2, q2⟩ := hy.getV (g2 ys (sq hb l))
    have l2 : Later H' F' (upd H' T (.tup [u, w])) (fun c => F' c ∨ c = T) := fun c z => ⟨.inl z, upd_ne fun q => trk c z (q ▸ hT)⟩
    refine ⟨fun c => F' c ∨ c = T, _, zipD_get e1 e2, .tup (.inl ⟨.inr rfl, .inl upd_same⟩) (.cons ((q1.mono l).mono l2) (.cons ((q2.mono l).mono l2) .nil)), l2, fun c o q => ?_, fun c z => ?_⟩
    · rw [upd_ne (ne_of_none q hT)]; exact q
    · rcases z with z | rfl
      · exact .inl z
      · exact .inr ⟨hT, by rw [upd_same]; simp, nt_tup upd_same⟩
theorem walkD_zipL {K : PySem.W.Frag} {H : Hp} {F : AP} {a b : Addr} {xs ys : List V} {ds es : List D} (ha : F a ∧ H a = some (.lst xs)) (hb : F b ∧ H b = some (.lst ys)) (hx : DpFs K H F xs ds) (hy : DpFs K H F ys es) : WalkD K (L2.Itz K a b) (zipD ds es) H F := by
  have sq : ∀ {c : Addr} {zs : List V} {H' : Hp} {F' : AP}, (F c ∧ H c = some (.lst zs)) → Later H F H' F' → SqL K H' c zs := fun {c zs H' F'} h l => .inl (.inl ((l c h.1).2.trans h.2))
  have len : (zipD ds es).length = min xs.length ys.length := by
    unfold zipD
    rw [List.length_map, List.length_zip, hx.length, hy.length]
  refine ⟨fun i H' F' hi l => ?_, fun H' F' l => ?_, fun i H' F' x H2 hi trk l y => ?_⟩
  · rw [len] at hi
    exact ⟨xs, ys, xs[i], ys[i], sq ha l, sq hb l, List.getElem?_eq_getElem (by omega), List.getElem?_eq_getElem (by omega)⟩
  · refine ⟨xs, ys, sq ha l, sq hb l, ?_⟩
    rw [len]; omega
  · rw [len] at hi
    obtain ⟨T, u, w, rfl, hT, rfl, g1, g2⟩ := y
    obtain ⟨d1, e1, q1⟩ := hx.getV (g1 xs (sq ha l))
    obtain ⟨d2, e2, q2⟩ := hy.getV (g2 ys (sq hb l))
    have l2 : Later H' F' (upd H' T (.tup [u, w])) (fun c => F' c ∨ c = T) := fun c z => ⟨.inl z, upd_ne fun q => trk c z (q ▸ hT)⟩
    refine ⟨fun c => F' c ∨ c = T, _, zipD_get e1 e2, .tup (.inl ⟨.inr rfl, .inl upd_same⟩) (.cons ((q1.mono l).mono l2) (.cons ((q2.mono l).mono l2) .nil)), l2, fun c o q => ?_, fun c z => ?_⟩
    · rw [upd_ne (ne_of_none q hT)]; exact q
    · rcases z with z | rfl
      · exact .inl z
      · exact .inr ⟨hT, by rw [upd_same]; simp, nt_tup upd_same⟩
def wZip (t : AX) : SX := fun X r Q => t X r fun vs r1 => match allD vs with
  | some [.tuple xs, .tuple ys] => Q (zipD xs ys) r1
  | some [.list xs, .list ys] => Q (zipD xs ys) r1
  | _ => False
theorem src_zip {tg : Expr} {u : AX} (ha : DA X W es u) (mk : ∀ {ta : TA}, PA X es ta → PI X tg e (RZ.iZipA X.K ta)) : DSrc X W tg e (wZip u) := by
  obtain ⟨t, pa, ent⟩ := ha.ex
  refine ⟨⟨_, mk pa, fun C r σ H F Q Xk RV hK R L hf k => ?_⟩⟩
  refine ent C r σ H F _ Xk _ hK R L hf fun vs H1 F1 ds r1 _ R1 A1 q1 => ?_
  split at q1
  · rename_i xs ys e1
    have h := A1.all e1
    cases h with
    | cons h1 h2 => cases h2 with
      | cons h3 h4 =>
        cases h4
        cases h1 with
        | tup g1 g2 => cases h3 with
          | tup g3 g4 =>
            have w := walkD_zipT g1 g3 g2 g4
            have s1 := g1.elim (fun p => (.inl p.2 : SqT C.K H1 _ _)) fun p => p.sq _
            have s2 := g3.elim (fun p => (.inl p.2 : SqT C.K H1 _ _)) fun p => p.sq _
            have s3 := k _ H1 F1 _ r1 R1 w q1
            rw [hK] at s1 s2 s3
            exact ⟨_, _, _, _, rfl, .inr ⟨s1, s2, s3⟩⟩
  · rename_i xs ys e1
    have h := A1.all e1
    cases h with
    | cons h1 h2 => cases h2 with
      | cons h3 h4 =>
        cases h4
        cases h1 with
        | lst g1 g2 => cases h3 with
          | lst g3 g4 =>
            have w := walkD_zipL g1 g3 g2 g4
            have s1 : SqL C.K H1 _ _ := .inl (.inl g1.2)
            have s2 : SqL C.K H1 _ _ := .inl (.inl g3.2)
            have s3 := k _ H1 F1 _ r1 R1 w q1
            rw [hK] at s1 s2 s3
            exact ⟨_, _, _, _, rfl, .inl ⟨s1, s2, s3⟩⟩
  · exact q1.elim
end
end DL

/-! DL, part 15: dicts whose keys are numbers or texts. -/
namespace DL
open PySem PySem.Spec PyProof.Rows L2
def lookD (kvs : List (D × D)) (k : D) : Option D := (kvs.find? fun p => decide (keyD p.1 = keyD k)).map (·.2)
def putD (kvs : List (D × D)) (k d : D) : List (D × D) :=
  if (kvs.any fun p => decide (keyD p.1 = keyD k)) = true then kvs.map (fun p => if keyD p.1 = keyD k then (p.1, d) else p) else kvs ++ [(k, d)]
section
variable {K : PySem.W.Frag} {H : Hp} {F : AP}
theorem KvR.look : ∀ {ps : List (Key × V)} {kvs : List (D × D)} {k : D} {kk : Key}, KvR K H F keyD ps kvs → keyD k = some kk → (match valV ps kk with
    | some v => ∃ d, lookD kvs k = some d ∧ DpF K H F v d
    | none => lookD kvs k = none)
  | _, _, k, kk, .nil, _ => rfl
  | _, _, k, kk, .cons (k := k0) (v := v0) (kd := kd0) (d := d0) (r := r) (s := s) e h hs, ek => by
    have ih := KvR.look hs ek
    by_cases q : k0 = kk
    · rw [valV_pos (p := (k0, v0)) q]
      refine ⟨d0, ?_, h⟩
      unfold lookD
      rw [List.find?_cons_of_pos (by rw [e, ek, q]; exact decide_eq_true rfl)]
      rfl
    · rw [valV_neg (p := (k0, v0)) q]
      have e2 : lookD ((kd0, d0) :: s) k = lookD s k := by
        unfold lookD
        rw [List.find?_cons_of_neg (by rw [e, ek]; simpa using q)]
      rw [e2]
      exact ih
theorem KvR.any : ∀ {ps : List (Key × V)} {kvs : List (D × D)} {k : D} {kk : Key}, KvR K H F keyD ps kvs → keyD k = some kk → (ps.any fun p => decide (p.1 = kk)) = (kvs.any fun p => decide (keyD p.1 = keyD k))
  | _, _, _, _, .nil, _ => rfl
  | _, _, k, kk, .cons e h hs, ek => by
    rw [List.any_cons, List.any_cons, KvR.any hs ek]
    congr 1
    simp [e, ek]
theorem KvR.app : ∀ {ps qs : List (Key × V)} {kvs ls : List (D × D)}, KvR K H F keyD ps kvs → KvR K H F keyD qs ls → KvR K H F keyD (ps ++ qs) (kvs ++ ls)
  | _, _, _, _, .nil, k => k
  | _, _, _, _, .cons e h hs, k => .cons e h (KvR.app hs k)
theorem KvR.set : ∀ {ps : List (Key × V)} {kvs : List (D × D)} {k d : D} {kk : Key} {v : V}, KvR K H F keyD ps kvs → keyD k = some kk → DpF K H F v d →
    KvR K H F keyD (ps.map fun p => if p.1 = kk then (p.1, v) else p) (kvs.map fun p => if keyD p.1 = keyD k then (p.1, d) else p)
  | _, _, _, _, _, _, .nil, _, _ => .nil
  | _, _, k, d, kk, v, .cons (k := k0) (kd := kd0) e h hs, ek, hv => by
    rw [List.map_cons, List.map_cons]
    by_cases q : k0 = kk
    · rw [if_pos q, if_pos (by rw [e, ek, q])]
      exact .cons e hv (KvR.set hs ek hv)
    · rw [if_neg q, if_neg (by rw [e, ek]; intro z; exact q (Option.some.inj z))]
      exact .cons e h (KvR.set hs ek hv)
theorem KvR.put {ps : List (Key × V)} {kvs : List (D × D)} {k d : D} {kk : Key} {v : V} (h : KvR K H F keyD ps kvs) (ek : keyD k = some kk) (hv : DpF K H F v d) : KvR K H F keyD (putK ps kk v) (putD kvs k d) := by
  unfold putK putD
  rw [h.any ek]
  split
  · exact h.set ek hv
  · exact h.app (.cons ek hv .nil)
theorem KvR.len : ∀ {ps : List (Key × V)} {kvs : List (D × D)}, KvR K H F keyD ps kvs → ps.length = kvs.length
  | _, _, .nil => rfl
  | _, _, .cons _ _ hs => congrArg (· + 1) (KvR.len hs)
theorem key_v {v : V} {d : D} {kk : Key} (h : DpT K H F v d) (e : keyD d = some kk) : v = kV kk := by
  cases d with
  | int i => cases e; exact h.int
  | str x => cases e; exact h.str
  | _ => cases e
end
/-- the object that a slot holds alone, changed -/
theorem Rep.objUpd {C : Ctx} {r : Env} {σ : L2.St} {H : Hp} {F : AP} {i : Nat} {d0 dv : DV} {a : Addr} {o : HO} (R : Rep C r σ H F) (e : sl r i = some d0) (h0 : d0.hold = true) (e1 : σ[i]? = some (some (.ref a))) (hd : dv.hold = true)
    (nf : ¬ F a) (new : SltR C.K C.w (upd H a o) F C.b (.ref a) dv) : Rep C (put r i dv) σ (upd H a o) F ∧ Later H F (upd H a o) F := by
  obtain ⟨nz, nb⟩ := R.ownz i _ a e h0 e1
  have l : Later H F (upd H a o) F := fun x z => ⟨z, upd_ne fun q => nf (q ▸ z)⟩
  have aux : ∀ {j dj}, sl (put r i dv) j = some dj → dj.hold = true → ∃ d', sl r j = some d' ∧ d'.hold = true := fun {j dj} ej oj => by
    rcases sl_put_some ej with ⟨rfl, _⟩ | ⟨_, ej'⟩
    · exact ⟨_, e, h0⟩
    · exact ⟨_, ej', oj⟩
  refine ⟨⟨by rw [len_putO]; exact R.len, fun j dj ej => ?_, fun j k dj dk x ej ek oj ok sj sk => ?_, fun x z => ?_, R.fsub, R.fnew, R.fz, fun x z => ?_, fun j dj x ej oj sj => ?_, fun x ex => ?_, R.tb.upd ?_ ?_⟩, l⟩
  · rcases sl_put_some ej with ⟨rfl, rfl⟩ | ⟨ne, ej'⟩
    · exact ⟨_, e1, new⟩
    · obtain ⟨v, ev, sr⟩ := R.slot j dj ej'
      refine ⟨v, ev, ?_⟩
      cases sr with
      | dat s => exact .dat (s.mono l)
      | own g1 g2 g3 => exact .own ((upd_ne fun q => ne (R.dist j i _ _ _ ej' e rfl h0 (q ▸ ev) e1)).trans g1) (g2.mono l) g3
      | dct g1 g3 => exact .dct (g1.mono l (upd_ne fun q => ne (R.dist j i _ _ _ ej' e rfl h0 (q ▸ ev) e1))) g3
      | nd s n => exact .nd (s.mono l) (n.mono l)
      | rng n => exact .rng (n.mono l)
      | bag s => exact .bag s
  · obtain ⟨d1, e3, o3⟩ := aux ej oj
    obtain ⟨d2, e4, o4⟩ := aux ek ok
    exact R.dist j k d1 d2 x e3 e4 o3 o4 sj sk
  · rw [upd_ne (fun w : x = a => nz (w ▸ z))]; exact R.keep x z
  · rw [(l x z).2]; exact R.ftrk x z
  · rcases sl_put_some ej with ⟨rfl, _⟩ | ⟨_, ej'⟩
    · exact R.ownz j _ x e h0 sj
    · exact R.ownz j dj x ej' oj sj
  · obtain ⟨k, nf', nz'⟩ := R.bag x ex
    exact ⟨BagOk.mono (C := C) l (upd_ne (fun w : x = a => nb (w ▸ ex))) k, nf', nz'⟩
  · obtain ⟨v, ev, sr⟩ := R.slot i _ e
    rw [e1] at ev; cases ev
    cases sr with
    | own g1 _ _ => exact free_lst g1
    | dct g1 _ => exact free_dct g1
    | dat _ => cases h0
    | nd _ _ => cases h0
    | rng _ => cases h0
    | bag _ => cases h0
  · intro ps z
    have n : NT (upd H a o) a := by
      cases new with
      | own g1 _ _ => exact nt_lst g1
      | dct g1 _ => exact (free_dct g1).nt
      | dat _ => cases hd
      | nd _ _ => cases hd
      | rng _ => cases hd
      | bag _ => cases hd
    exact n ps (by rw [upd_same, z])
def xDGet (i : Nat) (b : OX) : TX := fun X r Q => (∃ kvs, sl r i = some (.dct false kvs)) ∧ b X r fun g r1 => match g r1, sl r1 i with
  | some k, some (.dct false kvs) => keyD k ≠ none ∧ (match lookD kvs k with
    | some d => Q (.dat d) r1
    | none => False)
  | _, _ => False
/-- k in d -/
def xDIn (neg : Bool) (i : Nat) (b : OX) : TX := fun X r Q => b X r fun g r1 => match g r1, sl r1 i with
  | some k, some (.dct false kvs) => keyD k ≠ none ∧ Q (.dat (.bool (neg != (lookD kvs k).isSome))) r1
  | _, _ => False
/-- d[k] = e -/
def sDPut (i : Nat) (b : OX) (f : TX) : TS := fun E r => f E.ex r fun dv r1 => match dv.toD with
  | some d => (∃ kvs, sl r1 i = some (.dct false kvs)) ∧ b E.ex r1 fun g r2 => (match g r2, sl r2 i with
    | some k, some (.dct false kvs) => keyD k ≠ none ∧ kvs.length < 16777216 ∧ E.nx (put r2 i (.dct false (putD kvs k d)))
    | _, _ => False)
  | none => False
def xDNew : TX := fun _ r Q => Q (.dct false []) r
/-- {k: v}, k written -/
def xDOne (k : D) (f : TX) : TX := fun X r Q => keyD k ≠ none ∧ f X r fun dv r1 => match dv.toD with
  | some d => Q (.dct false [(k, d)]) r1
  | none => False
section
variable {X : Cx} {W : WX} {e a b ob : Expr} {es : List Expr} {pos : Pos}
theorem dctR_new {K : PySem.W.Frag} {w : World} {H : Hp} {F : AP} {a : Addr} {ps : List (Key × V)} {kvs : List (D × D)} (e : H a = some (.dK ps)) (h : KvR K H F keyD ps kvs) : DctR K w H F a false kvs := .inl ⟨rfl, ps, e, h⟩
theorem DctR.k {K : PySem.W.Frag} {w : World} {H : Hp} {F : AP} {a : Addr} {kvs : List (D × D)} (h : DctR K w H F a false kvs) : ∃ ps, H a = some (.dK ps) ∧ KvR K H F keyD ps kvs := by
  rcases h with ⟨_, ps, h1, h2⟩ | ⟨z, _⟩
  · exact ⟨ps, h1, h2⟩
  · cases z
theorem ne_some {α : Type} {o : Option α} (h : o ≠ none) : ∃ x, o = some x := by
  cases o with
  | none => exact absurd rfl h
  | some x => exact ⟨x, rfl⟩
theorem de_dget {i : Nat} {o : OX} (hu : X.A.units + 1 < cLine) (po : PE X ob (tVar i)) (hb : DO X W b o) (hs : NoSl b) : DE X W (.Subscript ob b pos) (xDGet i o) := by
  obtain ⟨t, pe, ent⟩ := hb.ex
  refine ⟨⟨_, pe_dget hu po pe hs, fun C r σ H F Q Xk QV hK R L hf k => ?_⟩⟩
  obtain ⟨⟨kvs0, e0⟩, hf⟩ := hf
  obtain ⟨v0, s0, sr0⟩ := R.slot i _ e0
  refine ⟨v0, s0, ?_⟩
  refine ent C r σ H F _ Xk _ hK R L hf fun y H1 F1 g r1 R1 G1 q1 => ?_
  split at q1
  · rename_i kd kvs eg e1
    obtain ⟨hk, q1⟩ := q1
    obtain ⟨kk, ek⟩ := ne_some hk
    have hy := key_v (G1 _ _ _ _ R1 Later.refl eg) ek
    obtain ⟨v1, s1, sr1⟩ := R1.slot i _ e1
    rw [s0] at s1; cases s1
    cases sr1 with
    | dct g1 g3 =>
      obtain ⟨ps, h1, h2⟩ := g1.k
      have hl := h2.look ek
      split at q1
      · rename_i d ed
        cases ev : valV ps kk with
        | none => rw [ev] at hl; rw [hl] at ed; cases ed
        | some v =>
          rw [ev] at hl
          obtain ⟨d', e', hd⟩ := hl
          rw [ed] at e'; cases e'
          subst hy
          refine ⟨_, v, rfl, ?_, k v H1 F1 _ r1 R1 (.dat hd) q1⟩
          rw [← ev]
          exact DGet.k h1
      · exact q1.elim
  · exact q1.elim
theorem dgf {X : Cx} {W : WX} {b ob : Expr} {i : Nat} {o : OX} {t : L2.TE} (neg : Bool) (ent : ∀ (C : Ctx) (r : Env) (σ : L2.St) (H : Hp) (F : AP) (Q : Get → Env → Prop) (Xk : XW) (QV : VK), C.K = X.K → Rep C r σ H F → Link X W Xk C σ → o Xk r Q →
    (∀ v H' F' g r', Rep C r' σ H' F' → Gd C σ v g H' F' → Q g r' → QV v H') → t σ H QV) : ∀ (C : Ctx) (r : Env) (σ : L2.St) (H : Hp) (F : AP) (Q : DV → Env → Prop) (Xk : XW) (QV : VK), C.K = X.K → Rep C r σ H F → Link X W Xk C σ → xDIn neg i o Xk r Q →
    (∀ v H' F' dv r', Rep C r' σ H' F' → Res C r' σ H' F' v dv → Q dv r' → QV v H') → t σ H fun y H1 => tVar i σ H1 fun x H2 => ∃ a o', x = .ref a ∧ DGet H2 a y o' ∧ QV (.bl (neg != o'.isSome)) H2 := by
  intro C r σ H F Q Xk QV hK R L hf k
  refine ent C r σ H F _ Xk _ hK R L hf fun y H1 F1 g r1 R1 G1 q1 => ?_
  split at q1
  · rename_i kd kvs eg e1
    obtain ⟨hk, q1⟩ := q1
    obtain ⟨kk, ek⟩ := ne_some hk
    have hy := key_v (G1 _ _ _ _ R1 Later.refl eg) ek
    obtain ⟨v1, s1, sr1⟩ := R1.slot i _ e1
    cases sr1 with
    | dct g1 g3 =>
      obtain ⟨ps, h1, h2⟩ := g1.k
      have hl := h2.look ek
      subst hy
      refine ⟨_, s1, _, valV ps kk, rfl, DGet.k h1, k _ H1 F1 _ r1 R1 (.dat (.bl _)) ?_⟩
      cases ev : valV ps kk with
      | none => rw [ev] at hl; rw [hl] at q1; exact q1
      | some v =>
        rw [ev] at hl
        obtain ⟨d', e', _⟩ := hl
        rw [e'] at q1; exact q1
  · exact q1.elim
theorem de_din {i : Nat} {o : OX} (hu : X.A.units + 1 < cLine) (po : PE X ob (tVar i)) (hb : DO X W b o) (hm : behindInMarks .In ob = false := by rfl) : DE X W (.Compare b [.In] [ob] pos) (xDIn false i o) := by
  obtain ⟨t, pe, ent⟩ := hb.ex
  refine ⟨⟨_, pe_cmp (pc_din hu pe po) hm, fun C r σ H F Q Xk QV hK R L hf k => ?_⟩⟩
  have q := dgf (X := X) (W := W) (b := b) (ob := ob) (i := i) false ent C r σ H F Q Xk QV hK R L hf k
  simp only [Bool.false_bne] at q
  exact q
theorem de_dnin {i : Nat} {o : OX} (hu : X.A.units + 1 < cLine) (po : PE X ob (tVar i)) (hb : DO X W b o) (hm : behindInMarks .NotIn ob = false := by rfl) : DE X W (.Compare b [.NotIn] [ob] pos) (xDIn true i o) := by
  obtain ⟨t, pe, ent⟩ := hb.ex
  refine ⟨⟨_, pe_cmp (pc_dnotin hu pe po) hm, fun C r σ H F Q Xk QV hK R L hf k => ?_⟩⟩
  have q := dgf (X := X) (W := W) (b := b) (ob := ob) (i := i) true ent C r σ H F Q Xk QV hK R L hf k
  simp only [Bool.true_bne] at q
  exact q
/-- d[k] = e -/
theorem ds_dput {i : Nat} {o : OX} {f : TX} {pos' : Pos} (hu : X.A.units + 1 < cLine) (po : PE X ob (tVar i)) (hb : DO X W b o) (hv : DE X W a f) (hs : swapsWith a (some (.Subscript ob b pos')) pos.line X.env = pure false := by rfl) : DS X W (.Assign [.Subscript ob b pos'] a pos) (sDPut i o f) := by
  obtain ⟨tb, pb, entb⟩ := hb.ex
  obtain ⟨tv, pv, entv⟩ := hv.ex
  refine ⟨⟨_, ps_dput hu po pb pv hs, fun C r σ H F E D' hK R k hf => ?_⟩⟩
  refine entv C r σ H F _ E.ex _ hK R (k.ex σ) hf fun v H1 F1 dv r1 R1 G1 q1 => ?_
  cases ed : dv.toD with
  | none => rw [ed] at q1; exact q1.elim
  | some d =>
    rw [ed] at q1
    obtain ⟨⟨kvs0, e0⟩, q1⟩ := q1
    obtain ⟨F2, R2, hd, _⟩ := G1.froz R1 ed
    obtain ⟨v0, s0, sr0⟩ := R2.slot i _ e0
    refine ⟨v0, s0, ?_⟩
    refine entb (C.up H1 F2 noT) r1 σ H1 F2 _ E.ex _ hK R2.up0 ((k.ex σ).up R2) q1 fun y H3 F3 g r3 R3' G3 q3 => ?_
    have R3 := R2.down R3'
    split at q3
    · rename_i kd kvs eg e3
      obtain ⟨hk, hl, q3⟩ := q3
      obtain ⟨kk, ek⟩ := ne_some hk
      have hy := key_v (G3 _ _ _ _ R3' Later.refl eg) ek
      obtain ⟨v1, s1, sr1⟩ := R3.slot i _ e3
      rw [s0] at s1; cases s1
      cases sr1 with
      | dct g1 g3 =>
        rename_i p
        obtain ⟨ps, h1, h2⟩ := g1.k
        subst hy
        have l : Later H3 F3 (upd H3 p (.dK (putK ps kk v))) F3 := fun x z => ⟨z, upd_ne fun q => g3 (q ▸ z)⟩
        have hd3 : DpF C.K H3 F3 v d := hd.mono R3'.later
        have new : SltR C.K C.w (upd H3 p (.dK (putK ps kk v))) F3 C.b (.ref p) (.dct false (putD kvs kd d)) := .dct (dctR_new upd_same ((h2.put ek hd3).mono l)) g3
        obtain ⟨R4, _⟩ := R3.objUpd (dv := .dct false (putD kvs kd d)) e3 rfl s0 rfl g3 new
        exact ⟨p, _, rfl, DPut.k h1 (by rw [line_eq, h2.len]; exact hl), k.nx σ _ F3 _ R4 q3⟩
    · exact q3.elim
theorem Rep.freshD {C : Ctx} {r : Env} {σ : L2.St} {H : Hp} {F : AP} {p : Addr} {ps : List (Key × V)} {kvs : List (D × D)} (R : Rep C r σ H F) (hp : H p = none) (hd : KvR C.K H F keyD ps kvs) :
    Rep C r σ (upd H p (.dK ps)) F ∧ Res C r σ (upd H p (.dK ps)) F (.ref p) (.dct false kvs) ∧ Later H F (upd H p (.dK ps)) F := by
  refine ⟨R.new hp, .dct (dctR_new upd_same (hd.mono (later_new0 R hp))) (fun z => R.ftrk p z hp) (fun z => (R.keep p z).2 hp) (fun z => ?_) (fun i es e o1 e1 => ?_), later_new0 R hp⟩
  · obtain ⟨⟨_, _, _, _, _, h1, _⟩, _, _⟩ := R.bag p z
    rw [hp] at h1; cases h1
  · obtain ⟨v, e2, sr⟩ := R.slot i _ e
    rw [e1] at e2; cases e2
    cases sr with
    | own h1 _ _ => rw [hp] at h1; cases h1
    | dct h1 _ => exact h1.ne.2 hp
    | nd _ _ => cases o1
    | rng _ => cases o1
    | dat _ => cases o1
    | bag _ => cases o1
theorem de_dnew : DE X W (.Dict [] [] pos) xDNew := ⟨⟨_, pe_dnewK, fun C r σ H F Q Xk QV hK R L hf k p hp => by
  obtain ⟨R2, G2, _⟩ := R.freshD hp .nil
  exact k _ _ F _ r R2 G2 hf⟩⟩
theorem de_done {kd : D} {f : TX} {tk : V} {kx : Expr} (pk : PE X kx (tC tk)) (hkv : ∀ kk, keyD kd = some kk → tk = kV kk) (hv : DE X W a f) (hall : [some kx].all (·.isSome) = true := by rfl) (hl : [some kx].length = [a].length := by rfl) (h0 : [some kx] ≠ [] := by intro z; cases z)
    (h15 : [some kx].length ≤ 15 := by decide) : DE X W (.Dict [some kx] [a] pos) (xDOne kd f) := by
  obtain ⟨tv, pv, entv⟩ := hv.ex
  refine ⟨⟨_, pe_disp (pps_cons pk pv pps_nil) hall hl h0 h15, fun C r σ H F Q Xk QV hK R L hf k p hp => ?_⟩⟩
  obtain ⟨hk, hf⟩ := hf
  obtain ⟨kk, ek⟩ := ne_some hk
  have R0 := R.new (o := .dK []) hp
  have nfp : ¬ F p := fun z => R.ftrk p z hp
  obtain ⟨_, g0, _⟩ := R.freshD (ps := []) (kvs := []) hp .nil
  have held : C.b ≠ some p ∧ ∀ i es, sl r i = some es → es.hold = true → σ[i]? ≠ some (some (.ref p)) := by
    cases g0 with
    | dct _ _ _ h5 h6 => exact ⟨h5, h6⟩
  have R1 := R0.up (T := fun x => x = p) fun x e => by
    subst e
    exact ⟨by rw [upd_same]; simp, held.1, held.2, fun ps z => by rw [upd_same] at z; cases z⟩
  refine entv (C.up (upd H p (.dK [])) F fun x => x = p) r σ _ F _ Xk _ hK R1 (L.up R0) hf fun v H2 F2 dv r2 R2' G2 q2 => ?_
  cases ed : dv.toD with
  | none => rw [ed] at q2; exact q2.elim
  | some d =>
    rw [ed] at q2
    obtain ⟨F3, R3', hd, _⟩ := G2.froz R2' ed
    have R3 := R0.down R3'
    obtain ⟨e3, nf3⟩ := R3'.still (a := p) rfl nfp
    rw [upd_same] at e3
    have noo : ∀ i es, sl r2 i = some es → es.hold = true → σ[i]? ≠ some (some (.ref p)) := fun i es e1 o1 s1 => (R3'.ownz i es p e1 o1 s1).1 (.inr (.inr rfl))
    have nz : ¬ C.Z p := fun z => (R.keep p z).2 hp
    have hkv' := hkv kk ek
    subst hkv'
    refine ⟨e3, [(kk, v)], rfl, (show 1 ≤ 15 by decide), ?_⟩
    obtain ⟨R4, l4⟩ := R3.updT (o := .dK (mergeK [] [(kk, v)])) nf3 nz held.1 noo (fun u z => by rw [e3] at z; cases z; exact ⟨fun _ z => (by cases z), fun _ _ z => (by cases z)⟩)
    refine k _ _ F3 _ r2 R4 (.dct (dctR_new upd_same ?_) nf3 nz held.1 noo) q2
    exact .cons ek (hd.mono l4) .nil
/-! ### several values at once, lists and dicts of one's own among them -/
inductive Apart : List (V × DV) → Prop
  | nil : Apart []
  | cons {v : V} {dv : DV} {r : List (V × DV)} : (∀ a w dw, (w, dw) ∈ r → v = .ref a → dv.hold = true → w = .ref a → dw.hold = true → False) → Apart r → Apart ((v, dv) :: r)
def AllRes (C : Ctx) (r : Env) (σ : L2.St) (H : Hp) (F : AP) (ps : List (V × DV)) : Prop := (∀ p ∈ ps, Res C r σ H F p.1 p.2) ∧ Apart ps
theorem Res.hnone {C : Ctx} {r : Env} {σ : L2.St} {H : Hp} {F : AP} {a : Addr} {dv : DV} (q : Res C r σ H F (.ref a) dv) (h : dv.hold = true) : H a ≠ none ∧ C.b ≠ some a ∧ ¬ F a ∧ ¬ C.Z a ∧ ∀ i es, sl r i = some es → es.hold = true → σ[i]? ≠ some (some (.ref a)) := by
  cases q with
  | own g1 g2 g3 g4 g5 g6 => exact ⟨by rw [g1]; simp, g5, g3, g4, g6⟩
  | dct g1 g3 g4 g5 g6 => exact ⟨g1.ne.2, g5, g3, g4, g6⟩
  | nd _ _ => cases h
  | rng _ => cases h
  | dat _ => cases h
  | bag _ => cases h
theorem Res.hnt {C : Ctx} {r : Env} {σ : L2.St} {H : Hp} {F : AP} {a : Addr} {dv : DV} (q : Res C r σ H F (.ref a) dv) (h : dv.hold = true) : NT H a := by
  cases q with
  | own g1 g2 g3 g4 g5 g6 => exact nt_lst g1
  | dct g1 g3 g4 g5 g6 => exact (free_dct g1).nt
  | nd _ _ => cases h
  | rng _ => cases h
  | dat _ => cases h
  | bag _ => cases h
/-- what waited while nothing of it could change -/
theorem Res.wait {C : Ctx} {r r' : Env} {σ σ' : L2.St} {H H' : Hp} {F F' T : AP} {v : V} {dv : DV} (q : Res C r σ H F v dv) (R' : Rep (C.up H F T) r' σ' H' F') (ht : ∀ a, v = .ref a → dv.hold = true → T a) : Res C r' σ' H' F' v dv := by
  cases q with
  | dat s => exact .dat (s.mono R'.later)
  | nd s n => exact .nd (s.mono R'.later) (n.mono R'.later)
  | rng n => exact .rng (n.mono R'.later)
  | bag s => exact .bag s
  | own g1 g2 g3 g4 g5 g6 =>
    have t := ht _ rfl rfl
    obtain ⟨e, nf⟩ := R'.still t g3
    exact .own (e.trans g1) (g2.mono R'.later) nf g4 g5 fun i es ei oi si => (R'.ownz i es _ ei oi si).1 (.inr (.inr t))
  | dct g1 g3 g4 g5 g6 =>
    have t := ht _ rfl rfl
    obtain ⟨e, nf⟩ := R'.still t g3
    exact .dct (g1.mono R'.later e) nf g4 g5 fun i es ei oi si => (R'.ownz i es _ ei oi si).1 (.inr (.inr t))
/-- a list of values, evaluated from the left -/
def avL : List TX → XW → Env → (List DV → Env → Prop) → Prop
  | [], _, r, Q => Q [] r
  | f :: fs, X, r, Q => f X r fun u r1 => avL fs X r1 fun us r2 => Q (u :: us) r2
structure DAV (X : Cx) (W : WX) (es : List Expr) (fs : List TX) : Prop where
  ex : ∃ t, PA X es t ∧ ∀ (C : Ctx) (r : Env) (σ : L2.St) (H : Hp) (F : AP) (Q : List DV → Env → Prop) (Xk : XW) (QV : List V → Hp → Prop), C.K = X.K → Rep C r σ H F → Link X W Xk C σ → avL fs Xk r Q →
    (∀ vs H' F' dvs r', Rep C r' σ H' F' → vs.length = es.length → vs.length = dvs.length → AllRes C r' σ H' F' (vs.zip dvs) → Q dvs r' → QV vs H') → t σ H QV
theorem dav_nil : DAV X W [] [] := ⟨⟨_, pa_nil, fun C r σ H F Q Xk QV _ R _ hf k => k [] H F [] r R rfl rfl ⟨(fun _ h => by cases h), .nil⟩ hf⟩⟩
theorem dav_cons {f : TX} {fs : List TX} (p : DE X W e f) (q : DAV X W es fs) (hs : starEach (e :: es) X.env = (false, eval e X.env) :: starEach es X.env := by rfl) : DAV X W (e :: es) (f :: fs) := by
  obtain ⟨u, pe, ent⟩ := p.ex
  obtain ⟨w, pa, ena⟩ := q.ex
  refine ⟨⟨_, pa_cons pe pa hs, fun C r σ H F Q Xk QV hK R L hf k => ?_⟩⟩
  refine ent C r σ H F _ Xk _ hK R L hf fun v H1 F1 dv r1 R1 G1 q1 => ?_
  have R1u := R1.up (T := fun a => v = .ref a ∧ dv.hold = true) fun a ⟨ev, ed⟩ => by
    subst ev
    obtain ⟨h1, h2, _, _, h5⟩ := G1.hnone ed
    exact ⟨h1, h2, h5, G1.hnt ed⟩
  refine ena (C.up H1 F1 fun a => v = .ref a ∧ dv.hold = true) r1 σ H1 F1 _ Xk _ hK R1u (L.up R1) q1 fun vs H2 F2 dvs r2 R2' he hl A2 q2 => ?_
  have G1' : Res C r2 σ H2 F2 v dv := G1.wait R2' fun a ev ed => ⟨ev, ed⟩
  refine k (v :: vs) H2 F2 (dv :: dvs) r2 (R1.down R2') (congrArg (· + 1) he) (congrArg (· + 1) hl) ⟨fun p hp => ?_, .cons (fun a w dw hm ev ed ew edw => ?_) A2.2⟩ q2
  · rcases List.mem_cons.mp hp with rfl | hp
    · exact G1'
    · exact (A2.1 p hp).down
  · have g := A2.1 _ hm
    rw [show (w, dw).1 = w from rfl, ew] at g
    exact (g.hnone edw).2.2.2.1 (.inr (.inr ⟨ev, ed⟩))
/-- names take values -/
def putAll : Env → List Nat → List DV → Env
  | r, i :: is, u :: us => putAll (put r i u) is us
  | r, _, _ => r
theorem Res.storeN {C : Ctx} {r : Env} {σ : L2.St} {H : Hp} {F : AP} {v w : V} {dv dw : DV} {i : Nat} (R : Rep C r σ H F) (q : Res C r σ H F w dw) (ne : ∀ a, v = .ref a → dv.hold = true → w = .ref a → dw.hold = true → False) : Res C (put r i dv) (σ.set i (some v)) H F w dw :=
  Res.store2 R q fun a b e1 e2 e3 e4 z => ne a e1 e2 (z ▸ e3) e4
def setAll : L2.St → List Nat → List V → L2.St
  | σ, i :: is, v :: vs => setAll (σ.set i (some v)) is vs
  | σ, _, _ => σ
theorem Rep.storeAll {C : Ctx} {H : Hp} {F : AP} : ∀ (is : List Nat) (vs : List V) (dvs : List DV) {r : Env} {σ : L2.St}, Rep C r σ H F → vs.length = dvs.length → AllRes C r σ H F (vs.zip dvs) → Rep C (putAll r is dvs) (setAll σ is vs) H F
  | [], vs, dvs, r, σ, R, _, _ => by cases dvs <;> cases vs <;> exact R
  | i :: is, [], [], r, σ, R, _, _ => R
  | i :: is, v :: vs, [], r, σ, R, h, _ => by cases h
  | i :: is, [], u :: us, r, σ, R, h, _ => by cases h
  | i :: is, v :: vs, u :: us, r, σ, R, h, A => by
    obtain ⟨A1, A2⟩ := A
    have g := A1 (v, u) (by simp)
    have hz : Apart ((v, u) :: vs.zip us) := A2
    cases hz with
    | cons n1 n2 =>
      refine Rep.storeAll is vs us (R.store (i := i) g) (Nat.succ.inj h) ⟨fun p hp => ?_, n2⟩
      exact Res.storeN R (A1 p (List.mem_cons_of_mem _ hp)) fun a e1 e2 e3 e4 => n1 a p.1 p.2 hp e1 e2 e3 e4
/-- a, b, c = e1, e2, e3 -/
def sMul (is : List Nat) (fs : List TX) : TS := fun E r => avL fs E.ex r fun us r1 => E.nx (putAll r1 is us)
theorem ds_mul2 {st : Stmt} {i j : Nat} {fs : List TX} (ha : DAV X W [a, b] fs) (mk : ∀ {ta : TA}, PA X [a, b] ta → PS X st (tPar i j ta)) : DS X W st (sMul [i, j] fs) := by
  obtain ⟨t, pa, ent⟩ := ha.ex
  refine ⟨⟨_, mk pa, fun C r σ H F E D' hK R k hf => ?_⟩⟩
  refine ent C r σ H F _ E.ex _ hK R (k.ex σ) hf fun vs H1 F1 us r1 R1 he hl A1 q1 => ?_
  match vs, us, hl, he with
  | [v1, v2], [u1, u2], _, _ => exact ⟨v1, v2, rfl, k.nx _ H1 F1 _ (Rep.storeAll [i, j] [v1, v2] [u1, u2] R1 rfl A1) q1⟩
theorem ds_mul3 {st : Stmt} {i j l : Nat} {fs : List TX} (ha : DAV X W [a, b, e] fs) (mk : ∀ {ta : TA}, PA X [a, b, e] ta → PS X st (tPar3 i j l ta)) : DS X W st (sMul [i, j, l] fs) := by
  obtain ⟨t, pa, ent⟩ := ha.ex
  refine ⟨⟨_, mk pa, fun C r σ H F E D' hK R k hf => ?_⟩⟩
  refine ent C r σ H F _ E.ex _ hK R (k.ex σ) hf fun vs H1 F1 us r1 R1 he hl A1 q1 => ?_
  match vs, us, hl, he with
  | [v1, v2, v3], [u1, u2, u3], _, _ => exact ⟨v1, v2, v3, rfl, k.nx _ H1 F1 _ (Rep.storeAll [i, j, l] [v1, v2, v3] [u1, u2, u3] R1 rfl A1) q1⟩
/-! by way of a tuple, where a name is a comprehension's too -/
theorem Res.newO {C : Ctx} {r : Env} {σ : L2.St} {H : Hp} {F : AP} {p : Addr} {o : HO} {v : V} {dv : DV} (R : Rep C r σ H F) (hp : H p = none) (q : Res C r σ H F v dv) : Res C r σ (upd H p o) F v dv := by
  have l := later_new0 (o := o) R hp
  cases q with
  | dat s => exact .dat (s.mono l)
  | nd s n => exact .nd (s.mono l) (n.mono l)
  | rng n => exact .rng (n.mono l)
  | bag s => exact .bag s
  | own g1 g2 g3 g4 g5 g6 => exact .own (by rw [upd_ne (ne_of_none g1 hp)]; exact g1) (g2.mono l) g3 g4 g5 g6
  | dct g1 g3 g4 g5 g6 =>
    rename_i x t kvs
    exact .dct (g1.mono l (upd_ne fun z => g1.ne.2 (z ▸ hp))) g3 g4 g5 g6
def gNames : List Nat → TGs
  | [] => gNil
  | i :: is => gCons (gName i) (gNames is)
theorem gNames_go : ∀ (is : List Nat) (vs : List V) (σ : L2.St) (H : Hp) (Q : L2.St → Hp → Prop), vs.length = is.length → Q (setAll σ is vs) H → gNames is vs σ H Q
  | [], [], σ, H, Q, _, q => ⟨rfl, q⟩
  | i :: is, v :: vs, σ, H, Q, h, q => ⟨v, vs, rfl, gNames_go is vs (σ.set i (some v)) H Q (Nat.succ.inj h) q⟩
  | [], _ :: _, _, _, _, h, _ => by cases h
  | _ :: _, [], _, _, _, h, _ => by cases h
theorem ds_mult {st : Stmt} {is : List Nat} {fs : List TX} {n : Nat} (ha : DAV X W es fs) (hn : es.length = is.length) (hz : es.length ≤ 1000) (he : n = is.length) (mk : ∀ {ta : TA}, PA X es ta → PS X st (tAsg (tTup ta) (gTup X.K n (gNames is)))) : DS X W st (sMul is fs) := by
  obtain ⟨t, pa, ent⟩ := ha.ex
  refine ⟨⟨_, mk pa, fun C r σ H F E D' hK R k hf => ?_⟩⟩
  refine ent C r σ H F _ E.ex _ hK R (k.ex σ) hf fun vs H1 F1 us r1 R1 he1 hl A1 q1 => ?_
  refine ⟨by rw [line_eq]; omega, fun p hp => ⟨p, vs, rfl, .inl (.inl upd_same), by rw [he1, he, hn], ?_⟩⟩
  refine gNames_go is vs σ _ _ (by rw [he1, hn]) ?_
  exact k.nx _ _ F1 _ (Rep.storeAll is vs us (R1.new (o := .tup vs) hp) hl ⟨fun z hz => (A1.1 z hz).newO R1 hp, A1.2⟩) q1
end
end DL

/-! DL, part 16: enumerate. -/
namespace DL
open PySem PySem.Spec PyProof.Rows L2
def enumD (ds : List D) : List D := ds.zipIdx.map fun p => .tuple [.int (p.2 : Nat), p.1]
theorem enumD_len (ds : List D) : (enumD ds).length = ds.length := by
  unfold enumD
  rw [List.length_map, List.length_zipIdx]
theorem enumD_get {ds : List D} {i : Nat} {x : D} (h : ds[i]? = some x) : (enumD ds)[i]? = some (.tuple [.int (i : Nat), x]) := by
  unfold enumD
  rw [List.getElem?_map, List.getElem?_zipIdx, h]
  simp
theorem walkD_en {K : PySem.W.Frag} {H : Hp} {F : AP} {J : It} {xs : List V} {ds : List D} (hx : DpFs K H F xs ds) (go : ∀ i H' F', i < ds.length → Later H F H' F' → J.go i H') (stop : ∀ H' F', Later H F H' F' → J.stop ds.length H')
    (yld : ∀ i H' F' x H2, Later H F H' F' → J.yld i H' x H2 → ∃ T v, x = .ref T ∧ H' T = none ∧ H2 = upd H' T (.tup [.int (i : Nat), v]) ∧ xs[i]? = some v) : WalkD K J (enumD ds) H F := by
  refine ⟨fun i H' F' hi l => go i H' F' (by rw [enumD_len] at hi; exact hi) l, fun H' F' l => by rw [enumD_len]; exact stop H' F' l, fun i H' F' x H2 hi trk l y => ?_⟩
  obtain ⟨T, v, rfl, hT, rfl, e⟩ := yld i H' F' x H2 l y
  obtain ⟨d, e1, q1⟩ := hx.getV e
  have l2 : Later H' F' (upd H' T (.tup [.int (i : Nat), v])) (fun c => F' c ∨ c = T) := fun c z => ⟨.inl z, upd_ne fun q => trk c z (q ▸ hT)⟩
  refine ⟨fun c => F' c ∨ c = T, _, enumD_get e1, .tup (.inl ⟨.inr rfl, .inl upd_same⟩) (.cons (.int _) (.cons ((q1.mono l).mono l2) .nil)), l2, fun c o q => ?_, fun c z => ?_⟩
  · rw [upd_ne (ne_of_none q hT)]; exact q
  · rcases z with z | rfl
    · exact .inl z
    · exact .inr ⟨hT, by rw [upd_same]; simp, nt_tup upd_same⟩
theorem walkD_enT {K : PySem.W.Frag} {H : Hp} {F : AP} {a : Addr} {xs : List V} {ds : List D} (ha : (F a ∧ Rd H a (.tup xs)) ∨ KT K a xs) (hx : DpFs K H F xs ds) : WalkD K (IteT K a) (enumD ds) H F := by
  have sq : ∀ {H' : Hp} {F' : AP}, Later H F H' F' → SqT K H' a xs := fun {H' F'} l => by
    rcases ha with h | h
    · exact .inl (rd_later (l a h.1).2 h.2)
    · exact h.sq _
  refine walkD_en hx (fun i H' F' hi l => ?_) (fun H' F' l => ⟨xs, sq l, by rw [hx.length]; exact Nat.le_refl _⟩) fun i H' F' x H2 l y => ?_
  · rw [← hx.length] at hi
    exact ⟨xs, xs[i], sq l, List.getElem?_eq_getElem hi⟩
  · obtain ⟨T, v, e1, e2, e3, e4⟩ := y
    exact ⟨T, v, e1, e2, e3, e4 xs (sq l)⟩
theorem walkD_enL {K : PySem.W.Frag} {H : Hp} {F : AP} {a : Addr} {xs : List V} {ds : List D} (ha : F a ∧ H a = some (.lst xs)) (hx : DpFs K H F xs ds) : WalkD K (Ite K a) (enumD ds) H F := by
  have sq : ∀ {H' : Hp} {F' : AP}, Later H F H' F' → SqL K H' a xs := fun {H' F'} l => .inl (.inl ((l a ha.1).2.trans ha.2))
  refine walkD_en hx (fun i H' F' hi l => ?_) (fun H' F' l => ⟨xs, sq l, by rw [hx.length]; exact Nat.le_refl _⟩) fun i H' F' x H2 l y => ?_
  · rw [← hx.length] at hi
    exact ⟨xs, xs[i], sq l, List.getElem?_eq_getElem hi⟩
  · obtain ⟨T, v, e1, e2, e3, e4⟩ := y
    exact ⟨T, v, e1, e2, e3, e4 xs (sq l)⟩
def wEnum (f : TX) : SX := fun X r Q => f X r fun dv r1 => match dv.toD with
  | some (.tuple xs) => Q (enumD xs) r1
  | some (.list xs) => Q (enumD xs) r1
  | _ => False
section
variable {X : Cx} {W : WX} {e a : Expr}
theorem src_enum {tg : Expr} {f : TX} (ha : DE X W a f) (hs : starEach (a :: []) X.env = (false, eval a X.env) :: starEach [] X.env := by rfl) (mk : ∀ {ta : TA}, PA X [a] ta → PI X tg e (iEnumT X.K ta)) : DSrc X W tg e (wEnum f) := by
  obtain ⟨t, pa, ent⟩ := ha.ex
  refine ⟨⟨_, mk (pa_cons pa pa_nil hs), fun C r σ H F Q Xk RV hK R L hf k => ?_⟩⟩
  refine ent C r σ H F _ Xk _ hK R L hf fun v H1 F1 dv r1 R1 G1 q1 => ?_
  split at q1
  · rename_i xs ed
    obtain ⟨F2, R2, hd, _⟩ := G1.froz R1 ed
    cases hd with
    | tup g1 g2 =>
      have s1 := g1.elim (fun p => (.inl p.2 : SqT C.K H1 _ _)) fun p => p.sq _
      have s3 := k _ H1 F2 _ r1 R2 (walkD_enT g1 g2) q1
      rw [hK] at s1 s3
      exact ⟨_, _, rfl, .inr ⟨s1, s3⟩⟩
  · rename_i xs ed
    obtain ⟨F2, R2, hd, _⟩ := G1.froz R1 ed
    cases hd with
    | lst g1 g2 =>
      have s3 := k _ H1 F2 _ r1 R2 (walkD_enL g1 g2) q1
      rw [hK] at s3
      exact ⟨_, _, rfl, .inl ⟨.inl (.inl g1.2), s3⟩⟩
  · exact q1.elim
end
end DL

/-! DL, part 17: a comprehension over a list that the frame goes on to hold alone. -/
namespace DL
open PySem PySem.Spec PyProof.Rows L2
def xLcO (vs : List Nat) (i0 : Nat) (g : TG) (t : TB) (f : TX) : TX := fun X r Q => ∃ ds, sl r i0 = some (.own ds) ∧ (∀ i ∈ vs, notOwn (putO r i0 none) i) ∧
  lcL vs g t f ds [] (clrs (putO r i0 none) vs) fun acc r2 => Q (.own acc) (put (DL.back (putO r i0 none) r2 vs) i0 (.own ds))
section
variable {X : Cx} {W : WX} {tg iter elt e : Expr} {f : TX} {pos : Pos}
theorem set_same {σ : L2.St} {i : Nat} {x : Option V} (h : σ[i]? = some x) : σ.set i x = σ := by
  apply List.ext_getElem?
  intro j
  by_cases q : i = j
  · subst q
    rw [List.getElem?_set_self (List.getElem?_eq_some_iff.mp h).1, h]
  · rw [List.getElem?_set_ne q]
theorem lcO_ent {K : PySem.W.Frag} {ww : World} {mg : Str → Option Value} {vs ws : List Nat} {i0 : Nat} {g : TG} {t : TB} {f : TX} (hw : ∀ i ∈ ws, i ∈ vs)
    {tt : L2.TT} (htt : ∀ (C : Ctx) (r : Env) (σ : L2.St) (H : Hp) (F : AP) (Q : Bool → Env → Prop) (QV : Bool → Hp → Prop), C.K = K → C.w = ww → Rep C r σ H F → t noX r Q → (∀ b H' F' r', Rep C r' σ H' F' → Q b r' → QV b H') → tt σ H QV)
    (C : Ctx) (r : Env) (σ : L2.St) (H : Hp) (F : AP) (Q : DV → Env → Prop) (Xk : XW) (QV : VK) (hK : C.K = K) (hw2 : C.w = ww) (R : Rep C r σ H F) (hf : xLcO vs i0 g t f Xk r Q) (k : ∀ v H' F' dv r', Rep C r' σ H' F' → Res C r' σ H' F' v dv → Q dv r' → QV v H') :
    tLc (iList K (tVar i0)) (gCan K ws g) tt (tCan K ww mg (fun _ _ _ _ => False) f) vs σ H QV := by
  obtain ⟨ds, e0, no, q1⟩ := hf
  obtain ⟨v0, s0, sr⟩ := R.slot i0 _ e0
  cases sr with
  | own h1 h2 h3 =>
    rename_i a xs
    obtain ⟨nz, nb⟩ := R.ownz i0 _ a e0 rfl s0
    have R0 := R.drop (i := i0)
    have held : ∀ i es, sl (putO r i0 none) i = some es → es.hold = true → σ[i]? ≠ some (some (.ref a)) := fun i es e1 o1 s1 => by
      obtain ⟨n, e2⟩ := sl_put_none e1
      exact n (R.dist i i0 _ _ a e2 e0 o1 rfl s1 s0)
    have R0' := R0.up (T := fun z => z = a) fun z ez => by
      subst ez
      exact ⟨by rw [h1]; simp, nb, held, nt_lst h1⟩
    have zA : (C.up H F fun z => z = a).Z a := .inr (.inr rfl)
    have at' : ∀ {H' : Hp}, (∀ z, (C.up H F fun z => z = a).Z z → H' z = (C.up H F fun z => z = a).HZ z) → H' a = some (.lst xs) := fun {H'} hz => (hz a zA).trans h1
    have w : WalkZ (C.up H F fun z => z = a) (Itl K a) ds H F := by
      refine ⟨fun i H' F' hi _ hz => ?_, fun H' F' _ hz => ⟨xs, .inl (.inl (at' hz)), by rw [h2.length]; exact Nat.le_refl _⟩, fun i H' F' x H2 hi _ l hz y => ?_⟩
      · rw [← h2.length] at hi
        exact ⟨xs, xs[i], .inl (.inl (at' hz)), List.getElem?_eq_getElem hi⟩
      · obtain ⟨rfl, y2⟩ := y
        obtain ⟨d, e1, q⟩ := h2.getV (y2 xs (.inl (.inl (at' hz))))
        exact ⟨F', d, e1, q.mono l, Later.refl, fun _ _ z => z, fun _ z => .inl z⟩
    refine ⟨_, s0, a, rfl, ⟨xs, .inl (.inl h1)⟩, ?_⟩
    refine lc_coreD (K := K) (mg := mg) hw htt (C.up H F fun z => z = a) (putO r i0 none) σ H F (fun dv r' => Q dv (put r' i0 (.own ds))) QV (Itl K a) ds hK hw2 R0' w no q1 fun v H' F' dv r' R' G' q' => ?_
    obtain ⟨ea, nfa⟩ := R'.still (a := a) rfl h3
    have Rd := R0.down R'
    have noa : ∀ i es, sl r' i = some es → es.hold = true → σ[i]? ≠ some (some (.ref a)) := fun i es e1 o1 s1 => (R'.ownz i es a e1 o1 s1).1 zA
    have ga : Res C r' σ H' F' (.ref a) (.own ds) := .own (ea.trans h1) (h2.mono R'.later) nfa nz nb noa
    have R2 := Rd.store (i := i0) ga
    rw [set_same s0] at R2
    refine k v H' F' dv _ R2 ?_ q'
    have G2 := Res.storeN (i := i0) (v := .ref a) (dv := .own ds) Rd G'.down fun x e1 _ e3 o3 => by
      cases e1
      subst e3
      exact (G'.hnone o3).2.2.2.1 zA
    rw [set_same s0] at G2
    exact G2
theorem de_lcO {scope : Scope} {own : List (Str × Nat)} {ws : List Nat} {i0 : Nat} {g : TG} (po : PE X iter (tVar i0)) (hw : ∀ i ∈ ws, i ∈ own.map (·.2))
    (hg : ∀ (s : Shared) (H : Hp) (C : Addr) (cl : List (Str × Addr)) (fp : List Addr), DG (X.blk s H scope (compEnvC scope cl C X.env) fp) tg ws g)
    (he : ∀ (s : Shared) (H : Hp) (C : Addr) (cl : List (Str × Addr)) (fp : List Addr), DE (X.blk s H scope (compEnvC scope cl C X.env) fp) (fun _ _ _ _ => False) elt f)
    (mk : ∀ {wi : TI} {te : L2.TE} {tg' : L2.TG}, PI X tg iter wi → (∀ (s : Shared) (H : Hp) (C : Addr) (cl : List (Str × Addr)) (fp : List Addr), PG (X.blk s H scope (compEnvC scope cl C X.env) fp) tg tg') →
      (∀ (s : Shared) (H : Hp) (C : Addr) (cl : List (Str × Addr)) (fp : List Addr), PE (X.blk s H scope (compEnvC scope cl C X.env) fp) elt te) → PE X e (tLc wi tg' tYes te (own.map (·.2)))) :
    DE X W e (xLcO (own.map (·.2)) i0 g bYes f) :=
  ⟨⟨_, mk (te := tCan X.K X.w X.mg (fun _ _ _ _ => False) f) (tg' := gCan X.K ws g) (pi_list po) (fun s H C cl fp => (hg s H C cl fp).can) (fun s H C cl fp => (he s H C cl fp).can), fun C r σ H F Q Xk QV hK R L hf k => lcO_ent (K := X.K) (ww := X.w) (mg := X.mg) hw tYes_ent C r σ H F Q Xk QV hK L.w R hf k⟩⟩
theorem de_lcIO {scope : Scope} {own : List (Str × Nat)} {ws : List Nat} {i0 : Nat} {g : TG} {t : TB} {cond : Expr} (po : PE X iter (tVar i0)) (hw : ∀ i ∈ ws, i ∈ own.map (·.2))
    (hg : ∀ (s : Shared) (H : Hp) (C : Addr) (cl : List (Str × Addr)) (fp : List Addr), DG (X.blk s H scope (compEnvC scope cl C X.env) fp) tg ws g)
    (ht : ∀ (s : Shared) (H : Hp) (C : Addr) (cl : List (Str × Addr)) (fp : List Addr), DT (X.blk s H scope (compEnvC scope cl C X.env) fp) (fun _ _ _ _ => False) cond t)
    (he : ∀ (s : Shared) (H : Hp) (C : Addr) (cl : List (Str × Addr)) (fp : List Addr), DE (X.blk s H scope (compEnvC scope cl C X.env) fp) (fun _ _ _ _ => False) elt f)
    (mk : ∀ {wi : TI} {te : L2.TE} {tg' : L2.TG} {tt : L2.TT}, PI X tg iter wi → (∀ (s : Shared) (H : Hp) (C : Addr) (cl : List (Str × Addr)) (fp : List Addr), PG (X.blk s H scope (compEnvC scope cl C X.env) fp) tg tg') →
      (∀ (s : Shared) (H : Hp) (C : Addr) (cl : List (Str × Addr)) (fp : List Addr), PTs (X.blk s H scope (compEnvC scope cl C X.env) fp) [cond] tt) →
      (∀ (s : Shared) (H : Hp) (C : Addr) (cl : List (Str × Addr)) (fp : List Addr), PE (X.blk s H scope (compEnvC scope cl C X.env) fp) elt te) → PE X e (tLc wi tg' tt te (own.map (·.2)))) :
    DE X W e (xLcO (own.map (·.2)) i0 g t f) :=
  ⟨⟨_, mk (te := tCan X.K X.w X.mg (fun _ _ _ _ => False) f) (tg' := gCan X.K ws g) (tt := bCan X.K X.w X.mg (fun _ _ _ _ => False) t) (pi_list po) (fun s H C cl fp => (hg s H C cl fp).can) (fun s H C cl fp => pts_one (ht s H C cl fp).can) (fun s H C cl fp => (he s H C cl fp).can),
    fun C r σ H F Q Xk QV hK R L hf k => lcO_ent (K := X.K) (ww := X.w) (mg := X.mg) hw (fun C r σ H F Q QV hK hw2 R hf k => ⟨C, r, F, noX, Q, hK, R, ⟨hw2, fun _ _ _ _ _ _ _ _ z => z.elim⟩, hf, k⟩) C r σ H F Q Xk QV hK L.w R hf k⟩⟩
end
end DL

/-! DL, part 18: x[i] = e and x[i] += e of a list; d.get(k, e), d.setdefault(k, e). -/
namespace DL
open PySem PySem.Spec PyProof.Rows L2
def sSetI (i : Nat) (b : OX) (f : TX) : TS := fun E r => f E.ex r fun dv r1 => match dv.toD with
  | some d => (∃ ds, sl r1 i = some (.own ds)) ∧ b E.ex r1 fun g r2 => (match g r2, sl r2 i with
    | some (.int k), some (.own ds) => ∃ j, ixN ds.length k = some j ∧ E.nx (put r2 i (.own (ds.set j d)))
    | _, _ => False)
  | none => False
def sAugI (i : Nat) (op : Int → Int → Int) (b c : OX) : TS := fun E r => (∃ ds, sl r i = some (.own ds)) ∧ b E.ex r fun g r1 => match g r1, sl r1 i with
  | some (.int k), some (.own ds) => (match L2.atI ds k with
    | some (.int x) => c E.ex r1 fun h r2 => (match h r2, sl r2 i with
      | some (.int y), some (.own es) => ∃ j, ixN es.length k = some j ∧ E.nx (put r2 i (.own (es.set j (.int (op x y)))))
      | _, _ => False)
    | _ => False)
  | _, _ => False
def xDGet2 (i : Nat) (b : OX) (f : TX) : TX := fun X r Q => (∃ kvs, sl r i = some (.dct false kvs)) ∧ b X r fun g r1 => f X r1 fun dv r2 => match g r2, dv.toD, sl r2 i with
  | some k, some d, some (.dct false kvs) => keyD k ≠ none ∧ Q (.dat ((lookD kvs k).getD d)) r2
  | _, _, _ => False
def xDSetd (i : Nat) (b : OX) (f : TX) : TX := fun X r Q => (∃ kvs, sl r i = some (.dct false kvs)) ∧ b X r fun g r1 => f X r1 fun dv r2 => match g r2, dv.toD, sl r2 i with
  | some k, some d, some (.dct false kvs) => keyD k ≠ none ∧ kvs.length < 16777216 ∧ (match lookD kvs k with
    | some e => Q (.dat e) r2
    | none => Q (.dat d) (put r2 i (.dct false (putD kvs k d))))
  | _, _, _ => False
section
variable {X : Cx} {W : WX} {e a b c ob : Expr} {pos : Pos} {st : Stmt}
theorem ds_setI {i : Nat} {o : OX} {f : TX} (po : PE X ob (tVar i)) (hb : DO X W b o) (hv : DE X W a f) (mk : ∀ {to ti tv : L2.TE}, PE X ob to → PE X b ti → PE X a tv → PS X st (tAsg tv (gSub to ti rSetL))) : DS X W st (sSetI i o f) := by
  obtain ⟨tb, pb, entb⟩ := hb.ex
  obtain ⟨tv, pv, entv⟩ := hv.ex
  refine ⟨⟨_, mk po pb pv, fun C r σ H F E D' hK R k hf => ?_⟩⟩
  refine entv C r σ H F _ E.ex _ hK R (k.ex σ) hf fun v H1 F1 dv r1 R1 G1 q1 => ?_
  cases ed : dv.toD with
  | none => rw [ed] at q1; exact q1.elim
  | some d =>
    rw [ed] at q1
    obtain ⟨⟨ds0, e0⟩, q1⟩ := q1
    obtain ⟨F2, R2, hd, _⟩ := G1.froz R1 ed
    obtain ⟨v0, s0, sr0⟩ := R2.slot i _ e0
    refine ⟨v0, s0, ?_⟩
    refine entb (C.up H1 F2 noT) r1 σ H1 F2 _ E.ex _ hK R2.up0 ((k.ex σ).up R2) q1 fun y H3 F3 g r3 R3' G3 q3 => ?_
    have R3 := R2.down R3'
    split at q3
    · rename_i kk ds eg e3
      obtain ⟨j, hj, q3⟩ := q3
      have hy := (G3 _ _ _ _ R3' Later.refl eg).int
      obtain ⟨v1, s1, sr1⟩ := R3.slot i _ e3
      rw [s0] at s1; cases s1
      cases sr1 with
      | own g1 g2 g3 =>
        rename_i p xs
        subst hy
        have hd3 : DpF C.K H3 F3 v d := hd.mono R3'.later
        obtain ⟨R4, _⟩ := R3.lstUpd e3 s0 (g2.set j hd3)
        exact ⟨p, xs, kk, j, rfl, rfl, g1, by rw [g2.length]; exact hj, k.nx σ _ F3 _ R4 q3⟩
    · exact q3.elim
theorem ds_augI {i : Nat} {op : Int → Int → Int} {o o2 : OX} (po : PE X ob (tVar i)) (hb : DO X W b o) (hc : DO X W c o2) (mk : ∀ {to ti te : L2.TE}, PE X ob to → PE X b ti → PE X c te → PS X st (tAugS to ti te (rIxL X.K) (ipI op) rSetL)) : DS X W st (sAugI i op o o2) := by
  obtain ⟨tb, pb, entb⟩ := hb.ex
  obtain ⟨tc, pc, entc⟩ := hc.ex
  refine ⟨⟨_, mk po pb pc, fun C r σ H F E D' hK R k hf => ?_⟩⟩
  obtain ⟨⟨ds0, e0⟩, hf⟩ := hf
  obtain ⟨v0, s0, sr0⟩ := R.slot i _ e0
  refine ⟨v0, s0, ?_⟩
  refine entb C r σ H F _ E.ex _ hK R (k.ex σ) hf fun y H1 F1 g r1 R1 G1 q1 => ?_
  split at q1
  · rename_i kk ds eg e1
    have hy := (G1 _ _ _ _ R1 Later.refl eg).int
    subst hy
    obtain ⟨v1, s1, sr1⟩ := R1.slot i _ e1
    rw [s0] at s1; cases s1
    cases sr1 with
    | own g1 g2 g3 =>
      rename_i p xs
      split at q1
      · rename_i x ex
        obtain ⟨vx, ev, hvx⟩ := atI_of g2 ex
        cases hvx
        refine ⟨p, xs, kk, _, rfl, rfl, .inl (.inl g1), ev, ?_⟩
        refine entc C r1 σ H1 F1 _ E.ex _ hK R1 (k.ex σ) q1 fun z H3 F3 h r3 R3 G3 q3 => ?_
        split at q3
        · rename_i y2 es eh e3
          obtain ⟨j, hj, q3⟩ := q3
          have hz := (G3 _ _ _ _ R3 Later.refl eh).int
          subst hz
          obtain ⟨v3, s3, sr3⟩ := R3.slot i _ e3
          rw [s0] at s3; cases s3
          cases sr3 with
          | own k1 k2 k3 =>
            rename_i xs3
            obtain ⟨R4, _⟩ := R3.lstUpd e3 s0 (k2.set j (.int (op x y2)))
            exact ⟨x, y2, rfl, rfl, p, xs3, kk, j, rfl, rfl, k1, by rw [k2.length]; exact hj, k.nx σ _ F3 _ R4 q3⟩
        · exact q3.elim
      · exact q1.elim
  · exact q1.elim
theorem de_dget2 {i : Nat} {o : OX} {f : TX} {apos cpos : Pos} (hu : X.A.units + 1 < cLine) (po : PE X ob (tVar i)) (hb : DO X W b o) (hf : DE X W c f) (m : M2 X ob "get" apos b c cpos) : DE X W (.Call (.Attribute ob "get" apos) [b, c] [] cpos) (xDGet2 i o f) := by
  obtain ⟨tb, pb, entb⟩ := hb.ex
  obtain ⟨tc, pc, entc⟩ := hf.ex
  refine ⟨⟨_, pe_dget2 hu po pb pc m, fun C r σ H F Q Xk QV hK R L hq k => ?_⟩⟩
  obtain ⟨⟨kvs0, e0⟩, hq⟩ := hq
  obtain ⟨v0, s0, sr0⟩ := R.slot i _ e0
  cases sr0 with
  | dct g0 g0x =>
    rename_i p
    obtain ⟨ps0, h0, _⟩ := g0.k
    refine ⟨_, s0, p, rfl, .inl ⟨ps0, .inl h0⟩, ?_⟩
    refine entb C r σ H F _ Xk _ hK R L hq fun y H1 F1 g r1 R1 G1 q1 => ?_
    refine entc (C.up H1 F1 noT) r1 σ H1 F1 _ Xk _ hK R1.up0 (L.up R1) q1 fun z H2 F2 dv r2 R2' Gz q2 => ?_
    have R2 := R1.down R2'
    split at q2
    · rename_i kd d kvs eg ed e2
      obtain ⟨hk, q2⟩ := q2
      obtain ⟨kk, ek⟩ := ne_some hk
      obtain ⟨F3, R3', hd, l3⟩ := Gz.froz R2' ed
      have R3 := R1.down R3'
      have hy := key_v (G1 _ _ _ _ R2 R2'.later eg) ek
      subst hy
      obtain ⟨v2, s2, sr2⟩ := R3.slot i _ e2
      rw [s0] at s2; cases s2
      cases sr2 with
      | dct k1 _ =>
        obtain ⟨ps, h1, h2⟩ := k1.k
        have hl := h2.look ek
        refine ⟨valV ps kk, DGet.k h1, ?_⟩
        cases ev : valV ps kk with
        | none =>
          rw [ev] at hl
          rw [hl] at q2
          exact k _ H2 F3 _ r2 R3 (.dat hd) q2
        | some v =>
          rw [ev] at hl
          obtain ⟨d', e', hd'⟩ := hl
          rw [e'] at q2
          exact k _ H2 F3 _ r2 R3 (.dat hd') q2
    · exact q2.elim
theorem de_dsetd {i : Nat} {o : OX} {f : TX} {apos cpos : Pos} (po : PE X ob (tVar i)) (hb : DO X W b o) (hf : DE X W c f) (m : M2 X ob "setdefault" apos b c cpos) : DE X W (.Call (.Attribute ob "setdefault" apos) [b, c] [] cpos) (xDSetd i o f) := by
  obtain ⟨tb, pb, entb⟩ := hb.ex
  obtain ⟨tc, pc, entc⟩ := hf.ex
  refine ⟨⟨_, pe_dsetd po pb pc m, fun C r σ H F Q Xk QV hK R L hq k => ?_⟩⟩
  obtain ⟨⟨kvs0, e0⟩, hq⟩ := hq
  obtain ⟨v0, s0, sr0⟩ := R.slot i _ e0
  cases sr0 with
  | dct g0 g0x =>
    rename_i p
    obtain ⟨ps0, h0, _⟩ := g0.k
    refine ⟨_, s0, p, rfl, .inl ⟨ps0, .inl h0⟩, ?_⟩
    refine entb C r σ H F _ Xk _ hK R L hq fun y H1 F1 g r1 R1 G1 q1 => ?_
    refine entc (C.up H1 F1 noT) r1 σ H1 F1 _ Xk _ hK R1.up0 (L.up R1) q1 fun z H2 F2 dv r2 R2' Gz q2 => ?_
    have R2 := R1.down R2'
    split at q2
    · rename_i kd d kvs eg ed e2
      obtain ⟨hk, hl0, q2⟩ := q2
      obtain ⟨kk, ek⟩ := ne_some hk
      obtain ⟨F3, R3', hd, l3⟩ := Gz.froz R2' ed
      have R3 := R1.down R3'
      have hy := key_v (G1 _ _ _ _ R2 R2'.later eg) ek
      subst hy
      obtain ⟨v2, s2, sr2⟩ := R3.slot i _ e2
      rw [s0] at s2; cases s2
      cases sr2 with
      | dct k1 k3 =>
        obtain ⟨ps, h1, h2⟩ := k1.k
        have hl := h2.look ek
        refine ⟨ps, kk, h1, rfl, by rw [line_eq, h2.len]; exact hl0, fun v ev => ?_, fun ev => ?_⟩
        · rw [ev] at hl
          obtain ⟨d', e', hd'⟩ := hl
          rw [e'] at q2
          exact k _ H2 F3 _ r2 R3 (.dat hd') q2
        · rw [ev] at hl
          rw [hl] at q2
          have l : Later H2 F3 (upd H2 p (.dK (putK ps kk z))) F3 := fun x w => ⟨w, upd_ne fun q => k3 (q ▸ w)⟩
          have new : SltR C.K C.w (upd H2 p (.dK (putK ps kk z))) F3 C.b (.ref p) (.dct false (putD kvs kd d)) := .dct (dctR_new upd_same ((h2.put ek hd).mono l)) k3
          obtain ⟨R4, _⟩ := R3.objUpd (dv := .dct false (putD kvs kd d)) e2 rfl s0 rfl k3 new
          exact k _ _ F3 _ _ R4 (.dat (hd.mono l)) q2
    · exact q2.elim
end
end DL

/-! DL, part 19: isinstance of data. -/
namespace DL
open PySem PySem.Spec PyProof.Rows L2
def tyD : D → String
  | .none => "NoneType"
  | .bool _ => "bool"
  | .int _ => "int"
  | .str _ => "str"
  | .list _ => "list"
  | .tuple _ => "tuple"
  | .dict _ => "dict"
def isTy (tn : String) (d : D) : Bool := match d with
  | .none => tn == "NoneType"
  | .bool _ => tn == "bool" || tn == "int"
  | .int _ => tn == "int"
  | .str _ => tn == "str"
  | .list _ => tn == "list"
  | .tuple _ => tn == "tuple"
  | .dict _ => tn == "dict"
def tyName (tn : String) : Prop := tn = "int" ∨ tn = "bool" ∨ tn = "str" ∨ tn = "tuple" ∨ tn = "list" ∨ tn = "dict"
theorem kit_tab : ∀ a ∈ ["NoneType", "bool", "int", "str", "list", "tuple", "dict"], ∀ b ∈ ["int", "bool", "str", "tuple", "list", "dict"], L2.kitB a b = some (a == b || (a == "bool" && b == "int")) := by decide +kernel
theorem kit_isTy {tn : String} (h : tyName tn) (d : D) : L2.kitB (tyD d) tn = some (isTy tn d) := by
  have hb : tn ∈ ["int", "bool", "str", "tuple", "list", "dict"] := by
    rcases h with rfl | rfl | rfl | rfl | rfl | rfl <;> simp
  have ha : tyD d ∈ ["NoneType", "bool", "int", "str", "list", "tuple", "dict"] := by cases d <;> simp [tyD]
  rw [kit_tab _ ha _ hb]
  rcases h with rfl | rfl | rfl | rfl | rfl | rfl <;> cases d <;> rfl
theorem tyX_of {K : PySem.W.Frag} {H : Hp} {F : AP} {v : V} {d : D} (h : DpT K H F v d) : TyX K H v (.type (tyD d)) := by
  rcases h with h | ⟨a, xs, ds, rfl, rfl, h1, h2⟩
  · cases h with
    | non => exact .base .non
    | bl b => exact .base (.bl b)
    | int i => exact .base (.int i)
    | str x => exact .base (.str x)
    | lst h _ => exact .base (.lst h.2)
    | dct h _ => exact .base (.dK h.2)
    | tup h _ =>
      rcases h with ⟨_, h | ⟨o, h⟩⟩ | h
      · exact .base (.tup h)
      · exact .fTuple h
      · rcases h with (h | ⟨o, h⟩) | ⟨o, its, n, e, c, _⟩
        · cases h
        · cases h
        · exact .kTuple e c
  · exact .base (.lst h1)
def dIsTy (tn : String) : D → (DV → Prop) → Prop := fun d Q => Q (.dat (.bool (isTy tn d)))
section
variable {X : Cx} {W : WX} {e a b : Expr} {pos : Pos}
theorem de_isi {tn : String} {o : OX} (ht : tyName tn) (ho : DO X W a o) (pt : PE X b (tC (.ty tn))) (hs : starEach [a, b] X.env = (false, eval a X.env) :: starEach [b] X.env := by rfl) (hs' : starEach [b] X.env = (false, eval b X.env) :: starEach [] X.env := by rfl)
    (mk : ∀ {t : TA}, PA X [a, b] t → PE X e (tCB (rIsi X.K) t)) : DE X W e (xU (dIsTy tn) o) := by
  obtain ⟨t, pe, ent⟩ := ho.ex
  refine ⟨⟨_, mk (pa_cons pe (pa_cons pt pa_nil hs') hs), fun C r σ H F Q Xk QV hK R L hf k => ?_⟩⟩
  refine ent C r σ H F _ Xk _ hK R L hf fun v H1 F1 g r1 R1 G1 q1 => ?_
  split at q1
  · rename_i d eg
    have hd := G1 _ _ _ _ R1 Later.refl eg
    refine ⟨v, .ty tn, _, _, isTy tn d, rfl, .ty tn, hK ▸ tyX_of hd, kit_ty (kit_isTy ht d), k _ H1 F1 _ r1 R1 (.dat (.bl _)) q1⟩
  · exact q1.elim
end
end DL

/-! DL: own errors whose __init__ says super().__init__(..): the statement, and the def. -/
namespace DL
open PySem PySem.Spec L2 PyProof.Rows
open NdefX (NF ncx envF NScope CellsAt inv_startN startF)

/-- what the written part says of an own error's __init__ at F (its class at C, over ValueError) -/
structure SupC (P : Program) (K : PySem.W.Frag) (mg : Str → Option Value) (F : NF) (f C cc : Addr) (slf : Str) : Prop where
  cl : F.cl = [(("__class__" : Str), cc)]
  fn : ∃ (oc : Value) (od : Option Addr) (fd : FuncData) (osl : Array (Option Value)) (ar : Arg), K.lookup f = some ⟨oc, od, .func fd, osl⟩ ∧ (fd.params.posonlyargs ++ fd.params.args).head? = some ar ∧ ar.arg = slf
  code : ∃ (c1 : Value) (c2 : Option Addr) (vs : Array Value) (c3 : Array (Option Value)) (file : Str) (tf : Tok), K.lookup F.c = some ⟨c1, c2, .fields vs, c3⟩ ∧ vs[2]? = some (.str file tf) ∧ ((P.main.file : Str) == file) = true
  cell : ∃ (c1 : Value) (c2 : Option Addr) (c3 : Array (Option Value)), K.lookup cc = some ⟨c1, c2, .cell (some (.ref C)), c3⟩
  cls : ∃ cd, PySem.W.clsIn K C = some cd
  sub : PySem.W.mroIn K C (.ref C) = some true
  noS : mg "super" = none
  kS : F.scope.names.lookup ("super" : Str) = some .globalImplicit
  kC : F.scope.names.lookup ("__class__" : Str) = some .free
  kL : F.scope.names.lookup slf = some .local
  top : (P.main.scope.names.lookup ("super" : Str)).isSome = false
  any : PySem.W.nsIn K cStatics "thirdparty.any" = some none
  ini : PySem.W.ks_superIn K C C "__init__" = some (some (.builtin "ValueError.__init__"))
  isV : PySem.W.subIn K (.ref C) (.type "ValueError") = some true
  oex : OexC K C
theorem boot_super : bootBuiltins "super" = some (.type "super") := by first | rfl | kernel_rfl | decide +kernel

theorem data_cell {v : Option Value} {a b : Obj} (h : a = b) (e : a.data = .cell v) : b.data = .cell v := h ▸ e

section
variable {CX : CXT} {P : Program} {w : World} {K : PySem.W.Frag} {mg : Str → Option Value} {base : Heap} {N : List Str} {F : NF} {f C cc a : Addr} {slf : Str} {A : Around} {outer : List PySem.Env} {s0 s : Shared} {H0 H : Hp} {E : XK} {σ : L2.St} {e : Expr} {es : List Expr} {ta : TA}
  {body : List Stmt} {p0 p1 p2 p3 p4 : Pos} {Dn : L2.Ends}
theorem sup_stmt (T : SupC P K mg F f C cc slf) (h0 : N[0]? = some slf) (I : Inv (ncx CX P w K mg base N F f A outer s0 H0 E) [] σ H s) (e0 : σ[0]? = some (some (.ref a))) (ea : H a = some (exo a C none))
    (ha : PA (ncx CX P w K mg base N F f A outer s0 H0 E) (e :: es) ta) (q : ta σ H fun vs H1 => vs.length ≤ 1000 ∧ H1 a = some (exo a C none) ∧ Dn.nx σ H1)
    (he : starEach (e :: es) (ncx CX P w K mg base N F f A outer s0 H0 E).env = (false, eval e (ncx CX P w K mg base N F f A outer s0 H0 E).env) :: starEach es (ncx CX P w K mg base N F f A outer s0 H0 E).env := by rfl)
    (hpl : (backTo p3 (starEach es (ncx CX P w K mg base N F f A outer s0 H0 E).env)).any (·.1) = false := by rfl)
    (hin : interactive (ncx CX P w K mg base N F f A outer s0 H0 E).env = false := by rfl) {pl : Sem Bool} (hev : eval (.Call (.Attribute (.Call (.Name "super" p0) [] [] p1) "__init__" p2) (e :: es) [] p3) (ncx CX P w K mg base N F f A outer s0 H0 E).env = (do
      let ov ← attributeBase (.Call (.Name "super" p0) [] [] p1) "__init__" (ncx CX P w K mg base N F f A outer s0 H0 E).env (eval (.Call (.Name "super" p0) [] [] p1) (ncx CX P w K mg base N F f A outer s0 H0 E).env)
      standAt p2.atName
      let (fx, first) ← holding [ov] (getMethod ov "__init__" pl)
      callWith p3 fx first (backTo p3 (starEach (e :: es) (ncx CX P w K mg base N F f A outer s0 H0 E).env)) []) := by rfl) (hsw : swapsWith (.Call (.Attribute (.Call (.Name "super" p0) [] [] p1) "__init__" p2) (e :: es) [] p3) none p4.line (ncx CX P w K mg base N F f A outer s0 H0 E).env = pure false := by rfl) :
    _root_.PySem.wpAt (model P w) (ncx CX P w K mg base N F f A outer s0 H0 E).A (.func body (ncx CX P w K mg base N F f A outer s0 H0 E).env)
      (exec (.Expr (.Call (.Attribute (.Call (.Name "super" p0) [] [] p1) "__init__" p2) (e :: es) [] p3) p4) (ncx CX P w K mg base N F f A outer s0 H0 E).env)
      (SP (ncx CX P w K mg base N F f A outer s0 H0 E) [] Dn) (ncx CX P w K mg base N F f A outer s0 H0 E).xe s := by
  obtain ⟨oc, od, fd, osl, ar, hf, hp, har⟩ := T.fn
  obtain ⟨c1, c2, vs, c3, file, tf, hcode, hvs, hfile⟩ := T.code
  obtain ⟨g1, g2, g3, hcell⟩ := T.cell
  obtain ⟨cdD, hD⟩ := T.cls
  have X := I.kIn
  have hcl : (ncx CX P w K mg base N F f A outer s0 H0 E).env.cells.lookup ("__class__" : Str) = some cc := by
    show F.cl.lookup _ = _
    rw [T.cl] <;> rfl
  have kk : (ncx CX P w K mg base N F f A outer s0 H0 E).env.scope.kind = .function := I.ok.kind
  obtain ⟨oD, hD1, hD2⟩ : ∃ oD, s.heap.get? C = some oD ∧ oD.data = .cls cdD := by
    unfold PySem.W.clsIn at hD
    split at hD
    · rename_i c d cd' sl ho
      cases hD
      exact ⟨_, X _ _ ho, rfl⟩
    · cases hD
  obtain ⟨t1, hoe⟩ := exo_at I.hok ea
  refine PySem.ks_wpAt_Expr_any ?_ hin hsw
  refine PySem.ks_wpAt_MethodCall (pl := pl) ?_ hev
  refine PySem.ks_wpAt_super_base (env := (ncx CX P w K mg base N F f A outer s0 H0 E).env) T.kS T.kC (by decide) rfl (X _ _ hf) rfl hp rfl (X _ _ hcode) rfl hvs hfile T.top ?_
  obtain ⟨mb, hb1, hb2⟩ := I.mod.blt
  refine PySem.W.ks_loadName_global kk T.kS (Calls.loadGlobal_builtin (I.mod.glob.keeps I.bk) T.noS (hb1.keeps I.bk) ((hb2 _ (by decide +kernel)).trans boot_super) ⟨rfl, ?_⟩)
  refine wpAny_loadName_free kk T.kC hcl ⟨_, X _ _ hcell, rfl⟩ ?_
  obtain ⟨m, hns, hlk⟩ := id I.loc
  have hself : m ar.arg = some (.ref a) := by
    rw [har]
    obtain ⟨u, ru, l⟩ := hlk 0 slf _ h0 e0 (.inl T.kL)
    obtain rfl : u = Value.ref a := ru
    rcases l with ⟨_, hm⟩ | ⟨hk, _⟩
    · exact hm
    · have hk : F.scope.names.lookup slf = some .cell ∨ F.scope.names.lookup slf = some .free := hk
      rw [T.kL] at hk
      rcases hk with z | z <;> cases z
  refine wpAny_loadName_local kk (har ▸ T.kL) hns hself ?_
  refine PySem.ks_wpAny_isType_cls hD1 hD2 ⟨rfl, ?_⟩
  obtain ⟨hp1, g, d, t, os⟩ := s
  refine PySem.ks_wpAny_call_super hD1 hD2 hoe rfl (fun c z => by cases z) (PySem.W.looks_mroIn X T.sub) (fun h' hso k => ?_)
  have I1 := I.kept (t' := t) k
  have na : a < hp1.objs.size := Heap.lt_size hoe
  -- the method
  have X1 := I1.kIn
  have ho1 : h'.get? a = some ({ cls := .ref C, dict := none, data := .fields #[.ref t1, .none, .none, .none, .bool false, .none] } : Obj) := k _ _ hoe
  have J1 : PySem.W.InstAt h' a _ C none := ⟨ho1, rfl, rfl, trivial⟩
  have hm := T.ini
  unfold PySem.W.ks_superIn at hm
  rw [hD] at hm
  refine PySem.W.kxs_getMethod PySem.W.kxs_ValueError hso (PySem.W.looks_opaque X1 T.any) (l₀ := cdD.mro) (fun A Q E s k q => wpAny_bind ((PySem.W.looks_clsIn X1 hD) A _ E s k (wpAny_pure q))) rfl X1 hm (J1.type.andThen (PySem.W.looks_subIn X1 T.isV)) (PySem.W.ks_ne X1 J1 hD) (by decide) ?_
  have k2 : ∀ b o, h'.get? b = some o → (h'.push (PySem.W.kxs_mw "ValueError.__init__" a)).get? b = some o := fun b o z => Heap.get?_push_of_some _ z
  have I2 := I1.kept (t' := t + 1) k2
  have hu : (h'.push (PySem.W.kxs_mw "ValueError.__init__" a)).get? h'.objs.size = some (PySem.W.kxs_mw "ValueError.__init__" a) := Heap.get?_push_at rfl rfl
  have I3 : Inv (ncx CX P w K mg base N F f A outer s0 H0 E) [(h'.objs.size, PySem.W.kxs_mw "ValueError.__init__" a)] σ H ⟨h'.push (PySem.W.kxs_mw "ValueError.__init__" a), g, d, t + 1, os⟩ := I2.pins_of fun p hp => by
    have hp : p = (h'.objs.size, PySem.W.kxs_mw "ValueError.__init__" a) := by simpa using hp
    subst hp
    refine ⟨hu, I1.hok.fresh (Nat.le_refl _), fun z => ?_, I1.nofs (Nat.le_refl _), fun v z => by cases z⟩
    have := I1.lt
    rw [← z] at this
    exact Nat.lt_irrefl _ this
  show wpAny _ _ (callWith p3 (.ref h'.objs.size) [] (backTo p3 (starEach (e :: es) _)) []) _ _ _
  rw [he]
  refine PySem.W.kxs_callWith (i := "ValueError.__init__") (x := a) (by show (false || (backTo p3 (starEach es _)).any (·.1)) = false; rw [hpl]; rfl) ?_
  have hr := ha.run p3 _ _ σ H _ I3 q
  rw [he] at hr
  refine Calls.evalArgs_plain (wpAny_mono hr (fun us s1 hh => ?_) fun _ _ z => z)
  obtain ⟨ws, H1, I4, r1, hl, ea1, q1⟩ := hh
  have hw : s1.heap.get? h'.objs.size = some (PySem.W.kxs_mw "ValueError.__init__" a) := (I4.pin _ (List.mem_append_right _ (List.mem_cons_self ..))).1
  refine ⟨hw, ?_⟩
  obtain ⟨nm, qn, N', bs, bm, sn, sub, ab, col, dd, k0, k1, k2', k3, k5, hC, hbm⟩ := T.oex.cls
  obtain ⟨t2, hoe2⟩ := exo_at I4.hok ea1
  have hlen : us.length ≤ sizeLine := by
    rw [← Paired.length r1, sizeLine_eq]
    omega
  obtain ⟨hp2, g2', d2, tk2, os2⟩ := s1
  have FB := PySem.F.excBase_ValueError
  show wpAny _ _ (call (.ref h'.objs.size) ([] ++ us)) _ _ _
  rw [List.nil_append]
  refine wpAny_call (codeAny_of_tree ?_)
  show wpAny _ _ (callAny (.ref h'.objs.size) ⟨us, []⟩) _ _ _
  simp only [callAny]
  refine wpAny_bind (wpAny_load hw ?_)
  simp only [PySem.W.kxs_mw, show (Value.type "method-wrapper" == Value.type "method" || Value.type "method-wrapper" == Value.type "builtin_function_or_method" || Value.type "method-wrapper" == Value.type "method-wrapper") = true by decide, if_true]
  refine PySem.W.KFB.if_so (by decide) ?_
  refine wpAny_bind (PySem.W.check_bound_init FB.toExcCallFacts (I4.kIn _ _ hC) hoe2 rfl ?_)
  refine wpAny_bind (wpAny_pure (wpAny_pure ?_))
  refine ⟨plainId_quiet FB.init.plain _, codeAny_builtin FB.initEntry ?_⟩
  refine PySem.W.exc_init_tree (cls := .ref C) (t0 := t2) (dv := none) (c2 := .none) (c3 := .none) (b4 := .bool false) hoe2 hlen fun h3 k3' hx ht => ?_
  have J := I4.write (t' := tk2) (x := a) (e := a) (o := exo a C none) (by rw [ea1]; exact True.intro) (.inl rfl) k3' ⟨_, hx⟩ (exo_ok hx)
  have eu : upd H1 a (exo a C none) = H1 := by
    funext b
    by_cases hb : b = a
    · rw [hb, upd_same, ea1]
    · rw [upd_ne hb]
  rw [eu] at J
  exact ⟨σ, H1, J.pins_of fun p hp => absurd hp (by simp), q1⟩

/-- the def's own text, and what is plain of its first statement -/
structure SupB (F : NF) (f : Addr) (e : Expr) (es : List Expr) (p0 p1 p2 p3 p4 : Pos) (pl : PySem.Env → Sem Bool) : Prop where
  he : ∀ L : Addr, starEach (e :: es) (envF F f L) = (false, eval e (envF F f L)) :: starEach es (envF F f L)
  hpl : ∀ L : Addr, (backTo p3 (starEach es (envF F f L))).any (·.1) = false
  hin : ∀ L : Addr, interactive (envF F f L) = false
  hsw : ∀ L : Addr, swapsWith (.Call (.Attribute (.Call (.Name "super" p0) [] [] p1) "__init__" p2) (e :: es) [] p3) none p4.line (envF F f L) = pure false
  hev : ∀ L : Addr, eval (.Call (.Attribute (.Call (.Name "super" p0) [] [] p1) "__init__" p2) (e :: es) [] p3) (envF F f L) = (do
      let ov ← attributeBase (.Call (.Name "super" p0) [] [] p1) "__init__" (envF F f L) (eval (.Call (.Name "super" p0) [] [] p1) (envF F f L))
      standAt p2.atName
      let (fx, first) ← holding [ov] (getMethod ov "__init__" (pl (envF F f L)))
      callWith p3 fx first (backTo p3 (starEach (e :: es) (envF F f L))) [])
structure SupFn (K : PySem.W.Frag) (F : NF) (f : Addr) (fd : FuncData) : Prop where
  ex : ∃ (oc : Value) (od : Option Addr) (kV doc pm ct : Value) (an : Option Addr) (osl : Array (Option Value)),
    fd = PySem.W.fnX F.name F.qual F.params F.body F.scope F.cl .none kV doc pm an (.ref F.c) ct ∧ K.lookup f = some ⟨oc, od, .func fd, osl⟩ ∧ PySem.W.codeIn K (.ref F.c) F.qual = true
theorem fn_sup {CX : CXT} {fd : FuncData} {ps : List Str} {k : Nat} {sp : Sp} {rest : List Stmt} {pl : PySem.Env → Sem Bool} (T : SupC P K mg F f C cc slf) (G : SupFn K F f fd) (S : NScope N ps [("__class__" : Str)] F.scope) (h0 : N[0]? = some slf)
    (hB : F.body = .Expr (.Call (.Attribute (.Call (.Name "super" p0) [] [] p1) "__init__" p2) (e :: es) [] p3) p4 :: rest) (B : SupB F f e es p0 p1 p2 p3 p4 pl) (len : ∀ vs H Q E, sp vs H Q E → vs.length = ps.length)
    (hbody : ∀ (A : Around) (outer : List PySem.Env) (s : Shared) (H : Hp) (vs : List V) (Q : VK) (E : XK), Room k (A.deeper (envF F f s.heap.objs.size)) → sp vs H Q E → ∃ (a : Addr) (ta : TA) (t : L2.TS), (startF N vs [none])[0]? = some (some (.ref a)) ∧ H a = some (exo a C none) ∧
      PA (ncx CX P w K mg base N F f A outer s H E) (e :: es) ta ∧ PSs (ncx CX P w K mg base N F f A outer s H E) rest t ∧
      ta (startF N vs [none]) H fun ws H1 => ws.length ≤ 1000 ∧ H1 a = some (exo a C none) ∧ t { nx := fun _ H' => Q .non H', rt := Q } (startF N vs [none]) H1) :
    FnOk P w K mg base CX (k + 1) f fd ps sp := by
  refine ⟨len, fun A outer s H args us vs Q E hr ev hb r hsp => ?_⟩
  obtain ⟨oc, od, kV, doc, pm, ct, an, osl, rfl, lk, hcd⟩ := G.ex
  have hl := len _ _ _ _ hsp
  have up : ∀ b o, base.get? b = some o → s.heap.get? b = some o := fun b o z => (ev.bs b o z).1
  have inK : K.In s.heap := ev.mod.kin.keeps up
  have free := ev.mod.nolimit.keeps up
  obtain ⟨g1, g2, g3, hcell⟩ := T.cell
  have lk1 : ∀ y c, F.cl.lookup y = some c → y = "__class__" ∧ c = cc := fun y c z => by
    rw [T.cl] at z
    by_cases q : y = ("__class__" : Str)
    · subst q
      simp [List.lookup] at z
      exact ⟨rfl, z.symm⟩
    · have qq : (y == ("__class__" : Str)) = false := by simpa using q
      simp [List.lookup, qq] at z
  have CA : CellsAt F.cl [("__class__" : Str)] [none] s.heap H := {
    len := rfl
    all := fun y c z => by
      obtain ⟨_, rfl⟩ := lk1 y c z
      exact ⟨(ev.bs _ _ (ev.mod.kin _ _ hcell)).2, _, ⟨_, inK _ _ hcell, rfl⟩⟩
    inj := fun x y c z1 z2 => ((lk1 x c z1).1).trans ((lk1 y c z2).1).symm
    has := fun i y z => by
      cases i with
      | zero =>
        have z : ("__class__" : Str) = y := by simpa using z
        subst z
        exact ⟨cc, by rw [T.cl] <;> rfl, fun v q => by simp at q⟩
      | succ i => simp at z }
  refine PySem.ks_codeAny_call_defAt hr.depth (inK _ _ lk) rfl free (PySem.W.codeRec_of inK hcd) rfl hb S.nocell (fun ⟨n, _⟩ hy => S.par n (List.of_mem_zip hy).1) (fun h₁ hns kp => ?_) S.co S.gen S.kind
  have I : Inv (ncx CX P w K mg base N F f A outer s H E) [] (startF N vs [none]) H { s with heap := h₁, toks := s.toks + (ps.zip us).length } := inv_startN S hr.hd ev hl r CA hns kp
  obtain ⟨a, ta, t, e0, ea, pa, pt, q⟩ := hbody A outer s H vs Q E (hr.deeper _) hsp
  show _root_.PySem.wpAt (model P w) (ncx CX P w K mg base N F f A outer s H E).A (.func F.body (ncx CX P w K mg base N F f A outer s H E).env) (execs F.body (ncx CX P w K mg base N F f A outer s H E).env) _ (ncx CX P w K mg base N F f A outer s H E).xe _
  rw [hB]
  refine PySem.ks_wpAt_execs_cons (PySem.wpAt_mono (sup_stmt (pl := pl (envF F f s.heap.objs.size)) (Dn := { nx := fun σ' H' => t { nx := fun _ H' => Q .non H', rt := Q } σ' H', rt := fun _ _ => False }) T h0 I e0 ea pa ?_ (B.he _) (B.hpl _) (B.hin _) (B.hev _) (B.hsw _)) (fun fl s' hs => ?_) fun _ _ z => z)
  · exact q
  · cases fl with
    | next =>
      obtain ⟨σ', H', J, q'⟩ := hs
      refine PySem.wpAt_of_wpAny (wpAny_mono (pt.run [] s' σ' H' _ J q') (fun fl2 s2 hs2 => ?_) fun _ _ z => z)
      cases fl2 with
      | ret u =>
        obtain ⟨v, σ2, H2, J2, rv2, q2⟩ := hs2
        exact ⟨v, H2, J2.os, J2.bare, J2.base, J2.hok, rv2, q2⟩
      | next =>
        obtain ⟨σ2, H2, J2, q2⟩ := hs2
        exact ⟨.non, H2, J2.os, J2.bare, J2.base, J2.hok, rfl, q2⟩
      | brk =>
        obtain ⟨_, _, _, z⟩ := hs2
        exact z.elim
      | cont =>
        obtain ⟨_, _, _, z⟩ := hs2
        exact z.elim
    | ret u =>
      obtain ⟨_, _, _, _, _, z⟩ := hs
      exact z.elim
    | brk =>
      obtain ⟨_, _, _, z⟩ := hs
      exact z.elim
    | cont =>
      obtain ⟨_, _, _, z⟩ := hs
      exact z.elim
end
end DL

/-! DL: own errors raised. -/
namespace DL
open PySem PySem.Spec L2
open NdefX (NF ncx envF NScope CellsAt inv_startN startF)
/-- what an own error's __init__ keeps: it stores its arguments under the names -/
def spI (C : Addr) (names : List Str) : Sp := fun vs H Q _ => ∃ (a : Addr) (ws : List V), vs = .ref a :: ws ∧ ws.length = names.length ∧ H a = some (exo a C none) ∧
  ∀ (dx : Addr) (H2 : Hp), H dx = none → dx ≠ a → H2 a = some (exo a C (some dx)) → H2 dx = some (exd dx (names.zip ws).reverse) → (∀ b, b ≠ a → b ≠ dx → H2 b = H b) → Q .non H2
section
variable {CX : CXT} {P : Program} {w : World} {K : PySem.W.Frag} {mg : Str → Option Value} {base : Heap} {F : NF} {f C cc : Addr} {slf n1 n2 : Str} {fd : FuncData} {k : Nat} {pl : PySem.Env → Sem Bool}
  {p0 p1 p2 p3 p4 q1 q2 q3 q4 q5 q6 q7 q8 q9 q10 : Pos}
/-- one field -/
theorem init1 (T : SupC P K mg F f C cc slf) (G : SupFn K F f fd) (S : NScope [slf, n1, "__class__"] [slf, n1] [("__class__" : Str)] F.scope)
    (hB : F.body = [.Expr (.Call (.Attribute (.Call (.Name "super" p0) [] [] p1) "__init__" p2) [.Name n1 q1] [] p3) p4, .Assign [.Attribute (.Name slf q2) n1 q3] (.Name n1 q4) q5]) (B : SupB F f (.Name n1 q1) [] p0 p1 p2 p3 p4 pl)
    (no1 : PySem.W.findIn K (.ref C) n1 = some none) (d0 : (slf == ("__debug__" : Str)) = false) (c0 : (slf == ("__classdict__" : Str)) = false) (d1 : (n1 == ("__debug__" : Str)) = false) (c1 : (n1 == ("__classdict__" : Str)) = false) :
    FnOk P w K mg base CX (k + 1) f fd [slf, n1] (spI C [n1]) := by
  refine fn_sup T G S rfl hB B (fun vs H Q E ⟨a, ws, e, l, _⟩ => by rw [e]; simp [l]) fun A outer s H vs Q E hr ⟨a, ws, ev, l, ea, q⟩ => ?_
  subst ev
  match ws, l with
  | [v1], _ =>
    have v0 : Vis F.scope slf := .inl (S.par slf (List.mem_cons_self ..))
    have v1' : Vis F.scope n1 := .inl (S.par n1 (List.mem_cons_of_mem _ (List.mem_cons_self ..)))
    refine ⟨a, tCons (tVar 1) tNil, _, rfl, ea, pa_cons (pe_var rfl v1' d1 c1) pa_nil, pss_one (ps_ost (pe_var (i := 0) rfl v0 d0 c0) (pe_var (i := 1) rfl v1' d1 c1)), ?_⟩
    refine ⟨v1, rfl, by simp, ea, v1, rfl, .ref a, rfl, a, C, rfl, T.oex, no1, .inl ⟨ea, fun dx hdx hne => ?_⟩⟩
    refine q dx _ hdx hne upd_same ?_ fun b h1 h2 => ?_
    · rw [upd_ne hne, upd_same] <;> rfl
    · rw [upd_ne h1, upd_ne h2]
/-- two fields -/
theorem init2 (T : SupC P K mg F f C cc slf) (G : SupFn K F f fd) (S : NScope [slf, n1, n2, "__class__"] [slf, n1, n2] [("__class__" : Str)] F.scope)
    (hB : F.body = [.Expr (.Call (.Attribute (.Call (.Name "super" p0) [] [] p1) "__init__" p2) [.Name n1 q1, .Name n2 q10] [] p3) p4, .Assign [.Attribute (.Name slf q2) n1 q3] (.Name n1 q4) q5, .Assign [.Attribute (.Name slf q6) n2 q7] (.Name n2 q8) q9]) (B : SupB F f (.Name n1 q1) [.Name n2 q10] p0 p1 p2 p3 p4 pl)
    (no1 : PySem.W.findIn K (.ref C) n1 = some none) (no2 : PySem.W.findIn K (.ref C) n2 = some none) (d0 : (slf == ("__debug__" : Str)) = false) (c0 : (slf == ("__classdict__" : Str)) = false) (d1 : (n1 == ("__debug__" : Str)) = false) (c1 : (n1 == ("__classdict__" : Str)) = false)
    (d2 : (n2 == ("__debug__" : Str)) = false) (c2 : (n2 == ("__classdict__" : Str)) = false) :
    FnOk P w K mg base CX (k + 1) f fd [slf, n1, n2] (spI C [n1, n2]) := by
  refine fn_sup T G S rfl hB B (fun vs H Q E ⟨a, ws, e, l, _⟩ => by rw [e]; simp [l]) fun A outer s H vs Q E hr ⟨a, ws, ev, l, ea, q⟩ => ?_
  subst ev
  match ws, l with
  | [v1, v2], _ =>
    have v0 : Vis F.scope slf := .inl (S.par slf (List.mem_cons_self ..))
    have v1' : Vis F.scope n1 := .inl (S.par n1 (List.mem_cons_of_mem _ (List.mem_cons_self ..)))
    have v2' : Vis F.scope n2 := .inl (S.par n2 (List.mem_cons_of_mem _ (List.mem_cons_of_mem _ (List.mem_cons_self ..))))
    refine ⟨a, tCons (tVar 1) (tCons (tVar 2) tNil), _, rfl, ea, pa_cons (pe_var rfl v1' d1 c1) (pa_cons (pe_var rfl v2' d2 c2) pa_nil),
      pss_cons (ps_ost (pe_var (i := 0) rfl v0 d0 c0) (pe_var (i := 1) rfl v1' d1 c1)) (pss_one (ps_ost (pe_var (i := 0) rfl v0 d0 c0) (pe_var (i := 2) rfl v2' d2 c2))), ?_⟩
    refine ⟨v1, rfl, v2, rfl, by simp, ea, v1, rfl, .ref a, rfl, a, C, rfl, T.oex, no1, .inl ⟨ea, fun dx hdx hne => ?_⟩⟩
    refine ⟨v2, rfl, .ref a, rfl, a, C, rfl, T.oex, no2, .inr ⟨dx, [(n1, v1)], upd_same, ?_, by simp, ?_⟩⟩
    · rw [upd_ne hne, upd_same] <;> rfl
    · refine q dx _ hdx hne ?_ upd_same fun b h1 h2 => ?_
      · rw [upd_ne (Ne.symm hne), upd_same]
      · rw [upd_ne h2, upd_ne h1, upd_ne h2]
end
/-! the statement -/
/-- raise X(e, ..) -/
def sRaise (x : Str) (names : List Str) (t : AX) : TS := fun E r => t E.ex r fun vs r1 => match allD vs with
  | some ds => ds.length = names.length ∧ E.ex ⟨x, (names.zip ds).reverse⟩ r1
  | none => False
theorem zip_fst : ∀ (names : List Str) (ds : List D), ds.length = names.length → (names.zip ds).map (·.1) = names
  | [], _, _ => by simp
  | n :: ns, [], h => by simp at h
  | n :: ns, d :: ds, h => by simp [zip_fst ns ds (by simpa using h)]
theorem zip_snd : ∀ (names : List Str) (ds : List D), ds.length = names.length → (names.zip ds).map (·.2) = ds
  | [], [], _ => by simp
  | [], _ :: _, h => by simp at h
  | n :: ns, [], h => by simp at h
  | n :: ns, d :: ds, h => by simp [zip_snd ns ds (by simpa using h)]
theorem zip_rev : ∀ (names : List Str) (vs : List V), vs.length = names.length → (names.zip vs).reverse = names.reverse.zip vs.reverse := fun names vs h => by
  rw [List.zip_eq_zipWith, List.zip_eq_zipWith, List.reverse_zipWith h.symm]
section
variable {X : Cx} {W : WX} {e : Expr} {es : List Expr} {p pos pos' : Pos} {x : Str} {C : Addr} {names : List Str} {u : AX}
theorem ds_raise (hc : X.calm = true) (tk : Takes X W) (hm : X.mg x = some (.ref C)) (ha : DA X W (e :: es) u) (mk : ∀ ta, PA X (e :: es) ta → PMk X (.Call (.Name x p) (e :: es) [] pos) (tMkO C (spI C names) [] ta)) (hn : (e :: es).length = names.length) (hs : names.length ≤ 1000 := by decide) :
    DS X W (.Raise (some (.Call (.Name x p) (e :: es) [] pos)) none pos') (sRaise x names u) := by
  obtain ⟨t, pa, ent⟩ := ha.ex
  refine ⟨⟨_, ps_raise hc tk (mk t pa), fun Cc r σ H F E D' hK R L hf => ?_⟩⟩
  refine ent Cc r σ H F _ E.ex _ hK R (L.ex σ) hf fun vs H1 F1 ds r1 hl R1 A1 q1 => ?_
  cases hd : allD ds with
  | none => rw [hd] at q1; exact q1.elim
  | some dd =>
    rw [hd] at q1
    obtain ⟨hlen, q1⟩ := q1
    have hv : vs.length = names.length := hl.trans hn
    refine ⟨by omega, fun a hna => ⟨a, vs ++ [], rfl, by simpa using hv, upd_same, fun dx H2 hdx hne e1 e2 e3 => ⟨rfl, dx, _, e1, e2, ?_, ?_⟩⟩⟩
    · rw [← hdx, upd_ne hne]
    · rw [List.append_nil] at e2 ⊢
      have hdx1 : H1 dx = none := by rw [← hdx, upd_ne hne]
      have eH : upd (del H2 a) dx (.xd (names.zip vs).reverse) = upd H1 dx (.xd (names.zip vs).reverse) := by
        funext b
        by_cases hb : b = dx
        · rw [hb, upd_same, upd_same]
        · rw [upd_ne hb, upd_ne hb]
          by_cases hba : b = a
          · rw [hba, del_same, hna]
          · rw [del_ne hba, e3 b hba hb, upd_ne hba]
      rw [eH]
      have R2 := R1.new (o := .xd (names.zip vs).reverse) hdx1
      have Lt : Later H1 F1 (upd H1 dx (.xd (names.zip vs).reverse)) F1 := fun y z => ⟨z, upd_ne fun q => R1.ftrk y z (q ▸ hdx1)⟩
      refine (L.ex σ).go _ r1 _ F1 _ _ R2 ⟨C, hm, rfl, .inr ⟨dx, vs.reverse, rfl, ?_, ?_⟩⟩ q1
      · rw [upd_same, zip_rev _ _ hv]
        show some (HO.xd _) = some (HO.xd (List.zip ((names.zip dd).reverse.map (·.1)) vs.reverse))
        rw [List.map_reverse, zip_fst _ _ hlen]
      · show DpFs Cc.K _ F1 vs.reverse ((names.zip dd).reverse.map (·.2))
        rw [List.map_reverse, zip_snd _ _ hlen]
        exact ((ArgR.all A1 hd).mono Lt).rev
end
end DL

/-! DL: try: .. except X as e: return (.., e.f, ..) -/
namespace DL
open PySem PySem.Spec L2
/-- one reading for a row of statements -/
def sCan (X : Cx) (W : WX) (f : TS) : L2.TS := fun D σ H => ∃ (C : Ctx) (r : Env) (F : AP) (E : Ends), C.K = X.K ∧ Rep C r σ H F ∧ EndsR X W C D E ∧ f E r
theorem EndsR.turn {X Y : Cx} {W : WX} {C : Ctx} {D : L2.Ends} {E : Ends} (q : EndsR X W C D E) (h : X.mg = Y.mg) (hw : X.w = Y.w) : EndsR Y W C D E :=
  ⟨q.nx, q.rt, q.bk, q.ct, fun σ => ⟨(q.ex σ).w.trans hw, fun er r' H' F' cls d R e w => (q.ex σ).go er r' H' F' cls d R (h ▸ e) w⟩⟩
theorem DSs.can {X Y : Cx} {W : WX} {st : List Stmt} {f : TS} (h : DSs Y W st f) (hm : X.mg = Y.mg) (hk : X.K = Y.K) (hw : X.w = Y.w) : PSs Y st (sCan X W f) := by
  obtain ⟨t, ps, ent⟩ := h.ex
  exact ⟨fun pins s σ H D I ⟨C, r, F, E, hK, R, q, hf⟩ => ps.run pins s σ H D I (ent C r σ H F E D (hK.trans hk) R (q.turn hm hw) hf)⟩
theorem Rep.any1 {C : Ctx} {r : Env} {σ : L2.St} {H : Hp} {F : AP} {i : Nat} {u : Option V} (R : Rep C r σ H F) : Rep C (putO r i none) (σ.set i u) H F where
  len := by rw [len_putO, List.length_set]; exact R.len
  slot := fun j d e => by
    obtain ⟨n, e'⟩ := sl_put_none e
    rw [List.getElem?_set_ne (Ne.symm n)]
    exact R.slot j d e'
  dist := fun j k dj dk a e1 e2 o1 o2 s1 s2 => by
    obtain ⟨n1, e1⟩ := sl_put_none e1
    obtain ⟨n2, e2⟩ := sl_put_none e2
    rw [List.getElem?_set_ne (Ne.symm n1)] at s1
    rw [List.getElem?_set_ne (Ne.symm n2)] at s2
    exact R.dist j k dj dk a e1 e2 o1 o2 s1 s2
  keep := R.keep
  fsub := R.fsub
  fnew := R.fnew
  fz := R.fz
  ftrk := R.ftrk
  ownz := fun j ds a e o1 s1 => by
    obtain ⟨n1, e1⟩ := sl_put_none e
    rw [List.getElem?_set_ne (Ne.symm n1)] at s1
    exact R.ownz j ds a e1 o1 s1
  bag := R.bag
  tb := R.tb
/-! ### the suite -/
abbrev GH := Err → (D → Prop) → Prop
abbrev GHs := Err → (List D → Prop) → Prop
abbrev SH := Err → (DV → Prop) → Prop
/-- a part of what is handed back: nothing is made -/
structure DHA (X : Cx) (i : Nat) (e : Expr) (g : GH) : Prop where
  ex : ∀ (a : Addr) (oe : Obj) (cls : Value) (d : Option Addr) (pn : List (Addr × Obj)), Zc cls d oe → (∃ vs, oe.data = .fields vs) → ∃ t, PE (X.suite a ((a, oe) :: pn)) e t ∧
    ∀ (σ : L2.St) (H : Hp) (F : AP) (er : Err) (Q : D → Prop) (QV : VK), σ[i]? = some (some (.ref a)) → ErrR X.mg X.K H F cls d er → g er Q → (∀ v x, DpF X.K H F v x → Q x → QV v H) → t σ H QV
structure DHS (X : Cx) (i : Nat) (es : List Expr) (g : GHs) : Prop where
  ex : ∀ (a : Addr) (oe : Obj) (cls : Value) (d : Option Addr) (pn : List (Addr × Obj)), Zc cls d oe → (∃ vs, oe.data = .fields vs) → ∃ t, PA (X.suite a ((a, oe) :: pn)) es t ∧
    ∀ (σ : L2.St) (H : Hp) (F : AP) (er : Err) (Q : List D → Prop) (QV : List V → Hp → Prop), σ[i]? = some (some (.ref a)) → ErrR X.mg X.K H F cls d er → g er Q → (∀ vs xs, DpFs X.K H F vs xs → Q xs → QV vs H) → t σ H QV
/-- a suite that hands back -/
structure DH (X : Cx) (i : Nat) (st : List Stmt) (g : SH) : Prop where
  ex : ∀ (a : Addr) (oe : Obj) (cls : Value) (d : Option Addr) (pn : List (Addr × Obj)), Zc cls d oe → (∃ vs, oe.data = .fields vs) → ∃ t, PSs (X.suite a ((a, oe) :: pn)) st t ∧
    ∀ (C : Ctx) (r : Env) (σ : L2.St) (H : Hp) (F : AP) (er : Err) (Q : DV → Prop) (D' : L2.Ends), C.K = X.K → Rep C r σ H F → σ[i]? = some (some (.ref a)) → ErrR X.mg X.K H F cls d er → g er Q →
      (∀ v H' F' dv, Fin C H' F' → RetR C H' F' v dv → Q dv → D'.rt v H') → t D' σ H
section
variable {X : Cx} {i j : Nat} {e : Expr} {es : List Expr} {pos p : Pos} {x f n : Str} {C : Addr}
def hC (d : D) : GH := fun _ Q => Q d
/-- e.f, e of the class x -/
def hF (x f : Str) : GH := fun er Q => er.cls = x ∧ ∃ d, er.fs.lookup f = some d ∧ Q d
def hNil : GHs := fun _ Q => Q []
def hCons (g : GH) (t : GHs) : GHs := fun er Q => g er fun d => t er fun ds => Q (d :: ds)
def hRetT (t : GHs) : SH := fun er Q => t er fun ds => ds.length ≤ 16777216 ∧ Q (.dat (.tuple ds))
theorem dh_str : DHA X i (.Constant (.str f) j pos) (hC (.str f)) := ⟨fun a oe cls d pn _ _ => ⟨_, pe_str, fun σ H F er Q QV _ _ q k => k _ _ (.str f) q⟩⟩
theorem dh_int {m : Int} : DHA X i (.Constant (.int m) j pos) (hC (.int m)) := ⟨fun a oe cls d pn _ _ => ⟨_, pe_int, fun σ H F er Q QV _ _ q k => k _ _ (.int m) q⟩⟩
theorem dh_none : DHA X i (.Constant .none j pos) (hC .none) := ⟨fun a oe cls d pn _ _ => ⟨_, pe_non, fun σ H F er Q QV _ _ q k => k _ _ .non q⟩⟩
theorem zip_look {K : PySem.W.Frag} {H : Hp} {F : AP} {f : Str} : ∀ {fs : List (Str × D)} {vs : List V} {d : D}, DpFs K H F vs (fs.map (·.2)) → fs.lookup f = some d → ∃ v, (List.zip (fs.map (·.1)) vs).lookup f = some v ∧ DpF K H F v d
  | [], _, _, _, h => by cases h
  | (g, y) :: fs, vs, d, h, e => by
    cases h with
    | cons h1 hs =>
      by_cases q : f = g
      · subst q
        simp [List.lookup] at e
        subst e
        exact ⟨_, by simp [List.lookup], h1⟩
      · have qq : (f == g) = false := by simpa using q
        simp [List.lookup, qq] at e
        obtain ⟨v, e1, e2⟩ := zip_look hs e
        exact ⟨v, by simpa [List.lookup, qq] using e1, e2⟩
theorem dh_fld (T : XfC X.K C) (hno : PySem.W.findIn X.K (.ref C) f = some none) (hm : X.mg x = some (.ref C)) (hN : X.N[i]? = some n) (hv : Vis X.env.scope n)
    (hb : attributeBase (.Name n p) f X.env (eval (.Name n p) X.env) = eval (.Name n p) X.env := by rfl) (hd : (n == ("__debug__" : Str)) = false := by decide) (hcd : (n == ("__classdict__" : Str)) = false := by decide) :
    DHA X i (.Attribute (.Name n p) f pos) (hF x f) := ⟨fun a oe cls d pn hz hf => by
  refine ⟨_, pe_xf T hno hz hf (pe_var (X := X.suite a ((a, oe) :: pn)) hN hv hd hcd) hb, fun σ H F er Q QV hσ hE ⟨hx, y, hl, q⟩ k => ?_⟩
  obtain ⟨Cc, m1, rfl, hE⟩ := hE
  rcases hE with ⟨ef, _⟩ | ⟨dd, vs, rfl, hH, hD⟩
  · rw [ef] at hl; cases hl
  rw [hx, hm] at m1
  cases m1
  obtain ⟨v, e1, e2⟩ := zip_look hD hl
  exact ⟨_, hσ, rfl, rfl, dd, _, v, rfl, hH, e1, k v y e2 q⟩⟩
theorem dhs_nil : DHS X i [] hNil := ⟨fun a oe cls d pn _ _ => ⟨_, pa_nil, fun σ H F er Q QV _ _ q k => k _ _ .nil q⟩⟩
theorem dhs_cons {g : GH} {t : GHs} (h : DHA X i e g) (hs : DHS X i es t) (he : starEach (e :: es) X.env = (false, eval e X.env) :: starEach es X.env := by rfl) : DHS X i (e :: es) (hCons g t) := ⟨fun a oe cls d pn hz hf => by
  obtain ⟨t1, p1, k1⟩ := h.ex a oe cls d pn hz hf
  obtain ⟨t2, p2, k2⟩ := hs.ex a oe cls d pn hz hf
  exact ⟨_, pa_cons p1 p2 he, fun σ H F er Q QV hσ hE q k => k1 σ H F er _ _ hσ hE q fun v y hv q1 => k2 σ H F er _ _ hσ hE q1 fun vs ys hvs q2 => k _ _ (.cons hv hvs) q2⟩⟩
theorem dh_ret {t : GHs} (h : DHS X i es t) : DH X i [.Return (some (.Tuple es j p)) pos] (hRetT t) := ⟨fun a oe cls d pn hz hf => by
  obtain ⟨t1, p1, k1⟩ := h.ex a oe cls d pn hz hf
  refine ⟨_, pss_one (ps_ret (pe_tup p1)), fun C r σ H F er Q D' hK R hσ hE q k => ?_⟩
  refine k1 σ H F er _ _ hσ hE q fun vs ys hvs q1 => ⟨by rw [line_eq, hvs.length]; exact q1.1, fun pa hp => ?_⟩
  obtain ⟨R2, G2, _⟩ := R.freshTup hp (hK ▸ hvs)
  exact k _ _ _ _ R2.fin G2.ret q1.2⟩
end
/-! ### try -/
/-- try: p / except X as e: h; cs: which errors X takes -/
def sTry (cs : List (Str × Bool)) (i : Nat) (p : TS) (h : SH) : TS := fun E r => p { E with ex := fun er r1 => match cs.lookup er.cls with
  | some true => i < r1.length ∧ h er E.rt
  | some false => E.ex er r1
  | none => False } r
section
variable {X : Cx} {W : WX} {x n : Str} {cv : Value} {i : Nat} {body suite : List Stmt} {b₀ : Stmt} {np pos pos' : Pos} {p : TS} {h : SH} {cs : List (Str × Bool)}
theorem ds_try (hs : X.stack = X.env :: X.outer) (hf : X.env.frame = some X.env.locals) (hN : X.N.Nodup) (hi : X.N[i]? = some n) (hln : X.env.kindOf n = some .local) (hc : Names X x cv) (tk : Takes X W)
    (hcs : ∀ y b, cs.lookup y = some b → ∀ Cc, X.mg y = some (.ref Cc) → PySem.W.exmOne X.K (.ref Cc) cv = some b)
    (hb : ∀ (W' : WX) (pn : List (Addr × Obj)) (xe : Value → Shared → Prop), Takes (X.tr pn xe) W' → PassesOwn (model X.prog X.w) X.A X.env xe → DSs (X.tr pn xe) W' body p)
    (hsu : DH X i (b₀ :: suite) h) : DS X W (.Try body [.ExceptHandler (some (.Name x np)) (some n) (b₀ :: suite) pos'] [] [] pos) (sTry cs i p h) := by
  refine ⟨⟨_, ps_try_as (tb := fun W' => sCan X W' p)
    (ts := fun a cls d D σ H => ∃ (C : Ctx) (r : Env) (F : AP) (er : Err) (Q : DV → Prop), C.K = X.K ∧ Rep C r σ H F ∧ σ[i]? = some (some (.ref a)) ∧ ErrR X.mg X.K H F cls d er ∧ h er Q ∧ ∀ v H' F' dv, Fin C H' F' → RetR C H' F' v dv → Q dv → D.rt v H')
    hs hf hN hi hln hc tk (fun W' pn xe t1 p1 => (hb W' pn xe t1 p1).can rfl rfl rfl) (fun a oe cls d pn hz hfl => ?_), fun C r σ H F E D' hK R k hq => ?_⟩⟩
  · obtain ⟨t, ps, ent⟩ := hsu.ex a oe cls d pn hz hfl
    exact ⟨fun pins s σ H D I ⟨C, r, F, er, Q, hK, R, hσ, hE, hh, k⟩ => ps.run pins s σ H D I (ent C r σ H F er Q D hK R hσ hE hh k)⟩
  · refine ⟨C, r, F, { E with ex := fun er r1 => match cs.lookup er.cls with
      | some true => i < r1.length ∧ h er E.rt
      | some false => E.ex er r1
      | none => False }, hK, R, ⟨k.nx, k.rt, k.bk, k.ct, fun σ' => ⟨(k.ex σ').w, fun er r' H' F' cls d R' hE q => ?_⟩⟩, hq⟩
    obtain ⟨Cc, m1, rfl, _⟩ := id hE
    cases hl : cs.lookup er.cls with
    | none => simp only [hl] at q
    | some b =>
      simp only [hl] at q
      refine ⟨b, hcs _ _ hl _ m1, fun hb a na => ?_, fun hb => ?_⟩
      · subst hb
        have hlt : i < σ'.length := R'.len ▸ q.1
        exact ⟨C, putO r' i none, F', er, E.rt, hK, R'.any1, by rw [List.getElem?_set_self hlt], hK ▸ hE, q.2, fun v H2 F2 dv f2 r2 q2 => k.rt v H2 F2 dv f2 r2 q2⟩
      · subst hb
        exact (k.ex σ').go er r' H' F' _ _ R' hE q
end
end DL

/-! DL: i *= j -/
namespace DL
open PySem PySem.Spec L2 PyProof.Rows
def dMulI : Op2 := fun x y Q => match x, y with
  | .int a, .int b => mulOk a b ∧ Q (.dat (.int (a * b)))
  | _, _ => False
def ipM : TIp := fun x y H Q => ∃ i j, x = .int i ∧ y = .int j ∧ mulOk i j ∧ Q (.int (i * j)) H
theorem ip_mul {X : Cx} : PIp X .Mult ipM := by
  intro pins s σ H x y v u Q I r1 r2 h
  obtain ⟨i, j, e1, e2, hm, q⟩ := h
  subst e1; subst e2
  obtain ⟨t, rfl⟩ := r1
  obtain ⟨t', rfl⟩ := r2
  exact imul_int ⟨.int _, H, I.tok _, ⟨_, rfl⟩, q⟩ ((mulOk_of hm).elim CMul.ok CMulW.ok)
theorem sem_ipM {K : PySem.W.Frag} : Sem2 K ipM dMulI := by
  intro C r σ H F x y dx dy Q QV hK R hx hy hq k
  unfold dMulI at hq
  split at hq
  · cases hx.int; cases hy.int
    exact ⟨_, _, rfl, rfl, hq.1, kq_dat k R (.int _) hq.2⟩
  · exact hq.elim
end DL

/-! DL: what is shown of an own error's class. -/
namespace DL
open PySem PySem.Spec L2 PyProof.Rows
open NdefX (NF)
def clsBody : Stmt → List Stmt
  | .ClassDef _ _ _ body _ _ _ _ _ _ _ => body
  | _ => []
def initOf (q : Str) (st : Stmt) (cc cda : Addr) : NF := ⟨"__init__", q, defArgs st, defBody st, defScope st, [(("__class__" : Str), cc)], cda⟩
/-- an own error: its class at C, st its __init__ -/
structure ErrT (P : Program) (K : PySem.W.Frag) (mg : Str → Option Value) (x q : Str) (st : Stmt) (C : Addr) : Prop where
  g : mg x = some (.ref C)
  ex : ∃ (f cc cda : Addr) (kV dc pm ct : Value) (an : Option Addr), SupC P K mg (initOf q st cc cda) f C cc "self" ∧
    SupFn K (initOf q st cc cda) f (PySem.W.fnX "__init__" q (defArgs st) (defBody st) (defScope st) [(("__class__" : Str), cc)] .none kV dc pm an (.ref cda) ct) ∧
    PySem.W.findIn K (.ref C) "__init__" = some (some (.ref f)) ∧ PySem.W.typeIn K (.ref f) = some (.type "function")
  xf : XfC K C
theorem errT_mk {P : Program} {K : PySem.W.Frag} {mg : Str → Option Value} {h : Heap} {x q : Str} {st : Stmt} {C f cc cda : Addr} {oc kV dc pm ct c1 g1 : Value} {od an c2 g2 dd : Option Addr} {osl c3 g3 : Array (Option Value)} {vs : Array Value} {file : Str} {tf : Tok} {ar : Arg} {cd : ClassData}
    {nm qn : Str} {N : Addr} {bs bm sub : List Value} {sn : List Str} {ab : Bool} {col : Option Bool} {k0 k1 k2 k3 k5 : Option Value}
    (X : K.In h) (G : h.Ns mainGlobals mg)
    (a : PySem.W.nsIn K mainGlobals x = some (some (.ref C))) (b : PySem.W.findIn K (.ref C) "__init__" = some (some (.ref f))) (tI : PySem.W.typeIn K (.ref f) = some (.type "function"))
    (l : K.lookup f = some ⟨oc, od, .func (PySem.W.fnX "__init__" q (defArgs st) (defBody st) (defScope st) [(("__class__" : Str), cc)] .none kV dc pm an (.ref cda) ct), osl⟩)
    (cI : PySem.W.codeIn K (.ref cda) q = true) (lc : K.lookup cda = some ⟨c1, c2, .fields vs, c3⟩) (hv : vs[2]? = some (.str file tf)) (hf : ((P.main.file : Str) == file) = true)
    (lg : K.lookup cc = some ⟨g1, g2, .cell (some (.ref C)), g3⟩) (hcl : PySem.W.clsIn K C = some cd) (hs : PySem.W.mroIn K C (.ref C) = some true) (noS : PySem.W.nsIn K mainGlobals "super" = some none) (any : PySem.W.nsIn K cStatics "thirdparty.any" = some none)
    (ini : PySem.W.ks_superIn K C C "__init__" = some (some (.builtin "ValueError.__init__"))) (isV : PySem.W.subIn K (.ref C) (.type "ValueError") = some true)
    (lC : K.lookup C = some (excClassObj nm qn C N bs bm true sn sub ab col dd k0 k1 k2 k3 k5 "ValueError.__new__")) (rv : PySem.HandSPX.refsVE bm = true) (sa : PySem.W.findIn K (.ref C) "__setattr__" = some (some (.builtin "object.__setattr__")))
    (exC : PySem.W.subIn K (.ref C) (.type "BaseException") = some true) (tyC : PySem.W.typeIn K (.ref C) = some (.type "type")) (kC : PySem.W.keepIn K (.ref C) = true)
    (ga : PySem.W.findIn K (.ref C) "__getattribute__" = some (some (.builtin "BaseException.__getattribute__"))) (gg : PySem.W.findIn K (.ref C) "__getattr__" = some none) (hd : PySem.W.hasDictIn K C = true)
    (har : ((defArgs st).posonlyargs ++ (defArgs st).args).head? = some ar) (hself : ar.arg = "self") (kS : (defScope st).names.lookup ("super" : Str) = some .globalImplicit) (kCl : (defScope st).names.lookup ("__class__" : Str) = some .free)
    (kL : (defScope st).names.lookup ("self" : Str) = some .local) (top : (P.main.scope.names.lookup ("super" : Str)).isSome = false) : ErrT P K mg x q st C where
  g := PySem.W.mg_of X G a
  ex := ⟨f, cc, cda, kV, dc, pm, ct, an, ⟨rfl, ⟨_, _, _, _, ar, l, har, hself⟩, ⟨_, _, _, _, _, _, lc, hv, hf⟩, ⟨_, _, _, lg⟩, ⟨_, hcl⟩, hs, PySem.W.mg_none_of X G noS, kS, kCl, kL, top, any, ini, isV,
    ⟨⟨nm, qn, N, bs, bm, sn, sub, ab, col, dd, k0, k1, k2, k3, k5, lC, rv⟩, sa, exC, tyC, kC⟩⟩, ⟨_, _, _, _, _, _, _, _, rfl, l, cI⟩, b, tI⟩
  xf := ⟨ga, gg, exC, hd⟩

open NdefX (NScope)
/-- X(e, f) of an own error with two fields -/
theorem mk2 {X : Cx} {x q n1 n2 : Str} {st : Stmt} {C : Addr} {e : Expr} {es : List Expr} {p pos p0 p1 p2 p3 p4 q1 q2 q3 q4 q5 q6 q7 q8 q9 q10 : Pos} {pl : PySem.Env → Sem Bool} (T : ErrT X.prog X.K X.mg x q st C)
    (S : NScope ["self", n1, n2, "__class__"] ["self", n1, n2] [("__class__" : Str)] (defScope st))
    (hB : defBody st = [.Expr (.Call (.Attribute (.Call (.Name "super" p0) [] [] p1) "__init__" p2) [.Name n1 q1, .Name n2 q10] [] p3) p4, .Assign [.Attribute (.Name "self" q2) n1 q3] (.Name n1 q4) q5, .Assign [.Attribute (.Name "self" q6) n2 q7] (.Name n2 q8) q9])
    (B : ∀ cc cda f, SupB (initOf q st cc cda) f (.Name n1 q1) [.Name n2 q10] p0 p1 p2 p3 p4 pl)
    (no1 : PySem.W.findIn X.K (.ref C) n1 = some none) (no2 : PySem.W.findIn X.K (.ref C) n2 = some none)
    (hb : ∀ (cc : Addr) (kV dc pm ct cdv : Value) (an : Option Addr) (us : List Value), us.length = 3 → bindArgs (PySem.W.fnX "__init__" q (defArgs st) (defBody st) (defScope st) [(("__class__" : Str), cc)] .none kV dc pm an cdv ct) ⟨us, []⟩ = pure ([("self" : Str), n1, n2].zip us))
    (hr : Room 2 X.A) (hg : Gl X x)
    (d1 : (n1 == ("__debug__" : Str)) = false := by decide) (c1 : (n1 == ("__classdict__" : Str)) = false := by decide) (d2 : (n2 == ("__debug__" : Str)) = false := by decide) (c2 : (n2 == ("__classdict__" : Str)) = false := by decide) (hdb : (x == ("__debug__" : Str)) = false := by decide)
    (he : starEach (e :: es) X.env = (false, eval e X.env) :: starEach es X.env := by rfl) (hpl : (backTo pos (starEach es X.env)).any (·.1) = false := by rfl) :
    ∀ ta, PA X (e :: es) ta → PMk X (.Call (.Name x p) (e :: es) [] pos) (tMkO C (spI C [n1, n2]) [] ta) := fun ta ha => by
  obtain ⟨f, cc, cda, kV, dc, pm, ct, an, Sc, Sf, iC, tI⟩ := T.ex
  have F1 : FnOk X.prog X.w X.K X.mg X.base (L2.CX X.prog X.w) 1 f _ ["self", n1, n2] (spI C [n1, n2]) :=
    init2 (k := 0) Sc Sf S hB (B cc cda f) no1 no2 (by decide) (by decide) d1 c1 d2 c2
  exact pmk_oex Sc.oex iC tI F1 hr (.all (fun us hl => hb cc kV dc pm ct (.ref cda) an us hl)) .nil passL hg T.g ha hdb he hpl
/-- X(e) of an own error with one field -/
theorem mk1 {X : Cx} {x q n1 : Str} {st : Stmt} {C : Addr} {e : Expr} {es : List Expr} {p pos p0 p1 p2 p3 p4 q1 q2 q3 q4 q5 : Pos} {pl : PySem.Env → Sem Bool} (T : ErrT X.prog X.K X.mg x q st C)
    (S : NScope ["self", n1, "__class__"] ["self", n1] [("__class__" : Str)] (defScope st))
    (hB : defBody st = [.Expr (.Call (.Attribute (.Call (.Name "super" p0) [] [] p1) "__init__" p2) [.Name n1 q1] [] p3) p4, .Assign [.Attribute (.Name "self" q2) n1 q3] (.Name n1 q4) q5])
    (B : ∀ cc cda f, SupB (initOf q st cc cda) f (.Name n1 q1) [] p0 p1 p2 p3 p4 pl) (no1 : PySem.W.findIn X.K (.ref C) n1 = some none)
    (hb : ∀ (cc : Addr) (kV dc pm ct cdv : Value) (an : Option Addr) (us : List Value), us.length = 2 → bindArgs (PySem.W.fnX "__init__" q (defArgs st) (defBody st) (defScope st) [(("__class__" : Str), cc)] .none kV dc pm an cdv ct) ⟨us, []⟩ = pure ([("self" : Str), n1].zip us))
    (hr : Room 2 X.A) (hg : Gl X x)
    (d1 : (n1 == ("__debug__" : Str)) = false := by decide) (c1 : (n1 == ("__classdict__" : Str)) = false := by decide) (hdb : (x == ("__debug__" : Str)) = false := by decide)
    (he : starEach (e :: es) X.env = (false, eval e X.env) :: starEach es X.env := by rfl) (hpl : (backTo pos (starEach es X.env)).any (·.1) = false := by rfl) :
    ∀ ta, PA X (e :: es) ta → PMk X (.Call (.Name x p) (e :: es) [] pos) (tMkO C (spI C [n1]) [] ta) := fun ta ha => by
  obtain ⟨f, cc, cda, kV, dc, pm, ct, an, Sc, Sf, iC, tI⟩ := T.ex
  have F1 : FnOk X.prog X.w X.K X.mg X.base (L2.CX X.prog X.w) 1 f _ ["self", n1] (spI C [n1]) :=
    init1 (k := 0) Sc Sf S hB (B cc cda f) no1 (by decide) (by decide) d1 c1
  exact pmk_oex Sc.oex iC tI F1 hr (.all (fun us hl => hb cc kV dc pm ct (.ref cda) an us hl)) .nil passL hg T.g ha hdb he hpl
theorem tr_gd {g : Bool} {X : Cx} {W : WX} {pn : List (Addr × Obj)} {xe : Value → Shared → Prop} (_ : Takes (X.tr pn xe) W) (h : g = true → X.A.guards = some []) : g = true → (X.tr pn xe).A.guards = some [] := h
theorem tr_room {X : Cx} {W : WX} {k : Nat} {pn : List (Addr × Obj)} {xe : Value → Shared → Prop} (_ : Takes (X.tr pn xe) W) (h : Room k X.A) : Room k (X.tr pn xe).A := h
/-- which errors a clause takes -/
def Takn (K : PySem.W.Frag) (mg : Str → Option Value) (cv : Value) (cs : List (Str × Bool)) : Prop := ∀ y b, cs.lookup y = some b → ∀ Cc, mg y = some (.ref Cc) → PySem.W.exmOne K (.ref Cc) cv = some b
theorem tk_nil {K : PySem.W.Frag} {mg : Str → Option Value} {cv : Value} : Takn K mg cv [] := fun _ _ h => by cases h
theorem tk_cons {K : PySem.W.Frag} {mg : Str → Option Value} {cv : Value} {cs : List (Str × Bool)} {x : Str} {b : Bool} {C : Addr} (g : mg x = some (.ref C)) (e : PySem.W.exmOne K (.ref C) cv = some b) (h : Takn K mg cv cs) : Takn K mg cv ((x, b) :: cs) := fun y c hl Cc m => by
  by_cases q : y = x
  · subst q
    simp [List.lookup] at hl
    subst hl
    have m' := m.symm.trans g
    cases m'
    exact e
  · have qq : (y == x) = false := by simpa using q
    simp [List.lookup, qq] at hl
    exact h y c hl Cc m
end DL

/-! DL: comprehensions with two fors; starred parts of a display. -/
namespace DL
open PySem PySem.Spec PyProof.Rows L2
/-! ### (*e, ..) -/
/-- the items of e ahead of the others -/
def aStar (f : TX) (t : AX) : AX := fun X r Q => f X r fun dv r1 => match dv.toD with
  | some (.tuple ds) => t X r1 fun vs r2 => Q (ds.map .dat ++ vs) r2
  | some (.list ds) => t X r1 fun vs r2 => Q (ds.map .dat ++ vs) r2
  | _ => False
section
variable (X : Cx) (W : WX)
structure DAs (es : List Expr) (f : AX) : Prop where
  ex : ∃ t, PA X es t ∧ ∀ (C : Ctx) (r : Env) (σ : L2.St) (H : Hp) (F : AP) (Q : List DV → Env → Prop) (Xk : XW) (QV : List V → Hp → Prop), C.K = X.K → Rep C r σ H F → Link X W Xk C σ → f Xk r Q →
    (∀ vs H' F' ds r', Rep C r' σ H' F' → ArgR C.K H' F' C.b vs ds → Q ds r' → QV vs H') → t σ H QV
end
theorem ArgR.dats {K : PySem.W.Frag} {H : Hp} {F : AP} {b : Option Addr} {vs : List V} {gs : List DV} : ∀ {xs : List V} {ds : List D}, DpFs K H F xs ds → ArgR K H F b vs gs → ArgR K H F b (xs ++ vs) (ds.map .dat ++ gs)
  | _, _, .nil, h => h
  | _, _, .cons h hs, k => .dat h (ArgR.dats hs k)
section
variable {X : Cx} {W : WX} {e a b c : Expr} {es : List Expr} {f h k : TX} {pos : Pos}
theorem DA.s {u : AX} (h : DA X W es u) : DAs X W es u := by
  obtain ⟨t, pa, ent⟩ := h.ex
  exact ⟨⟨t, pa, fun C r σ H F Q Xk QV hK R L hf k => ent C r σ H F Q Xk QV hK R L hf fun vs H' F' ds r' _ => k vs H' F' ds r'⟩⟩
theorem das_cons {t : AX} (p : DE X W e f) (q : DAs X W es t) (hs : starEach (e :: es) X.env = (false, eval e X.env) :: starEach es X.env := by rfl) : DAs X W (e :: es) (aCons f t) := by
  obtain ⟨u, pe, ent⟩ := p.ex
  obtain ⟨w, pa, ena⟩ := q.ex
  refine ⟨⟨_, pa_cons pe pa hs, fun C r σ H F Q Xk QV hK R L hf k => ?_⟩⟩
  refine ent C r σ H F _ Xk _ hK R L hf fun v H1 F1 dv r1 R1 G1 q1 => ?_
  cases G1 with
  | dat s =>
    refine ena (C.up H1 F1 noT) r1 σ H1 F1 _ Xk _ hK R1.up0 (L.up R1) q1 fun vs H2 F2 ds r2 R2' A2 q2 => ?_
    exact k _ H2 F2 _ r2 (R1.down R2') (.dat (s.mono R2'.later) A2) q2
  | own h1 h2 h3 h4 h5 h6 =>
    have R1f := R1.freezeT h1 h3 h4 h5 h6
    have s : DpF C.K H1 (fun x => F1 x ∨ x = _) (.ref _) (.list _) := .lst ⟨.inr rfl, h1⟩ (h2.mono later_fr)
    refine ena (C.up H1 _ noT) r1 σ H1 _ _ Xk _ hK R1f.up0 (L.up R1f) q1 fun vs H2 F2 ds r2 R2' A2 q2 => ?_
    exact k _ H2 F2 _ r2 (R1f.down R2') (.dat (s.mono R2'.later) A2) q2
  | bag s =>
    refine ena (C.up H1 F1 noT) r1 σ H1 F1 _ Xk _ hK R1.up0 (L.up R1) q1 fun vs H2 F2 ds r2 R2' A2 q2 => ?_
    exact k _ H2 F2 _ r2 (R1.down R2') (.bag s A2) q2
  | dct g1 g2 g3 g4 g5 =>
    obtain ⟨rfl, q1⟩ := q1
    rcases g1 with ⟨_, ps, h1, h2⟩ | ⟨z, _⟩
    · have R1f := R1.freezeG (by rw [h1]; simp) (fun _ z => by rw [h1] at z; cases z) g2 g3 g4 g5
      have s : DpF C.K H1 (fun x => F1 x ∨ x = _) (.ref _) (.dict _) := .dct ⟨.inr rfl, h1⟩ ((h2.mono later_fr).ks)
      refine ena (C.up H1 _ noT) r1 σ H1 _ _ Xk _ hK R1f.up0 (L.up R1f) q1 fun vs H2 F2 ds r2 R2' A2 q2 => ?_
      exact k _ H2 F2 _ r2 (R1f.down R2') (.dat (s.mono R2'.later) A2) q2
    · cases z
  | rng _ => exact q1.elim
  | nd s n =>
    refine ena (C.up H1 F1 noT) r1 σ H1 F1 _ Xk _ hK R1.up0 (L.up R1) q1 fun vs H2 F2 ds r2 R2' A2 q2 => ?_
    exact k _ H2 F2 _ r2 (R1.down R2') (.dat (s.mono R2'.later) A2) q2
theorem das_star {t : AX} {p2 : Pos} (p : DE X W e f) (q : DAs X W es t) (hs : starEach (.Starred e p2 :: es) X.env = (true, eval e X.env) :: starEach es X.env := by rfl) : DAs X W (.Starred e p2 :: es) (aStar f t) := by
  obtain ⟨u, pe, ent⟩ := p.ex
  obtain ⟨w, pa, ena⟩ := q.ex
  refine ⟨⟨_, StX.pa_star pe pa hs, fun C r σ H F Q Xk QV hK R L hf k => ?_⟩⟩
  refine ent C r σ H F _ Xk _ hK R L hf fun v H1 F1 dv r1 R1 G1 q1 => ?_
  have key : ∀ (a : Addr) (xs : List V) (ds : List D), v = .ref a → (SqT X.K H1 a xs ∨ SqL X.K H1 a xs) → DpFs C.K H1 F1 xs ds → (t Xk r1 fun vs r2 => Q (ds.map .dat ++ vs) r2) → ∃ p xs, v = V.ref p ∧ (SqT X.K H1 p xs ∨ SqL X.K H1 p xs) ∧ w σ H1 fun ys H2 => QV (xs ++ ys) H2 := by
    intro a xs ds ev hx hd q
    refine ⟨a, xs, ev, hx, ?_⟩
    refine ena (C.up H1 F1 noT) r1 σ H1 F1 _ Xk _ hK R1.up0 (L.up R1) q fun vs H2 F2 ds2 r2 R2' A2 q2 => ?_
    exact k _ H2 F2 _ r2 (R1.down R2') (ArgR.dats (hd.mono R2'.later) A2) q2
  have tup : ∀ (ds : List D), DpF C.K H1 F1 v (.tuple ds) → (t Xk r1 fun vs r2 => Q (ds.map .dat ++ vs) r2) → ∃ p xs, v = V.ref p ∧ (SqT X.K H1 p xs ∨ SqL X.K H1 p xs) ∧ w σ H1 fun ys H2 => QV (xs ++ ys) H2 := by
    intro ds s q
    cases s with
    | tup g gs => exact key _ _ _ rfl (.inl (hK ▸ g.elim (fun p => .inl p.2) fun p => p.sq H1)) gs q
  cases G1 with
  | dat s =>
    rename_i d
    cases d with
    | tuple ds => exact tup ds s q1
    | list ds =>
      cases s with
      | lst g gs => exact key _ _ _ rfl (.inr (.inl (.inl g.2))) gs q1
    | none => exact q1.elim
    | bool _ => exact q1.elim
    | int _ => exact q1.elim
    | str _ => exact q1.elim
    | dict _ => exact q1.elim
  | own h1 h2 h3 h4 h5 h6 => exact key _ _ _ rfl (.inr (.inl (.inl h1))) h2 q1
  | bag s => exact q1.elim
  | dct _ _ _ _ _ => exact q1.elim
  | nd s n => exact tup _ s q1
  | rng n => exact q1.elim
theorem de_tupS {t : AX} {x1} (p : DAs X W es t) : DE X W (.Tuple es x1 pos) (xTup t) := by
  obtain ⟨u, pa, ent⟩ := p.ex
  refine ⟨⟨_, pe_tup pa, fun C r σ H F Q Xk QV hK R L hf k => ?_⟩⟩
  refine ent C r σ H F _ Xk _ hK R L hf fun vs H1 F1 ds r1 R1 A1 q1 => ?_
  split at q1
  · rename_i es' ee
    have hd := A1.all ee
    refine ⟨by rw [line_eq, hd.length]; exact q1.1, fun p hp => ?_⟩
    exact k _ _ _ _ r1 (R1.newF hp) (.dat (.tup (.inl ⟨.inr rfl, .inl upd_same⟩) (hd.mono (later_new R1 hp)))) q1.2
  · exact q1.elim
theorem de_lstS {t : AX} (p : DAs X W es t) : DE X W (.List es pos) (xLst t) := by
  obtain ⟨u, pa, ent⟩ := p.ex
  refine ⟨⟨_, pe_lst pa, fun C r σ H F Q Xk QV hK R L hf k => ?_⟩⟩
  refine ent C r σ H F _ Xk _ hK R L hf fun vs H1 F1 ds r1 R1 A1 q1 => ?_
  split at q1
  · rename_i es' ee
    have hd := A1.all ee
    refine ⟨by rw [line_eq, hd.length]; exact q1.1, fun p hp => ?_⟩
    obtain ⟨R2, G2, _⟩ := R1.freshOwn hp hd
    exact k _ _ _ _ r1 R2 G2 q1.2
  · exact q1.elim
end
/-! ### two fors -/
/-- the second for, within a turn of the first -/
def lcL2 (vs vs1 : List Nat) (g : TG) (t : TB) (s1 : SX) (g1 : TG) (t1 : TB) (f : TX) : List D → List D → Env → (List D → Env → Prop) → Prop
  | [], acc, r, Q => Q acc r
  | x :: xs, acc, r, Q => g (.dat x) r fun r1 => t noX r1 fun b r2 => if b = true then
      s1 noX r2 fun ds r3 => (∀ i ∈ vs1, notOwn r3 i) ∧ lcL vs1 g1 t1 f ds acc (clrs r3 vs1) fun acc2 r4 => lcL2 vs vs1 g t s1 g1 t1 f xs acc2 (clrs r4 vs) Q
    else lcL2 vs vs1 g t s1 g1 t1 f xs acc (clrs r2 vs) Q
def xLc2 (vs vs1 : List Nat) (s : SX) (g : TG) (t : TB) (s1 : SX) (g1 : TG) (t1 : TB) (f : TX) : TX := fun X r Q => s X r fun ds r1 =>
  (∀ i ∈ vs, notOwn r1 i) ∧ lcL2 vs vs1 g t s1 g1 t1 f ds [] (clrs r1 vs) fun acc r2 => Q (.own acc) (back r1 r2 vs)
section
variable {X : Cx} {W : WX} {tg iter elt e a b c : Expr} {es : List Expr} {f h : TX} {pos : Pos} {st : Stmt}
/-- what no slot holds is held by no slot behind the wiping -/
theorem no_wiped {C : Ctx} {r : Env} {σ : L2.St} {H : Hp} {F : AP} {Dl : Addr} {o : List V} (R : Rep C r σ H F) (hD : H Dl = some (.lst o)) (nb : C.b ≠ some Dl) (no : ∀ i es, sl r i = some es → es.hold = true → σ[i]? ≠ some (some (.ref Dl))) (vs : List Nat) :
    ∀ i es, sl (clrs r vs) i = some es → es.hold = true → (L2.wipe σ vs)[i]? ≠ some (some (.ref Dl)) := by
  have Ru := R.up (T := fun z => z = Dl) fun z e => by
    subst e
    exact ⟨by rw [hD]; simp, nb, no, nt_lst hD⟩
  exact fun i es e1 o1 e2 => ((Ru.wipe vs).ownz i es Dl e1 o1 e2).1 (.inr (.inr rfl))
/-- the inner loop, from any state in which the new list waits -/
theorem lc_in {K : PySem.W.Frag} {ww : World} {mg : Str → Option Value} {vs ws : List Nat} {g : TG} {t : TB} {f : TX} (hw : ∀ i ∈ ws, i ∈ vs)
    {tt : L2.TT} (htt : ∀ (C : Ctx) (r : Env) (σ : L2.St) (H : Hp) (F : AP) (Q : Bool → Env → Prop) (QV : Bool → Hp → Prop), C.K = K → C.w = ww → Rep C r σ H F → t noX r Q → (∀ b H' F' r', Rep C r' σ H' F' → Q b r' → QV b H') → tt σ H QV)
    (C : Ctx) (r1 : Env) (σ : L2.St) (H1 : Hp) (F1 : AP) (Q : List D → Env → Prop) (Nx : Hp → Prop) (J : It) (ds : List D) (Dl : Addr) (xs0 : List V) (acc0 : List D) (hK : C.K = K) (hw2 : C.w = ww) (R1 : Rep C r1 σ H1 F1) (w : WalkZ C J ds H1 F1)
    (hD : H1 Dl = some (.lst xs0)) (hacc0 : DpFs C.K H1 F1 xs0 acc0) (nfD : ¬ F1 Dl) (nzD : ¬ C.Z Dl) (nbag : C.b ≠ some Dl) (no : ∀ i es, sl r1 i = some es → es.hold = true → σ[i]? ≠ some (some (.ref Dl)))
    (q1 : lcL vs g t f ds acc0 (clrs r1 vs) Q)
    (k : ∀ H' F' r' acc' xs', Rep C r' (L2.wipe σ vs) H' F' → Later H1 F1 H' F' → H' Dl = some (.lst xs') → DpFs C.K H' F' xs' acc' → ¬ F' Dl → (∀ i es, sl r' i = some es → es.hold = true → (L2.wipe σ vs)[i]? ≠ some (some (.ref Dl))) → Q acc' r' → Nx H') :
    ∃ W1 : Nat → Nat → Hp → Prop, (∃ m, W1 0 m H1) ∧ ∀ i m H, W1 i m H →
      (J.stop i H ∧ Nx H) ∨ (J.go i H ∧ ∃ Nx1 : Hp → Prop, (∀ H', Nx1 H' → ∃ k', k' < m ∧ W1 (i + 1) k' H') ∧ ∀ x H', J.yld i H x H' → gCan K ws g x (L2.wipe σ vs) H' fun σ3 H5 => L2.wipe σ3 vs = L2.wipe σ vs ∧ tt σ3 H5 fun b H6 =>
        if b = true then tCan K ww mg (fun _ _ _ _ => False) f σ3 H6 fun y H7 => ∃ acc, H7 Dl = some (.lst acc) ∧ acc.length < sizeLine ∧ Nx1 (upd H7 Dl (.lst (acc ++ [y]))) else Nx1 H6) := by
  refine ⟨fun i m H2 => m = ds.length - i ∧ i ≤ ds.length ∧ ∃ r2 F2 acc xs, Rep C r2 (L2.wipe σ vs) H2 F2 ∧ Later H1 F1 H2 F2 ∧ H2 Dl = some (.lst xs) ∧ DpFs C.K H2 F2 xs acc ∧ ¬ F2 Dl ∧
    (∀ i es, sl r2 i = some es → es.hold = true → (L2.wipe σ vs)[i]? ≠ some (some (.ref Dl))) ∧ lcL vs g t f (ds.drop i) acc r2 Q, ⟨_, rfl, Nat.zero_le _, _, F1, acc0, xs0, R1.wipe vs, Later.refl, hD, hacc0, nfD, no_wiped R1 hD nbag no vs, q1⟩, ?_⟩
  rintro i m H2 ⟨rfl, hi, r2, F2, acc, xs, R2, l2, hDl, hacc, nf2, no2, q2⟩
  by_cases hlt : i < ds.length
  · refine .inr ⟨w.goes i H2 F2 hlt l2 (fun z hz => (R2.keep z hz).1), fun H3 => ∃ r3 F3 acc3 xs3, Rep C r3 (L2.wipe σ vs) H3 F3 ∧ Later H1 F1 H3 F3 ∧ H3 Dl = some (.lst xs3) ∧ DpFs C.K H3 F3 xs3 acc3 ∧ ¬ F3 Dl ∧
      (∀ i es, sl r3 i = some es → es.hold = true → (L2.wipe σ vs)[i]? ≠ some (some (.ref Dl))) ∧ lcL vs g t f (ds.drop (i + 1)) acc3 r3 Q,
      fun H3 ⟨r3, F3, acc3, xs3, z⟩ => ⟨ds.length - (i + 1), by omega, rfl, hlt, r3, F3, acc3, xs3, z⟩, fun x H3 y => ?_⟩
    obtain ⟨F3, d, ed, hd, l3, s3, n3⟩ := w.yields i H2 F2 x H3 hlt R2.ftrk l2 (fun z hz => (R2.keep z hz).1) y
    have R3 := R2.grow l3 s3 n3
    have hDl3 := s3 _ _ hDl
    have nf3 : ¬ F3 Dl := fun z => (n3 Dl z).elim nf2 fun q => by rw [hDl] at q; cases q.1
    have ei : ds.drop i = d :: ds.drop (i + 1) := by
      rw [List.drop_eq_getElem_cons hlt]
      have := List.getElem?_eq_getElem hlt
      rw [ed] at this
      cases this
      rfl
    rw [ei] at q2
    have R3u := R3.up (T := fun z => z = Dl) fun z e => by
      subst e
      exact ⟨by rw [hDl3]; simp, nbag, no2, nt_lst hDl3⟩
    refine ⟨C.up H3 F3 fun z => z = Dl, r2, F3, .dat d, _, hK, R3u, .dat hd, q2, fun σ4 r4 R4 w4 q4 => ?_⟩
    have hwp : L2.wipe σ4 vs = L2.wipe σ vs := wipe_wr hw w4
    refine ⟨hwp, ?_⟩
    refine htt (C.up H3 F3 fun z => z = Dl) r4 σ4 H3 F3 _ _ hK hw2 R4 q4 fun bb H5 F5 r5 R5 q5 => ?_
    have fin : ∀ {H6 : Hp} {F6 : AP} {r6 : Env} {xs6 : List V} {acc6 : List D}, Rep (C.up H3 F3 fun z => z = Dl) r6 σ4 H6 F6 → Rep C (clrs r6 vs) (L2.wipe σ vs) H6 F6 ∧ Later H1 F1 H6 F6 ∧ H6 Dl = some (.lst xs) ∧ DpFs C.K H6 F6 xs acc ∧ ¬ F6 Dl ∧
        (∀ i es, sl (clrs r6 vs) i = some es → es.hold = true → (L2.wipe σ vs)[i]? ≠ some (some (.ref Dl))) := fun {H6 F6 r6 _ _} R6 => by
      have R6w := (R3.down R6).wipe vs
      have R6w' := R6.wipe vs
      rw [hwp] at R6w R6w'
      obtain ⟨e6, n6⟩ := R6.still rfl nf3
      exact ⟨R6w, (l2.trans l3).trans R6.later, e6.trans hDl3, (hacc.mono l3).mono R6.later, n6, fun i es e1 o1 e2 => (R6w'.ownz i es Dl e1 o1 e2).1 (.inr (.inr rfl))⟩
    cases bb with
    | true =>
      refine ⟨C.up H3 F3 fun z => z = Dl, r5, F5, noX, _, hK, R5, ⟨hw2, fun _ _ _ _ _ _ _ _ z => z.elim⟩, q5, fun v H6 F6 dv r6 R6 G6 q6 => ?_⟩
      split at q6
      · rename_i d' ed'
        obtain ⟨F7, R7, s7, l7⟩ := G6.froz R6 ed'
        obtain ⟨R8, l8, e8, h8, n8, o8⟩ := fin (xs6 := xs) (acc6 := acc) R7
        refine ⟨xs, e8, by rw [line_eq, h8.length]; exact q6.1, ?_⟩
        obtain ⟨R9, l9⟩ := R8.updT (o := .lst (xs ++ [v])) n8 nzD nbag o8 (free_lst e8)
        exact ⟨_, F7, _, _, R9, l8.trans l9, upd_same, (h8.mono l9).app (.cons (s7.mono l9) .nil), n8, o8, q6.2⟩
      · exact q6.elim
    | false =>
      obtain ⟨R8, l8, e8, h8, n8, o8⟩ := fin (xs6 := xs) (acc6 := acc) R5
      exact ⟨_, F5, _, _, R8, l8, e8, h8, n8, o8, q5⟩
  · have ei : ds.length = i := by omega
    subst ei
    rw [List.drop_length] at q2
    exact .inl ⟨w.stops H2 F2 l2 (fun z hz => (R2.keep z hz).1), k H2 F2 r2 acc xs R2 l2 hDl hacc nf2 no2 q2⟩
theorem wipe_sub {σ σ4 : L2.St} {vs vs1 : List Nat} (hv : ∀ i ∈ vs1, i ∈ vs) (h : L2.wipe σ4 vs = L2.wipe σ vs) : L2.wipe (L2.wipe σ4 vs1) vs = L2.wipe σ vs := by
  rw [← h]
  apply List.ext_getElem?
  intro i
  rw [wipe_at, wipe_at, wipe_at, L2.wipe_length]
  by_cases h1 : i ∈ vs ∧ i < σ4.length
  · rw [if_pos h1, if_pos h1]
  · rw [if_neg h1, if_neg h1]
    by_cases h2 : i ∈ vs1 ∧ i < σ4.length
    · exact absurd ⟨hv i h2.1, h2.2⟩ h1
    · rw [if_neg h2]
theorem lc2_ent {vs vs1 ws ws1 : List Nat} {s s1 : SX} {g g1 : TG} {t t1 : TB} {f : TX} {wi wi1 : TI} {W : WX} (hw : ∀ i ∈ ws, i ∈ vs) (hw1 : ∀ i ∈ ws1, i ∈ vs1) (hv : ∀ i ∈ vs1, i ∈ vs)
    (enti : ∀ (C : Ctx) (r : Env) (σ : L2.St) (H : Hp) (F : AP) (Q : List D → Env → Prop) (Xk : XW) (RV : It → Hp → Prop), C.K = X.K → Rep C r σ H F → Link X W Xk C σ → s Xk r Q →
      (∀ J H' F' ds r', Rep C r' σ H' F' → WalkD C.K J ds H' F' → Q ds r' → RV J H') → wi σ H RV)
    {tt tt1 : L2.TT} (htt : ∀ (C : Ctx) (r : Env) (σ : L2.St) (H : Hp) (F : AP) (Q : Bool → Env → Prop) (QV : Bool → Hp → Prop), C.K = X.K → C.w = X.w → Rep C r σ H F → t noX r Q → (∀ b H' F' r', Rep C r' σ H' F' → Q b r' → QV b H') → tt σ H QV)
    (htt1 : ∀ (C : Ctx) (r : Env) (σ : L2.St) (H : Hp) (F : AP) (Q : Bool → Env → Prop) (QV : Bool → Hp → Prop), C.K = X.K → C.w = X.w → Rep C r σ H F → t1 noX r Q → (∀ b H' F' r', Rep C r' σ H' F' → Q b r' → QV b H') → tt1 σ H QV)
    (enti1 : ∀ (C : Ctx) (r : Env) (σ : L2.St) (H : Hp) (F : AP) (Q : List D → Env → Prop) (RV : It → Hp → Prop), C.K = X.K → C.w = X.w → Rep C r σ H F → s1 noX r Q →
      (∀ J H' F' ds r', Rep C r' σ H' F' → WalkD C.K J ds H' F' → Q ds r' → RV J H') → wi1 σ H RV) :
    ∀ (C : Ctx) (r : Env) (σ : L2.St) (H : Hp) (F : AP) (Q : DV → Env → Prop) (Xk : XW) (QV : VK), C.K = X.K → Rep C r σ H F → Link X W Xk C σ → xLc2 vs vs1 s g t s1 g1 t1 f Xk r Q → (∀ v H' F' dv r', Rep C r' σ H' F' → Res C r' σ H' F' v dv → Q dv r' → QV v H') →
      tLc2 wi (gCan X.K ws g) tt wi1 (gCan X.K ws1 g1) tt1 (tCan X.K X.w X.mg (fun _ _ _ _ => False) f) vs vs1 σ H QV := by
  intro C r σ H F Q Xk QV hK R L hf k
  have hw2 := L.w
  refine enti C r σ H F _ Xk _ hK R L hf fun J H1 F1 ds r1 R1 w0 ⟨no, q1⟩ => ?_
  have w := w0.z
  intro Dl hD
  have nbag : C.b ≠ some Dl := fun z => by
    obtain ⟨⟨_, _, _, _, _, h1, _⟩, _, _⟩ := R1.bag Dl z
    rw [hD] at h1; cases h1
  have nzD : ¬ C.Z Dl := fun z => (R1.keep Dl z).2 hD
  have nfD : ¬ F1 Dl := fun z => R1.ftrk Dl z hD
  obtain ⟨R2, G2, l2⟩ := (R1.wipe vs).freshOwn (xs := []) (ds := []) hD .nil
  have noD : ∀ i es, sl (clrs r1 vs) i = some es → es.hold = true → (L2.wipe σ vs)[i]? ≠ some (some (.ref Dl)) := by
    cases G2 with
    | own _ _ _ _ _ h6 => exact h6
  refine ⟨fun i m H2 => m = ds.length - i ∧ i ≤ ds.length ∧ ∃ r2 F2 acc xs, Rep C r2 (L2.wipe σ vs) H2 F2 ∧ Later H1 F1 H2 F2 ∧ H2 Dl = some (.lst xs) ∧ DpFs C.K H2 F2 xs acc ∧ ¬ F2 Dl ∧
    (∀ i es, sl r2 i = some es → es.hold = true → (L2.wipe σ vs)[i]? ≠ some (some (.ref Dl))) ∧ lcL2 vs vs1 g t s1 g1 t1 f (ds.drop i) acc r2 fun acc' r3 => Q (.own acc') (DL.back r1 r3 vs), ⟨_, rfl, Nat.zero_le _, _, F1, [], [], R2, l2, upd_same, .nil, nfD, noD, q1⟩, ?_⟩
  rintro i m H2 ⟨rfl, hi, r2, F2, acc, xs, R2, l2, hDl, hacc, nf2, no2, q2⟩
  by_cases hlt : i < ds.length
  · refine .inr ⟨w.goes i H2 F2 hlt l2 (fun z hz => (R2.keep z hz).1), fun H3 => ∃ r3 F3 acc3 xs3, Rep C r3 (L2.wipe σ vs) H3 F3 ∧ Later H1 F1 H3 F3 ∧ H3 Dl = some (.lst xs3) ∧ DpFs C.K H3 F3 xs3 acc3 ∧ ¬ F3 Dl ∧
      (∀ i es, sl r3 i = some es → es.hold = true → (L2.wipe σ vs)[i]? ≠ some (some (.ref Dl))) ∧ lcL2 vs vs1 g t s1 g1 t1 f (ds.drop (i + 1)) acc3 r3 fun acc' r4 => Q (.own acc') (DL.back r1 r4 vs),
      fun H3 ⟨r3, F3, acc3, xs3, z⟩ => ⟨ds.length - (i + 1), by omega, rfl, hlt, r3, F3, acc3, xs3, z⟩, fun x H3 y => ?_⟩
    obtain ⟨F3, d, ed, hd, l3, s3, n3⟩ := w.yields i H2 F2 x H3 hlt R2.ftrk l2 (fun z hz => (R2.keep z hz).1) y
    have R3 := R2.grow l3 s3 n3
    have hDl3 := s3 _ _ hDl
    have nf3 : ¬ F3 Dl := fun z => (n3 Dl z).elim nf2 fun q => by rw [hDl] at q; cases q.1
    have ei : ds.drop i = d :: ds.drop (i + 1) := by
      rw [List.drop_eq_getElem_cons hlt]
      have := List.getElem?_eq_getElem hlt
      rw [ed] at this
      cases this
      rfl
    rw [ei] at q2
    have R3u := R3.up (T := fun z => z = Dl) fun z e => by
      subst e
      exact ⟨by rw [hDl3]; simp, nbag, no2, nt_lst hDl3⟩
    refine ⟨C.up H3 F3 fun z => z = Dl, r2, F3, .dat d, _, hK, R3u, .dat hd, q2, fun σ4 r4 R4 w4 q4 => ?_⟩
    have hwp : L2.wipe σ4 vs = L2.wipe σ vs := wipe_wr hw w4
    refine ⟨hwp, ?_⟩
    refine htt (C.up H3 F3 fun z => z = Dl) r4 σ4 H3 F3 _ _ hK hw2 R4 q4 fun bb H5 F5 r5 R5 q5 => ?_
    -- behind whatever changed nothing of the new list
    have fin : ∀ {H6 : Hp} {F6 : AP} {r6 : Env}, Rep (C.up H3 F3 fun z => z = Dl) r6 σ4 H6 F6 → Rep C r6 σ4 H6 F6 ∧ Later H1 F1 H6 F6 ∧ H6 Dl = some (.lst xs) ∧ DpFs C.K H6 F6 xs acc ∧ ¬ F6 Dl ∧
        (∀ i es, sl r6 i = some es → es.hold = true → σ4[i]? ≠ some (some (.ref Dl))) := fun {H6 F6 r6} R6 => by
      obtain ⟨e6, n6⟩ := R6.still rfl nf3
      exact ⟨R3.down R6, (l2.trans l3).trans R6.later, e6.trans hDl3, (hacc.mono l3).mono R6.later, n6, fun i es e1 o1 e2 => (R6.ownz i es Dl e1 o1 e2).1 (.inr (.inr rfl))⟩
    cases bb with
    | true =>
      refine enti1 (C.up H3 F3 fun z => z = Dl) r5 σ4 H5 F5 _ _ hK hw2 R5 q5 fun J1 H6 F6 ds1 r6 R6 w1 ⟨no1, q6⟩ => ?_
      obtain ⟨R7, l7, e7, h7, n7, o7⟩ := fin R6
      refine lc_in (mg := X.mg) hw1 htt1 C r6 σ4 H6 F6 _ _ J1 ds1 Dl xs acc hK hw2 R7 (WalkD.z (C := C) w1) e7 h7 n7 nzD nbag o7 q6 fun H8 F8 r8 acc8 xs8 R8 l8 e8 h8 n8 o8 q8 => ?_
      have R9 := R8.wipe vs
      rw [wipe_sub hv hwp] at R9
      have o9 := no_wiped R8 e8 nbag o8 vs
      rw [wipe_sub hv hwp] at o9
      exact ⟨_, F8, acc8, xs8, R9, l7.trans l8, e8, h8, n8, o9, q8⟩
    | false =>
      obtain ⟨R7, l7, e7, h7, n7, o7⟩ := fin R5
      have R9 := R7.wipe vs
      rw [hwp] at R9
      have o9 := no_wiped R7 e7 nbag o7 vs
      rw [hwp] at o9
      exact ⟨_, F5, acc, xs, R9, l7, e7, h7, n7, o9, q5⟩
  · have ei : ds.length = i := by omega
    subst ei
    rw [List.drop_length] at q2
    refine .inl ⟨w.stops H2 F2 l2 (fun z hz => (R2.keep z hz).1), ?_⟩
    have Rb := Rep.back R1 R2 l2 no
    refine k (.ref Dl) H2 F2 _ _ Rb (.own hDl hacc nf2 nzD nbag fun i es e1 o1 e2 => ?_) q2
    have hlen : r2.length = σ.length := by rw [R2.len, L2.wipe_length]
    rw [sl_back] at e1
    by_cases hh : i ∈ vs ∧ i < r2.length
    · rw [if_pos hh] at e1
      exact absurd (no i hh.1 es e1) (by rw [o1]; simp)
    · rw [if_neg hh] at e1
      refine no2 i es e1 o1 ?_
      rw [wipe_at, if_neg (by rw [← hlen]; exact hh)]
      exact e2
/-- one reading for what is walked within a block -/
def iCan (K : PySem.W.Frag) (ww : World) (s : SX) : TI := fun σ H RV => ∃ (C : Ctx) (r : Env) (F : AP) (Q : List D → Env → Prop), C.K = K ∧ C.w = ww ∧ Rep C r σ H F ∧ s noX r Q ∧ ∀ J H' F' ds r', Rep C r' σ H' F' → WalkD C.K J ds H' F' → Q ds r' → RV J H'
theorem DSrc.can {X : Cx} {tg iter : Expr} {s : SX} (h : DSrc X (fun _ _ _ _ => False) tg iter s) : PI X tg iter (iCan X.K X.w s) := by
  obtain ⟨wi, pi, enti⟩ := h.ex
  exact ⟨fun pins s' σ H Q I ⟨C, r, F, Qd, hK, hw2, R, hf, k⟩ => pi.run pins s' σ H Q I (enti C r σ H F Qd noX Q hK R ⟨hw2, fun _ _ _ _ _ _ _ _ z => z.elim⟩ hf k)⟩
theorem iCan_ent {K : PySem.W.Frag} {ww : World} {s1 : SX} : ∀ (C : Ctx) (r : Env) (σ : L2.St) (H : Hp) (F : AP) (Q : List D → Env → Prop) (RV : It → Hp → Prop), C.K = K → C.w = ww → Rep C r σ H F → s1 noX r Q →
      (∀ J H' F' ds r', Rep C r' σ H' F' → WalkD C.K J ds H' F' → Q ds r' → RV J H') → iCan K ww s1 σ H RV := fun C r σ H F Q RV hK hw2 R hf k => ⟨C, r, F, Q, hK, hw2, R, hf, k⟩
theorem bCan_ent {K : PySem.W.Frag} {ww : World} {mg : Str → Option Value} {t : TB} : ∀ (C : Ctx) (r : Env) (σ : L2.St) (H : Hp) (F : AP) (Q : Bool → Env → Prop) (QV : Bool → Hp → Prop), C.K = K → C.w = ww → Rep C r σ H F → t noX r Q → (∀ b H' F' r', Rep C r' σ H' F' → Q b r' → QV b H') → bCan K ww mg (fun _ _ _ _ => False) t σ H QV :=
  fun C r σ H F Q QV hK hw2 R hf k => ⟨C, r, F, noX, Q, hK, R, ⟨hw2, fun _ _ _ _ _ _ _ _ z => z.elim⟩, hf, k⟩
variable {tg1 iter1 : Expr}
/-- a test in a block: none, or one -/
inductive DTs (X : Cx) (scope : Scope) : List Expr → TB → Prop
  | nil : DTs X scope [] bYes
  | one {cond : Expr} {t : TB} : (∀ (s : Shared) (H : Hp) (C : Addr) (cl : List (Str × Addr)) (fp : List Addr), DT (X.blk s H scope (compEnvC scope cl C X.env) fp) (fun _ _ _ _ => False) cond t) → DTs X scope [cond] t
theorem DTs.can {scope : Scope} {ifs : List Expr} {t : TB} (h : DTs X scope ifs t) :
    ∃ tt : L2.TT, (∀ (s : Shared) (H : Hp) (C : Addr) (cl : List (Str × Addr)) (fp : List Addr), PTs (X.blk s H scope (compEnvC scope cl C X.env) fp) ifs tt) ∧ ∀ (C : Ctx) (r : Env) (σ : L2.St) (H : Hp) (F : AP) (Q : Bool → Env → Prop) (QV : Bool → Hp → Prop), C.K = X.K → C.w = X.w → Rep C r σ H F → t noX r Q → (∀ b H' F' r', Rep C r' σ H' F' → Q b r' → QV b H') → tt σ H QV := by
  cases h with
  | nil => exact ⟨_, fun _ _ _ _ _ => pts_nil, tYes_ent⟩
  | one h => exact ⟨bCan X.K X.w X.mg (fun _ _ _ _ => False) t, fun s H C cl fp => pts_one (h s H C cl fp).can, bCan_ent⟩
theorem de_lc2 {scope : Scope} {own : List (Str × Nat)} {vs1 ws ws1 : List Nat} {s s1 : SX} {g g1 : TG} {t t1 : TB} {ifs ifs1 : List Expr} (hi : DSrc X W tg iter s) (hw : ∀ i ∈ ws, i ∈ own.map (·.2)) (hw1 : ∀ i ∈ ws1, i ∈ vs1) (hv : ∀ i ∈ vs1, i ∈ own.map (·.2))
    (hg : ∀ (s : Shared) (H : Hp) (C : Addr) (cl : List (Str × Addr)) (fp : List Addr), DG (X.blk s H scope (compEnvC scope cl C X.env) fp) tg ws g)
    (ht : DTs X scope ifs t)
    (hi1 : ∀ (s : Shared) (H : Hp) (C : Addr) (cl : List (Str × Addr)) (fp : List Addr), DSrc (X.blk s H scope (compEnvC scope cl C X.env) fp) (fun _ _ _ _ => False) tg1 iter1 s1)
    (hg1 : ∀ (s : Shared) (H : Hp) (C : Addr) (cl : List (Str × Addr)) (fp : List Addr), DG (X.blk s H scope (compEnvC scope cl C X.env) fp) tg1 ws1 g1)
    (ht1 : DTs X scope ifs1 t1)
    (he : ∀ (s : Shared) (H : Hp) (C : Addr) (cl : List (Str × Addr)) (fp : List Addr), DE (X.blk s H scope (compEnvC scope cl C X.env) fp) (fun _ _ _ _ => False) elt f)
    (mk : ∀ {wi wi1 : TI} {te : L2.TE} {tg' tg1' : L2.TG} {tt tt1 : L2.TT}, PI X tg iter wi → (∀ (s : Shared) (H : Hp) (C : Addr) (cl : List (Str × Addr)) (fp : List Addr), PG (X.blk s H scope (compEnvC scope cl C X.env) fp) tg tg') →
      (∀ (s : Shared) (H : Hp) (C : Addr) (cl : List (Str × Addr)) (fp : List Addr), PTs (X.blk s H scope (compEnvC scope cl C X.env) fp) ifs tt) →
      (∀ (s : Shared) (H : Hp) (C : Addr) (cl : List (Str × Addr)) (fp : List Addr), PI (X.blk s H scope (compEnvC scope cl C X.env) fp) tg1 iter1 wi1) →
      (∀ (s : Shared) (H : Hp) (C : Addr) (cl : List (Str × Addr)) (fp : List Addr), PG (X.blk s H scope (compEnvC scope cl C X.env) fp) tg1 tg1') →
      (∀ (s : Shared) (H : Hp) (C : Addr) (cl : List (Str × Addr)) (fp : List Addr), PTs (X.blk s H scope (compEnvC scope cl C X.env) fp) ifs1 tt1) →
      (∀ (s : Shared) (H : Hp) (C : Addr) (cl : List (Str × Addr)) (fp : List Addr), PE (X.blk s H scope (compEnvC scope cl C X.env) fp) elt te) → PE X e (tLc2 wi tg' tt wi1 tg1' tt1 te (own.map (·.2)) vs1)) :
    DE X W e (xLc2 (own.map (·.2)) vs1 s g t s1 g1 t1 f) := by
  obtain ⟨wi, pi, enti⟩ := hi.ex
  obtain ⟨tt, pt, ett⟩ := ht.can
  obtain ⟨tt1, pt1, ett1⟩ := ht1.can
  exact ⟨⟨_, mk (te := tCan X.K X.w X.mg (fun _ _ _ _ => False) f) (tg' := gCan X.K ws g) (tg1' := gCan X.K ws1 g1) (wi1 := iCan X.K X.w s1) pi (fun s H C cl fp => (hg s H C cl fp).can) pt (fun s H C cl fp => (hi1 s H C cl fp).can) (fun s H C cl fp => (hg1 s H C cl fp).can) pt1 (fun s H C cl fp => (he s H C cl fp).can),
    lc2_ent hw hw1 hv enti ett ett1 iCan_ent⟩⟩
/-- y = [.. for .. for ..] -/
theorem ds_setLc2 {i : Nat} {scope : Scope} {own : List (Str × Nat)} {vs1 ws ws1 : List Nat} {s s1 : SX} {g g1 : TG} {t t1 : TB} {ifs ifs1 : List Expr} (hi : DSrc X W tg iter s) (hw : ∀ i ∈ ws, i ∈ own.map (·.2)) (hw1 : ∀ i ∈ ws1, i ∈ vs1) (hv : ∀ i ∈ vs1, i ∈ own.map (·.2))
    (hg : ∀ (s : Shared) (H : Hp) (C : Addr) (cl : List (Str × Addr)) (fp : List Addr), DG (X.blk s H scope (compEnvC scope cl C X.env) fp) tg ws g)
    (ht : DTs X scope ifs t)
    (hi1 : ∀ (s : Shared) (H : Hp) (C : Addr) (cl : List (Str × Addr)) (fp : List Addr), DSrc (X.blk s H scope (compEnvC scope cl C X.env) fp) (fun _ _ _ _ => False) tg1 iter1 s1)
    (hg1 : ∀ (s : Shared) (H : Hp) (C : Addr) (cl : List (Str × Addr)) (fp : List Addr), DG (X.blk s H scope (compEnvC scope cl C X.env) fp) tg1 ws1 g1)
    (ht1 : DTs X scope ifs1 t1)
    (he : ∀ (s : Shared) (H : Hp) (C : Addr) (cl : List (Str × Addr)) (fp : List Addr), DE (X.blk s H scope (compEnvC scope cl C X.env) fp) (fun _ _ _ _ => False) elt f)
    (mk : ∀ {wi wi1 : TI} {te : L2.TE} {tg' tg1' : L2.TG} {tt tt1 : L2.TT}, PI X tg iter wi → (∀ (s : Shared) (H : Hp) (C : Addr) (cl : List (Str × Addr)) (fp : List Addr), PG (X.blk s H scope (compEnvC scope cl C X.env) fp) tg tg') →
      (∀ (s : Shared) (H : Hp) (C : Addr) (cl : List (Str × Addr)) (fp : List Addr), PTs (X.blk s H scope (compEnvC scope cl C X.env) fp) ifs tt) →
      (∀ (s : Shared) (H : Hp) (C : Addr) (cl : List (Str × Addr)) (fp : List Addr), PI (X.blk s H scope (compEnvC scope cl C X.env) fp) tg1 iter1 wi1) →
      (∀ (s : Shared) (H : Hp) (C : Addr) (cl : List (Str × Addr)) (fp : List Addr), PG (X.blk s H scope (compEnvC scope cl C X.env) fp) tg1 tg1') →
      (∀ (s : Shared) (H : Hp) (C : Addr) (cl : List (Str × Addr)) (fp : List Addr), PTs (X.blk s H scope (compEnvC scope cl C X.env) fp) ifs1 tt1) →
      (∀ (s : Shared) (H : Hp) (C : Addr) (cl : List (Str × Addr)) (fp : List Addr), PE (X.blk s H scope (compEnvC scope cl C X.env) fp) elt te) → PS X st (tAsg (tLc2 wi tg' tt wi1 tg1' tt1 te (own.map (·.2)) vs1) (gName i))) :
    DS X W st (sAsg (gN i) (xLc2 (own.map (·.2)) vs1 s g t s1 g1 t1 f)) := by
  obtain ⟨wi, pi, enti⟩ := hi.ex
  obtain ⟨tt, pt, ett⟩ := ht.can
  obtain ⟨tt1, pt1, ett1⟩ := ht1.can
  refine ⟨⟨_, mk (te := tCan X.K X.w X.mg (fun _ _ _ _ => False) f) (tg' := gCan X.K ws g) (tg1' := gCan X.K ws1 g1) (wi1 := iCan X.K X.w s1) pi (fun s H C cl fp => (hg s H C cl fp).can) pt (fun s H C cl fp => (hi1 s H C cl fp).can) (fun s H C cl fp => (hg1 s H C cl fp).can) pt1 (fun s H C cl fp => (he s H C cl fp).can), fun C r σ H F E D' hK R k hf => ?_⟩⟩
  exact lc2_ent hw hw1 hv enti ett ett1 iCan_ent C r σ H F _ E.ex _ hK R (k.ex σ) hf fun v H1 F1 dv r1 R1 G1 q1 => k.nx _ H1 F1 _ (R1.store G1) q1
end
end DL

/-! DM, part 1: errors without fields; several clauses, with names and without. -/
namespace DL
open PySem PySem.Spec PyProof.Rows L2
/-- X(), an own error class without own __init__ -/
theorem pmk_own0 {X : Cx} {C : Addr} {bmB : List Value} {B newId initId : String} {x : Str} {p pos : Pos} (F : ExcBaseFacts B newId initId bmB) (q : PySem.W.excIn X.K C bmB newId = true) (gC : X.mg x = some (.ref C)) (kC : PySem.W.keepIn X.K (.ref C) = true) (r : Raises X (.ref C)) (hg : Gl X x)
    (hdb : (x == ("__debug__" : Str)) = false := by decide) : PMk X (.Call (.Name x p) [] [] pos) (fun _ H Q => Q (.ref C) none H) := by
  intro pins s σ H Q I h
  refine wpAny_Call_Name_kw (ld_glob I hg gC (PySem.W.callWith_K0 I.kIn kC ?_) hdb)
  obtain ⟨bm, N, nm, qn, bs, d0, sn, sb, ab, col, d1, k0, k1, k2, k3, k5, mN, a1, a2, a3, a4⟩ := exc_obj I.kIn q
  exact wpAny_call_exc_subT F a4 a1 a2 a3 (fun h' e hm => mk_of I hm r h (I.hok.gone hm.new)) (Nat.zero_le _)
/-- an own error without fields -/
structure ErrN (P : Program) (K : PySem.W.Frag) (mg : Str → Option Value) (x : Str) (C : Addr) : Prop where
  g : mg x = some (.ref C)
  q : PySem.W.excIn K C [.type "ValueError", .type "Exception", .type "BaseException", .type "object"] "ValueError.__new__" = true
  kp : PySem.W.keepIn K (.ref C) = true
  ex : PySem.W.subIn K (.ref C) (.type "BaseException") = some true
  ty : PySem.W.typeIn K (.ref C) = some (.type "type")
def sRaise0 (x : Str) : TS := fun E r => E.ex ⟨x, []⟩ r
theorem ds_raise0 {X : Cx} {W : WX} {x : Str} {C : Addr} {p pos pos' : Pos} {P : Program} (hc : X.calm = true) (tk : Takes X W) (T : ErrN P X.K X.mg x C) (hg : Gl X x := by rfl) (hdb : (x == ("__debug__" : Str)) = false := by decide) :
    DS X W (.Raise (some (.Call (.Name x p) [] [] pos)) none pos') (sRaise0 x) :=
  ⟨⟨_, ps_raise hc tk (pmk_own0 PySem.F.excBase_ValueError T.q T.g T.kp (raises_own T.ex T.ty) hg hdb), fun Cc r σ H F E D' hK R L hf => (L.ex σ).go _ r H F _ _ R ⟨C, T.g, rfl, .inl ⟨rfl, rfl⟩⟩ hf⟩⟩
/-! ### clauses -/
abbrev Cl := Value × Option Nat × (Addr → Value → Option Addr → L2.TS)
/-- the ends of a suite whose name is gone behind it -/
def unset (D : L2.Ends) (i : Nat) : L2.Ends := { nx := fun σ' H' => D.nx (σ'.set i none) H', rt := D.rt, bk := fun σ' H' => D.bk (σ'.set i none) H', ct := fun σ' H' => D.ct (σ'.set i none) H' }
def runCl (cl : Cl) (a : Addr) (cls : Value) (d : Option Addr) (D : L2.Ends) (σ : L2.St) (H : Hp) : Prop := match cl.2.1 with
  | none => cl.2.2 a cls d D σ H
  | some i => cl.2.2 a cls d (unset D i) (σ.set i (some (.ref a))) H
/-- what the clauses wish of an error of the body, one behind the other -/
def wMix (K : PySem.W.Frag) (Wout : WX) (D : L2.Ends) : List Cl → WX
  | [] => Wout
  | cl :: r => fun cls d σ H => ∃ b, PySem.W.exmOne K cls cl.1 = some b ∧ (b = true → ∀ a, H a = none → runCl cl a cls d D σ H) ∧ (b = false → wMix K Wout D r cls d σ H)
def nmOk (X : Cx) : Option Nat → Option Str → Prop
  | none, none => True
  | some i, some y => X.N[i]? = some y ∧ X.env.kindOf y = some .local
  | _, _ => False
inductive MixOk (X : Cx) : List ExceptHandler → List Cl → Prop
  | nil : MixOk X [] []
  | cons {x : Str} {c : Value} {o : Option Nat} {y : Option Str} {ts : Addr → Value → Option Addr → L2.TS} {b₀ : Stmt} {su : List Stmt} {np pe : Pos} {hs : List ExceptHandler} {l : List Cl} (hc : Names X x c) (hy : nmOk X o y)
      (hsu : ∀ (a : Addr) (oe : Obj) (cls : Value) (d : Option Addr) (pn : List (Addr × Obj)), Zc cls d oe → (∃ vs, oe.data = .fields vs) → PSs (X.suite a ((a, oe) :: pn)) (b₀ :: su) (ts a cls d)) (r : MixOk X hs l) :
      MixOk X (.ExceptHandler (some (.Name x np)) y (b₀ :: su) pe :: hs) ((c, o, ts) :: l)
section
variable {X : Cx} {body : List Stmt} {hd : ExceptHandler} {hs : List ExceptHandler} {l : List Cl} {pos : Pos} {tb : WX → L2.TS} {Wout : WX}
theorem ps_try_mix (hst : X.stack = X.env :: X.outer) (hfl : X.env.frame = some X.env.locals) (hN : X.N.Nodup) (tk : Takes X Wout)
    (hb : ∀ (W : WX) (pn : List (Addr × Obj)) (xe : Value → Shared → Prop), Takes (X.tr pn xe) W → PassesOwn (model X.prog X.w) X.A X.env xe → PSs (X.tr pn xe) body (tb W))
    (hh : MixOk X (hd :: hs) l) : PS X (.Try body (hd :: hs) [] [] pos) (fun D σ H => tb (wMix X.K Wout D l) D σ H) := by
  refine ⟨fun pins s σ H D I h => ?_⟩
  have okX := I.ok
  have frs_ : X.A.frames = some (X.env :: X.outer) := by rw [okX.frames, hst]
  let catchE : Value → Shared → Prop := fun e s₁ => wpAny (model X.prog X.w) X.A (noteFrame e X.env) (fun _ s₂ => wpAny (model X.prog X.w) X.A (setFlight e none) (fun _ s₃ =>
    wpAny (model X.prog X.w) X.A (handleBy e X.env (hd :: hs)) (SP X pins D) X.xe s₃) X.xe s₂) X.xe s₁
  have caught : Takes (X.tr (X.pn ++ pins) catchE) (wMix X.K Wout D l) := by
    intro u s' xx
    obtain ⟨a, B, sI, pins', σ1, H1, cls, d, rfl, J0, nb, up, sky, na, os, ag, w⟩ := xx
    have J : Inv X pins σ1 H1 sI := J0.ofTry okX
    have sky1 : Sky B (X.env :: X.outer) a (Zc cls d) X.env.locals s'.heap := hst ▸ sky
    refine Sky.land Zc.steady frs_ hfl sky1 fun g1 fl1 up1 => ?_
    have J1 : Inv X pins σ1 H1 { s' with heap := g1 } := J.landed nb fl1.1 (up.trans up1) os ag
    obtain ⟨oe1, vs1, he1, hz1, hd1⟩ := fl1.there
    have apart : ∀ {h : Heap} {o : Obj} {vs : Array Value}, h.FunFrames B (X.env :: X.outer) → h.get? a = some o → o.data = .fields vs → a ∉ frs (X.env :: X.outer) := by
      intro h o vs ff ho hv hm
      obtain ⟨_, o1, e1, hnf⟩ := ff.mem hm
      rw [ho] at e1
      cases e1
      exact hnf _ hv
    have nfr := apart fl1.2.2.1 he1 hd1
    have nL : a ≠ X.env.locals := fun z => nfr (List.mem_filterMap.mpr ⟨X.env, List.mem_cons_self, by rw [hfl, z]⟩)
    have nF : a ∉ X.fs := fun hm => by
      obtain ⟨e, he, q⟩ := List.mem_filterMap.mp hm
      exact nfr (List.mem_filterMap.mpr ⟨e, List.mem_cons_of_mem _ he, q⟩)
    have S1 := J1.suite he1 hd1 na nL nF
    have go : ∀ {hs' : List ExceptHandler} {l' : List Cl}, MixOk X hs' l' → wMix X.K Wout D l' cls d σ1 H1 →
        wpAny (model X.prog X.w) X.A (handleBy (.ref a) X.env hs') (SP X pins D) X.xe { s' with heap := g1 } := by
      intro hs' l' hk
      induction hk with
      | nil =>
        intro w1
        refine wpAny_handleBy_nil ?_
        obtain ⟨k1, k2, k3, oe, vs, T, oT, ts', he, hz, hdd, h1, hr⟩ := id fl1
        unfold PySem.passOn
        refine wpAny_bind (wpAny_field he hdd h1 ?_)
        rw [if_neg (show ¬ ((Value.ref T == Value.none) = true) from by simp)]
        have thrown : wpAny (model X.prog X.w) X.A (setFlight (.ref a) X.env.frame) (fun _ s4 => wpAny (model X.prog X.w) X.A (throw (.ref a) : Sem Flow) (SP X pins D) X.xe s4) X.xe { s' with heap := g1 } := by
          rw [hfl]
          refine HandSPX.setFlight_upZ fl1 fun g2 hh2 up2 => wpAny_throw (tk _ _ ?_)
          exact ⟨a, B, sI, pins, σ1, H1, cls, d, rfl, J, nb, (up.trans up1).trans up2, .inr (.inr (by rw [hst]; exact hh2)), na, os, ag, w1⟩
        first
          | exact wpAny_bind (wpAny_pure (wpAny_bind thrown))
          | exact wpAny_bind thrown
      | @cons x c o y ts b₀ su np pe hs2 l2 hc hy hsu r ih =>
        intro w1
        obtain ⟨b, hb1, yes, no⟩ := w1
        refine wpAny_handleBy_cons (codeAny_handlers_test ?_) (by intro q; cases q)
        have LT : PySem.W.Looks (model X.prog X.w) g1 (typeOf (.ref a)) cls := fun A' Q' E' s2 k q => wpAny_typeOf_ref (k _ _ he1) (by rw [hz1.1]; exact q)
        have LM := PySem.W.exm_one (M := model X.prog X.w) J1.kIn LT hb1
        have test : ∀ {Q : Value → Shared → Prop} {E : Value → Shared → Prop}, Q c { s' with heap := g1 } → wpAny (model X.prog X.w) (X.A.mark (some (.ref a))) (eval (.Name x np) X.env) Q E { s' with heap := g1 } := fun {Q E} q => by
          obtain ⟨hg, hdbg, hm | ⟨hm, hv, hnn⟩⟩ := hc
          · exact ld_glob (X := X.suite a ((a, oe1) :: (X.pn ++ pins))) S1 hg hm q hdbg
          · exact ld_blt (X := X.suite a ((a, oe1) :: (X.pn ++ pins))) S1 hg hm hv q hnn hdbg
        refine test (LM.here ?_)
        cases b with
        | false => exact ih (no rfl)
        | true =>
          have run := yes rfl a na
          cases y with
          | none =>
            cases o with
            | some i => exact hy.elim
            | none =>
              refine codeAny_handlers_suite (HandSPX.lands_againZ fl1 fun g2 fl2 up2 => ?_)
              have J2 : Inv X pins σ1 H1 { s' with heap := g2 } := J.landed nb fl2.1 ((up.trans up1).trans up2) os ag
              obtain ⟨oe2, vs2, he2, hz2, hd2⟩ := fl2.there
              have S2 := J2.suite he2 hd2 na nL nF
              refine wpAny_mono ((hsu a oe2 cls d (X.pn ++ pins) hz2 ⟨_, hd2⟩).run [] _ _ H1 _ S2 run) (fun f s6 hsp => ?_) (fun _ _ z => False.elim z)
              cases f with
              | ret u =>
                obtain ⟨v6, σ6, H6, S6, r6, q6⟩ := hsp
                exact ⟨_, _, _, S6.unsuite okX, r6, q6⟩
              | next =>
                obtain ⟨σ6, H6, S6, q6⟩ := hsp
                exact ⟨_, _, S6.unsuite okX, q6⟩
              | brk =>
                obtain ⟨σ6, H6, S6, q6⟩ := hsp
                exact ⟨_, _, S6.unsuite okX, q6⟩
              | cont =>
                obtain ⟨σ6, H6, S6, q6⟩ := hsp
                exact ⟨_, _, S6.unsuite okX, q6⟩
          | some n =>
            cases o with
            | none => exact hy.elim
            | some i =>
              obtain ⟨hi, hln⟩ := hy
              have hloc : Loc X.env.scope n := .inl hln
              refine codeAny_handlers_suite_as (HandSPX.lands_againZ fl1 fun g2 fl2 up2 => ?_)
              have J2 : Inv X pins σ1 H1 { s' with heap := g2 } := J.landed nb fl2.1 ((up.trans up1).trans up2) os ag
              obtain ⟨oe2, vs2, he2, hz2, hd2⟩ := fl2.there
              have S2 := J2.suite he2 hd2 na nL nF
              refine store_ok (X := X.suite a ((a, oe2) :: (X.pn ++ pins))) (v := .ref a) S2 hN hi hloc rfl (fun s5 S5 => ?_) (.inr hln)
              refine wpAny_mono ((hsu a oe2 cls d (X.pn ++ pins) hz2 ⟨_, hd2⟩).run [] s5 _ H1 _ S5 run) (fun f s6 hsp => ?_) (fun _ _ z => False.elim z)
              have gone : ∀ {σ6 : L2.St} {H6 : Hp} {Q : Shared → Prop}, Inv (X.suite a ((a, oe2) :: (X.pn ++ pins))) [] σ6 H6 s6 → (∀ s7, Inv X pins (σ6.set i none) H6 s7 → Q s7) →
                  wpAny (model X.prog X.w) X.A (do bindName X.env n .none; unbindBehindTheSuite X.env n pe) (fun _ s7 => Q s7) X.xe s6 := fun {σ6 H6 Q} S6 hq => gone_ok (S6.unsuite okX) hN hi hln hq
              cases f with
              | ret u =>
                obtain ⟨v6, σ6, H6, S6, r6, q6⟩ := hsp
                exact gone S6 fun s7 J7 => ⟨_, _, _, J7, r6, q6⟩
              | next =>
                obtain ⟨σ6, H6, S6, q6⟩ := hsp
                exact gone S6 fun s7 J7 => ⟨_, _, J7, q6⟩
              | brk =>
                obtain ⟨σ6, H6, S6, q6⟩ := hsp
                exact gone S6 fun s7 J7 => ⟨_, _, J7, q6⟩
              | cont =>
                obtain ⟨σ6, H6, S6, q6⟩ := hsp
                exact gone S6 fun s7 J7 => ⟨_, _, J7, q6⟩
    exact go hh w
  refine wpAny_Try_except (wpAny_mono ((hb _ _ _ caught PassesOwn.looking).run [] s σ H D (I.toTry _) h) (fun f s1 hsp => ?_) (fun e s1 he => he))
  cases f with
  | ret u =>
    obtain ⟨v, σ', H', J', r, q⟩ := hsp
    exact ⟨v, σ', H', J'.ofTry okX, r, q⟩
  | next =>
    obtain ⟨σ', H', J', q⟩ := hsp
    exact wpAny_execs_nil ⟨σ', H', J'.ofTry okX, q⟩
  | brk =>
    obtain ⟨σ', H', J', q⟩ := hsp
    exact ⟨σ', H', J'.ofTry okX, q⟩
  | cont =>
    obtain ⟨σ', H', J', q⟩ := hsp
    exact ⟨σ', H', J'.ofTry okX, q⟩
end
end DL

/-! DM, part 2: try: .. except X as e: return .. except Y: return .. -/
namespace DL
open PySem PySem.Spec PyProof.Rows L2
def hAt (o : Option Nat) (σ : L2.St) (a : Addr) : Prop := ∀ i, o = some i → σ[i]? = some (some (.ref a))
/-- a suite that hands back, with its name or without -/
structure DH2 (X : Cx) (o : Option Nat) (st : List Stmt) (g : SH) : Prop where
  ex : ∀ (a : Addr) (oe : Obj) (cls : Value) (d : Option Addr) (pn : List (Addr × Obj)), Zc cls d oe → (∃ vs, oe.data = .fields vs) → ∃ t, PSs (X.suite a ((a, oe) :: pn)) st t ∧
    ∀ (C : Ctx) (r : Env) (σ : L2.St) (H : Hp) (F : AP) (er : Err) (Q : DV → Prop) (D' : L2.Ends), C.K = X.K → Rep C r σ H F → hAt o σ a → ErrR X.mg X.K H F cls d er → g er Q →
      (∀ v H' F' dv, Fin C H' F' → RetR C H' F' v dv → Q dv → D'.rt v H') → t D' σ H
theorem DH.two {X : Cx} {i : Nat} {st : List Stmt} {g : SH} (h : DH X i st g) : DH2 X (some i) st g := ⟨fun a oe cls d pn hz hf => by
  obtain ⟨t, ps, ent⟩ := h.ex a oe cls d pn hz hf
  exact ⟨t, ps, fun C r σ H F er Q D' hK R hσ hE q k => ent C r σ H F er Q D' hK R (hσ i rfl) hE q k⟩⟩
/-- parts that are written -/
inductive Konst : List Expr → List D → Prop
  | nil : Konst [] []
  | str {x : Str} {j : Nat} {p : Pos} {es : List Expr} {ds : List D} : Konst es ds → Konst (.Constant (.str x) j p :: es) (.str x :: ds)
  | int {n : Int} {j : Nat} {p : Pos} {es : List Expr} {ds : List D} : Konst es ds → Konst (.Constant (.int n) j p :: es) (.int n :: ds)
theorem Konst.pa {Y : Cx} : ∀ {es : List Expr} {ds : List D}, Konst es ds → ∃ t, PA Y es t ∧ ∀ (K : PySem.W.Frag) (σ : L2.St) (H : Hp) (F : AP) (QV : List V → Hp → Prop), (∀ vs, DpFs K H F vs ds → QV vs H) → t σ H QV
  | _, _, .nil => ⟨_, pa_nil, fun _ σ H F QV k => k _ .nil⟩
  | _, _, .str h => by
    obtain ⟨t, pa, k1⟩ := h.pa (Y := Y)
    exact ⟨_, pa_cons pe_str pa, fun K σ H F QV k => k1 K σ H F _ fun vs hv => k _ (.cons (.str _) hv)⟩
  | _, _, .int h => by
    obtain ⟨t, pa, k1⟩ := h.pa (Y := Y)
    exact ⟨_, pa_cons pe_int pa, fun K σ H F QV k => k1 K σ H F _ fun vs hv => k _ (.cons (.int _) hv)⟩
def hRetC (ds : List D) : SH := fun _ Q => ds.length ≤ 16777216 ∧ Q (.dat (.tuple ds))
theorem dh_retC {X : Cx} {o : Option Nat} {es : List Expr} {ds : List D} {j : Nat} {p pos : Pos} (h : Konst es ds) : DH2 X o [.Return (some (.Tuple es j p)) pos] (hRetC ds) := ⟨fun a oe cls d pn hz hf => by
  obtain ⟨t1, p1, k1⟩ := h.pa (Y := X.suite a ((a, oe) :: pn))
  refine ⟨_, pss_one (ps_ret (pe_tup p1)), fun C r σ H F er Q D' hK R _ _ q k => ?_⟩
  refine k1 C.K σ H F _ fun vs hvs => ⟨by rw [line_eq, hvs.length]; exact q.1, fun pa hp => ?_⟩
  obtain ⟨R2, G2, _⟩ := R.freshTup hp hvs
  exact k _ _ _ _ R2.fin G2.ret q.2⟩
/-! ### clauses -/
structure CM where
  cs : List (Str × Bool)
  o : Option Nat
  h : SH
/-- the clause that takes an error -/
def hsel : List CM → Err → (DV → Prop) → (Err → Prop) → Prop
  | [], er, _, E => E er
  | m :: r, er, Q, E => match m.cs.lookup er.cls with
    | some true => m.h er Q
    | some false => hsel r er Q E
    | none => False
def slotsIn (ms : List CM) (r : Env) : Prop := ∀ m ∈ ms, ∀ i, m.o = some i → i < r.length
inductive DCls (X : Cx) : List ExceptHandler → List CM → Prop
  | nil : DCls X [] []
  | cons {x : Str} {cv : Value} {o : Option Nat} {y : Option Str} {b₀ : Stmt} {su : List Stmt} {np pe : Pos} {hs : List ExceptHandler} {ms : List CM} {cs : List (Str × Bool)} {h : SH} (hc : Names X x cv) (hy : nmOk X o y) (hcs : Takn X.K X.mg cv cs)
      (hsu : DH2 X o (b₀ :: su) h) (r : DCls X hs ms) : DCls X (.ExceptHandler (some (.Name x np)) y (b₀ :: su) pe :: hs) (⟨cs, o, h⟩ :: ms)
theorem Rep.anyAt {C : Ctx} {r : Env} {σ : L2.St} {H : Hp} {F : AP} {i : Nat} {v : Option V} (R : Rep C r σ H F) : Rep C (putO r i none) (σ.set i v) H F := R.any1
theorem DCls.mix {X : Cx} {W : WX} : ∀ {hs : List ExceptHandler} {ms : List CM}, DCls X hs ms → ∃ l, MixOk X hs l ∧ ∀ (C : Ctx) (r : Env) (σ : L2.St) (H : Hp) (F : AP) (cls : Value) (d : Option Addr) (er : Err) (D' : L2.Ends) (Q0 : DV → Prop) (E0 : Err → Prop),
    C.K = X.K → Rep C r σ H F → ErrR X.mg X.K H F cls d er → slotsIn ms r → (∀ v H' F' dv, Fin C H' F' → RetR C H' F' v dv → Q0 dv → D'.rt v H') → (E0 er → W cls d σ H) → hsel ms er Q0 E0 → wMix X.K W D' l cls d σ H
  | _, _, .nil => ⟨[], .nil, fun C r σ H F cls d er D' Q0 E0 _ _ _ _ _ kE q => kE q⟩
  | _, _, .cons (cv := cv) (o := o) (cs := cs) (h := h) hc hy hcs hsu r => by
    obtain ⟨l, ok, ent⟩ := r.mix (W := W)
    refine ⟨(cv, o, fun a cls d D σ H => ∃ (C : Ctx) (r : Env) (F : AP) (er : Err) (Q : DV → Prop), C.K = X.K ∧ Rep C r σ H F ∧ hAt o σ a ∧ ErrR X.mg X.K H F cls d er ∧ h er Q ∧ ∀ v H' F' dv, Fin C H' F' → RetR C H' F' v dv → Q dv → D.rt v H') :: l,
      .cons hc hy (fun a oe cls d pn hz hf => ?_) ok, fun C r σ H F cls d er D' Q0 E0 hK R hE hsl kQ kE q => ?_⟩
    · obtain ⟨t, ps, enu⟩ := hsu.ex a oe cls d pn hz hf
      exact ⟨fun pins s σ H D I ⟨C, r, F, er, Q, hK, R, hσ, hE, hh, k⟩ => ps.run pins s σ H D I (enu C r σ H F er Q D hK R hσ hE hh k)⟩
    · obtain ⟨Cc, m1, rfl, _⟩ := id hE
      unfold hsel at q
      cases hl : cs.lookup er.cls with
      | none => simp only [hl] at q
      | some b =>
        simp only [hl] at q
        refine ⟨b, hcs _ _ hl _ m1, fun hb a na => ?_, fun hb => ?_⟩
        · subst hb
          unfold runCl
          cases o with
          | none => exact ⟨C, r, F, er, Q0, hK, R, fun i z => (by cases z), hE, q, kQ⟩
          | some i =>
            have hlt : i < σ.length := R.len ▸ hsl _ (List.mem_cons_self ..) i rfl
            exact ⟨C, putO r i none, F, er, Q0, hK, R.anyAt, fun j z => (by cases z; rw [List.getElem?_set_self hlt]), hE, q, kQ⟩
        · subst hb
          exact ent C r σ H F _ d er D' Q0 E0 hK R hE (fun m hm => hsl m (List.mem_cons_of_mem _ hm)) kQ kE q
def sTryM (ms : List CM) (p : TS) : TS := fun E r => p { E with ex := fun er r1 => slotsIn ms r1 ∧ hsel ms er E.rt fun e => E.ex e r1 } r
theorem ds_tryM {X : Cx} {W : WX} {body : List Stmt} {hd : ExceptHandler} {hs : List ExceptHandler} {pos : Pos} {p : TS} {ms : List CM} (hst : X.stack = X.env :: X.outer) (hfl : X.env.frame = some X.env.locals) (hN : X.N.Nodup) (tk : Takes X W)
    (hb : ∀ (W' : WX) (pn : List (Addr × Obj)) (xe : Value → Shared → Prop), Takes (X.tr pn xe) W' → PassesOwn (model X.prog X.w) X.A X.env xe → DSs (X.tr pn xe) W' body p) (hcl : DCls X (hd :: hs) ms) : DS X W (.Try body (hd :: hs) [] [] pos) (sTryM ms p) := by
  obtain ⟨l, ok, ent⟩ := hcl.mix (W := W)
  refine ⟨⟨_, ps_try_mix (tb := fun W' => sCan X W' p) hst hfl hN tk (fun W' pn xe t1 p1 => (hb W' pn xe t1 p1).can rfl rfl rfl) ok, fun C r σ H F E D' hK R k hq => ?_⟩⟩
  refine ⟨C, r, F, { E with ex := fun er r1 => slotsIn ms r1 ∧ hsel ms er E.rt fun e => E.ex e r1 }, hK, R, ⟨k.nx, k.rt, k.bk, k.ct, fun σ' => ⟨(k.ex σ').w, fun er r' H' F' cls d R' hE q => ?_⟩⟩, hq⟩
  exact ent C r' σ' H' F' cls d er D' E.rt (fun e => E.ex e r') hK R' (hK ▸ hE) q.1 k.rt (fun q2 => (k.ex σ').go er r' H' F' cls d R' hE q2) q.2
end DL

/-! DM, part 3: x(lambda: e), x a def that calls what it got within a try. -/
namespace DL
open PySem PySem.Spec PyProof.Rows L2
/-! ### slots that a lambda may look at -/
def bareO : Option DV → Option DV
  | some (.own _) => none
  | some (.dct _ _) => none
  | o => o
def bare (r : Env) : Env := r.map bareO
def frz1 (r : Env) (i : Nat) : Env := match sl r i with
  | some (.own ds) => put r i (.dat (.list ds))
  | _ => r
def frz (r : Env) : List Nat → Env
  | [] => r
  | i :: is => frz1 (frz r is) i
theorem sl_bare : ∀ (r : Env) (i : Nat), sl (bare r) i = bareO (sl r i)
  | [], i => rfl
  | x :: r, 0 => rfl
  | x :: r, i + 1 => sl_bare r i
theorem bareO_some {o : Option DV} {dv : DV} (h : bareO o = some dv) : o = some dv ∧ dv.hold = false := by
  cases o with
  | none => cases h
  | some d => cases d <;> first | (cases h; done) | (cases h; exact ⟨rfl, rfl⟩)
theorem rep_frz1 {C : Ctx} {r : Env} {σ : L2.St} {H : Hp} {F : AP} (R : Rep C r σ H F) (i : Nat) : ∃ F', Rep C (frz1 r i) σ H F' ∧ ∀ a, F a → F' a := by
  unfold frz1
  split
  · rename_i ds e
    obtain ⟨v, e1, sr⟩ := R.slot i _ e
    cases sr with
    | own h1 h2 h3 =>
      obtain ⟨R2, _⟩ := R.freeze e e1 h1 h2 h3
      exact ⟨_, R2, fun a z => .inl z⟩
  · exact ⟨F, R, fun _ z => z⟩
theorem rep_frz {C : Ctx} {r : Env} {σ : L2.St} {H : Hp} {F : AP} (R : Rep C r σ H F) : ∀ is : List Nat, ∃ F', Rep C (frz r is) σ H F' ∧ ∀ a, F a → F' a
  | [] => ⟨F, R, fun _ z => z⟩
  | i :: is => by
    obtain ⟨F1, R1, h1⟩ := rep_frz R is
    obtain ⟨F2, R2, h2⟩ := rep_frz1 R1 i
    exact ⟨F2, R2, fun a z => h2 a (h1 a z)⟩
theorem given_of {C : Ctx} {r : Env} {σ : L2.St} {H : Hp} {F : AP} (R : Rep C r σ H F) : Given C.K C.b H F [] [] :=
  ⟨.nil, R.ftrk, fun x e => ⟨(R.bag x e).1, (R.bag x e).2.1⟩, R.tb.imp (fun _ z => z.elim) R.tb.f⟩
/-- the lambda's body: the slots as they are, nothing that is tracked may change -/
theorem rep_bare {C : Ctx} {r : Env} {σ : L2.St} {H : Hp} {F : AP} (R : Rep C r σ H F) : Rep ⟨C.K, C.w, C.b, Zs C.b H, H, F⟩ (bare r) σ H F where
  len := by unfold bare; rw [List.length_map]; exact R.len
  slot := fun i dv e => by
    rw [sl_bare] at e
    exact R.slot i dv (bareO_some e).1
  dist := fun i j di dj a e1 _ o1 => by
    rw [sl_bare] at e1
    rw [(bareO_some e1).2] at o1
    cases o1
  keep := fun a z => ⟨rfl, z.1⟩
  fsub := fun _ z => z
  fnew := fun _ z => .inl z
  fz := fun a z => ⟨R.ftrk a z, fun e => (R.bag a e).2.1 z, R.tb.f a z⟩
  ftrk := R.ftrk
  ownz := fun i ds a e o1 => by
    rw [sl_bare] at e
    rw [(bareO_some e).2] at o1
    cases o1
  bag := fun b e => ⟨(R.bag b e).1, (R.bag b e).2.1, fun z => z.2.1 e⟩
  tb := R.tb.imp (fun _ z => z.2.2) R.tb.f
/-- a frame of which nothing is known -/
theorem rep_empty {K : PySem.W.Frag} {w : World} {b : Option Addr} {H H' : Hp} {F F' : AP} (g : Given K b H F [] []) (a : After K b H F H' F') (σ : L2.St) : Rep ⟨K, w, b, Zs b H, H, F⟩ (List.replicate σ.length none) σ H' F' := by
  have no : ∀ (n i : Nat) (dv : DV), sl (List.replicate n (none : Option DV)) i ≠ some dv := by
    intro n
    induction n with
    | zero => intro i dv z; cases z
    | succ n ih =>
      intro i dv
      rw [List.replicate_succ]
      cases i with
      | zero => intro z; cases z
      | succ i => exact ih i dv
  have kept : ∀ x, Zs b H x → H' x = H x := fun x z => by
    cases q : H x with
    | none => exact absurd q z.1
    | some o => exact a.keep x o q z.2.1 fun ps w => z.2.2 ps (w ▸ q)
  refine ⟨by rw [List.length_replicate], fun i dv e => absurd e (no _ _ _), fun i j di dj x e1 => absurd e1 (no _ _ _), fun x z => ⟨kept x z, by rw [kept x z]; exact z.1⟩, a.sub, fun x z => ?_, fun x z => ⟨g.trk x z, fun e => (g.bag x e).2 z, g.tb.f x z⟩, a.trk, fun i ds x e => absurd e (no _ _ _), fun x e => ⟨(a.bag x e).1, (a.bag x e).2, fun z => z.2.1 e⟩, a.tb.imp (fun x z ps e => ?_) a.tb.f⟩
  · rcases a.new x z with w | w
    · exact .inl w
    · exact .inr fun q => w.no q.1 q.2.2
  · rw [kept x z] at e
    exact z.2.2 ps e
/-- the tables have grown, all else stands -/
theorem rep_ext {C : Ctx} {r : Env} {σ : L2.St} {H H1 : Hp} {F : AP} (R : Rep C r σ H F) (x : LamX.ExtN H H1) (t : LamX.Tabs (tabsOf C.K) H1) : Rep C r σ H1 F := by
  have at_ : ∀ a, H a ≠ none → NT H a → H1 a = H a := fun a n nt => by
    cases q : H a with
    | none => exact absurd q n
    | some o => exact x a o q fun ps w => nt ps (w ▸ q)
  have l : Later H F H1 F := fun a z => ⟨z, at_ a (R.ftrk a z) (R.tb.f a z)⟩
  refine ⟨R.len, fun i dv e => ?_, R.dist, fun a z => ?_, R.fsub, R.fnew, R.fz, fun a z => by rw [(l a z).2]; exact R.ftrk a z, R.ownz, fun b e => ?_, t, fun a z ps e => ?_, fun a z ps e => ?_⟩
  · obtain ⟨v, ev, sr⟩ := R.slot i dv e
    refine ⟨v, ev, ?_⟩
    cases sr with
    | dat s => exact .dat (s.mono l)
    | own g1 g2 g3 => exact .own ((at_ _ (by rw [g1]; simp) (nt_lst g1)).trans g1) (g2.mono l) g3
    | dct g1 g3 => exact .dct (g1.mono l (at_ _ g1.ne.2 (free_dct g1).nt)) g3
    | nd s n => exact .nd (s.mono l) (n.mono l)
    | rng n => exact .rng (n.mono l)
    | bag s => exact .bag s
  · obtain ⟨e, n⟩ := R.keep a z
    have q := at_ a n (R.tb.z a z)
    exact ⟨q.trans e, by rw [q]; exact n⟩
  · obtain ⟨k, nf, nz⟩ := R.bag b e
    obtain ⟨c, i, j, k', cells, h1, _⟩ := id k
    exact ⟨BagOk.mono (C := C) l (at_ b (by rw [h1]; simp) (nt_lst h1)) k, nf, nz⟩
  · rw [at_ a (R.keep a z).2 (R.tb.z a z)] at e
    exact R.tb.z a z ps e
  · rw [(l a z).2] at e
    exact R.tb.f a z ps e
/-- what a callee hands back is a value just made -/
theorem res_back {C : Ctx} {r : Env} {σ : L2.St} {H H' : Hp} {F F' : AP} {v : V} {dv : DV} (R : Rep C r σ H F) (br : BackR C.K C.w C.b H H' F' v dv) : Res C r σ H' F' v dv := by
  have held : ∀ {a : Addr}, NewAt H a → (C.b ≠ some a) ∧ ∀ i es, sl r i = some es → es.hold = true → σ[i]? ≠ some (some (.ref a)) := fun {a} n => by
    refine ⟨fun z => ?_, fun i es e1 o1 e2 => ?_⟩
    · obtain ⟨⟨_, _, _, _, _, g1, _⟩, _, _⟩ := R.bag _ z
      obtain ⟨ps, e⟩ := n _ g1
      cases e
    · obtain ⟨v, e3, sr⟩ := R.slot i _ e1
      rw [e2] at e3; cases e3
      cases sr with
      | own g1 _ _ => obtain ⟨ps, e⟩ := n _ g1; cases e
      | dct g1 _ => exact n.no g1.ne.2 (free_dct g1).nt
      | nd _ _ => cases o1
      | rng _ => cases o1
      | dat _ => cases o1
      | bag _ => cases o1
  cases br with
  | dat s => exact .dat s
  | own h1 h2 h3 h4 => exact .own h1 h2 h3 (fun z => h4.no (R.keep _ z).2 (R.tb.z _ z)) (held h4).1 (held h4).2
  | dct h1 h3 h4 => exact .dct h1 h3 (fun z => h4.no (R.keep _ z).2 (R.tb.z _ z)) (held h4).1 (held h4).2
  | nd s n => exact .nd s n
  | rng n => exact .rng n
  | bag s => exact .bag s
/-! ### the meaning -/
/-- x(lambda: f): (told, what comes), or what the clauses make of an error -/
def xLam (told : Str) (ms : List CM) (vs : List Nat) (f : TX) : TX := fun _ r Q =>
  f (fun er _ => hsel ms er (fun dv => Q dv (frz r vs)) fun _ => False) (bare (frz r vs)) fun dv _ => match dv.toD with
    | some d => Q (.dat (.tuple [.str told, d])) (frz r vs)
    | none => False
/-- the text of a def that makes lambdas: its code object, its table -/
structure LamT (K : PySem.W.Frag) (x : Str) (f c P : Addr) : Prop where
  mem : x ∈ lamNames
  ns : PySem.W.nsIn K mainGlobals x = some (some (.ref f))
  at_ : PySem.W.tabIn K x = some (c, P)
  un : ∀ p ∈ tabsOf K, p.1 = P → p.2 = lamQ x
theorem un_of {K : PySem.W.Frag} {x : Str} {P : Addr} (h : ∀ y ∈ lamNames, ∀ c' P', PySem.W.tabIn K y = some (c', P') → P' = P → y = x) : ∀ p ∈ tabsOf K, p.1 = P → p.2 = lamQ x := fun p hp e => by
  obtain ⟨y, hy, q⟩ := List.mem_filterMap.mp hp
  cases z : PySem.W.tabIn K y with
  | none => rw [z] at q; cases q
  | some cp =>
    rw [z] at q
    cases q
    rw [h y hy cp.1 cp.2 z e]
theorem headTabs_of {K : PySem.W.Frag} {h : Heap} (a : ∀ y ∈ lamNames, ∀ c P, PySem.W.tabIn K y = some (c, P) → h.get? P = some (PySem.W.tabObj #[]) ∧ K.lookup P = none ∧ PySem.W.codeHdIn K c P = true) : HeadTabs K h := by
  have key : ∀ p ∈ cpOf K, h.get? p.2 = some (PySem.W.tabObj #[]) ∧ K.lookup p.2 = none ∧ PySem.W.codeHdIn K p.1 p.2 = true := fun p hp => by
    obtain ⟨y, hy, q⟩ := List.mem_filterMap.mp hp
    exact a y hy p.1 p.2 q
  exact ⟨fun p hp => (key p hp).1, fun p hp => (key p hp).2.1, fun p hp => (key p hp).2.2⟩
theorem LamT.code {K : PySem.W.Frag} {x : Str} {f c P : Addr} {cdv : Value} (T : LamT K x f c P) (h : CodeOf K f cdv) : cdv = .ref c := by
  obtain ⟨oc, od, fd, osl, lk, rfl⟩ := h
  have t := T.at_
  unfold PySem.W.tabIn at t
  rw [T.ns] at t
  dsimp only at t
  rw [lk] at t
  dsimp only at t
  cases q : fd.code with
  | ref c0 =>
    rw [q] at t
    dsimp only at t
    split at t
    · split at t
      · cases t; rfl
      · cases t
    · cases t
  | _ => rw [q] at t; cases t
theorem LamT.tab {K : PySem.W.Frag} {x : Str} {f c P : Addr} (T : LamT K x f c P) : (P, lamQ x) ∈ tabsOf K := by
  unfold tabsOf
  exact List.mem_filterMap.mpr ⟨x, T.mem, by rw [T.at_]; rfl⟩
theorem LamT.tb {K : PySem.W.Frag} {mg : Str → Option Value} {base : Heap} {x : Str} {f c P : Addr} (T : LamT K x f c P) (h : Tbs K mg base) : LamX.TabB base mg c P := h (c, P) (List.mem_filterMap.mpr ⟨x, T.mem, T.at_⟩)
theorem takes_len {X : Cx} {W : WX} (tk : Takes X W) : Takes X (fun cls d σ H => σ.length = X.N.length → W cls d σ H) := fun u s' ⟨a, B, sI, pins, σ, H, cls, d, e, I, nb, up, sky, na, os, ag, w⟩ =>
  tk u s' ⟨a, B, sI, pins, σ, H, cls, d, e, I, nb, up, sky, na, os, ag, w (by first | exact I.len | exact I.len.symm)⟩
/-- what the def makes of the lambda's reading -/
def TH (K : PySem.W.Frag) (w : World) (mg : Str → Option Value) (told : Str) (ms : List CM) : (XK → Hp → VK → Prop) → Hp → VK → Prop := fun tl H Q => ∃ (b : Option Addr) (F : AP) (Q0 : DV → Prop), Given K b H F [] [] ∧
  (∀ dv, Q0 dv → ∀ v H' F', After K b H F H' F' → BackR K w b H H' F' v dv → Q v H') ∧
  tl (fun cls d H' => ∃ er F', After K b H F H' F' ∧ ErrR mg K H' F' cls d er ∧ hsel ms er Q0 fun _ => False) H (fun v H' => 2 ≤ sizeLine ∧ ∀ p, H' p = none → Q (.ref p) (upd H' p (.tup [.str told, v])))
theorem after_new {K : PySem.W.Frag} {b : Option Addr} {H H' : Hp} {F F' : AP} {p : Addr} {xs : List V} (a : After K b H F H' F') (hp : H' p = none) : After K b H F (upd H' p (.tup xs)) (fun x => F' x ∨ x = p) where
  keep := fun x o e nb nt => by
    have q := a.keep x o e nb nt
    rw [upd_ne (ne_of_none q hp)]; exact q
  sub := fun x z => .inl (a.sub x z)
  new := fun x z => by
    rcases z with z | rfl
    · exact a.new x z
    · refine .inr fun o e => ?_
      by_cases nt : ∃ ps, o = HO.tbl ps
      · exact nt
      · by_cases nb : b = some x
        · obtain ⟨⟨_, _, _, _, _, g1, _⟩, _⟩ := a.bag x nb
          rw [hp] at g1; cases g1
        · have q := a.keep x o e nb fun ps w => nt ⟨ps, w⟩
          rw [hp] at q; cases q
  trk := fun x z => by
    rcases z with z | rfl
    · rw [upd_ne (show x ≠ p from fun q => a.trk x z (by rw [q]; exact hp))]; exact a.trk x z
    · rw [upd_same]; simp
  bag := fun x e => by
    obtain ⟨k, nf⟩ := a.bag x e
    obtain ⟨c, i, j, k', cells, h1, h2, h3⟩ := k
    have l : Later H' F' (upd H' p (.tup xs)) (fun x => F' x ∨ x = p) := fun y z => ⟨.inl z, upd_ne fun q => a.trk y z (q ▸ hp)⟩
    refine ⟨⟨c, i, j, k', cells, by rw [upd_ne (ne_of_none h1 hp)]; exact h1, h2.mono l, h3⟩, fun z => ?_⟩
    rcases z with z | rfl
    · exact nf z
    · rw [hp] at h1; cases h1
  tb := a.tb.grow (fun x o e => by rw [upd_ne (ne_of_none e hp)]; exact e) (fun _ z => z.elim) fun x z => by
    rcases z with z | rfl
    · exact .inl ⟨z, a.trk x z⟩
    · exact .inr (nt_tup upd_same)
/-- the slots of the clauses' names are among n -/
def okSlots (ms : List CM) (n : Nat) : Bool := ms.all fun m => match m.o with
  | some i => decide (i < n)
  | none => true
theorem slots_of {ms : List CM} {n : Nat} (h : okSlots ms n = true) : ∀ m ∈ ms, ∀ i, m.o = some i → i < n := fun m hm i e => by
  have z := List.all_eq_true.mp h m hm
  rw [e] at z
  exact of_decide_eq_true z
theorem heard_gives {X : Cx} {Ng : List Str} {x a q told : Str} {sg : Scope} {g : Addr} {cdg : Value} {hd : ExceptHandler} {hs : List ExceptHandler} {ms : List CM} {j k : Nat} {p0 p1 p2 p3 p4 p5 : Pos} (hN : Ng.Nodup) (hms : okSlots ms Ng.length = true) (h0 : ∀ f : Addr, (L2.start Ng [V.ref f])[0]? = some (some (V.ref f)))
    (hcl : ∀ (s : Shared) (H : Hp), DCls (cxOf C8.CX0 X.prog X.w X.K X.mg X.base Ng x sg g cdg X.A X.stack s H C8.E0).nox (hd :: hs) ms) :
    LamX.GivesTo X Ng x sg g cdg [.Try [.Return (some (.Tuple [.Constant (.str told) j p0, .Call (.Name a p1) [] [] p2] k p3)) p4] (hd :: hs) [] [] p5] a q (TH X.K X.w X.mg told ms) := by
  intro f c' s H Q tl act hc ⟨b, F, Q0, g0, kQ, ht⟩
  obtain ⟨l, ok, ent⟩ := (hcl s H).mix (W := fun _ _ _ _ => False)
  refine ⟨_, pss_one (ps_try_mix (X := (cxOf C8.CX0 X.prog X.w X.K X.mg X.base Ng x sg g cdg X.A X.stack s H C8.E0).nox)
      (tb := fun W D σ H => ∃ Ech : XK, (∀ cls d σ' H', Ech cls d H' → σ'.length = Ng.length → W cls d σ' H') ∧ σ[0]? = some (some (.ref f)) ∧ H c' = some (LamX.CodeO c' q) ∧ tl Ech H fun v H' => 2 ≤ sizeLine ∧ ∀ p, H' p = none → D.rt (.ref p) (upd H' p (.tup [.str told, v])))
      rfl rfl hN takes0 (fun W pn xe tk _ => ?_) ok), ?_⟩
  · refine ⟨fun pins s' σ H' D I h' => ?_⟩
    obtain ⟨Ech, hW, h1, h2, h3⟩ := h'
    have hp := act (fun cls d σ H => σ.length = Ng.length → W cls d σ H) pn xe Ech p1 p2 (takes_len tk) hW
    have hq := pss_one (ps_ret (pos := p4) (pe_tup (x1 := k) (pos := p3) (pa_cons (pe_str (pos := p0) (j := j) (x := told)) (pa_cons hp pa_nil))))
    exact hq.run pins s' σ H' D I ⟨h1, h2, h3⟩
  · refine ⟨fun cls d H' => ∃ er F', After X.K b H F H' F' ∧ ErrR X.mg X.K H' F' cls d er ∧ hsel ms er Q0 fun _ => False, fun cls d σ' H' ⟨er, F', af, hE, hh⟩ hlen => ?_, h0 f, hc, ht⟩
    exact ent ⟨X.K, X.w, b, Zs b H, H, F⟩ (List.replicate σ'.length none) σ' H' F' cls d er _ Q0 (fun _ => False) rfl (rep_empty g0 af σ') hE (fun m hm i e => by rw [List.length_replicate, hlen]; exact slots_of hms m hm i e)
      (fun v H2 F2 dv fi rr q0 => kQ dv q0 v H2 F2 (after_of g0 fi) (backR_of rr)) (fun z => z) hh
/-- x(lambda: e) -/
theorem de_lam {X : Cx} {W : WX} {x a xq told : Str} {g c P fq : Addr} {k : Nat} {st : Stmt} {fd : FuncData} {Ng : List Str} {params : Arguments} {body : Expr} {scope : Scope} {p lpos pos : Pos} {f : TX} {ms : List CM} (vs : List Nat) (F : Fun X.K x x st g fd) (hm : X.mg x = some (.ref g)) (hb : Binds X.K fd [a] [])
    (Sg : FnScope Ng [a] (defScope st)) (hNg : Ng[0]? = some a) (hva : Vis (defScope st) a) (hG : ∀ cdg, LamX.GivesTo X Ng x (defScope st) g cdg (defBody st) a (X.env.qual ++ "<lambda>") (TH X.K X.w X.mg told ms))
    (L : LamT X.K xq fq c P) (tbs : Tbs X.K X.mg X.base) (hq : X.env.qual ++ "<lambda>" = lamQ xq) (hcode : X.env.code = .ref c) (hr : Room (k + 2) X.A) (hls : LamX.LamS X.env.scope scope) (hdef : defaultsOf params X.env = ([], []))
    (hbind : ∀ (q : Str) (cl : List (Str × Addr)) (pm cv ctv : Value), bindArgs (PySem.W.kla_fn "<lambda>" q params body scope cl pm cv ctv) ⟨[], []⟩ = pure [])
    (hbody : ∀ (Y : Cx) (W' : WX), Takes Y W' → Room k Y.A → (∃ (A : Around) (outer : List PySem.Env) (s : Shared) (H : Hp) (E : XK) (f c' : Addr), Y = LamX.lamCx X A outer s H E scope f c' ∧ W' = fun cls d _ H' => E cls d H') → DE Y W' body f)
    (hg : Gl X x := by rfl) (hdb : (x == ("__debug__" : Str)) = false := by decide) (hd : (a == ("__debug__" : Str)) = false := by decide) (hcd : (a == ("__classdict__" : Str)) = false := by decide) : DE X W (.Call (.Name x p) [.Lambda params body scope lpos] [] pos) (xLam told ms vs f) := by
  have hk := F.kp
  obtain ⟨oc, od, kV, doc, pm, an, cdv, ct, osl, rfl, lk, hcg⟩ := F.ex
  refine ⟨⟨_, LamX.pe_lamcall (k := k) (T := tabsOf X.K) (t := fun E => tCan X.K X.w X.mg (fun cls d _ H' => E cls d H') f) hg hm hk lk hcg hb Sg hNg hva (hG cdv) (L.tb tbs) hcode (by rw [hq]; exact L.tab) (fun p hp e => by rw [hq]; exact L.un p hp e) hr hls hdef hbind
    (fun A outer s H E f c' hr2 => (hbody _ _ (takes_of rfl rfl rfl rfl) hr2 ⟨A, outer, s, H, E, f, c', rfl, rfl⟩).can) hdb hd hcd, fun C r σ H F0 Q Xk QV hK R Lk hf kk => ?_⟩⟩
  refine ⟨hK ▸ R.tb.tab, fun H1 ext tab1 => ?_⟩
  obtain ⟨F1, R1, _⟩ := rep_frz R vs
  have R2 := rep_ext R1 ext (hK ▸ tab1)
  have g2 := given_of R2
  refine ⟨C.b, F1, fun dv => Q dv (frz r vs), hK ▸ g2, fun dv q v H' F' af br => ?_, ?_⟩
  · obtain ⟨R3, _⟩ := rep_after R2 (hK ▸ af)
    exact kk v H' F' dv _ R3 (res_back R2 (hK ▸ Lk.w ▸ br) |> fun z => by
      cases z with
      | dat s => exact .dat s
      | own h1 h2 h3 h4 h5 h6 => exact .own h1 h2 h3 h4 h5 h6
      | dct h1 h3 h4 h5 h6 => exact .dct h1 h3 h4 h5 h6
      | nd s n => exact .nd s n
      | rng n => exact .rng n
      | bag s => exact .bag s) q
  · refine ⟨⟨C.K, C.w, C.b, Zs C.b H1, H1, F1⟩, bare (frz r vs), F1, _, _, hK, rep_bare R2, ⟨Lk.w, fun er r' H' F' cls d R' hE q => ⟨er, F', hK ▸ after_of g2 R'.fin, hK ▸ hE, q⟩⟩, hf, fun v H' F' dv r' R' G' q => ?_⟩
    split at q
    · rename_i d ed
      obtain ⟨F2, R3, hd2, _⟩ := G'.froz R' ed
      have af := after_of g2 R3.fin
      refine ⟨by rw [line_eq]; decide, fun p hp => ?_⟩
      have af2 := after_new (xs := [.str told, v]) af hp
      obtain ⟨R4, _⟩ := rep_after R2 af2
      have l : Later H' F2 (upd H' p (.tup [.str told, v])) (fun x => F2 x ∨ x = p) := fun y z => ⟨.inl z, upd_ne fun q => R3.ftrk y z (q ▸ hp)⟩
      exact kk _ _ _ _ _ R4 (.dat (.tup (.inl ⟨.inr rfl, .inl upd_same⟩) (.cons (.str _) (.cons (hd2.mono l) .nil)))) q
    · exact q.elim
end DL

/-! DL: isinstance(error, X) in the suite of an except clause; chains of ifs there. -/
namespace DL
open PySem PySem.Spec PyProof.Rows L2
/-- what a class must say so that isinstance asks its instances rightly -/
structure ExcD (K : PySem.W.Frag) (D : Addr) : Prop where
  cl : (PySem.W.clsIn K D).isSome = true
  hg : PySem.W.findIn K (.ref D) "__getattribute__" = some (some (.builtin "BaseException.__getattribute__"))
  hk : PySem.W.findIn K (.ref D) "__getattr__" = some none
  hs : PySem.W.subIn K (.ref D) (.type "BaseException") = some true
  ha : PySem.W.findIn K (.ref D) "__class__" = some (some (.builtin "object.__class__"))
  hn : PySem.W.specialIn K (.builtin "object.__class__") "__get__" = some (some (.builtin "getset_descriptor.__get__"))
  ht : PySem.W.takesIn K (.builtin "object.__class__") = some true
  hm : PySem.W.mroIn K D (.type "object") = some true
def rIsX (K : PySem.W.Frag) (cls : Value) (d : Option Addr) (a : Addr) : List V → Hp → VK → Prop := fun xs H Q => ∃ (D : Addr) (c : V) (cv : Value) (b : Bool), cls = .ref D ∧ ExcD K D ∧ (d = none ∨ ∃ dd fs, d = some dd ∧ H dd = some (.xd fs)) ∧
  xs = [.ref a, c] ∧ (∀ u, RelV c u → u = cv) ∧ PySem.W.kitOne K (.ref D) cv = some b ∧ Q (.bl b) H
theorem call_isX {X : Cx} {a : Addr} {cls : Value} {d : Option Addr} {oe : Obj} {pn : List (Addr × Obj)} (hz : Zc cls d oe) (hf : ∃ vs, oe.data = .fields vs) : CallR (X.suite a ((a, oe) :: pn)) (.builtin "isinstance") (rIsX X.K cls d a) := by
  intro pins s σ H xs us Q I r h
  obtain ⟨D, c, cv, b, rfl, C, hd, rfl, hcv, e, q⟩ := h
  cases r with
  | cons rx rr =>
    cases rr with
    | cons rt rr =>
      cases rr
      cases rx
      have ec := hcv _ rt
      subst ec
      obtain ⟨hget, _⟩ := I.pin (a, oe) (List.mem_append.mpr (.inl List.mem_cons_self))
      obtain ⟨vs, hv⟩ := hf
      have J : ∃ od, PySem.W.InstAt s.heap a oe D od := by
        rcases hd with rfl | ⟨dd, fs, rfl, ea⟩
        · exact ⟨none, hget, hz.1, by unfold PySem.W.notCls; rw [hv] <;> rfl, by rw [hz.2]; trivial⟩
        · have hx : ObjOk X.prog X.w H s.heap dd (.xd fs) := I.hok dd _ ea
          obtain ⟨mA, hns, hr⟩ := hx
          obtain ⟨od, ho, hl⟩ := lookIn_ns hns
          exact ⟨some od, hget, hz.1, by unfold PySem.W.notCls; rw [hv] <;> rfl, by rw [hz.2]; exact ho⟩
      obtain ⟨od, J⟩ := J
      exact PySem.W.kia_one (PySem.W.kitx_exc C.cl C.hg C.hk C.hs C.ha C.hn C.ht C.hm) I.kIn J e (fun z => nomatch z) fun tk => ⟨.bl b, H, I.kept (t' := tk) fun _ _ z => z, rfl, q⟩
/-- which errors are of the class cv -/
def Isn (K : PySem.W.Frag) (mg : Str → Option Value) (cv : Value) (cs : List (Str × Bool)) : Prop := ∀ y b, cs.lookup y = some b → ∀ Cc, mg y = some (.ref Cc) → ExcD K Cc ∧ PySem.W.kitOne K (.ref Cc) cv = some b
theorem isn_nil {K : PySem.W.Frag} {mg : Str → Option Value} {cv : Value} : Isn K mg cv [] := fun _ _ h => by cases h
theorem isn_cons {K : PySem.W.Frag} {mg : Str → Option Value} {cv : Value} {cs : List (Str × Bool)} {x : Str} {b : Bool} {C : Addr} (g : mg x = some (.ref C)) (e1 : ExcD K C) (e2 : PySem.W.kitOne K (.ref C) cv = some b) (h : Isn K mg cv cs) : Isn K mg cv ((x, b) :: cs) := fun y c hl Cc m => by
  by_cases q : y = x
  · subst q
    simp [List.lookup] at hl
    subst hl
    rw [g] at m
    cases m
    exact ⟨e1, e2⟩
  · have qq : (y == x) = false := by simpa using q
    simp [List.lookup, qq] at hl
    exact h y c hl Cc m
/-- a test in a suite -/
structure DHT (X : Cx) (i : Nat) (e : Expr) (cs : List (Str × Bool)) : Prop where
  ex : ∀ (a : Addr) (oe : Obj) (cls : Value) (d : Option Addr) (pn : List (Addr × Obj)), Zc cls d oe → (∃ vs, oe.data = .fields vs) → ∃ t, PT (X.suite a ((a, oe) :: pn)) e t ∧
    ∀ (σ : L2.St) (H : Hp) (F : AP) (er : Err) (Q : Bool → Hp → Prop), σ[i]? = some (some (.ref a)) → ErrR X.mg X.K H F cls d er → (∃ b, cs.lookup er.cls = some b ∧ Q b H) → t σ H Q
def hIf (cs : List (Str × Bool)) (h1 h2 : SH) : SH := fun er Q => match cs.lookup er.cls with
  | some true => h1 er Q
  | some false => h2 er Q
  | none => False
section
variable {X : Cx} {i j k : Nat} {e : Expr} {es es' : List Expr} {st rest : List Stmt} {p p1 p2 pos pos' : Pos} {n x : Str} {C : Addr} {cs : List (Str × Bool)} {g1 g2 : SH} {t1 t2 : GHs}
theorem dt_is (hm : X.mg "isinstance" = none) (hN : X.N[i]? = some n) (hv : Vis X.env.scope n) (hc : X.mg x = some (.ref C)) (hcs : Isn X.K X.mg (.ref C) cs) (hg : Gl X "isinstance" := by rfl) (hg2 : Gl X x := by rfl)
    (hd : (n == ("__debug__" : Str)) = false := by decide) (hcd : (n == ("__classdict__" : Str)) = false := by decide) (hd2 : (x == ("__debug__" : Str)) = false := by decide) :
    DHT X i (.Call (.Name "isinstance" p) [.Name n p1, .Name x p2] [] pos) cs := ⟨fun a oe cls d pn hz hf => by
  refine ⟨_, pt_val (pe_callB (call_isX hz hf) hg hm rfl (pa_cons (pe_var (X := X.suite a ((a, oe) :: pn)) hN hv hd hcd) (pa_cons (pe_glob (v := .ref C) hg2 hc rfl hd2) pa_nil))), fun σ H F er Q hσ hE ⟨b, hl, q⟩ => ?_⟩
  obtain ⟨Cc, m1, rfl, hE⟩ := hE
  obtain ⟨z1, z2⟩ := hcs _ _ hl _ m1
  refine ⟨_, hσ, Cc, .ref C, .ref C, b, rfl, z1, ?_, rfl, fun u h => h, z2, b, rfl, q⟩
  rcases hE with ⟨_, h⟩ | ⟨dd, vs, h, hH, _⟩
  · exact .inl h
  · exact .inr ⟨dd, _, h, hH⟩⟩
theorem dh_if (ht : DHT X i e cs) (h1 : DH X i st g1) (h2 : DH X i rest g2) : DH X i (.If e st [] pos :: rest) (hIf cs g1 g2) := ⟨fun a oe cls d pn hz hf => by
  obtain ⟨t, pt, kt⟩ := ht.ex a oe cls d pn hz hf
  obtain ⟨t1, ps1, k1⟩ := h1.ex a oe cls d pn hz hf
  obtain ⟨t2, ps2, k2⟩ := h2.ex a oe cls d pn hz hf
  refine ⟨_, pss_cons (ps_if pt ps1 pss_nil) ps2, fun C r σ H F er Q D' hK R hσ hE q k => ?_⟩
  refine kt σ H F er _ hσ (hK ▸ hE) ?_
  unfold hIf at q
  split at q
  · rename_i hl
    exact ⟨true, hl, k1 C r σ H F er Q _ hK R hσ hE q k⟩
  · rename_i hl
    exact ⟨false, hl, k2 C r σ H F er Q D' hK R hσ hE q k⟩
  · exact q.elim⟩
theorem dh_retIf (ht : DHT X i e cs) (h1 : DHS X i es t1) (h2 : DHS X i es' t2) : DH X i [.Return (some (.IfExp e (.Tuple es j p) (.Tuple es' k p1) p2)) pos] (hIf cs (hRetT t1) (hRetT t2)) := ⟨fun a oe cls d pn hz hf => by
  obtain ⟨t, pt, kt⟩ := ht.ex a oe cls d pn hz hf
  obtain ⟨u1, ps1, k1⟩ := h1.ex a oe cls d pn hz hf
  obtain ⟨u2, ps2, k2⟩ := h2.ex a oe cls d pn hz hf
  refine ⟨_, pss_one (ps_ret (pe_ifExp pt (pe_tup ps1) (pe_tup ps2))), fun C r σ H F er Q D' hK R hσ hE q k => ?_⟩
  refine kt σ H F er _ hσ (hK ▸ hE) ?_
  unfold hIf at q
  split at q
  · rename_i hl
    refine ⟨true, hl, k1 σ H F er _ _ hσ hE q fun vs ys hvs q1 => ⟨by rw [line_eq, hvs.length]; exact q1.1, fun pa hp => ?_⟩⟩
    obtain ⟨R2, G2, _⟩ := R.freshTup hp (hK ▸ hvs)
    exact k _ _ _ _ R2.fin G2.ret q1.2
  · rename_i hl
    refine ⟨false, hl, k2 σ H F er _ _ hσ hE q fun vs ys hvs q1 => ⟨by rw [line_eq, hvs.length]; exact q1.1, fun pa hp => ?_⟩⟩
    obtain ⟨R2, G2, _⟩ := R.freshTup hp (hK ▸ hvs)
    exact k _ _ _ _ R2.fin G2.ret q1.2
  · exact q.elim⟩
end
end DL

/-! DL: sorted(d.items()), the keys texts or numbers, the values texts or numbers. -/
namespace DL.SI
open PySem PySem.Spec PyProof.Rows PyProof.Rows.G L2 L2.DX
/-- whether a key is a text -/
def isS : Key → Bool
  | .inl _ => false
  | .inr _ => true
/-- what is compared of it -/
def ik : Key → Int ⊕ List Nat
  | .inl i => .inl i
  | .inr x => .inr x.cps.toList
def sh (b0 b1 : Bool) (i : Nat) : Bool := if i = 0 then b0 else b1
theorem items_cons {f : Nat → Bool} {i : Nat} {k : Key} {v : Value} {r : List Value} {l : List (Int ⊕ List Nat)} (hk : keyIs k v = true) (hs : f i = isS k) (hr : tupItems f (i + 1) r = some l) : tupItems f i (v :: r) = some (ik k :: l) := by
  rcases keyIs_shape hk with ⟨j, t, rfl, rfl⟩ | ⟨x, t, rfl, rfl⟩
  · simp only [tupItems]
    rw [hs, hr]
    rfl
  · simp only [tupItems]
    rw [hs, hr]
    rfl
theorem items_two {k m : Key} {u v : Value} (hu : keyIs k u = true) (hv : keyIs m v = true) : tupItems (sh (isS k) (isS m)) 0 (#[u, v] : Array Value).toList = some [ik k, ik m] :=
  items_cons hu rfl (items_cons hv rfl rfl)
theorem first_is {k m : Key} {u : Value} (hu : keyIs k u = true) : (sh (isS k) (isS m) 0 = false → ∃ i t, u = .int i t) ∧ (sh (isS k) (isS m) 0 = true → ∃ x t, u = .str x t) := by
  rcases keyIs_shape hu with ⟨j, t, rfl, rfl⟩ | ⟨x, t, rfl, rfl⟩
  · exact ⟨fun _ => ⟨_, _, rfl⟩, fun e => (by cases e)⟩
  · exact ⟨fun e => (by cases e), fun _ => ⟨_, _, rfl⟩⟩
theorem keyIs_of {k : Key} {u : Value} (r : RelV (kV k) u) : keyIs k u = true := by
  cases k with
  | inl i =>
    obtain ⟨t, rfl⟩ := (show ∃ t, u = Value.int i t from r)
    exact keyIs_int i t
  | inr x =>
    obtain ⟨t, rfl⟩ := (show ∃ t, u = Value.str x t from r)
    exact keyIs_str x t
theorem tups_of {h : Heap} {f : Nat → Bool} : ∀ as : List Addr, (∀ b ∈ as, ∃ g, TupOf h f (.ref b) g) → ∃ fs, TupsOf h f (as.map Value.ref) fs
  | [], _ => ⟨[], .nil⟩
  | b :: as, x => by
    obtain ⟨g, hg⟩ := x b (List.mem_cons_self ..)
    obtain ⟨fs, hf⟩ := tups_of as fun c hc => x c (List.mem_cons_of_mem _ hc)
    exact ⟨g :: fs, .cons hg hf⟩
theorem pairs_get {prog : Program} {w : World} {κ : Type} [DecidableEq κ] {knd : PySem.KeyKind prog w κ} : ∀ {es : List DictEntry} {kvs : List (κ × Value)} {j : Nat} {e : DictEntry}, Pairs knd es kvs → es[j]? = some e → ∃ kv, kvs[j]? = some kv ∧ knd.is kv.1 e.key = true ∧ e.val = kv.2
  | _, _, 0, e, .cons h1 h2 h3, q => by
    cases q
    exact ⟨_, rfl, h1, h2⟩
  | _, _, j + 1, e, .cons h1 h2 h3, q => by
    obtain ⟨kv, a, b⟩ := pairs_get (j := j) h3 (by simpa using q)
    exact ⟨kv, by simpa using a, b⟩
def rSortItK : List V → Hp → VK → Prop := fun vs H Q => ∃ (p a : Addr) (ks : List (Key × Key)) (b0 b1 : Bool), vs = [.ref p] ∧ H p = some (itemsO p a) ∧ H a = some (.dK (ks.map fun e => (e.1, kV e.2))) ∧ (∀ e ∈ ks, isS e.1 = b0 ∧ isS e.2 = b1) ∧
  ∀ (H' : Hp) (l : Addr) (zs : List (Addr × Key × Key)), (∀ b o, H b = some o → H' b = some o) → H l = none → (zs.map (·.2)).Perm ks → (zs.map (·.2)).Pairwise (fun e f => (listOrd itemOrd).blt [ik f.1, ik f.2] [ik e.1, ik e.2] = false) → (ks.map (·.1)).Nodup →
    H' l = some (.lst (zs.map fun z => V.ref z.1)) → (∀ z ∈ zs, H z.1 = none ∧ H' z.1 = some (.tup [kV z.2.1, kV z.2.2])) → Q (.ref l) H'
theorem cr_sortItK {X : Cx} (hc : X.calm = true) : CallR X (.builtin "sorted") rSortItK := by
  intro pins s σ H xs us Q I r h
  obtain ⟨p, a, ks, b0, b1, rfl, hp, ha, hsh, q⟩ := h
  obtain rfl := Vals.ref1 r
  have vw := (show ObjOk X.prog X.w H s.heap p (itemsO p a) from I.hok p _ hp).1
  obtain ⟨hz, hd, vs, kv, o, es, ep, ho, hx, hdat, hks, hpr, hnd⟩ := dk_of I.hok ha
  have n1 : vs.length = ks.length := by
    have e := Paired.length kv
    rw [List.length_map] at e
    exact e.symm
  have n2 : es.size = ks.length := by rw [← n1, ← hpr.length, Array.length_toList]
  rw [List.length_map] at hz
  refine DT.sortedI (es := es) (ep := ep) (I.ok.hd hc) vw ⟨o, ho, hx, hdat⟩ (by omega) fun h1 tk as old big len made => ?_
  have nas : as.length = ks.length := by omega
  have ndas : as.Nodup := made.rise.imp fun h => Nat.ne_of_lt h
  have pr : ∀ (j : Nat) (b : Addr), as[j]? = some b → ∃ (e : Key × Key) (u v : Value), ks[j]? = some e ∧ h1.get? b = some { cls := .type "tuple", data := .seq #[u, v] } ∧ keyIs e.1 u = true ∧ RelV (kV e.2) v := by
    intro j b hj
    obtain ⟨en, he, hg⟩ := made.pairs j b hj
    obtain ⟨y, hy, y1, y2⟩ := pairs_get (j := j) (e := en) hpr (by rw [Array.getElem?_toList]; exact he)
    obtain ⟨k, hk, k1, k2⟩ := pget kv hy
    rw [List.getElem?_map] at hk
    cases hkj : ks[j]? with
    | none => rw [hkj] at hk; cases hk
    | some e =>
      rw [hkj] at hk
      cases hk
      exact ⟨e, en.key, en.val, rfl, hg, by rw [show e.1 = y.1 from k1]; exact y1, by rw [y2]; exact k2⟩
  have low : ∀ (b : Addr) (ob : Obj), h1.get? b = some ob → b ≠ h1.objs.size := fun b ob e => Nat.ne_of_lt (Heap.lt_size e)
  generalize eh : h1.push { cls := .type "list", data := .seq (as.map Value.ref).toArray } = h2
  have hob : h2.get? h1.objs.size = some (seqObj "list" (as.map Value.ref).toArray 0) := by rw [← eh]; exact Heap.get?_push_size _ rfl
  have k12 : ∀ (b : Addr) (ob : Obj), h1.get? b = some ob → h2.get? b = some ob := fun b ob e => by rw [← eh]; exact Heap.get?_push_of_some _ e
  have key : ∀ (j : Nat) (b : Addr) (e : Key × Key), as[j]? = some b → ks[j]? = some e → tupKeyC h2 (sh b0 b1) (.ref b) = some [ik e.1, ik e.2] ∧ ∃ g, TupOf h2 (sh b0 b1) (.ref b) g := by
    intro j b e hj he
    obtain ⟨e', u, v, he', hg, hu, hv⟩ := pr j b hj
    cases he.symm.trans he'
    obtain ⟨rfl, rfl⟩ := hsh e (List.mem_of_getElem? he)
    exact ⟨tupKeyC_of (k12 _ _ hg) rfl rfl (items_two hu (keyIs_of hv)), u, b, _, #[u, v], 0, rfl, k12 _ _ hg, rfl, rfl, rfl, first_is hu⟩
  have at1 : ∀ b ∈ as, ∃ (j : Nat) (e : Key × Key), as[j]? = some b ∧ ks[j]? = some e := fun b hb => by
    obtain ⟨j, hj⟩ := List.mem_iff_getElem?.mp hb
    obtain ⟨e, _, _, he, _⟩ := pr j b hj
    exact ⟨j, e, hj, he⟩
  obtain ⟨fs, hfs⟩ := tups_of (h := h2) (f := sh b0 b1) as fun b hb => by
    obtain ⟨j, e, hj, he⟩ := at1 b hb
    exact (key j b e hj he).2
  refine wpAny_call_entry (T := "list") PyProof.Rows.slot_list_sort ⟨_, hob, rfl⟩ PyProof.Rows.entry_list_sort
    (list_sort_tups (s := { s with heap := h2, toks := tk }) hob hfs (fun v hv => ?_) (by rw [List.length_map]; omega) fun st' a1 a2 _ => ⟨.none, rfl, ?_⟩) (PyProof.Rows.args_list_sort _)
  · obtain ⟨b, hb, rfl⟩ := List.mem_map.mp hv
    obtain ⟨j, e, hj, he⟩ := at1 b hb
    exact ⟨_, (key j b e hj he).1⟩
  show EP X pins σ Q (.ref h1.objs.size) { s with heap := sortedHeap h2 h1.objs.size (as.map Value.ref) ((arrOf st').map (·.2)), toks := tk }
  have a3 : (arrOf st').toList.Perm ((as.map Value.ref).zip (as.map Value.ref)) := by
    rw [← pairsOf_toList]
    exact Array.perm_iff_toList_perm.mp a1
  obtain ⟨zs, pz, ez⟩ := perm_lift (fun z : Addr × Key × Key => (Value.ref z.1, Value.ref z.1)) a3 (as.zip ks) (zip_self Value.ref as ks nas)
  have idx : ∀ z ∈ zs, ∃ j : Nat, as[j]? = some z.1 ∧ ks[j]? = some z.2 := fun z hz => by
    obtain ⟨j, hj⟩ := List.mem_iff_getElem?.mp (pz.mem_iff.mp hz)
    exact ⟨j, List.getElem?_zip_eq_some.mp hj⟩
  have outs : ((arrOf st').map (·.2)).toList = zs.map fun z => Value.ref z.1 := by
    rw [Array.toList_map, ← ez, List.map_map]
    rfl
  have perm2 : (zs.map (·.2)).Perm ks := by
    have e := pz.map (·.2)
    rw [List.map_snd_zip (by omega)] at e
    exact e
  have nz : zs.length = ks.length := by
    have e := perm2.length_eq
    rw [List.length_map] at e
    exact e
  have srt : (zs.map (·.2)).Pairwise (fun e f => (listOrd itemOrd).blt [ik f.1, ik f.2] [ik e.1, ik e.2] = false) := by
    rw [List.pairwise_map, List.pairwise_iff_getElem]
    intro i j hi hj hij
    have g : ∀ (m : Nat) (hm : m < zs.length), KK (tupKindC h2 (sh b0 b1)) (arrOf st') m = [ik zs[m].2.1, ik zs[m].2.2] := by
      intro m hm
      obtain ⟨c, c1, c2⟩ := idx zs[m] (List.getElem_mem hm)
      have e : (arrOf st')[m]? = some (Value.ref zs[m].1, Value.ref zs[m].1) := by
        rw [← Array.getElem?_toList, ← ez, List.getElem?_map, List.getElem?_eq_getElem hm]
        rfl
      unfold KK
      rw [e]
      show (tupKeyC h2 (sh b0 b1) (.ref zs[m].1)).getD [] = _
      rw [(key c _ _ c1 c2).1]
      rfl
    have d := a2 i j (Nat.le_of_lt hij) (by rw [pairsOf_size, List.length_map]; omega)
    rw [g i hi, g j hj] at d
    exact d
  have kF : ∀ (b : Addr) (ob : Obj), h1.get? b = some ob → (sortedHeap h2 h1.objs.size (as.map Value.ref) ((arrOf st').map (·.2))).get? b = some ob := fun b ob e =>
    (sortedHeap_old (low b ob e) (Heap.lt_size (k12 b ob e))).trans (k12 b ob e)
  obtain ⟨eF, hF⟩ := sortedHeap_at (vs := as.map Value.ref) (out := (arrOf st').map (·.2)) hob
  have I1 : Inv X pins σ H { s with heap := sortedHeap h2 h1.objs.size (as.map Value.ref) ((arrOf st').map (·.2)), toks := tk } := I.kept (t' := tk) fun b ob e => kF b ob (old b ob e)
  have fresh : H h1.objs.size = none := I.hok.fresh (Nat.le_of_lt big)
  have I2 : Inv X pins σ (upd H h1.objs.size (.lst (zs.map fun z => V.ref z.1))) { s with heap := sortedHeap h2 h1.objs.size (as.map Value.ref) ((arrOf st').map (·.2)), toks := tk } := by
    refine I1.take (t' := tk) (fun b ob _ e => e) (I.fpOk (Nat.le_of_lt big) fresh) ⟨?_, ((arrOf st').map (·.2)).toList, eF, ?_, hF⟩
    · rw [List.length_map, nz]
      exact hz
    · rw [outs]
      exact vals_maps (fun z : Addr × Key × Key => V.ref z.1) (fun z => Value.ref z.1) zs fun _ _ => rfl
  obtain ⟨H2, I3, g, qt⟩ := L2.DX.takeT (P := fun b vs => ∃ (j : Nat) (e : Key × Key), as[j]? = some b ∧ ks[j]? = some e ∧ vs = [kV e.1, kV e.2]) I as _ I2 ndas fun b hb => by
    obtain ⟨j, hj⟩ := List.mem_iff_getElem?.mp hb
    obtain ⟨e, u, v, he, hg, hu, hv⟩ := pr j b hj
    have hbl := Nat.le_of_lt (made.above b hb)
    refine ⟨hbl, ?_, [kV e.1, kV e.2], ⟨j, e, hj, he, rfl⟩, fun H3 => ⟨(by rw [sizeLine_eq]; show 2 ≤ 16777216; omega), [u, v], .cons (keyIs_rel hu) (.cons hv .nil), ⟨_, kF _ _ hg, rfl, 0, rfl⟩⟩⟩
    rw [upd_ne (low _ _ hg)]
    exact I.hok.fresh hbl
  have gr : ∀ (b : Addr) (ob : HO), H b = some ob → H2 b = some ob := fun b ob e => g b ob (by rw [upd_ne (ne_of_none e fresh)]; exact e)
  have ndk : (ks.map (·.1)).Nodup := by
    have e : vs.map (·.1) = ks.map (·.1) := by
      refine List.ext_getElem? fun j => ?_
      rw [List.getElem?_map, List.getElem?_map]
      cases ej : vs[j]? with
      | none =>
        rw [List.getElem?_eq_none_iff] at ej
        rw [List.getElem?_eq_none (by omega)]
        rfl
      | some y =>
        obtain ⟨k, hk, k1, _⟩ := pget kv ej
        rw [List.getElem?_map] at hk
        cases hkj : ks[j]? with
        | none => rw [hkj] at hk; cases hk
        | some e =>
          rw [hkj] at hk
          cases hk
          exact congrArg some k1.symm
    rw [← e]
    exact hnd
  refine ⟨.ref h1.objs.size, H2, I3, rfl, q H2 h1.objs.size zs gr fresh perm2 srt ndk (g _ _ upd_same) fun z hz' => ?_⟩
  obtain ⟨i, i1, i2⟩ := idx z hz'
  have hb : z.1 ∈ as := List.mem_of_getElem? i1
  obtain ⟨vs', ⟨j, e, j1, j2, ev⟩, hH⟩ := qt z.1 hb
  have eij : i = j := (List.getElem?_inj (List.getElem?_eq_some_iff.mp i1).1 ndas).mp (i1.trans j1.symm)
  subst eij
  cases i2.symm.trans j2
  subst ev
  exact ⟨I.hok.fresh (Nat.le_of_lt (made.above _ hb)), hH⟩
end DL.SI

/-! DL: sorted(d.items()) as an expression; constant tuples of texts; x in a tuple of data of any depth; sorted(xs) of numbers. -/
namespace DL
open PySem PySem.Spec PyProof.Rows L2
/-! ### sorted(d.items()) -/
def shapeD : Bool → D → Prop
  | true, d => ∃ x, d = .str x
  | false, d => ∃ i, d = .int i
abbrev prD (p : Str × D) : D := .tuple [.str p.1, p.2]
abbrev kvD (p : Str × D) : D × D := (.str p.1, p.2)
def xSortIt (i : Nat) : TX := fun _ r Q => ∃ (ss : List (Str × D)) (b : Bool), sl r i = some (.dct false (ss.map kvD)) ∧ (∀ p ∈ ss, shapeD b p.2) ∧
  ∀ ys : List (Str × D), ys.Perm ss → ys.Pairwise (fun e f => ¬ f.1.cps.toList < e.1.cps.toList) → (ss.map (·.1)).Nodup → Q (.own (ys.map prD)) r
section
variable {X : Cx}
def rItemsK : V → List V → Hp → VK → Prop := fun x xs H Q => ∃ (a : Addr) (kvs : List (Key × V)), x = .ref a ∧ xs = [] ∧ H a = some (.dK kvs) ∧ ∀ p, H p = none → Q (.ref p) (upd H p (L2.DX.itemsO p a))
theorem mt_itemsK : MtR X "dict.items" rItemsK := by
  intro pins s σ H x xs v us Q I rx rxs h
  obtain ⟨a, kvs, rfl, rfl, ha, q⟩ := h
  cases rx
  cases rxs
  obtain ⟨_, hd, vs, kv, o, es, ep, ho, hx, hdat, _⟩ := dk_of I.hok ha
  refine DT.callItems (es := es) (ep := ep) hd ⟨o, ho, hx, hdat⟩ ?_
  refine ⟨.ref s.heap.objs.size, upd H s.heap.objs.size (L2.DX.itemsO s.heap.objs.size a), ?_, rfl, q _ (I.hok.fresh (Nat.le_refl _))⟩
  exact I.laid (t' := s.toks) (fun b u e => Heap.get?_push_of_some _ e) (Nat.le_refl _) (L2.DX.itemsO_ok (Heap.get?_push_size _ rfl))
theorem key_str {K : PySem.W.Frag} {H : Hp} {F : AP} : ∀ {ps : List (Key × V)} {ss : List (Str × D)} {b : Bool}, KvR K H F keyD ps (ss.map kvD) → (∀ p ∈ ss, shapeD b p.2) →
    ∃ ks : List (Key × Key), ps = ks.map (fun e => (e.1, kV e.2)) ∧ ks.length = ss.length ∧ (∀ e ∈ ks, SI.isS e.1 = true ∧ SI.isS e.2 = b) ∧ ∀ z ∈ ks.zip ss, z.1.1 = .inr z.2.1 ∧ DpF K H F (kV z.1.2) z.2.2
  | _, [], b, .nil, _ => ⟨[], rfl, rfl, fun _ h => (by cases h), fun _ h => (by cases h)⟩
  | _, p :: ss, b, .cons (v := v) ek hv hs, hsh => by
    obtain ⟨ks, rfl, e2, e3, e4⟩ := key_str hs fun q hq => hsh q (List.mem_cons_of_mem _ hq)
    cases ek
    have h0 := hsh p (List.mem_cons_self ..)
    obtain ⟨kk, rfl, hb⟩ : ∃ kk : Key, v = kV kk ∧ SI.isS kk = b := by
      cases b with
      | true =>
        obtain ⟨x, ex⟩ := h0
        rw [show (kvD p).2 = p.2 from rfl, ex] at hv
        cases hv
        exact ⟨.inr x, rfl, rfl⟩
      | false =>
        obtain ⟨x, ex⟩ := h0
        rw [show (kvD p).2 = p.2 from rfl, ex] at hv
        cases hv
        exact ⟨.inl x, rfl, rfl⟩
    refine ⟨(.inr p.1, kk) :: ks, rfl, congrArg (· + 1) e2, fun e he => ?_, fun z hz => ?_⟩
    · rcases List.mem_cons.mp he with rfl | he
      · exact ⟨rfl, hb⟩
      · exact e3 e he
    · rw [List.zip_cons_cons] at hz
      rcases List.mem_cons.mp hz with rfl | hz
      · exact ⟨rfl, hv⟩
      · exact e4 z hz
theorem rows_dp {K : PySem.W.Frag} {H : Hp} {F : AP} : ∀ (zs : List (Addr × Key × Key)) (ws : List ((Key × Key) × (Str × D))), ws.map (·.1) = zs.map (·.2) → (∀ z ∈ zs, F z.1 ∧ H z.1 = some (.tup [kV z.2.1, kV z.2.2])) → (∀ w ∈ ws, w.1.1 = .inr w.2.1 ∧ DpF K H F (kV w.1.2) w.2.2) →
    DpFs K H F (zs.map fun z => V.ref z.1) (ws.map fun w => prD w.2)
  | [], [], _, _, _ => .nil
  | [], _ :: _, e, _, _ => by cases e
  | _ :: _, [], e, _, _ => by cases e
  | z :: zs, w :: ws, e, hz, hw => by
    rw [List.map_cons, List.map_cons] at e
    injection e with e1 e2
    obtain ⟨f1, f2⟩ := hz z (List.mem_cons_self ..)
    obtain ⟨g1, g2⟩ := hw w (List.mem_cons_self ..)
    refine .cons (.tup (.inl ⟨f1, .inl f2⟩) ?_) (rows_dp zs ws e2 (fun y hy => hz y (List.mem_cons_of_mem _ hy)) fun y hy => hw y (List.mem_cons_of_mem _ hy))
    rw [← e1]
    rw [g1]
    exact .cons (.str _) (.cons g2 .nil)
end
section
variable {X : Cx} {W : WX} {e ob : Expr} {pos : Pos}
theorem de_sortIt {i : Nat} (hc : X.calm = true) (po : PE X ob (tVar i)) (mk : ∀ {t : TE} {r : List V → Hp → VK → Prop}, CallR X (.builtin "sorted") r → (PE X ob (tVar i) → MtR X "dict.items" rItemsK → PE X e (tCB r (tCons (tBM0 X.K "dict" rItemsK (tVar i)) tNil)))) : DE X W e (xSortIt i) := by
  refine ⟨⟨_, mk (t := tVar i) (SI.cr_sortItK hc) po mt_itemsK, fun C r σ H F Q Xk QV hK R L hf k => ?_⟩⟩
  obtain ⟨ss, b, e0, hsh, hq⟩ := hf
  obtain ⟨v0, s0, sr0⟩ := R.slot i _ e0
  refine ⟨v0, s0, ?_⟩
  cases sr0 with
  | dct g1 g3 =>
    rename_i a
    obtain ⟨ps, h1, h2⟩ := g1.k
    refine ⟨.inr (.inr (.inl ⟨rfl, .inl ⟨_, h1⟩⟩)), a, ps, rfl, rfl, h1, fun p hp => ?_⟩
    obtain ⟨ks, rfl, n1, hks, hz⟩ := key_str h2 hsh
    have H1a : ∀ b o, H b = some o → upd H p (L2.DX.itemsO p a) b = some o := fun b o e => by rw [upd_ne (ne_of_none e hp)]; exact e
    refine ⟨p, a, ks, true, b, rfl, upd_same, H1a _ _ h1, hks, fun H' l zs ext hl perm srt nd hH' hzs => ?_⟩
    have ext2 : ∀ b o, H b = some o → H' b = some o := fun b o e => ext b o (H1a b o e)
    -- the texts that belong to the rows
    have nd1 : ks.map (·.1) = (ss.map (·.1)).map Sum.inr := by
      refine List.ext_getElem? fun j => ?_
      rw [List.getElem?_map, List.map_map, List.getElem?_map]
      by_cases hj : j < ks.length
      · have hj2 : j < ss.length := by omega
        rw [List.getElem?_eq_getElem hj, List.getElem?_eq_getElem hj2]
        have := (hz (ks[j], ss[j]) (List.mem_iff_getElem?.mpr ⟨j, by rw [List.getElem?_zip_eq_some]; exact ⟨List.getElem?_eq_getElem hj, List.getElem?_eq_getElem hj2⟩⟩)).1
        exact congrArg some this
      · rw [List.getElem?_eq_none (by omega), List.getElem?_eq_none (by omega)]
        rfl
    have ndS : (ss.map (·.1)).Nodup := by
      rw [nd1] at nd
      exact (List.pairwise_map.mp nd).imp fun h e => h (congrArg Sum.inr e)
    obtain ⟨ws, pw, ew⟩ := perm_lift (fun z : (Key × Key) × (Str × D) => z.1) perm (ks.zip ss) (List.map_fst_zip (by omega))
    have hw : ∀ w ∈ ws, w.1.1 = .inr w.2.1 ∧ DpF C.K H F (kV w.1.2) w.2.2 := fun w hw => hz w (pw.mem_iff.mp hw)
    have py : (ws.map (·.2)).Perm ss := by
      have e := pw.map (·.2)
      rw [List.map_snd_zip (by omega)] at e
      exact e
    have sy : (ws.map (·.2)).Pairwise (fun e f => ¬ f.1.cps.toList < e.1.cps.toList) := by
      rw [← ew, List.pairwise_map] at srt
      rw [List.pairwise_map]
      refine List.Pairwise.imp_of_mem (fun {x y} hx hy h => ?_) srt
      rw [(hw x hx).1, (hw y hy).1] at h
      have h2 := (PyProof.Rows.lex_false.mp h).1
      exact of_decide_eq_false h2
    have R1 : Rep C r σ H' (fun x => F x ∨ ∃ z ∈ zs, x = z.1) := R.grow (fun x fx => ⟨.inl fx, by
      cases q : H x with
      | none => exact absurd q (R.ftrk x fx)
      | some o => rw [ext2 x o q]⟩) ext2 fun x fx => by
        rcases fx with fx | ⟨z, hz1, rfl⟩
        · exact .inl fx
        · obtain ⟨z1, z2⟩ := hzs z hz1
          refine .inr ⟨?_, by rw [z2]; simp, nt_tup z2⟩
          cases q : H z.1 with
          | none => rfl
          | some o => rw [H1a _ o q] at z1; cases z1
    have l1 : Later H F H' (fun x => F x ∨ ∃ z ∈ zs, x = z.1) := fun x fx => ⟨.inl fx, by
      cases q : H x with
      | none => exact absurd q (R.ftrk x fx)
      | some o => rw [ext2 x o q]⟩
    have hl0 : H l = none := by
      cases q : H l with
      | none => rfl
      | some o => rw [H1a _ o q] at hl; cases hl
    have D1 := rows_dp zs ws ew (fun z hz1 => ⟨.inr ⟨z, hz1, rfl⟩, (hzs z hz1).2⟩) fun w hw1 => ⟨(hw w hw1).1, (hw w hw1).2.mono l1⟩
    refine k _ _ _ _ _ R1 (.own hH' D1 ?_ (fun z => (R.keep l z).2 hl0) (fun z => ?_) fun i es e o1 e1 => ?_) (by
      have h := hq (ws.map (·.2)) py sy ndS
      rw [List.map_map] at h
      exact h)
    · rintro (z | ⟨z, z1, rfl⟩)
      · exact R.ftrk l z hl0
      · rw [(hzs z z1).2] at hH'; cases hH'
    · obtain ⟨⟨_, _, _, _, _, h1, _⟩, _, _⟩ := R.bag l z
      rw [hl0] at h1; cases h1
    · obtain ⟨v, e2, sr⟩ := R.slot i _ e
      rw [e1] at e2; cases e2
      cases sr with
      | own h1 _ _ => rw [hl0] at h1; cases h1
      | dct h1 _ => exact h1.ne.2 hl0
      | nd _ _ => cases o1
      | rng _ => cases o1
      | dat _ => cases o1
      | bag _ => cases o1
end
/-! ### x in a tuple of data -/
section
variable {X : Cx}
def rInT (K : PySem.W.Frag) : R2 := fun x y H Q => ∃ d ds, Dp K H x d ∧ Dp K H y (.tuple ds) ∧ okD d ∧ okD (.tuple ds) ∧ Q (.bl (isIn d ds)) H
def rNotInT (K : PySem.W.Frag) : R2 := fun x y H Q => ∃ d ds, Dp K H x d ∧ Dp K H y (.tuple ds) ∧ okD d ∧ okD (.tuple ds) ∧ Q (.bl (!isIn d ds)) H
theorem op_inT (hu : X.A.units + 65 < cLine) : OpR X (compareOp .In) (rInT X.K) := by
  rintro pins s σ H x y v u Q I rx ry ⟨d, ds, g1, g2, g3, g4, q⟩
  obtain ⟨_, r1⟩ := Dp.reads I d x v g1 rx
  obtain ⟨_, r2⟩ := Dp.reads I (.tuple ds) y u g2 ry
  exact SeqAt.in_tuple_reads r2 r1 (SeqAt.canLay_of_shaped g4) (SeqAt.canLay_of_shaped g3) (room_in_shaped g3 hu) ⟨.bl (isIn d ds), H, I, rfl, q⟩
theorem op_notInT (hu : X.A.units + 65 < cLine) : OpR X (compareOp .NotIn) (rNotInT X.K) := by
  rintro pins s σ H x y v u Q I rx ry ⟨d, ds, g1, g2, g3, g4, q⟩
  obtain ⟨_, r1⟩ := Dp.reads I d x v g1 rx
  obtain ⟨_, r2⟩ := Dp.reads I (.tuple ds) y u g2 ry
  exact SeqAt.notIn_tuple_reads r2 r1 (SeqAt.canLay_of_shaped g4) (SeqAt.canLay_of_shaped g3) (room_in_shaped g3 hu) ⟨.bl (!isIn d ds), H, I, rfl, q⟩
def rIn4 (K : PySem.W.Frag) : R2 := fun x y H Q => rInT K x y H Q ∨ rIn3 K x y H Q
def rNotIn4 (K : PySem.W.Frag) : R2 := fun x y H Q => rNotInT K x y H Q ∨ rNotIn3 K x y H Q
theorem op_in4 (hu : X.A.units + 65 < cLine) : OpR X (compareOp .In) (rIn4 X.K) := (op_inT hu).or (op_in3 hu)
theorem op_notin4 (hu : X.A.units + 65 < cLine) : OpR X (compareOp .NotIn) (rNotIn4 X.K) := (op_notInT hu).or (op_notin3 hu)
end
def dIn4 : Op2 := fun x y Q => (∃ ds, y = .tuple ds ∧ okD x ∧ okD (.tuple ds) ∧ Q (.dat (.bool (isIn x ds)))) ∨ dIn x y Q
def dNotIn4 : Op2 := fun x y Q => (∃ ds, y = .tuple ds ∧ okD x ∧ okD (.tuple ds) ∧ Q (.dat (.bool (!isIn x ds)))) ∨ dNotIn x y Q
theorem sem_in4 {K : PySem.W.Frag} : Sem2 K (rIn4 K) dIn4 := by
  intro C r σ H F x y dx dy Q QV hK R hx hy hq k
  rcases hq with ⟨ds, rfl, g3, g4, hq⟩ | hq
  · subst hK
    exact .inl ⟨dx, ds, hx.dp (okd_nodict g3), hy.dp (okd_nodict g4), g3, g4, kq_dat k R (.bl _) hq⟩
  · exact .inr (sem_in C r σ H F x y dx dy Q QV hK R hx hy hq k)
theorem sem_notin4 {K : PySem.W.Frag} : Sem2 K (rNotIn4 K) dNotIn4 := by
  intro C r σ H F x y dx dy Q QV hK R hx hy hq k
  rcases hq with ⟨ds, rfl, g3, g4, hq⟩ | hq
  · subst hK
    exact .inl ⟨dx, ds, hx.dp (okd_nodict g3), hy.dp (okd_nodict g4), g3, g4, kq_dat k R (.bl _) hq⟩
  · exact .inr (sem_notin C r σ H F x y dx dy Q QV hK R hx hy hq k)
/-! ### sorted(xs), numbers or texts -/
def nSortA : OpN := fun ds Q => (∃ ns : List Int, ds = [.list (ns.map .int)] ∧ ∀ ys : List Int, ys.Perm ns → ys.Pairwise (· ≤ ·) → Q (.own (ys.map .int))) ∨ nSortS ds Q
def rSortA (K : PySem.W.Frag) : List V → Hp → VK → Prop := fun vs H Q => rSortedI K vs H Q ∨ rSortedS K vs H Q
theorem cr_sortA {X : Cx} : CallR X (.builtin "sorted") (rSortA X.K) := by
  intro pins s σ H vs us Q I r h
  rcases h with h | h
  · exact cr_sortedI pins s σ H vs us Q I r h
  · exact cr_sortedS pins s σ H vs us Q I r h
theorem dpfs_ints {K : PySem.W.Frag} {H : Hp} {F : AP} : ∀ (ns : List Int), DpFs K H F (ns.map V.int) (ns.map .int)
  | [] => .nil
  | i :: r => .cons (.int i) (dpfs_ints r)
theorem sem_sortA {K : PySem.W.Frag} : SemN K (rSortA K) nSortA := by
  intro C r σ H F xs ds Q QV hK R hx hq k
  rcases hq with ⟨ns, rfl, hq⟩ | hq
  · subst hK
    obtain ⟨v, rfl, hv⟩ := hx.one
    obtain ⟨a, vs, rfl, h1, h2⟩ := hv.lst
    have := h2.vints
    subst this
    exact .inl ⟨a, ns, rfl, .inl (.inl h1), fun ys p hp hs hn => kq_own k R hn (dpfs_ints ys) (hq ys hp hs)⟩
  · exact .inr (sem_sortS C r σ H F xs ds Q QV hK R hx hq k)
/-! ### constant tuples of texts -/
def strV : Value → Option Str
  | .str x _ => some x
  | _ => none
def strsV : List Value → Option (List Str)
  | [] => some []
  | v :: r => match strV v, strsV r with
    | some x, some xs => some (x :: xs)
    | _, _ => none
theorem vals_strs : ∀ {us : List Value} {ss : List Str}, strsV us = some ss → Vals (ss.map V.str) us
  | [], _, e => by cases e; exact .nil
  | u :: us, ss, e => by
    unfold strsV at e
    split at e
    · rename_i x xs e1 e2
      cases e
      refine .cons ?_ (vals_strs e2)
      cases u with
      | str y t => cases e1; exact ⟨t, rfl⟩
      | _ => cases e1
    · cases e
/-- a name of the text stands for a tuple of texts -/
def KTup (K : PySem.W.Frag) (mg : Str → Option Value) (x : Str) (ss : List Str) : Prop := ∃ a, mg x = some (.ref a) ∧ KT K a (ss.map V.str)
theorem ktup_mk {K : PySem.W.Frag} {mg : Str → Option Value} {x : Str} {ss : List Str} {a : Addr} {od : Option Addr} {its : Array Value} {n : Nat} {sl : Array (Option Value)} (g : mg x = some (.ref a)) (l : K.lookup a = some ⟨.type "tuple", od, .seq its n, sl⟩)
    (e : strsV its.toList = some ss) (h : its.size ≤ 1000) : KTup K mg x ss :=
  ⟨a, g, .inr ⟨_, its, n, l, rfl, rfl, by rw [sizeLine_eq]; omega, vals_strs e⟩⟩
theorem de_ktup {X : Cx} {W : WX} {x : Str} {ss : List Str} {pos : Pos} (hg : Gl X x) (t : KTup X.K X.mg x ss) (hd : (x == ("__debug__" : Str)) = false := by decide) : DE X W (.Name x pos) (xC (.tuple (ss.map .str))) := by
  obtain ⟨a, g, kt⟩ := t
  exact ⟨⟨_, pe_glob (v := .ref a) hg g rfl hd, fun C r σ H F Q Xk QV hK R _ hf k => k _ H F _ r R (.dat (.tup (.inr (by rw [hK]; exact kt)) (dpfs_strs ss))) hf⟩⟩
/-! ### k in d, as a test -/
section
variable {X : Cx} {W : WX} {b ob : Expr} {pos : Pos}
theorem dt_din {i : Nat} {o : OX} (hu : X.A.units + 1 < cLine) (po : PE X ob (tVar i)) (hb : DO X W b o) (hm : behindInMarks .In ob = false := by rfl) : DT X W (.Compare b [.In] [ob] pos) (bX (xDIn false i o)) := by
  obtain ⟨t, pe, ent⟩ := hb.ex
  refine ⟨⟨_, pt_cmp (pc_din hu pe po) hm, fun C r σ H F Q Xk QV hK R L hf k => ?_⟩⟩
  have q := dgf (X := X) (W := W) (b := b) (ob := ob) (i := i) false ent C r σ H F _ Xk (fun v H' => ∃ c, v = .bl c ∧ QV c H') hK R L hf fun v H1 F1 dv r1 R1 G1 q1 => by
    split at q1
    · cases G1 with
      | dat s =>
        cases s
        exact ⟨_, rfl, k _ H1 F1 r1 R1 q1⟩
    · exact q1.elim
  simp only [Bool.false_bne] at q
  exact q
theorem dt_dnin {i : Nat} {o : OX} (hu : X.A.units + 1 < cLine) (po : PE X ob (tVar i)) (hb : DO X W b o) (hm : behindInMarks .NotIn ob = false := by rfl) : DT X W (.Compare b [.NotIn] [ob] pos) (bX (xDIn true i o)) := by
  obtain ⟨t, pe, ent⟩ := hb.ex
  refine ⟨⟨_, pt_cmp (pc_dnotin hu pe po) hm, fun C r σ H F Q Xk QV hK R L hf k => ?_⟩⟩
  have q := dgf (X := X) (W := W) (b := b) (ob := ob) (i := i) true ent C r σ H F _ Xk (fun v H' => ∃ c, v = .bl c ∧ QV c H') hK R L hf fun v H1 F1 dv r1 R1 G1 q1 => by
    split at q1
    · cases G1 with
      | dat s =>
        cases s
        exact ⟨_, rfl, k _ H1 F1 r1 R1 q1⟩
    · exact q1.elim
  simp only [Bool.true_bne] at q
  exact q
end
end DL

/-! DL: repr of data with dicts in them. -/
namespace DL.RD
open PySem PySem.Spec PyProof.Rows L2
section
variable {X : Cx} {pins : List (Addr × Obj)} {σ : L2.St} {H : Hp} {s : Shared} {F : AP}
/-- what is read of a value, and how it is shown -/
def Shw (X : Cx) (h : Heap) (u : Value) (d : D) : Prop := ∃ as bs, Reads h u d as ∧ ReadAtMost h d.depth bs ∧ ReprK X.prog X.w bs h d.depth u d.shown
def Shws (X : Cx) (h : Heap) (us : List Value) (ds : List D) : Prop := ∃ as bs, ReadsAll h us ds as ∧ ReadAtMost h (PyData.depthAll ds) bs ∧ ReprAllK X.prog X.w bs h (PyData.depthAll ds) us (PyData.shownAll ds)
theorem shws_of {n : Nat} (ih : ∀ (v : V) (d : D) (u : Value), d.depth ≤ n → DpF X.K H F v d → RelV v u → d.showable = true → d.shown.length ≤ sizeLine → Shw X s.heap u d) :
    ∀ (ds : List D) (vs : List V) (us : List Value), PyData.depthAll ds ≤ n → DpFs X.K H F vs ds → Vals vs us → PyData.showableAll ds = true → (∀ t ∈ PyData.shownAll ds, t.length ≤ sizeLine) → Shws X s.heap us ds := by
  intro ds
  induction ds with
  | nil =>
    intro vs us _ h r _ _
    cases h
    cases r
    exact ⟨[], [], .nil, (fun _ h => nomatch h), by simp only [PyData.shownAll]; exact .nil⟩
  | cons d ds ihs =>
    intro vs us hn h r sw sz
    cases h with
    | cons h hs =>
      cases r with
      | cons r rs =>
        simp only [PyData.depthAll] at hn
        simp only [PyData.showableAll, Bool.and_eq_true] at sw
        obtain ⟨a1, b1, r1, m1, k1⟩ := ih _ _ _ (by omega) h r sw.1 (sz _ (by simp only [PyData.shownAll]; exact List.mem_cons_self ..))
        obtain ⟨a2, b2, r2, m2, k2⟩ := ihs _ _ (by omega) hs rs sw.2 fun t ht => sz t (by simp only [PyData.shownAll]; exact List.mem_cons_of_mem _ ht)
        refine ⟨_, b1 ++ b2, .cons r1 r2, ?_, ?_⟩
        · simp only [PyData.depthAll]
          exact (m1.mono (Nat.le_max_left ..)).append (m2.mono (Nat.le_max_right ..))
        · simp only [PyData.depthAll, PyData.shownAll]
          exact .cons ((k1.more fun b hb => List.mem_append_left _ hb).level_le (Nat.le_max_left ..)) (k2.more_le (fun b hb => List.mem_append_right _ hb) (Nat.le_max_right ..))
theorem ks_keys {K : PySem.W.Frag} : ∀ {ps : List (Key × V)} {kvs : List (D × D)}, DpKs K H F ps kvs → DpFs K H F (ps.map fun p => kV p.1) (kvs.map (·.1))
  | _, _, .nil => .nil
  | _, _, .cons (kd := kd) e _ hs => by
    refine .cons ?_ (ks_keys hs)
    cases kd with
    | int i => cases e; exact .int i
    | str x => cases e; exact .str x
    | _ => cases e
theorem ks_vals {K : PySem.W.Frag} : ∀ {ps : List (Key × V)} {kvs : List (D × D)}, DpKs K H F ps kvs → DpFs K H F (ps.map (·.2)) (kvs.map (·.2))
  | _, _, .nil => .nil
  | _, _, .cons _ h hs => .cons h (ks_vals hs)
theorem vals_keys {P : Program} {w : World} : ∀ {ps : List (Key × V)} {vs : List (Key × Value)} {es : List DictEntry}, KV ps vs → Pairs (mixKind P w) es vs → Vals (ps.map fun p => kV p.1) (es.map (·.key))
  | _, _, _, .nil, .nil => .nil
  | _, _, _, .cons h t, .cons k e r => by
    refine .cons ?_ (vals_keys t r)
    have := keyIs_rel k
    rw [← h.1] at this
    exact this
theorem vals_vals {P : Program} {w : World} : ∀ {ps : List (Key × V)} {vs : List (Key × Value)} {es : List DictEntry}, KV ps vs → Pairs (mixKind P w) es vs → Vals (ps.map (·.2)) (es.map (·.val))
  | _, _, _, .nil, .nil => .nil
  | _, _, _, .cons h t, .cons k e r => by
    refine .cons ?_ (vals_vals t r)
    have := h.2
    rw [← e] at this
    exact this
theorem shw_of (I : Inv X pins σ H s) : ∀ (n : Nat) (v : V) (d : D) (u : Value), d.depth ≤ n → DpF X.K H F v d → RelV v u → d.showable = true → d.shown.length ≤ sizeLine → Shw X s.heap u d := by
  intro n
  induction n with
  | zero =>
    intro v d u hn h r sw sz
    cases h with
    | non => cases r; exact ⟨[], [], .none, (fun _ h => nomatch h), by simp only [PyData.shown]; exact .of_is ReprIs.none _ _ _⟩
    | bl b => cases r; exact ⟨[], [], .bool b, (fun _ h => nomatch h), by simp only [PyData.shown]; exact .of_is (ReprIs.bool b) _ _ _⟩
    | int i =>
      obtain ⟨t, rfl⟩ := r
      exact ⟨[], [], .int i t, (fun _ h => nomatch h), by simp only [PyData.shown]; exact .of_is (ReprIs.int t (by simpa [PyData.showable] using sw)) _ _ _⟩
    | str x =>
      obtain ⟨t, rfl⟩ := r
      exact ⟨[], [], .str x t, (fun _ h => nomatch h), by simp only [PyData.shown]; exact .of_is (ReprIs.str x t (by simpa only [PyData.shown] using sz)) _ _ _⟩
    | lst => simp [PyData.depth] at hn
    | tup => simp [PyData.depth] at hn
    | dct => simp [PyData.depth] at hn
  | succ n ih =>
    intro v d u hn h r sw sz
    cases h with
    | non => cases r; exact ⟨[], [], .none, (fun _ h => nomatch h), by simp only [PyData.shown]; exact .of_is ReprIs.none _ _ _⟩
    | bl b => cases r; exact ⟨[], [], .bool b, (fun _ h => nomatch h), by simp only [PyData.shown]; exact .of_is (ReprIs.bool b) _ _ _⟩
    | int i =>
      obtain ⟨t, rfl⟩ := r
      exact ⟨[], [], .int i t, (fun _ h => nomatch h), by simp only [PyData.shown]; exact .of_is (ReprIs.int t (by simpa [PyData.showable] using sw)) _ _ _⟩
    | str x =>
      obtain ⟨t, rfl⟩ := r
      exact ⟨[], [], .str x t, (fun _ h => nomatch h), by simp only [PyData.shown]; exact .of_is (ReprIs.str x t (by simpa only [PyData.shown] using sz)) _ _ _⟩
    | lst h1 h2 =>
      rename_i a xs ds
      cases r
      have sz2 : (listText (PyData.shownAll ds)).length ≤ sizeLine := by simpa only [PyData.shown] using sz
      obtain ⟨its, rv, ⟨o, m, ho, hc, hd, hdat⟩, _⟩ := I.list (SqL.of (K := X.K) h1.2)
      obtain ⟨as, bs, r1, m1, k1⟩ := shws_of ih ds xs its (by simp only [PyData.depth] at hn; omega) h2 rv (by simpa only [PyData.showable] using sw) fun t ht => Nat.le_trans (listText_mem_le ht) sz2
      have rd : Reads s.heap (.ref a) (.list ds) (a :: as) := .list ho hc hdat (by rw [List.toList_toArray]; exact r1)
      have na : a ∉ bs := not_mem_of_deeper rd (by simp only [PyData.depth]; omega) m1
      refine ⟨_, a :: bs, rd, ReadAtMost.cons rd (by simp only [PyData.depth]; omega) m1, ?_⟩
      simp only [PyData.depth, PyData.shown]
      cases its with
      | nil =>
        cases r1
        simp only [PyData.shownAll, listText_nil]
        exact ReprK.listEmpty ho hc hdat
      | cons x l => exact ReprK.list ho hc hdat na (by simpa using k1.length_eq) fun i y e => k1.item i y (by simpa using e)
    | tup h1 h2 =>
      rename_i a xs ds
      cases r
      have sz2 : (tupleText (PyData.shownAll ds)).length ≤ sizeLine := by simpa only [PyData.shown] using sz
      obtain ⟨its, rv, ⟨o, ho, hc, m, hdat⟩, _⟩ := I.tuple (h1.elim (fun p => .inl p.2) fun p => p.sq H)
      obtain ⟨as, bs, r1, m1, k1⟩ := shws_of ih ds xs its (by simp only [PyData.depth] at hn; omega) h2 rv (by simpa only [PyData.showable] using sw) fun t ht => Nat.le_trans (tupleText_mem_le ht) sz2
      have rd : Reads s.heap (.ref a) (.tuple ds) as := .tuple ho hc hdat (by rw [List.toList_toArray]; exact r1)
      have na : a ∉ bs := not_mem_of_deeper rd (by simp only [PyData.depth]; omega) m1
      refine ⟨_, a :: bs, rd, ReadAtMost.cons rd (by simp only [PyData.depth]; omega) m1, ?_⟩
      simp only [PyData.depth, PyData.shown]
      exact ReprK.tuple ho hc hdat na (by rw [List.toList_toArray]; exact k1)
    | dct h1 h2 =>
      rename_i a ps kvs
      cases r
      have sz2 : (dictText (PyData.shownKv kvs)).length ≤ sizeLine := by simpa only [PyData.shown] using sz
      obtain ⟨_, hsys, vs, kv, o, es, ep, ho, hx, hdat, _, hpr, _⟩ := dk_of I.hok h1.2
      obtain ⟨sw1, sw2⟩ := PyData.showableKv_split kvs (by simpa only [PyData.showable] using sw)
      have d1 := PyData.depthAll_keys_le kvs
      have d2 := PyData.depthAll_vals_le kvs
      simp only [PyData.depth] at hn
      obtain ⟨a1, b1, r1, m1, k1⟩ := shws_of ih _ _ _ (Nat.le_trans d1 (by omega)) (ks_keys h2) (vals_keys kv hpr) sw1 fun t ht => by
        obtain ⟨p, hp, hl⟩ := PyData.shownKv_key_le kvs t ht
        exact Nat.le_trans hl (Nat.le_trans (dictText_mem_le hp) sz2)
      obtain ⟨a2, b2, r2, m2, k2⟩ := shws_of ih _ _ _ (Nat.le_trans d2 (by omega)) (ks_vals h2) (vals_vals kv hpr) sw2 fun t ht => by
        obtain ⟨p, hp, hl⟩ := PyData.shownKv_val_le kvs t ht
        exact Nat.le_trans hl (Nat.le_trans (dictText_mem_le hp) sz2)
      have rd : Reads s.heap (.ref a) (.dict kvs) (a :: a1 ++ a2) := .dict ho hx.1 hdat r1 r2
      have mm : ReadAtMost s.heap (PyData.depthKv kvs) (b1 ++ b2) := (m1.mono d1).append (m2.mono d2)
      have na : a ∉ b1 ++ b2 := not_mem_of_deeper rd (by simp only [PyData.depth]; omega) mm
      refine ⟨_, a :: (b1 ++ b2), rd, ReadAtMost.cons rd (by simp only [PyData.depth]; omega) mm, ?_⟩
      simp only [PyData.depth, PyData.shown, PyData.shownKv_eq]
      exact ReprK.dict ho hx.1 hdat hsys na (ReprEntriesK.of_two es.toList _ _ (k1.more_le (fun b hb => List.mem_append_left _ hb) d1) (k2.more_le (fun b hb => List.mem_append_right _ hb) d2))
def rReprF (K : PySem.W.Frag) : List V → Hp → VK → Prop := fun xs H Q => ∃ (F : AP) (v : V) (d : D), xs = [v] ∧ DpF K H F v d ∧ d.showable = true ∧ d.depth ≤ 64 ∧ d.shown.length ≤ sizeLine ∧ Q (.str d.shown) H
theorem call_reprF (hg : X.A.guards = some []) (hu : X.A.units + 100 < cLine) : CallR X (.builtin "repr") (rReprF X.K) := by
  rintro pins s σ H xs us Q I rv ⟨F, v, d, rfl, hd, sw, dp, sz, q⟩
  obtain ⟨u, rfl, r⟩ := vals1 rv
  have fin : ∀ {h' : Heap} {tk : Nat} {t : Tok}, (∀ b o, s.heap.get? b = some o → h'.get? b = some o) → EP X pins σ Q (.str d.shown t) { s with heap := h', toks := tk } := fun {h' tk t} kk => ⟨.str d.shown, H, I.kept kk, ⟨t, rfl⟩, q⟩
  have e64 : ∀ {n : Nat}, n + 1 ≤ 64 → X.A.in1.units + (n + 1) < cLine := fun {n} hn => by show X.A.units + 1 + (n + 1) < cLine; omega
  have ih := shw_of (F := F) I
  cases hd with
  | non => cases r; exact PySem.P.repr_of_none (fin fun _ _ z => z)
  | bl b => cases r; exact PySem.P.repr_of_bool (fin fun _ _ z => z)
  | int i =>
    obtain ⟨t, rfl⟩ := r
    exact PySem.P.repr_of_int (by simpa [PyData.showable] using sw) (fin fun _ _ z => z)
  | str x =>
    obtain ⟨t, rfl⟩ := r
    exact PySem.P.repr_of_str (fin fun _ _ z => z) (by simpa [PyData.shown] using sz)
  | lst h1 h2 =>
    rename_i a xs ds
    cases r
    simp only [PyData.depth] at dp
    have sz2 : (listText (PyData.shownAll ds)).length ≤ sizeLine := by simpa only [PyData.shown] using sz
    obtain ⟨its, rv, ⟨o, m, ho, hc, hd, hdat⟩, _⟩ := I.list (SqL.of (K := X.K) h1.2)
    obtain ⟨as, bs, r1, m1, k1⟩ := shws_of (ih _) ds xs its (Nat.le_refl _) h2 rv (by simpa only [PyData.showable] using sw) fun t ht => Nat.le_trans (listText_mem_le ht) sz2
    have rd : Reads s.heap (.ref a) (.list ds) (a :: as) := .list ho hc hdat (by rw [List.toList_toArray]; exact r1)
    have na : a ∉ bs := not_mem_of_deeper rd (by simp only [PyData.depth]; omega) m1
    refine call_repr_slot (by omega) ⟨o, ho, hc⟩ PySem.F.slot_list_repr.toG ?_
    simp only [PyData.shown] at fin
    cases its with
    | nil =>
      cases r1
      simp only [PyData.shownAll, listText_nil] at fin
      exact call_list_repr_empty ⟨o, ho, hc⟩ ho hdat ⟨_, _, rfl, fin fun _ _ z => z⟩
    | cons x l => exact call_list_reprK ho hc hdat na (by simpa using k1.length_eq) (fun i y e => k1.item i y (by simpa using e)) hg (fun b _ => Clear.nil b) (e64 dp) (fun _ _ z => z) (fun h' u tk kk => ⟨_, _, rfl, fin kk⟩) sz2
  | tup h1 h2 =>
    rename_i a xs ds
    cases r
    simp only [PyData.depth] at dp
    have sz2 : (tupleText (PyData.shownAll ds)).length ≤ sizeLine := by simpa only [PyData.shown] using sz
    obtain ⟨its, rv, ⟨o, ho, hc, m, hdat⟩, _⟩ := I.tuple (h1.elim (fun p => .inl p.2) fun p => p.sq H)
    obtain ⟨as, bs, r1, m1, k1⟩ := shws_of (ih _) ds xs its (Nat.le_refl _) h2 rv (by simpa only [PyData.showable] using sw) fun t ht => Nat.le_trans (tupleText_mem_le ht) sz2
    have rd : Reads s.heap (.ref a) (.tuple ds) as := .tuple ho hc hdat (by rw [List.toList_toArray]; exact r1)
    have na : a ∉ bs := not_mem_of_deeper rd (by simp only [PyData.depth]; omega) m1
    refine call_repr_slot (by omega) ⟨o, ho, hc⟩ PySem.F.slot_tuple_repr ?_
    simp only [PyData.shown] at fin
    exact call_tuple_reprK ho hc hdat na (by rw [List.toList_toArray]; exact k1) hg (fun b _ => Clear.nil b) (e64 dp) (fun _ _ z => z) (fun h' u tk kk => ⟨_, _, rfl, fin kk⟩) sz2
  | dct h1 h2 =>
    rename_i a ps kvs
    cases r
    have dp0 := dp
    simp only [PyData.depth] at dp
    have sz2 : (dictText (PyData.shownKv kvs)).length ≤ sizeLine := by simpa only [PyData.shown] using sz
    obtain ⟨_, hsys, vs, kv, o, es, ep, ho, hx, hdat, _, hpr, _⟩ := dk_of I.hok h1.2
    obtain ⟨sw1, sw2⟩ := PyData.showableKv_split kvs (by simpa only [PyData.showable] using sw)
    have d1 := PyData.depthAll_keys_le kvs
    have d2 := PyData.depthAll_vals_le kvs
    obtain ⟨a1, b1, r1, m1, k1⟩ := shws_of (ih _) _ _ _ (Nat.le_refl _) (ks_keys h2) (vals_keys kv hpr) sw1 fun t ht => by
      obtain ⟨p, hp, hl⟩ := PyData.shownKv_key_le kvs t ht
      exact Nat.le_trans hl (Nat.le_trans (dictText_mem_le hp) sz2)
    obtain ⟨a2, b2, r2, m2, k2⟩ := shws_of (ih _) _ _ _ (Nat.le_refl _) (ks_vals h2) (vals_vals kv hpr) sw2 fun t ht => by
      obtain ⟨p, hp, hl⟩ := PyData.shownKv_val_le kvs t ht
      exact Nat.le_trans hl (Nat.le_trans (dictText_mem_le hp) sz2)
    have rd : Reads s.heap (.ref a) (.dict kvs) (a :: a1 ++ a2) := .dict ho hx.1 hdat r1 r2
    have mm : ReadAtMost s.heap (PyData.depthKv kvs) (b1 ++ b2) := (m1.mono d1).append (m2.mono d2)
    have na : a ∉ b1 ++ b2 := not_mem_of_deeper rd (by simp only [PyData.depth]; omega) mm
    refine call_repr_slot (by omega) ⟨o, ho, hx.1⟩ PySem.F.slot_dict_repr ?_
    simp only [PyData.shown, PyData.shownKv_eq] at fin
    exact call_dict_reprK ho hx.1 hdat hsys na (ReprEntriesK.of_two es.toList _ _ (k1.more_le (fun b hb => List.mem_append_left _ hb) d1) (k2.more_le (fun b hb => List.mem_append_right _ hb) d2)) hg (fun b _ => Clear.nil b) (e64 dp) (fun _ _ z => z) (fun h' u tk kk => ⟨_, _, rfl, fin kk⟩) (by rw [← PyData.shownKv_eq]; exact sz2)
end
end DL.RD
namespace DL
open PySem PySem.Spec PyProof.Rows L2
def nReprF : OpN := fun ds Q => match ds with
  | [d] => (d.showable = true ∧ d.depth ≤ 64 ∧ d.shown.length ≤ LN) ∧ Q (.dat (.str d.shown))
  | _ => False
theorem sem_reprF {K : PySem.W.Frag} : SemN K (RD.rReprF K) nReprF := by
  intro C r σ H F xs ds Q QV hK R hx hq k
  subst hK
  unfold nReprF at hq
  split at hq
  · obtain ⟨v, rfl, hv⟩ := hx.one
    rcases hv with h | ⟨a, xs, ds, rfl, rfl, h1, h2⟩
    · exact ⟨F, v, _, rfl, h, hq.1.1, hq.1.2.1, by rw [line_eq]; exact hq.1.2.2, kq_dat k R (.str _) hq.2⟩
    · exact ⟨_, _, _, rfl, .lst ⟨.inr rfl, h1⟩ (h2.mono later_fr), hq.1.1, hq.1.2.1, by rw [line_eq]; exact hq.1.2.2, kq_dat k R (.str _) hq.2⟩
  · exact hq.elim
end DL

/-! DL: t[::-1] of tuples; x.upper(), x.split(y); lists of any data against []; any data against a text. -/
namespace DL.RV
open PySem PySem.Spec PyProof.Rows L2 HT
section
variable {prog : Program} {w : World} {A : Around} {E : Value → Shared → Prop} {s : Shared}
theorem adj_rev (n : Nat) : Builtin.Slice.sliceAdjust none none (-1) (n : Int) = ((n : Int) - 1, -1) := by
  first | rfl | simp [Builtin.Slice.sliceAdjust]
theorem places_rev (n : Nat) : Builtin.Slice.slicePlaces ((n : Int) - 1) (-1) (-1) = n := by
  unfold Builtin.Slice.slicePlaces
  have h1 : ¬ ((-1 : Int) > 0) := by decide
  simp only [h1, if_false]
  by_cases h : (n : Int) - 1 > -1
  · rw [if_pos h, show (- -1 : Int) = 1 by decide, Int.ediv_one]
    omega
  · rw [if_neg h]; omega
theorem applied_rev {sl : Addr} {vk : Value} {n : Nat} {Q : Int × Int × Nat → Shared → Prop} (hs : s.heap.IsSliceOf sl .none .none vk) (pk : IsPart vk (some (-1))) (h : Q ((n : Int) - 1, -1, n) s) :
    wpAny (model prog w) A (Builtin.Slice.sliceApplied (.ref sl) (pure (n : Int))) Q E s := by
  obtain ⟨os, hos, hcs, hds⟩ := id hs
  unfold Builtin.Slice.sliceApplied Builtin.Slice.sliceFields
  refine wpAny_bind (wpAny_bind (wpAny_field hos hds (x := .none) rfl (wpAny_bind (wpAny_field hos hds (x := .none) rfl (wpAny_bind (wpAny_field hos hds (x := vk) rfl (wpAny_pure ?_)))))))
  refine wpAny_bind (slicePart_ pk ?_)
  show wpAny _ _ (if ((-1 : Int) == 0) = true then _ else _) _ _ s
  rw [if_neg (by decide)]
  refine wpAny_bind (slicePart_none (wpAny_bind (slicePart_none (wpAny_bind (wpAny_pure ?_)))))
  show wpAny _ _ (match Builtin.Slice.sliceAdjust none none (-1) (n : Int) with | (lo, hi) => pure (lo, (-1 : Int), Builtin.Slice.slicePlaces lo hi (-1))) _ _ s
  rw [adj_rev]
  show wpAny _ _ (pure ((n : Int) - 1, (-1 : Int), Builtin.Slice.slicePlaces ((n : Int) - 1) (-1) (-1))) _ _ s
  rw [places_rev]
  exact wpAny_pure h
theorem fm_congr {α β : Type} {f g : α → Option β} : ∀ {l : List α}, (∀ x ∈ l, f x = g x) → l.filterMap f = l.filterMap g
  | [], _ => rfl
  | x :: l, h => by
    rw [List.filterMap_cons, List.filterMap_cons, h x (List.mem_cons_self ..), fm_congr fun y hy => h y (List.mem_cons_of_mem _ hy)]
theorem pick_rev (xs : Array Value) : ((List.range xs.size).filterMap fun (m : Nat) => xs[(((xs.size : Nat) : Int) - 1 + (m : Int) * -1).toNat]?).toArray = xs.toList.reverse.toArray := by
  have e : ((List.range xs.size).filterMap fun (m : Nat) => xs[(((xs.size : Nat) : Int) - 1 + (m : Int) * -1).toNat]?) = ((List.range xs.size).map fun k => xs.size - 1 - k).filterMap (xs[·]?) := by
    rw [List.filterMap_map]
    refine fm_congr fun m hm => ?_
    have := List.mem_range.mp hm
    have e2 : (((xs.size : Nat) : Int) - 1 + (m : Int) * -1).toNat = xs.size - 1 - m := by omega
    rw [e2]
    rfl
  rw [e, PySem.W.krv_range, List.filterMap_reverse, PySem.W.krv_all]
theorem getItem_rev {t sl : Addr} {items : Array Value} {vk : Value} {Q : Value → Shared → Prop} (ht : IsTup s.heap t items) (hs : s.heap.IsSliceOf sl .none .none vk) (pk : IsPart vk (some (-1)))
    (h : Q (.ref s.heap.objs.size) { s with heap := s.heap.push { cls := .type "tuple", data := .seq items.toList.reverse.toArray } }) (hz : items.size ≤ sizeLine) : wpAny (model prog w) A (getItem (.ref t) (.ref sl)) Q E s := by
  have fits : sizeOk (.seq items.toList.reverse.toArray) := by
    show items.toList.reverse.toArray.size ≤ sizeLine
    rw [List.size_toArray, List.length_reverse, Array.length_toList]
    exact hz
  obtain ⟨os, hos, hcs, hds⟩ := id hs
  unfold getItem
  try with_reducible refine wpAny_holding ?_
  first | refine wpAny_bind (wpAny_pure ?_) | skip
  refine wpAny_bind (wpAny_sequenceKey ht.typeIs (by decide) ?_)
  refine wpAny_bind (wpAny_callSpecial?_slot (name := Str.ofString "__getitem__") ht.typeIs PyProof.Rows.slot_tuple_getitem (wpAny_call_entry PyProof.Rows.slot_tuple_getitem ht.typeIs entry_tuple_getitem ?_ (args_tuple_getitem _ _)))
  show wpAny _ _ (Builtin.Tuple.tupleItemsOf (.ref t) >>= _) _ _ s
  refine wpAny_bind (tupleItemsOf_ ht ?_)
  refine wpAny_bind (wpAny_typeOf (T := "slice") ⟨os, hos, hcs⟩ ?_)
  rw [if_pos (by decide)]
  refine wpAny_bind (applied_rev hs pk ?_)
  show wpAny _ _ (if ((((items.size : Nat) : Int) - 1) == 0 && (-1 : Int) == 1 && items.size == items.size) = true then _ else _) _ _ s
  rw [if_neg (by simp), pick_rev]
  first
    | exact wpAny_bind (m := Builtin.Tuple.tupleExact _) (wpAny_newObj_type (wpAny_pure ⟨_, rfl, wpAny_pure h⟩) fits)
    | exact wpAny_bind (wpAny_bind (m := Builtin.Tuple.tupleExact _) (wpAny_newObj_type (wpAny_pure ⟨_, rfl, wpAny_pure h⟩) fits))
end
section
variable {X : Cx} {e ek : Expr} {te tk : L2.TE} {p2 pos : Pos}
def tRevT (K : PySem.W.Frag) (te tk : L2.TE) : L2.TE := fun σ H Q => te σ H fun x H1 => tk σ H1 fun y H2 => ∃ a xs, y = .int (-1) ∧ x = .ref a ∧ SqT K H2 a xs ∧ ∀ p, H2 p = none → Q (.ref p) (upd H2 p (.tup xs.reverse))
theorem pe_revT (he : PE X e te) (hk : PE X ek tk) (hs : ∀ v u : Value, subscripted (.Slice none none (some ek) p2) false v u = operate [v, u] (getItem v u) := by intro _ _; rfl) : PE X (.Subscript e (.Slice none none (some ek) p2) pos) (tRevT X.K te tk) := by
  refine ⟨fun pins s σ H Q I h => ?_⟩
  refine Subscript_ (thn (he.run pins s σ H _ I h) fun v s1 ⟨x, H1, I1, r1, q1⟩ => ?_)
  refine wpAny_Slice ?_
  rw [evalPart_none]
  refine wpAny_pure ?_
  refine wpAny_pure ?_
  rw [evalPart_some]
  refine thn (hk.run pins s1 σ H1 _ I1 q1) fun vk s3 ⟨y, H3, I3, r3, a, xs, ey, ex, hx, q3⟩ => ?_
  subst ey ex
  obtain ⟨t, rfl⟩ := (show ∃ t, vk = Value.int (-1) t from r3)
  cases r1
  have I4 : Inv X pins σ H3 { s3 with heap := s3.heap.push { cls := .type "slice", data := .fields #[.none, .none, .int (-1) t] } } := I3.kept (t' := s3.toks) fun b ob q => Heap.get?_push_of_some _ q
  obtain ⟨its, r, ht, hz⟩ := I4.tuple hx
  have hlen := r.length
  show wpAny (model X.prog X.w) X.A (subscriptTail e (.Slice none none (some ek) p2) (.ref a) (.ref s3.heap.objs.size)) (EP X pins σ Q) X.xe { s3 with heap := s3.heap.push { cls := .type "slice", data := .fields #[.none, .none, .int (-1) t] } }
  refine tail_any (ops := [.ref a, .ref s3.heap.objs.size]) ht.typeIs PyProof.Rows.slot_tuple_getitem.lookup (getItem_rev ht (Heap.IsSliceOf.new ..) (.int _ t) ?_ (by rw [List.size_toArray]; omega)) (hs _ _)
  refine ⟨.ref _, _, I4.laid (t' := s3.toks) (o := .tup xs.reverse) (fun b ob q => Heap.get?_push_of_some _ q) (Nat.le_refl _) ?_, rfl, q3 _ (I4.hok.fresh (Nat.le_refl _))⟩
  refine ⟨by rw [List.length_reverse]; exact hz, its.reverse, ?_, IsTup.new _ _⟩
  have : ∀ {xs : List V} {us : List Value}, Vals xs us → Vals xs.reverse us.reverse := by
    intro xs us r
    induction r with
    | nil => exact .nil
    | cons h _ ih => rw [List.reverse_cons, List.reverse_cons]; exact Vals.append ih (.cons h .nil)
  exact this r
end
section
variable {A : Around} {s : Shared}
theorem dict_no_str (l : Addr) (es : Array DictEntry) (n : Nat) (dd : Option Addr) (sl : Array (Option Value)) (b : Str) (u : Tok) :
    Meets (Builtin.«dict.__eq__» ⟨[.ref l, .str b u], []⟩) (fun _ R s => s.heap.get? l = some { cls := .type "dict", dict := dd, data := .dict es n, slots := sl } ∧ R (.ok (.ret .notImplemented)) s) := by
  refine .of_wp fun prog w A R s h => ?_
  obtain ⟨hp, g, d, tk, os⟩ := s
  obtain ⟨hl, h⟩ := h
  have f1 := PySem.F.sub_str_dict
  wp_walk using wpAny_loadPart' hl, wpAny_load hl
  exact ⟨_, rfl, h⟩
theorem str_no_dict (l : Addr) (c : Value) (es : Array DictEntry) (n : Nat) (dd : Option Addr) (sl : Array (Option Value)) (b : Str) (u : Tok) :
    Meets (Builtin.«str.__eq__» ⟨[.str b u, .ref l], []⟩) (fun _ R s => s.heap.get? l = some { cls := c, dict := dd, data := .dict es n, slots := sl } ∧ R (.ok (.ret .notImplemented)) s) := by
  refine .of_wp fun prog w A R s h => ?_
  obtain ⟨hp, g, d, tk, os⟩ := s
  obtain ⟨hl, h⟩ := h
  wp_walk using wpAny_loadPart' hl, wpAny_load hl
  exact ⟨_, rfl, h⟩
theorem rc_dict_str {l : Addr} {es : Array DictEntry} {n : Nat} {o : Obj} (b : Str) (u : Tok) (ho : s.heap.get? l = some o) (hc : o.cls = .type "dict") (hd : o.data = .dict es n) (hu : A.units < cLine) : PySem.SeqAt.RcAt A s (.ref l) (.str b u) false := fun prog w E Q h => by
  obtain ⟨cls, dd, data, sl⟩ := o
  simp only at hc hd
  subst hc hd
  exact PySem.SeqAt.rc_eq_decline_or (k := false) ⟨_, ho, rfl⟩ (typeIs_str s b u) (by decide) PySem.F.sub_str_dict PySem.F.slot_dict_eq PySem.F.slot_str_eq_refl
    (fun _ hq => call_meets PySem.F.slot_dict_eq ⟨_, ho, rfl⟩ PySem.F.entry_dict_eq (PySem.F.args_dict_eq_2 _ _) (dict_no_str l es n dd sl b u) ⟨ho, hq⟩)
    (fun _ hq => call_meets PySem.F.slot_str_eq_refl (typeIs_str s b u) PySem.F.entry_str_eq (PySem.F.args_str_eq_2 _ _) (str_no_dict l (.type "dict") es n dd sl b u) ⟨ho, hq⟩)
    (fun _ hq => wpAny_of_eq (rfl : isSame (.ref l) (.str b u) = pure false) hq) (.inr hu) h
end
/-! ### any data against a text -/
def isStrD (d : D) (z : Str) : Bool := match d with
  | .str a => a == z
  | _ => false
section
variable {X : Cx}
def rEqStr (K : PySem.W.Frag) : R2 := fun x y H Q => ∃ (F : AP) (d : D) (z : Str), DpF K H F x d ∧ y = .str z ∧ Q (.bl (isStrD d z)) H
theorem op_eqStr (hu : X.A.units < cLine) : OpR X (compareOp .Eq) (rEqStr X.K) := by
  rintro pins s σ H x y v u Q I rx ry ⟨F, d, z, hd, rfl, q⟩
  obtain ⟨t, rfl⟩ := ry
  have fin : EP X pins σ Q (.bool (isStrD d z)) s := ⟨.bl (isStrD d z), H, I, rfl, q⟩
  cases hd with
  | non => cases rx; exact PySem.SeqAt.RcAt.none_str z t X.prog X.w X.xe _ fin
  | bl b => cases rx; exact PySem.SeqAt.RcAt.bool_str b z t X.prog X.w X.xe _ fin
  | int i => obtain ⟨t2, rfl⟩ := rx; exact PySem.SeqAt.RcAt.int_str i t2 z t X.prog X.w X.xe _ fin
  | str a => obtain ⟨t2, rfl⟩ := rx; exact PySem.SeqAt.RcAt.str_str a t2 z t X.prog X.w X.xe _ fin
  | lst h1 h2 =>
    cases rx
    obtain ⟨its, rv, pl, _⟩ := I.list (SqL.of (K := X.K) h1.2)
    exact PySem.SeqAt.RcAt.list_str z t pl.isList hu X.prog X.w X.xe _ fin
  | tup h1 h2 =>
    cases rx
    obtain ⟨its, rv, ⟨o, ho, hc, m, hdat⟩, _⟩ := I.tuple (h1.elim (fun p => .inl p.2) fun p => p.sq H)
    exact PySem.SeqAt.RcAt.tuple_str z t ⟨o, ho, hc, m, hdat⟩ hu X.prog X.w X.xe _ fin
  | dct h1 h2 =>
    cases rx
    obtain ⟨_, hsys, vs, kv, o, es, ep, ho, hx, hdat, _⟩ := dk_of I.hok h1.2
    exact rc_dict_str z t ho hx.1 hdat hu X.prog X.w X.xe _ fin
/-! ### a list of any data against [] -/
def rEqNil (K : PySem.W.Frag) : R2 := fun x y H Q => ∃ a xs b, x = .ref a ∧ SqL K H a xs ∧ y = .ref b ∧ SqL K H b [] ∧ Q (.bl xs.isEmpty) H
def rNeNil (K : PySem.W.Frag) : R2 := fun x y H Q => ∃ a xs b, x = .ref a ∧ SqL K H a xs ∧ y = .ref b ∧ SqL K H b [] ∧ Q (.bl (!xs.isEmpty)) H
theorem op_eqNil (hu : X.A.units < cLine) : OpR X (compareOp .Eq) (rEqNil X.K) := by
  rintro pins s σ H x y v u Q I rx ry ⟨a, xs, b, rfl, hx, rfl, hy, q⟩
  cases rx
  cases ry
  obtain ⟨its, rv, pl, _⟩ := I.list hx
  obtain ⟨its2, rv2, pl2, _⟩ := I.list hy
  cases rv2
  have fin : EP X pins σ Q (.bool xs.isEmpty) s := ⟨.bl xs.isEmpty, H, I, rfl, q⟩
  cases rv with
  | nil => exact PySem.SeqAt.RcAt.lists (e := fun _ => true) pl.isList pl2.isList rfl hu (fun j h1 h2 => absurd h1 (by simp)) X.prog X.w X.xe _ (by simpa using fin)
  | cons r rs => exact PySem.SeqAt.RcAt.lists_lengths pl.isList pl2.isList (by simp) hu X.prog X.w X.xe _ (by simpa using fin)
theorem op_neNil (hu : X.A.units < cLine) : OpR X (compareOp .NotEq) (rNeNil X.K) := by
  rintro pins s σ H x y v u Q I rx ry ⟨a, xs, b, rfl, hx, rfl, hy, q⟩
  cases rx
  cases ry
  obtain ⟨its, rv, pl, _⟩ := I.list hx
  obtain ⟨its2, rv2, pl2, _⟩ := I.list hy
  cases rv2
  have fin : EP X pins σ Q (.bool (!xs.isEmpty)) s := ⟨.bl (!xs.isEmpty), H, I, rfl, q⟩
  cases rv with
  | nil => exact PySem.SeqAt.RcNeAt.lists (e := fun _ => true) pl.isList pl2.isList rfl hu (fun j h1 h2 => absurd h1 (by simp)) X.prog X.w X.xe _ (by simpa using fin)
  | cons r rs => exact PySem.SeqAt.RcNeAt.lists_lengths pl.isList pl2.isList (by simp) hu X.prog X.w X.xe _ (by simpa using fin)
/-! ### a text, some times -/
def repS (z : Str) (k : Int) : Str := if k < 1 then Str.empty else if (k == 1 || z.length == 0) = true then z else ⟨(List.replicate k.toNat z.cps).foldl (· ++ ·) #[]⟩
def rRepS : R2 := fun x y H Q => ∃ z k, x = .str z ∧ y = .int k ∧ 0 ≤ k ∧ k ≤ 1000 ∧ z.length ≤ 1000 ∧ (repS z k).length ≤ sizeLine ∧ Q (.str (repS z k)) H
theorem op_repS : OpR X (binaryOp .Mult) rRepS := by
  rintro pins s σ H x y v u Q I rx ry ⟨z, k, rfl, rfl, h0, h1, hz, hs, q⟩
  obtain ⟨t, rfl⟩ := rx
  obtain ⟨t2, rfl⟩ := ry
  refine PySem.P.mul_str ?_ (fun _ _ => ?_) (fun _ _ => ?_) ?_
  · rw [decide_eq_false (by omega), decide_eq_false (by omega)]; rfl
  · have h2 : 1000 ≤ (2 ^ 63 - 1) / k := by
      rw [Int.le_ediv_iff_mul_le (by omega)]
      omega
    omega
  · have h2 : z.length * k.toNat ≤ 1000 * 1000 := Nat.mul_le_mul hz (by omega)
    unfold Builtin.Str.tooLong
    exact decide_eq_false (by rw [sizeLine_eq]; omega)
  · unfold repS at q
    split
    · rename_i h2
      rw [if_pos h2] at q
      exact ⟨by decide, .str Str.empty, H, I.kept fun _ _ e => e, ⟨_, rfl⟩, q⟩
    · rename_i h2
      rw [if_neg h2] at q
      split
      · rename_i h3
        rw [if_pos h3] at q
        exact ⟨.str z, H, I, ⟨_, rfl⟩, q⟩
      · rename_i h3
        rw [if_neg h3] at q
        unfold repS at hs
        rw [if_neg h2, if_neg h3] at hs
        exact ⟨hs, .str _, H, I.kept fun _ _ e => e, ⟨_, rfl⟩, q⟩
end
end DL.RV

/-! DL: the expressions of DMi over data. -/
namespace DL
open PySem PySem.Spec PyProof.Rows L2
theorem hu0 {k : Nat} {A : Around} (hr : Room k A) : A.units < cLine := by have := hr.un; omega
def dEqS : Op2 := fun x y Q => match y with
  | .str z => Q (.dat (.bool (RV.isStrD x z)))
  | _ => False
def dEqE : Op2 := fun x y Q => match x, y with
  | .list ds, .list [] => Q (.dat (.bool ds.isEmpty))
  | _, _ => False
def dNeE : Op2 := fun x y Q => match x, y with
  | .list ds, .list [] => Q (.dat (.bool (!ds.isEmpty)))
  | _, _ => False
def dMulS : Op2 := fun x y Q => match x, y with
  | .str z, .int k => 0 ≤ k ∧ k ≤ 1000 ∧ z.length ≤ 1000 ∧ (RV.repS z k).length ≤ LN ∧ Q (.dat (.str (RV.repS z k)))
  | _, _ => False
theorem dpt_any {K : PySem.W.Frag} {H : Hp} {F : AP} {v : V} {d : D} (h : DpT K H F v d) : ∃ F', DpF K H F' v d := by
  rcases h with h | ⟨a, xs, ds, rfl, rfl, h1, h2⟩
  · exact ⟨F, h⟩
  · exact ⟨_, .lst ⟨.inr rfl, h1⟩ (h2.mono later_fr)⟩
theorem sem_eqS {K : PySem.W.Frag} : Sem2 K (RV.rEqStr K) dEqS := by
  intro C r σ H F x y dx dy Q QV hK R hx hy hq k
  subst hK
  unfold dEqS at hq
  split at hq
  · cases hy.str
    obtain ⟨F', h⟩ := dpt_any hx
    exact ⟨F', dx, _, h, rfl, kq_dat k R (.bl _) hq⟩
  · exact hq.elim
theorem fs_empty {K : PySem.W.Frag} {H : Hp} {F : AP} {xs : List V} {ds : List D} (h : DpFs K H F xs ds) : xs.isEmpty = ds.isEmpty := by cases h <;> rfl
theorem sem_eqE {K : PySem.W.Frag} : Sem2 K (RV.rEqNil K) dEqE := by
  intro C r σ H F x y dx dy Q QV hK R hx hy hq k
  subst hK
  unfold dEqE at hq
  split at hq
  · obtain ⟨a, xs, rfl, h1, h2⟩ := hx.lst
    obtain ⟨b, ys, rfl, h3, h4⟩ := hy.lst
    cases h4
    exact ⟨a, xs, b, rfl, .inl (.inl h1), rfl, .inl (.inl h3), by rw [fs_empty h2]; exact kq_dat k R (.bl _) hq⟩
  · exact hq.elim
theorem sem_neE {K : PySem.W.Frag} : Sem2 K (RV.rNeNil K) dNeE := by
  intro C r σ H F x y dx dy Q QV hK R hx hy hq k
  subst hK
  unfold dNeE at hq
  split at hq
  · obtain ⟨a, xs, rfl, h1, h2⟩ := hx.lst
    obtain ⟨b, ys, rfl, h3, h4⟩ := hy.lst
    cases h4
    exact ⟨a, xs, b, rfl, .inl (.inl h1), rfl, .inl (.inl h3), by rw [fs_empty h2]; exact kq_dat k R (.bl _) hq⟩
  · exact hq.elim
theorem sem_mulS {K : PySem.W.Frag} : Sem2 K RV.rRepS dMulS := by
  intro C r σ H F x y dx dy Q QV hK R hx hy hq k
  unfold dMulS at hq
  split at hq
  · cases hx.str
    cases hy.int
    obtain ⟨h0, h1, h2, h3, hq⟩ := hq
    exact ⟨_, _, rfl, rfl, h0, h1, h2, by rw [line_eq]; exact h3, kq_dat k R (.str _) hq⟩
  · exact hq.elim
/-- t[::-1] -/
def xRev (a b : OX) : TX := fun X r Q => a X r fun g r1 => b X r1 fun h r2 => match g r2, h r2 with
  | some (.tuple ds), some (.int i) => i = -1 ∧ Q (.dat (.tuple ds.reverse)) r2
  | _, _ => False
/-- x.upper() -/
def xUpper (a : OX) : TX := fun X r Q => a X r fun g r1 => match g r1 with
  | some (.str x) => x.length ≤ 5592405 ∧ Q (.dat (.str (Txt.upper x))) r1
  | _ => False
/-- x.split(y) -/
def xSplit (a b : OX) : TX := fun X r Q => a X r fun g r1 => (∃ x, g r1 = some (.str x)) ∧ b X r1 fun h r2 => match g r2, h r2 with
  | some (.str x), some (.str y) => (y.length == 0) = false ∧ x.length + 2 ≤ LN ∧ Q (.own ((Txt.split x y).map .str)) r2
  | _, _ => False
section
variable {X : Cx} {W : WX} {e a b : Expr} {pos : Pos}
theorem de_rev {oa ob : OX} {p2 : Pos} (ha : DO X W a oa) (hb : DO X W b ob) : DE X W (.Subscript a (.Slice none none (some b) p2) pos) (xRev oa ob) := by
  obtain ⟨t, pa, enta⟩ := ha.ex
  obtain ⟨u, pb, entb⟩ := hb.ex
  refine ⟨⟨_, RV.pe_revT pa pb, fun C r σ H F Q Xk QV hK R L hf k => ?_⟩⟩
  refine enta C r σ H F _ Xk _ hK R L hf fun v H1 F1 g r1 R1 G1 q1 => ?_
  refine entb (C.up H1 F1 noT) r1 σ H1 F1 _ Xk _ hK R1.up0 (L.up R1) q1 fun y H2 F2 h r2 R2' G2 q2 => ?_
  have R2 := R1.down R2'
  split at q2
  · rename_i ds i eg eh
    obtain ⟨rfl, q2⟩ := q2
    have hd := G1 _ _ _ _ R2 R2'.later eg
    cases (G2 _ _ _ _ R2' Later.refl eh).int
    obtain ⟨pa, xs, rfl, h1, h2, _⟩ := hd.tup
    have kk : KQ C r2 σ H2 F2 (fun v => Q v r2) QV := fun v H' F' dv R' _ G' q' => k v H' F' dv r2 R' G' q'
    exact ⟨_, xs, rfl, rfl, hK ▸ h1, fun p hp => kq_tup kk R2 hp h2.rev q2⟩
  · exact q2.elim
theorem de_upper {oa : OX} (ha : DO X W a oa) (mk : ∀ {t : TE}, PE X a t → PE X e (tBM0 X.K "str" (fun x xs H Q => ∃ a, x = .str a ∧ xs = [] ∧ a.length ≤ 5592405 ∧ Q (.str (Txt.upper a)) H) t)) : DE X W e (xUpper oa) := by
  obtain ⟨t, pa, enta⟩ := ha.ex
  refine ⟨⟨_, mk pa, fun C r σ H F Q Xk QV hK R L hf k => ?_⟩⟩
  refine enta C r σ H F _ Xk _ hK R L hf fun v H1 F1 g r1 R1 G1 q1 => ?_
  split at q1
  · rename_i x eg
    cases (G1 _ _ _ _ R1 Later.refl eg).str
    exact ⟨rfl, x, rfl, rfl, q1.1, k _ H1 F1 _ r1 R1 (.dat (.str _)) q1.2⟩
  · exact q1.elim
theorem de_split {oa ob : OX} (ha : DO X W a oa) (hb : DO X W b ob) (hst : starEach (b :: []) X.env = (false, eval b X.env) :: starEach [] X.env := by rfl)
    (mk : ∀ {t : TE} {u : TA}, PE X a t → PA X [b] u → PE X e (tBM X.K "str" (fun x xs H Q => ∃ a b, x = .str a ∧ xs = [.str b] ∧ (b.length == 0) = false ∧ a.length + 2 ≤ sizeLine ∧ rNewStrs (Txt.split a b) H Q) t u)) : DE X W e (xSplit oa ob) := by
  obtain ⟨t, pa, enta⟩ := ha.ex
  obtain ⟨u, pb, entb⟩ := hb.ex
  refine ⟨⟨_, mk pa (pa_cons pb pa_nil hst), fun C r σ H F Q Xk QV hK R L hf k => ?_⟩⟩
  refine enta C r σ H F _ Xk _ hK R L hf fun v H1 F1 g r1 R1 G1 q1 => ?_
  obtain ⟨⟨x0, e0⟩, q1⟩ := q1
  cases (G1 _ _ _ _ R1 Later.refl e0).str
  refine ⟨rfl, ?_⟩
  refine entb (C.up H1 F1 noT) r1 σ H1 F1 _ Xk _ hK R1.up0 (L.up R1) q1 fun y H2 F2 h r2 R2' G2 q2 => ?_
  have R2 := R1.down R2'
  split at q2
  · rename_i x y eg eh
    cases (G1 _ _ _ _ R2 R2'.later eg).str
    cases (G2 _ _ _ _ R2' Later.refl eh).str
    have kk : KQ C r2 σ H2 F2 (fun v => Q v r2) QV := fun v H' F' dv R' _ G' q' => k v H' F' dv r2 R' G' q'
    exact ⟨_, _, rfl, rfl, q2.1, by rw [line_eq]; exact q2.2.1, fun p hp => kq_own kk R2 hp (dpfs_strs _) q2.2.2⟩
  · exact q2.elim
end
end DL

/-! DL: order of texts and of couples of a text and a number; any tuple against (). -/
namespace DL
open PySem PySem.Spec PyProof.Rows L2
namespace RV
def strLt (x y : Str) : Bool := decide (x.cps.toList < y.cps.toList)
def cpLt (s : Str) (i : Int) (t : Str) (j : Int) : Bool := if (s == t) = true then (if (i == j) = true then false else decide (i < j)) else strLt s t
def cpGe (s : Str) (i : Int) (t : Str) (j : Int) : Bool := if (s == t) = true then (if (i == j) = true then true else decide (j ≤ i)) else !strLt s t
section
variable {X : Cx}
def rCp (K : PySem.W.Frag) (f : Str → Int → Str → Int → Bool) : R2 := fun x y H Q => ∃ (a b : Addr) (s : Str) (i : Int) (t : Str) (j : Int), x = .ref a ∧ y = .ref b ∧ SqT K H a [.str s, .int i] ∧ SqT K H b [.str t, .int j] ∧ Q (.bl (f s i t j)) H
theorem op_ltCp (hu : X.A.units < cLine) : OpR X (compareOp .Lt) (rCp X.K cpLt) := by
  rintro pins σs σ H x y v u Q I rx ry ⟨a, b, s, i, t, j, rfl, rfl, ha, hb, q⟩
  cases rx
  cases ry
  obtain ⟨its, r1, p1, _⟩ := I.tuple ha
  obtain ⟨its2, r2, p2, _⟩ := I.tuple hb
  obtain _ | ⟨⟨k1, rfl⟩, _ | ⟨⟨k2, rfl⟩, _ | _⟩⟩ := r1
  obtain _ | ⟨⟨k3, rfl⟩, _ | ⟨⟨k4, rfl⟩, _ | _⟩⟩ := r2
  have R := Ob.RcOp.tuples_lt (A := X.A) (s := σs) (e := fun n => if n = 0 then s == t else i == j) (r := fun n => if n = 0 then strLt s t else decide (i < j)) p1 p2 hu
    (fun n h1 h2 => match n, h1, h2 with
      | 0, _, _ => SeqAt.EqAt.str_str s k1 t k3
      | 1, _, _ => SeqAt.EqAt.int_int i k2 j k4)
    (fun n h1 h2 _ => match n, h1, h2 with
      | 0, _, _ => fun _ _ _ _ h => PySem.P.lt_str h
      | 1, _, _ => Ob.RcOp.lt_int i j k2 k4)
  exact R X.prog X.w X.xe (EP X pins σ Q) ⟨.bl _, H, I, rfl, q⟩
theorem op_geCp (hu : X.A.units < cLine) : OpR X (compareOp .GtE) (rCp X.K cpGe) := by
  rintro pins σs σ H x y v u Q I rx ry ⟨a, b, s, i, t, j, rfl, rfl, ha, hb, q⟩
  cases rx
  cases ry
  obtain ⟨its, r1, p1, _⟩ := I.tuple ha
  obtain ⟨its2, r2, p2, _⟩ := I.tuple hb
  obtain _ | ⟨⟨k1, rfl⟩, _ | ⟨⟨k2, rfl⟩, _ | _⟩⟩ := r1
  obtain _ | ⟨⟨k3, rfl⟩, _ | ⟨⟨k4, rfl⟩, _ | _⟩⟩ := r2
  have R := Ob.RcOp.tuples_ge (A := X.A) (s := σs) (e := fun n => if n = 0 then s == t else i == j) (r := fun n => if n = 0 then !strLt s t else decide (j ≤ i)) p1 p2 hu
    (fun n h1 h2 => match n, h1, h2 with
      | 0, _, _ => SeqAt.EqAt.str_str s k1 t k3
      | 1, _, _ => SeqAt.EqAt.int_int i k2 j k4)
    (fun n h1 h2 _ => match n, h1, h2 with
      | 0, _, _ => fun _ _ _ _ h => PySem.P.ge_str h
      | 1, _, _ => Ob.RcOp.ge_int i j k2 k4)
  exact R X.prog X.w X.xe (EP X pins σ Q) ⟨.bl _, H, I, rfl, q⟩
def rNeNilT (K : PySem.W.Frag) : R2 := fun x y H Q => ∃ a xs b, x = .ref a ∧ SqT K H a xs ∧ y = .ref b ∧ SqT K H b [] ∧ Q (.bl (!xs.isEmpty)) H
theorem op_neNilT (hu : X.A.units < cLine) : OpR X (compareOp .NotEq) (rNeNilT X.K) := by
  rintro pins s σ H x y v u Q I rx ry ⟨a, xs, b, rfl, hx, rfl, hy, q⟩
  cases rx
  cases ry
  obtain ⟨its, rv, pl, _⟩ := I.tuple hx
  obtain ⟨its2, rv2, pl2, _⟩ := I.tuple hy
  cases rv2
  have fin : EP X pins σ Q (.bool (!xs.isEmpty)) s := ⟨.bl (!xs.isEmpty), H, I, rfl, q⟩
  have R := PySem.SeqAt.RcNeAt.tuples (A := X.A) (e := fun _ => true) pl pl2 hu (fun j h1 h2 => absurd h2 (by simp)) X.prog X.w X.xe (EP X pins σ Q)
  cases rv with
  | nil => exact R (by simpa using fin)
  | cons r rs => exact R (by simpa using fin)
end
end RV
def dLe2 : Op2 := fun x y Q => match x, y with
  | .int a, .int b => Q (.dat (.bool (decide (a ≤ b))))
  | .str a, .str b => Q (.dat (.bool (!RV.strLt b a)))
  | _, _ => False
def dLtC : Op2 := fun x y Q => match x, y with
  | .tuple [.str s, .int i], .tuple [.str t, .int j] => Q (.dat (.bool (RV.cpLt s i t j)))
  | _, _ => False
def dGeC : Op2 := fun x y Q => match x, y with
  | .tuple [.str s, .int i], .tuple [.str t, .int j] => Q (.dat (.bool (RV.cpGe s i t j)))
  | _, _ => False
def dNeT : Op2 := fun x y Q => match x, y with
  | .tuple ds, .tuple [] => Q (.dat (.bool (!ds.isEmpty)))
  | _, _ => False
def rLe2 : R2 := fun x y H Q => rI0 (fun i j => .bl (decide (i ≤ j))) x y H Q ∨ (∃ i j, x = .str i ∧ y = .str j ∧ Q (.bl (!decide (j.cps.toList < i.cps.toList))) H)
theorem op_le2 {X : Cx} : OpR X (compareOp .LtE) rLe2 := op_le.or op_le_str
theorem sem_le2 {K : PySem.W.Frag} : Sem2 K rLe2 dLe2 := by
  intro C r σ H F x y dx dy Q QV hK R hx hy hq k
  unfold dLe2 at hq
  split at hq
  · cases hx.int; cases hy.int
    exact .inl ⟨_, _, rfl, rfl, kq_dat k R (.bl _) hq⟩
  · cases hx.str; cases hy.str
    exact .inr ⟨_, _, rfl, rfl, kq_dat k R (.bl _) hq⟩
  · exact hq.elim
theorem cp_vals {K : PySem.W.Frag} {H : Hp} {F : AP} {xs : List V} {s : Str} {i : Int} (h : DpFs K H F xs [.str s, .int i]) : xs = [.str s, .int i] := by
  cases h with
  | cons h1 h2 =>
    cases h2 with
    | cons h3 h4 =>
      cases h4
      cases h1
      cases h3
      rfl
theorem sem_neT {K : PySem.W.Frag} : Sem2 K (RV.rNeNilT K) dNeT := by
  intro C r σ H F x y dx dy Q QV hK R hx hy hq k
  subst hK
  unfold dNeT at hq
  split at hq
  · obtain ⟨a, xs, rfl, h1, h2, _⟩ := hx.tup
    obtain ⟨b, ys, rfl, h3, h4, _⟩ := hy.tup
    cases h4
    exact ⟨a, xs, b, rfl, h1, rfl, h3, by rw [fs_empty h2]; exact kq_dat k R (.bl _) hq⟩
  · exact hq.elim
theorem sem_ltC {K : PySem.W.Frag} : Sem2 K (RV.rCp K RV.cpLt) dLtC := by
  intro C r σ H F x y dx dy Q QV hK R hx hy hq k
  subst hK
  unfold dLtC at hq
  split at hq
  · obtain ⟨a, xs, rfl, h1, h2, _⟩ := hx.tup
    obtain ⟨b, ys, rfl, h3, h4, _⟩ := hy.tup
    cases cp_vals h2
    cases cp_vals h4
    exact ⟨a, b, _, _, _, _, rfl, rfl, h1, h3, kq_dat k R (.bl _) hq⟩
  · exact hq.elim
theorem sem_geC {K : PySem.W.Frag} : Sem2 K (RV.rCp K RV.cpGe) dGeC := by
  intro C r σ H F x y dx dy Q QV hK R hx hy hq k
  subst hK
  unfold dGeC at hq
  split at hq
  · obtain ⟨a, xs, rfl, h1, h2, _⟩ := hx.tup
    obtain ⟨b, ys, rfl, h3, h4, _⟩ := hy.tup
    cases cp_vals h2
    cases cp_vals h4
    exact ⟨a, b, _, _, _, _, rfl, rfl, h1, h3, kq_dat k R (.bl _) hq⟩
  · exact hq.elim
end DL

/-! DL: sorted(xs) of data that are alike. -/
namespace DL
open PySem PySem.Spec PyProof.Rows L2
namespace RS2
abbrev leD : D → D → Bool := PySem.W.dataLe false fun x => x
def Okd (d : D) : Prop := d.showable = true ∧ d.depth ≤ 64 ∧ d.shown.length ≤ sizeLine
section
variable {X : Cx}
def rSortD (K : PySem.W.Frag) : List V → Hp → VK → Prop := fun vs H Q => ∃ (F : AP) (a : Addr) (xs : List V) (ds : List D), vs = [.ref a] ∧ SqL K H a xs ∧ DpFs K H F xs ds ∧ PySem.W.AllAlike ds ∧ PySem.W.Sortable ds ∧ (∀ d ∈ ds, Okd d) ∧ ds.length ≤ sizeLine ∧
  ∀ (p : Addr) (ys : List V), DpFs K H F ys (ds.mergeSort leD) → H p = none → Q (.ref p) (upd H p (.lst ys))
theorem each_of {K : PySem.W.Frag} {H : Hp} {F : AP} : ∀ {xs : List V} {us : List Value} {ds : List D}, Vals xs us → DpFs K H F xs ds → PySem.W.EachIs (fun u (p : V × D) => RelV p.1 u ∧ DpF K H F p.1 p.2 ∧ p.2 ∈ ds) us (xs.zip ds)
  | _, _, _, .nil, .nil => .nil
  | _, _, _, .cons r rs, .cons h hs => .cons ⟨r, h, List.mem_cons_self ..⟩ ((each_of rs hs).mono fun _ _ z => ⟨z.1, z.2.1, List.mem_cons_of_mem _ z.2.2⟩)
theorem fs_len {K : PySem.W.Frag} {H : Hp} {F : AP} : ∀ {xs : List V} {ds : List D}, DpFs K H F xs ds → xs.length = ds.length
  | _, _, .nil => rfl
  | _, _, .cons _ hs => congrArg (· + 1) (fs_len hs)
theorem vals_each {K : PySem.W.Frag} {H : Hp} {F : AP} {ds : List D} : ∀ {us : List Value} {ps : List (V × D)}, PySem.W.EachIs (fun u (p : V × D) => RelV p.1 u ∧ DpF K H F p.1 p.2 ∧ p.2 ∈ ds) us ps → Vals (ps.map (·.1)) us ∧ DpFs K H F (ps.map (·.1)) (ps.map (·.2))
  | _, _, .nil => ⟨.nil, .nil⟩
  | _, _, .cons h t => ⟨.cons h.1 (vals_each t).1, .cons h.2.1 (vals_each t).2⟩
theorem cr_sortD (hu : X.A.units + 100 < cLine) : CallR X (.builtin "sorted") (rSortD X.K) := by
  intro pins s σ H vs us Q I r h
  obtain ⟨F, a, xs, ds, rfl, hs, hd, hal, hk, hok, hL, q⟩ := h
  obtain ⟨its, rv, hl, _⟩ := I.list hs
  rw [Vals.ref1 r]
  have key := each_of rv hd
  have e2 : (xs.zip ds).map (fun p : V × D => p.2) = ds := List.map_snd_zip (by rw [fs_len hd]; exact Nat.le_refl _)
  refine PySem.W.sorted_data (R := fun u (p : V × D) => RelV p.1 u ∧ DpF X.K H F p.1 p.2 ∧ p.2 ∈ ds) (enc := fun p : V × D => p.2) hl.isList key (key.mono fun u p z => ?_) (by rw [e2]; exact hal) (by rw [e2]; exact hk) (by rw [List.length_zip, fs_len hd, Nat.min_self]; exact hL) (fun p hp => ?_) fun out hlen hout => ?_
  · have o := hok _ z.2.2
    obtain ⟨as, _, h1, _⟩ := RD.shw_of I p.2.depth p.1 p.2 u (Nat.le_refl _) z.2.1 z.1 o.1 o.2.2
    exact ⟨as, h1⟩
  · have o := hok p.2 (List.of_mem_zip hp).2
    have := o.2.1
    omega
  · obtain ⟨ep, he'⟩ := PyProof.Rows.sortedAll_at s.heap its out.toArray
    obtain ⟨v1, v2⟩ := vals_each hout
    have e3 : (((xs.zip ds).mergeSort (PySem.W.dataLe false fun p : V × D => p.2)).map (·.2)) = ds.mergeSort leD := by
      have m := List.map_mergeSort (r := PySem.W.dataLe false fun p : V × D => p.2) (s := leD) (f := fun p : V × D => p.2) (l := xs.zip ds) (fun a _ b _ => rfl)
      rw [m, e2]
    rw [e3] at v2
    have hn : (((xs.zip ds).mergeSort (PySem.W.dataLe false fun p : V × D => p.2)).map (·.1)).length ≤ sizeLine := by
      rw [List.length_map, List.length_mergeSort, List.length_zip, fs_len hd, Nat.min_self]; exact hL
    exact ⟨.ref _, upd H (s.heap.objs.size + 1) (.lst (((xs.zip ds).mergeSort (PySem.W.dataLe false fun p : V × D => p.2)).map (·.1))), I.laid (t' := s.toks) (fun _ _ => PyProof.Rows.sortedAll_old) (Nat.le_succ _) ⟨hn, out, ep, v1, he'⟩, rfl, q _ _ v2 (I.hok.fresh (Nat.le_succ _))⟩
end
end RS2
def nSortD : OpN := fun ds Q => match ds with
  | [.list xs] => PySem.W.AllAlike xs ∧ PySem.W.Sortable xs ∧ (∀ d ∈ xs, RS2.Okd d) ∧ xs.length ≤ LN ∧ Q (.own (xs.mergeSort RS2.leD))
  | _ => False
theorem sem_sortD {K : PySem.W.Frag} : SemN K (RS2.rSortD K) nSortD := by
  intro C r σ H F xs ds Q QV hK R hx hq k
  subst hK
  unfold nSortD at hq
  split at hq
  · obtain ⟨v, rfl, hv⟩ := hx.one
    obtain ⟨a, vs, rfl, h1, h2⟩ := hv.lst
    obtain ⟨q1, q2, q3, q4, hq⟩ := hq
    exact ⟨_, a, vs, _, rfl, .inl (.inl h1), h2, q1, q2, q3, by rw [line_eq]; exact q4, fun p ys hy hn => kq_own k R hn hy hq⟩
  · exact hq.elim
end DL

/-! DL: dicts whose keys are tuples, nested ones too. -/
namespace DL
open PySem PySem.Spec PyProof.Rows L2
def lookN (kvs : List (D × D)) (k : D) : Option D := (kvs.find? fun p => decide (keyN p.1 = keyN k)).map (·.2)
def putN (kvs : List (D × D)) (k d : D) : List (D × D) :=
  if (kvs.any fun p => decide (keyN p.1 = keyN k)) = true then kvs.map (fun p => if keyN p.1 = keyN k then (p.1, d) else p) else kvs ++ [(k, d)]
abbrev NP := NestedKey × Addr × V
abbrev NRel (p : NestedKey × Addr × V) (q : NestedKey × Addr × Value) : Prop := p.1 = q.1 ∧ p.2.1 = q.2.1 ∧ RelV p.2.2 q.2.2
def valN (ps : List NP) (k : NestedKey) : Option V := (ps.find? fun p => decide (p.1 = k)).map fun p => p.2.2
def putNK (ps : List NP) (k : NestedKey) (b : Addr) (v : V) : List NP :=
  if (valN ps k).isSome = true then ps.map (fun p => if p.1 = k then (p.1, p.2.1, v) else p) else ps ++ [(k, b, v)]
theorem valN_pos {p : NP} {r : List NP} {k : NestedKey} (e : p.1 = k) : valN (p :: r) k = some p.2.2 := by simp [valN, List.find?_cons, e]
theorem valN_neg {p : NP} {r : List NP} {k : NestedKey} (e : ¬ p.1 = k) : valN (p :: r) k = valN r k := by simp [valN, List.find?_cons, e]
section
variable {K : PySem.W.Frag} {H : Hp} {F : AP}
theorem KnR.look : ∀ {ps : List NP} {kvs : List (D × D)} {k : D} {kk : NestedKey}, KnR K H F ps kvs → keyN k = some kk → (match valN ps kk with
    | some v => ∃ d, lookN kvs k = some d ∧ DpF K H F v d
    | none => lookN kvs k = none)
  | _, _, k, kk, .nil, _ => rfl
  | _, _, k, kk, .cons (k := k0) (b := b0) (v := v0) (kd := kd0) (d := d0) (r := r) (s := s) e hk h hs, ek => by
    have ih := KnR.look hs ek
    by_cases q : k0 = kk
    · rw [valN_pos (p := (k0, b0, v0)) q]
      refine ⟨d0, ?_, h⟩
      unfold lookN
      rw [List.find?_cons_of_pos (by rw [e, ek, q]; exact decide_eq_true rfl)]
      rfl
    · rw [valN_neg (p := (k0, b0, v0)) q]
      have e2 : lookN ((kd0, d0) :: s) k = lookN s k := by
        unfold lookN
        rw [List.find?_cons_of_neg (by rw [e, ek]; simpa using q)]
      rw [e2]
      exact ih
theorem KnR.any : ∀ {ps : List NP} {kvs : List (D × D)} {k : D} {kk : NestedKey}, KnR K H F ps kvs → keyN k = some kk → (valN ps kk).isSome = (kvs.any fun p => decide (keyN p.1 = keyN k))
  | _, _, _, _, .nil, _ => rfl
  | _, _, k, kk, .cons (k := k0) (b := b0) (v := v0) e hk h hs, ek => by
    rw [List.any_cons, ← KnR.any hs ek]
    by_cases q : k0 = kk
    · rw [valN_pos (p := (k0, b0, v0)) q, e, ek, q]; simp
    · rw [valN_neg (p := (k0, b0, v0)) q, e, ek, decide_eq_false (fun z => q (Option.some.inj z)), Bool.false_or]
theorem KnR.app : ∀ {ps qs : List NP} {kvs ls : List (D × D)}, KnR K H F ps kvs → KnR K H F qs ls → KnR K H F (ps ++ qs) (kvs ++ ls)
  | _, _, _, _, .nil, k => k
  | _, _, _, _, .cons e hk h hs, k => .cons e hk h (KnR.app hs k)
theorem KnR.set : ∀ {ps : List NP} {kvs : List (D × D)} {k d : D} {kk : NestedKey} {v : V}, KnR K H F ps kvs → keyN k = some kk → DpF K H F v d →
    KnR K H F (ps.map fun p => if p.1 = kk then (p.1, p.2.1, v) else p) (kvs.map fun p => if keyN p.1 = keyN k then (p.1, d) else p)
  | _, _, _, _, _, _, .nil, _, _ => .nil
  | _, _, k, d, kk, v, .cons (k := k0) (kd := kd0) e hk h hs, ek, hv => by
    rw [List.map_cons, List.map_cons]
    by_cases q : k0 = kk
    · rw [if_pos q, if_pos (by rw [e, ek, q])]
      exact .cons e hk hv (KnR.set hs ek hv)
    · rw [if_neg q, if_neg (by rw [e, ek]; intro z; exact q (Option.some.inj z))]
      exact .cons e hk h (KnR.set hs ek hv)
theorem KnR.put {ps : List NP} {kvs : List (D × D)} {k d : D} {kk : NestedKey} {b : Addr} {v : V} (h : KnR K H F ps kvs) (ek : keyN k = some kk) (hk : DpF K H F (.ref b) k) (hv : DpF K H F v d) : KnR K H F (putNK ps kk b v) (putN kvs k d) := by
  unfold putNK putN
  rw [h.any ek]
  split
  · exact h.set ek hv
  · exact h.app (.cons ek hk hv .nil)
theorem KnR.len : ∀ {ps : List NP} {kvs : List (D × D)}, KnR K H F ps kvs → ps.length = kvs.length
  | _, _, .nil => rfl
  | _, _, .cons _ _ _ hs => congrArg (· + 1) (KnR.len hs)
theorem KnR.keys : ∀ {ps : List NP} {kvs : List (D × D)}, KnR K H F ps kvs → DpFs K H F (ps.map fun p => .ref p.2.1) (kvs.map (·.1))
  | _, _, .nil => .nil
  | _, _, .cons _ hk _ hs => .cons hk (KnR.keys hs)
theorem key_ref {k : D} {kk : NestedKey} {v : V} (e : keyN k = some kk) (h : DpT K H F v k) : ∃ b, v = .ref b ∧ DpF K H F (.ref b) k := by
  cases k with
  | tuple ds =>
    rcases h with h | ⟨a, xs, ds', rfl, e2, h1, h2⟩
    · cases h with
      | tup h hs => exact ⟨_, rfl, .tup h hs⟩
    · cases e2
  | _ => cases e
end
theorem nrel_val {ps : List NP} {ys : List (NestedKey × Addr × Value)} (r : Paired NRel ps ys) (k : NestedKey) : RelO (valN ps k) ((atKey ys k).map (·.2)) := by
  induction r with
  | nil => exact True.intro
  | @cons p q ps qs h t ih =>
    obtain ⟨h1, h2, h3⟩ := h
    by_cases e : p.1 = k
    · have e' : q.1 = k := h1.symm.trans e
      have b : atKey (q :: qs) k = some q.2 := by simp [atKey, List.find?_cons, e']
      rw [valN_pos e, b]; exact h3
    · have e' : ¬ q.1 = k := fun z => e (h1.trans z)
      have b : atKey (q :: qs) k = atKey qs k := by simp [atKey, List.find?_cons, e']
      rw [valN_neg e, b]; exact ih
theorem nrel_map {ps : List NP} {ys : List (NestedKey × Addr × Value)} (r : Paired NRel ps ys) (k : NestedKey) {v : V} {u : Value} (rv : RelV v u) : Paired NRel (ps.map fun p => if p.1 = k then (p.1, p.2.1, v) else p) (ys.map (putAt k u)) := by
  induction r with
  | nil => exact .nil
  | @cons p q ps qs h t ih =>
    rw [List.map_cons, List.map_cons]
    refine .cons ?_ ih
    obtain ⟨h1, h2, h3⟩ := h
    unfold putAt
    by_cases e : p.1 = k
    · rw [if_pos e, if_pos (h1.symm.trans e)]; exact ⟨h1, h2, rv⟩
    · rw [if_neg e, if_neg (fun z => e (h1.trans z))]; exact ⟨h1, h2, h3⟩
theorem nrel_put {ps : List NP} {ys : List (NestedKey × Addr × Value)} (r : Paired NRel ps ys) (k : NestedKey) (b : Addr) {v : V} {u : Value} (rv : RelV v u) : Paired NRel (putNK ps k b v) (storedH ys k b u) := by
  unfold putNK storedH
  have q := (nrel_val r k).isSome_eq
  rw [Option.isSome_map] at q
  rw [q]
  by_cases e : (atKey ys k).isSome = true
  · rw [if_pos e, if_pos e]; exact nrel_map r k rv
  · rw [if_neg e, if_neg e]; exact Paired.snoc r ⟨rfl, rfl, rv⟩
theorem putNK_len (ps : List NP) (k : NestedKey) (b : Addr) (v : V) : (putNK ps k b v).length ≤ ps.length + 1 := by
  unfold putNK
  split
  · rw [List.length_map]; omega
  · rw [List.length_append, List.length_singleton]; exact Nat.le_refl _
section
variable {X : Cx} {pins : List (Addr × Obj)} {σ : L2.St} {H : Hp} {s : Shared} {F : AP}
mutual
theorem nis_one (I : Inv X pins σ H s) : ∀ (d : D) (v : V) (u : Value) (k : NestedKey), DpF X.K H F v d → RelV v u → nkD d = some k → NestedIs s.heap k u
  | .none, _, _, _, h, r, e => by cases h; cases r; cases e; exact .none
  | .bool b, _, _, _, h, r, e => by cases h; cases r; cases e; exact .bool rfl
  | .int i, _, _, _, h, r, e => by cases h; obtain ⟨t, rfl⟩ := r; cases e; exact .int i t
  | .str x, _, _, _, h, r, e => by cases h; obtain ⟨t, rfl⟩ := r; cases e; exact .text x t
  | .tuple ds, v, u, k, h, r, e => by
    unfold nkD at e
    split at e
    · rename_i ks ek
      cases e
      cases h with
      | tup h1 h2 =>
        cases r
        obtain ⟨its, rv, ⟨o, ho, hc, m, hdat⟩, _⟩ := I.tuple (h1.elim (fun p => .inl p.2) fun p => p.sq H)
        exact .tup ho hc hdat (by rw [List.toList_toArray]; exact nis_all I ds _ _ ks h2 rv ek)
    · cases e
  | .list _, _, _, _, _, _, e => by cases e
  | .dict _, _, _, _, _, _, e => by cases e
theorem nis_all (I : Inv X pins σ H s) : ∀ (ds : List D) (vs : List V) (us : List Value) (ks : List NestedKey), DpFs X.K H F vs ds → Vals vs us → nkDs ds = some ks → NestedAll s.heap ks us
  | [], _, _, _, h, r, e => by cases h; cases r; cases e; exact .nil
  | d :: ds, _, _, _, h, r, e => by
    cases h with
    | cons h hs =>
      cases r with
      | cons r rs =>
        unfold nkDs at e
        split at e
        · rename_i k ks e1 e2
          cases e
          exact .cons (nis_one I d _ _ _ h r e1) (nis_all I ds _ _ _ hs rs e2)
        · cases e
end
theorem key_is (I : Inv X pins σ H s) {b : Addr} {kd : D} {k : NestedKey} (h : DpF X.K H F (.ref b) kd) (e : keyN kd = some k) : (nestedKind X.prog X.w).is s.heap k b := by
  cases kd with
  | tuple ds =>
    unfold keyN at e
    cases q : nkDs ds with
    | none => simp only [q] at e; cases e
    | some ks =>
      simp only [q] at e
      split at e
      · rename_i hd
        cases e
        exact ⟨nis_one I _ _ _ _ h rfl (by unfold nkD; rw [q]), hd⟩
      · cases e
  | _ => cases e
theorem dn_keys (I : Inv X pins σ H s) {ps : List NP} {ys : List (NestedKey × Addr × Value)} {kvs : List (D × D)} (r : Paired NRel ps ys) (kn : KnR X.K H F ps kvs) : ∀ y ∈ ys, (nestedKind X.prog X.w).is s.heap y.1 y.2.1 := by
  induction kn generalizing ys with
  | nil => cases r; intro y hy; cases hy
  | cons e hk h hs ih =>
    cases r with
    | cons h1 t =>
      intro y hy
      rcases List.mem_cons.mp hy with rfl | hy
      · obtain ⟨a, b, _⟩ := h1
        rw [← a, ← b]
        exact key_is I hk e
      · exact ih t y hy
theorem dn_rd (I : Inv X pins σ H s) {a : Addr} {ps : List NP} {kvs : List (D × D)} (e : H a = some (dN X.w a ps)) (kn : KnR X.K H F ps kvs) : ps.length ≤ sizeLine ∧ (a == sysModules) = false ∧
    ∃ ys, Paired NRel ps ys ∧ s.heap.DictOfH (nestedKind X.prog X.w) a ys := by
  obtain ⟨⟨z, y, ys, r, o, es, ep, h1, h2, h3, h4, h5⟩, _⟩ := I.hok a _ e
  exact ⟨z, y, ys, r, o, es, ep, h1, h2, h3, h4, dn_keys I r kn, h5⟩
theorem dn_at (I : Inv X pins σ H s) {a : Addr} {ps : List NP} (e : H a = some (dN X.w a ps)) : s.TypeIs (.ref a) "dict" ∧ (∀ b, Value.ref a = .ref b → ∃ ob, s.heap.get? b = some ob ∧ ob.dict = none) ∧ (a == sysModules) = false := by
  obtain ⟨⟨z, y, ys, r, o, es, ep, h1, h2, h3, h4, h5⟩, _⟩ := I.hok a _ e
  refine ⟨⟨o, h1, h2.1⟩, fun b q => ?_, y⟩
  cases q
  exact ⟨o, h1, h2.2.1⟩
theorem dn_stable {w : World} {a : Addr} {ps : List NP} : ∀ h1 h2 : Heap, DNp w a ps h1 → (∀ o, h1.get? a = some o → h2.get? a = some o) → DNp w a ps h2 :=
  fun _ _ ⟨z, y, ys, r, o, es, ep, g1, g⟩ k => ⟨z, y, ys, r, o, es, ep, k o g1, g⟩
theorem dn_new {P : Program} {w : World} {H' : Hp} {h' : Heap} {a : Addr} {ps : List NP} {ys : List (NestedKey × Addr × Value)} (z : ps.length ≤ sizeLine) (hd : (a == sysModules) = false) (r : Paired NRel ps ys) (dd : h'.DictOfH (nestedKind P w) a ys) : ObjOk P w H' h' a (dN w a ps) := by
  obtain ⟨o, es, ep, h1, h2, h3, h4, _, h5⟩ := dd
  exact ⟨⟨z, hd, ys, r, o, es, ep, h1, h2, h3, h4, h5⟩, ⟨o, h1⟩, dn_stable⟩
theorem room_n {A : Around} (hu : A.units + 100 < cLine) : (nestedKind X.prog X.w).room A.in1 := by
  show A.units + 1 + 8 < cLine
  omega
end
/-! ### readings and rules -/
section
variable (K : PySem.W.Frag) (w : World)
/-- the dict at a holds kvs, y is the key kd -/
def AtN (H : Hp) (a : Addr) (y : V) (ps : List NP) (k : NestedKey) : Prop := ∃ (F : AP) (b : Addr) (kvs : List (D × D)) (kd : D), y = .ref b ∧ H a = some (dN w a ps) ∧ KnR K H F ps kvs ∧ DpF K H F (.ref b) kd ∧ keyN kd = some k
def tNGet (td ty : L2.TE) : L2.TE := fun σ H Q => td σ H fun x H1 => ty σ H1 fun y H2 => ∃ a ps k v, x = .ref a ∧ AtN K w H2 a y ps k ∧ valN ps k = some v ∧ Q v H2
def tNIn (ty td : L2.TE) : L2.TE := fun σ H Q => ty σ H fun y H1 => td σ H1 fun x H2 => ∃ a ps k, x = .ref a ∧ AtN K w H2 a y ps k ∧ Q (.bl (valN ps k).isSome) H2
def tNNotIn (ty td : L2.TE) : L2.TE := fun σ H Q => ty σ H fun y H1 => td σ H1 fun x H2 => ∃ a ps k, x = .ref a ∧ AtN K w H2 a y ps k ∧ Q (.bl (!(valN ps k).isSome)) H2
def sNPut (td ty tv : L2.TE) : L2.TS := fun D σ H => tv σ H fun v H1 => td σ H1 fun x H2 => ty σ H2 fun y H3 => ∃ a b ps k, x = .ref a ∧ y = .ref b ∧ AtN K w H3 a y ps k ∧ ps.length < sizeLine ∧ D.nx σ (upd H3 a (dN w a (putNK ps k b v)))
def tNGet2 (td ty tx : L2.TE) : L2.TE := fun σ H Q => td σ H fun x H1 => ∃ a, x = .ref a ∧ (∃ ps, H1 a = some (dN w a ps)) ∧ ty σ H1 fun y H2 => tx σ H2 fun z H3 => ∃ ps k, AtN K w H3 a y ps k ∧ Q ((valN ps k).getD z) H3
def tNNew : L2.TE := fun _ H Q => ∀ p, H p = none → Q (.ref p) (upd H p (dN w p []))
end
section
variable {X : Cx} {o i e f value : Expr} {pos pos' apos cpos : Pos} {td ty tv tx : L2.TE}
theorem pe_nget (hu : X.A.units + 100 < cLine) (ho : PE X o td) (hi : PE X i ty) (hs : NoSl i) : PE X (.Subscript o i pos) (tNGet X.K X.w td ty) := by
  refine ⟨fun pins s σ H Q I h => ?_⟩
  refine subD_of PySem.F.slot_dict_getitem.lookup hs (thn (ho.run pins s σ H _ I h) fun u s1 ⟨x, H1, I1, rx, q1⟩ => thn (hi.run pins s1 σ H1 _ I1 q1) fun iv s2 ⟨y, H2, I2, ry, a, ps, k, v, ex, ⟨F, b, kvs, kd, ey, e, kn, hk, ek⟩, ev, q2⟩ => ?_)
  subst ex ey
  obtain rfl : u = Value.ref a := rx
  obtain rfl : iv = Value.ref b := ry
  obtain ⟨_, _, ys, rel, dd⟩ := dn_rd I2 e kn
  obtain ⟨w', hw, rw'⟩ := RelO.some_of (v := v) (o := (atKey ys k).map (·.2)) (by rw [← ev]; exact nrel_val rel k)
  obtain ⟨p, hp, hp2⟩ := Option.map_eq_some_iff.mp hw
  refine ⟨dd.typeIs, wpAny_getItem_heap (room_n hu) (key_is I2 hk ek) dd hp ?_⟩
  rw [hp2]
  exact ⟨v, H2, I2.tok _, rw', q2⟩
theorem pc_nin (hu : X.A.units + 100 < cLine) (hi : PE X i ty) (ho : PE X o td) : PC X .In i o (tNIn X.K X.w ty td) := by
  refine ⟨fun pins s σ H Q I h => ?_⟩
  refine thn (hi.run pins s σ H _ I h) fun iv s1 ⟨y, H1, I1, ry, q1⟩ => thn (ho.run pins s1 σ H1 _ I1 q1) fun u s2 ⟨x, H2, I2, rx, a, ps, k, ex, ⟨F, b, kvs, kd, ey, e, kn, hk, ek⟩, q2⟩ => ?_
  subst ex ey
  obtain rfl : u = Value.ref a := rx
  obtain rfl : iv = Value.ref b := ry
  obtain ⟨_, hd, ys, rel, dd⟩ := dn_rd I2 e kn
  refine wpAny_in_heap (room_n hu) (key_is I2 hk ek) hd dd ?_
  have q := (nrel_val rel k).isSome_eq
  rw [Option.isSome_map] at q
  rw [← q]
  exact ⟨.bl _, H2, I2.tok _, rfl, q2⟩
theorem pc_nnotin (hu : X.A.units + 100 < cLine) (hi : PE X i ty) (ho : PE X o td) : PC X .NotIn i o (tNNotIn X.K X.w ty td) := by
  refine ⟨fun pins s σ H Q I h => ?_⟩
  refine thn (hi.run pins s σ H _ I h) fun iv s1 ⟨y, H1, I1, ry, q1⟩ => thn (ho.run pins s1 σ H1 _ I1 q1) fun u s2 ⟨x, H2, I2, rx, a, ps, k, ex, ⟨F, b, kvs, kd, ey, e, kn, hk, ek⟩, q2⟩ => ?_
  subst ex ey
  obtain rfl : u = Value.ref a := rx
  obtain rfl : iv = Value.ref b := ry
  obtain ⟨_, hd, ys, rel, dd⟩ := dn_rd I2 e kn
  refine wpAny_notIn_heap (room_n hu) (key_is I2 hk ek) hd dd ?_
  have q := (nrel_val rel k).isSome_eq
  rw [Option.isSome_map] at q
  rw [← q]
  exact ⟨.bl _, H2, I2.tok _, rfl, q2⟩
theorem ps_nput (hu : X.A.units + 100 < cLine) (ho : PE X o td) (hi : PE X i ty) (hv : PE X value tv) (hs : swapsWith value (some (.Subscript o i pos')) pos.line X.env = pure false) :
    PS X (.Assign [.Subscript o i pos'] value pos) (sNPut X.K X.w td ty tv) := by
  refine ⟨fun pins s σ H D I h => ?_⟩
  refine wpAny_Assign_Subscript (thn (hv.run pins s σ H _ I h) fun r s1 ⟨v, H1, I1, rv, q1⟩ => thn (ho.run pins s1 σ H1 _ I1 q1) fun u s2 ⟨x, H2, I2, rx, q2⟩ => thn (hi.run pins s2 σ H2 _ I2 q2) fun iv s3 ⟨y, H3, I3, ry, a, b, ps, k, ex, ey, ⟨F, b', kvs, kd, ey', e, kn, hk, ek⟩, hl, q3⟩ => ?_) hs
  subst ex ey
  cases ey'
  obtain rfl : u = Value.ref a := rx
  obtain rfl : iv = Value.ref b := ry
  obtain ⟨z, hd, ys, rel, dd⟩ := dn_rd I3 e kn
  refine wpAny_setItem_heap (hsz := by rw [← Paired.length rel]; exact z) (room_n hu) (key_is I3 hk ek) dd fun h' dd' hs' => ?_
  have he : ∃ q, h'.get? a = some q := let ⟨q, _, _, hq, _⟩ := dd'; ⟨q, hq⟩
  exact ⟨σ, _, d_write I3 (by rw [e]; exact True.intro) hs' he (dn_new (by have := putNK_len ps k b v; omega) hd (nrel_put rel k b rv) dd'), q3⟩
theorem pe_nget2 (hu : X.A.units + 100 < cLine) (ho : PE X o td) (he : PE X e ty) (hf : PE X f tx) (m : M2 X o "get" apos e f cpos) : PE X (.Call (.Attribute o "get" apos) [e, f] [] cpos) (tNGet2 X.K X.w td ty tx) := by
  refine ⟨fun pins s σ H Q I h => ?_⟩
  refine wpAny_Call_method m.base m.few m.line PySem.F.plainAttrs_dict PySem.F.slot_dict_get PySem.F.type_dict_get (thn (ho.run pins s σ H _ I h) fun u s1 ⟨x, H1, I1, rx, a, ex, ⟨ps0, d⟩, q1⟩ => ?_)
  subst ex
  obtain rfl : u = Value.ref a := rx
  obtain ⟨t1, t2, _⟩ := dn_at I1 d
  refine ⟨t1, t2, ?_⟩
  rw [m.trees]
  refine Calls.callWith_builtin rfl (Calls.evalArgs_plain (Calls.spliced_cons (thn (he.run pins s1 σ H1 _ I1 q1) fun iv s2 ⟨y, H2, I2, ry, q2⟩ =>
    Calls.spliced_cons (thn (hf.run pins s2 σ H2 _ I2 q2) fun fv s3 ⟨z, H3, I3, rz, ps, k, ⟨F, b, kvs, kd, ey, e, kn, hk, ek⟩, q3⟩ => Calls.spliced_nil ?_))))
  subst ey
  obtain rfl : iv = Value.ref b := ry
  obtain ⟨_, hd, ys, rel, dd⟩ := dn_rd I3 e kn
  refine call_meetsIn PySem.F.slot_dict_get dd.typeIs PySem.F.entry_dict_get (PySem.F.args_dict_get_3 _ _ _) (meetsH_dict_get_default (nestedKind X.prog X.w) a b hd fv) ⟨room_n hu, k, ys, key_is I3 hk ek, dd, ⟨_, H3, I3.tok _, ?_, q3⟩⟩
  exact (nrel_val rel k).getD rz
theorem pe_nnew : PE X (.Dict [] [] pos) (tNNew X.w) := ⟨fun pins s σ H Q I h =>
  wpAny_Dict_empty ⟨.ref s.heap.objs.size, _, I.laid (a := s.heap.objs.size) (o := dN X.w s.heap.objs.size []) (t' := s.toks) (fun _ _ q => Heap.get?_push_of_some _ q) (Nat.le_refl _)
    (dn_new (P := X.prog) (ys := []) (Nat.zero_le _) (beq_eq_false_iff_ne.mpr (Ne.symm (Nat.ne_of_lt I.big))) .nil ⟨_, #[], 0, Heap.get?_push_size _ rfl, ⟨rfl, rfl, rfl⟩, rfl, rfl, (fun _ h => (by cases h)), List.nodup_nil⟩), rfl, h _ (I.hok.fresh (Nat.le_refl _))⟩⟩
end
end DL

/-! DL: dicts whose keys are tuples: what expressions and statements mean; sorted of such a dict. -/
namespace DL
open PySem PySem.Spec PyProof.Rows L2
def xGetN (i : Nat) (b : OX) : TX := fun X r Q => (∃ kvs, sl r i = some (.dct true kvs)) ∧ b X r fun g r1 => match g r1, sl r1 i with
  | some k, some (.dct true kvs) => keyN k ≠ none ∧ (match lookN kvs k with
    | some d => Q (.dat d) r1
    | none => False)
  | _, _ => False
/-- k in d -/
def xInN (neg : Bool) (i : Nat) (b : OX) : TX := fun X r Q => b X r fun g r1 => match g r1, sl r1 i with
  | some k, some (.dct true kvs) => keyN k ≠ none ∧ Q (.dat (.bool (neg != (lookN kvs k).isSome))) r1
  | _, _ => False
/-- d[k] = e -/
def sPutN (i : Nat) (b : OX) (f : TX) : TS := fun E r => f E.ex r fun dv r1 => match dv.toD with
  | some d => (∃ kvs, sl r1 i = some (.dct true kvs)) ∧ b E.ex r1 fun g r2 => (match g r2, sl r2 i with
    | some k, some (.dct true kvs) => keyN k ≠ none ∧ kvs.length < 16777216 ∧ E.nx (put r2 i (.dct true (putN kvs k d)))
    | _, _ => False)
  | none => False
/-- d.get(k, e) -/
def xGet2N (i : Nat) (b : OX) (f : TX) : TX := fun X r Q => (∃ kvs, sl r i = some (.dct true kvs)) ∧ b X r fun g r1 => f X r1 fun dv r2 => match g r2, dv.toD, sl r2 i with
  | some k, some d, some (.dct true kvs) => keyN k ≠ none ∧ Q (.dat ((lookN kvs k).getD d)) r2
  | _, _, _ => False
def xNewN : TX := fun _ r Q => Q (.dct true []) r
/-- sorted(d) -/
def xSortN (i : Nat) : TX := fun _ r Q => match sl r i with
  | some (.dct true kvs) => PySem.W.AllAlike (kvs.map (·.1)) ∧ PySem.W.Sortable (kvs.map (·.1)) ∧ (∀ d ∈ kvs.map (·.1), d.depth ≤ 64) ∧ kvs.length ≤ 16777216 ∧ Q (.own ((kvs.map (·.1)).mergeSort RS2.leD)) r
  | _ => False
theorem DctR.n {K : PySem.W.Frag} {w : World} {H : Hp} {F : AP} {a : Addr} {kvs : List (D × D)} (h : DctR K w H F a true kvs) : ∃ ps, H a = some (dN w a ps) ∧ KnR K H F ps kvs := by
  rcases h with ⟨z, _⟩ | ⟨_, ps, h1, h2⟩
  · cases z
  · exact ⟨ps, h1, h2⟩
section
variable {X : Cx} {W : WX} {e a b c ob : Expr} {pos : Pos} {st : Stmt}
theorem atN_of {C : Ctx} {Xk : XW} {σ : L2.St} {H1 : Hp} {F1 : AP} {p bb : Addr} {ps : List NP} {kvs : List (D × D)} {kd : D} {kk : NestedKey} (hK : C.K = X.K) (L : C.w = X.w) (h1 : H1 p = some (dN C.w p ps)) (h2 : KnR C.K H1 F1 ps kvs) (hkd : DpF C.K H1 F1 (.ref bb) kd) (ek : keyN kd = some kk) :
    AtN X.K X.w H1 p (.ref bb) ps kk := ⟨F1, bb, kvs, kd, rfl, by rw [← L]; exact h1, hK ▸ h2, hK ▸ hkd, ek⟩
theorem de_getN {i : Nat} {o : OX} (hu : X.A.units + 100 < cLine) (po : PE X ob (tVar i)) (hb : DO X W b o) (hs : NoSl b) : DE X W (.Subscript ob b pos) (xGetN i o) := by
  obtain ⟨t, pe, ent⟩ := hb.ex
  refine ⟨⟨_, pe_nget hu po pe hs, fun C r σ H F Q Xk QV hK R L hf k => ?_⟩⟩
  obtain ⟨⟨kvs0, e0⟩, hf⟩ := hf
  obtain ⟨v0, s0, sr0⟩ := R.slot i _ e0
  refine ⟨v0, s0, ?_⟩
  refine ent C r σ H F _ Xk _ hK R L hf fun y H1 F1 g r1 R1 G1 q1 => ?_
  split at q1
  · rename_i kd kvs eg e1
    obtain ⟨hk, q1⟩ := q1
    obtain ⟨kk, ek⟩ := ne_some hk
    obtain ⟨bb, rfl, hkd⟩ := key_ref ek (G1 _ _ _ _ R1 Later.refl eg)
    obtain ⟨v1, s1, sr1⟩ := R1.slot i _ e1
    rw [s0] at s1; cases s1
    cases sr1 with
    | dct g1 g3 =>
      obtain ⟨ps, h1, h2⟩ := g1.n
      have hl := h2.look ek
      split at q1
      · rename_i d ed
        cases ev : valN ps kk with
        | none => rw [ev] at hl; rw [hl] at ed; cases ed
        | some v =>
          rw [ev] at hl
          obtain ⟨d', e', hd⟩ := hl
          rw [ed] at e'; cases e'
          exact ⟨_, ps, kk, v, rfl, atN_of (Xk := Xk) (σ := σ) hK L.w h1 h2 hkd ek, ev, k v H1 F1 _ r1 R1 (.dat hd) q1⟩
      · exact q1.elim
  · exact q1.elim
theorem de_inN {i : Nat} {o : OX} (hu : X.A.units + 100 < cLine) (po : PE X ob (tVar i)) (hb : DO X W b o) (hm : behindInMarks .In ob = false := by rfl) : DE X W (.Compare b [.In] [ob] pos) (xInN false i o) := by
  obtain ⟨t, pe, ent⟩ := hb.ex
  refine ⟨⟨_, pe_cmp (pc_nin hu pe po) hm, fun C r σ H F Q Xk QV hK R L hf k => ?_⟩⟩
  refine ent C r σ H F _ Xk _ hK R L hf fun y H1 F1 g r1 R1 G1 q1 => ?_
  split at q1
  · rename_i kd kvs eg e1
    obtain ⟨hk, q1⟩ := q1
    obtain ⟨kk, ek⟩ := ne_some hk
    obtain ⟨bb, rfl, hkd⟩ := key_ref ek (G1 _ _ _ _ R1 Later.refl eg)
    obtain ⟨v1, s1, sr1⟩ := R1.slot i _ e1
    cases sr1 with
    | dct g1 g3 =>
      obtain ⟨ps, h1, h2⟩ := g1.n
      have hl := h2.look ek
      refine ⟨_, s1, _, ps, kk, rfl, atN_of (Xk := Xk) (σ := σ) hK L.w h1 h2 hkd ek, k _ H1 F1 _ r1 R1 (.dat (.bl _)) ?_⟩
      cases ev : valN ps kk with
      | none => rw [ev] at hl; rw [hl] at q1; exact q1
      | some v =>
        rw [ev] at hl
        obtain ⟨d', e', _⟩ := hl
        rw [e'] at q1; exact q1
  · exact q1.elim
theorem de_notInN {i : Nat} {o : OX} (hu : X.A.units + 100 < cLine) (po : PE X ob (tVar i)) (hb : DO X W b o) (hm : behindInMarks .NotIn ob = false := by rfl) : DE X W (.Compare b [.NotIn] [ob] pos) (xInN true i o) := by
  obtain ⟨t, pe, ent⟩ := hb.ex
  refine ⟨⟨_, pe_cmp (pc_nnotin hu pe po) hm, fun C r σ H F Q Xk QV hK R L hf k => ?_⟩⟩
  refine ent C r σ H F _ Xk _ hK R L hf fun y H1 F1 g r1 R1 G1 q1 => ?_
  split at q1
  · rename_i kd kvs eg e1
    obtain ⟨hk, q1⟩ := q1
    obtain ⟨kk, ek⟩ := ne_some hk
    obtain ⟨bb, rfl, hkd⟩ := key_ref ek (G1 _ _ _ _ R1 Later.refl eg)
    obtain ⟨v1, s1, sr1⟩ := R1.slot i _ e1
    cases sr1 with
    | dct g1 g3 =>
      obtain ⟨ps, h1, h2⟩ := g1.n
      have hl := h2.look ek
      refine ⟨_, s1, _, ps, kk, rfl, atN_of (Xk := Xk) (σ := σ) hK L.w h1 h2 hkd ek, k _ H1 F1 _ r1 R1 (.dat (.bl _)) ?_⟩
      cases ev : valN ps kk with
      | none => rw [ev] at hl; rw [hl] at q1; exact q1
      | some v =>
        rw [ev] at hl
        obtain ⟨d', e', _⟩ := hl
        rw [e'] at q1; exact q1
  · exact q1.elim
theorem ds_putN {i : Nat} {o : OX} {f : TX} {pos' : Pos} (hu : X.A.units + 100 < cLine) (po : PE X ob (tVar i)) (hb : DO X W b o) (hv : DE X W a f) (hs : swapsWith a (some (.Subscript ob b pos')) pos.line X.env = pure false := by rfl) : DS X W (.Assign [.Subscript ob b pos'] a pos) (sPutN i o f) := by
  obtain ⟨tb, pb, entb⟩ := hb.ex
  obtain ⟨tv, pv, entv⟩ := hv.ex
  refine ⟨⟨_, ps_nput hu po pb pv hs, fun C r σ H F E D' hK R k hf => ?_⟩⟩
  refine entv C r σ H F _ E.ex _ hK R (k.ex σ) hf fun v H1 F1 dv r1 R1 G1 q1 => ?_
  cases ed : dv.toD with
  | none => rw [ed] at q1; exact q1.elim
  | some d =>
    rw [ed] at q1
    obtain ⟨⟨kvs0, e0⟩, q1⟩ := q1
    obtain ⟨F2, R2, hd, _⟩ := G1.froz R1 ed
    obtain ⟨v0, s0, sr0⟩ := R2.slot i _ e0
    refine ⟨v0, s0, ?_⟩
    refine entb (C.up H1 F2 noT) r1 σ H1 F2 _ E.ex _ hK R2.up0 ((k.ex σ).up R2) q1 fun y H3 F3 g r3 R3' G3 q3 => ?_
    have R3 := R2.down R3'
    split at q3
    · rename_i kd kvs eg e3
      obtain ⟨hk, hl, q3⟩ := q3
      obtain ⟨kk, ek⟩ := ne_some hk
      obtain ⟨bb, rfl, hkd⟩ := key_ref ek (G3 _ _ _ _ R3' Later.refl eg)
      obtain ⟨v1, s1, sr1⟩ := R3.slot i _ e3
      rw [s0] at s1; cases s1
      cases sr1 with
      | dct g1 g3 =>
        rename_i p
        obtain ⟨ps, h1, h2⟩ := g1.n
        have l : Later H3 F3 (upd H3 p (dN C.w p (putNK ps kk bb v))) F3 := fun x z => ⟨z, upd_ne fun q => g3 (q ▸ z)⟩
        have hd3 : DpF C.K H3 F3 v d := hd.mono R3'.later
        have new : SltR C.K C.w (upd H3 p (dN C.w p (putNK ps kk bb v))) F3 C.b (.ref p) (.dct true (putN kvs kd d)) := .dct (.inr ⟨rfl, _, upd_same, (h2.put ek hkd hd3).mono l⟩) g3
        obtain ⟨R4, _⟩ := R3.objUpd (dv := .dct true (putN kvs kd d)) e3 rfl s0 rfl g3 new
        refine ⟨p, bb, ps, kk, rfl, rfl, atN_of (Xk := E.ex) (σ := σ) hK (k.ex σ).w h1 h2 hkd ek, by rw [line_eq, h2.len]; exact hl, ?_⟩
        rw [← (k.ex σ).w]
        exact k.nx σ _ F3 _ R4 q3
    · exact q3.elim
theorem de_get2N {i : Nat} {o : OX} {f : TX} {apos cpos : Pos} (hu : X.A.units + 100 < cLine) (po : PE X ob (tVar i)) (hb : DO X W b o) (hf : DE X W c f) (m : M2 X ob "get" apos b c cpos) : DE X W (.Call (.Attribute ob "get" apos) [b, c] [] cpos) (xGet2N i o f) := by
  obtain ⟨tb, pb, entb⟩ := hb.ex
  obtain ⟨tc, pc, entc⟩ := hf.ex
  refine ⟨⟨_, pe_nget2 hu po pb pc m, fun C r σ H F Q Xk QV hK R L hq k => ?_⟩⟩
  obtain ⟨⟨kvs0, e0⟩, hq⟩ := hq
  obtain ⟨v0, s0, sr0⟩ := R.slot i _ e0
  cases sr0 with
  | dct g0 g0x =>
    rename_i p
    obtain ⟨ps0, h0, _⟩ := g0.n
    refine ⟨_, s0, p, rfl, ⟨ps0, by rw [← L.w]; exact h0⟩, ?_⟩
    refine entb C r σ H F _ Xk _ hK R L hq fun y H1 F1 g r1 R1 G1 q1 => ?_
    refine entc (C.up H1 F1 noT) r1 σ H1 F1 _ Xk _ hK R1.up0 (L.up R1) q1 fun z H2 F2 dv r2 R2' Gz q2 => ?_
    have R2 := R1.down R2'
    split at q2
    · rename_i kd d kvs eg ed e2
      obtain ⟨hk, q2⟩ := q2
      obtain ⟨kk, ek⟩ := ne_some hk
      obtain ⟨F3, R3', hd, l3⟩ := Gz.froz R2' ed
      have R3 := R1.down R3'
      obtain ⟨bb, rfl, hkd⟩ := key_ref ek (G1 _ _ _ _ R2 R2'.later eg)
      obtain ⟨v2, s2, sr2⟩ := R3.slot i _ e2
      rw [s0] at s2; cases s2
      cases sr2 with
      | dct k1 _ =>
        obtain ⟨ps, h1, h2⟩ := k1.n
        have hl := h2.look ek
        refine ⟨ps, kk, atN_of (Xk := Xk) (σ := σ) hK L.w h1 h2 (hkd.mono l3) ek, ?_⟩
        cases ev : valN ps kk with
        | none =>
          rw [ev] at hl
          rw [hl] at q2
          exact k _ H2 F3 _ r2 R3 (.dat hd) q2
        | some v =>
          rw [ev] at hl
          obtain ⟨d', e', hd'⟩ := hl
          rw [e'] at q2
          exact k _ H2 F3 _ r2 R3 (.dat hd') q2
    · exact q2.elim
theorem Rep.freshN {C : Ctx} {r : Env} {σ : L2.St} {H : Hp} {F : AP} {p : Addr} (R : Rep C r σ H F) (hp : H p = none) :
    Rep C r σ (upd H p (dN C.w p [])) F ∧ Res C r σ (upd H p (dN C.w p [])) F (.ref p) (.dct true []) := by
  refine ⟨R.new hp, .dct (.inr ⟨rfl, [], upd_same, .nil⟩) (fun z => R.ftrk p z hp) (fun z => (R.keep p z).2 hp) (fun z => ?_) (fun i es e o1 e1 => ?_)⟩
  · obtain ⟨⟨_, _, _, _, _, h1, _⟩, _, _⟩ := R.bag p z
    rw [hp] at h1; cases h1
  · obtain ⟨v, e2, sr⟩ := R.slot i _ e
    rw [e1] at e2; cases e2
    cases sr with
    | own h1 _ _ => rw [hp] at h1; cases h1
    | dct h1 _ => exact h1.ne.2 hp
    | nd _ _ => cases o1
    | rng _ => cases o1
    | dat _ => cases o1
    | bag _ => cases o1
theorem de_newN : DE X W (.Dict [] [] pos) xNewN := ⟨⟨_, pe_nnew, fun C r σ H F Q Xk QV hK R L hf k p hp => by
  obtain ⟨R2, G2⟩ := R.freshN hp
  rw [← L.w]
  exact k _ _ F _ r R2 G2 hf⟩⟩
end
/-! ### sorted(d) -/
section
variable {X : Cx} {pins : List (Addr × Obj)} {σ : L2.St} {H : Hp} {s : Shared} {F : AP}
mutual
theorem rds_one (I : Inv X pins σ H s) : ∀ (d : D) (v : V) (u : Value) (k : NestedKey), DpF X.K H F v d → RelV v u → nkD d = some k → Reads s.heap u d []
  | .none, _, _, _, h, r, e => by cases h; cases r; exact .none
  | .bool b, _, _, _, h, r, e => by cases h; cases r; exact .bool b
  | .int i, _, _, _, h, r, e => by cases h; obtain ⟨t, rfl⟩ := r; exact .int i t
  | .str x, _, _, _, h, r, e => by cases h; obtain ⟨t, rfl⟩ := r; exact .str x t
  | .tuple ds, v, u, k, h, r, e => by
    unfold nkD at e
    split at e
    · rename_i ks ek
      cases h with
      | tup h1 h2 =>
        cases r
        obtain ⟨its, rv, ⟨o, ho, hc, m, hdat⟩, _⟩ := I.tuple (h1.elim (fun p => .inl p.2) fun p => p.sq H)
        exact .tuple ho hc hdat (by rw [List.toList_toArray]; exact rds_all I ds _ _ ks h2 rv ek)
    · cases e
  | .list _, _, _, _, _, _, e => by cases e
  | .dict _, _, _, _, _, _, e => by cases e
theorem rds_all (I : Inv X pins σ H s) : ∀ (ds : List D) (vs : List V) (us : List Value) (ks : List NestedKey), DpFs X.K H F vs ds → Vals vs us → nkDs ds = some ks → ReadsAll s.heap us ds []
  | [], _, _, _, h, r, e => by cases h; cases r; exact .nil
  | d :: ds, _, _, _, h, r, e => by
    cases h with
    | cons h hs =>
      cases r with
      | cons r rs =>
        unfold nkDs at e
        split at e
        · rename_i k ks e1 e2
          exact .cons (as := []) (bs := []) (rds_one I d _ _ _ h r e1) (rds_all I ds _ _ _ hs rs e2)
        · cases e
end
theorem nk_of_keyN {d : D} {k : NestedKey} (e : keyN d = some k) : nkD d = some k := by
  cases d with
  | tuple ds =>
    unfold keyN at e
    unfold nkD
    cases q : nkDs ds with
    | none => simp only [q] at e; cases e
    | some ks =>
      simp only [q] at e
      split at e
      · exact e
      · cases e
  | _ => cases e
theorem kn_all {K : PySem.W.Frag} {H : Hp} {F : AP} : ∀ {ps : List NP} {kvs : List (D × D)}, KnR K H F ps kvs → ∀ d ∈ kvs.map (·.1), ∃ k, nkD d = some k
  | _, _, .nil, _, h => by cases h
  | _, _, .cons e _ _ hs, d, h => by
    rcases List.mem_cons.mp h with rfl | h
    · exact ⟨_, nk_of_keyN e⟩
    · exact kn_all hs d h
theorem acc_vals : ∀ {ps : List NP} {ys : List (NestedKey × Addr × Value)}, Paired NRel ps ys → Vals (ps.map fun p => V.ref p.2.1) (ys.map fun y => Value.ref y.2.1)
  | _, _, .nil => .nil
  | _, _, .cons h t => .cons (by show Value.ref _ = Value.ref _; rw [h.2.1]) (acc_vals t)
def rSortN (X : Cx) : List V → Hp → VK → Prop := fun vs H Q => ∃ (F : AP) (a : Addr) (ps : List NP) (kvs : List (D × D)), vs = [.ref a] ∧ H a = some (dN X.w a ps) ∧ KnR X.K H F ps kvs ∧ PySem.W.AllAlike (kvs.map (·.1)) ∧ PySem.W.Sortable (kvs.map (·.1)) ∧
  (∀ d ∈ kvs.map (·.1), d.depth ≤ 64) ∧ kvs.length ≤ sizeLine ∧ ∀ (p : Addr) (ys : List V), DpFs X.K H F ys ((kvs.map (·.1)).mergeSort RS2.leD) → H p = none → Q (.ref p) (upd H p (.lst ys))
theorem cr_sortN (hcalm : X.calm = true) (hu : X.A.units + 100 < cLine) : CallR X (.builtin "sorted") (rSortN X) := by
  intro pins s σ H vs us Q I r q
  obtain ⟨F, a, ps, kvs, ex, hd, kn, hal, hk, hdp, hL, q⟩ := q
  subst ex
  rw [Vals.ref1 r]
  obtain ⟨z, lo, ys, rel, o, es, ep, h1, h2, h3, h4, _, _⟩ := dn_rd I hd kn
  have hat : s.heap.DictRaw a es ep := ⟨o, h1, h2, h3⟩
  have hes : es.size = ys.length := by rw [← Array.length_toList, h4, List.length_map]
  have hys : ys.length = kvs.length := by rw [← Paired.length rel, kn.len]
  refine Calls.call_function_entry PyProof.Rows.kind_sorted PyProof.Rows.plain_sorted PyProof.Rows.entry_sorted (PyProof.Rows.args_sorted1 _) ?_
  unfold Builtin.«sorted»
  refine wpAny_bind (m := checkCount "sorted" 1 1 _) (wpAny_pure ?_)
  refine wpAny_bind (PySem.W.kdu_collect (A := X.A.in1) (PySem.KdlSrc.rawDict (es := es) (ep := ep) lo) (I.ok.hd hcalm) hat (by rw [hes, hys]; exact hL) fun h' tk acc hkp hacc => ?_)
  have hal0 : acc.toList.length = ys.length := by rw [Array.length_toList, hacc.1, hes]
  have eacc : acc.toList = ys.map fun y => Value.ref y.2.1 := by
    refine List.ext_getElem (by rw [hal0, List.length_map]) fun j g1 g2 => ?_
    rw [List.length_map] at g2
    obtain ⟨hi, e1⟩ := hacc.2 j acc.toList[j] (by rw [← Array.getElem?_toList]; exact List.getElem?_eq_getElem g1)
    rw [e1, List.getElem_map]
    have e2 : es.toList[j]? = (ys.map (fun x : NestedKey × Addr × Value => (⟨x.1.hash X.w, .ref x.2.1, x.2.2⟩ : DictEntry)))[j]? := by rw [h4]; rfl
    rw [Array.getElem?_toList, List.getElem?_map, Array.getElem?_eq_getElem hi, List.getElem?_eq_getElem g2] at e2
    rw [Option.some.inj e2]
  have I1 : Inv X pins σ H { s with heap := h', toks := tk } := I.kept hkp
  have rv : Vals (ps.map fun p => V.ref p.2.1) acc.toList := by rw [eacc]; exact acc_vals rel
  have hdf : DpFs X.K H F (ps.map fun p => V.ref p.2.1) (kvs.map (·.1)) := kn.keys
  have key := RS2.each_of rv hdf
  have e2 : ((ps.map fun p => V.ref p.2.1).zip (kvs.map (·.1))).map (fun p : V × D => p.2) = kvs.map (·.1) := List.map_snd_zip (by rw [RS2.fs_len hdf]; exact Nat.le_refl _)
  have lz : ((ps.map fun p => V.ref p.2.1).zip (kvs.map (·.1))).length = kvs.length := by rw [List.length_zip, RS2.fs_len hdf, Nat.min_self, List.length_map]
  refine wpAny_bind (wpAny_newList ?_ (by rw [hal0, hys]; exact hL))
  have hoL : (h'.push (seqObj "list" acc.toList.toArray 0)).get? h'.objs.size = some (seqObj "list" acc.toList.toArray 0) := Heap.get?_push_size _ rfl
  show wpAny _ _ _ _ _ { s with heap := h'.push (seqObj "list" acc.toList.toArray 0), toks := tk }
  refine wpAny_bind (wpAny_holding (PySem.W.list_sort_data (R := fun u (p : V × D) => RelV p.1 u ∧ DpF X.K H F p.1 p.2 ∧ p.2 ∈ kvs.map (·.1)) (enc := fun p : V × D => p.2) (s := { s with heap := h'.push (seqObj "list" acc.toList.toArray 0), toks := tk }) hoL key (key.mono fun u p z => ?_) (by rw [e2]; exact hal) (by rw [e2]; exact hk) (by rw [lz]; exact hL) (fun p hp => ?_) fun out hlen hout => ?_))
  · obtain ⟨k, ek⟩ := kn_all kn _ z.2.2
    exact ⟨[], PyProof.Rows.Reads.keeps (fun b o e => Heap.get?_push_of_some _ e) (rds_one I1 _ _ _ _ z.2.1 z.1 ek), fun w => nomatch w⟩
  · have := hdp p.2 (List.of_mem_zip hp).2
    show X.A.in1.units + 1 + _ < _
    show X.A.units + 1 + 1 + _ < _
    omega
  · obtain ⟨e', he'⟩ := PyProof.Rows.sortedHeap_at (vs := acc.toList) (out := out.toArray) hoL
    obtain ⟨v1, v2⟩ := RS2.vals_each hout
    have e3 : (((ps.map fun p => V.ref p.2.1).zip (kvs.map (·.1))).mergeSort (PySem.W.dataLe false fun p : V × D => p.2)).map (·.2) = (kvs.map (·.1)).mergeSort RS2.leD := by
      have m := List.map_mergeSort (r := PySem.W.dataLe false fun p : V × D => p.2) (s := RS2.leD) (f := fun p : V × D => p.2) (l := (ps.map fun p => V.ref p.2.1).zip (kvs.map (·.1))) (fun a _ b _ => rfl)
      rw [m, e2]
    rw [e3] at v2
    have hn : ((((ps.map fun p => V.ref p.2.1).zip (kvs.map (·.1))).mergeSort (PySem.W.dataLe false fun p : V × D => p.2)).map (·.1)).length ≤ sizeLine := by
      rw [List.length_map, List.length_mergeSort, lz]; exact hL
    refine wpAny_pure ⟨_, rfl, .ref h'.objs.size, upd H h'.objs.size (.lst ((((ps.map fun p => V.ref p.2.1).zip (kvs.map (·.1))).mergeSort (PySem.W.dataLe false fun p : V × D => p.2)).map (·.1))), I1.laid (t' := tk) (fun b u e => ?_) (Nat.le_refl _)
      (show ObjOk X.prog X.w _ _ _ (.lst _) from ⟨hn, out, e', v1, he'⟩), rfl, q _ _ v2 (I1.hok.fresh (Nat.le_refl _))⟩
    have hb : b < h'.objs.size := Heap.lt_size e
    rw [PyProof.Rows.sortedHeap_old (Nat.ne_of_lt hb) (by rw [size_push']; exact Nat.lt_succ_of_lt hb)]
    exact Heap.get?_push_of_some _ e
end
section
variable {X : Cx} {W : WX} {e ob : Expr} {pos : Pos}
theorem de_sortN {i : Nat} (hc : X.calm = true) (hu : X.A.units + 100 < cLine) (po : PE X ob (tVar i)) (mk : ∀ {r : List V → Hp → VK → Prop}, CallR X (.builtin "sorted") r → PE X ob (tVar i) → PE X e (tCB r (tCons (tVar i) tNil))) : DE X W e (xSortN i) := by
  refine ⟨⟨_, mk (cr_sortN hc hu) po, fun C r σ H F Q Xk QV hK R L hf k => ?_⟩⟩
  unfold xSortN at hf
  split at hf
  · rename_i kvs e0
    obtain ⟨v0, s0, sr0⟩ := R.slot i _ e0
    refine ⟨v0, s0, ?_⟩
    cases sr0 with
    | dct g1 g3 =>
      rename_i a
      obtain ⟨ps, h1, h2⟩ := g1.n
      obtain ⟨q1, q2, q3, q4, q5⟩ := hf
      refine ⟨F, a, ps, kvs, rfl, by rw [← L.w]; exact h1, hK ▸ h2, q1, q2, q3, by rw [line_eq]; exact q4, fun p ys hd hp => ?_⟩
      have hd' : DpFs C.K H F ys ((kvs.map (·.1)).mergeSort RS2.leD) := hK ▸ hd
      obtain ⟨R2, G2, _⟩ := R.freshOwn hp hd'
      exact k _ _ F _ r R2 G2 q5
  · exact hf.elim
end
end DL

/-! DL: k in d as a test, d with tuples as keys; constant tuples of mixed things. -/
namespace DL
open PySem PySem.Spec PyProof.Rows L2
section
variable {X : Cx} {W : WX} {b ob : Expr} {pos : Pos}
theorem dt_inN {i : Nat} {o : OX} (hu : X.A.units + 100 < cLine) (po : PE X ob (tVar i)) (hb : DO X W b o) (hm : behindInMarks .In ob = false := by rfl) : DT X W (.Compare b [.In] [ob] pos) (bX (xInN false i o)) := by
  obtain ⟨t, pe, ent⟩ := hb.ex
  refine dt_of (pt_cmp (pc_nin hu pe po) hm) fun C r σ H F Q Xk QV hK R L hf k => ?_
  refine ent C r σ H F _ Xk _ hK R L hf fun y H1 F1 g r1 R1 G1 q1 => ?_
  split at q1
  · rename_i kd kvs eg e1
    obtain ⟨hk, q1⟩ := q1
    obtain ⟨kk, ek⟩ := ne_some hk
    obtain ⟨bb, rfl, hkd⟩ := key_ref ek (G1 _ _ _ _ R1 Later.refl eg)
    obtain ⟨v1, s1, sr1⟩ := R1.slot i _ e1
    cases sr1 with
    | dct g1 g3 =>
      obtain ⟨ps, h1, h2⟩ := g1.n
      have hl := h2.look ek
      refine ⟨_, s1, _, ps, kk, rfl, atN_of (Xk := Xk) (σ := σ) hK L.w h1 h2 hkd ek, k _ H1 F1 _ r1 R1 (.dat (.bl _)) ?_⟩
      cases ev : valN ps kk with
      | none => rw [ev] at hl; rw [hl] at q1; exact q1
      | some v =>
        rw [ev] at hl
        obtain ⟨d', e', _⟩ := hl
        rw [e'] at q1; exact q1
  · exact q1.elim
theorem dt_notInN {i : Nat} {o : OX} (hu : X.A.units + 100 < cLine) (po : PE X ob (tVar i)) (hb : DO X W b o) (hm : behindInMarks .NotIn ob = false := by rfl) : DT X W (.Compare b [.NotIn] [ob] pos) (bX (xInN true i o)) := by
  obtain ⟨t, pe, ent⟩ := hb.ex
  refine dt_of (pt_cmp (pc_nnotin hu pe po) hm) fun C r σ H F Q Xk QV hK R L hf k => ?_
  refine ent C r σ H F _ Xk _ hK R L hf fun y H1 F1 g r1 R1 G1 q1 => ?_
  split at q1
  · rename_i kd kvs eg e1
    obtain ⟨hk, q1⟩ := q1
    obtain ⟨kk, ek⟩ := ne_some hk
    obtain ⟨bb, rfl, hkd⟩ := key_ref ek (G1 _ _ _ _ R1 Later.refl eg)
    obtain ⟨v1, s1, sr1⟩ := R1.slot i _ e1
    cases sr1 with
    | dct g1 g3 =>
      obtain ⟨ps, h1, h2⟩ := g1.n
      have hl := h2.look ek
      refine ⟨_, s1, _, ps, kk, rfl, atN_of (Xk := Xk) (σ := σ) hK L.w h1 h2 hkd ek, k _ H1 F1 _ r1 R1 (.dat (.bl _)) ?_⟩
      cases ev : valN ps kk with
      | none => rw [ev] at hl; rw [hl] at q1; exact q1
      | some v =>
        rw [ev] at hl
        obtain ⟨d', e', _⟩ := hl
        rw [e'] at q1; exact q1
  · exact q1.elim
end
/-! ### constant tuples -/
def leafD : Value → Option D
  | .none => some .none
  | .bool b => some (.bool b)
  | .int i _ => some (.int i)
  | .str x _ => some (.str x)
  | _ => none
def leafsD : List Value → Option (List D)
  | [] => some []
  | v :: r => match leafD v, leafsD r with
    | some x, some xs => some (x :: xs)
    | _, _ => none
theorem vals_leafs : ∀ {us : List Value} {ds : List D}, leafsD us = some ds → ∃ vs : List V, Vals vs us ∧ ∀ (K : PySem.W.Frag) (H : Hp) (F : AP), DpFs K H F vs ds
  | [], _, e => by cases e; exact ⟨[], .nil, fun _ _ _ => .nil⟩
  | u :: us, ds, e => by
    unfold leafsD at e
    split at e
    · rename_i x xs e1 e2
      cases e
      obtain ⟨vs, h1, h2⟩ := vals_leafs e2
      cases u with
      | none => cases e1; exact ⟨.non :: vs, .cons rfl h1, fun K H F => .cons .non (h2 K H F)⟩
      | bool b => cases e1; exact ⟨.bl b :: vs, .cons rfl h1, fun K H F => .cons (.bl b) (h2 K H F)⟩
      | int i t => cases e1; exact ⟨.int i :: vs, .cons ⟨t, rfl⟩ h1, fun K H F => .cons (.int i) (h2 K H F)⟩
      | str x t => cases e1; exact ⟨.str x :: vs, .cons ⟨t, rfl⟩ h1, fun K H F => .cons (.str x) (h2 K H F)⟩
      | _ => cases e1
    · cases e
/-- a name of the text stands for a tuple of such -/
def KTupD (K : PySem.W.Frag) (mg : Str → Option Value) (x : Str) (ds : List D) : Prop := ∃ a vs, mg x = some (.ref a) ∧ KT K a vs ∧ ∀ (H : Hp) (F : AP), DpFs K H F vs ds
theorem ktupd_mk {K : PySem.W.Frag} {mg : Str → Option Value} {x : Str} {ds : List D} {a : Addr} {od : Option Addr} {its : Array Value} {n : Nat} {sl : Array (Option Value)} (g : mg x = some (.ref a)) (l : K.lookup a = some ⟨.type "tuple", od, .seq its n, sl⟩)
    (e : leafsD its.toList = some ds) (h : its.size ≤ 1000) : KTupD K mg x ds := by
  obtain ⟨vs, h1, h2⟩ := vals_leafs e
  exact ⟨a, vs, g, .inr ⟨_, its, n, l, rfl, rfl, by rw [sizeLine_eq]; omega, h1⟩, h2 K⟩
theorem de_ktupd {X : Cx} {W : WX} {x : Str} {ds : List D} {pos : Pos} (hg : Gl X x) (t : KTupD X.K X.mg x ds) (hd : (x == ("__debug__" : Str)) = false := by decide) : DE X W (.Name x pos) (xC (.tuple ds)) := by
  obtain ⟨a, vs, g, kt, hv⟩ := t
  exact ⟨⟨_, pe_glob (v := .ref a) hg g rfl hd, fun C r σ H F Q Xk QV hK R _ hf k => k _ H F _ r R (.dat (.tup (.inr (by rw [hK]; exact kt)) (by rw [hK]; exact hv H F))) hf⟩⟩
end DL

/-! DL: sum of a tuple of numbers. -/
namespace DL
open PySem PySem.Spec PyProof.Rows L2
def rSumT (K : PySem.W.Frag) : List V → Hp → VK → Prop := fun vs H Q => ∃ (a : Addr) (ns : List Int), vs = [V.ref a] ∧ SqT K H a (ns.map V.int) ∧ Q (.int ns.sum) H
theorem cr_sumT {X : Cx} (hc : X.calm = true) : CallR X (.builtin "sum") (rSumT X.K) := by
  intro pins s σ H vs us Q I r h
  obtain ⟨a, ns, rfl, hs, q⟩ := h
  obtain ⟨its, rv, hl, _⟩ := I.tuple hs
  rw [Vals.ref1 r]
  have hi := rv.ints
  have hl' : s.heap.IsTuple a its.toArray := hl
  obtain ⟨xs, e⟩ := hi.allInts.items
  have hn : numsOf (intItems xs).toList = ns := by rw [← e]; exact hi.numsOf
  rw [nums_intItems] at hn
  rw [e] at hl'
  refine PySem.W.ktm_sumG (I.ok.hd hc) hl' fun h' tk t' hk => ?_
  rw [preSum_eq, List.take_of_length_le (by simp), hn]
  exact ⟨.int _, H, I.kept hk, ⟨_, rfl⟩, q⟩
def nSumT : OpN := fun ds Q => match ds with
  | [.tuple xs] => (match intsOf xs with
    | some ns => Q (.dat (.int ns.sum))
    | none => False)
  | _ => False
theorem ints_map : ∀ {xs : List D} {ns : List Int}, intsOf xs = some ns → xs = ns.map .int
  | [], _, e => by cases e; rfl
  | .int i :: xs, ns, e => by
    have e' : (intsOf xs).map (i :: ·) = some ns := e
    cases h : intsOf xs with
    | none => rw [h] at e'; cases e'
    | some ms => rw [h] at e'; cases e'; rw [ints_map h]; rfl
  | .none :: _, _, e => by cases e
  | .bool _ :: _, _, e => by cases e
  | .str _ :: _, _, e => by cases e
  | .list _ :: _, _, e => by cases e
  | .tuple _ :: _, _, e => by cases e
  | .dict _ :: _, _, e => by cases e
theorem sem_sumT {K : PySem.W.Frag} : SemN K (rSumT K) nSumT := by
  intro C r σ H F xs ds Q QV hK R hx hq k
  subst hK
  unfold nSumT at hq
  split at hq
  · split at hq
    · rename_i ns e
      obtain ⟨v, rfl, hv⟩ := hx.one
      obtain ⟨a, vs, rfl, h1, h2, _⟩ := hv.tup
      rw [ints_map e] at h2
      have := h2.vints
      subst this
      exact ⟨a, ns, rfl, h1, kq_dat k R (.int _) hq⟩
    · exact hq.elim
  · exact hq.elim
end DL

/-! DL: a, b, .. = a list of that length. -/
namespace DL
open PySem PySem.Spec PyProof.Rows L2
def gTl (gs : List TG) : TG := fun v r Q => match v with
  | .dat (.list ds) => ds.length = gs.length ∧ gsAll gs ds r Q
  | _ => False
theorem v_gTl {gs ds} {r : Env} {Q : Env → Prop} (e : ds.length = gs.length) (h : gsAll gs ds r Q) : gTl gs (.dat (.list ds)) r Q := ⟨e, h⟩
section
variable {X : Cx} {es : List Expr} {pos : Pos}
theorem dg_lst {gs : List TG} {ws : List Nat} {k : Nat} (hc : X.calm = true) (ss : DGs X es ws gs) (hn : (assignEach es X.env).length = gs.length := by rfl) (hst : (assignEach es X.env).findIdx? (·.1) = none := by rfl) : DG X (.Tuple es k pos) ws (gTl gs) := by
  obtain ⟨u, pgs, enu⟩ := ss.ex
  refine ⟨⟨_, pg_lst hc pgs hn hst, fun C r σ H F v dv Q QV hK R G hf k => ?_⟩⟩
  cases G with
  | dat s =>
    cases s with
    | lst h1 h2 =>
      refine ⟨_, _, rfl, .inl (.inl h1.2), ?_, enu C r σ H F _ _ Q QV hK R h2 hf.2 k⟩
      rw [h2.length]; exact hf.1
    | non => exact hf.elim
    | bl => exact hf.elim
    | int => exact hf.elim
    | str => exact hf.elim
    | tup => exact hf.elim
    | dct => exact hf.elim
  | own => exact hf.elim
  | dct => exact hf.elim
  | nd => exact hf.elim
  | rng => exact hf.elim
  | bag => exact hf.elim
end
end DL

/-! DL: lambdas whose callees show values (repr): the guards go along. -/
namespace LamX
open PySem PySem.Spec PyProof.Rows L2
section
variable {X : Cx} {pins : List (Addr × Obj)} {σ : L2.St} {H HZ : Hp} {s s1 : Shared}
/-- x(), in the def that got the lambda: Z is that def's context, entered at s -/
theorem pe_actG {CXg : CXT} {Eg : XK} {Ng : List Str} {qg : Str} {sg : Scope} {g f c' : Addr} {cdg pm ctv : Value} {params : Arguments} {body : Expr} {scope : Scope} {k i : Nat} {a : Str} {pn : List (Addr × Obj)} {xe : Value → Shared → Prop} {W : WX} {E : XK} {tb : TE} {p1 p2 : Pos}
    (I : Inv X pins σ H s) (L : LamS X.env.scope scope) (hf : s.heap.get? f = some (PySem.W.kla_obj "<lambda>" (X.env.qual ++ "<lambda>") params body scope (cloFrom X.env.cells scope.names []) pm c' ctv)) (hfn : H f = none) (hfr : f ∉ frs X.stack)
    (hbind : bindArgs (PySem.W.kla_fn "<lambda>" (X.env.qual ++ "<lambda>") params body scope (cloFrom X.env.cells scope.names []) pm (.ref c') ctv) ⟨[], []⟩ = pure [])
    (tk : Takes ((cxOf CXg X.prog X.w X.K X.mg X.base Ng qg sg g cdg X.A X.stack s H Eg).tr pn xe) W) (hW : ∀ cls d σ' H', E cls d H' → W cls d σ' H') (hr : Room (k + 1) (X.A.deeper (envOfC qg sg s.heap.objs.size g cdg)))
    (hbody : ∀ (A : Around) (outer : List PySem.Env) (s : Shared) (H : Hp), A.guards = X.A.guards → Room k (A.deeper (lamEnv X scope s.heap.objs.size f c')) → PE (lamCx X A outer s H E scope f c') body tb)
    (hN : Ng[i]? = some a) (hv : Vis sg a) (hd : (a == ("__debug__" : Str)) = false := by decide) (hcd : (a == ("__classdict__" : Str)) = false := by decide) :
    PE ((cxOf CXg X.prog X.w X.K X.mg X.base Ng qg sg g cdg X.A X.stack s H Eg).tr pn xe) (.Call (.Name a p1) [] [] p2)
      (fun σZ HZ Q => σZ[i]? = some (some (.ref f)) ∧ HZ c' = some (CodeO c' (X.env.qual ++ "<lambda>")) ∧ tb σ HZ Q) := by
  refine ⟨fun pinsZ sZ σZ HZ Q IZ h => ?_⟩
  obtain ⟨hs, hc, ht⟩ := h
  refine wpAny_Call_Name_kw (thn ((pe_var (pos := p1) (i := i) hN hv hd hcd).run pinsZ sZ σZ HZ (fun v H1 => v = .ref f ∧ H1 = HZ) IZ ⟨.ref f, hs, rfl, rfl⟩) fun u s1 ⟨v, H1, I1, r1, q1⟩ => ?_)
  obtain ⟨ev, eH⟩ := q1
  subst ev
  rw [eH] at I1
  obtain rfl : u = Value.ref f := r1
  have of1 : s1.heap.get? f = some (PySem.W.kla_obj "<lambda>" (X.env.qual ++ "<lambda>") params body scope (cloFrom X.env.cells scope.names []) pm c' ctv) := I1.base.keep f _ hf hfn hfr (fun z => nomatch (show f ∈ ([] : List Addr) from z))
  refine PySem.W.callWith_F0 ⟨_, _, _, _, of1⟩ ?_
  have un : Un (frs X.stack) [] H HZ s.heap s1.heap := I1.base
  obtain ⟨⟨oc, vs, t, hoc, hdc, hvc⟩, _, _⟩ := I1.hok c' _ hc
  have rc : codeAny (model X.prog X.w) (X.A.deeper (envOfC qg sg s.heap.objs.size g cdg)) (.call (.ref f) ⟨[], []⟩) (CR (L2.CX X.prog X.w) (envOfC qg sg s.heap.objs.size g cdg :: X.stack) X.prog X.w HZ s1 Q E) s1 := by
    refine PySem.W.kla_callFunE hr.depth of1 rfl L.co L.gen rfl ⟨c', oc, vs, t, rfl, hoc, hdc, hvc⟩ ?_
    rw [hbind]
    refine wpAny_pure (wpAny_newFunctionEnv (fun y hy => (L.own y hy).2) (fun y hy => absurd hy (by simp)) (fun h₁ hns hsb => ⟨I1.nolimit.fresh _ hsb, ?_⟩) L.kind)
    show codeAny _ _ (.expr body (lamEnv X scope s1.heap.objs.size f c')) _ _
    have kp : ∀ b o, s1.heap.get? b = some o → h₁.get? b = some o := fun b o e => hsb.extBut b o (Nat.ne_of_lt (Heap.lt_size e)) (Heap.get?_push_of_some _ e)
    have J : Inv (lamCx X (X.A.deeper (envOfC qg sg s.heap.objs.size g cdg)) (envOfC qg sg s.heap.objs.size g cdg :: X.stack) s1 HZ E scope f c') [] σ HZ { s1 with heap := h₁, toks := s1.toks + ([] : List (Str × Value)).length } :=
      lam_start2 I L I1.env0 hr.hd un hns kp
    refine PySem.W.kla_codeExpr (wpAny_mono ((hbody (X.A.deeper (envOfC qg sg s.heap.objs.size g cdg)) _ s1 HZ rfl (hr.deeper _)).run [] _ _ HZ Q J ht) (fun v s' hq => ?_) fun e s' hq => hq)
    obtain ⟨w', H', J', rv, q⟩ := hq
    exact ⟨w', H', J'.os, J'.bare, J'.base, J'.hok, rv, q⟩
  have hx : Passes (L2.CX X.prog X.w) ((cxOf CXg X.prog X.w X.K X.mg X.base Ng qg sg g cdg X.A X.stack s H Eg).tr pn xe) E := passes_call tk hW
  refine wpAny_call (codeAny_mono rc fun r s' hq => ?_)
  cases r with
  | error e => exact hx pinsZ σZ HZ s1 e s' I1 hq
  | ok fl =>
    cases fl with
    | ret u => exact I1.after hq
    | next => exact False.elim hq
    | brk => exact False.elim hq
    | cont => exact False.elim hq
end
section
variable {X : Cx}
/-- x(lambda: body) -/
theorem pe_lamcallG {T : List (Addr × Str)} {TT : (XK → Hp → VK → Prop) → Hp → VK → Prop} {x a : Str} {g c P : Addr} {k : Nat} {pg : Arguments} {bg : List Stmt} {sg : Scope} {dV kV doc pm cdv ct oc : Value} {an od : Option Addr} {osl : Array (Option Value)} {Ng : List Str}
    {params : Arguments} {body : Expr} {scope : Scope} {t : XK → TE} {p lpos pos : Pos} (hg : Gl X x) (hm : X.mg x = some (.ref g)) (hk : PySem.W.keepIn X.K (.ref g) = true)
    (lk : X.K.lookup g = some ⟨oc, od, .func (PySem.W.fnOf x x pg bg sg dV kV doc pm an cdv ct), osl⟩) (hcg : PySem.W.codeIn X.K cdv x = true) (hb : L2.Binds X.K (PySem.W.fnOf x x pg bg sg dV kV doc pm an cdv ct) [a] []) (Sg : FnScope Ng [a] sg) (hNg : Ng[0]? = some a) (hva : Vis sg a)
    (hG : GivesTo X Ng x sg g cdv bg a (X.env.qual ++ "<lambda>") TT)
    (TB : TabB X.base X.mg c P) (hcode : X.env.code = .ref c) (hmT : (P, X.env.qual ++ "<lambda>") ∈ T) (hu : ∀ p ∈ T, p.1 = P → p.2 = X.env.qual ++ "<lambda>") (hr : Room (k + 2) X.A) (L : LamS X.env.scope scope) (hdef : defaultsOf params X.env = ([], []))
    (hbind : ∀ (q : Str) (cl : List (Str × Addr)) (pm cv ctv : Value), bindArgs (PySem.W.kla_fn "<lambda>" q params body scope cl pm cv ctv) ⟨[], []⟩ = pure [])
    (hbody : ∀ (A : Around) (outer : List PySem.Env) (s : Shared) (H : Hp) (E : XK) (f c' : Addr), A.guards = X.A.guards → Room k (A.deeper (lamEnv X scope s.heap.objs.size f c')) → PE (lamCx X A outer s H E scope f c') body (t E))
    (hdb : (x == ("__debug__" : Str)) = false := by decide) (hd : (a == ("__debug__" : Str)) = false := by decide) (hcd : (a == ("__classdict__" : Str)) = false := by decide) :
    PE X (.Call (.Name x p) [.Lambda params body scope lpos] [] pos) (tLam T TT t) := by
  refine ⟨fun pins s σ H Q I h => ?_⟩
  obtain ⟨hT, h⟩ := h
  refine wpAny_Call_Name_kw (ld_glob I hg hm ?_ hdb)
  refine PySem.W.callWith_K (h₀ := X.base) I.ok.mod.kin hk ?_ (by rfl) (by rfl)
  show wpAny _ _ (spliced ((false, eval (.Lambda params body scope lpos) X.env) :: backTo pos (starEach [] X.env))) _ _ s
  refine Calls.spliced_cons (lam_make2 I TB hcode hmT hu hT hdef (L.has I.ok) fun f c' pm' ctv H1 s' I1 eN T1 hf hfn hfr hco => ?_)
  refine Calls.spliced_nil ⟨I1.kIn, ?_⟩
  have rc : codeAny (model X.prog X.w) X.A (.call (.ref g) ⟨[.ref f], []⟩) (CR C8.CX0 X.stack X.prog X.w H1 s' Q C8.E0) s' := by
    refine run_ofS (N := Ng) (ps := [a]) (us := [.ref f]) (vs := [.ref f]) lk hcg Sg hr I1.env0 (hb s' [.ref f] I1.kIn rfl) (.cons rfl .nil) rfl fun hr' => ?_
    obtain ⟨t', ht', hq'⟩ := hG f c' s' H1 Q (fun E H' Q' => t E σ H' Q') (fun W pn xe E p1 p2 tk hW => pe_actG (i := 0) I1 L hf hfn hfr (hbind _ _ _ _ _) tk hW hr' (fun A outer s H eg hr2 => hbody A outer s H E f c' eg hr2) hNg hva hd hcd) hco (h H1 eN T1)
    exact ⟨t', ht'.nox, hq'⟩
  refine wpAny_call (codeAny_mono rc fun r s2 hq => ?_)
  cases r with
  | error e => exact (show False from hq).elim
  | ok fl =>
    cases fl with
    | ret u => exact I1.after hq
    | next => exact False.elim hq
    | brk => exact False.elim hq
    | cont => exact False.elim hq
end
end LamX
namespace DL

open PySem PySem.Spec PyProof.Rows L2
/-- x(lambda: e) -/
theorem de_lamG {X : Cx} {W : WX} {x a xq told : Str} {g c P fq : Addr} {k : Nat} {st : Stmt} {fd : FuncData} {Ng : List Str} {params : Arguments} {body : Expr} {scope : Scope} {p lpos pos : Pos} {f : TX} {ms : List CM} (vs : List Nat) (F : Fun X.K x x st g fd) (hm : X.mg x = some (.ref g)) (hb : Binds X.K fd [a] [])
    (Sg : FnScope Ng [a] (defScope st)) (hNg : Ng[0]? = some a) (hva : Vis (defScope st) a) (hG : ∀ cdg, LamX.GivesTo X Ng x (defScope st) g cdg (defBody st) a (X.env.qual ++ "<lambda>") (TH X.K X.w X.mg told ms))
    (L : LamT X.K xq fq c P) (tbs : Tbs X.K X.mg X.base) (hq : X.env.qual ++ "<lambda>" = lamQ xq) (hcode : X.env.code = .ref c) (hr : Room (k + 2) X.A) (hls : LamX.LamS X.env.scope scope) (hdef : defaultsOf params X.env = ([], []))
    (hbind : ∀ (q : Str) (cl : List (Str × Addr)) (pm cv ctv : Value), bindArgs (PySem.W.kla_fn "<lambda>" q params body scope cl pm cv ctv) ⟨[], []⟩ = pure [])
    (hbody : ∀ (Y : Cx) (W' : WX), Takes Y W' → Room k Y.A → (X.A.guards = some [] → Y.A.guards = some []) → (∃ (A : Around) (outer : List PySem.Env) (s : Shared) (H : Hp) (E : XK) (f c' : Addr), Y = LamX.lamCx X A outer s H E scope f c' ∧ W' = fun cls d _ H' => E cls d H') → DE Y W' body f)
    (hg : Gl X x := by rfl) (hdb : (x == ("__debug__" : Str)) = false := by decide) (hd : (a == ("__debug__" : Str)) = false := by decide) (hcd : (a == ("__classdict__" : Str)) = false := by decide) : DE X W (.Call (.Name x p) [.Lambda params body scope lpos] [] pos) (xLam told ms vs f) := by
  have hk := F.kp
  obtain ⟨oc, od, kV, doc, pm, an, cdv, ct, osl, rfl, lk, hcg⟩ := F.ex
  refine ⟨⟨_, LamX.pe_lamcallG (k := k) (T := tabsOf X.K) (t := fun E => tCan X.K X.w X.mg (fun cls d _ H' => E cls d H') f) hg hm hk lk hcg hb Sg hNg hva (hG cdv) (L.tb tbs) hcode (by rw [hq]; exact L.tab) (fun p hp e => by rw [hq]; exact L.un p hp e) hr hls hdef hbind
    (fun A outer s H E f c' eg hr2 => (hbody _ _ (takes_of rfl rfl rfl rfl) hr2 (fun z => Eq.trans eg z) ⟨A, outer, s, H, E, f, c', rfl, rfl⟩).can) hdb hd hcd, fun C r σ H F0 Q Xk QV hK R Lk hf kk => ?_⟩⟩
  refine ⟨hK ▸ R.tb.tab, fun H1 ext tab1 => ?_⟩
  obtain ⟨F1, R1, _⟩ := rep_frz R vs
  have R2 := rep_ext R1 ext (hK ▸ tab1)
  have g2 := given_of R2
  refine ⟨C.b, F1, fun dv => Q dv (frz r vs), hK ▸ g2, fun dv q v H' F' af br => ?_, ?_⟩
  · obtain ⟨R3, _⟩ := rep_after R2 (hK ▸ af)
    exact kk v H' F' dv _ R3 (res_back R2 (hK ▸ Lk.w ▸ br) |> fun z => by
      cases z with
      | dat s => exact .dat s
      | own h1 h2 h3 h4 h5 h6 => exact .own h1 h2 h3 h4 h5 h6
      | dct h1 h3 h4 h5 h6 => exact .dct h1 h3 h4 h5 h6
      | nd s n => exact .nd s n
      | rng n => exact .rng n
      | bag s => exact .bag s) q
  · refine ⟨⟨C.K, C.w, C.b, Zs C.b H1, H1, F1⟩, bare (frz r vs), F1, _, _, hK, rep_bare R2, ⟨Lk.w, fun er r' H' F' cls d R' hE q => ⟨er, F', hK ▸ after_of g2 R'.fin, hK ▸ hE, q⟩⟩, hf, fun v H' F' dv r' R' G' q => ?_⟩
    split at q
    · rename_i d ed
      obtain ⟨F2, R3, hd2, _⟩ := G'.froz R' ed
      have af := after_of g2 R3.fin
      refine ⟨by rw [line_eq]; decide, fun p hp => ?_⟩
      have af2 := after_new (xs := [.str told, v]) af hp
      obtain ⟨R4, _⟩ := rep_after R2 af2
      have l : Later H' F2 (upd H' p (.tup [.str told, v])) (fun x => F2 x ∨ x = p) := fun y z => ⟨.inl z, upd_ne fun q => R3.ftrk y z (q ▸ hp)⟩
      exact kk _ _ _ _ _ R4 (.dat (.tup (.inl ⟨.inr rfl, .inl upd_same⟩) (.cons (.str _) (.cons (hd2.mono l) .nil)))) q
    · exact q.elim
end DL

/-! DL: sorted(t) of a tuple of data that are alike. -/
namespace PySem.W
open PySem PySem.Calls PyProof.Rows
section
variable {prog : Program} {w : World} {A : Around} {E : Value → Shared → Prop} {s : Shared} {κ : PyProof.Rows.KeyKind}
theorem collect_tup {l : Addr} {vs : List Value} {Q : List Value → Shared → Prop} (hl : IsTup s.heap l vs.toArray)
    (h : Q vs { s with heap := (s.heap.push (seqObj "list" #[] 0)).update s.heap.objs.size (Obj.mapSeq (· ++ vs.toArray)) }) (hsz : vs.length ≤ sizeLine := by size_fits) :
    wpAny (model prog w) A (collect (.ref l)) Q E s := by
  obtain ⟨o, ho, hc, n, hd⟩ := id hl
  unfold collect
  refine wpAny_bind (wpAny_runValue (codeAny_builtin entry_proto_collect' ?_))
  show wpAny _ _ (do again (.builtin "list.__iadd__" ⟨[← newList [], .ref l], []⟩)) _ _ s
  refine wpAny_bind (wpAny_newList (wpAny_pure ⟨Code.quiet_builtin _ (by decide +kernel), codeAny_builtin entry_list_iadd' ?_⟩))
  show wpAny _ _ (Builtin.List.listExtendWith (.ref s.heap.objs.size) (.ref l) (.ref s.heap.objs.size)) _ _ { s with heap := s.heap.push (seqObj "list" #[] 0) }
  unfold Builtin.List.listExtendWith
  have ho' : (s.heap.push (seqObj "list" #[] 0)).get? l = some o := Heap.get?_push_of_some _ ho
  refine wpAny_bind (wpAny_typeOf (T := "tuple") ⟨o, ho', hc⟩ ?_)
  have ht : (Value.type "tuple" == Value.type "tuple") = true := by rfl
  rw [if_pos (by rw [ht]; simp)]
  refine wpAny_bind (listItems_at ho' hd ?_)
  refine wpAny_bind (listItems_at (xs := #[]) (n := 0) (Heap.get?_push_size _ rfl) rfl ?_)
  rw [if_neg (by simp)]
  refine wpAny_bind (listUpdate_at (xs := #[]) (n := 0) (Heap.get?_push_size _ rfl) rfl ?_ (Nat.zero_le _) (by show (#[] ++ vs.toArray).size ≤ sizeLine + 1; simp only [Array.size_append, List.size_toArray, List.length_nil]; omega))
  refine wpAny_pure ?_
  show wpAny (model prog w) A (do
      let o ← load s.heap.objs.size
      match o.data with
      | .seq xs _ => pure xs.toList
      | _ => unsupported "internal:collect") Q E { s with heap := (s.heap.push (seqObj "list" #[] 0)).update s.heap.objs.size (Obj.mapSeq (· ++ vs.toArray)) }
  refine wpAny_bind (wpAny_load (get?_update_seq (Heap.get?_push_size _ rfl) _) ?_)
  show wpAny _ _ (pure ((#[] : Array Value) ++ vs.toArray).toList) Q E _
  rw [show ((#[] : Array Value) ++ vs.toArray).toList = vs by simp]
  exact wpAny_pure h
theorem sorted_of_tup {l : Addr} {vs : List Value} {kw : List (Str × Value)} {Q : Value → Shared → Prop} (hl : IsTup s.heap l vs.toArray) (hL : vs.length ≤ sizeLine) (ha1 : argsOk "sorted" ⟨[.ref l], kw⟩) (ha2 : ∀ x, argsOk "list.sort" ⟨[.ref x], kw⟩)
    (body : ∀ E' : Value → Shared → Prop, wpAny (model prog w) A.in1.in1 (Builtin.«list.sort» ⟨[.ref (s.heap.objs.size + 1)], kw⟩) (fun f s' => f = .done (.ret .none) ∧ Q (.ref (s.heap.objs.size + 1)) s') E' { s with heap := copyHeap s.heap vs }) :
    wpAny (model prog w) A (call (.builtin "sorted") [.ref l] kw) Q E s := by
  refine call_function_entry_kw kind_sorted plain_sorted entry_sorted ha1 ?_
  unfold Builtin.«sorted»
  refine wpAny_bind (m := checkCount "sorted" 1 1 _) (wpAny_pure ?_)
  refine wpAny_bind (collect_tup hl ?_ hL)
  refine wpAny_bind (wpAny_newList ?_ hL)
  have hsz : ((s.heap.push (seqObj "list" #[] 0)).update s.heap.objs.size (Obj.mapSeq (· ++ vs.toArray))).objs.size = s.heap.objs.size + 1 := by
    rw [Heap.size_update, size_push']
  show wpAny _ _ _ _ _ { s with heap := copyHeap s.heap vs }
  rw [hsz]
  refine wpAny_bind (wpAny_holding (wpAny_call_entry_kw slot_list_sort ⟨_, copyHeap_at s.heap vs, rfl⟩ entry_list_sort ?body (ha2 _)))
  case body =>
    show wpAny (model prog w) A.in1.in1 (Builtin.«list.sort» ⟨[.ref (s.heap.objs.size + 1)], kw⟩) _ _ _
    refine wpAny_mono (body _) (fun f s' hf => ?_) fun _ _ e => e
    obtain ⟨rfl, hq⟩ := hf
    exact ⟨_, rfl, wpAny_pure ⟨_, rfl, hq⟩⟩

theorem sorted_valsT {l : Addr} {vs : List Value} {Q : Value → Shared → Prop} (hl : IsTup s.heap l vs.toArray) (S : SortsAt prog w A.in1.in1 { s with heap := sortingHeap (copyHeap s.heap vs) (s.heap.objs.size + 1) vs } κ vs) (hL : vs.length ≤ sizeLine)
    (h : Q (.ref (s.heap.objs.size + 1)) { s with heap := sortedAll s.heap vs (sortVals κ false vs vs).toArray }) : wpAny (model prog w) A (call (.builtin "sorted") [.ref l]) Q E s :=
  sorted_of_tup hl hL (args_sorted1 _) (fun _ => args_list_sort _) fun _ => list_sort_vals (s := { s with heap := copyHeap s.heap vs }) (copyHeap_at s.heap vs) S hL ⟨rfl, h⟩

end
section
variable {prog : Program} {w : World} {A : Around} {E : Value → Shared → Prop} {s : Shared} {β : Type} {vs : List Value} {bs : List β} {enc : β → PyData} {R : Value → β → Prop}
theorem sorted_dataT {l : Addr} {Q : Value → Shared → Prop} (hl : IsTup s.heap l vs.toArray) (e : EachIs R vs bs) (er : EachIs (fun v b => ∃ as, Reads s.heap v (enc b) as) vs bs) (hal : AllAlike (bs.map enc)) (hk : Sortable (bs.map enc)) (hL : bs.length ≤ sizeLine)
    (hu : ∀ b, b ∈ bs → A.units + 2 + (enc b).depth < cLine) (h : ∀ out, out.length = bs.length → EachIs R out (bs.mergeSort (dataLe false enc)) → Q (.ref (s.heap.objs.size + 1)) { s with heap := sortedAll s.heap vs (List.toArray out) }) :
    wpAny (model prog w) A (call (.builtin "sorted") [.ref l]) Q E s := by
  have er' : EachIs (fun v b => ∃ as, Reads (sortingHeap (copyHeap s.heap vs) (s.heap.objs.size + 1) vs) v (enc b) as) vs bs := er.mono fun _ _ ⟨as, r⟩ => ⟨as, PyProof.Rows.Reads.keeps (fun _ _ => sorting_copy_old) r⟩
  exact sorted_valsT hl (SortsAt.data (s := { s with heap := sortingHeap (copyHeap s.heap vs) (s.heap.objs.size + 1) vs }) (each_map (R := fun v d => ∃ as, Reads (sortingHeap (copyHeap s.heap vs) (s.heap.objs.size + 1) vs) v d as) enc er') hal hk (bound_map hu)) (by rw [e.length]; exact hL)
    (h _ (by rw [sortVals_length false rfl]; exact e.length) (sortVals_data false e er' hal))
end
end PySem.W
namespace DL
open PySem PySem.Spec PyProof.Rows L2
namespace RS2
section
variable {X : Cx}
def rSortT (K : PySem.W.Frag) : List V → Hp → VK → Prop := fun vs H Q => ∃ (F : AP) (a : Addr) (xs : List V) (ds : List D), vs = [.ref a] ∧ SqT K H a xs ∧ DpFs K H F xs ds ∧ PySem.W.AllAlike ds ∧ PySem.W.Sortable ds ∧ (∀ d ∈ ds, Okd d) ∧ ds.length ≤ sizeLine ∧
  ∀ (p : Addr) (ys : List V), DpFs K H F ys (ds.mergeSort leD) → H p = none → Q (.ref p) (upd H p (.lst ys))
theorem cr_sortT (hu : X.A.units + 100 < cLine) : CallR X (.builtin "sorted") (rSortT X.K) := by
  intro pins s σ H vs us Q I r h
  obtain ⟨F, a, xs, ds, rfl, hs, hd, hal, hk, hok, hL, q⟩ := h
  obtain ⟨its, rv, hl, _⟩ := I.tuple hs
  rw [Vals.ref1 r]
  have key := each_of rv hd
  have e2 : (xs.zip ds).map (fun p : V × D => p.2) = ds := List.map_snd_zip (by rw [fs_len hd]; exact Nat.le_refl _)
  refine PySem.W.sorted_dataT (R := fun u (p : V × D) => RelV p.1 u ∧ DpF X.K H F p.1 p.2 ∧ p.2 ∈ ds) (enc := fun p : V × D => p.2) hl key (key.mono fun u p z => ?_) (by rw [e2]; exact hal) (by rw [e2]; exact hk) (by rw [List.length_zip, fs_len hd, Nat.min_self]; exact hL) (fun p hp => ?_) fun out hlen hout => ?_
  · have o := hok _ z.2.2
    obtain ⟨as, _, h1, _⟩ := RD.shw_of I p.2.depth p.1 p.2 u (Nat.le_refl _) z.2.1 z.1 o.1 o.2.2
    exact ⟨as, h1⟩
  · have o := hok p.2 (List.of_mem_zip hp).2
    have := o.2.1
    omega
  · obtain ⟨ep, he'⟩ := PyProof.Rows.sortedAll_at s.heap its out.toArray
    obtain ⟨v1, v2⟩ := vals_each hout
    have e3 : (((xs.zip ds).mergeSort (PySem.W.dataLe false fun p : V × D => p.2)).map (·.2)) = ds.mergeSort leD := by
      have m := List.map_mergeSort (r := PySem.W.dataLe false fun p : V × D => p.2) (s := leD) (f := fun p : V × D => p.2) (l := xs.zip ds) (fun a _ b _ => rfl)
      rw [m, e2]
    rw [e3] at v2
    have hn : (((xs.zip ds).mergeSort (PySem.W.dataLe false fun p : V × D => p.2)).map (·.1)).length ≤ sizeLine := by
      rw [List.length_map, List.length_mergeSort, List.length_zip, fs_len hd, Nat.min_self]; exact hL
    exact ⟨.ref _, upd H (s.heap.objs.size + 1) (.lst (((xs.zip ds).mergeSort (PySem.W.dataLe false fun p : V × D => p.2)).map (·.1))), I.laid (t' := s.toks) (fun _ _ => PyProof.Rows.sortedAll_old) (Nat.le_succ _) ⟨hn, out, ep, v1, he'⟩, rfl, q _ _ v2 (I.hok.fresh (Nat.le_succ _))⟩
end
end RS2
def nSortT : OpN := fun ds Q => match ds with
  | [.tuple xs] => PySem.W.AllAlike xs ∧ PySem.W.Sortable xs ∧ (∀ d ∈ xs, RS2.Okd d) ∧ xs.length ≤ LN ∧ Q (.own (xs.mergeSort RS2.leD))
  | _ => False
theorem sem_sortT {K : PySem.W.Frag} : SemN K (RS2.rSortT K) nSortT := by
  intro C r σ H F xs ds Q QV hK R hx hq k
  subst hK
  unfold nSortT at hq
  split at hq
  · obtain ⟨v, rfl, hv⟩ := hx.one
    obtain ⟨a, vs, rfl, h1, h2, _⟩ := hv.tup
    obtain ⟨q1, q2, q3, q4, hq⟩ := hq
    exact ⟨_, a, vs, _, rfl, h1, h2, q1, q2, q3, by rw [line_eq]; exact q4, fun p ys hy hn => kq_own k R hn hy hq⟩
  · exact hq.elim
end DL

/-! DL: x <= y of data that are alike. -/
namespace DL
open PySem PySem.Spec PyProof.Rows L2
namespace RS2
section
variable {X : Cx}
def rLeA (K : PySem.W.Frag) : R2 := fun x y H Q => ∃ (F F2 : AP) (dx dy : D), DpF K H F x dx ∧ DpF K H F2 y dy ∧ PySem.W.alike dx dy = true ∧ dx ≠ .none ∧ Okd dx ∧ Okd dy ∧ Q (.bl (!PySem.W.dataLt dy dx)) H
theorem op_leA (hu : X.A.units + 100 < cLine) : OpR X (compareOp .LtE) (rLeA X.K) := by
  rintro pins σs σ H x y v u Q I rx ry ⟨F, F2, dx, dy, hx, hy, al, hn, ox, oy, q⟩
  obtain ⟨as, _, h1, _⟩ := RD.shw_of I dx.depth x dx _ (Nat.le_refl _) hx rx ox.1 ox.2.2
  obtain ⟨bs, _, h2, _⟩ := RD.shw_of I dy.depth y dy _ (Nat.le_refl _) hy ry oy.1 oy.2.2
  refine PySem.W.le_data h1 h2 al hn ?_ ?_
  · have := ox.2.1
    omega
  · exact ⟨.bl _, H, I, rfl, q⟩
end
end RS2
def dLeA : Op2 := fun x y Q => PySem.W.alike x y = true ∧ x ≠ .none ∧ RS2.Okd x ∧ RS2.Okd y ∧ Q (.dat (.bool (!PySem.W.dataLt y x)))
theorem sem_leA {K : PySem.W.Frag} : Sem2 K (RS2.rLeA K) dLeA := by
  intro C r σ H F x y dx dy Q QV hK R hx hy hq k
  subst hK
  obtain ⟨q1, q2, q3, q4, q5⟩ := hq
  obtain ⟨F1, hx⟩ := dpt_any hx
  obtain ⟨F2, hy⟩ := dpt_any hy
  exact ⟨F1, F2, dx, dy, hx, hy, q1, q2, q3, q4, kq_dat k R (.bl _) q5⟩
end DL

/-! DL: zip of two texts. -/
namespace DL
open PySem PySem.Spec PyProof.Rows L2
namespace RZS
/-- two texts, sign by sign, in new pairs -/
def Itz (x y : Str) : It :=
  ⟨fun i _ => i < x.cps.size ∧ i < y.cps.size,
    fun i H v H' => ∃ T c d, v = .ref T ∧ H T = none ∧ H' = upd H T (.tup [.str ⟨#[c]⟩, .str ⟨#[d]⟩]) ∧ x.cps[i]? = some c ∧ y.cps[i]? = some d,
    fun i _ => i ≤ x.cps.size ∧ i ≤ y.cps.size ∧ (i = x.cps.size ∨ i = y.cps.size)⟩
theorem five {c z TI TO i1 i2 : Addr} (h : c ∈ [z, TI, TO, i1, i2]) : c = z ∨ c = TI ∨ c = TO ∨ c = i1 ∨ c = i2 := by simpa using h
theorem sep5 (n : Nat) : ZipSep2 (n + 4) (n + 2) (n + 3) n (n + 1) [n] [n + 1] where
  TIz := show (n + 2 : Nat) ≠ n + 4 by omega
  TOz := show (n + 3 : Nat) ≠ n + 4 by omega
  TITO := show (n + 2 : Nat) ≠ n + 3 by omega
  TIi1 := show (n + 2 : Nat) ≠ n by omega
  mem1 := List.mem_singleton.mpr rfl
  zf1 := fun h => absurd (List.mem_singleton.mp h) (show (n + 4 : Nat) ≠ n by omega)
  Tf1 := fun h => absurd (List.mem_singleton.mp h) (show (n + 3 : Nat) ≠ n by omega)
  TIi2 := show (n + 2 : Nat) ≠ n + 1 by omega
  mem2 := List.mem_singleton.mpr rfl
  zf2 := fun h => absurd (List.mem_singleton.mp h) (show (n + 4 : Nat) ≠ n + 1 by omega)
  Tf2 := fun h => absurd (List.mem_singleton.mp h) (show (n + 3 : Nat) ≠ n + 1 by omega)
  sep1_2 := fun h => absurd (List.mem_singleton.mp h) (show (n : Nat) ≠ n + 1 by omega)
  sep2_1 := fun h => absurd (List.mem_singleton.mp h) (show (n + 1 : Nat) ≠ n by omega)
theorem turn_zipS {P : Program} {w : World} {K : PySem.W.Frag} {elts : List Expr} {kk : Nat} {tpos : Pos} {x y : Str} {t1 t2 : Tok} {z TI TO i1 i2 : Addr} (D : ZipSep2 z TI TO i1 i2 [i1] [i2]) :
    Turn P w K (.Tuple elts kk tpos) (Itz x y) [z, TI, TO, i1, i2] z (fun i h => IsZip h z TI TO .none ∧ IsTupOf2 h TI (.ref i1) (.ref i2) ∧ (∃ a b, IsTupOf2 h TO a b) ∧ h.IsStrIter i1 (strIterType x) x t1 i ∧ h.IsStrIter i2 (strIterType y) y t2 i) where
  mem := by simp
  obj := fun i h st c hc => by
    obtain ⟨hz, hTI, ⟨a, b, hTO⟩, ⟨o1, e1, _, d1⟩, ⟨o2, e2, _, d2⟩⟩ := st
    rcases five hc with q | q | q | q | q
    · rw [q]; exact ⟨_, hz, fun v q => nomatch q⟩
    · rw [q]; exact ⟨_, hTI, fun v q => nomatch q⟩
    · rw [q]; exact ⟨_, hTO, fun v q => nomatch q⟩
    · rw [q]; exact ⟨o1, e1, fun v q => by rw [d1] at q; cases q⟩
    · rw [q]; exact ⟨o2, e2, fun v q => by rw [d2] at q; cases q⟩
  keep := fun i h h' st k => by
    obtain ⟨hz, hTI, ⟨a, b, hTO⟩, ⟨o1, e1, r1⟩, ⟨o2, e2, r2⟩⟩ := st
    exact ⟨k z (by simp) _ hz, k TI (by simp) _ hTI, ⟨a, b, k TO (by simp) _ hTO⟩, ⟨o1, k i1 (by simp) _ e1, r1⟩, ⟨o2, k i2 (by simp) _ e2, r2⟩⟩
  item := by
    intro X hP hw hK hc i pins s σ H E I hf st hg
    subst hP hw hK
    obtain ⟨hz, hTI, ⟨x0, y0, hTO⟩, h1, h2⟩ := st
    obtain ⟨g1, g2⟩ := hg
    have hh : (X.A.in1).handled = none := I.ok.hd hc
    have hzl : z < s.heap.objs.size := Heap.lt_size hz
    refine wpAny_pyNext_zipD2_item D (Draws.text hh i1 x t1) (Draws.text hh i2 y t2) hz hTI hTO h1 h2 g1 g2 fun u v h' tk p1 p2 z' TO' s1 s2 hT hsz hk => ?_
    obtain ⟨c, tu, hc1, rfl⟩ := p1
    obtain ⟨d, tv, hd1, rfl⟩ := p2
    refine ⟨_, rfl, wpAny_letOwnedTupleGo_zip (s := { s with heap := h', toks := tk }) z' fun h'' z'' sb => ?_⟩
    have hT2 : h''.get? s.heap.objs.size = some { cls := .type "tuple", data := .seq #[.str ⟨#[c]⟩ tu, .str ⟨#[d]⟩ tv] } := (sb.2 _ (Nat.ne_of_gt hzl)).trans hT
    have new : ObjOk X.prog X.w (upd H s.heap.objs.size (.tup [.str ⟨#[c]⟩, .str ⟨#[d]⟩])) h'' s.heap.objs.size (.tup [.str ⟨#[c]⟩, .str ⟨#[d]⟩]) :=
      ⟨by show 2 ≤ sizeLine; decide, [.str ⟨#[c]⟩ tu, .str ⟨#[d]⟩ tv], .cons ⟨_, rfl⟩ (.cons ⟨_, rfl⟩ .nil), ⟨_, hT2, rfl, _, rfl⟩⟩
    have I1 : Inv X pins σ (upd H s.heap.objs.size (.tup [.str ⟨#[c]⟩, .str ⟨#[d]⟩])) { s with heap := h'', toks := tk } :=
      I.turnedNew (ch := [z, TI, TO, i1, i2]) (fun c o hb q => (sb.2 c (fun q' => hb (by simp [q']))).trans (hk c o (fun q' => hb (by simp [q'])) (fun q' => hb (by simp [q'])) (fun q' => hb (by simp [q'])) (fun q' => hb (by simp [q'])) q)) hf (Nat.le_refl _) new
    have m1 : i1 ≠ z := fun q => D.zf1 (by simp [q])
    have m2 : i2 ≠ z := fun q => D.zf2 (by simp [q])
    refine ⟨.ref s.heap.objs.size, _, I1, rfl, ⟨_, c, d, rfl, I.hok.fresh (Nat.le_refl _), rfl, hc1, hd1⟩, ⟨z'', ?_, ⟨.str ⟨#[c]⟩ tu, .str ⟨#[d]⟩ tv, ?_⟩, ?_, ?_⟩, fun c hcm => ?_⟩
    · exact (sb.2 _ D.TIz).trans (hk _ _ D.TIz D.TITO D.TIi1 D.TIi2 hTI)
    · exact (sb.2 _ D.TOz).trans TO'
    · obtain ⟨o, q, r⟩ := s1
      exact ⟨o, (sb.2 _ m1).trans q, r⟩
    · obtain ⟨o, q, r⟩ := s2
      exact ⟨o, (sb.2 _ m2).trans q, r⟩
    · have hlt : c < s.heap.objs.size := by
        rcases five hcm with q | q | q | q | q
        · rw [q]; exact hzl
        · rw [q]; exact Heap.lt_size hTI
        · rw [q]; exact Heap.lt_size hTO
        · rw [q]; obtain ⟨_, e1, _⟩ := h1; exact Heap.lt_size e1
        · rw [q]; obtain ⟨_, e2, _⟩ := h2; exact Heap.lt_size e2
      rw [upd_ne (Nat.ne_of_lt hlt)]
      exact (hf c hcm).1
  done := by
    intro X hP hw hK hc i pins s σ H E I hf st hg
    subst hP hw hK
    obtain ⟨hz, hTI, ⟨x0, y0, hTO⟩, h1, h2⟩ := st
    obtain ⟨g1, g2, g3⟩ := hg
    have hh : (X.A.in1).handled = none := I.ok.hd hc
    exact wpAny_pyNext_zipD2_end D (Draws.text hh i1 x t1) (Draws.text hh i2 y t2) hz hTI hTO h1 h2 g1 g2 g3 fun h' tk hk => ⟨rfl, I.turnedL (t' := tk) (ch := [z, TI, TO, i1, i2]) (fun c o hb q =>
      hk c o (fun q' => hb (by simp [q'])) (fun q' => hb (by simp [q'])) (fun q' => hb (by simp [q'])) (fun q' => hb (by simp [q'])) q) hf⟩
  self := fun A i s Q E st h => wpAny_pyIter_zip st.1 h
def iZip (ta : TA) : TI := fun σ H R => ta σ H fun vs H1 => ∃ x y, vs = [.str x, .str y] ∧ R (Itz x y) H1
theorem pi_zipS {X : Cx} {e e2 : Expr} {ta : TA} {p pos tpos : Pos} {elts : List Expr} {kk : Nat} (hg : Gl X "zip") (hm : X.mg "zip" = none) (ha : PA X [e, e2] ta)
    (hs : starEach [e, e2] X.env = (false, eval e X.env) :: starEach [e2] X.env := by rfl) (hpl : (backTo pos (starEach [e2] X.env)).any (·.1) = false := by rfl) :
    PI X (.Tuple elts kk tpos) (.Call (.Name "zip" p) [e, e2] [] pos) (iZip ta) := by
  refine ⟨fun pins s σ H R I h => ?_⟩
  refine Call_ (ld_blt I hg hm PyProof.Rows.boot_zip (PyProof.Rows.callWith_type1 (thn (ha.run pos pins s σ H _ I h) fun us s1 ⟨vs, H1, I1, r1, q1⟩ => ?_) hs hpl))
  obtain ⟨x, y, ex, q⟩ := q1
  subst ex
  cases r1 with
  | cons r rr =>
    cases rr with
    | cons r' rr =>
      cases rr
      obtain ⟨t1, rfl⟩ := r
      obtain ⟨t2, rfl⟩ := r'
      have fresh5 : ∀ c, c ∈ [s1.heap.objs.size + 4, s1.heap.objs.size + 2, s1.heap.objs.size + 3, s1.heap.objs.size, s1.heap.objs.size + 1] → FpOk X pins H1 c := fun c hcm => by
        have hle : s1.heap.objs.size ≤ c := by
          rcases five hcm with z | z | z | z | z
          · rw [z]; exact Nat.le_add_right _ _
          · rw [z]; exact Nat.le_add_right _ _
          · rw [z]; exact Nat.le_add_right _ _
          · rw [z]; exact Nat.le_refl _
          · rw [z]; exact Nat.le_add_right _ _
        exact I1.fpOk hle (I1.hok.fresh hle)
      refine zip_begins2 (begins_text x t1) (begins_text y t2) trivial trivial fun h' hz hTI hTO g1 g2 hsz hk => wpAny_pyIter_zip hz ?_
      have I2 : Inv X pins σ H1 { s1 with heap := h' } := I1.kept (t' := s1.toks) hk
      refine ⟨s1.heap.objs.size + 4, [s1.heap.objs.size + 4, s1.heap.objs.size + 2, s1.heap.objs.size + 3, s1.heap.objs.size, s1.heap.objs.size + 1], _, _, H1, rfl, I2, turn_zipS (x := x) (y := y) (t1 := t1) (t2 := t2) (sep5 _), ⟨hz, hTI, ⟨_, _, hTO⟩, ⟨_, g1, rfl, rfl⟩, ⟨_, g2, rfl, rfl⟩⟩, fresh5, q⟩
end RZS
def signsD (z : Str) : List D := z.cps.toList.map fun c => .str ⟨#[c]⟩
theorem sign_len (z : Str) : (signsD z).length = z.cps.size := by
  unfold signsD
  rw [List.length_map, Array.length_toList]
theorem sign_at {z : Str} {i c : Nat} (h : z.cps[i]? = some c) : (signsD z)[i]? = some (.str ⟨#[c]⟩) := by
  unfold signsD
  rw [List.getElem?_map, Array.getElem?_toList, h]
  rfl
theorem walkD_zipS {K : PySem.W.Frag} {H : Hp} {F : AP} {x y : Str} : WalkD K (RZS.Itz x y) (zipD (signsD x) (signsD y)) H F := by
  have len : (zipD (signsD x) (signsD y)).length = min x.cps.size y.cps.size := by
    unfold zipD
    rw [List.length_map, List.length_zip, sign_len, sign_len]
  refine ⟨fun i H' F' hi l => ?_, fun H' F' l => ?_, fun i H' F' v H2 hi trk l w => ?_⟩
  · rw [len] at hi
    exact ⟨by omega, by omega⟩
  · rw [len]
    exact ⟨by omega, by omega, by omega⟩
  · rw [len] at hi
    obtain ⟨T, c, d, rfl, hT, rfl, g1, g2⟩ := w
    have l2 : Later H' F' (upd H' T (.tup [.str ⟨#[c]⟩, .str ⟨#[d]⟩])) (fun c => F' c ∨ c = T) := fun c z => ⟨.inl z, upd_ne fun q => trk c z (q ▸ hT)⟩
    refine ⟨fun c => F' c ∨ c = T, _, zipD_get (sign_at g1) (sign_at g2), .tup (.inl ⟨.inr rfl, .inl upd_same⟩) (.cons (.str _) (.cons (.str _) .nil)), l2, fun c o q => ?_, fun c z => ?_⟩
    · rw [upd_ne (ne_of_none q hT)]; exact q
    · rcases z with z | rfl
      · exact .inl z
      · exact .inr ⟨hT, by rw [upd_same]; simp, nt_tup upd_same⟩
section
variable {X : Cx} {W : WX} {e : Expr} {es : List Expr}
def wZipS (t : AX) : SX := fun X r Q => t X r fun vs r1 => match allD vs with
  | some [.str x, .str y] => Q (zipD (signsD x) (signsD y)) r1
  | _ => False
theorem src_zipS {tg : Expr} {u : AX} (ha : DA X W es u) (mk : ∀ {ta : TA}, PA X es ta → PI X tg e (RZS.iZip ta)) : DSrc X W tg e (wZipS u) := by
  obtain ⟨t, pa, ent⟩ := ha.ex
  refine ⟨⟨_, mk pa, fun C r σ H F Q Xk RV hK R L hf k => ?_⟩⟩
  refine ent C r σ H F _ Xk _ hK R L hf fun vs H1 F1 ds r1 _ R1 A1 q1 => ?_
  split at q1
  · rename_i x y e1
    have h := A1.all e1
    cases h with
    | cons h1 h2 => cases h2 with
      | cons h3 h4 =>
        cases h4
        cases h1
        cases h3
        exact ⟨x, y, rfl, k _ H1 F1 _ r1 R1 walkD_zipS q1⟩
  · exact q1.elim
end
end DL

/-! DL: {k: v}, k a tuple. -/
namespace DL
open PySem PySem.Spec PyProof.Rows L2
theorem dict_pairsH {prog : Program} {w : World} {A : Around} {E : Value → Shared → Prop} {s : Shared} {K : Type} [DecidableEq K] {knd : HeapKind prog w K} {env : PySem.Env} {keys : List (Option Expr)} {values : List Expr} {pos : Pos} {pairs : List (Sem Value × Sem Value)} {Q : Value → Shared → Prop} (hu : knd.room A)
    (hshape : (evalEachOpt keys env).zip ((evalEach values env).map fun v => do let x ← v; standAt pos; pure x) = pairs.map fun p => (some p.1, p.2)) (h0 : pairs ≠ []) (hlen : pairs.length ≤ 15)
    (h : wpAny (model prog w) A (evalPairs pairs) (fun vs s₁ => ∃ ps, CarriesH knd s₁.heap vs ps ∧ s₁.heap.DictOfH knd s.heap.objs.size [] ∧
      ∀ h' tk, h'.DictOfH knd s.heap.objs.size (storedAllH [] ps) → Heap.SameBut s.heap.objs.size s₁.heap h' → Q (.ref s.heap.objs.size) { s₁ with heap := h', toks := tk }) E
      { s with heap := s.heap.push { cls := .type "dict", data := .dict #[] } }) :
    wpAny (model prog w) A (eval (.Dict keys values pos) env) Q E s := by
  rw [arm_eval_Dict, hshape, dictDisplay_pairs pairs h0 (by omega)]
  exact wpAny_bind (wpAny_standAt (wpAny_bind (wpAny_subDictH (knd := knd) (Q := fun d s' => wpAny (model prog w) A (pure (Value.ref d)) Q E s') hu hlen
    (wpAny_mono h (fun vs s₁ h₁ => by obtain ⟨ps, hc, hm, hq⟩ := h₁; exact ⟨ps, hc, hm, fun h' tk a b => wpAny_pure (hq h' tk a b)⟩) fun _ _ e => e))))
def tNOne (K : PySem.W.Frag) (w : World) (ty tv : L2.TE) : L2.TE := fun σ H Q => ∀ p, H p = none → tPairs [(ty, tv)] σ (upd H p (dN w p [])) fun ps H2 => H2 p = some (dN w p []) ∧
  ∃ (F : AP) (b : Addr) (kd : D) (k : NestedKey) (v : V), ps = [(.ref b, v)] ∧ DpF K H2 F (.ref b) kd ∧ keyN kd = some k ∧ Q (.ref p) (upd H2 p (dN w p [(k, b, v)]))
theorem vv_one {x y : V} {ws : List (Value × Value)} (h : VV [(x, y)] ws) : ∃ u1 u2, ws = [(u1, u2)] ∧ RelV x u1 ∧ RelV y u2 := by
  cases h with
  | cons h1 hr =>
    cases hr
    exact ⟨_, _, rfl, h1.1, h1.2⟩
theorem one_line : 1 ≤ sizeLine := by decide
theorem pe_none1 {X : Cx} {kx a : Expr} {ty tv : L2.TE} {pos : Pos} (hu : X.A.units + 100 < cLine) (hk : PE X kx ty) (hv : PE X a tv) : PE X (.Dict [some kx] [a] pos) (tNOne X.K X.w ty tv) := by
  refine ⟨fun pins s σ H Q I q => ?_⟩
  have hn := I.hok.fresh (Nat.le_refl s.heap.objs.size)
  have I1 := I.laid (a := s.heap.objs.size) (o := dN X.w s.heap.objs.size []) (h' := s.heap.push { cls := .type "dict", data := .dict #[] }) (t' := s.toks) (fun _ _ q => Heap.get?_push_of_some _ q) (Nat.le_refl _)
    (dn_new (P := X.prog) (ys := []) (Nat.zero_le _) (beq_eq_false_iff_ne.mpr (Ne.symm (Nat.ne_of_lt I.big))) .nil ⟨_, #[], 0, Heap.get?_push_size _ rfl, ⟨rfl, rfl, rfl⟩, rfl, rfl, (fun _ h => (by cases h)), List.nodup_nil⟩)
  have hl := pairTrees_length [some kx] [a] X.env pos rfl rfl
  refine dict_pairsH (knd := nestedKind X.prog X.w) (pairs := pairTrees [some kx] [a] X.env pos) (show X.A.units + 8 < cLine by omega) (zip_pairTrees [some kx] [a] X.env pos rfl rfl) (fun z => by rw [z] at hl; cases hl) (by rw [hl]; show 1 ≤ 15; decide) ?_
  refine thn ((pps_cons hk hv pps_nil).run pins _ σ _ _ I1 (q _ hn)) fun ws s2 ⟨ps, H2, I2, rel, e, F, b, kd, k, v, ep, hkd, ek, q2⟩ => ?_
  subst ep
  obtain ⟨u1, u2, rfl, r1, r2⟩ := vv_one rel
  obtain rfl : u1 = Value.ref b := r1
  obtain ⟨_, hd, ys, rel0, dd⟩ := dn_rd I2 e (kvs := []) (F := F) .nil
  cases rel0
  refine ⟨[(k, b, u2)], ⟨rfl, rfl, key_is I2 hkd ek, trivial⟩, dd, fun h' tk dd' hs => ⟨.ref s.heap.objs.size, _, ?_, rfl, q2⟩⟩
  have he : ∃ q, h'.get? s.heap.objs.size = some q := let ⟨q, _, _, hq, _⟩ := dd'; ⟨q, hq⟩
  have e2 : storedAllH ([] : List (NestedKey × Addr × Value)) [(k, b, u2)] = [(k, b, u2)] := rfl
  rw [e2] at dd'
  have new := dn_new (P := X.prog) (w := X.w) (H' := upd H2 s.heap.objs.size (dN X.w s.heap.objs.size [(k, b, v)])) (ps := [(k, b, v)]) (ys := [(k, b, u2)]) one_line hd (.cons ⟨rfl, rfl, r2⟩ .nil) dd'
  exact d_write I2 (by rw [e]; exact True.intro) hs he new
def xNOne (o : OX) (f : TX) : TX := fun X r Q => o X r fun g r1 => f X r1 fun dv r2 => match g r2, dv.toD with
  | some k, some d => keyN k ≠ none ∧ Q (.dct true [(k, d)]) r2
  | _, _ => False
section
variable {X : Cx} {W : WX} {a kx : Expr} {pos : Pos}
theorem de_nOne {o : OX} {f : TX} (hu : X.A.units + 100 < cLine) (hb : DO X W kx o) (hv : DE X W a f) : DE X W (.Dict [some kx] [a] pos) (xNOne o f) := by
  obtain ⟨tb, pb, entb⟩ := hb.ex
  obtain ⟨tv, pv, entv⟩ := hv.ex
  refine ⟨⟨_, pe_none1 hu pb pv, fun C r σ H F Q Xk QV hK R L hf k p hp => ?_⟩⟩
  have hw := L.w
  rw [← hw]
  have R0 := R.new (o := dN C.w p []) hp
  have nfp : ¬ F p := fun z => R.ftrk p z hp
  obtain ⟨_, g0⟩ := R.freshN hp
  have held : C.b ≠ some p ∧ ∀ i es, sl r i = some es → es.hold = true → σ[i]? ≠ some (some (.ref p)) := by
    cases g0 with
    | dct _ _ _ h5 h6 => exact ⟨h5, h6⟩
  have R1 := R0.up (T := fun x => x = p) fun x e => by
    subst e
    exact ⟨by rw [upd_same]; simp, held.1, held.2, fun ps z => by rw [upd_same] at z; cases z⟩
  refine entb (C.up (upd H p (dN C.w p [])) F fun x => x = p) r σ _ F _ Xk _ hK R1 (L.up R0) hf fun y H1 F1 g r1 R1' G1 q1 => ?_
  refine entv ((C.up (upd H p (dN C.w p [])) F fun x => x = p).up H1 F1 noT) r1 σ H1 F1 _ Xk _ hK R1'.up0 ((L.up R0).up R1') q1 fun v H2 F2 dv r2 R2'' G2 q2 => ?_
  split at q2
  · rename_i kd d eg ed
    obtain ⟨hk, q2⟩ := q2
    obtain ⟨kk, ek⟩ := ne_some hk
    obtain ⟨F3, R3'', hd, l3⟩ := G2.froz R2'' ed
    have R3' := R1'.down R3''
    have R3 := R0.down R3'
    obtain ⟨e3, nf3⟩ := R3'.still (a := p) rfl nfp
    rw [upd_same] at e3
    have noo : ∀ i es, sl r2 i = some es → es.hold = true → σ[i]? ≠ some (some (.ref p)) := fun i es e1 o1 s1 => (R3'.ownz i es p e1 o1 s1).1 (.inr (.inr rfl))
    have nz : ¬ C.Z p := fun z => (R.keep p z).2 hp
    obtain ⟨bb, rfl, hkd⟩ := key_ref ek (G1 _ _ _ _ R3' R3''.later eg)
    obtain ⟨R4, l4⟩ := R3.updT (o := dN C.w p [(kk, bb, v)]) nf3 nz held.1 noo (free_dct (K := C.K) (w := C.w) (F := F3) (t := true) (kvs := []) (.inr ⟨rfl, [], e3, .nil⟩))
    refine ⟨e3, F3, bb, kd, kk, v, rfl, hK ▸ hkd, ek, ?_⟩
    refine k _ _ F3 _ r2 R4 (.dct (.inr ⟨rfl, _, upd_same, ?_⟩) nf3 nz held.1 noo) q2
    exact .cons ek (hkd.mono l4) (hd.mono l4) .nil
  · exact q2.elim
end
end DL

/-! DL: range(n) as a value, walked later. -/
namespace RGV
open PySem PySem.Spec PyProof.Rows L2
def iRngV (tl : L2.TE) : TI := fun σ H R => tl σ H fun x H1 => ∃ (a : Addr) (lo hi : Int), x = .ref a ∧ H1 a = some (.rng lo hi) ∧ (-(2 ^ 62) ≤ lo ∧ lo < 2 ^ 62 ∧ -(2 ^ 62) ≤ hi ∧ hi < 2 ^ 62) ∧ R (Itr lo (hi - lo).toNat) H1
theorem pi_rngV {X : Cx} {tg l : Expr} {tl : L2.TE} (hl : PE X l tl) : PI X tg l (iRngV tl) := by
  refine ⟨fun pins s σ H R I h => ?_⟩
  refine thn (hl.run pins s σ H _ I h) fun v s1 ⟨x, H1, I1, r1, q1⟩ => ?_
  obtain ⟨a, lo, hi, e, hq, ⟨h1, h2, h3, h4⟩, q⟩ := q1
  subst e
  cases r1
  obtain ⟨t, u, vv, ho⟩ := I1.hok a _ hq
  refine wpAny_pyIter_range (show IsRange s1.heap a lo hi 1 t u vv from ho) (small_one h1 h2 h3 h4) ?_
  refine ⟨s1.heap.objs.size, [s1.heap.objs.size], _, _, H1, rfl, I1.kept (t' := s1.toks) fun b o e => Heap.get?_push_of_some _ e, turn_range _ lo (hi - lo).toNat, ?_, fun b hb => ?_, q⟩
  · have e1 : lo + ((0 : Nat) : Int) * 1 = lo := by simp
    have e2 : (((hi - lo).toNat : Nat) : Int) - ((0 : Nat) : Int) = Builtin.Range.rangeSize lo hi 1 := by rw [rangeSize_one]; split <;> omega
    show IsRangeIter _ _ (lo + ((0 : Nat) : Int) * 1) ((((hi - lo).toNat : Nat) : Int) - ((0 : Nat) : Int)) 1
    rw [e1, e2]
    exact Heap.get?_push_size _ rfl
  · have e : b = s1.heap.objs.size := by simpa using hb
    subst e
    exact I1.fpOk (Nat.le_refl _) (I1.hok.fresh (Nat.le_refl _))
def rRng1 : List V → Hp → VK → Prop := fun vs H Q => ∃ j, vs = [V.int j] ∧ ∀ p, H p = none → Q (.ref p) (upd H p (.rng 0 j))
theorem cr_range1 {X : Cx} : CallR X (.type "range") rRng1 := by
  intro pins s σ H vs us Q I r h
  obtain ⟨j, rfl, q⟩ := h
  obtain ⟨u, rfl, rj⟩ := vals1 r
  obtain ⟨u, rfl⟩ := rj
  refine call_range_1 ⟨.ref s.heap.objs.size, upd H s.heap.objs.size (.rng 0 j), I.laid (t' := s.toks + 1 + 1) (fun b o e => Heap.get?_push_of_some _ e) (Nat.le_refl _) ?_, rfl, q _ (I.hok.fresh (Nat.le_refl _))⟩
  exact ⟨_, u, _, Heap.get?_push_size _ rfl⟩
end RGV
namespace DL
open PySem PySem.Spec PyProof.Rows L2
section
variable {X : Cx} {W : WX} {a e : Expr} {tg : Expr}
theorem de_rng {oa : OX} (ha : DO X W a oa) (mk : ∀ {t : TA}, PA X [a] t → PE X e (tCB RGV.rRng1 t)) (hs : starEach (a :: []) X.env = (false, eval a X.env) :: starEach [] X.env := by rfl) : DE X W e (xRng oa) := by
  obtain ⟨t, pa, ent⟩ := ha.ex
  refine ⟨⟨_, mk (pa_cons pa pa_nil hs), fun C r σ H F Q Xk QV hK R L hf k => ?_⟩⟩
  refine ent C r σ H F _ Xk _ hK R L hf fun v H1 F1 g r1 R1 G1 q1 => ?_
  split at q1
  · rename_i n eg
    have h1 := G1 _ _ _ _ R1 Later.refl eg
    cases h1.int
    refine ⟨n, rfl, fun p hp => ?_⟩
    exact k _ _ _ _ r1 (R1.newF hp) (.rng ⟨p, rfl, .inr rfl, upd_same⟩) q1
  · exact q1.elim
theorem src_rngV {i : Nat} (p : PE X e (tVar i)) : DSrc X W tg e (wRngV i) := by
  refine ⟨⟨_, RGV.pi_rngV p, fun C r σ H F Q Xk RV hK R L hf k => ?_⟩⟩
  unfold wRngV at hf
  split at hf
  · rename_i n en
    obtain ⟨v, e1, sr⟩ := R.slot i _ en
    refine ⟨v, e1, ?_⟩
    cases sr with
    | rng h =>
      obtain ⟨c, rfl, fc, hc⟩ := h
      refine ⟨c, 0, n, rfl, hc, ⟨by decide, by decide, hf.1.1, hf.1.2⟩, ?_⟩
      have e0 : (n - 0).toNat = (n - 0).toNat := rfl
      exact k _ _ F _ r R walkD_range hf.2
  · exact hf.elim
end
end DL

/-! DL: plain facts, for the laws: data that may be shown and compared; loops. -/
namespace DL
open PySem
structure Fine (k w : Nat) (d : D) : Prop where
  lay : d.canLay0 = true
  dep : d.depth ≤ k
  wt : d.weight ≤ w
  sh : d.intsShort 50 = true
  sw : d.showable = true
theorem fin_none {k w : Nat} : Fine k w .none := ⟨rfl, Nat.zero_le _, Nat.zero_le _, rfl, rfl⟩
theorem fin_bool {k w : Nat} {b : Bool} : Fine k w (.bool b) := ⟨rfl, Nat.zero_le _, Nat.zero_le _, rfl, rfl⟩
theorem log_small {i : Int} (h : i.natAbs < 10 ^ 12) : i.natAbs.log2 < 40 := by
  by_cases z : i.natAbs = 0
  · rw [z]; decide
  · rw [Nat.log2_lt z]
    exact Nat.lt_trans h (by decide)
theorem fin_int {k w : Nat} {i : Int} (h : i.natAbs < 10 ^ 12) (hw : 40 ≤ w) : Fine k w (.int i) := by
  have hl := log_small h
  refine ⟨rfl, Nat.zero_le _, ?_, ?_, ?_⟩
  · show (if i == 0 then 0 else i.natAbs.log2 + 1) ≤ w
    split <;> omega
  · show decide ((PyData.shown (.int i)).length ≤ 50) = true
    exact decide_eq_true (Nat.le_trans (PyData.shown_int_le h) (by decide))
  · show decide (i.natAbs.log2 < 1920) = true
    exact decide_eq_true (by omega)
theorem fin_big {k w : Nat} {i : Int} (n : Nat) (h : i.natAbs < 2 ^ n) (hn : n ≤ 160) (hw : n ≤ w) : Fine k w (.int i) := by
  have h49 : i.natAbs < 10 ^ 49 := Nat.lt_of_lt_of_le h (Nat.le_trans (Nat.pow_le_pow_right (by decide) hn) (by decide +kernel))
  have hl : i.natAbs.log2 < 160 := by
    by_cases z : i.natAbs = 0
    · rw [z]; decide
    · rw [Nat.log2_lt z]
      exact Nat.lt_of_lt_of_le h (Nat.pow_le_pow_right (by decide) hn)
  refine ⟨rfl, Nat.zero_le _, ?_, ?_, ?_⟩
  · show (if i == 0 then 0 else i.natAbs.log2 + 1) ≤ w
    split
    · omega
    · rename_i hz
      have hz' : i.natAbs ≠ 0 := by
        intro e
        apply hz
        have : i = 0 := by omega
        rw [this]; rfl
      have := (Nat.log2_lt hz').mpr h
      omega
  · show decide ((PyData.shown (.int i)).length ≤ 50) = true
    refine decide_eq_true ?_
    have e := int_text_length_le10 (k := 49) (by decide) h49
    show (Str.ofString (toString i)).length ≤ 50
    rw [ofString_length]; exact e
  · show decide (i.natAbs.log2 < 1920) = true
    exact decide_eq_true (by omega)
theorem fin_str {k w : Nat} {x : Str} (h : PyData.strOk x = true) (hw : x.length ≤ w) : Fine k w (.str x) := ⟨h, Nat.zero_le _, hw, rfl, rfl⟩
theorem fin_all {k w : Nat} : ∀ {xs : List D}, (∀ x ∈ xs, Fine k w x) → PyData.canLayAll0 xs = true ∧ PyData.depthAll xs ≤ k ∧ PyData.weightAll xs ≤ xs.length * (w + 1) ∧ PyData.intsShortAll 50 xs = true ∧ PyData.showableAll xs = true
  | [], _ => ⟨rfl, Nat.zero_le _, Nat.zero_le _, rfl, rfl⟩
  | x :: xs, h => by
    obtain ⟨a1, a2, a3, a4, a5⟩ := fin_all (xs := xs) fun y hy => h y (List.mem_cons_of_mem _ hy)
    have b := h x (List.mem_cons_self ..)
    refine ⟨?_, ?_, ?_, ?_, ?_⟩
    · simp only [PyData.canLayAll0, b.lay, a1, Bool.and_self]
    · have := b.dep
      simp only [PyData.depthAll]
      omega
    · have := b.wt
      simp only [PyData.weightAll, List.length_cons, Nat.add_mul, Nat.one_mul]
      omega
    · simp only [PyData.intsShortAll, b.sh, a4, Bool.and_self]
    · simp only [PyData.showableAll, b.sw, a5, Bool.and_self]
theorem fin_tuple {k w n m : Nat} {xs : List D} (h : ∀ x ∈ xs, Fine k w x) (hn : xs.length ≤ n) (hm : n * (w + 1) ≤ m) : Fine (k + 1) m (.tuple xs) := by
  obtain ⟨a1, a2, a3, a4, a5⟩ := fin_all h
  have := Nat.mul_le_mul_right (w + 1) hn
  exact ⟨a1, by show _ + 1 ≤ _; omega, by show PyData.weightAll xs ≤ _; omega, a4, a5⟩
theorem fin_list {k w n m : Nat} {xs : List D} (h : ∀ x ∈ xs, Fine k w x) (hn : xs.length ≤ n) (hm : n * (w + 1) ≤ m) : Fine (k + 1) m (.list xs) := by
  obtain ⟨a1, a2, a3, a4, a5⟩ := fin_all h
  have := Nat.mul_le_mul_right (w + 1) hn
  exact ⟨a1, by show _ + 1 ≤ _; omega, by show PyData.weightAll xs ≤ _; omega, a4, a5⟩
theorem Fine.ok {k w : Nat} {d : D} (h : Fine k w d) (hk : k ≤ 64) : okD d := by
  show (d.canLay0 && decide (d.depth ≤ 64)) = true
  rw [h.lay, decide_eq_true (Nat.le_trans h.dep hk)]
  rfl
theorem Fine.repr {k w : Nat} {d : D} (h : Fine k w d) (hk : k ≤ 64) (hw : w ≤ 300000) : d.showable = true ∧ d.hasDict = false ∧ d.depth ≤ 64 ∧ d.shown.length ≤ LN := by
  have e := PyData.shown_le 50 (by decide) d (PyData.leavesShort_of_canLay0 50 d h.lay h.sh)
  have e2 : (50 + 2) * d.weight ≤ 52 * 300000 := Nat.mul_le_mul_left _ (Nat.le_trans h.wt hw)
  exact ⟨h.sw, PyData.hasDict_of_canLay d h.lay, Nat.le_trans h.dep hk, by show _ ≤ 16777216; omega⟩
theorem Fine.refl {k w : Nat} {d : D} (h : Fine k w d) : PyData.eqv d d = true := SeqAt.eqv_refl d h.lay
theorem Fine.mono {k w k' w' : Nat} {d : D} (h : Fine k w d) (hk : k ≤ k') (hw : w ≤ w') : Fine k' w' d := ⟨h.lay, Nat.le_trans h.dep hk, Nat.le_trans h.wt hw, h.sh, h.sw⟩
/-! shown texts have signs of Unicode alone -/
theorem strOk_mem {x : Str} : PyData.strOk x = true ↔ ∀ c ∈ x.cps.toList, c < 0x110000 := by
  show x.cps.all (fun c => decide (c < 0x110000)) = true ↔ _
  rw [← Array.all_toList, List.all_eq_true]
  simp only [decide_eq_true_eq]
theorem strOk_app {a b : Str} (ha : PyData.strOk a = true) (hb : PyData.strOk b = true) : PyData.strOk (a ++ b) = true := by
  rw [strOk_mem] at ha hb ⊢
  intro c hc
  have e : (a ++ b).cps = a.cps ++ b.cps := rfl
  rw [e, Array.toList_append, List.mem_append] at hc
  exact hc.elim (ha c) (hb c)
theorem char_lt (c : Char) : c.toNat < 0x110000 := by
  have := c.valid
  rcases this with h | ⟨_, h⟩
  · exact Nat.lt_trans h (by decide)
  · exact h
theorem strOk_of (s : String) : PyData.strOk (Str.ofString s) = true := by
  rw [strOk_mem]
  intro c hc
  have e : (Str.ofString s).cps.toList = s.toList.map Char.toNat := by
    rw [Str.ofString_eq_toList]
  rw [e, List.mem_map] at hc
  obtain ⟨ch, _, rfl⟩ := hc
  exact char_lt ch
theorem hex_lt (w c : Nat) : ∀ x ∈ (List.replicate (w - ((Nat.toDigits 16 c).map Char.toNat).length) 48 ++ (Nat.toDigits 16 c).map Char.toNat), x < 0x110000 := by
  intro x hx
  rw [List.mem_append] at hx
  rcases hx with h | h
  · rw [List.eq_of_mem_replicate h]; decide
  · rw [List.mem_map] at h
    obtain ⟨ch, _, rfl⟩ := h
    exact char_lt ch
theorem reprChar_lt (q c : Nat) (hc : c < 0x110000) : ∀ x ∈ PySem.Builtin.Str.reprChar q c, x < 0x110000 := by
  intro x hx
  unfold PySem.Builtin.Str.reprChar at hx
  dsimp only at hx
  have two : ∀ (k m : Nat), k < 0x110000 → m < 0x110000 → x ∈ [k, m] → x < 0x110000 := fun k m hk hm hx => by
    simp only [List.mem_cons, List.not_mem_nil, or_false] at hx
    rcases hx with rfl | rfl
    · exact hk
    · exact hm
  split at hx
  · exact two _ _ (by decide) hc hx
  split at hx
  · exact two _ _ (by decide) (by decide) hx
  split at hx
  · exact two _ _ (by decide) (by decide) hx
  split at hx
  · exact two _ _ (by decide) (by decide) hx
  split at hx
  · rw [List.mem_singleton] at hx; rw [hx]; exact hc
  split at hx
  · rw [List.mem_append] at hx
    rcases hx with h | h
    · exact two _ _ (by decide) (by decide) h
    · exact hex_lt _ _ x h
  split at hx
  · rw [List.mem_append] at hx
    rcases hx with h | h
    · exact two _ _ (by decide) (by decide) h
    · exact hex_lt _ _ x h
  · rw [List.mem_append] at hx
    rcases hx with h | h
    · exact two _ _ (by decide) (by decide) h
    · exact hex_lt _ _ x h
theorem quote_lt (x : Str) : PySem.reprQuote x < 0x110000 := by
  unfold PySem.reprQuote
  split <;> decide
theorem foldl_repr_lt (q : Nat) : ∀ (l : List Nat) (acc : Array Nat), (∀ c ∈ l, c < 0x110000) → (∀ c ∈ acc.toList, c < 0x110000) → ∀ c ∈ (l.foldl (fun out c => out ++ (PySem.Builtin.Str.reprChar q c).toArray) acc).toList, c < 0x110000
  | [], acc, _, h => h
  | c :: r, acc, hl, h => by
    rw [List.foldl_cons]
    refine foldl_repr_lt q r _ (fun d hd => hl d (List.mem_cons_of_mem _ hd)) fun d hd => ?_
    rw [Array.toList_append, List.mem_append] at hd
    rcases hd with g | g
    · exact h d g
    · exact reprChar_lt q c (hl c (List.mem_cons_self ..)) d (by simpa using g)
theorem strOk_repr {x : Str} (h : PyData.strOk x = true) : PyData.strOk (PySem.reprText x) = true := by
  rw [strOk_mem] at h ⊢
  intro c hc
  unfold PySem.reprText at hc
  rw [Array.toList_push, List.mem_append] at hc
  rcases hc with g | g
  · rw [← Array.foldl_toList] at g
    exact foldl_repr_lt _ _ _ h (fun d hd => by rw [List.mem_singleton.mp hd]; exact quote_lt x) c g
  · rw [List.mem_singleton.mp g]; exact quote_lt x
theorem strOk_textFrom : ∀ (ts : List Str) (k : Nat) (acc : Str), PyData.strOk acc = true → (∀ t ∈ ts, PyData.strOk t = true) → PyData.strOk (PySem.textFrom k acc ts) = true
  | [], _, _, h, _ => h
  | t :: r, k, acc, h, ht => by
    refine strOk_textFrom r (k + 1) _ ?_ fun u hu => ht u (List.mem_cons_of_mem _ hu)
    exact strOk_app (strOk_app h (strOk_of _)) (ht t (List.mem_cons_self ..))
theorem strOk_join : ∀ (ts : List Str) (sep : Str), PyData.strOk sep = true → (∀ t ∈ ts, PyData.strOk t = true) → PyData.strOk (Str.join sep ts) = true
  | [], _, _, _ => strOk_of ""
  | [x], _, _, ht => ht x (List.mem_cons_self ..)
  | x :: y :: r, sep, hs, ht => by
    show PyData.strOk (x ++ sep ++ Str.join sep (y :: r)) = true
    exact strOk_app (strOk_app (ht x (List.mem_cons_self ..)) hs) (strOk_join (y :: r) sep hs fun u hu => ht u (List.mem_cons_of_mem _ hu))
theorem strOk_tuple {ts : List Str} (h : ∀ t ∈ ts, PyData.strOk t = true) : PyData.strOk (PySem.tupleText ts) = true := strOk_app (strOk_app (strOk_of _) (strOk_join ts _ (strOk_of _) h)) (strOk_of _)
theorem strOk_list {ts : List Str} (h : ∀ t ∈ ts, PyData.strOk t = true) : PyData.strOk (PySem.listText ts) = true := strOk_app (strOk_textFrom ts 0 _ (strOk_of _) h) (strOk_of _)
mutual
theorem strOk_shown : ∀ d : D, d.canLay0 = true → PyData.strOk d.shown = true
  | .none, _ => strOk_of _
  | .bool b, _ => by cases b <;> exact strOk_of _
  | .int i, _ => strOk_of _
  | .str x, h => strOk_repr h
  | .list xs, h => strOk_list (strOk_shownAll xs h)
  | .tuple xs, h => strOk_tuple (strOk_shownAll xs h)
  | .dict _, h => by cases h
theorem strOk_shownAll : ∀ xs : List D, PyData.canLayAll0 xs = true → ∀ t ∈ PyData.shownAll xs, PyData.strOk t = true
  | [], _, t, ht => by cases ht
  | x :: xs, h, t, ht => by
    have h' : (x.canLay0 && PyData.canLayAll0 xs) = true := h
    rw [Bool.and_eq_true] at h'
    have ht' : t ∈ x.shown :: PyData.shownAll xs := ht
    rcases List.mem_cons.mp ht' with rfl | g
    · exact strOk_shown x h'.1
    · exact strOk_shownAll xs h'.2 t g
end
theorem okD_str {x : Str} (h : PyData.strOk x = true) : okD (.str x) := by
  show ((PyData.str x).canLay0 && decide ((PyData.str x).depth ≤ 64)) = true
  have e : (PyData.str x).canLay0 = true := h
  rw [e, decide_eq_true (show (PyData.str x).depth ≤ 64 from Nat.zero_le _)]
  rfl
theorem Fine.okS {k w : Nat} {d : D} (h : Fine k w d) : okD (.str d.shown) := okD_str (strOk_shown d h.lay)
/-! loops -/
theorem forL_inv {g : TG} {b : TS} {E : Ends} : ∀ (ds : List D) (r : Env) (I : Nat → Env → Prop), I 0 r → (∀ i x r (nx : Env → Prop), ds[i]? = some x → I i r → (∀ r', I (i + 1) r' → nx r') → g (.dat x) r fun r1 => b { E with nx := nx, ct := nx, bk := E.nx } r1) → (∀ r, I ds.length r → E.nx r) → forL g b E ds r
  | [], r, I, h, _, f => f r h
  | x :: xs, r, I, h, s, f => by
    refine s 0 x r _ rfl h fun r' h' => ?_
    exact forL_inv xs r' (fun i => I (i + 1)) h' (fun i y r nx e => s (i + 1) y r nx e) f
theorem lcL_inv {own : List Nat} {g : TG} {t : TB} {f : TX} {Q : List D → Env → Prop} : ∀ (ds : List D) (acc : List D) (r : Env) (I : Nat → List D → Env → Prop), I 0 acc r → (∀ i x acc r (K : List D → Env → Prop), ds[i]? = some x → I i acc r → (∀ a r', I (i + 1) a r' → K a r') → g (.dat x) r fun r1 => t noX r1 fun b r2 => if b = true then
      f noX r2 fun dv r3 => match dv.toD with
        | some d => acc.length < 16777216 ∧ K (acc ++ [d]) (clrs r3 own)
        | none => False
    else K acc (clrs r2 own)) → (∀ acc r, I ds.length acc r → Q acc r) → lcL own g t f ds acc r Q
  | [], acc, r, I, h, _, q => q acc r h
  | x :: xs, acc, r, I, h, s, q => by
    refine s 0 x acc r (fun a r' => lcL own g t f xs a r' Q) rfl h fun a r' h' => ?_
    exact lcL_inv xs a r' (fun i => I (i + 1)) h' (fun i y acc r K e => s (i + 1) y acc r K e) q
theorem lcL_gen {own : List Nat} {g : TG} {t : TB} {f : TX} {r : Env} (F : D → Option D) : ∀ (ds acc : List D) (Q : List D → Env → Prop), acc.length + ds.length ≤ 16777216 → (∀ x ∈ ds, ∀ (acc : List D) (K : List D → Env → Prop), acc.length < 16777216 → K (acc ++ (F x).toList) r → g (.dat x) r fun r1 => t noX r1 fun b r2 => if b = true then
      f noX r2 fun dv r3 => match dv.toD with
        | some d => acc.length < 16777216 ∧ K (acc ++ [d]) (clrs r3 own)
        | none => False
    else K acc (clrs r2 own)) → Q (acc ++ ds.filterMap F) r → lcL own g t f ds acc r Q
  | [], acc, Q, _, _, q => by rw [List.filterMap_nil, List.append_nil] at q; exact q
  | x :: xs, acc, Q, hl, s, q => by
    rw [List.length_cons] at hl
    refine s x (List.mem_cons_self ..) acc (fun a r' => lcL own g t f xs a r' Q) (by omega) ?_
    refine lcL_gen F xs _ Q ?_ (fun y hy => s y (List.mem_cons_of_mem _ hy)) ?_
    · rw [List.length_append]
      have : (F x).toList.length ≤ 1 := by cases F x <;> simp
      omega
    · rw [List.append_assoc]
      have e : (F x).toList ++ xs.filterMap F = (x :: xs).filterMap F := by
        rw [List.filterMap_cons]
        cases F x <;> rfl
      rw [e]; exact q
theorem rangeL_len (lo hi : Int) : (rangeL lo hi).length = (hi - lo).toNat := by
  unfold rangeL
  rw [List.length_map, List.length_range]
theorem rangeL_get {lo hi : Int} {i : Nat} {x : D} (h : (rangeL lo hi)[i]? = some x) : x = .int (lo + (i : Nat)) ∧ lo + (i : Nat) < hi := by
  unfold rangeL at h
  rw [List.getElem?_map] at h
  cases e : (List.range (hi - lo).toNat)[i]? with
  | none => rw [e] at h; cases h
  | some k =>
    rw [e] at h
    obtain ⟨h1, h2⟩ := List.getElem?_eq_some_iff.mp e
    rw [List.length_range] at h1
    rw [List.getElem_range] at h2
    subst h2
    exact ⟨(Option.some.inj h).symm, by omega⟩
theorem rangeL_mem {lo hi : Int} {x : D} (h : x ∈ rangeL lo hi) : ∃ i : Int, x = .int i ∧ lo ≤ i ∧ i < hi := by
  obtain ⟨i, hi'⟩ := List.getElem?_of_mem h
  obtain ⟨a, b⟩ := rangeL_get hi'
  exact ⟨_, a, by omega, b⟩
end DL

/-! DL: the helpers that many laws share. -/
namespace DL
open PySem
section
local macro_rules | `(tactic| walk_at "dl") => `(tactic| simp only [sSeq, sFor, sIf, sRet, sNext, sAsg, sPar, sDrop, sAug, wRange1, wRange2, wX, oE, oV, oCons, oNil, xCB, xCall, xB, xC, xVar, xMv, xU, xAnd, xOr, xNot, xTup, xLst, xIf, xCh, xLc, xCut, xApp, xMeth, aCons, aNil, bX, bO, bAnd, bOr, bNot, bYes,
   gets, sl, put, putO, gN, gT, gsAll, onArg, DV.toD, allD, Option.bind_some, fnSpec, List.map_cons, List.map_nil, List.length_cons, List.length_nil, List.replicate, List.cons_append, List.nil_append, pNo, pSome, nLen, nMax, dAdd, dSub, dInt, dGt, dCut, clrs, back, itemsOf, nRepr, nTuple, dNe, dEq, dIs, dIsNot, dLt, dLe, dGe, dIx, dMul, mulOk])
theorem take_ok {n : Int} (h0 : 0 < n) (h1 : n < 2 ^ 30) {Q : DV → Prop} {E : Err → Prop} (q : ∀ k : Int, 0 ≤ k → k < n → Q (.dat (.int k))) : takeS [.bag, .dat (.int n)] Q E := ⟨n, rfl, h0, h1, q⟩
theorem some_ok {xs : List D} (h0 : 0 < xs.length) (h1 : xs.length < 2 ^ 30) {Q : DV → Prop} {E : Err → Prop} (q : ∀ x ∈ xs, Q (.dat x)) :
    fnSpec 2 (sRet (xB dIx (oV 1) (oE (xCall takeS (aCons (xVar 0) (aCons (xCB nLen (oCons (oV 1) oNil)) aNil)))))) [.bag, .dat (.list xs)] Q E := by
  walk_at "dl"
  refine take_ok (by omega) (by omega) fun k hk0 hk1 => ?_
  obtain ⟨j, rfl⟩ := Int.eq_ofNat_of_zero_le hk0
  have hj : j < xs.length := by omega
  have e : L2.atI xs (j : Int) = some xs[j] := L2.atI_nat (List.getElem?_eq_getElem hj)
  simp only [Int.ofNat_eq_natCast] at *
  rw [e]
  exact q _ (List.getElem_mem hj)
theorem alike_ok {k w : Nat} {d : D} (h : Fine k w d) (hk : k ≤ 64) (hw : w ≤ 300000) {Q : DV → Prop} {E : Err → Prop} (q : Q (.dat (.bool true))) :
    fnSpec 2 (sRet (xAnd (xB dEq (oE (xCB nRepr (oCons (oV 0) oNil))) (oE (xCB nRepr (oCons (oV 1) oNil)))) (xB dEq (oV 0) (oV 1)))) [.dat d, .dat d] Q E := by
  walk_at "dl"
  have r := h.repr hk hw
  have e : PyData.eqv (.str d.shown) (.str d.shown) = true := SeqAt.eqv_refl _ (strOk_shown d h.lay)
  refine ⟨r, r, h.okS, h.okS, ?_⟩
  rw [e]
  refine ⟨h.ok hk, h.ok hk, ?_⟩
  rw [h.refl]
  exact q
end
end DL

/-! DL: meanings, one step at a time. -/
namespace DL
open PySem
section
variable {X : XW} {r : Env} {E : Ends} {E0 : Err → Prop}
def on1 (o : Option D) (k : D → Prop) : Prop := match o with
  | some d => k d
  | none => False
def on2 (o p : Option D) (k : D → D → Prop) : Prop := match o, p with
  | some x, some y => k x y
  | _, _ => False
def onL (o : Option (List D)) (k : List D → Prop) : Prop := match o with
  | some ds => k ds
  | none => False
def onB (dv : DV) (k : Bool → Prop) : Prop := match dv with
  | .dat (.bool b) => k b
  | _ => False
def onT (o : Option Bool) (k : Bool → Prop) : Prop := match o with
  | some b => k b
  | none => False
def onI (o : Option D) (k : Int → Prop) : Prop := match o with
  | some (.int i) => k i
  | _ => False
def on3 (d : Option D) (l h : Option (Option Int)) (k : D → Option Int → Option Int → Prop) : Prop := match d, l, h with
  | some x, some y, some z => k x y z
  | _, _, _ => False
theorem v_on1 {o d} {k : D → Prop} (e : o = some d) (h : k d) : on1 o k := by rw [e]; exact h
theorem v_on2 {o p x y} {k : D → D → Prop} (e : o = some x) (f : p = some y) (h : k x y) : on2 o p k := by rw [e, f]; exact h
theorem v_on3 {d l hh x y z} {k : D → Option Int → Option Int → Prop} (e : d = some x) (f : l = some y) (g : hh = some z) (h : k x y z) : on3 d l hh k := by rw [e, f, g]; exact h
theorem v_onL {o ds} {k : List D → Prop} (e : o = some ds) (h : k ds) : onL o k := by rw [e]; exact h
theorem v_onB {b} {k : Bool → Prop} (h : k b) : onB (.dat (.bool b)) k := h
theorem v_onT {o b} {k : Bool → Prop} (e : o = some b) (h : k b) : onT o k := by rw [e]; exact h
theorem v_onI {o i} {k : Int → Prop} (e : o = some (.int i)) (h : k i) : onI o k := by rw [e]; exact h
theorem v_xC {d} {Q : DV → Env → Prop} (h : Q (.dat d) r) : xC d X r Q := h
theorem v_xVarD {i d} {Q : DV → Env → Prop} (e : sl r i = some (.dat d)) (h : Q (.dat d) r) : xVar i X r Q := by unfold xVar; rw [e]; exact h
theorem v_xVarB {i} {Q : DV → Env → Prop} (e : sl r i = some .bag) (h : Q .bag r) : xVar i X r Q := by unfold xVar; rw [e]; exact h
theorem v_xVarO {i ds r'} {Q : DV → Env → Prop} (e : sl r i = some (.own ds)) (e2 : put r i (.dat (.list ds)) = r') (h : Q (.dat (.list ds)) r') : xVar i X r Q := by unfold xVar; rw [e]; show Q _ (put r i (.dat (.list ds))); rw [e2]; exact h
theorem v_xMv {i dv r'} {Q : DV → Env → Prop} (e : sl r i = some dv) (e2 : putO r i none = r') (h : Q dv r') : xMv i X r Q := by unfold xMv; rw [e]; show Q _ (putO r i none); rw [e2]; exact h
theorem v_oV {i dv} {Q : Get → Env → Prop} (e : sl r i = some dv) (h : Q (fun r' => (sl r' i).bind DV.toD) r) : oV i X r Q := by unfold oV; rw [e]; exact h
theorem v_oE {f} {Q : Get → Env → Prop} (h : f X r fun dv r1 => on1 dv.toD fun d => Q (fun _ => some d) r1) : oE f X r Q := h
theorem v_xB {o a b} {Q : DV → Env → Prop} (h : a X r fun g r1 => b X r1 fun h r2 => on2 (g r2) (h r2) fun x y => o x y fun v => Q v r2) : xB o a b X r Q := h
theorem v_xU {o a} {Q : DV → Env → Prop} (h : a X r fun g r1 => on1 (g r1) fun x => o x fun v => Q v r1) : xU o a X r Q := h
def onCmp (dv : DV) (k l : Prop) : Prop := match dv with
  | .dat (.bool true) => k
  | .dat (.bool false) => l
  | _ => False
theorem v_onCmp {b : Bool} {k l : Prop} (h : if b = true then k else l) : onCmp (.dat (.bool b)) k l := by
  cases b with
  | true => rw [if_pos rfl] at h; exact h
  | false => rw [if_neg (by decide)] at h; exact h
theorem v_xCh {o o' a b c} {Q : DV → Env → Prop} (h : a X r fun g r1 => b X r1 fun h r2 => on2 (g r2) (h r2) fun x y => o x y fun v => onCmp v (c X r2 fun k r3 => on2 (h r3) (k r3) fun y' z => o' y' z fun w => onB w fun q => Q (.dat (.bool q)) r3) (Q (.dat (.bool false)) r2)) : xCh o o' a b c X r Q := h
theorem v_oNil {Q : List Get → Env → Prop} (h : Q [] r) : oNil X r Q := h
theorem v_oCons {a t} {Q : List Get → Env → Prop} (h : a X r fun g r1 => t X r1 fun gs r2 => Q (g :: gs) r2) : oCons a t X r Q := h
theorem v_xCB {o t} {Q : DV → Env → Prop} (h : t X r fun gs r1 => onL (gets gs r1) fun ds => o ds fun v => Q v r1) : xCB o t X r Q := h
theorem v_aNil {Q : List DV → Env → Prop} (h : Q [] r) : aNil X r Q := h
theorem v_aCons {f t} {Q : List DV → Env → Prop} (h : f X r fun dv r1 => onArg dv fun w => t X r1 fun vs r2 => Q (w :: vs) r2) : aCons f t X r Q := h
theorem v_argD {d} {k : DV → Prop} (h : k (.dat d)) : onArg (.dat d) k := h
theorem v_argO {ds} {k : DV → Prop} (h : k (.dat (.list ds))) : onArg (.own ds) k := h
theorem v_argB {k : DV → Prop} (h : k .bag) : onArg .bag k := h
theorem v_xCall {S : Spec} {t} {Q : DV → Env → Prop} (h : t X r fun vs r1 => S vs (fun v => Q v r1) fun e => X e r1) : xCall S t X r Q := h
theorem v_xTup {t} {Q : DV → Env → Prop} (h : t X r fun vs r1 => onL (allD vs) fun ds => ds.length ≤ 16777216 ∧ Q (.dat (.tuple ds)) r1) : xTup t X r Q := h
theorem v_xLst {t} {Q : DV → Env → Prop} (h : t X r fun vs r1 => onL (allD vs) fun ds => ds.length ≤ 16777216 ∧ Q (.own ds) r1) : xLst t X r Q := h
theorem v_bX {f} {Q : Bool → Env → Prop} (h : f X r fun dv r1 => onB dv fun b => Q b r1) : bX f X r Q := h
def onTB (o : Option D) (k : Bool → Prop) : Prop := match o.bind truth with
  | some b => (∀ x, o = some (.str x) → x.length ≤ 16777216) ∧ k b
  | none => False
theorem v_bO {a} {Q : Bool → Env → Prop} (h : a X r fun g r1 => onTB (g r1) fun b => Q b r1) : bO a X r Q := h
theorem v_tB {o b} {k : Bool → Prop} (e : o = some (.bool b)) (h : k b) : onTB o k := by subst e; exact ⟨(fun _ z => nomatch z), h⟩
theorem v_tI {o} {i : Int} {k : Bool → Prop} (e : o = some (.int i)) (h : k (i != 0)) : onTB o k := by subst e; exact ⟨(fun _ z => nomatch z), h⟩
theorem v_tL {o} {xs : List D} {k : Bool → Prop} (e : o = some (.list xs)) (h : k (!xs.isEmpty)) : onTB o k := by subst e; exact ⟨(fun _ z => nomatch z), h⟩
theorem v_tT {o} {xs : List D} {k : Bool → Prop} (e : o = some (.tuple xs)) (h : k (!xs.isEmpty)) : onTB o k := by subst e; exact ⟨(fun _ z => nomatch z), h⟩
theorem v_tN {o} {k : Bool → Prop} (e : o = some .none) (h : k false) : onTB o k := by subst e; exact ⟨(fun _ z => nomatch z), h⟩
theorem v_tS {o} {x : Str} {k : Bool → Prop} (e : o = some (.str x)) (h : x.length ≤ 16777216 ∧ k ((x.length : Int) != 0)) : onTB o k := by subst e; exact ⟨(fun _ z => by cases z; exact h.1), h.2⟩
theorem v_ifN {b : Bool} {p q : Prop} {s : Decidable ((!b) = true)} (h : if b = true then q else p) : @ite Prop ((!b) = true) s p q := by
  cases b
  · rw [if_pos (show (!false) = true from rfl)]; exact h
  · rw [if_neg (show ¬ (!true) = true from fun z => by cases z)]; exact h
theorem v_bAnd {a b} {Q : Bool → Env → Prop} (h : a X r fun c r1 => if c = true then b X r1 Q else Q false r1) : bAnd a b X r Q := h
theorem v_bOr {a b} {Q : Bool → Env → Prop} (h : a X r fun c r1 => if c = true then Q true r1 else b X r1 Q) : bOr a b X r Q := h
theorem v_bNot {a} {Q : Bool → Env → Prop} (h : a X r fun c r1 => Q (!c) r1) : bNot a X r Q := h
theorem v_bYes {Q : Bool → Env → Prop} (h : Q true r) : bYes X r Q := h
theorem v_xAnd {a b} {Q : DV → Env → Prop} (h : a X r fun dv r1 => onB dv fun c => if c = true then b X r1 Q else Q (.dat (.bool false)) r1) : xAnd a b X r Q := h
theorem v_xOr {a b} {Q : DV → Env → Prop} (h : a X r fun dv r1 => onB dv fun c => if c = true then Q (.dat (.bool true)) r1 else b X r1 Q) : xOr a b X r Q := h
theorem v_xNot {a} {Q : DV → Env → Prop} (h : a X r fun c r1 => Q (.dat (.bool (!c))) r1) : xNot a X r Q := h
theorem v_xIf {t a b} {Q : DV → Env → Prop} (h : t X r fun c r1 => if c = true then a X r1 Q else b X r1 Q) : xIf t a b X r Q := h
theorem v_wX {f} {Q : List D → Env → Prop} (h : f X r fun dv r1 => on1 dv.toD fun d => onL (itemsOf d) fun ds => Q ds r1) : wX f X r Q := h
theorem v_wRange1 {a} {Q : List D → Env → Prop} (h : a X r fun g r1 => onI (g r1) fun n => (-(2 ^ 62) ≤ n ∧ n < 2 ^ 62) ∧ Q (rangeL 0 n) r1) : wRange1 a X r Q := h
def onII (o p : Option D) (k : Int → Int → Prop) : Prop := match o, p with
  | some (.int i), some (.int j) => k i j
  | _, _ => False
theorem v_onII {o p i j} {k : Int → Int → Prop} (e : o = some (.int i)) (f : p = some (.int j)) (h : k i j) : onII o p k := by rw [e, f]; exact h
theorem v_wRange2 {a b} {Q : List D → Env → Prop} (h : a X r fun g r1 => b X r1 fun h r2 => onII (g r2) (h r2) fun n m => (-(2 ^ 62) ≤ n ∧ n < 2 ^ 62 ∧ -(2 ^ 62) ≤ m ∧ m < 2 ^ 62) ∧ Q (rangeL n m) r2) : wRange2 a b X r Q := h
theorem v_gN {i v r'} {Q : Env → Prop} (e : put r i v = r') (h : Q r') : gN i v r Q := by subst e; exact h
theorem v_gT {gs ds} {Q : Env → Prop} (e : ds.length = gs.length) (h : gsAll gs ds r Q) : gT gs (.dat (.tuple ds)) r Q := ⟨e, h⟩
theorem v_gsN {Q : Env → Prop} (h : Q r) : gsAll [] [] r Q := ⟨rfl, h⟩
theorem v_gsC {g gs d ds} {Q : Env → Prop} (h : g (.dat d) r fun r1 => gsAll gs ds r1 Q) : gsAll (g :: gs) (d :: ds) r Q := h
theorem v_pNo {Q : (Env → Option (Option Int)) → Env → Prop} (h : Q (fun _ => some none) r) : pNo X r Q := h
theorem v_pSome {o} {Q : (Env → Option (Option Int)) → Env → Prop} (h : o X r fun g r1 => onI (g r1) fun i => Q (fun _ => some (some i)) r1) : pSome o X r Q := h
theorem v_xCut {a lo hi} {Q : DV → Env → Prop} (h : a X r fun g r1 => lo X r1 fun l r2 => hi X r2 fun h r3 => on3 (g r3) (l r3) (h r3) fun d i j => dCut d i j fun v => Q v r3) : xCut a lo hi X r Q := h
def bk2 (r1 r2 : Env) (own : List Nat) (k : Env → Prop) : Prop := k (back r1 r2 own)
theorem v_bk2 {r1 r2 own r'} {k : Env → Prop} (e : back r1 r2 own = r') (h : k r') : bk2 r1 r2 own k := by subst e; exact h
theorem v_xLc {own s g t f} {Q : DV → Env → Prop} (h : s X r fun ds r1 => (∀ i ∈ own, notOwn r1 i) ∧ lcL own g t f ds [] (clrs r1 own) fun acc r2 => bk2 r1 r2 own fun r3 => Q (.own acc) r3) : xLc own s g t f X r Q := h
theorem p_z {x v : Option DV} {r : Env} : putO (x :: r) 0 v = v :: r := rfl
theorem p_s {x v : Option DV} {r r' : Env} {i : Nat} (h : putO r i v = r') : putO (x :: r) (i + 1) v = x :: r' := by subst h; rfl
theorem v_own1 {i k} (e : notOwn r i) (h : k) : (∀ j ∈ [i], notOwn r j) ∧ k := ⟨fun j hj ds => by rw [List.mem_singleton.mp hj]; exact e ds, h⟩
theorem v_own2 {i i' k} (e : notOwn r i) (e' : notOwn r i') (h : k) : (∀ j ∈ [i, i'], notOwn r j) ∧ k := ⟨fun j hj ds => by
  rcases List.mem_cons.mp hj with rfl | hj
  · exact e ds
  · rw [List.mem_singleton.mp hj]; exact e' ds, h⟩
theorem v_lc {own g t f ds r'} {Q : List D → Env → Prop} (e : clrs r own = r') (h : lcL own g t f ds [] r' Q) : lcL own g t f ds [] (clrs r own) Q := by rw [e]; exact h
/-! statements -/
section
variable {nx : Env → Prop} {rt : DV → Prop} {bk ct : Env → Prop} {ex : XW}
theorem v_sNext (h : nx r) : sNext ⟨nx, rt, bk, ct, ex⟩ r := h
theorem v_sSeq {a b} (h : a ⟨b ⟨nx, rt, bk, ct, ex⟩, rt, bk, ct, ex⟩ r) : sSeq a b ⟨nx, rt, bk, ct, ex⟩ r := h
theorem v_sAsg {g f} (h : f ex r fun v r1 => g v r1 nx) : sAsg g f ⟨nx, rt, bk, ct, ex⟩ r := h
theorem v_sPar {i j f k} (h : f ex r fun v r1 => k ex r1 fun w r2 => gN i v r2 fun r3 => gN j w r3 nx) : sPar i j f k ⟨nx, rt, bk, ct, ex⟩ r := h
theorem v_sDrop {f} (h : f ex r fun _ r1 => nx r1) : sDrop f ⟨nx, rt, bk, ct, ex⟩ r := h
theorem v_sRet {f} (h : f ex r fun v _ => rt v) : sRet f ⟨nx, rt, bk, ct, ex⟩ r := h
theorem v_sRetN (h : rt (.dat .none)) : sRetN ⟨nx, rt, bk, ct, ex⟩ r := h
theorem v_sIf {t a b} (h : t ex r fun c r1 => if c = true then a ⟨nx, rt, bk, ct, ex⟩ r1 else b ⟨nx, rt, bk, ct, ex⟩ r1) : sIf t a b ⟨nx, rt, bk, ct, ex⟩ r := h
theorem v_sBrk (h : bk r) : sBrk ⟨nx, rt, bk, ct, ex⟩ r := h
theorem v_sCnt (h : ct r) : sCnt ⟨nx, rt, bk, ct, ex⟩ r := h
theorem v_sAug {i o b x} (e : sl r i = some (.dat x)) (h : b ex r fun g r1 => on1 (g r1) fun y => o x y fun v => gN i v r1 nx) : sAug i o b ⟨nx, rt, bk, ct, ex⟩ r := by unfold sAug; rw [e]; exact h
theorem v_sFor {s g b} (h : s ex r fun ds r1 => forL g b ⟨nx, rt, bk, ct, ex⟩ ds r1) : sFor s g b ⟨nx, rt, bk, ct, ex⟩ r := h
/-- a loop's invariant -/
theorem forL_iv {g : TG} {b : TS} {ds : List D} (I : Nat → Env → Prop) (h0 : I 0 r) (s : ∀ i x r (k : Env → Prop), ds[i]? = some x → I i r → (∀ r', I (i + 1) r' → k r') → g (.dat x) r fun r1 => b ⟨k, rt, nx, k, ex⟩ r1) (f : ∀ r, I ds.length r → nx r) : forL g b ⟨nx, rt, bk, ct, ex⟩ ds r :=
  forL_inv ds r I h0 (fun i x r k => s i x r k) f
theorem forL_nil {g : TG} {b : TS} (h : nx r) : forL g b ⟨nx, rt, bk, ct, ex⟩ [] r := h
theorem forL_cons {g : TG} {b : TS} {x : D} {xs : List D} (h : g (.dat x) r fun r1 => b ⟨forL g b ⟨nx, rt, bk, ct, ex⟩ xs, rt, nx, forL g b ⟨nx, rt, bk, ct, ex⟩ xs, ex⟩ r1) : forL g b ⟨nx, rt, bk, ct, ex⟩ (x :: xs) r := h
end
theorem v_ifT {a b : Prop} {s : Decidable ((true : Bool) = true)} (h : a) : @ite Prop ((true : Bool) = true) s a b := by rw [if_pos rfl]; exact h
theorem v_ifF {a b : Prop} {s : Decidable ((false : Bool) = true)} (h : b) : @ite Prop ((false : Bool) = true) s a b := by rw [if_neg (show ¬ (false = true) from fun z => by cases z)]; exact h
theorem v_ifNonT {a b : Prop} {s : Decidable (isNon .none = true)} (h : a) : @ite Prop (isNon .none = true) s a b := by rw [if_pos (show isNon .none = true from rfl)]; exact h
theorem v_ifNonI {a b : Prop} {i : Int} {s : Decidable (isNon (.int i) = true)} (h : b) : @ite Prop (isNon (.int i) = true) s a b := by rw [if_neg (by intro z; cases z)]; exact h
theorem v_ifNonT' {a b : Prop} {xs : List D} {s : Decidable (isNon (.tuple xs) = true)} (h : b) : @ite Prop (isNon (.tuple xs) = true) s a b := by rw [if_neg (by intro z; cases z)]; exact h
def onO (dv : Option DV) (k : List D → Prop) : Prop := match dv with
  | some (.own ds) => k ds
  | _ => False
theorem v_onO {o ds} {k : List D → Prop} (e : o = some (.own ds)) (h : k ds) : onO o k := by rw [e]; exact h
def onDO (o : Option D) (p : Option DV) (k : D → List D → Prop) : Prop := match o, p with
  | some d, some (.own ds) => k d ds
  | _, _ => False
theorem v_onDO {o p d ds} {k : D → List D → Prop} (e : o = some d) (f : p = some (.own ds)) (h : k d ds) : onDO o p k := by rw [e, f]; exact h
theorem v_xApp {i f ds} {Q : DV → Env → Prop} (e : sl r i = some (.own ds)) (h : f X r fun dv r1 => onDO dv.toD (sl r1 i) fun d ds => ds.length < 16777216 ∧ gN i (.own (ds ++ [d])) r1 fun r2 => Q (.dat .none) r2) : xApp i f X r Q := ⟨⟨ds, e⟩, h⟩
theorem v_xMeth {i o t ds} {Q : DV → Env → Prop} (e : sl r i = some (.own ds)) (h : t X r fun gs r1 => match gets gs r1, sl r1 i with
  | some ds, some (.own es) => o es ds fun es' v => Q v (put r1 i (.own es'))
  | _, _ => False) : xMeth i o t X r Q := ⟨⟨ds, e⟩, h⟩
def cl2 (r : Env) (own : List Nat) (k : Env → Prop) : Prop := k (clrs r own)
theorem v_cl2 {own r'} {k : Env → Prop} (e : clrs r own = r') (h : k r') : cl2 r own k := by subst e; exact h
theorem lcL_iv {own : List Nat} {g : TG} {t : TB} {f : TX} {Q : List D → Env → Prop} {ds : List D} (I : Nat → List D → Env → Prop) (h0 : I 0 [] r) (s : ∀ i x acc r (K : List D → Env → Prop), ds[i]? = some x → I i acc r → (∀ a r', I (i + 1) a r' → K a r') → g (.dat x) r fun r1 => t noX r1 fun b r2 => if b = true then
      f noX r2 fun dv r3 => on1 dv.toD fun d => acc.length < 16777216 ∧ cl2 r3 own fun r4 => K (acc ++ [d]) r4
    else cl2 r2 own fun r4 => K acc r4) (fin : ∀ acc r, I ds.length acc r → Q acc r) : lcL own g t f ds [] r Q := lcL_inv ds [] r I h0 (fun i x acc r K => s i x acc r K) fin
theorem lcL_fm {own : List Nat} {g : TG} {t : TB} {f : TX} {Q : List D → Env → Prop} {ds : List D} (F : D → Option D) (hl : ds.length ≤ 16777216) (s : ∀ x ∈ ds, ∀ (acc : List D) (K : List D → Env → Prop), acc.length < 16777216 → K (acc ++ (F x).toList) r → g (.dat x) r fun r1 => t noX r1 fun b r2 => if b = true then
      f noX r2 fun dv r3 => on1 dv.toD fun d => acc.length < 16777216 ∧ cl2 r3 own fun r4 => K (acc ++ [d]) r4
    else cl2 r2 own fun r4 => K acc r4) (q : Q (ds.filterMap F) r) : lcL own g t f ds [] r Q := lcL_gen F ds [] Q (by rw [List.length_nil]; omega) (fun x hx acc K => s x hx acc K) q
theorem lcL_mp {own : List Nat} {g : TG} {t : TB} {f : TX} {Q : List D → Env → Prop} {ds : List D} (F : D → D) (hl : ds.length ≤ 16777216) (s : ∀ x ∈ ds, ∀ (acc : List D) (K : List D → Env → Prop), acc.length < 16777216 → K (acc ++ [F x]) r → g (.dat x) r fun r1 => t noX r1 fun b r2 => if b = true then
      f noX r2 fun dv r3 => on1 dv.toD fun d => acc.length < 16777216 ∧ cl2 r3 own fun r4 => K (acc ++ [d]) r4
    else cl2 r2 own fun r4 => K acc r4) (q : Q (ds.map F) r) : lcL own g t f ds [] r Q := lcL_fm (fun x => some (F x)) hl (fun x hx acc K ha hK => s x hx acc K ha hK) (by rw [List.filterMap_eq_map']; exact q)
theorem lcL_each0 {own : List Nat} {g : TG} {t : TB} {f : TX} {Q : List D → Env → Prop} (P : D → Prop) : ∀ (ds acc : List D) (n : Nat), acc.length + ds.length ≤ 16777216 → n = acc.length + ds.length → (∀ y ∈ acc, P y) → (∀ x ∈ ds, ∀ (acc : List D) (K : List D → Env → Prop), acc.length < 16777216 → (∀ d, P d → K (acc ++ [d]) r) → g (.dat x) r fun r1 => t noX r1 fun b r2 => if b = true then
      f noX r2 fun dv r3 => on1 dv.toD fun d => acc.length < 16777216 ∧ cl2 r3 own fun r4 => K (acc ++ [d]) r4
    else cl2 r2 own fun r4 => K acc r4) → (∀ ys, ys.length = n → (∀ y ∈ ys, P y) → Q ys r) → lcL own g t f ds acc r Q
  | [], acc, n, hl, hn, ha, s, q => q acc (by rw [hn]; rfl) ha
  | x :: xs, acc, n, hl, hn, ha, s, q => by
    rw [List.length_cons] at hl hn
    refine s x (List.mem_cons_self ..) acc (fun a r' => lcL own g t f xs a r' Q) (by omega) fun d hd => ?_
    refine lcL_each0 P xs _ n ?_ ?_ ?_ (fun y hy => s y (List.mem_cons_of_mem _ hy)) q
    · rw [List.length_append, List.length_singleton]; omega
    · rw [List.length_append, List.length_singleton]; omega
    · intro y hy
      rcases List.mem_append.mp hy with h | h
      · exact ha y h
      · rw [List.mem_singleton.mp h]; exact hd
theorem lcL_each {own : List Nat} {g : TG} {t : TB} {f : TX} {Q : List D → Env → Prop} (P : D → Prop) {ds : List D} (hl : ds.length ≤ 16777216) (s : ∀ x ∈ ds, ∀ (acc : List D) (K : List D → Env → Prop), acc.length < 16777216 → (∀ d, P d → K (acc ++ [d]) r) → g (.dat x) r fun r1 => t noX r1 fun b r2 => if b = true then
      f noX r2 fun dv r3 => on1 dv.toD fun d => acc.length < 16777216 ∧ cl2 r3 own fun r4 => K (acc ++ [d]) r4
    else cl2 r2 own fun r4 => K acc r4) (q : ∀ ys, ys.length = ds.length → (∀ y ∈ ys, P y) → Q ys r) : lcL own g t f ds [] r Q :=
  lcL_each0 P ds [] ds.length (by rw [List.length_nil]; omega) (by rw [List.length_nil]; omega) (fun _ h => by cases h) s q
def onAcc (o : Option D) (k : D → Prop) : Prop := match o with
  | some d => k d
  | none => False
theorem bools_of : ∀ {ys : List D}, (∀ y ∈ ys, ∃ b, y = .bool b) → ∃ bs : List Bool, ys = bs.map .bool
  | [], _ => ⟨[], rfl⟩
  | y :: r, h => by
    obtain ⟨b, rfl⟩ := h y (List.mem_cons_self ..)
    obtain ⟨bs, rfl⟩ := bools_of (ys := r) fun z hz => h z (List.mem_cons_of_mem _ hz)
    exact ⟨b :: bs, rfl⟩
theorem ints_of : ∀ {ys : List D}, (∀ y ∈ ys, ∃ i, y = .int i) → ∃ is : List Int, ys = is.map .int
  | [], _ => ⟨[], rfl⟩
  | y :: r, h => by
    obtain ⟨b, rfl⟩ := h y (List.mem_cons_self ..)
    obtain ⟨bs, rfl⟩ := ints_of (ys := r) fun z hz => h z (List.mem_cons_of_mem _ hz)
    exact ⟨b :: bs, rfl⟩
/-! operators -/
variable {Q : DV → Prop} {a b : Int} {xs ys : List D} {x y : Str} {d e : D}
theorem v_dInt {f : Int → Int → D} (h : Q (.dat (f a b))) : dInt f (.int a) (.int b) Q := h
theorem v_addI (h : Q (.dat (.int (a + b)))) : dAdd (.int a) (.int b) Q := h
theorem v_addS (h : x.length + y.length ≤ 16777216 ∧ Q (.dat (.str (x ++ y)))) : dAdd (.str x) (.str y) Q := h
theorem v_addT (h : xs.length + ys.length ≤ 16777216 ∧ Q (.dat (.tuple (xs ++ ys)))) : dAdd (.tuple xs) (.tuple ys) Q := h
theorem v_addL (h : xs.length + ys.length ≤ 16777216 ∧ Q (.own (xs ++ ys))) : dAdd (.list xs) (.list ys) Q := h
theorem v_subI (h : Q (.dat (.int (a - b)))) : dSub (.int a) (.int b) Q := h
theorem v_mulI (h : mulOk a b ∧ Q (.dat (.int (a * b)))) : dMul (.int a) (.int b) Q := h
theorem v_mulT (h : (0 ≤ a ∧ a ≤ 1000 ∧ 0 < xs.length ∧ xs.length ≤ 1000) ∧ Q (.dat (.tuple (List.replicate a.toNat xs).flatten))) : dMul (.tuple xs) (.int a) Q := h
theorem v_mulL (h : (-(2 ^ 63) ≤ a ∧ a < 2 ^ 63 ∧ xs.length * a.toNat ≤ 16777216) ∧ Q (.own (List.replicate a.toNat xs).flatten)) : dMul (.list xs) (.int a) Q := h
theorem v_div (h : (0 < b ∧ b < 2 ^ 200) ∧ Q (.dat (.int (a / b)))) : dDiv (.int a) (.int b) Q := h
theorem v_mod (h : 0 < b ∧ Q (.dat (.int (a % b)))) : dMod (.int a) (.int b) Q := h
theorem v_pow (h : (0 ≤ b ∧ b ≤ 1000000 ∧ a.natAbs < 2 ^ 64) ∧ Q (.dat (.int (a ^ b.toNat)))) : dPow (.int a) (.int b) Q := h
theorem v_neg (h : Q (.dat (.int (-a)))) : dNeg (.int a) Q := h
theorem v_eqI (h : Q (.dat (.bool (a == b)))) : dEq (.int a) (.int b) Q := ⟨rfl, rfl, h⟩
theorem v_neI (h : Q (.dat (.bool (!(a == b))))) : dNe (.int a) (.int b) Q := ⟨rfl, rfl, h⟩
theorem v_eq (h : okD d ∧ okD e ∧ Q (.dat (.bool (PyData.eqv d e)))) : dEq d e Q := h
theorem v_ne (h : okD d ∧ okD e ∧ Q (.dat (.bool (!PyData.eqv d e)))) : dNe d e Q := h
theorem v_ltI (h : Q (.dat (.bool (decide (a < b))))) : dLt (.int a) (.int b) Q := h
theorem v_leI (h : Q (.dat (.bool (decide (a ≤ b))))) : dLe (.int a) (.int b) Q := h
theorem v_gtI (h : Q (.dat (.bool (decide (b < a))))) : dGt (.int a) (.int b) Q := h
theorem v_geI (h : Q (.dat (.bool (decide (b ≤ a))))) : dGe (.int a) (.int b) Q := h
theorem v_is (h : Q (.dat (.bool (isNon d)))) : dIs d .none Q := h
theorem v_isNot (h : Q (.dat (.bool (!isNon d)))) : dIsNot d .none Q := h
def onX (o : Option D) (k : D → Prop) : Prop := match o with
  | some d => k d
  | none => False
theorem v_onX {o d} {k : D → Prop} (e : o = some d) (h : k d) : onX o k := by rw [e]; exact h
theorem v_ixL (h : onX (L2.atI xs a) fun d => Q (.dat d)) : dIx (.list xs) (.int a) Q := h
theorem v_ixT (h : onX (L2.atI xs a) fun d => Q (.dat d)) : dIx (.tuple xs) (.int a) Q := h
theorem v_cutL {lo hi} (h : Q (.own (cutD xs lo hi))) : dCut (.list xs) lo hi Q := h
theorem v_cutT {lo hi} (h : Q (.dat (.tuple (cutD xs lo hi)))) : dCut (.tuple xs) lo hi Q := h
theorem v_cutS {lo hi} (h : x.length ≤ 16777216 ∧ Q (.dat (.str (cutC x lo hi)))) : dCut (.str x) lo hi Q := h
theorem v_lenL (h : Q (.dat (.int xs.length))) : nLen [.list xs] Q := h
theorem v_lenT (h : Q (.dat (.int xs.length))) : nLen [.tuple xs] Q := h
theorem v_lenS (h : x.length ≤ 16777216 ∧ Q (.dat (.int x.length))) : nLen [.str x] Q := h
theorem v_repr (h : (d.showable = true ∧ d.hasDict = false ∧ d.depth ≤ 64 ∧ d.shown.length ≤ 16777216) ∧ Q (.dat (.str d.shown))) : nRepr [d] Q := h
theorem v_tupL (h : Q (.dat (.tuple xs))) : nTuple [.list xs] Q := h
theorem v_tupT (h : Q (.dat (.tuple xs))) : nTuple [.tuple xs] Q := h
theorem v_lstL (h : Q (.own xs)) : nList [.list xs] Q := h
theorem v_lstT (h : Q (.own xs)) : nList [.tuple xs] Q := h
theorem v_intI (h : Q (.dat (.int a))) : nInt [.int a] Q := h
theorem v_abs (h : Q (.dat (.int (if a < 0 then -a else a)))) : nAbs [.int a] Q := h
theorem v_maxI (h : Q (.dat (.int (if b > a then b else a)))) : nMax [.int a, .int b] Q := h
theorem v_minI (h : Q (.dat (.int (if b < a then b else a)))) : nMin [.int a, .int b] Q := h
theorem v_fn {n b vs r'} {Q : DV → Prop} {E : Err → Prop} (e : vs.map some ++ List.replicate (n - vs.length) none = r') (h : b { nx := fun _ => Q (.dat .none), rt := Q, ex := fun e _ => E e } r') : fnSpec n b vs Q E := by subst e; exact h
end
end DL

/-! DL: steps for dicts, index, zip, several values; comprehensions over mapped lists. -/
namespace DL
open PySem
section
variable {X : XW} {r : Env}
def onDc (o : Option D) (p : Option DV) (k : D → List (D × D) → Prop) : Prop := match o, p with
  | some d, some (.dct false kvs) => k d kvs
  | _, _ => False
theorem v_onDc {o p d kvs} {k : D → List (D × D) → Prop} (e : o = some d) (f : p = some (.dct false kvs)) (h : k d kvs) : onDc o p k := by rw [e, f]; exact h
theorem v_xDGet {i b kvs} {Q : DV → Env → Prop} (e : sl r i = some (.dct false kvs)) (h : b X r fun g r1 => onDc (g r1) (sl r1 i) fun k kvs => keyD k ≠ none ∧ onX (lookD kvs k) fun d => Q (.dat d) r1) : xDGet i b X r Q := ⟨⟨kvs, e⟩, h⟩
theorem v_xDIn {neg i b} {Q : DV → Env → Prop} (h : b X r fun g r1 => onDc (g r1) (sl r1 i) fun k kvs => keyD k ≠ none ∧ Q (.dat (.bool (neg != (lookD kvs k).isSome))) r1) : xDIn neg i b X r Q := h
def exD (r : Env) (i : Nat) (k : Prop) : Prop := (∃ kvs, sl r i = some (.dct false kvs)) ∧ k
theorem v_exD {i kvs} {k : Prop} (e : sl r i = some (.dct false kvs)) (h : k) : exD r i k := ⟨⟨kvs, e⟩, h⟩
theorem v_sDPut {i b f nx rt bk ct ex} (h : f ex r fun dv r1 => on1 dv.toD fun d => exD r1 i (b ex r1 fun g r2 => onDc (g r2) (sl r2 i) fun k kvs => keyD k ≠ none ∧ kvs.length < 16777216 ∧ gN i (.dct false (putD kvs k d)) r2 nx)) : sDPut i b f ⟨nx, rt, bk, ct, ex⟩ r := h
theorem v_xDNew {Q : DV → Env → Prop} (h : Q (.dct false []) r) : xDNew X r Q := h
theorem v_xDOne {k f} {Q : DV → Env → Prop} (e : keyD k ≠ none) (h : f X r fun dv r1 => on1 dv.toD fun d => Q (.dct false [(k, d)]) r1) : xDOne k f X r Q := ⟨e, h⟩
def onSN (o : Option D) (p : Option DV) (k : Str → List D → Prop) : Prop := match o, p with
  | some (.str z), some (.nd ds) => k z ds
  | _, _ => False
theorem v_onSN {o p z ds} {k : Str → List D → Prop} (e : o = some (.str z)) (f : p = some (.nd ds)) (h : k z ds) : onSN o p k := by rw [e, f]; exact h
def onSs (o : Option (List Str)) (k : List Str → Prop) : Prop := match o with
  | some zs => k zs
  | none => False
theorem v_onSs {ss : List Str} {k : List Str → Prop} (h : k ss) : onSs (strsOf (ss.map .str)) k := by rw [strsOf_of]; exact h
theorem v_xTIdx {i b ds} {Q : DV → Env → Prop} (e : sl r i = some (.nd ds)) (h : b X r fun g r1 => onSN (g r1) (sl r1 i) fun z ds => onSs (strsOf ds) fun zs => ∃ j, zs[j]? = some z ∧ (∀ m, m < j → zs[m]? ≠ some z) ∧ Q (.dat (.int (j : Nat))) r1) : xTIdx i b X r Q := ⟨⟨ds, e⟩, h⟩
def onLD (o p : Option D) (k : List D → D → Prop) : Prop := match o, p with
  | some (.list xs), some y => k xs y
  | _, _ => False
theorem v_onLD {o p xs y} {k : List D → D → Prop} (e : o = some (.list xs)) (f : p = some y) (h : k xs y) : onLD o p k := by rw [e, f]; exact h
def exL (o : Option D) (k : Prop) : Prop := (∃ ds, o = some (.list ds)) ∧ k
theorem v_exL {o ds} {k : Prop} (e : o = some (.list ds)) (h : k) : exL o k := ⟨⟨ds, e⟩, h⟩
theorem v_xLIdx {a b} {Q : DV → Env → Prop} (h : a X r fun g r1 => exL (g r1) (b X r1 fun h r2 => onLD (g r2) (h r2) fun xs y => okD (.list xs) ∧ okD y ∧ ∃ (j : Nat) (z : D), xs[j]? = some z ∧ PyData.eqv z y = true ∧ (∀ (m : Nat) (z' : D), m < j → xs[m]? = some z' → PyData.eqv z' y = false) ∧ Q (.dat (.int (j : Nat))) r2)) : xLIdx a b X r Q := h
theorem v_xVarN {i ds} {Q : DV → Env → Prop} (e : sl r i = some (.nd ds)) (h : Q (.nd ds) r) : xVar i X r Q := by unfold xVar; rw [e]; exact h
theorem v_argN {ds} {k : DV → Prop} (h : k (.dat (.tuple ds))) : onArg (.nd ds) k := h
theorem v_tupN {xs} {Q : DV → Prop} (h : Q (.nd xs)) : nTupN [.list xs] Q := h
theorem v_sortS {ss : List Str} {Q : DV → Prop} (hl : ss.length < 64) (h : ∀ ys : List Str, ys.Perm ss → PyProof.Rows.sortedS ys = true → Q (.own (ys.map .str))) : nSortS [.list (ss.map .str)] Q := by
  unfold nSortS
  dsimp only
  rw [strsOf_of]
  exact ⟨hl, h⟩
def onTT (o : Option (List D)) (k : List D → List D → Prop) : Prop := match o with
  | some [.tuple xs, .tuple ys] => k xs ys
  | some [.list xs, .list ys] => k xs ys
  | _ => False
theorem v_onTTl {o xs ys} {k : List D → List D → Prop} (e : o = some [.list xs, .list ys]) (h : k xs ys) : onTT o k := by rw [e]; exact h
theorem v_onTT {o xs ys} {k : List D → List D → Prop} (e : o = some [.tuple xs, .tuple ys]) (h : k xs ys) : onTT o k := by rw [e]; exact h
theorem v_wZip {t} {Q : List D → Env → Prop} (h : t X r fun vs r1 => onTT (allD vs) fun xs ys => Q (zipD xs ys) r1) : wZip t X r Q := h
theorem v_avN {Q : List DV → Env → Prop} (h : Q [] r) : avL [] X r Q := h
theorem v_avC {f fs} {Q : List DV → Env → Prop} (h : f X r fun u r1 => avL fs X r1 fun us r2 => Q (u :: us) r2) : avL (f :: fs) X r Q := h
def gAll (is : List Nat) (us : List DV) (r : Env) (k : Env → Prop) : Prop := k (putAll r is us)
theorem v_sMul {is fs nx rt bk ct ex} (h : avL fs ex r fun us r1 => gAll is us r1 nx) : sMul is fs ⟨nx, rt, bk, ct, ex⟩ r := h
theorem v_gAllN {us : List DV} {k : Env → Prop} (h : k r) : gAll [] us r k := by cases us <;> exact h
theorem v_gAllC {i is} {u : DV} {us : List DV} {k : Env → Prop} (h : gN i u r fun r1 => gAll is us r1 k) : gAll (i :: is) (u :: us) r k := h
def onLO (o : Option (List D)) (p : Option DV) (k : List D → List D → Prop) : Prop := match o, p with
  | some ds, some (.own es) => k ds es
  | _, _ => False
theorem v_onLO {o p ds es} {k : List D → List D → Prop} (e : o = some ds) (f : p = some (.own es)) (h : k ds es) : onLO o p k := by rw [e, f]; exact h
theorem v_xMt {i o t ds} {Q : DV → Env → Prop} (e : sl r i = some (.own ds)) (h : t X r fun gs r1 => onLO (gets gs r1) (sl r1 i) fun ds es => o es ds fun es' v => gN i (.own es') r1 fun r2 => Q v r2) : xMeth i o t X r Q := ⟨⟨ds, e⟩, h⟩
theorem v_mExt {es xs : List D} {Q : List D → DV → Prop} (h : es.length + xs.length ≤ 16777216 ∧ Q (es ++ xs) (.dat .none)) : mExtend es [.list xs] Q := h
theorem v_mPop {es : List D} {i : Int} {j : Nat} {y : D} {Q : List D → DV → Prop} (e : i = (j : Nat)) (hy : es[j]? = some y) (hl : es.length ≤ 16777216) (h : Q (es.eraseIdx j) (.dat y)) : mPop es [.int i] Q := by
  subst e
  have hj := (List.getElem?_eq_some_iff.mp hy).1
  refine ⟨⟨by omega, by omega⟩, ?_⟩
  rw [PySem.seqIndex_of (by omega) (by omega), Int.toNat_natCast]
  dsimp only
  rw [hy]
  exact h
def bk3 (r0 r2 : Env) (vs : List Nat) (i0 : Nat) (ds : List D) (k : Env → Prop) : Prop := k (put (DL.back r0 r2 vs) i0 (.own ds))
theorem v_bk3 {r0 r2 vs i0 ds r'} {k : Env → Prop} (e : put (DL.back r0 r2 vs) i0 (.own ds) = r') (h : k r') : bk3 r0 r2 vs i0 ds k := by subst e; exact h
theorem v_xLcO {vs i0 g t f ds r0} {Q : DV → Env → Prop} (e : sl r i0 = some (.own ds)) (e2 : putO r i0 none = r0) (h : (∀ i ∈ vs, notOwn r0 i) ∧ lcL vs g t f ds [] (clrs r0 vs) fun acc r2 => bk3 r0 r2 vs i0 ds fun r3 => Q (.own acc) r3) : xLcO vs i0 g t f X r Q := by
  subst e2
  exact ⟨ds, e, h.1, h.2⟩
/-! comprehensions over what comes of a list -/
variable {own : List Nat} {g : TG} {t : TB} {f : TX} {Q : List D → Env → Prop}
theorem lcL_map {α : Type} {xs : List α} (F : α → D) (G : α → D) (hl : xs.length ≤ 16777216) (s : ∀ x ∈ xs, ∀ (acc : List D) (K : List D → Env → Prop), acc.length < 16777216 → K (acc ++ [G x]) r → g (.dat (F x)) r fun r1 => t noX r1 fun b r2 => if b = true then
      f noX r2 fun dv r3 => on1 dv.toD fun d => acc.length < 16777216 ∧ cl2 r3 own fun r4 => K (acc ++ [d]) r4
    else cl2 r2 own fun r4 => K acc r4) (q : Q (xs.map G) r) : lcL own g t f (xs.map F) [] r Q := by
  have key : ∀ (xs : List α) (acc : List D), acc.length + xs.length ≤ 16777216 → (∀ x ∈ xs, ∀ (acc : List D) (K : List D → Env → Prop), acc.length < 16777216 → K (acc ++ [G x]) r → g (.dat (F x)) r fun r1 => t noX r1 fun b r2 => if b = true then
      f noX r2 fun dv r3 => on1 dv.toD fun d => acc.length < 16777216 ∧ cl2 r3 own fun r4 => K (acc ++ [d]) r4
    else cl2 r2 own fun r4 => K acc r4) → Q (acc ++ xs.map G) r → lcL own g t f (xs.map F) acc r Q := by
    intro xs
    induction xs with
    | nil => intro acc _ _ q; rw [List.map_nil, List.append_nil] at q; exact q
    | cons x xs ih =>
      intro acc hl s q
      rw [List.length_cons] at hl
      refine s x (List.mem_cons_self ..) acc (fun a r' => lcL own g t f (xs.map F) a r' Q) (by omega) ?_
      refine ih _ (by rw [List.length_append, List.length_singleton]; omega) (fun y hy => s y (List.mem_cons_of_mem _ hy)) ?_
      rw [List.append_assoc]
      exact q
  exact key xs [] (by rw [List.length_nil]; omega) s q
theorem lcL_flt {α : Type} {xs : List α} (F : α → D) (p : α → Bool) (G : α → D) (hl : xs.length ≤ 16777216) (s : ∀ x ∈ xs, ∀ (acc : List D) (K : List D → Env → Prop), acc.length < 16777216 → K (if p x = true then acc ++ [G x] else acc) r → g (.dat (F x)) r fun r1 => t noX r1 fun b r2 => if b = true then
      f noX r2 fun dv r3 => on1 dv.toD fun d => acc.length < 16777216 ∧ cl2 r3 own fun r4 => K (acc ++ [d]) r4
    else cl2 r2 own fun r4 => K acc r4) (q : Q ((xs.filter p).map G) r) : lcL own g t f (xs.map F) [] r Q := by
  have key : ∀ (xs : List α) (acc : List D), acc.length + xs.length ≤ 16777216 → (∀ x ∈ xs, ∀ (acc : List D) (K : List D → Env → Prop), acc.length < 16777216 → K (if p x = true then acc ++ [G x] else acc) r → g (.dat (F x)) r fun r1 => t noX r1 fun b r2 => if b = true then
      f noX r2 fun dv r3 => on1 dv.toD fun d => acc.length < 16777216 ∧ cl2 r3 own fun r4 => K (acc ++ [d]) r4
    else cl2 r2 own fun r4 => K acc r4) → Q (acc ++ (xs.filter p).map G) r → lcL own g t f (xs.map F) acc r Q := by
    intro xs
    induction xs with
    | nil => intro acc _ _ q; rw [List.filter_nil, List.map_nil, List.append_nil] at q; exact q
    | cons x xs ih =>
      intro acc hl s q
      rw [List.length_cons] at hl
      refine s x (List.mem_cons_self ..) acc (fun a r' => lcL own g t f (xs.map F) a r' Q) (by omega) ?_
      by_cases h : p x = true
      · rw [if_pos h]
        rw [List.filter_cons_of_pos h, List.map_cons] at q
        refine ih _ (by rw [List.length_append, List.length_singleton]; omega) (fun y hy => s y (List.mem_cons_of_mem _ hy)) ?_
        rw [List.append_assoc]
        exact q
      · rw [if_neg h]
        rw [List.filter_cons_of_neg h] at q
        exact ih _ (by omega) (fun y hy => s y (List.mem_cons_of_mem _ hy)) q
  exact key xs [] (by rw [List.length_nil]; omega) s q
end
section
variable {r : Env} {nx : Env → Prop} {rt : DV → Prop} {bk ct : Env → Prop} {ex : XW} {g : TG} {b : TS}
theorem forL_map {α : Type} {xs : List α} (F : α → D) (I : List α → Env → Prop) (h0 : I [] r) (s : ∀ pre x post r (k : Env → Prop), xs = pre ++ x :: post → I pre r → (∀ r', I (pre ++ [x]) r' → k r') → g (.dat (F x)) r fun r1 => b ⟨k, rt, nx, k, ex⟩ r1) (f : ∀ r, I xs r → nx r) : forL g b ⟨nx, rt, bk, ct, ex⟩ (xs.map F) r := by
  have key : ∀ (post pre : List α) (r : Env), xs = pre ++ post → I pre r → forL g b ⟨nx, rt, bk, ct, ex⟩ (post.map F) r := by
    intro post
    induction post with
    | nil => intro pre r e h; rw [List.append_nil] at e; subst e; exact f r h
    | cons x post ih =>
      intro pre r e h
      exact s pre x post r _ e h fun r' h' => ih (pre ++ [x]) r' (by rw [e, List.append_assoc]; rfl) h'
  exact key xs [] r rfl h0
theorem v_sWhile {t : TB} (W : Nat → Env → Prop) (m : Nat) (h0 : W m r) (h : ∀ m r, W m r → t ex r fun c r1 => if c = true then b ⟨fun r' => ∃ m', m' < m ∧ W m' r', rt, nx, fun r' => ∃ m', m' < m ∧ W m' r', ex⟩ r1 else nx r1) : sWhile t b ⟨nx, rt, bk, ct, ex⟩ r := ⟨W, ⟨m, h0⟩, h⟩
end
end DL

/-! DL: steps for raise, try, two fors, stars, x[i] = e, isinstance; data shown to be fine by their form. -/
namespace DL
open PySem
section
variable {X : XW} {r : Env} {nx : Env → Prop} {rt : DV → Prop} {bk ct : Env → Prop} {ex : XW}
/-! raise, try -/
theorem v_sRaise {x ns t} (h : t ex r fun vs r1 => onL (allD vs) fun ds => ds.length = ns.length ∧ ex ⟨x, (ns.zip ds).reverse⟩ r1) : sRaise x ns t ⟨nx, rt, bk, ct, ex⟩ r := h
def onEx (cs : List (Str × Bool)) (i : Nat) (h : SH) (rt : DV → Prop) (ex : XW) : XW := fun er r1 => match cs.lookup er.cls with
  | some true => i < r1.length ∧ h er rt
  | some false => ex er r1
  | none => False
theorem v_sTry {cs i p h} (q : p ⟨nx, rt, bk, ct, onEx cs i h rt ex⟩ r) : sTry cs i p h ⟨nx, rt, bk, ct, ex⟩ r := q
theorem v_onEx {cs : List (Str × Bool)} {i h er} (e : cs.lookup er.cls = some true) (hi : i < r.length) (q : h er rt) : onEx cs i h rt ex er r := by
  unfold onEx; rw [e]; exact ⟨hi, q⟩
theorem v_onExF {cs : List (Str × Bool)} {i h er} (e : cs.lookup er.cls = some false) (q : ex er r) : onEx cs i h rt ex er r := by
  unfold onEx; rw [e]; exact q
theorem v_hRetT {t er} (h : t er fun ds => ds.length ≤ 16777216 ∧ rt (.dat (.tuple ds))) : hRetT t er rt := h
theorem v_hNil {er} {Q : List D → Prop} (h : Q []) : hNil er Q := h
theorem v_hCons {g t er} {Q : List D → Prop} (h : g er fun d => t er fun ds => Q (d :: ds)) : hCons g t er Q := h
theorem v_hC {d er} {Q : D → Prop} (h : Q d) : hC d er Q := h
theorem v_hF {x f er d} {Q : D → Prop} (e : er.cls = x) (e2 : er.fs.lookup f = some d) (h : Q d) : hF x f er Q := ⟨e, d, e2, h⟩
/-! stars, two fors -/
def onTL (o : Option D) (k : List D → Prop) : Prop := match o with
  | some (.tuple ds) => k ds
  | some (.list ds) => k ds
  | _ => False
theorem v_onTLt {o ds} {k : List D → Prop} (e : o = some (.tuple ds)) (h : k ds) : onTL o k := by subst e; exact h
theorem v_onTLl {o ds} {k : List D → Prop} (e : o = some (.list ds)) (h : k ds) : onTL o k := by subst e; exact h
theorem v_aStar {f t} {Q : List DV → Env → Prop} (h : f X r fun dv r1 => onTL dv.toD fun ds => t X r1 fun vs r2 => Q (ds.map .dat ++ vs) r2) : aStar f t X r Q := h
theorem allD_dat : ∀ (ds : List D) (vs : List DV) (es : List D), allD vs = some es → allD (ds.map .dat ++ vs) = some (ds ++ es)
  | [], _, _, h => h
  | d :: ds, vs, es, h => by
    show (match allD (ds.map .dat ++ vs) with | some x => some (d :: x) | none => none) = _
    rw [allD_dat ds vs es h]
    rfl
theorem v_onLA {ds : List D} {vs : List DV} {es : List D} {k : List D → Prop} (e : allD vs = some es) (h : k (ds ++ es)) : onL (allD (ds.map .dat ++ vs)) k := by rw [allD_dat ds vs es e]; exact h
theorem v_xLc2 {vs vs1 s g t s1 g1 t1 f} {Q : DV → Env → Prop} (h : s X r fun ds r1 => (∀ i ∈ vs, notOwn r1 i) ∧ cl2 r1 vs fun r0 => lcL2 vs vs1 g t s1 g1 t1 f ds [] r0 fun acc r2 => bk2 r1 r2 vs fun r3 => Q (.own acc) r3) : xLc2 vs vs1 s g t s1 g1 t1 f X r Q := h
section
variable {vs vs1 : List Nat} {g g1 : TG} {t t1 : TB} {s1 : SX} {f : TX} {Q : List D → Env → Prop}
/-- a comprehension's loop from any list on -/
theorem lcL_acc {α : Type} {own : List Nat} {xs : List α} {acc : List D} (F : α → D) (G : α → List D) (hG : ∀ x ∈ xs, (G x).length ≤ 1) (hl : acc.length + xs.length ≤ 16777216) (s : ∀ x ∈ xs, ∀ (acc : List D) (K : List D → Env → Prop), acc.length < 16777216 → K (acc ++ G x) r → g (.dat (F x)) r fun r1 => t noX r1 fun b r2 => if b = true then
      f noX r2 fun dv r3 => on1 dv.toD fun d => acc.length < 16777216 ∧ cl2 r3 own fun r4 => K (acc ++ [d]) r4
    else cl2 r2 own fun r4 => K acc r4) (q : Q (acc ++ xs.flatMap G) r) : lcL own g t f (xs.map F) acc r Q := by
  induction xs generalizing acc with
  | nil => rw [List.flatMap_nil, List.append_nil] at q; exact q
  | cons x xs ih =>
    rw [List.length_cons] at hl
    have h1 := hG x (List.mem_cons_self ..)
    refine s x (List.mem_cons_self ..) acc (fun a r' => lcL own g t f (xs.map F) a r' Q) (by omega) ?_
    refine ih (fun y hy => hG y (List.mem_cons_of_mem _ hy)) (by rw [List.length_append]; omega) (fun y hy => s y (List.mem_cons_of_mem _ hy)) ?_
    rw [List.append_assoc]
    exact q
/-- two fors over what comes of a list: in each turn of the first a list of data comes -/
theorem lcL2_map {α : Type} {xs : List α} (F : α → D) (G : α → List D) (s : ∀ pre x post, xs = pre ++ x :: post → ∀ (K : List D → Env → Prop), K (pre.flatMap G ++ G x) r → g (.dat (F x)) r fun r1 => t noX r1 fun b r2 => if b = true then
      s1 noX r2 fun ds r3 => (∀ i ∈ vs1, notOwn r3 i) ∧ cl2 r3 vs1 fun r0 => lcL vs1 g1 t1 f ds (pre.flatMap G) r0 fun acc2 r4 => cl2 r4 vs fun r5 => K acc2 r5
    else cl2 r2 vs fun r5 => K (pre.flatMap G) r5) (q : Q (xs.flatMap G) r) : lcL2 vs vs1 g t s1 g1 t1 f (xs.map F) [] r Q := by
  have key : ∀ (post pre : List α), xs = pre ++ post → lcL2 vs vs1 g t s1 g1 t1 f (post.map F) (pre.flatMap G) r Q := by
    intro post
    induction post with
    | nil => intro pre e; rw [List.append_nil] at e; subst e; exact q
    | cons x post ih =>
      intro pre e
      refine s pre x post e (fun a r' => lcL2 vs vs1 g t s1 g1 t1 f (post.map F) a r' Q) ?_
      have := ih (pre ++ [x]) (by rw [e]; simp)
      rw [List.flatMap_append, List.flatMap_singleton] at this
      exact this
  exact key xs [] rfl
end
/-! x[i] = e, x[i] += e, d.get(k, e), d.setdefault(k, e) -/
def onIO (o : Option D) (p : Option DV) (k : Int → List D → Prop) : Prop := match o, p with
  | some (.int i), some (.own ds) => k i ds
  | _, _ => False
theorem v_onIO {o p i ds} {k : Int → List D → Prop} (e : o = some (.int i)) (f : p = some (.own ds)) (h : k i ds) : onIO o p k := by rw [e, f]; exact h
def exO (r : Env) (i : Nat) (k : Prop) : Prop := (∃ ds, sl r i = some (.own ds)) ∧ k
theorem v_exO {i ds} {k : Prop} (e : sl r i = some (.own ds)) (h : k) : exO r i k := ⟨⟨ds, e⟩, h⟩
theorem v_sSetI {i b f} (h : f ex r fun dv r1 => on1 dv.toD fun d => exO r1 i (b ex r1 fun g r2 => onIO (g r2) (sl r2 i) fun k ds => ∃ j, L2.ixN ds.length k = some j ∧ gN i (.own (ds.set j d)) r2 nx)) : sSetI i b f ⟨nx, rt, bk, ct, ex⟩ r := h
theorem v_sAugI {i op b c} (h : exO r i (b ex r fun g r1 => onIO (g r1) (sl r1 i) fun k ds => onI (L2.atI ds k) fun x => c ex r1 fun h r2 => onIO (h r2) (sl r2 i) fun y es => ∃ j, L2.ixN es.length k = some j ∧ gN i (.own (es.set j (.int (op x y)))) r2 nx)) : sAugI i op b c ⟨nx, rt, bk, ct, ex⟩ r := h
def onDD (o p : Option D) (q : Option DV) (k : D → D → List (D × D) → Prop) : Prop := match o, p, q with
  | some x, some y, some (.dct false kvs) => k x y kvs
  | _, _, _ => False
theorem v_onDD {o p q x y kvs} {k : D → D → List (D × D) → Prop} (e : o = some x) (f : p = some y) (g : q = some (.dct false kvs)) (h : k x y kvs) : onDD o p q k := by rw [e, f, g]; exact h
theorem v_xDGet2 {i b f kvs} {Q : DV → Env → Prop} (e : sl r i = some (.dct false kvs)) (h : b X r fun g r1 => f X r1 fun dv r2 => onDD (g r2) dv.toD (sl r2 i) fun k d kvs => keyD k ≠ none ∧ Q (.dat ((lookD kvs k).getD d)) r2) : xDGet2 i b f X r Q := ⟨⟨kvs, e⟩, h⟩
def onLk (o : Option D) (k : D → Prop) (l : Prop) : Prop := match o with
  | some e => k e
  | none => l
theorem v_onLkS {o e} {k : D → Prop} {l : Prop} (q : o = some e) (h : k e) : onLk o k l := by rw [q]; exact h
theorem v_onLkN {o} {k : D → Prop} {l : Prop} (q : o = none) (h : l) : onLk o k l := by rw [q]; exact h
theorem v_xDSetd {i b f kvs} {Q : DV → Env → Prop} (e : sl r i = some (.dct false kvs)) (h : b X r fun g r1 => f X r1 fun dv r2 => onDD (g r2) dv.toD (sl r2 i) fun k d kvs => keyD k ≠ none ∧ kvs.length < 16777216 ∧ onLk (lookD kvs k) (fun e => Q (.dat e) r2) (gN i (.dct false (putD kvs k d)) r2 fun r3 => Q (.dat d) r3)) : xDSetd i b f X r Q := ⟨⟨kvs, e⟩, h⟩
theorem v_mulII {a b : Int} {Q : DV → Prop} (h : mulOk a b ∧ Q (.dat (.int (a * b)))) : dMulI (.int a) (.int b) Q := h
theorem v_isTy {tn d} {Q : DV → Prop} (h : Q (.dat (.bool (isTy tn d)))) : dIsTy tn d Q := h
end
/-! all(..), any(..), sum(..), max(..) of what comes of a list -/
theorem boolsOf_of {α : Type} (p : α → Bool) : ∀ xs : List α, boolsOf (xs.map fun x => .bool (p x)) = some (xs.map p)
  | [] => rfl
  | x :: xs => by
    show (boolsOf (xs.map fun x => .bool (p x))).map (p x :: ·) = _
    rw [boolsOf_of p xs]
    rfl
theorem intsOf_of {α : Type} (p : α → Int) : ∀ xs : List α, intsOf (xs.map fun x => .int (p x)) = some (xs.map p)
  | [] => rfl
  | x :: xs => by
    show (intsOf (xs.map fun x => .int (p x))).map (p x :: ·) = _
    rw [intsOf_of p xs]
    rfl
theorem v_all {α : Type} {xs : List α} {p : α → Bool} {Q : DV → Prop} (h : Q (.dat (.bool (xs.all p)))) : nAll [.list (xs.map fun x => .bool (p x))] Q := by
  unfold nAll; simp only [boolsOf_of p xs]; rw [List.all_map]; exact h
theorem v_any {α : Type} {xs : List α} {p : α → Bool} {Q : DV → Prop} (h : Q (.dat (.bool (xs.any p)))) : nAny [.list (xs.map fun x => .bool (p x))] Q := by
  unfold nAny; simp only [boolsOf_of p xs]; rw [List.any_map]; exact h
theorem v_sum {α : Type} {xs : List α} {p : α → Int} {Q : DV → Prop} (h : Q (.dat (.int (xs.map p).sum))) : nSum [.list (xs.map fun x => .int (p x))] Q := by
  unfold nSum; simp only [intsOf_of p xs]; exact h
/-! fine by form -/
structure Fines (k w : Nat) (ds : List D) : Prop where
  lay : PyData.canLayAll0 ds = true
  dep : PyData.depthAll ds ≤ k
  wt : PyData.weightAll ds ≤ w
  sh : PyData.intsShortAll 50 ds = true
  sw : PyData.showableAll ds = true
theorem fins_nil : Fines 0 0 [] := ⟨rfl, Nat.le_refl _, Nat.le_refl _, rfl, rfl⟩
theorem fins_cons {k w k' w' : Nat} {d : D} {ds : List D} (h : Fine k w d) (hs : Fines k' w' ds) : Fines (max k k') (w + 1 + w') (d :: ds) := by
  refine ⟨?_, ?_, ?_, ?_, ?_⟩
  · simp only [PyData.canLayAll0, h.lay, hs.lay, Bool.and_self]
  · have a := h.dep; have b := hs.dep
    simp only [PyData.depthAll]
    omega
  · have a := h.wt; have b := hs.wt
    simp only [PyData.weightAll]
    omega
  · simp only [PyData.intsShortAll, h.sh, hs.sh, Bool.and_self]
  · simp only [PyData.showableAll, h.sw, hs.sw, Bool.and_self]
theorem fins_all {k w n : Nat} {xs : List D} (h : ∀ x ∈ xs, Fine k w x) (hn : xs.length ≤ n) : Fines k (n * (w + 1)) xs := by
  obtain ⟨a1, a2, a3, a4, a5⟩ := fin_all h
  have := Nat.mul_le_mul_right (w + 1) hn
  exact ⟨a1, a2, by omega, a4, a5⟩
theorem fins_map {α : Type} {k w n : Nat} {xs : List α} {F : α → D} (hn : xs.length ≤ n) (h : ∀ x ∈ xs, Fine k w (F x)) : Fines k (n * (w + 1)) (xs.map F) :=
  fins_all (fun y hy => by obtain ⟨x, hx, rfl⟩ := List.mem_map.mp hy; exact h x hx) (by rw [List.length_map]; exact hn)
theorem fins_app {k w k' w' : Nat} {ds es : List D} (h : Fines k w ds) (hs : Fines k' w' es) : Fines (max k k') (w + w') (ds ++ es) := by
  induction ds with
  | nil => exact ⟨hs.lay, by have := hs.dep; simp only [List.nil_append]; omega, by have := hs.wt; simp only [List.nil_append]; omega, hs.sh, hs.sw⟩
  | cons d ds ih =>
    have h1 : (d.canLay0 && PyData.canLayAll0 ds) = true := h.lay
    have h2 : max d.depth (PyData.depthAll ds) ≤ k := h.dep
    have h3 : d.weight + 1 + PyData.weightAll ds ≤ w := h.wt
    have h4 : (d.intsShort 50 && PyData.intsShortAll 50 ds) = true := h.sh
    have h5 : (d.showable && PyData.showableAll ds) = true := h.sw
    rw [Bool.and_eq_true] at h1 h4 h5
    have i := fun w0 (e : PyData.weightAll ds ≤ w0) => (show Fines k w0 ds from ⟨h1.2, by omega, e, h4.2, h5.2⟩)
    have key : ∀ ds : List D, PyData.canLayAll0 ds = true → PyData.depthAll ds ≤ k → PyData.intsShortAll 50 ds = true → PyData.showableAll ds = true → PyData.canLayAll0 (ds ++ es) = true ∧ PyData.depthAll (ds ++ es) ≤ max k k' ∧ PyData.weightAll (ds ++ es) = PyData.weightAll ds + PyData.weightAll es ∧ PyData.intsShortAll 50 (ds ++ es) = true ∧ PyData.showableAll (ds ++ es) = true := by
      intro ds
      induction ds with
      | nil =>
        intro _ _ _ _
        exact ⟨hs.lay, by have := hs.dep; simp only [List.nil_append]; omega, by simp [PyData.weightAll], hs.sh, hs.sw⟩
      | cons d ds ih =>
        intro a b c e
        simp only [PyData.canLayAll0, PyData.depthAll, PyData.intsShortAll, PyData.showableAll, Bool.and_eq_true] at a b c e
        obtain ⟨j1, j2, j3, j4, j5⟩ := ih a.2 (by omega) c.2 e.2
        simp only [List.cons_append, PyData.canLayAll0, PyData.depthAll, PyData.weightAll, PyData.intsShortAll, PyData.showableAll, Bool.and_eq_true]
        exact ⟨⟨a.1, j1⟩, by omega, by omega, ⟨c.1, j4⟩, e.1, j5⟩
    obtain ⟨j1, j2, j3, j4, j5⟩ := key (d :: ds) h.lay h.dep h.sh h.sw
    exact ⟨j1, j2, by have a := h.wt; have b := hs.wt; omega, j4, j5⟩
theorem fin_tup {k w : Nat} {ds : List D} (h : Fines k w ds) : Fine (k + 1) w (.tuple ds) := ⟨h.lay, by have := h.dep; show _ + 1 ≤ _; omega, h.wt, h.sh, h.sw⟩
theorem fin_lst {k w : Nat} {ds : List D} (h : Fines k w ds) : Fine (k + 1) w (.list ds) := ⟨h.lay, by have := h.dep; show _ + 1 ≤ _; omega, h.wt, h.sh, h.sw⟩
theorem fin_none0 : Fine 0 0 .none := fin_none
theorem fin_bool0 {b : Bool} : Fine 0 0 (.bool b) := fin_bool
theorem fin_int0 {i : Int} (h : i.natAbs < 10 ^ 12) : Fine 0 40 (.int i) := fin_int h (by decide)
/-- a small number -/
theorem fin_intw {i : Int} (n : Nat) (h : i.natAbs < 2 ^ n) (hn : n ≤ 160) : Fine 0 n (.int i) := fin_big n h hn (Nat.le_refl _)
theorem fin_lit (x : Str) (h : PyData.strOk x = true := by decide +kernel) : Fine 0 x.length (.str x) := fin_str h (Nat.le_refl _)
theorem rangeL0 (n : Int) : rangeL 0 n = (List.range n.toNat).map fun k => PyData.int ((k : Nat) : Int) := by
  unfold rangeL
  rw [Int.sub_zero]
  refine List.map_congr_left fun k _ => ?_
  rw [Int.zero_add]
theorem zipD_map {α β : Type} (F : α → D) (G : β → D) (xs : List α) (ys : List β) : zipD (xs.map F) (ys.map G) = (xs.zip ys).map fun p => .tuple [F p.1, G p.2] := by
  unfold zipD
  rw [List.zip_map, List.map_map]
  rfl
theorem snoc_ind {α : Type} {P : List α → Prop} (h0 : P []) (h1 : ∀ xs x, P xs → P (xs ++ [x])) (xs : List α) : P xs := by
  have : ∀ ys : List α, P ys.reverse := by
    intro ys
    induction ys with
    | nil => exact h0
    | cons y ys ih => rw [List.reverse_cons]; exact h1 _ _ ih
  have := this xs.reverse
  rwa [List.reverse_reverse] at this
theorem v_neShown {k w : Nat} {d : D} {Q : DV → Prop} (f : Fine k w d) (h : Q (.dat (.bool false))) : dNe (.str d.shown) (.str d.shown) Q := by
  refine ⟨f.okS, f.okS, ?_⟩
  rw [show PyData.eqv (.str d.shown) (.str d.shown) = true from SeqAt.eqv_refl _ (strOk_shown _ f.lay)]
  exact h
theorem v_eqShown {k w : Nat} {d : D} {Q : DV → Prop} (f : Fine k w d) (h : Q (.dat (.bool true))) : dEq (.str d.shown) (.str d.shown) Q := by
  refine ⟨f.okS, f.okS, ?_⟩
  rw [show PyData.eqv (.str d.shown) (.str d.shown) = true from SeqAt.eqv_refl _ (strOk_shown _ f.lay)]
  exact h
theorem atI_last {α : Type} (pre : List α) (x : α) : L2.atI (pre ++ [x]) (-1) = some x := by
  unfold L2.atI L2.ixN
  rw [if_neg (by decide), if_pos (by rw [List.length_append, List.length_singleton]; omega)]
  show (pre ++ [x])[((-1 : Int) + ((pre ++ [x]).length : Nat)).toNat]? = some x
  have e : ((-1 : Int) + ((pre ++ [x]).length : Nat)).toNat = pre.length := by rw [List.length_append, List.length_singleton]; omega
  rw [e]
  simp
end DL

/-! Pools as the laws draw them, apart from any law: what a kind is made of, who asks whom, whole lines, positions. -/
namespace DL
open PySem
theorem eqv_str {a b : Str} : PyData.eqv (.str a) (.str b) = decide (a = b) := by
  show (a == b) = _
  by_cases h : a = b
  · subst h; simp
  · simp [h]
structure Kd where
  name : Str
  line : List (Str × Int)
  ask : Str
abbrev claimD (c : Str × Int) : D := .tuple [.str c.1, .int c.2]
abbrev kindD (k : Kd) : D := .tuple [.str k.name, .tuple (k.line.map claimD), .str k.ask]
abbrev roomD (r : Str × Int × Bool) : D := .tuple [.str r.1, .int r.2.1, .bool r.2.2]
abbrev poolD (rs : List (Str × Int × Bool)) (ks : List Kd) : D := .tuple [.tuple (rs.map roomD), .tuple (ks.map kindD)]
section
variable {rs : List (Str × Int × Bool)} {ks : List Kd} {Q : DV → Prop} {E : Err → Prop}
def Nth (l : List Str) (z : Str) (i : Nat) : Prop := l[i]? = some z ∧ ∀ m, m < i → l[m]? ≠ some z
theorem nth_fn {l : List Str} {z : Str} {i j : Nat} (h1 : Nth l z i) (h2 : Nth l z j) : i = j := by
  by_cases h : i < j
  · exact absurd h1.1 (h2.2 i h)
  · by_cases h' : j < i
    · exact absurd h2.1 (h1.2 j h')
    · omega
theorem nth_mem {l : List Str} {z : Str} (h : z ∈ l) : ∃ i, Nth l z i := by
  induction l with
  | nil => cases h
  | cons x l ih =>
    by_cases e : x = z
    · subst e
      exact ⟨0, rfl, fun m hm => by omega⟩
    · rcases List.mem_cons.mp h with rfl | h
      · exact absurd rfl e
      · obtain ⟨i, a, b⟩ := ih h
        refine ⟨i + 1, a, fun m hm => ?_⟩
        cases m with
        | zero => intro z'; exact e (Option.some.inj z')
        | succ m => exact b m (by omega)
theorem isIn_str {z : Str} : ∀ {l : List Str}, isIn (.str z) (l.map .str) = decide (z ∈ l)
  | [] => rfl
  | x :: l => by
    show (PyData.eqv (.str x) (.str z) || isIn (.str z) (l.map .str)) = _
    rw [isIn_str (l := l)]
    have e : PyData.eqv (.str x) (.str z) = decide (x = z) := by
      show (x == z) = _
      by_cases h : x = z
      · subst h; simp
      · simp [h]
    rw [e]
    by_cases h : x = z
    · subst h; simp
    · have h' : ¬ z = x := fun q => h q.symm
      simp [h, h']
theorem all_flat_str : ∀ (l : List Str), (l.map PyData.str).all flatD = true
  | [] => rfl
  | x :: l => by rw [List.map_cons, List.all_cons, all_flat_str l]; rfl
theorem v_notIn {z : Str} {l : List Str} {Q : DV → Prop} (h : Q (.dat (.bool (!decide (z ∈ l))))) : dNotIn4 (.str z) (.tuple (l.map .str)) Q := by
  refine .inr ⟨rfl, all_flat_str l, ?_⟩
  rw [isIn_str]
  exact h
structure KdOk (k : Kd) : Prop where
  nm : PyData.strOk k.name = true ∧ k.name.length ≤ 20
  nz : k.name ≠ ""
  ak : PyData.strOk k.ask = true ∧ k.ask.length ≤ 20
  ll : k.line.length ≤ 3
  cl : ∀ c ∈ k.line, PyData.strOk c.1 = true ∧ c.1.length ≤ 20 ∧ c.2.natAbs < 10 ^ 12
theorem kind_fine {k : Kd} (h : KdOk k) : Fine 3 800 (kindD k) := by
  have hc : ∀ x ∈ k.line.map claimD, Fine 1 82 x := fun x hx => by
    obtain ⟨c, hc, rfl⟩ := List.mem_map.mp hx
    obtain ⟨h1, h2, h3⟩ := h.cl c hc
    refine fin_tuple (k := 0) (w := 40) (n := 2) (fun y hy => ?_) (Nat.le_refl _) (by decide)
    simp only [List.mem_cons, List.not_mem_nil, or_false] at hy
    rcases hy with rfl | rfl
    · exact fin_str h1 (by omega)
    · exact fin_int h3 (by decide)
  have hl : Fine 2 249 (.tuple (k.line.map claimD)) := fin_tuple (n := 3) hc (by rw [List.length_map]; exact h.ll) (by decide)
  refine fin_tuple (k := 2) (w := 249) (n := 3) (fun y hy => ?_) (Nat.le_refl _) (by decide)
  simp only [List.mem_cons, List.not_mem_nil, or_false] at hy
  rcases hy with rfl | rfl | rfl
  · exact fin_str h.nm.1 (by have := h.nm.2; omega)
  · exact hl
  · exact fin_str h.ak.1 (by have := h.ak.2; omega)
theorem kinds_fine {l : List Kd} (h : ∀ k ∈ l, KdOk k) (hl : l.length ≤ 100) : Fine 4 80100 (.list (l.map kindD)) :=
  fin_list (n := 100) (fun x hx => by
    obtain ⟨k, hk, rfl⟩ := List.mem_map.mp hx
    exact kind_fine (h k hk)) (by rw [List.length_map]; exact hl) (by decide)
theorem eqv_kind {k k' : Kd} (h : k.name ≠ k'.name) : PyData.eqv (kindD k) (kindD k') = false := by
  show (PyData.eqv (.str k.name) (.str k'.name) && _) = false
  rw [eqv_str, decide_eq_false h]
  rfl
theorem isIn_kind {k : Kd} : ∀ {l : List Kd}, k.name ∉ l.map (·.name) → isIn (kindD k) (l.map kindD) = false
  | [], _ => rfl
  | x :: l, h => by
    rw [List.map_cons, List.mem_cons, not_or] at h
    show (PyData.eqv (kindD x) (kindD k) || isIn (kindD k) (l.map kindD)) = false
    rw [isIn_kind h.2, eqv_kind (fun z => h.1 z.symm)]
    rfl
inductive Chain (ks : List Kd) : Kd → List Kd → Prop
  | last {k : Kd} : k.ask = "" → Chain ks k [k]
  | more {k k' : Kd} {i : Nat} {l : List Kd} : k.ask ≠ "" → Nth (ks.map (·.name)) k.ask i → ks[i]? = some k' → Chain ks k' l → Chain ks k (k :: l)
theorem Chain.head {ks : List Kd} {k : Kd} {l : List Kd} (h : Chain ks k l) : ∃ t, l = k :: t := by
  cases h with
  | last => exact ⟨_, rfl⟩
  | more => exact ⟨_, rfl⟩
def ixOf (l : List Str) (z : Str) : Nat := l.findIdx fun x => decide (x = z)
theorem nth_ix {z : Str} : ∀ {l : List Str}, z ∈ l → Nth l z (ixOf l z)
  | x :: l, h => by
    by_cases e : x = z
    · subst e
      have : ixOf (x :: l) x = 0 := by unfold ixOf; rw [List.findIdx_cons]; simp
      rw [this]
      exact ⟨rfl, fun m hm => by omega⟩
    · have e2 : ixOf (x :: l) z = ixOf l z + 1 := by unfold ixOf; rw [List.findIdx_cons]; simp [e]
      rw [e2]
      rcases List.mem_cons.mp h with rfl | h
      · exact absurd rfl e
      obtain ⟨a, b⟩ := nth_ix h
      refine ⟨a, fun m hm => ?_⟩
      cases m with
      | zero => intro q; exact e (Option.some.inj q)
      | succ m => exact b m (by omega)
  | [], h => by cases h
theorem nodup_ix {l : List Str} (hn : l.Nodup) {i j : Nat} {z : Str} (h1 : l[i]? = some z) (h2 : l[j]? = some z) : i = j := by
  obtain ⟨a, b⟩ := List.getElem?_eq_some_iff.mp h1
  exact (List.getElem?_inj a hn).mp (h1.trans h2.symm)
theorem nth_of {l : List Str} (hn : l.Nodup) {i : Nat} {z : Str} (h : l[i]? = some z) : Nth l z i := ⟨h, fun m hm q => by
  have := nodup_ix hn h q
  omega⟩
structure PoolOk (rs : List (Str × Int × Bool)) (ks : List Kd) : Prop where
  rl : rs.length ≤ 12
  kl : ks.length ≤ 12
  rn : (rs.map (·.1)).Nodup
  kn : (ks.map (·.name)).Nodup
  ok : ∀ k ∈ ks, KdOk k
  ll : ∀ k ∈ ks, k.line.length ≤ 3
  rooms : ∀ k ∈ ks, ∀ c ∈ k.line, c.1 ∈ rs.map (·.1) ∧ 1 ≤ c.2 ∧ c.2 ≤ 9
  acyc : ∀ (i : Nat) (k : Kd), ks[i]? = some k → k.ask = "" ∨ ∃ j, j < i ∧ (ks.map (·.name))[j]? = some k.ask
  rok : ∀ r ∈ rs, PyData.strOk r.1 = true ∧ r.1.length ≤ 20 ∧ 0 ≤ r.2.1 ∧ r.2.1 ≤ 1000
  l1 : ∀ k ∈ ks, 1 ≤ k.line.length
def chainF (ks : List Kd) : Nat → Kd → List Kd
  | 0, k => [k]
  | n + 1, k => if k.ask = "" then [k] else match ks.find? (fun x => decide (x.name = k.ask)) with
    | some k' => k :: chainF ks n k'
    | none => [k]
theorem find_name {ks : List Kd} (hn : (ks.map (·.name)).Nodup) {j : Nat} {k' : Kd} {z : Str} (hk : ks[j]? = some k') (hz : k'.name = z) : ks.find? (fun x => decide (x.name = z)) = some k' := by
  cases e : ks.find? (fun x => decide (x.name = z)) with
  | none =>
    rw [List.find?_eq_none] at e
    exact absurd (decide_eq_true hz) (e k' (List.mem_of_getElem? hk))
  | some y =>
    have h1 := List.find?_some e
    have h2 := List.mem_of_find?_eq_some e
    obtain ⟨m, hm⟩ := List.getElem?_of_mem h2
    have h3 : y.name = z := of_decide_eq_true h1
    have : m = j := nodup_ix hn (z := z) (by rw [List.getElem?_map, hm, ← h3]; rfl) (by rw [List.getElem?_map, hk, ← hz]; rfl)
    subst this
    rw [hm] at hk
    exact hk
theorem chainF_ok {rs : List (Str × Int × Bool)} {ks : List Kd} (P : PoolOk rs ks) : ∀ (n i : Nat) (k : Kd), ks[i]? = some k → i ≤ n → Chain ks k (chainF ks n k) ∧ (∀ x ∈ chainF ks n k, ∃ j, j ≤ i ∧ ks[j]? = some x) ∧ ((chainF ks n k).map (·.name)).Nodup ∧ (chainF ks n k).length ≤ i + 1 := by
  have one : ∀ (i : Nat) (k : Kd), ks[i]? = some k → k.ask = "" → Chain ks k [k] ∧ (∀ x ∈ [k], ∃ j, j ≤ i ∧ ks[j]? = some x) ∧ (([k] : List Kd).map (·.name)).Nodup ∧ ([k] : List Kd).length ≤ i + 1 := fun i k hk ha =>
    ⟨.last ha, fun x hx => ⟨i, Nat.le_refl _, by rw [List.mem_singleton.mp hx]; exact hk⟩, by simp, by simp⟩
  intro n
  induction n with
  | zero =>
    intro i k hk hi
    rcases P.acyc i k hk with ha | ⟨j, hj, _⟩
    · exact one i k hk ha
    · omega
  | succ n ih =>
    intro i k hk hi
    by_cases ha : k.ask = ""
    · have e : chainF ks (n + 1) k = [k] := by show (if k.ask = "" then _ else _) = _; rw [if_pos ha]
      rw [e]
      exact one i k hk ha
    · rcases P.acyc i k hk with ha' | ⟨j, hj, hn⟩
      · exact absurd ha' ha
      rw [List.getElem?_map] at hn
      cases hkj : ks[j]? with
      | none => rw [hkj] at hn; cases hn
      | some k' =>
        rw [hkj] at hn
        have hz : k'.name = k.ask := Option.some.inj hn
        have e : chainF ks (n + 1) k = k :: chainF ks n k' := by
          show (if k.ask = "" then _ else _) = _
          rw [if_neg ha, find_name P.kn hkj hz]
        rw [e]
        obtain ⟨c1, c2, c3, c4⟩ := ih j k' hkj (by omega)
        have hnth : Nth (ks.map (·.name)) k.ask j := nth_of P.kn (by rw [List.getElem?_map, hkj]; exact congrArg some hz)
        refine ⟨.more ha hnth hkj c1, fun x hx => ?_, ?_, by rw [List.length_cons]; omega⟩
        · rcases List.mem_cons.mp hx with rfl | hx
          · exact ⟨i, Nat.le_refl _, hk⟩
          · obtain ⟨m, hm, e⟩ := c2 x hx
            exact ⟨m, by omega, e⟩
        · rw [List.map_cons, List.nodup_cons]
          refine ⟨fun hm => ?_, c3⟩
          obtain ⟨x, hx, ex⟩ := List.mem_map.mp hm
          obtain ⟨m, hm, e⟩ := c2 x hx
          have : m = i := nodup_ix P.kn (z := k.name) (by rw [List.getElem?_map, e, ← ex]; rfl) (by rw [List.getElem?_map, hk]; rfl)
          omega
def ch (ks : List Kd) (k : Kd) : List Kd := chainF ks ks.length k
def flat (ks : List Kd) (k : Kd) : List (Str × Int) := (ch ks k).flatMap Kd.line
abbrev ixD (rs : List (Str × Int × Bool)) (c : Str × Int) : D := .tuple [.int ((ixOf (rs.map (·.1)) c.1 : Nat) : Int), .int c.2]
theorem ch_ok (P : PoolOk rs ks) {i : Nat} {k : Kd} (hk : ks[i]? = some k) : Chain ks k (ch ks k) ∧ (∀ x ∈ ch ks k, x ∈ ks) ∧ ((ch ks k).map (·.name)).Nodup ∧ (ch ks k).length ≤ ks.length := by
  have hi := (List.getElem?_eq_some_iff.mp hk).1
  obtain ⟨a, b, c, d⟩ := chainF_ok P ks.length i k hk (by omega)
  exact ⟨a, fun x hx => let ⟨j, _, e⟩ := b x hx; List.mem_of_getElem? e, c, by show (chainF ks ks.length k).length ≤ _; omega⟩
theorem flat_len (P : PoolOk rs ks) {l : List Kd} (h : ∀ x ∈ l, x ∈ ks) : (l.flatMap Kd.line).length ≤ 3 * l.length := by
  induction l with
  | nil => simp
  | cons x l ih =>
    have h1 := P.ll x (h x (List.mem_cons_self ..))
    have h2 := ih fun y hy => h y (List.mem_cons_of_mem _ hy)
    rw [List.flatMap_cons, List.length_append, List.length_cons]
    omega
theorem flat_mem (P : PoolOk rs ks) {i : Nat} {k : Kd} (hk : ks[i]? = some k) {c : Str × Int} (hc : c ∈ flat ks k) : c.1 ∈ rs.map (·.1) ∧ 1 ≤ c.2 ∧ c.2 ≤ 9 := by
  obtain ⟨x, hx, hc⟩ := List.mem_flatMap.mp hc
  exact P.rooms x ((ch_ok P hk).2.1 x hx) c hc
theorem kind_at (P : PoolOk rs ks) {i : Nat} {k : Kd} (hk : ks[i]? = some k) : Nth (ks.map (·.name)) k.name i := nth_of P.kn (by rw [List.getElem?_map, hk]; rfl)
abbrev posD (p : Kd × Nat) : D := .tuple [.str p.1.name, .int ((p.2 : Nat) : Int)]
def posOf (ks : List Kd) (k : Kd) : List (Kd × Nat) := (List.range (flat ks k).length).map fun q => (k, q)
def posL (ks l : List Kd) : List (Kd × Nat) := l.flatMap (posOf ks)
theorem pos_mem {ks l : List Kd} {p : Kd × Nat} (h : p ∈ posL ks l) : p.1 ∈ l ∧ p.2 < (flat ks p.1).length := by
  obtain ⟨k, hk, hp⟩ := List.mem_flatMap.mp h
  unfold posOf at hp
  obtain ⟨q, hq, rfl⟩ := List.mem_map.mp hp
  exact ⟨hk, List.mem_range.mp hq⟩
theorem posOf_len {ks : List Kd} {k : Kd} : (posOf ks k).length = (flat ks k).length := by
  unfold posOf
  rw [List.length_map, List.length_range]
theorem flat_le (P : PoolOk rs ks) {i : Nat} {k : Kd} (hk : ks[i]? = some k) : (flat ks k).length ≤ 36 := by
  obtain ⟨_, c2, _, c4⟩ := ch_ok P hk
  have := flat_len P c2
  have := P.kl
  show ((ch ks k).flatMap Kd.line).length ≤ 36
  omega
theorem posL_le (P : PoolOk rs ks) : ∀ {l : List Kd}, (∀ x ∈ l, x ∈ ks) → (posL ks l).length ≤ 36 * l.length
  | [], _ => by simp [posL]
  | x :: l, h => by
    have ih := posL_le P (l := l) fun y hy => h y (List.mem_cons_of_mem _ hy)
    obtain ⟨i, hi⟩ := List.getElem?_of_mem (h x (List.mem_cons_self ..))
    have := flat_le P hi
    show ((posOf ks x) ++ posL ks l).length ≤ _
    rw [List.length_append, posOf_len, List.length_cons]
    omega
theorem posD_range (k : Kd) (n : Nat) : (rangeL 0 ((n : Nat) : Int)) = (List.range n).map fun q => PyData.int ((q : Nat) : Int) := by
  unfold rangeL
  rw [Int.sub_zero, Int.toNat_natCast]
  refine List.map_congr_left fun q _ => ?_
  rw [Int.zero_add]
def clm (ks : List Kd) (p : Kd × Nat) : Str × Int := ((flat ks p.1)[p.2]?).getD ("", 0)
theorem clm_at {ks : List Kd} {p : Kd × Nat} (h : p.2 < (flat ks p.1).length) : (flat ks p.1)[p.2]? = some (clm ks p) := by
  unfold clm
  rw [List.getElem?_eq_getElem h]
  rfl
def rowAt (row : List Int) (i : Nat) : Int := (row[i]?).getD 0
theorem row_get {rs : List (Str × Int × Bool)} {row : List Int} (hr : row.length = rs.length) {z : Str} (hz : z ∈ rs.map (·.1)) : L2.atI (row.map PyData.int) ((ixOf (rs.map (·.1)) z : Nat) : Int) = some (.int (rowAt row (ixOf (rs.map (·.1)) z))) := by
  have h := (nth_ix hz).1
  have hl := (List.getElem?_eq_some_iff.mp h).1
  rw [List.length_map] at hl
  refine L2.atI_nat ?_
  rw [List.getElem?_map]
  unfold rowAt
  rw [List.getElem?_eq_getElem (by omega)]
  rfl
theorem clm_ok (P : PoolOk rs ks) {p : Kd × Nat} (hp : p.1 ∈ ks) (h : p.2 < (flat ks p.1).length) : (clm ks p).1 ∈ rs.map (·.1) ∧ 1 ≤ (clm ks p).2 ∧ (clm ks p).2 ≤ 9 := by
  obtain ⟨i, hi⟩ := List.getElem?_of_mem hp
  exact flat_mem P hi (List.mem_of_getElem? (clm_at h))
theorem erase_perm {α : Type} : ∀ (l : List α) (j : Nat) (h : j < l.length), (l[j] :: l.eraseIdx j).Perm l
  | x :: l, 0, _ => .refl _
  | x :: l, j + 1, h => by
    have h' : j < l.length := Nat.lt_of_succ_lt_succ h
    exact (List.Perm.swap x l[j] (l.eraseIdx j)).trans (.cons x (erase_perm l j h'))
theorem erase_map {α β : Type} (f : α → β) : ∀ (l : List α) (j : Nat), (l.map f).eraseIdx j = (l.eraseIdx j).map f
  | [], _ => rfl
  | _ :: _, 0 => rfl
  | x :: l, j + 1 => congrArg (f x :: ·) (erase_map f l j)
def names12 : List Str := ["a", "b", "c", "d", "q", "zz", "ab", "abcdefgh", "pipe", "disks", "asks", "go"]
theorem n12 : ∀ z ∈ names12, PyData.strOk z = true ∧ z.length ≤ 20 ∧ z ≠ "" := by decide +kernel
theorem n12n : names12.Nodup := by decide +kernel
theorem claims_of {R : Str × Int → Prop} : ∀ {ys : List D}, (∀ y ∈ ys, ∃ c, y = claimD c ∧ R c) → ∃ cs : List (Str × Int), ys = cs.map claimD ∧ ∀ c ∈ cs, R c
  | [], _ => ⟨[], rfl, fun _ h => by cases h⟩
  | y :: r, h => by
    obtain ⟨c, rfl, hc⟩ := h y (List.mem_cons_self ..)
    obtain ⟨cs, rfl, hcs⟩ := claims_of (ys := r) fun z hz => h z (List.mem_cons_of_mem _ hz)
    refine ⟨c :: cs, rfl, fun d hd => ?_⟩
    rcases List.mem_cons.mp hd with rfl | hd
    · exact hc
    · exact hcs d hd
theorem look_put {kvs : List (D × D)} {k d : D} {k' : D} (hk : keyD k ≠ none) : lookD (putD kvs k d) k' = if keyD k = keyD k' then some d else lookD kvs k' := by
  have setL : ∀ kvs : List (D × D), lookD (kvs.map fun p => if keyD p.1 = keyD k then (p.1, d) else p) k' = if (keyD k = keyD k' ∧ (kvs.any fun p => decide (keyD p.1 = keyD k)) = true) then some d else lookD kvs k' := by
    intro kvs
    induction kvs with
    | nil => simp [lookD]
    | cons p r ih =>
      unfold lookD at ih ⊢
      rw [List.map_cons, List.any_cons]
      by_cases h1 : keyD p.1 = keyD k
      · rw [if_pos h1]
        by_cases h2 : keyD k = keyD k'
        · rw [List.find?_cons_of_pos (by simp [h1, h2])]
          simp [h1, h2]
        · rw [List.find?_cons_of_neg (by simp [h1, h2]), ih, List.find?_cons_of_neg (by simp [h1, h2])]
          simp [h2]
      · rw [if_neg h1]
        by_cases h3 : keyD p.1 = keyD k'
        · have h2 : ¬ keyD k = keyD k' := fun q => h1 (h3.trans q.symm)
          rw [List.find?_cons_of_pos (by simp [h3]), List.find?_cons_of_pos (by simp [h3])]
          simp [h2]
        · rw [List.find?_cons_of_neg (by simp [h3]), ih, List.find?_cons_of_neg (by simp [h3]), decide_eq_false h1, Bool.false_or]
  unfold putD
  by_cases h : (kvs.any fun p => decide (keyD p.1 = keyD k)) = true
  · rw [if_pos h, setL]
    simp [h]
  · rw [if_neg h]
    have h' : ∀ p ∈ kvs, ¬ keyD p.1 = keyD k := fun p hp q => h (List.any_eq_true.mpr ⟨p, hp, decide_eq_true q⟩)
    unfold lookD
    rw [List.find?_append]
    by_cases h2 : keyD k = keyD k'
    · have e : kvs.find? (fun p => decide (keyD p.1 = keyD k')) = none := by
        rw [List.find?_eq_none]
        intro p hp
        rw [← h2]
        simpa using h' p hp
      rw [e, if_pos h2]
      simp [List.find?, h2]
    · rw [if_neg h2]
      simp [List.find?, h2]
theorem put_len {kvs : List (D × D)} {k d : D} : (putD kvs k d).length ≤ kvs.length + 1 := by
  unfold putD
  split
  · rw [List.length_map]; omega
  · rw [List.length_append, List.length_singleton]; omega
structure Made (rn : List Str) (ks : List Kd) (kvs : List (D × D)) : Prop where
  ok : ∀ k ∈ ks, KdOk k
  ll : ∀ k ∈ ks, k.line.length ≤ 3
  rooms : ∀ k ∈ ks, ∀ c ∈ k.line, c.1 ∈ rn ∧ 1 ≤ c.2 ∧ c.2 ≤ 9
  acyc : ∀ (i : Nat) (k : Kd), ks[i]? = some k → k.ask = "" ∨ ∃ j, j < i ∧ (ks.map (·.name))[j]? = some k.ask
  look : ∀ z : Str, z = "" ∨ z ∈ ks.map (·.name) → ∃ n : Int, lookD kvs (.str z) = some (.int n)
  vl : kvs.length ≤ ks.length + 1
  l1 : ∀ k ∈ ks, 1 ≤ k.line.length
def lenOf (kvs : List (D × D)) (z : Str) : Int := match lookD kvs (.str z) with
  | some (.int n) => n
  | _ => 0
theorem Made.at {rn : List Str} {ks : List Kd} {kvs : List (D × D)} (M : Made rn ks kvs) {z : Str} (h : z = "" ∨ z ∈ ks.map (·.name)) : lookD kvs (.str z) = some (.int (lenOf kvs z)) := by
  obtain ⟨n, e⟩ := M.look z h
  unfold lenOf
  rw [e]
theorem Made.more {rn : List Str} {ks : List Kd} {kvs : List (D × D)} (M : Made rn ks kvs) {z a : Str} {cs : List (Str × Int)} {n : Int} (hz : PyData.strOk z = true ∧ z.length ≤ 20 ∧ z ≠ "") (hr : ∀ y ∈ rn, PyData.strOk y = true ∧ y.length ≤ 20)
    (hc0 : 1 ≤ cs.length) (hc : cs.length ≤ 3) (hcs : ∀ c ∈ cs, c.1 ∈ rn ∧ 1 ≤ c.2 ∧ c.2 ≤ 9) (ha : a = "" ∨ a ∈ ks.map (·.name)) : Made rn (ks ++ [⟨z, cs, a⟩]) (putD kvs (.str z) (.int n)) := by
  have hao : PyData.strOk a = true ∧ a.length ≤ 20 := by
    rcases ha with rfl | ha
    · exact ⟨strOk_of "", by decide +kernel⟩
    · obtain ⟨k, hk, rfl⟩ := List.mem_map.mp ha
      exact (M.ok k hk).nm
  have mem : ∀ {k : Kd}, k ∈ ks ++ [⟨z, cs, a⟩] → k ∈ ks ∨ k = ⟨z, cs, a⟩ := fun {k} h => by simpa using h
  refine ⟨fun k hk => ?_, fun k hk => ?_, fun k hk => ?_, fun i k hk => ?_, fun y hy => ?_, by have := M.vl; have := put_len (kvs := kvs) (k := .str z) (d := .int n); rw [List.length_append, List.length_singleton]; omega, fun k hk => ?_⟩
  · rcases mem hk with h | rfl
    · exact M.ok k h
    · exact ⟨⟨hz.1, hz.2.1⟩, hz.2.2, hao, hc, fun c hc' => by
        obtain ⟨h1, h2, h3⟩ := hcs c hc'
        exact ⟨(hr _ h1).1, (hr _ h1).2, by omega⟩⟩
  · rcases mem hk with h | rfl
    · exact M.ll k h
    · exact hc
  · rcases mem hk with h | rfl
    · exact M.rooms k h
    · exact hcs
  · by_cases hi : i < ks.length
    · rw [List.getElem?_append_left hi] at hk
      rcases M.acyc i k hk with h | ⟨j, hj, e⟩
      · exact .inl h
      · refine .inr ⟨j, hj, ?_⟩
        rw [List.map_append, List.getElem?_append_left (by rw [List.length_map]; omega)]
        exact e
    · have hil := (List.getElem?_eq_some_iff.mp hk).1
      rw [List.length_append, List.length_singleton] at hil
      have : i = ks.length := by omega
      subst this
      rw [List.getElem?_append_right (Nat.le_refl _), Nat.sub_self] at hk
      have hk' : (⟨z, cs, a⟩ : Kd) = k := Option.some.inj hk
      subst hk'
      rcases ha with ha | ha
      · exact .inl ha
      · obtain ⟨j, hj⟩ := List.getElem?_of_mem ha
        have hjl := (List.getElem?_eq_some_iff.mp hj).1
        rw [List.length_map] at hjl
        refine .inr ⟨j, hjl, ?_⟩
        rw [List.map_append, List.getElem?_append_left (by rw [List.length_map]; omega)]
        exact hj
  · rw [look_put (by intro q; cases q)]
    by_cases h : z = y
    · subst h
      exact ⟨n, if_pos rfl⟩
    · rw [if_neg (by intro q; exact h (by have := Option.some.inj q; exact Sum.inr.inj this))]
      refine M.look y ?_
      rcases hy with hy | hy
      · exact .inl hy
      · rw [List.map_append] at hy
        rcases List.mem_append.mp hy with hy | hy
        · exact .inr hy
        · exact absurd (List.mem_singleton.mp hy).symm h
  · rcases mem hk with h | rfl
    · exact M.l1 k h
    · exact hc0
theorem lcL_prj {r : Env} {own : List Nat} {g : TG} {t : TB} {f : TX} {Q : List D → Env → Prop} {α β : Type} {xs : List α} (F : α → D) (G : β → D) (p : β → α) (P : β → Prop) (hl : xs.length ≤ 16777216) (s : ∀ x ∈ xs, ∀ (acc : List D) (K : List D → Env → Prop), acc.length < 16777216 → (∀ b, p b = x → P b → K (acc ++ [G b]) r) → g (.dat (F x)) r fun r1 => t noX r1 fun b r2 => if b = true then
      f noX r2 fun dv r3 => on1 dv.toD fun d => acc.length < 16777216 ∧ cl2 r3 own fun r4 => K (acc ++ [d]) r4
    else cl2 r2 own fun r4 => K acc r4) (q : ∀ bs : List β, bs.map p = xs → (∀ b ∈ bs, P b) → Q (bs.map G) r) : lcL own g t f (xs.map F) [] r Q := by
  have key : ∀ (post pre : List α) (bs : List β), xs = pre ++ post → bs.map p = pre → (∀ b ∈ bs, P b) → lcL own g t f (post.map F) (bs.map G) r Q := by
    intro post
    induction post with
    | nil =>
      intro pre bs e hb hP
      rw [List.append_nil] at e
      exact q bs (hb.trans e.symm) hP
    | cons x post ih =>
      intro pre bs e hb hP
      have hbl : bs.length = pre.length := by rw [← hb, List.length_map]
      have hxl := congrArg List.length e
      rw [List.length_append, List.length_cons] at hxl
      refine s x (by rw [e]; simp) (bs.map G) (fun a r' => lcL own g t f (post.map F) a r' Q) (by rw [List.length_map]; omega) fun b h1 h2 => ?_
      have := ih (pre ++ [x]) (bs ++ [b]) (by rw [e]; simp) (by rw [List.map_append, hb, List.map_singleton, h1]) (fun c hc => by
        rcases List.mem_append.mp hc with h | h
        · exact hP c h
        · rw [List.mem_singleton.mp h]; exact h2)
      rw [List.map_append, List.map_singleton] at this
      exact this
  exact key xs [] [] rfl rfl fun _ h => by cases h
theorem strs_fine {l : List Str} (h : ∀ z ∈ l, PyData.strOk z = true ∧ z.length ≤ 20) (hl : l.length ≤ 100) : Fine 1 4100 (.list (l.map .str)) :=
  fin_list (k := 0) (w := 40) (n := 100) (fun x hx => by
    obtain ⟨z, hz, rfl⟩ := List.mem_map.mp hx
    exact fin_str (h z hz).1 (by have := (h z hz).2; omega)) (by rw [List.length_map]; exact hl) (by decide)
theorem room_fine {r : Str × Int × Bool} (h : PyData.strOk r.1 = true ∧ r.1.length ≤ 20 ∧ 0 ≤ r.2.1 ∧ r.2.1 ≤ 1000) : Fine 1 126 (roomD r) :=
  fin_tuple (k := 0) (w := 41) (n := 3) (fun y hy => by
    simp only [List.mem_cons, List.not_mem_nil, or_false] at hy
    rcases hy with rfl | rfl | rfl
    · exact fin_str h.1 (by omega)
    · exact fin_int (by omega) (by decide)
    · exact fin_bool.mono (Nat.zero_le _) (Nat.zero_le _)) (Nat.le_refl _) (by decide)
theorem pool_fine (P : PoolOk rs ks) : Fine 5 20000 (poolD rs ks) := by
  have h1 : Fine 2 1600 (.tuple (rs.map roomD)) := fin_tuple (n := 12) (fun x hx => by
    obtain ⟨r, hr, rfl⟩ := List.mem_map.mp hx
    exact room_fine (P.rok r hr)) (by rw [List.length_map]; exact P.rl) (by decide)
  have h2 : Fine 4 9700 (.tuple (ks.map kindD)) := fin_tuple (n := 12) (fun x hx => by
    obtain ⟨k, hk, rfl⟩ := List.mem_map.mp hx
    exact kind_fine (P.ok k hk)) (by rw [List.length_map]; exact P.kl) (by decide)
  refine fin_tuple (k := 4) (w := 9700) (n := 2) (fun y hy => ?_) (Nat.le_refl _) (by decide)
  simp only [List.mem_cons, List.not_mem_nil, or_false] at hy
  rcases hy with rfl | rfl
  · exact h1.mono (by decide) (by decide)
  · exact h2
end
end DL

/-! vectors; what is held of a line -/
namespace DL
open PySem
abbrev vecD (v : List Int) : D := .tuple (v.map .int)
def plusL (a b : List Int) : List Int := (a.zip b).map fun p => p.1 + p.2
def minusL (a b : List Int) : List Int := (a.zip b).map fun p => p.1 - p.2
def withinL (a b : List Int) : Bool := (a.zip b).all fun p => decide (p.1 ≤ p.2)
theorem flt_none {α : Type} {xs : List α} {p q : α → Bool} (h : ∀ x ∈ xs, p x = !q x) : PyData.eqv (.list ((xs.filter p).map fun _ => PyData.int 1)) (.list []) = xs.all q := by
  induction xs with
  | nil => rfl
  | cons x xs ih =>
    have hx := h x (List.mem_cons_self ..)
    have ih := ih fun y hy => h y (List.mem_cons_of_mem _ hy)
    cases e : q x with
    | true =>
      rw [e] at hx
      rw [List.filter_cons_of_neg (by rw [hx]; decide), ih, List.all_cons, e, Bool.true_and]
    | false =>
      rw [e] at hx
      rw [List.filter_cons_of_pos (by rw [hx]; decide), List.all_cons, e, Bool.false_and]
      rfl
theorem ints_ofR {R : Int → Prop} : ∀ {ys : List D}, (∀ y ∈ ys, ∃ i, y = .int i ∧ R i) → ∃ is : List Int, ys = is.map .int ∧ ∀ i ∈ is, R i
  | [], _ => ⟨[], rfl, fun _ h => by cases h⟩
  | y :: r, h => by
    obtain ⟨c, rfl, hc⟩ := h y (List.mem_cons_self ..)
    obtain ⟨cs, rfl, hcs⟩ := ints_ofR (ys := r) fun z hz => h z (List.mem_cons_of_mem _ hz)
    refine ⟨c :: cs, rfl, fun d hd => ?_⟩
    rcases List.mem_cons.mp hd with rfl | hd
    · exact hc
    · exact hcs d hd
theorem vec_fine {v : List Int} {n w : Nat} (hw : w ≤ 160) (h : ∀ i ∈ v, i.natAbs < 2 ^ w) (hl : v.length ≤ n) : Fine 1 (n * (w + 1)) (vecD v) := fin_tup (fins_map hl fun i hi => fin_intw w (h i hi) hw)
theorem within_self (a : List Int) : withinL a a = true := by
  unfold withinL
  rw [List.all_eq_true]
  intro p hp
  have : ∀ (a : List Int), ∀ p ∈ a.zip a, p.1 = p.2 := by
    intro a
    induction a with
    | nil => intro p hp; simp at hp
    | cons x a ih =>
      intro p hp
      rw [List.zip_cons_cons] at hp
      rcases List.mem_cons.mp hp with rfl | hp
      · rfl
      · exact ih p hp
  rw [decide_eq_true_eq, this a p hp]
  exact Int.le_refl _

theorem ixN_at {n j : Nat} (hj : j < n) : L2.ixN n ((j : Nat) : Int) = some j := by
  unfold L2.ixN
  rw [if_pos (by omega), if_pos (by omega)]
  simp
theorem cut_drop {α : Type} {xs : List α} {F : α → PyData} (m : Nat) : cutD (xs.map F) (some ((m : Nat) : Int)) none = (xs.drop m).map F := by
  unfold cutD
  rw [HT.sIx_nat, HT.sIx_none, List.take_of_length_le (by rw [List.length_drop]; omega), List.length_map, ← List.map_drop]
  by_cases h : m ≤ xs.length
  · rw [Nat.min_eq_left h]
  · rw [Nat.min_eq_right (by omega), List.drop_of_length_le (Nat.le_refl _), List.drop_of_length_le (by omega)]
theorem zip_same {α β γ : Type} (f : α → β) (g : α → γ) : ∀ l : List α, (l.map f).zip (l.map g) = l.map fun a => (f a, g a)
  | [] => rfl
  | x :: l => by rw [List.map_cons, List.map_cons, List.zip_cons_cons, zip_same f g l, List.map_cons]
def cellSum (cs : List (Nat × Int)) (k : Nat) : Int := ((cs.filter fun c => decide (c.1 = k)).map (·.2)).sum
def heldL (n : Nat) (cs : List (Nat × Int)) : List Int := (List.range n).map (cellSum cs)
abbrev icD (c : Nat × Int) : D := .tuple [.int ((c.1 : Nat) : Int), .int c.2]
theorem cellSum_app (a b : List (Nat × Int)) (k : Nat) : cellSum (a ++ b) k = cellSum a k + cellSum b k := by
  unfold cellSum
  rw [List.filter_append, List.map_append, List.sum_append]
theorem cellSum_one (i : Nat) (u : Int) (k : Nat) : cellSum [(i, u)] k = if k = i then u else 0 := by
  unfold cellSum
  by_cases h : k = i
  · subst h; simp
  · have h' : ¬ i = k := fun q => h q.symm
    simp [h, h']
theorem heldL_len (n : Nat) (cs : List (Nat × Int)) : (heldL n cs).length = n := by unfold heldL; rw [List.length_map, List.length_range]
theorem heldL_zero (n : Nat) : (List.replicate n [PyData.int 0]).flatten = (heldL n []).map .int := by
  rw [List.flatten_replicate_singleton]
  unfold heldL
  rw [List.map_map, show (PyData.int ∘ cellSum []) = fun _ => PyData.int 0 from rfl, List.map_const', List.length_range]
theorem heldL_app (n : Nat) (a b : List (Nat × Int)) : plusL (heldL n a) (heldL n b) = heldL n (a ++ b) := by
  unfold plusL heldL
  rw [zip_same, List.map_map]
  exact List.map_congr_left fun k _ => (cellSum_app a b k).symm
theorem heldL_sub (n : Nat) (a b : List (Nat × Int)) : minusL (heldL n (a ++ b)) (heldL n a) = heldL n b := by
  unfold minusL heldL
  rw [zip_same, List.map_map]
  refine List.map_congr_left fun k _ => ?_
  show cellSum (a ++ b) k - cellSum a k = _
  rw [cellSum_app]; omega
theorem heldL_one (n i : Nat) (u : Int) : ((List.range n).map fun k => if k = i then u else 0) = heldL n [(i, u)] := List.map_congr_left fun k _ => (cellSum_one i u k).symm
theorem heldL_get {n i : Nat} (a : List (Nat × Int)) (h : i < n) : L2.atI ((heldL n a).map PyData.int) ((i : Nat) : Int) = some (.int (cellSum a i)) := by
  refine L2.atI_nat ?_
  unfold heldL
  rw [List.map_map, List.getElem?_map, List.getElem?_range h]
  rfl
theorem heldL_set {n i : Nat} {u : Int} (a : List (Nat × Int)) (h : i < n) : ((heldL n a).map PyData.int).set i (.int (cellSum a i + u)) = (heldL n (a ++ [(i, u)])).map .int := by
  refine List.ext_getElem (by rw [List.length_set, List.length_map, List.length_map, heldL_len, heldL_len]) fun j h1 h2 => ?_
  have g : ∀ (cs : List (Nat × Int)) (hj : j < ((heldL n cs).map PyData.int).length), ((heldL n cs).map PyData.int)[j] = .int (cellSum cs j) := fun cs hj => by simp [heldL]
  rw [List.getElem_set, g, g, cellSum_app, cellSum_one]
  by_cases e : i = j
  · subst e; rw [if_pos rfl, if_pos rfl]
  · rw [if_neg e, if_neg fun q => e q.symm]; simp
theorem cellSum_le {cs : List (Nat × Int)} {b : Int} (h : ∀ c ∈ cs, 0 ≤ c.2 ∧ c.2 ≤ b) (hb : 0 ≤ b) (k : Nat) : 0 ≤ cellSum cs k ∧ cellSum cs k ≤ b * cs.length := by
  induction cs with
  | nil => exact ⟨Int.le_refl _, by show (0 : Int) ≤ b * 0; omega⟩
  | cons c r ih =>
    have ih := ih fun d hd => h d (List.mem_cons_of_mem _ hd)
    have hc := h c (List.mem_cons_self ..)
    have e : cellSum (c :: r) k = cellSum [c] k + cellSum r k := cellSum_app [c] r k
    have e1 := cellSum_one c.1 c.2 k
    rw [e, show [c] = [(c.1, c.2)] from rfl, e1, List.length_cons]
    have : b * ((r.length + 1 : Nat) : Int) = b * (r.length : Int) + b := by rw [Int.natCast_add, Int.mul_add]; simp
    split <;> omega
theorem heldL_le {n : Nat} {cs : List (Nat × Int)} {b : Int} (h : ∀ c ∈ cs, 0 ≤ c.2 ∧ c.2 ≤ b) (hb : 0 ≤ b) : ∀ x ∈ heldL n cs, 0 ≤ x ∧ x ≤ b * cs.length := fun x hx => by
  obtain ⟨k, _, rfl⟩ := List.mem_map.mp hx
  exact cellSum_le h hb k
section
variable {rs : List (Str × Int × Bool)} {ks : List Kd}
/-- a claim, its room by number -/
def ic (rs : List (Str × Int × Bool)) (c : Str × Int) : Nat × Int := (ixOf (rs.map (·.1)) c.1, c.2)
abbrev heldF (rs : List (Str × Int × Bool)) (cs : List (Str × Int)) : List Int := heldL rs.length (cs.map (ic rs))
theorem ixD_ic (cs : List (Str × Int)) : cs.map (ixD rs) = (cs.map (ic rs)).map icD := by rw [List.map_map]; rfl
theorem ix_lt (h : (z : Str) ∈ rs.map (·.1)) : ixOf (rs.map (·.1)) z < rs.length := by
  have := (List.getElem?_eq_some_iff.mp (nth_ix h).1).1
  rw [List.length_map] at this
  exact this
theorem names_fine (P : PoolOk rs ks) : Fine 1 4100 (.list (rs.map fun r => .str r.1)) := by
  have hs : ∀ z ∈ rs.map (·.1), PyData.strOk z = true ∧ z.length ≤ 20 := fun z hz => by
    obtain ⟨r, hr, rfl⟩ := List.mem_map.mp hz
    exact ⟨(P.rok r hr).1, (P.rok r hr).2.1⟩
  have := strs_fine hs (by rw [List.length_map]; have := P.rl; omega)
  rw [List.map_map] at this
  exact this
theorem name_fine (P : PoolOk rs ks) {z : Str} (h : z ∈ rs.map (·.1)) : Fine 0 40 (.str z) := by
  obtain ⟨r, hr, rfl⟩ := List.mem_map.mp h
  exact fin_str (P.rok r hr).1 (by have := (P.rok r hr).2.1; omega)
theorem idx_ex {z : Str} (h : z ∈ rs.map (·.1)) {R : Nat → Prop} (q : R (ixOf (rs.map (·.1)) z)) : ∃ (j : Nat) (d : PyData), (rs.map fun r => PyData.str r.1)[j]? = some d ∧ PyData.eqv d (.str z) = true ∧
    (∀ (m : Nat) (z' : PyData), m < j → (rs.map fun r => PyData.str r.1)[m]? = some z' → PyData.eqv z' (.str z) = false) ∧ R j := by
  obtain ⟨n1, n2⟩ := nth_ix h
  refine ⟨ixOf (rs.map (·.1)) z, .str z, ?_, by rw [eqv_str]; simp, fun m z' hm hz' => ?_, q⟩
  · rw [show (rs.map fun r => PyData.str r.1) = (rs.map (·.1)).map .str from (List.map_map ..).symm, List.getElem?_map, n1]; rfl
  · rw [show (rs.map fun r => PyData.str r.1) = (rs.map (·.1)).map .str from (List.map_map ..).symm, List.getElem?_map] at hz'
    cases e : (rs.map (·.1))[m]? with
    | none => rw [e] at hz'; cases hz'
    | some y =>
      rw [e] at hz'
      obtain rfl : PyData.str y = z' := Option.some.inj hz'
      rw [eqv_str, decide_eq_false fun q => n2 m hm (by rw [e, q])]
theorem held_bd {cs : List (Str × Int)} (h : ∀ c ∈ cs, 1 ≤ c.2 ∧ c.2 ≤ 9) (hl : cs.length ≤ 100) : ∀ x ∈ heldF rs cs, 0 ≤ x ∧ x ≤ 900 := fun x hx => by
  have := heldL_le (b := 9) (cs := cs.map (ic rs)) (fun c hc => by
    obtain ⟨d, hd, rfl⟩ := List.mem_map.mp hc
    have := h d hd
    show 0 ≤ d.2 ∧ d.2 ≤ 9
    omega) (by decide) x hx
  rw [List.length_map] at this
  omega
theorem vec_fine' {v : List Int} (h : ∀ x ∈ v, -2000 ≤ x ∧ x ≤ 2000) (hl : v.length ≤ 12) : Fine 1 156 (vecD v) :=
  vec_fine (n := 12) (w := 12) (by decide) (fun i hi => by have := h i hi; show i.natAbs < 4096; omega) hl
theorem held_fine (P : PoolOk rs ks) {cs : List (Str × Int)} (h : ∀ c ∈ cs, 1 ≤ c.2 ∧ c.2 ≤ 9) (hl : cs.length ≤ 100) : Fine 1 156 (vecD (heldF rs cs)) :=
  vec_fine' (fun x hx => by have := held_bd h hl x hx; omega) (by rw [heldL_len]; exact P.rl)
end
end DL

/-! DL: steps for errors without fields, several clauses, lambdas handed over. -/
namespace DL
open PySem
section
variable {X : XW} {r : Env} {nx : Env → Prop} {rt : DV → Prop} {bk ct : Env → Prop} {ex : XW}
theorem v_sRaise0 {x} (h : ex ⟨x, []⟩ r) : sRaise0 x ⟨nx, rt, bk, ct, ex⟩ r := h
def onMx (ms : List CM) (rt : DV → Prop) (ex : XW) : XW := fun er r1 => slotsIn ms r1 ∧ hsel ms er rt fun e => ex e r1
theorem v_sTryM {ms p} (q : p ⟨nx, rt, bk, ct, onMx ms rt ex⟩ r) : sTryM ms p ⟨nx, rt, bk, ct, ex⟩ r := q
def onLx (ms : List CM) (Q : DV → Env → Prop) (r2 : Env) : XW := fun er _ => hsel ms er (fun dv => Q dv r2) fun _ => False
def onLv (told : Str) (Q : DV → Env → Prop) (r2 : Env) : DV → Env → Prop := fun dv _ => match dv.toD with
  | some d => Q (.dat (.tuple [.str told, d])) r2
  | none => False
theorem v_xLam {told ms vs} {f : TX} {r2 r3 : Env} {Q : DV → Env → Prop} (e1 : frz r vs = r2) (e2 : bare r2 = r3) (h : f (onLx ms Q r2) r3 (onLv told Q r2)) : xLam told ms vs f X r Q := by
  subst e1 e2; exact h
theorem v_onLv {told r2 r' dv d} {Q : DV → Env → Prop} (e : dv.toD = some d) (h : Q (.dat (.tuple [.str told, d])) r2) : onLv told Q r2 dv r' := by
  unfold onLv; rw [e]; exact h
theorem v_onLx {ms er r2 r'} {Q : DV → Env → Prop} (h : hsel ms er (fun dv => Q dv r2) fun _ => False) : onLx ms Q r2 er r' := h
theorem v_hselT {m : CM} {ms er} {Q : DV → Prop} {E : Err → Prop} (e : m.cs.lookup er.cls = some true) (h : m.h er Q) : hsel (m :: ms) er Q E := by
  unfold hsel; rw [e]; exact h
theorem v_hselF {m : CM} {ms er} {Q : DV → Prop} {E : Err → Prop} (e : m.cs.lookup er.cls = some false) (h : hsel ms er Q E) : hsel (m :: ms) er Q E := by
  unfold hsel; rw [e]; exact h
theorem v_intB {b : Bool} {Q : DV → Prop} (h : Q (.dat (.int (if b then 1 else 0)))) : nInt [.bool b] Q := h
theorem v_hIfT {cs : List (Str × Bool)} {h1 h2 : SH} {er : Err} {Q : DV → Prop} (e : cs.lookup er.cls = some true) (h : h1 er Q) : hIf cs h1 h2 er Q := by unfold hIf; rw [e]; exact h
theorem v_hIfF {cs : List (Str × Bool)} {h1 h2 : SH} {er : Err} {Q : DV → Prop} (e : cs.lookup er.cls = some false) (h : h2 er Q) : hIf cs h1 h2 er Q := by unfold hIf; rw [e]; exact h
theorem v_hRetC {ds er} {Q : DV → Prop} (h : ds.length ≤ 16777216 ∧ Q (.dat (.tuple ds))) : hRetC ds er Q := h
end
end DL

/-! DL: one of a tuple's parts; a list left empty by a test. -/
namespace DL
open PySem
section
variable {r : Env} {nx : Env → Prop} {rt : DV → Prop} {bk ct : Env → Prop} {ex : XW}
/-- loops whose body never breaks: what stands behind the loop is out of sight in the body's goal -/
theorem forL_mapN {g : TG} {b : TS} {α : Type} {xs : List α} (F : α → PyData) (I : List α → Env → Prop) (h0 : I [] r) (s : ∀ pre x post r (k bk' : Env → Prop), xs = pre ++ x :: post → I pre r → (∀ r', I (pre ++ [x]) r' → k r') → g (.dat (F x)) r fun r1 => b ⟨k, rt, bk', k, ex⟩ r1) (f : ∀ r, I xs r → nx r) : forL g b ⟨nx, rt, bk, ct, ex⟩ (xs.map F) r :=
  forL_map F I h0 (fun pre x post r k e hI hk => s pre x post r k nx e hI hk) f
theorem forL_ivN {g : TG} {b : TS} {ds : List PyData} (I : Nat → Env → Prop) (h0 : I 0 r) (s : ∀ i x r (k bk' : Env → Prop), ds[i]? = some x → I i r → (∀ r', I (i + 1) r' → k r') → g (.dat x) r fun r1 => b ⟨k, rt, bk', k, ex⟩ r1) (f : ∀ r, I ds.length r → nx r) : forL g b ⟨nx, rt, bk, ct, ex⟩ ds r :=
  forL_iv I h0 (fun i x r k e hI hk => s i x r k nx e hI hk) f
end
section
local macro_rules | `(tactic| walk_at "dl1") => `(tactic| first
  | ((with_reducible refine v_oE ?_))
  | ((with_reducible apply v_on1); (focus exact rfl))
  | ((with_reducible refine v_xB ?_))
  | ((with_reducible apply v_oV); (focus exact rfl))
  | ((with_reducible apply v_on2); (focus exact rfl); (focus exact rfl))
  | ((with_reducible apply v_gN); (focus ((with_reducible (repeat (first | exact p_z | apply p_s))))))
  | ((with_reducible refine v_xC ?_))
  | ((with_reducible apply v_xVarD); (focus exact rfl))
  | ((with_reducible refine v_sSeq ?_))
  | ((with_reducible refine v_sAsg ?_))
  | ((with_reducible refine v_sIf ?_))
  | ((with_reducible refine v_bX ?_))
  | ((with_reducible refine v_onB ?_))
  | ((with_reducible refine v_oCons ?_))
  | ((with_reducible refine v_oNil ?_))
  | ((with_reducible refine v_aCons ?_))
  | ((with_reducible refine v_argD ?_))
  | ((with_reducible refine v_argB ?_))
  | ((with_reducible refine v_argO ?_))
  | ((with_reducible refine v_aNil ?_))
  | ((with_reducible refine v_xCB ?_))
  | ((with_reducible apply v_onL); (focus exact rfl))
  | ((with_reducible refine v_xCall ?_))
  | ((with_reducible refine v_xU ?_))
  | ((with_reducible refine v_xAnd ?_))
  | ((with_reducible refine v_xOr ?_))
  | ((with_reducible refine v_xNot ?_))
  | ((with_reducible refine v_xTup ?_))
  | ((with_reducible refine v_xLst ?_))
  | ((with_reducible refine v_xIf ?_))
  | ((with_reducible refine v_bO ?_))
  | ((with_reducible refine v_bAnd ?_))
  | ((with_reducible refine v_bOr ?_))
  | ((with_reducible refine v_bNot ?_))
  | ((with_reducible refine v_bYes ?_))
  | ((with_reducible refine v_wX ?_))
  | ((with_reducible refine v_wRange1 ?_))
  | ((with_reducible refine v_wRange2 ?_))
  | ((with_reducible refine v_gsN ?_))
  | ((with_reducible refine v_gsC ?_))
  | ((with_reducible refine v_pNo ?_))
  | ((with_reducible refine v_pSome ?_))
  | ((with_reducible refine v_xCut ?_))
  | ((with_reducible refine v_xLc ?_))
  | ((with_reducible refine v_sNext ?_))
  | ((with_reducible refine v_sPar ?_))
  | ((with_reducible refine v_sDrop ?_))
  | ((with_reducible refine v_sRet ?_))
  | ((with_reducible refine v_sRetN ?_))
  | ((with_reducible refine v_sBrk ?_))
  | ((with_reducible refine v_sCnt ?_))
  | ((with_reducible refine v_sFor ?_))
  | ((with_reducible refine v_ifT ?_))
  | ((with_reducible refine v_ifF ?_))
  | ((with_reducible refine v_onCmp ?_))
  | ((with_reducible refine v_xCh ?_))
  | ((with_reducible refine v_addI ?_))
  | ((with_reducible refine v_subI ?_))
  | ((with_reducible refine v_eqI ?_))
  | ((with_reducible refine v_neShown (by assumption) ?_))
  | ((with_reducible refine v_eqShown (by assumption) ?_))
  | ((with_reducible refine v_neI ?_))
  | ((with_reducible refine v_is ?_))
  | ((with_reducible refine v_isNot ?_))
  | ((with_reducible refine v_ltI ?_))
  | ((with_reducible refine v_leI ?_))
  | ((with_reducible refine v_le2I ?_))
  | ((with_reducible refine v_le2S ?_))
  | ((with_reducible refine v_ltC ?_))
  | ((with_reducible refine v_geC ?_))
  | ((with_reducible refine v_neT ?_))
  | ((with_reducible refine v_gtI ?_))
  | ((with_reducible refine v_geI ?_))
  | ((with_reducible refine v_addT ?_))
  | ((with_reducible refine v_addL ?_))
  | ((with_reducible refine v_addS ?_))
  | ((with_reducible refine v_mulI ?_))
  | ((with_reducible refine v_mulT ?_))
  | ((with_reducible refine v_mulL ?_))
  | ((with_reducible refine v_div ?_))
  | ((with_reducible refine v_mod ?_))
  | ((with_reducible refine v_pow ?_))
  | ((with_reducible refine v_neg ?_))
  | ((with_reducible refine v_eq ?_))
  | ((with_reducible refine v_ne ?_))
  | ((with_reducible refine v_ixL ?_))
  | ((with_reducible refine v_ixT ?_))
  | ((with_reducible refine v_cutL ?_))
  | ((with_reducible refine v_cutT ?_))
  | ((with_reducible refine v_cutS ?_))
  | ((with_reducible refine v_lenL ?_))
  | ((with_reducible refine v_lenT ?_))
  | ((with_reducible refine v_lenS ?_))
  | ((with_reducible refine v_repr ?_))
  | ((with_reducible refine v_tupL ?_))
  | ((with_reducible refine v_tupT ?_))
  | ((with_reducible refine v_lstL ?_))
  | ((with_reducible refine v_lstT ?_))
  | ((with_reducible refine v_intI ?_))
  | ((with_reducible refine v_abs ?_))
  | ((with_reducible refine v_maxI ?_))
  | ((with_reducible refine v_minI ?_))
  | ((with_reducible refine v_dInt ?_))
  | ((with_reducible apply v_tB); (focus exact rfl))
  | ((with_reducible apply v_tI); (focus exact rfl))
  | ((with_reducible apply v_tL); (focus exact rfl))
  | ((with_reducible apply v_tT); (focus exact rfl))
  | ((with_reducible apply v_tN); (focus exact rfl))
  | ((with_reducible apply v_tS); (focus exact rfl))
  | (with_reducible refine v_ifN ?_)
  | (with_reducible refine v_ifNonT ?_)
  | (with_reducible refine v_ifNonI ?_)
  | (with_reducible refine v_ifNonT' ?_)
  | ((with_reducible apply v_onI); (focus exact rfl))
  | ((with_reducible apply v_onX); (focus exact rfl))
  | ((with_reducible apply v_xVarB); (focus exact rfl))
  | ((with_reducible apply v_gT); (focus exact rfl))
  | ((with_reducible apply v_sAug); (focus exact rfl))
  | ((with_reducible apply v_lc); (focus ((try simp only [clrs, putO, put]); exact rfl)))
  | ((with_reducible apply v_cl2); (focus ((try simp only [clrs, putO, put]); exact rfl)))
  | ((with_reducible apply v_bk2); (focus ((try simp only [back, putO, put, sl]); exact rfl)))
  | ((with_reducible apply v_xApp); (focus exact rfl))
  | ((with_reducible apply v_xMt); (focus exact rfl))
  | ((with_reducible apply v_onLO); (focus exact rfl); (focus exact rfl))
  | ((with_reducible refine v_mExt ?_))
  | ((with_reducible apply v_onO); (focus exact rfl))
  | ((with_reducible apply v_xVarO); (focus exact rfl); (focus ((with_reducible (repeat (first | exact p_z | apply p_s))))))
  | ((with_reducible apply v_xMv); (focus exact rfl); (focus ((with_reducible (repeat (first | exact p_z | apply p_s))))))
  | ((with_reducible apply v_onII); (focus exact rfl); (focus exact rfl))
  | ((with_reducible apply v_onDO); (focus exact rfl); (focus exact rfl))
  | ((with_reducible apply v_on3); (focus exact rfl); (focus exact rfl); (focus exact rfl))
  | ((with_reducible refine v_argN ?_))
  | ((with_reducible refine v_tupN ?_))
  | ((with_reducible refine v_wZip ?_))
  | ((with_reducible refine v_avN ?_))
  | ((with_reducible refine v_avC ?_))
  | ((with_reducible refine v_sMul ?_))
  | ((with_reducible refine v_gAllN ?_))
  | ((with_reducible refine v_gAllC ?_))
  | ((with_reducible refine v_xDIn ?_))
  | ((with_reducible refine v_xDNew ?_))
  | ((with_reducible refine v_sDPut ?_))
  | ((with_reducible refine v_xLIdx ?_))
  | ((with_reducible refine v_onSs ?_))
  | ((with_reducible apply v_xDGet); (focus exact rfl))
  | ((with_reducible apply v_exD); (focus exact rfl))
  | ((with_reducible apply v_exL); (focus exact rfl))
  | ((with_reducible apply v_xVarN); (focus exact rfl))
  | ((with_reducible apply v_xTIdx); (focus exact rfl))
  | ((with_reducible apply v_onTT); (focus exact rfl))
  | ((with_reducible apply v_onTTl); (focus exact rfl))
  | ((with_reducible apply v_onDc); (focus exact rfl); (focus exact rfl))
  | ((with_reducible apply v_onSN); (focus exact rfl); (focus exact rfl))
  | ((with_reducible apply v_onLD); (focus exact rfl); (focus exact rfl))
  | ((with_reducible refine v_xDOne ?_ ?_); (focus (intro z; cases z)))
  | ((with_reducible apply v_xLcO); (focus exact rfl); (focus ((with_reducible (repeat (first | exact p_z | apply p_s))))))
  | ((with_reducible apply v_bk3); (focus ((try simp only [back, putO, put, sl]); exact rfl)))
  | ((with_reducible refine v_own1 ?_ ?_); (focus (intro _ e; first | (cases e; done) | (cases e; rfl))))
  | ((with_reducible refine v_own2 ?_ ?_ ?_); (focus (intro _ e; first | (cases e; done) | (cases e; rfl))); (focus (intro _ e; first | (cases e; done) | (cases e; rfl))))
  | ((with_reducible refine v_sRaise ?_))
  | ((with_reducible refine v_sTry ?_))
  | ((with_reducible apply v_onEx); (focus exact rfl); (focus (simp only [List.length_cons, List.length_nil]; omega)))
  | ((with_reducible apply v_onExF); (focus exact rfl))
  | ((with_reducible refine v_hRetT ?_))
  | ((with_reducible refine v_hNil ?_))
  | ((with_reducible refine v_hCons ?_))
  | ((with_reducible refine v_hC ?_))
  | ((with_reducible apply v_hF); (focus exact rfl); (focus exact rfl))
  | ((with_reducible apply v_onTLt); (focus exact rfl))
  | ((with_reducible apply v_onTLl); (focus exact rfl))
  | ((with_reducible refine v_aStar ?_))
  | ((with_reducible apply v_onLA); (focus exact rfl))
  | ((with_reducible refine v_xLc2 ?_))
  | ((with_reducible refine v_sSetI ?_))
  | ((with_reducible refine v_sAugI ?_))
  | ((with_reducible apply v_exO); (focus exact rfl))
  | ((with_reducible apply v_onIO); (focus exact rfl); (focus exact rfl))
  | ((with_reducible apply v_xDGet2); (focus exact rfl))
  | ((with_reducible apply v_onDD); (focus exact rfl); (focus exact rfl); (focus exact rfl))
  | ((with_reducible apply v_xDSetd); (focus exact rfl))
  | ((with_reducible refine v_mulII ?_))
  | ((with_reducible refine v_isTy ?_))
  | ((with_reducible refine v_wEnum ?_))
  | ((with_reducible refine v_reprF ?_))
  | ((with_reducible refine v_eqS ?_))
  | ((with_reducible refine v_eqE ?_))
  | ((with_reducible refine v_neE ?_))
  | ((with_reducible refine v_argC ?_))
  | ((with_reducible refine v_xRev ?_))
  | ((with_reducible apply v_onTI); (focus exact rfl); (focus exact rfl))
  | ((with_reducible refine v_xUpper ?_))
  | ((with_reducible apply v_onS); (focus exact rfl))
  | ((with_reducible refine v_xSplit ?_))
  | ((with_reducible apply v_isSx); (focus exact rfl))
  | ((with_reducible apply v_onSSs); (focus exact rfl); (focus exact rfl))
  | ((with_reducible refine v_inL ?_))
  | ((with_reducible refine v_notInL ?_))
  | ((with_reducible refine v_inS ?_))
  | ((with_reducible refine v_notInS ?_))
  | ((with_reducible refine v_sRaise0 ?_))
  | ((with_reducible refine v_sTryM ?_))
  | ((with_reducible apply v_xLam); (focus ((try simp only [frz, frz1, sl, put]); exact rfl)); (focus ((try simp only [bare, List.map_cons, List.map_nil, bareO]); exact rfl)))
  | ((with_reducible apply v_onLv); (focus exact rfl))
  | ((with_reducible refine v_onLx ?_))
  | ((with_reducible refine v_hRetC ?_))
  | ((with_reducible refine v_intB ?_))
  | ((with_reducible apply v_hIfT); (focus exact rfl))
  | ((with_reducible apply v_hIfF); (focus exact rfl))
  | (with_reducible refine And.intro (Fine.repr (by assumption) (by decide) (by decide)) ?_)
  | (with_reducible refine And.intro (Fine.ok (by assumption) (by decide)) ?_)
  | (with_reducible refine And.intro (Fine.okS (by assumption)) ?_)
  | ((with_reducible refine And.intro ?_ ?_); (focus (first | omega | exact (by decide) | (simp only [List.length_cons, List.length_nil, List.length_map, List.length_range, rangeL_len] <;> omega) | (simp only [List.length_cons, List.length_nil, List.length_append, List.length_map, List.length_range, rangeL_len] <;> omega) | exact Or.inl ⟨by omega, by omega⟩ | exact Or.inr (Or.inl ⟨by omega, by omega⟩)))))
local macro_rules | `(tactic| walk_at "dl") => `(tactic| repeat (walk_at "dl1"))
local macro_rules | `(tactic| walk_at "fn") => `(tactic| simp only [fnSpec, List.map_cons, List.map_nil, List.length_cons, List.length_nil, List.replicate, List.cons_append, List.nil_append, Nat.reduceAdd, Nat.reduceSub, List.replicate_succ, List.replicate_zero])
local macro_rules | `(tactic| walk_at "fine") => `(tactic| repeat (first | assumption | exact fin_none0 | exact fin_bool0 | exact fins_nil | (with_reducible refine fins_cons ?_ ?_) | (with_reducible refine fin_tup ?_) | (with_reducible refine fin_lst ?_) | exact fin_int0 (by omega) | exact fin_lit _))
theorem some_okT {xs : List PyData} (h0 : 0 < xs.length) (h1 : xs.length < 2 ^ 30) {Q : DV → Prop} {E : Err → Prop} (q : ∀ x ∈ xs, Q (.dat x)) :
    fnSpec 2 (sRet (xB dIx (oV 1) (oE (xCall takeS (aCons (xVar 0) (aCons (xCB nLen (oCons (oV 1) oNil)) aNil)))))) [.bag, .dat (.tuple xs)] Q E := by
  walk_at "fn"
  walk_at "dl"
  refine take_ok (by omega) (by omega) fun k hk0 hk1 => ?_
  walk_at "dl"
  obtain ⟨j, rfl⟩ := Int.eq_ofNat_of_zero_le hk0
  have hj : j < xs.length := by omega
  rw [L2.atI_nat (List.getElem?_eq_getElem hj)]
  exact q _ (List.getElem_mem hj)
theorem zip_next {F : Nat → PyData} (n : Nat) : zipD ((List.range n).map F) (((List.range n).drop 1).map F) = (List.range (n - 1)).map fun i => .tuple [F i, F (i + 1)] := by
  cases n with
  | zero => rfl
  | succ n =>
    rw [List.range_succ_eq_map, List.drop_succ_cons, List.drop_zero, ← List.range_succ_eq_map, List.range_succ]
    unfold zipD
    rw [List.map_append, List.map_map, ← List.append_nil ((List.range n).map (F ∘ Nat.succ)), List.zip_append (by simp), List.zip_map', List.map_append, List.zip_nil_right, List.map_nil, List.append_nil, Nat.add_sub_cancel, List.map_map]
    rfl
theorem flt_noneG {α : Type} {xs : List α} {p q : α → Bool} {G : α → PyData} (h : ∀ x ∈ xs, p x = !q x) : PyData.eqv (.list ((xs.filter p).map G)) (.list []) = xs.all q := by
  induction xs with
  | nil => rfl
  | cons x xs ih =>
    have hx := h x (List.mem_cons_self ..)
    have ih := ih fun y hy => h y (List.mem_cons_of_mem _ hy)
    cases e : q x with
    | true =>
      rw [e] at hx
      rw [List.filter_cons_of_neg (by rw [hx]; decide), ih, List.all_cons, e, Bool.true_and]
    | false =>
      rw [e] at hx
      rw [List.filter_cons_of_pos (by rw [hx]; decide), List.all_cons, e, Bool.false_and]
      rfl
end
end DL

/-! DL: steps for `in` over data, sorted; dicts that grow by first values. -/
namespace DL
open PySem
section
variable {X : XW} {r : Env} {x : D} {ds : List D} {Q : DV → Prop}
theorem v_inL (h : okD x ∧ okD (.list ds) ∧ Q (.dat (.bool (isIn x ds)))) : dIn4 x (.list ds) Q := .inr h
theorem v_notInL (h : okD x ∧ okD (.list ds) ∧ Q (.dat (.bool (!isIn x ds)))) : dNotIn4 x (.list ds) Q := .inr h
theorem v_inT (h : okD x ∧ okD (.tuple ds) ∧ Q (.dat (.bool (isIn x ds)))) : dIn4 x (.tuple ds) Q := .inl ⟨ds, rfl, h.1, h.2.1, h.2.2⟩
theorem v_notInT (h : okD x ∧ okD (.tuple ds) ∧ Q (.dat (.bool (!isIn x ds)))) : dNotIn4 x (.tuple ds) Q := .inl ⟨ds, rfl, h.1, h.2.1, h.2.2⟩
theorem v_inF (h1 : flatD x = true) (h2 : ds.all flatD = true) (h : Q (.dat (.bool (isIn x ds)))) : dIn4 x (.tuple ds) Q := .inr ⟨h1, h2, h⟩
theorem v_notInF (h1 : flatD x = true) (h2 : ds.all flatD = true) (h : Q (.dat (.bool (!isIn x ds)))) : dNotIn4 x (.tuple ds) Q := .inr ⟨h1, h2, h⟩
theorem v_wEnum {f : TX} {Q : List D → Env → Prop} (h : f X r fun dv r1 => onTL dv.toD fun xs => Q (enumD xs) r1) : wEnum f X r Q := h
theorem v_inS {a b : Str} (h : Q (.dat (.bool (occurs a b)))) : dIn4 (.str a) (.str b) Q := .inr h
theorem v_notInS {a b : Str} (h : Q (.dat (.bool (!occurs a b)))) : dNotIn4 (.str a) (.str b) Q := .inr h
theorem v_sortA {ss : List Str} (hl : ss.length < 64) (h : ∀ ys : List Str, ys.Perm ss → PyProof.Rows.sortedS ys = true → Q (.own (ys.map .str))) : nSortA [.list (ss.map .str)] Q := .inr (v_sortS hl h)
theorem v_sortI {ns : List Int} (h : ∀ ys : List Int, ys.Perm ns → ys.Pairwise (· ≤ ·) → Q (.own (ys.map .int))) : nSortA [.list (ns.map .int)] Q := .inl ⟨ns, rfl, h⟩
theorem v_sortIt {i : Nat} {ss : List (Str × D)} {Q : DV → Env → Prop} (b : Bool) (e : sl r i = some (.dct false (ss.map kvD))) (hs : ∀ p ∈ ss, shapeD b p.2) (h : ∀ ys : List (Str × D), ys.Perm ss → ys.Pairwise (fun e f => ¬ f.1.cps.toList < e.1.cps.toList) → (ss.map (·.1)).Nodup → Q (.own (ys.map prD)) r) : xSortIt i X r Q := ⟨ss, b, e, hs, h⟩
/-- two sorted lists of the same pairs, no key twice, are one -/
theorem sort_one {ss ys zs : List (Str × D)} (hn : (ss.map (·.1)).Nodup) (p1 : ys.Perm ss) (s1 : ys.Pairwise (fun e f => ¬ f.1.cps.toList < e.1.cps.toList)) (p2 : zs.Perm ss) (s2 : zs.Pairwise (fun e f => ¬ f.1.cps.toList < e.1.cps.toList)) : ys = zs := by
  refine List.Perm.eq_of_pairwise (le := fun e f : Str × D => ¬ f.1.cps.toList < e.1.cps.toList) ?_ s1 s2 (p1.trans p2.symm)
  intro a b ha hb h1 h2
  have e : a.1 = b.1 := PyProof.Rows.ext_toList (List.le_antisymm (List.not_lt.mp h1) (List.not_lt.mp h2))
  have ma := p1.mem_iff.mp ha
  have mb := p2.mem_iff.mp hb
  obtain ⟨i, hi, ei⟩ := List.getElem_of_mem ma
  obtain ⟨j, hj, ej⟩ := List.getElem_of_mem mb
  have : i = j := by
    refine (List.getElem?_inj (l := ss.map (·.1)) (by rw [List.length_map]; exact hi) hn).mp ?_
    rw [List.getElem?_map, List.getElem?_map, List.getElem?_eq_getElem hi, List.getElem?_eq_getElem hj, ei, ej]
    exact congrArg some e
  subst this
  rw [← ei, ← ej]
end
/-! ### dicts that keep what came first -/
def put1 (m : List (Str × D)) (p : Str × D) : List (Str × D) := if (m.any fun q => decide (q.1 = p.1)) = true then m else m ++ [p]
def firsts (l : List (Str × D)) : List (Str × D) := l.foldl put1 []
def look1 (m : List (Str × D)) (t : Str) : Option D := (m.find? fun q => decide (q.1 = t)).map (·.2)
theorem firsts_snoc (l : List (Str × D)) (p : Str × D) : firsts (l ++ [p]) = put1 (firsts l) p := by unfold firsts; rw [List.foldl_append]; rfl
theorem key_dec (a b : Str) : decide (keyD (.str a) = keyD (.str b)) = decide (a = b) := by
  by_cases h : a = b
  · subst h; simp
  · rw [decide_eq_false h, decide_eq_false]
    intro e
    exact h (Sum.inr.inj (Option.some.inj e))
theorem lookD_kv : ∀ (m : List (Str × D)) (t : Str), lookD (m.map kvD) (.str t) = look1 m t
  | [], _ => rfl
  | p :: m, t => by
    unfold lookD look1
    rw [List.map_cons, List.find?_cons, List.find?_cons, show decide (keyD (kvD p).1 = keyD (.str t)) = decide (p.1 = t) from key_dec _ _]
    by_cases h : p.1 = t
    · rw [decide_eq_true h]; rfl
    · rw [decide_eq_false h]; exact lookD_kv m t
theorem look1_none {m : List (Str × D)} {t : Str} : look1 m t = none ↔ (m.any fun q => decide (q.1 = t)) = false := by
  induction m with
  | nil => exact ⟨fun _ => rfl, fun _ => rfl⟩
  | cons p m ih =>
    unfold look1 at ih ⊢
    rw [List.find?_cons, List.any_cons]
    by_cases h : p.1 = t
    · rw [decide_eq_true h]; simp
    · rw [decide_eq_false h, Bool.false_or]; exact ih
theorem any_kv (m : List (Str × D)) (t : Str) : ((m.map kvD).any fun p => decide (keyD p.1 = keyD (.str t))) = m.any fun q => decide (q.1 = t) := by
  induction m with
  | nil => rfl
  | cons p m ih => rw [List.map_cons, List.any_cons, List.any_cons, ih, show decide (keyD (kvD p).1 = keyD (.str t)) = decide (p.1 = t) from key_dec _ _]
theorem putD_new {m : List (Str × D)} {t : Str} {d : D} (h : look1 m t = none) : putD (m.map kvD) (.str t) d = (put1 m (t, d)).map kvD := by
  have h2 := look1_none.mp h
  unfold putD put1
  rw [any_kv, h2, if_neg (by decide), if_neg (by decide), List.map_append]
  rfl
theorem putD_same : ∀ {m : List (Str × D)} {t : Str} {d : D}, (m.map (·.1)).Nodup → look1 m t = some d → (m.map kvD).map (fun p => if keyD p.1 = keyD (.str t) then (p.1, d) else p) = m.map kvD
  | [], _, _, _, _ => rfl
  | p :: m, t, d, hn, h => by
    rw [List.map_cons, List.nodup_cons] at hn
    rw [List.map_cons, List.map_cons]
    unfold look1 at h
    rw [List.find?_cons] at h
    by_cases e : p.1 = t
    · rw [decide_eq_true e] at h
      cases h
      rw [if_pos (by rw [show (kvD p).1 = .str p.1 from rfl, e])]
      congr 1
      rw [List.map_map]
      refine List.map_congr_left fun q hq => ?_
      refine if_neg fun z => hn.1 ?_
      have : q.1 = t := Sum.inr.inj (Option.some.inj z)
      rw [e, ← this]
      exact List.mem_map.mpr ⟨q, hq, rfl⟩
    · rw [decide_eq_false e] at h
      rw [if_neg (fun z : keyD (kvD p).1 = keyD (.str t) => e (Sum.inr.inj (Option.some.inj z))), putD_same hn.2 h]
theorem putD_old {m : List (Str × D)} {t : Str} {d d' : D} (hn : (m.map (·.1)).Nodup) (h : look1 m t = some d) : putD (m.map kvD) (.str t) d = (put1 m (t, d')).map kvD := by
  have h2 : (m.any fun q => decide (q.1 = t)) = true := by
    cases e : m.any fun q => decide (q.1 = t) with
    | true => rfl
    | false => rw [look1_none.mpr e] at h; cases h
  unfold putD put1
  rw [any_kv, h2, if_pos rfl, if_pos rfl]
  exact putD_same hn h
theorem put1_old {m : List (Str × D)} {t : Str} {d d' : D} (h : look1 m t = some d) : put1 m (t, d') = m := by
  unfold put1
  refine if_pos ?_
  cases e : m.any fun q => decide (q.1 = t) with
  | true => rfl
  | false => rw [look1_none.mpr e] at h; cases h
theorem put1_nodup {m : List (Str × D)} {p : Str × D} (h : (m.map (·.1)).Nodup) : ((put1 m p).map (·.1)).Nodup := by
  unfold put1
  split
  · exact h
  · rename_i hn
    rw [List.map_append, List.nodup_append]
    refine ⟨h, by simp, fun a ha b hb => ?_⟩
    rw [List.map_singleton, List.mem_singleton] at hb
    subst hb
    intro e
    subst e
    apply hn
    obtain ⟨q, hq, e⟩ := List.mem_map.mp ha
    exact List.any_eq_true.mpr ⟨q, hq, decide_eq_true e⟩
theorem firsts_nodup (l : List (Str × D)) : ((firsts l).map (·.1)).Nodup := by
  induction l using snoc_ind with
  | h0 => exact .nil
  | h1 l p ih => rw [firsts_snoc]; exact put1_nodup ih
theorem firsts_sub (l : List (Str × D)) : ∀ p ∈ firsts l, p ∈ l := by
  induction l using snoc_ind with
  | h0 => intro p h; cases h
  | h1 l p ih =>
    intro q hq
    rw [firsts_snoc] at hq
    unfold put1 at hq
    split at hq
    · exact List.mem_append_left _ (ih q hq)
    · rcases List.mem_append.mp hq with h | h
      · exact List.mem_append_left _ (ih q h)
      · exact List.mem_append_right _ h
theorem firsts_len (l : List (Str × D)) : (firsts l).length ≤ l.length := by
  induction l using snoc_ind with
  | h0 => exact Nat.le_refl _
  | h1 l p ih =>
    rw [firsts_snoc, List.length_append]
    unfold put1
    split
    · omega
    · rw [List.length_append]; simp; omega
theorem firsts_pre (l : List (Str × D)) (m : List (Str × D)) : ∀ p ∈ firsts l, p ∈ firsts (l ++ m) := by
  induction m using snoc_ind with
  | h0 => intro p h; rw [List.append_nil]; exact h
  | h1 m q ih =>
    intro p h
    rw [← List.append_assoc, firsts_snoc]
    unfold put1
    split
    · exact ih p h
    · exact List.mem_append_left _ (ih p h)
end DL

/-! DL: steps for DMh, DMi, DMj. -/
namespace DL
open PySem
section
variable {X : XW} {r : Env} {Q : DV → Prop}
theorem v_reprF {d : D} (h : (d.showable = true ∧ d.depth ≤ 64 ∧ d.shown.length ≤ 16777216) ∧ Q (.dat (.str d.shown))) : nReprF [d] Q := h
theorem v_eqS {d : D} {z : Str} (h : Q (.dat (.bool (RV.isStrD d z)))) : dEqS d (.str z) Q := h
theorem v_eqE {ds : List D} (h : Q (.dat (.bool ds.isEmpty))) : dEqE (.list ds) (.list []) Q := h
theorem v_neE {ds : List D} (h : Q (.dat (.bool (!ds.isEmpty)))) : dNeE (.list ds) (.list []) Q := h
theorem v_mulS {z : Str} {k : Int} (h : 0 ≤ k ∧ k ≤ 1000 ∧ z.length ≤ 1000 ∧ (RV.repS z k).length ≤ 16777216 ∧ Q (.dat (.str (RV.repS z k)))) : dMulS (.str z) (.int k) Q := h
theorem v_argC {kvs : List (D × D)} {k : DV → Prop} (h : k (.dat (.dict kvs))) : onArg (.dct false kvs) k := ⟨rfl, h⟩
def onTI (o p : Option D) (k : List D → Int → Prop) : Prop := match o, p with
  | some (.tuple ds), some (.int i) => k ds i
  | _, _ => False
theorem v_onTI {o p ds i} {k : List D → Int → Prop} (e : o = some (.tuple ds)) (f : p = some (.int i)) (h : k ds i) : onTI o p k := by rw [e, f]; exact h
theorem v_xRev {a b} {Q : DV → Env → Prop} (h : a X r fun g r1 => b X r1 fun h r2 => onTI (g r2) (h r2) fun ds i => i = -1 ∧ Q (.dat (.tuple ds.reverse)) r2) : xRev a b X r Q := h
def onS (o : Option D) (k : Str → Prop) : Prop := match o with
  | some (.str x) => k x
  | _ => False
theorem v_onS {o x} {k : Str → Prop} (e : o = some (.str x)) (h : k x) : onS o k := by rw [e]; exact h
theorem v_xUpper {a} {Q : DV → Env → Prop} (h : a X r fun g r1 => onS (g r1) fun x => x.length ≤ 5592405 ∧ Q (.dat (.str (PySem.Txt.upper x))) r1) : xUpper a X r Q := h
def onSS (o p : Option D) (k : Str → Str → Prop) : Prop := match o, p with
  | some (.str x), some (.str y) => k x y
  | _, _ => False
theorem v_onSSs {o p x y} {k : Str → Str → Prop} (e : o = some (.str x)) (f : p = some (.str y)) (h : k x y) : onSS o p k := by rw [e, f]; exact h
def isSx (o : Option D) (k : Prop) : Prop := (∃ x, o = some (.str x)) ∧ k
theorem v_isSx {o x} {k : Prop} (e : o = some (.str x)) (h : k) : isSx o k := ⟨⟨x, e⟩, h⟩
theorem v_xSplit {a b} {Q : DV → Env → Prop} (h : a X r fun g r1 => isSx (g r1) (b X r1 fun h r2 => onSS (g r2) (h r2) fun x y => (y.length == 0) = false ∧ x.length + 2 ≤ 16777216 ∧ Q (.own ((PySem.Txt.split x y).map .str)) r2)) : xSplit a b X r Q := h
end
end DL

/-! DL: data of any kind that a law may draw: dicts among them. -/
namespace DL
open PySem
def intG (i : Int) : Bool := decide ((PyData.shown (.int i)).length ≤ 50) && decide (i.natAbs.log2 < 1920)
def dctG : List (D × D) → Bool
  | [] => true
  | [(.str k, .int i)] => PyData.strOk k && intG i
  | _ => false
mutual
def good : D → Bool
  | .none => true
  | .bool _ => true
  | .int i => intG i
  | .str x => PyData.strOk x
  | .list xs => goodAll xs
  | .tuple xs => goodAll xs
  | .dict kvs => dctG kvs
def goodAll : List D → Bool
  | [] => true
  | x :: xs => good x && goodAll xs
end
theorem goodAll_mem : ∀ {xs : List D}, goodAll xs = true ↔ ∀ x ∈ xs, good x = true
  | [] => ⟨(fun _ _ h => by cases h), fun _ => rfl⟩
  | x :: xs => by
    show (good x && goodAll xs) = true ↔ _
    rw [Bool.and_eq_true, goodAll_mem (xs := xs), List.forall_mem_cons]
theorem dct_two {kvs : List (D × D)} (h : dctG kvs = true) : kvs = [] ∨ ∃ k i, kvs = [(.str k, .int i)] ∧ PyData.strOk k = true ∧ intG i = true := by
  unfold dctG at h
  split at h
  · exact .inl rfl
  · rw [Bool.and_eq_true] at h
    exact .inr ⟨_, _, rfl, h.1, h.2⟩
  · cases h
theorem intG_and {i : Int} (h : intG i = true) : (PyData.shown (.int i)).length ≤ 50 ∧ (PyData.int i).showable = true := by
  unfold intG at h
  rw [Bool.and_eq_true] at h
  exact ⟨of_decide_eq_true h.1, h.2⟩
theorem str_short {x : Str} (h : PyData.strOk x = true) : (PyData.str x).leavesShort 50 = true := by
  simp only [PyData.leavesShort, List.all_eq_true]
  intro c hc
  exact decide_eq_true (Nat.lt_of_lt_of_le (strOk_mem.mp h c hc) (by decide))
theorem strOk_dict {ts : List Str} (h : ∀ t ∈ ts, PyData.strOk t = true) : PyData.strOk (PySem.dictText ts) = true := strOk_app (strOk_app (strOk_of _) (strOk_join ts _ (strOk_of _) h)) (strOk_of _)
mutual
theorem good_show : ∀ d : D, good d = true → d.showable = true ∧ d.leavesShort 50 = true ∧ PyData.strOk d.shown = true
  | .none, _ => ⟨rfl, rfl, strOk_of _⟩
  | .bool b, _ => ⟨rfl, rfl, by cases b <;> exact strOk_of _⟩
  | .int i, h => ⟨(intG_and h).2, by simp only [PyData.leavesShort]; exact decide_eq_true (intG_and h).1, strOk_of _⟩
  | .str x, h => ⟨rfl, str_short h, strOk_repr h⟩
  | .list xs, h => by
    obtain ⟨a, b, c⟩ := goods_show xs h
    exact ⟨by simpa only [PyData.showable] using a, by simpa only [PyData.leavesShort] using b, strOk_list c⟩
  | .tuple xs, h => by
    obtain ⟨a, b, c⟩ := goods_show xs h
    exact ⟨by simpa only [PyData.showable] using a, by simpa only [PyData.leavesShort] using b, strOk_tuple c⟩
  | .dict kvs, h => by
    rcases dct_two h with rfl | ⟨k, i, rfl, hk, hi⟩
    · exact ⟨rfl, rfl, strOk_dict (ts := []) fun _ z => by cases z⟩
    · refine ⟨?_, ?_, ?_⟩
      · have := (intG_and hi).2
        simp only [PyData.showable, PyData.showableKv, Bool.true_and, Bool.and_true] at this ⊢
        exact this
      · have h1 := str_short hk
        have h2 : (PyData.int i).leavesShort 50 = true := by simp only [PyData.leavesShort]; exact decide_eq_true (intG_and hi).1
        simp only [PyData.leavesShort, PyData.leavesShortKv, Bool.and_true, Bool.and_eq_true]
        exact ⟨by simpa only [PyData.leavesShort] using h1, by simpa only [PyData.leavesShort] using h2⟩
      · refine strOk_dict (ts := [_]) fun t ht => ?_
        rw [List.mem_singleton.mp ht]
        exact strOk_app (strOk_app (strOk_repr hk) (strOk_of _)) (strOk_of _)
theorem goods_show : ∀ xs : List D, goodAll xs = true → PyData.showableAll xs = true ∧ PyData.leavesShortAll 50 xs = true ∧ ∀ t ∈ PyData.shownAll xs, PyData.strOk t = true
  | [], _ => ⟨rfl, rfl, fun _ h => by cases h⟩
  | x :: xs, h => by
    have h' : (good x && goodAll xs) = true := h
    rw [Bool.and_eq_true] at h'
    obtain ⟨a, b, c⟩ := good_show x h'.1
    obtain ⟨a2, b2, c2⟩ := goods_show xs h'.2
    refine ⟨by simp only [PyData.showableAll, a, a2, Bool.and_self], by simp only [PyData.leavesShortAll, b, b2, Bool.and_self], fun t ht => ?_⟩
    have ht' : t ∈ x.shown :: PyData.shownAll xs := ht
    rcases List.mem_cons.mp ht' with rfl | g
    · exact c
    · exact c2 t g
end
/-- any data, not too great -/
structure Odd (d : D) : Prop where
  g : good d = true
  wt : d.weight ≤ 200000
  dp : d.depth ≤ 40
theorem Odd.repr {d : D} (h : Odd d) : d.showable = true ∧ d.depth ≤ 64 ∧ d.shown.length ≤ 16777216 := by
  obtain ⟨a, b, _⟩ := good_show d h.g
  have e := PyData.shown_le 50 (by decide) d b
  have e2 : (50 + 2) * d.weight ≤ 52 * 200000 := Nat.mul_le_mul_left _ h.wt
  exact ⟨a, Nat.le_trans h.dp (by decide), by omega⟩
theorem Odd.okS {d : D} (h : Odd d) : okD (.str d.shown) := okD_str (good_show d h.g).2.2
theorem wt_mem : ∀ {xs : List D} {x : D}, x ∈ xs → x.weight + 1 ≤ PyData.weightAll xs
  | y :: ys, x, h => by
    show _ ≤ y.weight + 1 + PyData.weightAll ys
    rcases List.mem_cons.mp h with rfl | h
    · omega
    · have := wt_mem h; omega
theorem dp_mem : ∀ {xs : List D} {x : D}, x ∈ xs → x.depth ≤ PyData.depthAll xs
  | y :: ys, x, h => by
    show _ ≤ max y.depth (PyData.depthAll ys)
    rcases List.mem_cons.mp h with rfl | h
    · omega
    · have := dp_mem h; omega
theorem wt_len : ∀ xs : List D, xs.length ≤ PyData.weightAll xs
  | [] => Nat.le_refl _
  | y :: ys => by
    show ys.length + 1 ≤ y.weight + 1 + PyData.weightAll ys
    have := wt_len ys
    omega
theorem Odd.inT {xs : List D} {x : D} (h : Odd (.tuple xs)) (m : x ∈ xs) : Odd x := by
  refine ⟨goodAll_mem.mp h.g x m, ?_, ?_⟩
  · have a : PyData.weightAll xs ≤ 200000 := h.wt
    have := wt_mem m
    omega
  · have a : PyData.depthAll xs + 1 ≤ 40 := h.dp
    have := dp_mem m
    omega
theorem Odd.lenT {xs : List D} (h : Odd (.tuple xs)) : xs.length ≤ 200000 := Nat.le_trans (wt_len xs) h.wt
theorem Odd.str {x : Str} (h : Odd (.str x)) : PyData.strOk x = true ∧ x.length ≤ 200000 := ⟨h.g, h.wt⟩
/-! what is fine is good -/
mutual
theorem good_of : ∀ d : D, d.canLay0 = true → d.intsShort 50 = true → d.showable = true → good d = true
  | .none, _, _, _ => rfl
  | .bool _, _, _, _ => rfl
  | .int i, _, h2, h3 => by
    show (decide _ && decide _) = true
    rw [Bool.and_eq_true]
    exact ⟨h2, h3⟩
  | .str x, h, _, _ => h
  | .list xs, h1, h2, h3 => goods_of xs h1 h2 (by simpa only [PyData.showable] using h3)
  | .tuple xs, h1, h2, h3 => goods_of xs h1 h2 (by simpa only [PyData.showable] using h3)
  | .dict _, h, _, _ => by cases h
theorem goods_of : ∀ xs : List D, PyData.canLayAll0 xs = true → PyData.intsShortAll 50 xs = true → PyData.showableAll xs = true → goodAll xs = true
  | [], _, _, _ => rfl
  | x :: xs, h1, h2, h3 => by
    have a : (x.canLay0 && PyData.canLayAll0 xs) = true := h1
    have b : (x.intsShort 50 && PyData.intsShortAll 50 xs) = true := h2
    have c : (x.showable && PyData.showableAll xs) = true := h3
    rw [Bool.and_eq_true] at a b c
    show (good x && goodAll xs) = true
    rw [Bool.and_eq_true]
    exact ⟨good_of x a.1 b.1 c.1, goods_of xs a.2 b.2 c.2⟩
end
theorem Fine.good {k w : Nat} {d : D} (h : Fine k w d) : DL.good d = true := good_of d h.lay h.sh h.sw
theorem Fine.odd {k w : Nat} {d : D} (h : Fine k w d) (hk : k ≤ 40) (hw : w ≤ 200000) : Odd d := ⟨h.good, Nat.le_trans h.wt hw, Nat.le_trans h.dep hk⟩
theorem flt_empty {α : Type} {xs : List α} {p : α → Bool} {G : α → D} : ((xs.filter p).map G).isEmpty = xs.all fun x => !p x := by
  induction xs with
  | nil => rfl
  | cons x xs ih =>
    cases e : p x with
    | true => rw [List.filter_cons_of_pos e, List.all_cons, e]; rfl
    | false => rw [List.filter_cons_of_neg (by rw [e]; decide), ih, List.all_cons, e]; rfl
end DL

/-! DL: steps for DMk. -/
namespace DL
open PySem
section
variable {Q : DV → Prop}
theorem v_le2I {a b : Int} (h : Q (.dat (.bool (decide (a ≤ b))))) : dLe2 (.int a) (.int b) Q := h
theorem v_le2S {a b : Str} (h : Q (.dat (.bool (!RV.strLt b a)))) : dLe2 (.str a) (.str b) Q := h
theorem v_ltC {s t : Str} {i j : Int} (h : Q (.dat (.bool (RV.cpLt s i t j)))) : dLtC (.tuple [.str s, .int i]) (.tuple [.str t, .int j]) Q := h
theorem v_geC {s t : Str} {i j : Int} (h : Q (.dat (.bool (RV.cpGe s i t j)))) : dGeC (.tuple [.str s, .int i]) (.tuple [.str t, .int j]) Q := h
theorem v_neT {ds : List D} (h : Q (.dat (.bool (!ds.isEmpty)))) : dNeT (.tuple ds) (.tuple []) Q := h
end
end DL

/-! DL: steps for DMo (dicts with tuple keys), DMl (sorted of data), DMq. -/
namespace DL
open PySem
section
variable {X : XW} {r : Env} {Q : DV → Prop}
def onDn (o : Option D) (p : Option DV) (k : D → List (D × D) → Prop) : Prop := match o, p with
  | some d, some (.dct true kvs) => k d kvs
  | _, _ => False
theorem v_onDn {o p d kvs} {k : D → List (D × D) → Prop} (e : o = some d) (f : p = some (.dct true kvs)) (h : k d kvs) : onDn o p k := by rw [e, f]; exact h
def onXn (o : Option D) (k : D → Prop) : Prop := match o with
  | some d => k d
  | none => False
theorem v_onXn {o d} {k : D → Prop} (e : o = some d) (h : k d) : onXn o k := by rw [e]; exact h
theorem v_xGetN {i b kvs} {Q : DV → Env → Prop} (e : sl r i = some (.dct true kvs)) (h : b X r fun g r1 => onDn (g r1) (sl r1 i) fun k kvs => keyN k ≠ none ∧ onXn (lookN kvs k) fun d => Q (.dat d) r1) : xGetN i b X r Q := ⟨⟨kvs, e⟩, h⟩
theorem v_xInN {neg i b} {Q : DV → Env → Prop} (h : b X r fun g r1 => onDn (g r1) (sl r1 i) fun k kvs => keyN k ≠ none ∧ Q (.dat (.bool (neg != (lookN kvs k).isSome))) r1) : xInN neg i b X r Q := h
def exN (r : Env) (i : Nat) (k : Prop) : Prop := (∃ kvs, sl r i = some (.dct true kvs)) ∧ k
theorem v_exN {i kvs} {k : Prop} (e : sl r i = some (.dct true kvs)) (h : k) : exN r i k := ⟨⟨kvs, e⟩, h⟩
theorem v_sPutN {i b f nx rt bk ct ex} (h : f ex r fun dv r1 => on1 dv.toD fun d => exN r1 i (b ex r1 fun g r2 => onDn (g r2) (sl r2 i) fun k kvs => keyN k ≠ none ∧ kvs.length < 16777216 ∧ gN i (.dct true (putN kvs k d)) r2 nx)) : sPutN i b f ⟨nx, rt, bk, ct, ex⟩ r := h
theorem v_xNewN {Q : DV → Env → Prop} (h : Q (.dct true []) r) : xNewN X r Q := h
def onDDn (o p : Option D) (q : Option DV) (k : D → D → List (D × D) → Prop) : Prop := match o, p, q with
  | some x, some y, some (.dct true kvs) => k x y kvs
  | _, _, _ => False
theorem v_onDDn {o p q x y kvs} {k : D → D → List (D × D) → Prop} (e : o = some x) (f : p = some y) (g : q = some (.dct true kvs)) (h : k x y kvs) : onDDn o p q k := by rw [e, f, g]; exact h
theorem v_xGet2N {i b f kvs} {Q : DV → Env → Prop} (e : sl r i = some (.dct true kvs)) (h : b X r fun g r1 => f X r1 fun dv r2 => onDDn (g r2) dv.toD (sl r2 i) fun k d kvs => keyN k ≠ none ∧ Q (.dat ((lookN kvs k).getD d)) r2) : xGet2N i b f X r Q := ⟨⟨kvs, e⟩, h⟩
def onN (o : Option DV) (k : List (D × D) → Prop) : Prop := match o with
  | some (.dct true kvs) => k kvs
  | _ => False
theorem v_onN {o kvs} {k : List (D × D) → Prop} (e : o = some (.dct true kvs)) (h : k kvs) : onN o k := by rw [e]; exact h
theorem v_xSortN {i : Nat} {Q : DV → Env → Prop} (h : onN (sl r i) fun kvs => PySem.W.AllAlike (kvs.map (·.1)) ∧ PySem.W.Sortable (kvs.map (·.1)) ∧ (∀ d ∈ kvs.map (·.1), d.depth ≤ 64) ∧ kvs.length ≤ 16777216 ∧ Q (.own ((kvs.map (·.1)).mergeSort RS2.leD)) r) : xSortN i X r Q := h
theorem v_ifCT {c : Bool} {a b : Prop} {s : Decidable (c = true)} (e : c = true) (h : a) : @ite Prop (c = true) s a b := by rw [if_pos e]; exact h
theorem v_ifCF {c : Bool} {a b : Prop} {s : Decidable (c = true)} (e : c = false) (h : b) : @ite Prop (c = true) s a b := by rw [if_neg (by rw [e]; intro z; cases z)]; exact h
/-- both ways give a value: one goal goes on -/
theorem ite_val {c : Bool} {Q : DV → Env → Prop} {a b : TX} {s : Decidable (c = true)} (u v : DV) (ha : ∀ K : DV → Env → Prop, K u r → a X r K) (hb : ∀ K : DV → Env → Prop, K v r → b X r K) (q : Q (if c = true then u else v) r) : @ite Prop (c = true) s (a X r Q) (b X r Q) := by
  cases c with
  | true => rw [if_pos rfl]; rw [if_pos rfl] at q; exact ha _ q
  | false => rw [if_neg (fun z => by cases z)]; rw [if_neg (fun z => by cases z)] at q; exact hb _ q
theorem ite_env {c : Bool} {a b : TS} {E : Ends} {s : Decidable (c = true)} (u v : Env) (ha : E.nx u → a E r) (hb : E.nx v → b E r) (q : E.nx (if c = true then u else v)) : @ite Prop (c = true) s (a E r) (b E r) := by
  cases c with
  | true => rw [if_pos rfl]; rw [if_pos rfl] at q; exact ha q
  | false => rw [if_neg (fun z => by cases z)]; rw [if_neg (fun z => by cases z)] at q; exact hb q
theorem ite_own {c : Bool} {u v : List D} : (if c = true then DV.own u else DV.own v) = .own (if c = true then u else v) := by cases c <;> rfl
theorem ite_dat {c : Bool} {u v : D} : (if c = true then DV.dat u else DV.dat v) = .dat (if c = true then u else v) := by cases c <;> rfl
/-- sorted data that are alike -/
theorem sort_map {α : Type} {G : α → D} {l : List α} (hal : ∀ a ∈ l, ∀ b ∈ l, PySem.W.alike (G a) (G b) = true) (ht : ∀ a ∈ l, ∃ x xs, G a = .tuple (x :: xs)) (hf : ∀ a ∈ l, Fine 64 300000 (G a)) (hl : l.length ≤ 16777216) (q : Q (.own ((l.mergeSort fun a b => RS2.leD (G a) (G b)).map G))) : nSortD [.list (l.map G)] Q := by
  refine ⟨?_, ?_, ?_, ?_, ?_⟩
  · intro d hd d' hd'
    obtain ⟨a, ha, rfl⟩ := List.mem_map.mp hd
    obtain ⟨b, hb, rfl⟩ := List.mem_map.mp hd'
    exact hal a ha b hb
  · refine .inl fun d hd => ?_
    obtain ⟨a, ha, rfl⟩ := List.mem_map.mp hd
    exact ht a ha
  · intro d hd
    obtain ⟨a, ha, rfl⟩ := List.mem_map.mp hd
    have r := (hf a ha).repr (by decide) (by decide)
    exact ⟨r.1, r.2.2.1, by rw [line_eq]; exact r.2.2.2⟩
  · rw [List.length_map]
    exact Nat.le_trans hl (by decide)
  · have e : (l.map G).mergeSort RS2.leD = (l.mergeSort (fun a b => RS2.leD (G a) (G b))).map G :=
      (List.map_mergeSort (r := fun a b => RS2.leD (G a) (G b)) (s := RS2.leD) (f := G) (l := l) (fun a _ b _ => rfl)).symm
    rw [e]
    exact q
end
end DL

/-! DL: steps for DMx (range as a value), DMw (one-key displays); comprehensions whose first turn freezes a list; sorted couples of numbers. -/
namespace DL
open PySem
section
variable {X : XW} {r : Env}
theorem v_xRng {a} {Q : DV → Env → Prop} (h : a X r fun g r1 => onI (g r1) fun n => Q (.rng n) r1) : xRng a X r Q := h
theorem v_own3 {i i2 i3 k} (e : notOwn r i) (e2 : notOwn r i2) (e3 : notOwn r i3) (h : k) : (∀ j ∈ [i, i2, i3], notOwn r j) ∧ k := ⟨fun j hj ds => by
  simp only [List.mem_cons, List.not_mem_nil, or_false] at hj
  rcases hj with rfl | rfl | rfl
  · exact e ds
  · exact e2 ds
  · exact e3 ds, h⟩
theorem v_own4 {i i2 i3 i4 k} (e : notOwn r i) (e2 : notOwn r i2) (e3 : notOwn r i3) (e4 : notOwn r i4) (h : k) : (∀ j ∈ [i, i2, i3, i4], notOwn r j) ∧ k := ⟨fun j hj ds => by
  simp only [List.mem_cons, List.not_mem_nil, or_false] at hj
  rcases hj with rfl | rfl | rfl | rfl
  · exact e ds
  · exact e2 ds
  · exact e3 ds
  · exact e4 ds, h⟩
def onRng (o : Option DV) (k : Int → Prop) : Prop := match o with
  | some (.rng n) => k n
  | _ => False
theorem v_onRng {o n} {k : Int → Prop} (e : o = some (.rng n)) (h : k n) : onRng o k := by rw [e]; exact h
theorem v_wRngV {i : Nat} {Q : List D → Env → Prop} (h : onRng (sl r i) fun n => (-(2 ^ 62) ≤ n ∧ n < 2 ^ 62) ∧ Q (rangeL 0 n) r) : wRngV i X r Q := h
theorem v_xNOne {o f} {Q : DV → Env → Prop} (h : o X r fun g r1 => f X r1 fun dv r2 => on2 (g r2) dv.toD fun k d => keyN k ≠ none ∧ Q (.dct true [(k, d)]) r2) : xNOne o f X r Q := h
end
section
/-- a comprehension whose first turn may freeze a list -/
theorem lcL_fzf {α : Type} {xs : List α} {r0 r' : Env} {own : List Nat} {g : TG} {t : TB} {f : TX} {Q : List D → Env → Prop} (F : α → D) (p : α → Bool) (G : α → D) (hr : r0 = r0) (hl : xs.length ≤ 16777216) (s : ∀ x ∈ xs, ∀ r1, (r1 = r0 ∨ r1 = r') → ∀ (acc : List D) (K : List D → Env → Prop), acc.length < 16777216 → K (if p x = true then acc ++ [G x] else acc) r' → g (.dat (F x)) r1 fun r1 => t noX r1 fun b r2 => if b = true then
      f noX r2 fun dv r3 => on1 dv.toD fun d => acc.length < 16777216 ∧ cl2 r3 own fun r4 => K (acc ++ [d]) r4
    else cl2 r2 own fun r4 => K acc r4) (q : ∀ r1, (r1 = r0 ∨ r1 = r') → Q ((xs.filter p).map G) r1) : lcL own g t f (xs.map F) [] r0 Q := by
  refine lcL_iv (fun i acc r1 => acc = ((xs.take i).filter p).map G ∧ (r1 = r0 ∨ r1 = r')) ⟨rfl, .inl rfl⟩ ?_ ?_
  · rintro i x acc r1 K hx ⟨rfl, h1⟩ hK
    rw [List.getElem?_map, Option.map_eq_some_iff] at hx
    obtain ⟨a, ha, rfl⟩ := hx
    have hi := (List.getElem?_eq_some_iff.mp ha).1
    refine s a (List.mem_of_getElem? ha) r1 h1 _ K ?_ (hK _ _ ⟨?_, .inr rfl⟩)
    · have := List.length_filter_le p (xs.take i)
      rw [List.length_take] at this
      rw [List.length_map]
      omega
    · rw [List.take_add_one, ha, List.filter_append, List.map_append]
      cases e : p a with
      | true => rw [if_pos rfl, show (some a).toList = [a] from rfl, List.filter_cons_of_pos e]; rfl
      | false => rw [if_neg (by decide), show (some a).toList = [a] from rfl, List.filter_cons_of_neg (by rw [e]; decide)]; simp
  · rintro acc r1 ⟨rfl, h1⟩
    rw [List.length_map, List.take_length]
    exact q r1 h1
theorem lcL_fzm {α : Type} {xs : List α} {r0 r' : Env} {own : List Nat} {g : TG} {t : TB} {f : TX} {Q : List D → Env → Prop} (F : α → D) (G : α → D) (hl : xs.length ≤ 16777216) (s : ∀ x ∈ xs, ∀ r1, (r1 = r0 ∨ r1 = r') → ∀ (acc : List D) (K : List D → Env → Prop), acc.length < 16777216 → K (acc ++ [G x]) r' → g (.dat (F x)) r1 fun r1 => t noX r1 fun b r2 => if b = true then
      f noX r2 fun dv r3 => on1 dv.toD fun d => acc.length < 16777216 ∧ cl2 r3 own fun r4 => K (acc ++ [d]) r4
    else cl2 r2 own fun r4 => K acc r4) (q : ∀ r1, (r1 = r0 ∨ r1 = r') → Q (xs.map G) r1) : lcL own g t f (xs.map F) [] r0 Q :=
  lcL_fzf F (fun _ => true) G rfl hl s fun r1 h1 => by
    rw [List.filter_eq_self.mpr fun _ _ => rfl]
    exact q r1 h1
end
section
abbrev pairD (p : Nat × Nat) : D := .tuple [.int ((p.1 : Nat) : Int), .int ((p.2 : Nat) : Int)]
theorem keyN_pair (p : Nat × Nat) : keyN (pairD p) = some (.tup [.num ((p.1 : Nat) : Int), .num ((p.2 : Nat) : Int)]) := rfl
theorem keyN_pair_eq {p q : Nat × Nat} : keyN (pairD p) = keyN (pairD q) ↔ p = q := by
  constructor
  · intro h
    have h1 := NestedKey.tup.inj (Option.some.inj h)
    have h2 := (List.cons.inj h1).1
    have h3 := (List.cons.inj (List.cons.inj h1).2).1
    have h4 := Int.ofNat.inj (NestedKey.num.inj h2)
    have h5 := Int.ofNat.inj (NestedKey.num.inj h3)
    exact Prod.ext h4 h5
  · rintro rfl; rfl
def leP (p q : Nat × Nat) : Prop := p.1 < q.1 ∨ (p.1 = q.1 ∧ p.2 ≤ q.2)
instance : DecidableRel leP := fun p q => by unfold leP; exact inferInstance
theorem sort_ii {es w : List (Nat × Nat)} (hp : es.Perm w) (hw : w.Pairwise leP) : (es.map pairD).mergeSort RS2.leD = w.map pairD := by
  have e : (fun a b : Nat × Nat => RS2.leD (pairD a) (pairD b)) = fun p q => decide (leP p q) := by
    have h := PySem.W.dataLe_ii (β := Nat × Nat) (fun p => ((p.1 : Nat) : Int)) (fun p => ((p.2 : Nat) : Int))
    funext p q
    have h2 := congrFun (congrFun h p) q
    have e1 : RS2.leD (pairD p) (pairD q) = PySem.W.dataLe false (fun b : Nat × Nat => .tuple [.int ((b.1 : Nat) : Int), .int ((b.2 : Nat) : Int)]) p q := rfl
    rw [e1, h2]
    refine decide_eq_decide.mpr ?_
    unfold leP
    show ((p.1 : Nat) : Int) < ((q.1 : Nat) : Int) ∨ (((p.1 : Nat) : Int) = ((q.1 : Nat) : Int) ∧ ((p.2 : Nat) : Int) ≤ ((q.2 : Nat) : Int)) ↔ _
    omega
  have m : (es.map pairD).mergeSort RS2.leD = (es.mergeSort (fun a b => RS2.leD (pairD a) (pairD b))).map pairD :=
    (List.map_mergeSort (r := fun a b => RS2.leD (pairD a) (pairD b)) (s := RS2.leD) (f := pairD) (l := es) (fun a _ b _ => rfl)).symm
  rw [m, e]
  congr 1
  have s1 : (es.mergeSort fun p q => decide (leP p q)).Pairwise leP := by
    have := List.pairwise_mergeSort (le := fun p q => decide (leP p q)) (fun a b c h1 h2 => by
      have h1 := of_decide_eq_true h1
      have h2 := of_decide_eq_true h2
      refine decide_eq_true ?_
      unfold leP at *
      omega) (fun a b => by
      rw [Bool.or_eq_true, decide_eq_true_eq, decide_eq_true_eq]
      unfold leP
      omega) es
    exact this.imp fun h => of_decide_eq_true h
  refine List.Perm.eq_of_pairwise (le := leP) (fun a b _ _ h1 h2 => ?_) s1 hw ((List.mergeSort_perm ..).trans hp)
  unfold leP at *
  exact Prod.ext (by omega) (by omega)
theorem alike_pairs (l : List (Nat × Nat)) : PySem.W.AllAlike (l.map pairD) := by
  intro d hd d' hd'
  obtain ⟨p, _, rfl⟩ := List.mem_map.mp hd
  obtain ⟨q, _, rfl⟩ := List.mem_map.mp hd'
  rfl
theorem sortable_pairs (l : List (Nat × Nat)) : PySem.W.Sortable (l.map pairD) := .inl fun d hd => by
  obtain ⟨p, _, rfl⟩ := List.mem_map.mp hd
  exact ⟨_, _, rfl⟩
end
end DL

/-! DL: each step found by its head. -/
namespace DL
open PySem
class Step (P : Prop) (P1 : outParam Prop) : Prop where
  go : P1 → P
class Go (P : Prop) : Prop
theorem goG {P : Prop} [Go P] (h : P) : P := h
section
section
variable {X : XW} {r : Env} {E : Ends} {E0 : Err → Prop}
instance g_v_on1 {o} {k : D → Prop} : Go (on1 o k) := ⟨⟩
instance g_v_on2 {o p} {k : D → D → Prop} : Go (on2 o p k) := ⟨⟩
instance g_v_on3 {d l hh} {k : D → Option Int → Option Int → Prop} : Go (on3 d l hh k) := ⟨⟩
instance g_v_onL {o} {k : List D → Prop} : Go (onL o k) := ⟨⟩
instance (priority := 1984) i_v_onB {b} {k : Bool → Prop} : Step (onB (.dat (.bool b)) k) (k b) := ⟨v_onB⟩
instance g_v_onI {o} {k : Int → Prop} : Go (onI o k) := ⟨⟩
instance (priority := 1990) i_v_xC {d} {Q : DV → Env → Prop} : Step (xC d X r Q) (Q (.dat d) r) := ⟨v_xC⟩
instance g_v_xVarD {i} {Q : DV → Env → Prop} : Go (xVar i X r Q) := ⟨⟩
instance g_v_xVarB {i} {Q : DV → Env → Prop} : Go (xVar i X r Q) := ⟨⟩
instance g_v_xVarO {i} {Q : DV → Env → Prop} : Go (xVar i X r Q) := ⟨⟩
instance g_v_xMv {i} {Q : DV → Env → Prop} : Go (xMv i X r Q) := ⟨⟩
instance g_v_oV {i} {Q : Get → Env → Prop} : Go (oV i X r Q) := ⟨⟩
instance (priority := 1996) i_v_oE {f} {Q : Get → Env → Prop} : Step (oE f X r Q) (f X r fun dv r1 => on1 dv.toD fun d => Q (fun _ => some d) r1) := ⟨v_oE⟩
instance (priority := 1994) i_v_xB {o a b} {Q : DV → Env → Prop} : Step (xB o a b X r Q) (a X r fun g r1 => b X r1 fun h r2 => on2 (g r2) (h r2) fun x y => o x y fun v => Q v r2) := ⟨v_xB⟩
instance (priority := 1973) i_v_xU {o a} {Q : DV → Env → Prop} : Step (xU o a X r Q) (a X r fun g r1 => on1 (g r1) fun x => o x fun v => Q v r1) := ⟨v_xU⟩
instance (priority := 1942) i_v_onCmp {b : Bool} {k l : Prop} : Step (onCmp (.dat (.bool b)) k l) (if b = true then k else l) := ⟨v_onCmp⟩
instance (priority := 1941) i_v_xCh {o o' a b c} {Q : DV → Env → Prop} : Step (xCh o o' a b c X r Q) (a X r fun g r1 => b X r1 fun h r2 => on2 (g r2) (h r2) fun x y => o x y fun v => onCmp v (c X r2 fun k r3 => on2 (h r3) (k r3) fun y' z => o' y' z fun w => onB w fun q => Q (.dat (.bool q)) r3) (Q (.dat (.bool false)) r2)) := ⟨v_xCh⟩
instance (priority := 1982) i_v_oNil {Q : List Get → Env → Prop} : Step (oNil X r Q) (Q [] r) := ⟨v_oNil⟩
instance (priority := 1983) i_v_oCons {a t} {Q : List Get → Env → Prop} : Step (oCons a t X r Q) (a X r fun g r1 => t X r1 fun gs r2 => Q (g :: gs) r2) := ⟨v_oCons⟩
instance (priority := 1976) i_v_xCB {o t} {Q : DV → Env → Prop} : Step (xCB o t X r Q) (t X r fun gs r1 => onL (gets gs r1) fun ds => o ds fun v => Q v r1) := ⟨v_xCB⟩
instance (priority := 1977) i_v_aNil {Q : List DV → Env → Prop} : Step (aNil X r Q) (Q [] r) := ⟨v_aNil⟩
instance (priority := 1981) i_v_aCons {f t} {Q : List DV → Env → Prop} : Step (aCons f t X r Q) (f X r fun dv r1 => onArg dv fun w => t X r1 fun vs r2 => Q (w :: vs) r2) := ⟨v_aCons⟩
instance (priority := 1980) i_v_argD {d} {k : DV → Prop} : Step (onArg (.dat d) k) (k (.dat d)) := ⟨v_argD⟩
instance (priority := 1978) i_v_argO {ds} {k : DV → Prop} : Step (onArg (.own ds) k) (k (.dat (.list ds))) := ⟨v_argO⟩
instance (priority := 1979) i_v_argB {k : DV → Prop} : Step (onArg .bag k) (k .bag) := ⟨v_argB⟩
instance (priority := 1974) i_v_xCall {S : Spec} {t} {Q : DV → Env → Prop} : Step (xCall S t X r Q) (t X r fun vs r1 => S vs (fun v => Q v r1) fun e => X e r1) := ⟨v_xCall⟩
instance (priority := 1969) i_v_xTup {t} {Q : DV → Env → Prop} : Step (xTup t X r Q) (t X r fun vs r1 => onL (allD vs) fun ds => ds.length ≤ 16777216 ∧ Q (.dat (.tuple ds)) r1) := ⟨v_xTup⟩
instance (priority := 1968) i_v_xLst {t} {Q : DV → Env → Prop} : Step (xLst t X r Q) (t X r fun vs r1 => onL (allD vs) fun ds => ds.length ≤ 16777216 ∧ Q (.own ds) r1) := ⟨v_xLst⟩
instance (priority := 1985) i_v_bX {f} {Q : Bool → Env → Prop} : Step (bX f X r Q) (f X r fun dv r1 => onB dv fun b => Q b r1) := ⟨v_bX⟩
instance (priority := 1966) i_v_bO {a} {Q : Bool → Env → Prop} : Step (bO a X r Q) (a X r fun g r1 => onTB (g r1) fun b => Q b r1) := ⟨v_bO⟩
instance g_v_tB {o} {k : Bool → Prop} : Go (onTB o k) := ⟨⟩
instance g_v_tI {o} {k : Bool → Prop} : Go (onTB o k) := ⟨⟩
instance g_v_tL {o} {k : Bool → Prop} : Go (onTB o k) := ⟨⟩
instance g_v_tT {o} {k : Bool → Prop} : Go (onTB o k) := ⟨⟩
instance g_v_tN {o} {k : Bool → Prop} : Go (onTB o k) := ⟨⟩
instance g_v_tS {o} {k : Bool → Prop} : Go (onTB o k) := ⟨⟩
instance (priority := 1887) i_v_ifN {b : Bool} {p q : Prop} {s : Decidable ((!b) = true)} : Step (@ite Prop ((!b) = true) s p q) (if b = true then q else p) := ⟨v_ifN⟩
instance (priority := 1965) i_v_bAnd {a b} {Q : Bool → Env → Prop} : Step (bAnd a b X r Q) (a X r fun c r1 => if c = true then b X r1 Q else Q false r1) := ⟨v_bAnd⟩
instance (priority := 1964) i_v_bOr {a b} {Q : Bool → Env → Prop} : Step (bOr a b X r Q) (a X r fun c r1 => if c = true then Q true r1 else b X r1 Q) := ⟨v_bOr⟩
instance (priority := 1963) i_v_bNot {a} {Q : Bool → Env → Prop} : Step (bNot a X r Q) (a X r fun c r1 => Q (!c) r1) := ⟨v_bNot⟩
instance (priority := 1962) i_v_bYes {Q : Bool → Env → Prop} : Step (bYes X r Q) (Q true r) := ⟨v_bYes⟩
instance (priority := 1972) i_v_xAnd {a b} {Q : DV → Env → Prop} : Step (xAnd a b X r Q) (a X r fun dv r1 => onB dv fun c => if c = true then b X r1 Q else Q (.dat (.bool false)) r1) := ⟨v_xAnd⟩
instance (priority := 1971) i_v_xOr {a b} {Q : DV → Env → Prop} : Step (xOr a b X r Q) (a X r fun dv r1 => onB dv fun c => if c = true then Q (.dat (.bool true)) r1 else b X r1 Q) := ⟨v_xOr⟩
instance (priority := 1970) i_v_xNot {a} {Q : DV → Env → Prop} : Step (xNot a X r Q) (a X r fun c r1 => Q (.dat (.bool (!c))) r1) := ⟨v_xNot⟩
instance (priority := 1967) i_v_xIf {t a b} {Q : DV → Env → Prop} : Step (xIf t a b X r Q) (t X r fun c r1 => if c = true then a X r1 Q else b X r1 Q) := ⟨v_xIf⟩
instance (priority := 1961) i_v_wX {f} {Q : List D → Env → Prop} : Step (wX f X r Q) (f X r fun dv r1 => on1 dv.toD fun d => onL (itemsOf d) fun ds => Q ds r1) := ⟨v_wX⟩
instance (priority := 1960) i_v_wRange1 {a} {Q : List D → Env → Prop} : Step (wRange1 a X r Q) (a X r fun g r1 => onI (g r1) fun n => (-(2 ^ 62) ≤ n ∧ n < 2 ^ 62) ∧ Q (rangeL 0 n) r1) := ⟨v_wRange1⟩
instance g_v_onII {o p} {k : Int → Int → Prop} : Go (onII o p k) := ⟨⟩
instance (priority := 1959) i_v_wRange2 {a b} {Q : List D → Env → Prop} : Step (wRange2 a b X r Q) (a X r fun g r1 => b X r1 fun h r2 => onII (g r2) (h r2) fun n m => (-(2 ^ 62) ≤ n ∧ n < 2 ^ 62 ∧ -(2 ^ 62) ≤ m ∧ m < 2 ^ 62) ∧ Q (rangeL n m) r2) := ⟨v_wRange2⟩
instance g_v_gN {i v} {Q : Env → Prop} : Go (gN i v r Q) := ⟨⟩
instance g_v_gT {gs ds} {Q : Env → Prop} : Go (gT gs (.dat (.tuple ds)) r Q) := ⟨⟩
instance (priority := 1958) i_v_gsN {Q : Env → Prop} : Step (gsAll [] [] r Q) (Q r) := ⟨v_gsN⟩
instance (priority := 1957) i_v_gsC {g gs d ds} {Q : Env → Prop} : Step (gsAll (g :: gs) (d :: ds) r Q) (g (.dat d) r fun r1 => gsAll gs ds r1 Q) := ⟨v_gsC⟩
instance (priority := 1956) i_v_pNo {Q : (Env → Option (Option Int)) → Env → Prop} : Step (pNo X r Q) (Q (fun _ => some none) r) := ⟨v_pNo⟩
instance (priority := 1955) i_v_pSome {o} {Q : (Env → Option (Option Int)) → Env → Prop} : Step (pSome o X r Q) (o X r fun g r1 => onI (g r1) fun i => Q (fun _ => some (some i)) r1) := ⟨v_pSome⟩
instance (priority := 1954) i_v_xCut {a lo hi} {Q : DV → Env → Prop} : Step (xCut a lo hi X r Q) (a X r fun g r1 => lo X r1 fun l r2 => hi X r2 fun h r3 => on3 (g r3) (l r3) (h r3) fun d i j => dCut d i j fun v => Q v r3) := ⟨v_xCut⟩
instance g_v_bk2 {r1 r2 own} {k : Env → Prop} : Go (bk2 r1 r2 own k) := ⟨⟩
instance (priority := 1953) i_v_xLc {own s g t f} {Q : DV → Env → Prop} : Step (xLc own s g t f X r Q) (s X r fun ds r1 => (∀ i ∈ own, notOwn r1 i) ∧ lcL own g t f ds [] (clrs r1 own) fun acc r2 => bk2 r1 r2 own fun r3 => Q (.own acc) r3) := ⟨v_xLc⟩
instance g_v_own1 {i k} : Go ((∀ j ∈ [i], notOwn r j) ∧ k) := ⟨⟩
instance g_v_own2 {i i' k} : Go ((∀ j ∈ [i, i'], notOwn r j) ∧ k) := ⟨⟩
instance g_v_lc {own g t f ds} {Q : List D → Env → Prop} : Go (lcL own g t f ds [] (clrs r own) Q) := ⟨⟩
section
variable {nx : Env → Prop} {rt : DV → Prop} {bk ct : Env → Prop} {ex : XW}
instance (priority := 1952) i_v_sNext  : Step (sNext ⟨nx, rt, bk, ct, ex⟩ r) (nx r) := ⟨v_sNext⟩
instance (priority := 1988) i_v_sSeq {a b} : Step (sSeq a b ⟨nx, rt, bk, ct, ex⟩ r) (a ⟨b ⟨nx, rt, bk, ct, ex⟩, rt, bk, ct, ex⟩ r) := ⟨v_sSeq⟩
instance (priority := 1987) i_v_sAsg {g f} : Step (sAsg g f ⟨nx, rt, bk, ct, ex⟩ r) (f ex r fun v r1 => g v r1 nx) := ⟨v_sAsg⟩
instance (priority := 1951) i_v_sPar {i j f k} : Step (sPar i j f k ⟨nx, rt, bk, ct, ex⟩ r) (f ex r fun v r1 => k ex r1 fun w r2 => gN i v r2 fun r3 => gN j w r3 nx) := ⟨v_sPar⟩
instance (priority := 1950) i_v_sDrop {f} : Step (sDrop f ⟨nx, rt, bk, ct, ex⟩ r) (f ex r fun _ r1 => nx r1) := ⟨v_sDrop⟩
instance (priority := 1949) i_v_sRet {f} : Step (sRet f ⟨nx, rt, bk, ct, ex⟩ r) (f ex r fun v _ => rt v) := ⟨v_sRet⟩
instance (priority := 1948) i_v_sRetN  : Step (sRetN ⟨nx, rt, bk, ct, ex⟩ r) (rt (.dat .none)) := ⟨v_sRetN⟩
instance (priority := 1986) i_v_sIf {t a b} : Step (sIf t a b ⟨nx, rt, bk, ct, ex⟩ r) (t ex r fun c r1 => if c = true then a ⟨nx, rt, bk, ct, ex⟩ r1 else b ⟨nx, rt, bk, ct, ex⟩ r1) := ⟨v_sIf⟩
instance (priority := 1947) i_v_sBrk  : Step (sBrk ⟨nx, rt, bk, ct, ex⟩ r) (bk r) := ⟨v_sBrk⟩
instance (priority := 1946) i_v_sCnt  : Step (sCnt ⟨nx, rt, bk, ct, ex⟩ r) (ct r) := ⟨v_sCnt⟩
instance g_v_sAug {i o b} : Go (sAug i o b ⟨nx, rt, bk, ct, ex⟩ r) := ⟨⟩
instance (priority := 1945) i_v_sFor {s g b} : Step (sFor s g b ⟨nx, rt, bk, ct, ex⟩ r) (s ex r fun ds r1 => forL g b ⟨nx, rt, bk, ct, ex⟩ ds r1) := ⟨v_sFor⟩
end
instance (priority := 1944) i_v_ifT {a b : Prop} {s : Decidable ((true : Bool) = true)} : Step (@ite Prop ((true : Bool) = true) s a b) (a) := ⟨v_ifT⟩
instance (priority := 1943) i_v_ifF {a b : Prop} {s : Decidable ((false : Bool) = true)} : Step (@ite Prop ((false : Bool) = true) s a b) (b) := ⟨v_ifF⟩
instance (priority := 1886) i_v_ifNonT {a b : Prop} {s : Decidable (isNon .none = true)} : Step (@ite Prop (isNon .none = true) s a b) (a) := ⟨v_ifNonT⟩
instance (priority := 1885) i_v_ifNonI {a b : Prop} {i : Int} {s : Decidable (isNon (.int i) = true)} : Step (@ite Prop (isNon (.int i) = true) s a b) (b) := ⟨v_ifNonI⟩
instance (priority := 1884) i_v_ifNonT_ {a b : Prop} {xs : List D} {s : Decidable (isNon (.tuple xs) = true)} : Step (@ite Prop (isNon (.tuple xs) = true) s a b) (b) := ⟨v_ifNonT'⟩
instance g_v_onO {o} {k : List D → Prop} : Go (onO o k) := ⟨⟩
instance g_v_onDO {o p} {k : D → List D → Prop} : Go (onDO o p k) := ⟨⟩
instance g_v_xApp {i f} {Q : DV → Env → Prop} : Go (xApp i f X r Q) := ⟨⟩
instance g_v_cl2 {own} {k : Env → Prop} : Go (cl2 r own k) := ⟨⟩
variable {Q : DV → Prop} {a b : Int} {xs ys : List D} {x y : Str} {d e : D}
instance (priority := 1894) i_v_dInt {f : Int → Int → D} : Step (dInt f (.int a) (.int b) Q) (Q (.dat (f a b))) := ⟨v_dInt⟩
instance (priority := 1940) i_v_addI  : Step (dAdd (.int a) (.int b) Q) (Q (.dat (.int (a + b)))) := ⟨v_addI⟩
instance (priority := 1921) i_v_addS  : Step (dAdd (.str x) (.str y) Q) (x.length + y.length ≤ 16777216 ∧ Q (.dat (.str (x ++ y)))) := ⟨v_addS⟩
instance (priority := 1923) i_v_addT  : Step (dAdd (.tuple xs) (.tuple ys) Q) (xs.length + ys.length ≤ 16777216 ∧ Q (.dat (.tuple (xs ++ ys)))) := ⟨v_addT⟩
instance (priority := 1922) i_v_addL  : Step (dAdd (.list xs) (.list ys) Q) (xs.length + ys.length ≤ 16777216 ∧ Q (.own (xs ++ ys))) := ⟨v_addL⟩
instance (priority := 1939) i_v_subI  : Step (dSub (.int a) (.int b) Q) (Q (.dat (.int (a - b)))) := ⟨v_subI⟩
instance (priority := 1920) i_v_mulI  : Step (dMul (.int a) (.int b) Q) (mulOk a b ∧ Q (.dat (.int (a * b)))) := ⟨v_mulI⟩
instance (priority := 1919) i_v_mulT  : Step (dMul (.tuple xs) (.int a) Q) ((0 ≤ a ∧ a ≤ 1000 ∧ 0 < xs.length ∧ xs.length ≤ 1000) ∧ Q (.dat (.tuple (List.replicate a.toNat xs).flatten))) := ⟨v_mulT⟩
instance (priority := 1918) i_v_mulL  : Step (dMul (.list xs) (.int a) Q) ((-(2 ^ 63) ≤ a ∧ a < 2 ^ 63 ∧ xs.length * a.toNat ≤ 16777216) ∧ Q (.own (List.replicate a.toNat xs).flatten)) := ⟨v_mulL⟩
instance (priority := 1917) i_v_div  : Step (dDiv (.int a) (.int b) Q) ((0 < b ∧ b < 2 ^ 200) ∧ Q (.dat (.int (a / b)))) := ⟨v_div⟩
instance (priority := 1916) i_v_mod  : Step (dMod (.int a) (.int b) Q) (0 < b ∧ Q (.dat (.int (a % b)))) := ⟨v_mod⟩
instance (priority := 1915) i_v_pow  : Step (dPow (.int a) (.int b) Q) ((0 ≤ b ∧ b ≤ 1000000 ∧ a.natAbs < 2 ^ 64) ∧ Q (.dat (.int (a ^ b.toNat)))) := ⟨v_pow⟩
instance (priority := 1914) i_v_neg  : Step (dNeg (.int a) Q) (Q (.dat (.int (-a)))) := ⟨v_neg⟩
instance (priority := 1938) i_v_eqI  : Step (dEq (.int a) (.int b) Q) (Q (.dat (.bool (a == b)))) := ⟨v_eqI⟩
instance (priority := 1935) i_v_neI  : Step (dNe (.int a) (.int b) Q) (Q (.dat (.bool (!(a == b))))) := ⟨v_neI⟩
instance g_v_eq  : Go (dEq d e Q) := ⟨⟩
instance g_v_ne  : Go (dNe d e Q) := ⟨⟩
instance (priority := 1932) i_v_ltI  : Step (dLt (.int a) (.int b) Q) (Q (.dat (.bool (decide (a < b))))) := ⟨v_ltI⟩
instance (priority := 1931) i_v_leI  : Step (dLe (.int a) (.int b) Q) (Q (.dat (.bool (decide (a ≤ b))))) := ⟨v_leI⟩
instance (priority := 1925) i_v_gtI  : Step (dGt (.int a) (.int b) Q) (Q (.dat (.bool (decide (b < a))))) := ⟨v_gtI⟩
instance (priority := 1924) i_v_geI  : Step (dGe (.int a) (.int b) Q) (Q (.dat (.bool (decide (b ≤ a))))) := ⟨v_geI⟩
instance (priority := 1934) i_v_is  : Step (dIs d .none Q) (Q (.dat (.bool (isNon d)))) := ⟨v_is⟩
instance (priority := 1933) i_v_isNot  : Step (dIsNot d .none Q) (Q (.dat (.bool (!isNon d)))) := ⟨v_isNot⟩
instance g_v_onX {o} {k : D → Prop} : Go (onX o k) := ⟨⟩
instance (priority := 1911) i_v_ixL  : Step (dIx (.list xs) (.int a) Q) (onX (L2.atI xs a) fun d => Q (.dat d)) := ⟨v_ixL⟩
instance (priority := 1910) i_v_ixT  : Step (dIx (.tuple xs) (.int a) Q) (onX (L2.atI xs a) fun d => Q (.dat d)) := ⟨v_ixT⟩
instance (priority := 1909) i_v_cutL {lo hi} : Step (dCut (.list xs) lo hi Q) (Q (.own (cutD xs lo hi))) := ⟨v_cutL⟩
instance (priority := 1908) i_v_cutT {lo hi} : Step (dCut (.tuple xs) lo hi Q) (Q (.dat (.tuple (cutD xs lo hi)))) := ⟨v_cutT⟩
instance (priority := 1907) i_v_cutS {lo hi} : Step (dCut (.str x) lo hi Q) (x.length ≤ 16777216 ∧ Q (.dat (.str (cutC x lo hi)))) := ⟨v_cutS⟩
instance (priority := 1906) i_v_lenL  : Step (nLen [.list xs] Q) (Q (.dat (.int xs.length))) := ⟨v_lenL⟩
instance (priority := 1905) i_v_lenT  : Step (nLen [.tuple xs] Q) (Q (.dat (.int xs.length))) := ⟨v_lenT⟩
instance (priority := 1904) i_v_lenS  : Step (nLen [.str x] Q) (x.length ≤ 16777216 ∧ Q (.dat (.int x.length))) := ⟨v_lenS⟩
instance (priority := 1903) i_v_repr  : Step (nRepr [d] Q) ((d.showable = true ∧ d.hasDict = false ∧ d.depth ≤ 64 ∧ d.shown.length ≤ 16777216) ∧ Q (.dat (.str d.shown))) := ⟨v_repr⟩
instance (priority := 1902) i_v_tupL  : Step (nTuple [.list xs] Q) (Q (.dat (.tuple xs))) := ⟨v_tupL⟩
instance (priority := 1901) i_v_tupT  : Step (nTuple [.tuple xs] Q) (Q (.dat (.tuple xs))) := ⟨v_tupT⟩
instance (priority := 1900) i_v_lstL  : Step (nList [.list xs] Q) (Q (.own xs)) := ⟨v_lstL⟩
instance (priority := 1899) i_v_lstT  : Step (nList [.tuple xs] Q) (Q (.own xs)) := ⟨v_lstT⟩
instance (priority := 1898) i_v_intI  : Step (nInt [.int a] Q) (Q (.dat (.int a))) := ⟨v_intI⟩
instance (priority := 1897) i_v_abs  : Step (nAbs [.int a] Q) (Q (.dat (.int (if a < 0 then -a else a)))) := ⟨v_abs⟩
instance (priority := 1896) i_v_maxI  : Step (nMax [.int a, .int b] Q) (Q (.dat (.int (if b > a then b else a)))) := ⟨v_maxI⟩
instance (priority := 1895) i_v_minI  : Step (nMin [.int a, .int b] Q) (Q (.dat (.int (if b < a then b else a)))) := ⟨v_minI⟩
end
end
section
section
variable {X : XW} {r : Env}
instance g_v_onDc {o p} {k : D → List (D × D) → Prop} : Go (onDc o p k) := ⟨⟩
instance g_v_xDGet {i b} {Q : DV → Env → Prop} : Go (xDGet i b X r Q) := ⟨⟩
instance (priority := 1857) i_v_xDIn {neg i b} {Q : DV → Env → Prop} : Step (xDIn neg i b X r Q) (b X r fun g r1 => onDc (g r1) (sl r1 i) fun k kvs => keyD k ≠ none ∧ Q (.dat (.bool (neg != (lookD kvs k).isSome))) r1) := ⟨v_xDIn⟩
instance g_v_exD {i} {k : Prop} : Go (exD r i k) := ⟨⟩
instance (priority := 1855) i_v_sDPut {i b f nx rt bk ct ex} : Step (sDPut i b f ⟨nx, rt, bk, ct, ex⟩ r) (f ex r fun dv r1 => on1 dv.toD fun d => exD r1 i (b ex r1 fun g r2 => onDc (g r2) (sl r2 i) fun k kvs => keyD k ≠ none ∧ kvs.length < 16777216 ∧ gN i (.dct false (putD kvs k d)) r2 nx)) := ⟨v_sDPut⟩
instance (priority := 1856) i_v_xDNew {Q : DV → Env → Prop} : Step (xDNew X r Q) (Q (.dct false []) r) := ⟨v_xDNew⟩
instance g_v_xDOne {k f} {Q : DV → Env → Prop} : Go (xDOne k f X r Q) := ⟨⟩
instance g_v_onSN {o p} {k : Str → List D → Prop} : Go (onSN o p k) := ⟨⟩
instance (priority := 1842) i_v_onSs {ss : List Str} {k : List Str → Prop} : Step (onSs (strsOf (ss.map .str)) k) (k ss) := ⟨v_onSs⟩
instance g_v_xTIdx {i b} {Q : DV → Env → Prop} : Go (xTIdx i b X r Q) := ⟨⟩
instance g_v_onLD {o p} {k : List D → D → Prop} : Go (onLD o p k) := ⟨⟩
instance g_v_exL {o} {k : Prop} : Go (exL o k) := ⟨⟩
instance (priority := 1843) i_v_xLIdx {a b} {Q : DV → Env → Prop} : Step (xLIdx a b X r Q) (a X r fun g r1 => exL (g r1) (b X r1 fun h r2 => onLD (g r2) (h r2) fun xs y => okD (.list xs) ∧ okD y ∧ ∃ (j : Nat) (z : D), xs[j]? = some z ∧ PyData.eqv z y = true ∧ (∀ (m : Nat) (z' : D), m < j → xs[m]? = some z' → PyData.eqv z' y = false) ∧ Q (.dat (.int (j : Nat))) r2)) := ⟨v_xLIdx⟩
instance g_v_xVarN {i} {Q : DV → Env → Prop} : Go (xVar i X r Q) := ⟨⟩
instance (priority := 1865) i_v_argN {ds} {k : DV → Prop} : Step (onArg (.nd ds) k) (k (.dat (.tuple ds))) := ⟨v_argN⟩
instance (priority := 1864) i_v_tupN {xs} {Q : DV → Prop} : Step (nTupN [.list xs] Q) (Q (.nd xs)) := ⟨v_tupN⟩
instance g_v_onTTl {o} {k : List D → List D → Prop} : Go (onTT o k) := ⟨⟩
instance g_v_onTT {o} {k : List D → List D → Prop} : Go (onTT o k) := ⟨⟩
instance (priority := 1863) i_v_wZip {t} {Q : List D → Env → Prop} : Step (wZip t X r Q) (t X r fun vs r1 => onTT (allD vs) fun xs ys => Q (zipD xs ys) r1) := ⟨v_wZip⟩
instance (priority := 1862) i_v_avN {Q : List DV → Env → Prop} : Step (avL [] X r Q) (Q [] r) := ⟨v_avN⟩
instance (priority := 1861) i_v_avC {f fs} {Q : List DV → Env → Prop} : Step (avL (f :: fs) X r Q) (f X r fun u r1 => avL fs X r1 fun us r2 => Q (u :: us) r2) := ⟨v_avC⟩
instance (priority := 1860) i_v_sMul {is fs nx rt bk ct ex} : Step (sMul is fs ⟨nx, rt, bk, ct, ex⟩ r) (avL fs ex r fun us r1 => gAll is us r1 nx) := ⟨v_sMul⟩
instance (priority := 1859) i_v_gAllN {us : List DV} {k : Env → Prop} : Step (gAll [] us r k) (k r) := ⟨v_gAllN⟩
instance (priority := 1858) i_v_gAllC {i is} {u : DV} {us : List DV} {k : Env → Prop} : Step (gAll (i :: is) (u :: us) r k) (gN i u r fun r1 => gAll is us r1 k) := ⟨v_gAllC⟩
instance g_v_onLO {o p} {k : List D → List D → Prop} : Go (onLO o p k) := ⟨⟩
instance g_v_xMt {i o t} {Q : DV → Env → Prop} : Go (xMeth i o t X r Q) := ⟨⟩
instance (priority := 1872) i_v_mExt {es xs : List D} {Q : List D → DV → Prop} : Step (mExtend es [.list xs] Q) (es.length + xs.length ≤ 16777216 ∧ Q (es ++ xs) (.dat .none)) := ⟨v_mExt⟩
instance g_v_bk3 {r0 r2 vs i0 ds} {k : Env → Prop} : Go (bk3 r0 r2 vs i0 ds k) := ⟨⟩
instance g_v_xLcO {vs i0 g t f} {Q : DV → Env → Prop} : Go (xLcO vs i0 g t f X r Q) := ⟨⟩
variable {own : List Nat} {g : TG} {t : TB} {f : TX} {Q : List D → Env → Prop}
end
section
variable {r : Env} {nx : Env → Prop} {rt : DV → Prop} {bk ct : Env → Prop} {ex : XW} {g : TG} {b : TS}
end
end
section
section
variable {X : XW} {r : Env} {nx : Env → Prop} {rt : DV → Prop} {bk ct : Env → Prop} {ex : XW}
instance (priority := 1824) i_v_sRaise {x ns t} : Step (sRaise x ns t ⟨nx, rt, bk, ct, ex⟩ r) (t ex r fun vs r1 => onL (allD vs) fun ds => ds.length = ns.length ∧ ex ⟨x, (ns.zip ds).reverse⟩ r1) := ⟨v_sRaise⟩
instance (priority := 1823) i_v_sTry {cs i p h} : Step (sTry cs i p h ⟨nx, rt, bk, ct, ex⟩ r) (p ⟨nx, rt, bk, ct, onEx cs i h rt ex⟩ r) := ⟨v_sTry⟩
instance g_v_onEx {cs : List (Str × Bool)} {i h er} : Go (onEx cs i h rt ex er r) := ⟨⟩
instance g_v_onExF {cs : List (Str × Bool)} {i h er} : Go (onEx cs i h rt ex er r) := ⟨⟩
instance (priority := 1820) i_v_hRetT {t er} : Step (hRetT t er rt) (t er fun ds => ds.length ≤ 16777216 ∧ rt (.dat (.tuple ds))) := ⟨v_hRetT⟩
instance (priority := 1819) i_v_hNil {er} {Q : List D → Prop} : Step (hNil er Q) (Q []) := ⟨v_hNil⟩
instance (priority := 1818) i_v_hCons {g t er} {Q : List D → Prop} : Step (hCons g t er Q) (g er fun d => t er fun ds => Q (d :: ds)) := ⟨v_hCons⟩
instance (priority := 1817) i_v_hC {d er} {Q : D → Prop} : Step (hC d er Q) (Q d) := ⟨v_hC⟩
instance g_v_hF {x f er} {Q : D → Prop} : Go (hF x f er Q) := ⟨⟩
instance g_v_onTLt {o} {k : List D → Prop} : Go (onTL o k) := ⟨⟩
instance g_v_onTLl {o} {k : List D → Prop} : Go (onTL o k) := ⟨⟩
instance (priority := 1813) i_v_aStar {f t} {Q : List DV → Env → Prop} : Step (aStar f t X r Q) (f X r fun dv r1 => onTL dv.toD fun ds => t X r1 fun vs r2 => Q (ds.map .dat ++ vs) r2) := ⟨v_aStar⟩
instance g_v_onLA {ds : List D} {vs : List DV} {k : List D → Prop} : Go (onL (allD (ds.map .dat ++ vs)) k) := ⟨⟩
instance (priority := 1811) i_v_xLc2 {vs vs1 s g t s1 g1 t1 f} {Q : DV → Env → Prop} : Step (xLc2 vs vs1 s g t s1 g1 t1 f X r Q) (s X r fun ds r1 => (∀ i ∈ vs, notOwn r1 i) ∧ cl2 r1 vs fun r0 => lcL2 vs vs1 g t s1 g1 t1 f ds [] r0 fun acc r2 => bk2 r1 r2 vs fun r3 => Q (.own acc) r3) := ⟨v_xLc2⟩
section
variable {vs vs1 : List Nat} {g g1 : TG} {t t1 : TB} {s1 : SX} {f : TX} {Q : List D → Env → Prop}
end
instance g_v_onIO {o p} {k : Int → List D → Prop} : Go (onIO o p k) := ⟨⟩
instance g_v_exO {i} {k : Prop} : Go (exO r i k) := ⟨⟩
instance (priority := 1810) i_v_sSetI {i b f} : Step (sSetI i b f ⟨nx, rt, bk, ct, ex⟩ r) (f ex r fun dv r1 => on1 dv.toD fun d => exO r1 i (b ex r1 fun g r2 => onIO (g r2) (sl r2 i) fun k ds => ∃ j, L2.ixN ds.length k = some j ∧ gN i (.own (ds.set j d)) r2 nx)) := ⟨v_sSetI⟩
instance (priority := 1809) i_v_sAugI {i op b c} : Step (sAugI i op b c ⟨nx, rt, bk, ct, ex⟩ r) (exO r i (b ex r fun g r1 => onIO (g r1) (sl r1 i) fun k ds => onI (L2.atI ds k) fun x => c ex r1 fun h r2 => onIO (h r2) (sl r2 i) fun y es => ∃ j, L2.ixN es.length k = some j ∧ gN i (.own (es.set j (.int (op x y)))) r2 nx)) := ⟨v_sAugI⟩
instance g_v_onDD {o p q} {k : D → D → List (D × D) → Prop} : Go (onDD o p q k) := ⟨⟩
instance g_v_xDGet2 {i b f} {Q : DV → Env → Prop} : Go (xDGet2 i b f X r Q) := ⟨⟩
instance g_v_xDSetd {i b f} {Q : DV → Env → Prop} : Go (xDSetd i b f X r Q) := ⟨⟩
instance (priority := 1803) i_v_mulII {a b : Int} {Q : DV → Prop} : Step (dMulI (.int a) (.int b) Q) (mulOk a b ∧ Q (.dat (.int (a * b)))) := ⟨v_mulII⟩
instance (priority := 1802) i_v_isTy {tn d} {Q : DV → Prop} : Step (dIsTy tn d Q) (Q (.dat (.bool (isTy tn d)))) := ⟨v_isTy⟩
end
instance g_v_neShown {d : D} {Q : DV → Prop} : Go (dNe (.str d.shown) (.str d.shown) Q) := ⟨⟩
instance g_v_eqShown {d : D} {Q : DV → Prop} : Go (dEq (.str d.shown) (.str d.shown) Q) := ⟨⟩
end
section
section
variable {X : XW} {r : Env} {nx : Env → Prop} {rt : DV → Prop} {bk ct : Env → Prop} {ex : XW}
instance (priority := 1784) i_v_sRaise0 {x} : Step (sRaise0 x ⟨nx, rt, bk, ct, ex⟩ r) (ex ⟨x, []⟩ r) := ⟨v_sRaise0⟩
instance (priority := 1783) i_v_sTryM {ms p} : Step (sTryM ms p ⟨nx, rt, bk, ct, ex⟩ r) (p ⟨nx, rt, bk, ct, onMx ms rt ex⟩ r) := ⟨v_sTryM⟩
instance g_v_xLam {told ms vs} {f : TX} {Q : DV → Env → Prop} : Go (xLam told ms vs f X r Q) := ⟨⟩
instance g_v_onLv {told r2 r' dv} {Q : DV → Env → Prop} : Go (onLv told Q r2 dv r') := ⟨⟩
instance (priority := 1780) i_v_onLx {ms er r2 r'} {Q : DV → Env → Prop} : Step (onLx ms Q r2 er r') (hsel ms er (fun dv => Q dv r2) fun _ => False) := ⟨v_onLx⟩
instance (priority := 1778) i_v_intB {b : Bool} {Q : DV → Prop} : Step (nInt [.bool b] Q) (Q (.dat (.int (if b then 1 else 0)))) := ⟨v_intB⟩
instance g_v_hIfT {cs : List (Str × Bool)} {h1 h2 : SH} {er : Err} {Q : DV → Prop} : Go (hIf cs h1 h2 er Q) := ⟨⟩
instance g_v_hIfF {cs : List (Str × Bool)} {h1 h2 : SH} {er : Err} {Q : DV → Prop} : Go (hIf cs h1 h2 er Q) := ⟨⟩
instance (priority := 1779) i_v_hRetC {ds er} {Q : DV → Prop} : Step (hRetC ds er Q) (ds.length ≤ 16777216 ∧ Q (.dat (.tuple ds))) := ⟨v_hRetC⟩
end
end
section
section
variable {rs : List (Str × Int × Bool)} {ks : List Kd} {Q : DV → Prop} {E : Err → Prop}
end
end
section
section
variable {X : XW} {r : Env} {x : D} {ds : List D} {Q : DV → Prop}
instance (priority := 1788) i_v_inL  : Step (dIn4 x (.list ds) Q) (okD x ∧ okD (.list ds) ∧ Q (.dat (.bool (isIn x ds)))) := ⟨v_inL⟩
instance (priority := 1787) i_v_notInL  : Step (dNotIn4 x (.list ds) Q) (okD x ∧ okD (.list ds) ∧ Q (.dat (.bool (!isIn x ds)))) := ⟨v_notInL⟩
instance (priority := 1801) i_v_wEnum {f : TX} {Q : List D → Env → Prop} : Step (wEnum f X r Q) (f X r fun dv r1 => onTL dv.toD fun xs => Q (enumD xs) r1) := ⟨v_wEnum⟩
instance (priority := 1786) i_v_inS {a b : Str} : Step (dIn4 (.str a) (.str b) Q) (Q (.dat (.bool (occurs a b)))) := ⟨v_inS⟩
instance (priority := 1785) i_v_notInS {a b : Str} : Step (dNotIn4 (.str a) (.str b) Q) (Q (.dat (.bool (!occurs a b)))) := ⟨v_notInS⟩
end
end
section
section
variable {X : XW} {r : Env} {Q : DV → Prop}
instance (priority := 1800) i_v_reprF {d : D} : Step (nReprF [d] Q) ((d.showable = true ∧ d.depth ≤ 64 ∧ d.shown.length ≤ 16777216) ∧ Q (.dat (.str d.shown))) := ⟨v_reprF⟩
instance (priority := 1799) i_v_eqS {d : D} {z : Str} : Step (dEqS d (.str z) Q) (Q (.dat (.bool (RV.isStrD d z)))) := ⟨v_eqS⟩
instance (priority := 1798) i_v_eqE {ds : List D} : Step (dEqE (.list ds) (.list []) Q) (Q (.dat (.bool ds.isEmpty))) := ⟨v_eqE⟩
instance (priority := 1797) i_v_neE {ds : List D} : Step (dNeE (.list ds) (.list []) Q) (Q (.dat (.bool (!ds.isEmpty)))) := ⟨v_neE⟩
instance (priority := 1796) i_v_argC {kvs : List (D × D)} {k : DV → Prop} : Step (onArg (.dct false kvs) k) (k (.dat (.dict kvs))) := ⟨v_argC⟩
instance g_v_onTI {o p} {k : List D → Int → Prop} : Go (onTI o p k) := ⟨⟩
instance (priority := 1795) i_v_xRev {a b} {Q : DV → Env → Prop} : Step (xRev a b X r Q) (a X r fun g r1 => b X r1 fun h r2 => onTI (g r2) (h r2) fun ds i => i = -1 ∧ Q (.dat (.tuple ds.reverse)) r2) := ⟨v_xRev⟩
instance g_v_onS {o} {k : Str → Prop} : Go (onS o k) := ⟨⟩
instance (priority := 1793) i_v_xUpper {a} {Q : DV → Env → Prop} : Step (xUpper a X r Q) (a X r fun g r1 => onS (g r1) fun x => x.length ≤ 5592405 ∧ Q (.dat (.str (PySem.Txt.upper x))) r1) := ⟨v_xUpper⟩
instance g_v_onSSs {o p} {k : Str → Str → Prop} : Go (onSS o p k) := ⟨⟩
instance g_v_isSx {o} {k : Prop} : Go (isSx o k) := ⟨⟩
instance (priority := 1791) i_v_xSplit {a b} {Q : DV → Env → Prop} : Step (xSplit a b X r Q) (a X r fun g r1 => isSx (g r1) (b X r1 fun h r2 => onSS (g r2) (h r2) fun x y => (y.length == 0) = false ∧ x.length + 2 ≤ 16777216 ∧ Q (.own ((PySem.Txt.split x y).map .str)) r2)) := ⟨v_xSplit⟩
end
end
section
section
variable {Q : DV → Prop}
instance (priority := 1930) i_v_le2I {a b : Int} : Step (dLe2 (.int a) (.int b) Q) (Q (.dat (.bool (decide (a ≤ b))))) := ⟨v_le2I⟩
instance (priority := 1929) i_v_le2S {a b : Str} : Step (dLe2 (.str a) (.str b) Q) (Q (.dat (.bool (!RV.strLt b a)))) := ⟨v_le2S⟩
instance (priority := 1928) i_v_ltC {s t : Str} {i j : Int} : Step (dLtC (.tuple [.str s, .int i]) (.tuple [.str t, .int j]) Q) (Q (.dat (.bool (RV.cpLt s i t j)))) := ⟨v_ltC⟩
instance (priority := 1927) i_v_geC {s t : Str} {i j : Int} : Step (dGeC (.tuple [.str s, .int i]) (.tuple [.str t, .int j]) Q) (Q (.dat (.bool (RV.cpGe s i t j)))) := ⟨v_geC⟩
instance (priority := 1926) i_v_neT {ds : List D} : Step (dNeT (.tuple ds) (.tuple []) Q) (Q (.dat (.bool (!ds.isEmpty)))) := ⟨v_neT⟩
end
end
section
section
variable {X : XW} {r : Env} {Q : DV → Prop}
instance g_v_onDn {o p} {k : D → List (D × D) → Prop} : Go (onDn o p k) := ⟨⟩
instance g_v_onXn {o} {k : D → Prop} : Go (onXn o k) := ⟨⟩
instance g_v_xGetN {i b} {Q : DV → Env → Prop} : Go (xGetN i b X r Q) := ⟨⟩
instance (priority := 1852) i_v_xInN {neg i b} {Q : DV → Env → Prop} : Step (xInN neg i b X r Q) (b X r fun g r1 => onDn (g r1) (sl r1 i) fun k kvs => keyN k ≠ none ∧ Q (.dat (.bool (neg != (lookN kvs k).isSome))) r1) := ⟨v_xInN⟩
instance g_v_exN {i} {k : Prop} : Go (exN r i k) := ⟨⟩
instance (priority := 1853) i_v_sPutN {i b f nx rt bk ct ex} : Step (sPutN i b f ⟨nx, rt, bk, ct, ex⟩ r) (f ex r fun dv r1 => on1 dv.toD fun d => exN r1 i (b ex r1 fun g r2 => onDn (g r2) (sl r2 i) fun k kvs => keyN k ≠ none ∧ kvs.length < 16777216 ∧ gN i (.dct true (putN kvs k d)) r2 nx)) := ⟨v_sPutN⟩
instance (priority := 1854) i_v_xNewN {Q : DV → Env → Prop} : Step (xNewN X r Q) (Q (.dct true []) r) := ⟨v_xNewN⟩
instance g_v_onDDn {o p q} {k : D → D → List (D × D) → Prop} : Go (onDDn o p q k) := ⟨⟩
instance g_v_xGet2N {i b f} {Q : DV → Env → Prop} : Go (xGet2N i b f X r Q) := ⟨⟩
instance g_v_onN {o} {k : List (D × D) → Prop} : Go (onN o k) := ⟨⟩
instance (priority := 1851) i_v_xSortN {i : Nat} {Q : DV → Env → Prop} : Step (xSortN i X r Q) (onN (sl r i) fun kvs => PySem.W.AllAlike (kvs.map (·.1)) ∧ PySem.W.Sortable (kvs.map (·.1)) ∧ (∀ d ∈ kvs.map (·.1), d.depth ≤ 64) ∧ kvs.length ≤ 16777216 ∧ Q (.own ((kvs.map (·.1)).mergeSort RS2.leD)) r) := ⟨v_xSortN⟩
end
end
section
section
variable {X : XW} {r : Env}
instance (priority := 2000) i_v_xRng {a} {Q : DV → Env → Prop} : Step (xRng a X r Q) (a X r fun g r1 => onI (g r1) fun n => Q (.rng n) r1) := ⟨v_xRng⟩
instance g_v_own3 {i i2 i3 k} : Go ((∀ j ∈ [i, i2, i3], notOwn r j) ∧ k) := ⟨⟩
instance g_v_own4 {i i2 i3 i4 k} : Go ((∀ j ∈ [i, i2, i3, i4], notOwn r j) ∧ k) := ⟨⟩
instance g_v_onRng {o} {k : Int → Prop} : Go (onRng o k) := ⟨⟩
instance (priority := 1998) i_v_wRngV {i : Nat} {Q : List D → Env → Prop} : Step (wRngV i X r Q) (onRng (sl r i) fun n => (-(2 ^ 62) ≤ n ∧ n < 2 ^ 62) ∧ Q (rangeL 0 n) r) := ⟨v_wRngV⟩
instance (priority := 1997) i_v_xNOne {o f} {Q : DV → Env → Prop} : Step (xNOne o f X r Q) (o X r fun g r1 => f X r1 fun dv r2 => on2 (g r2) dv.toD fun k d => keyN k ≠ none ∧ Q (.dct true [(k, d)]) r2) := ⟨v_xNOne⟩
end
section
end
section
end
end
section
instance g_and {a b : Prop} : Go (a ∧ b) := ⟨⟩
end
end DL

namespace DL.LW
open PySem DL
def m_room_names : TS :=
  (sRet (xCB nTupN (oCons (oE (xLc [1] (wX (xB dIx (oV 0) (oE (xC (.int 0))))) (gN 1) bYes (xB dIx (oV 1) (oE (xC (.int 0)))))) oNil)))
def p_room_names : Spec := fnSpec 2 m_room_names
def m_kind_names : TS :=
  (sRet (xCB nTupN (oCons (oE (xLc [1] (wX (xB dIx (oV 0) (oE (xC (.int 1))))) (gN 1) bYes (xB dIx (oV 1) (oE (xC (.int 0)))))) oNil)))
def p_kind_names : Spec := fnSpec 2 m_kind_names
def m_zeros : TS :=
  (sRet (xB dMul (oE (xTup (aCons (xC (.int 0)) aNil))) (oV 0)))
def p_zeros : Spec := fnSpec 1 m_zeros
def m_added : TS :=
  (sRet (xCB nTuple (oCons (oE (xLc [2, 3] (wZip (aCons (xVar 0) (aCons (xVar 1) aNil))) (gT [(gN 2), (gN 3)]) bYes (xB dAdd (oV 2) (oV 3)))) oNil)))
def p_added : Spec := fnSpec 4 m_added
def m__law_kind : TS :=
  (sRet (xB dIx (oE (xLc [2] (wX (xB dIx (oV 0) (oE (xC (.int 1))))) (gN 2) (bX (xB dEq (oE (xB dIx (oV 2) (oE (xC (.int 0))))) (oV 1))) (xVar 2))) (oE (xC (.int 0)))))
def p__law_kind : Spec := fnSpec 3 m__law_kind
abbrev p__law_take : Spec := takeS
def m__law_alike : TS :=
  (sRet (xAnd (xB dEq (oE (xCB nRepr (oCons (oV 0) oNil))) (oE (xCB nRepr (oCons (oV 1) oNil)))) (xB dEq (oV 0) (oV 1))))
def p__law_alike : Spec := fnSpec 2 m__law_alike
def m_room_index : TS :=
  (sSeq (sAsg (gN 2) (xCall p_room_names (aCons (xVar 0) aNil)))
  (sSeq (sIf (bX (xB dNotIn4 (oV 1) (oV 2))) (fun _ _ => False) sNext)
  (sRet (xTIdx 2 (oV 1)))))
def p_room_index : Spec := fnSpec 3 m_room_index
def m_kind_index : TS :=
  (sSeq (sAsg (gN 2) (xCall p_kind_names (aCons (xVar 0) aNil)))
  (sSeq (sIf (bX (xB dNotIn4 (oV 1) (oV 2))) (fun _ _ => False) sNext)
  (sRet (xTIdx 2 (oV 1)))))
def p_kind_index : Spec := fnSpec 3 m_kind_index
def m_claimed : TS :=
  (sSeq (sAsg (gN 2) (xCall p_zeros (aCons (xCB nLen (oCons (oE (xB dIx (oV 0) (oE (xC (.int 0))))) oNil)) aNil)))
  (sSeq (sFor (wX (xVar 1)) (gT [(gN 3), (gN 4)]) (sAsg (gN 2) (xCall p_added (aCons (xVar 2) (aCons (xCB nTuple (oCons (oE (xLc [5] (wRange1 (oE (xCB nLen (oCons (oE (xB dIx (oV 0) (oE (xC (.int 0))))) oNil)))) (gN 5) bYes (xIf (bX (xB dEq (oV 5) (oV 3))) (xVar 4) (xC (.int 0))))) oNil)) aNil)))))
  (sRet (xMv 2))))
def p_claimed : Spec := fnSpec 6 m_claimed
def m__law_line : TS :=
  (sSeq (sPar 2 3 (xLst aNil) (xVar 1))
  (sSeq (sFor (wRange1 (oE (xCB nLen (oCons (oE (xB dIx (oV 0) (oE (xC (.int 1))))) oNil)))) (gN 4) (sIf (bX (xB dNe (oV 3) (oE (xC (.str ""))))) (sSeq (sAsg (gN 5) (xCall p__law_kind (aCons (xVar 0) (aCons (xVar 3) aNil))))
  (sSeq (sDrop (xMeth 2 mExtend (oCons (oE (xCB nList (oCons (oE (xB dIx (oV 5) (oE (xC (.int 1))))) oNil))) oNil)))
  (sAsg (gN 3) (xB dIx (oV 5) (oE (xC (.int 2))))))) sNext))
  (sRet (xMv 2))))
def p__law_line : Spec := fnSpec 6 m__law_line
def m__law_mixed : TS :=
  (sSeq (sPar 2 3 (xCB nList (oCons (oV 1) oNil)) (xLst aNil))
  (sSeq (sWhile (bX (xB dNe (oV 2) (oE (xLst aNil)))) (sDrop (xApp 3 (xMeth 2 mPop (oCons (oE (xCall p__law_take (aCons (xVar 0) (aCons (xCB nLen (oCons (oV 2) oNil)) aNil)))) oNil)))))
  (sRet (xMv 3))))
def p__law_mixed : Spec := fnSpec 4 m__law_mixed
def m__law_some : TS :=
  (sRet (xB dIx (oV 1) (oE (xCall p__law_take (aCons (xVar 0) (aCons (xCB nLen (oCons (oV 1) oNil)) aNil))))))
def p__law_some : Spec := fnSpec 2 m__law_some
def m_kind_of : TS :=
  (sRet (xB dIx (oE (xB dIx (oV 0) (oE (xC (.int 1))))) (oE (xCall p_kind_index (aCons (xVar 0) (aCons (xVar 1) aNil))))))
def p_kind_of : Spec := fnSpec 2 m_kind_of
def m__law_positions : TS :=
  (sSeq (sAsg (gN 1) (xLst aNil))
  (sSeq (sFor (wX (xB dIx (oV 0) (oE (xC (.int 1))))) (gN 2) (sDrop (xMeth 1 mExtend (oCons (oE (xLc [3] (wRange1 (oE (xCB nLen (oCons (oE (xCall p__law_line (aCons (xVar 0) (aCons (xB dIx (oV 2) (oE (xC (.int 0)))) aNil)))) oNil)))) (gN 3) bYes (xTup (aCons (xB dIx (oV 2) (oE (xC (.int 0)))) (aCons (xVar 3) aNil))))) oNil))))
  (sRet (xMv 1))))
def p__law_positions : Spec := fnSpec 4 m__law_positions
def m__law_held : TS :=
  (sSeq (sAsg (gN 3) (xLc [4] (wX (xB dIx (oV 0) (oE (xC (.int 0))))) (gN 4) bYes (xB dIx (oV 4) (oE (xC (.int 0))))))
  (sSeq (sAsg (gN 5) (xB dMul (oE (xLst (aCons (xC (.int 0)) aNil))) (oE (xCB nLen (oCons (oV 3) oNil)))))
  (sSeq (sFor (wX (xCut (oE (xCall p__law_line (aCons (xVar 0) (aCons (xVar 1) aNil)))) pNo (pSome (oV 2)))) (gT [(gN 4), (gN 6)]) (sAugI 5 (fun i j => i + j) (oE (xLIdx (oV 3) (oV 4))) (oV 6)))
  (sRet (xCB nTuple (oCons (oV 5) oNil))))))
def p__law_held : Spec := fnSpec 7 m__law_held
def m__law_claim : TS :=
  (sSeq (sAsg (gT [(gN 3), (gN 4)]) (xB dIx (oE (xCall p__law_line (aCons (xVar 0) (aCons (xVar 1) aNil)))) (oV 2)))
  (sRet (xTup (aCons (xLIdx (oE (xLc [5] (wX (xB dIx (oV 0) (oE (xC (.int 0))))) (gN 5) bYes (xB dIx (oV 5) (oE (xC (.int 0)))))) (oV 3)) (aCons (xVar 4) aNil)))))
def p__law_claim : Spec := fnSpec 6 m__law_claim
def m__law_names : TS :=
  (sSeq (sAsg (gN 2) (xLst (aCons (xC (.str "a")) (aCons (xC (.str "b")) (aCons (xC (.str "c")) (aCons (xC (.str "d")) (aCons (xC (.str "q")) (aCons (xC (.str "zz")) (aCons (xC (.str "ab")) (aCons (xC (.str "abcdefgh")) (aCons (xC (.str "pipe")) (aCons (xC (.str "disks")) (aCons (xC (.str "asks")) (aCons (xC (.str "go")) aNil))))))))))))))
  (sRet (xCB nSortA (oCons (oE (xCut (oE (xCall p__law_mixed (aCons (xVar 0) (aCons (xVar 2) aNil)))) pNo (pSome (oV 1)))) oNil))))
def p__law_names : Spec := fnSpec 3 m__law_names
def m__law_drawn_line : TS :=
  (sSeq (sAsg (gN 4) (xLc [5] (wRange1 (oE (xB dAdd (oE (xC (.int 1))) (oE (xCall p__law_take (aCons (xVar 0) (aCons (xVar 2) aNil))))))) (gN 5) bYes (xTup (aCons (xCall p__law_some (aCons (xVar 0) (aCons (xVar 1) aNil))) (aCons (xB dAdd (oE (xC (.int 1))) (oE (xCall p__law_take (aCons (xVar 0) (aCons (xVar 3) aNil))))) aNil)))))
  (sRet (xCB nTuple (oCons (oV 4) oNil))))
def p__law_drawn_line : Spec := fnSpec 6 m__law_drawn_line
def m_asked_from : TS :=
  (sSeq (sAsg (gN 2) (xLst (aCons (xVar 1) aNil)))
  (sSeq (sWhile (bX (xB dNe (oE (xB dIx (oE (xB dIx (oV 2) (oE (xU dNeg (oE (xC (.int 1))))))) (oE (xC (.int 2))))) (oE (xC (.str ""))))) (sSeq (sAsg (gN 3) (xCall p_kind_of (aCons (xVar 0) (aCons (xB dIx (oE (xB dIx (oV 2) (oE (xU dNeg (oE (xC (.int 1))))))) (oE (xC (.int 2)))) aNil))))
  (sSeq (sIf (bX (xB dIn4 (oV 3) (oV 2))) (sRet (xC .none)) sNext)
  (sDrop (xApp 2 (xVar 3))))))
  (sRet (xMv 2))))
def p_asked_from : Spec := fnSpec 4 m_asked_from
def m__law_pool : TS :=
  (sSeq (sMul [5, 6, 7] [(xCall p__law_names (aCons (xVar 0) (aCons (xVar 1) aNil))), (xLst aNil), (xDOne (.str "") (xC (.int 0)))])
  (sSeq (sFor (wX (xCall p__law_names (aCons (xVar 0) (aCons (xVar 2) aNil)))) (gN 8) (sSeq (sAsg (gN 9) (xCall p__law_drawn_line (aCons (xVar 0) (aCons (xVar 5) (aCons (xC (.int 3)) (aCons (xVar 4) aNil))))))
  (sSeq (sAsg (gN 10) (xCall p__law_some (aCons (xVar 0) (aCons (xB dAdd (oE (xB dMul (oE (xLst (aCons (xC (.str "")) aNil))) (oE (xC (.int 3))))) (oE (xLcO [11] 6 (gN 11) (bX (xB dLe2 (oE (xB dAdd (oE (xDGet 7 (oE (xB dIx (oV 11) (oE (xC (.int 0))))))) (oE (xCB nLen (oCons (oV 9) oNil))))) (oE (xC (.int 12))))) (xB dIx (oV 11) (oE (xC (.int 0))))))) aNil))))
  (sSeq (sDPut 7 (oV 8) (xB dAdd (oE (xCB nLen (oCons (oV 9) oNil))) (oE (xDGet 7 (oV 10)))))
  (sDrop (xApp 6 (xTup (aCons (xVar 8) (aCons (xVar 9) (aCons (xVar 10) aNil))))))))))
  (sSeq (sAsg (gN 12) (xB dEq (oE (xCall p__law_take (aCons (xVar 0) (aCons (xC (.int 4)) aNil)))) (oE (xC (.int 0)))))
  (sSeq (sAsg (gN 13) (xLc [8] (wX (xVar 5)) (gN 8) bYes (xTup (aCons (xVar 8) (aCons (xCall p__law_take (aCons (xVar 0) (aCons (xB dAdd (oV 3) (oE (xC (.int 1)))) aNil))) (aCons (xAnd (xVar 12) (xB dEq (oE (xCall p__law_take (aCons (xVar 0) (aCons (xC (.int 2)) aNil)))) (oE (xC (.int 0))))) aNil))))))
  (sRet (xTup (aCons (xCB nTuple (oCons (oV 13) oNil)) (aCons (xCB nTuple (oCons (oV 6) oNil)) aNil))))))))
def p__law_pool : Spec := fnSpec 14 m__law_pool
def m__law_edges : TS :=
  (sSeq (sAsg (gN 1) xNewN)
  (sSeq (sFor (wX (xCall p__law_positions (aCons (xVar 0) aNil))) (gT [(gN 2), (gN 3)]) (sSeq (sPar 4 5 (xCall p__law_held (aCons (xVar 0) (aCons (xVar 2) (aCons (xVar 3) aNil)))) (xB dIx (oE (xCall p__law_claim (aCons (xVar 0) (aCons (xVar 2) (aCons (xVar 3) aNil))))) (oE (xC (.int 0)))))
  (sFor (wRange1 (oE (xCB nLen (oCons (oV 4) oNil)))) (gN 6) (sIf (bX (xB dGt (oE (xB dIx (oV 4) (oV 6))) (oE (xC (.int 0))))) (sPutN 1 (oE (xTup (aCons (xVar 6) (aCons (xVar 5) aNil)))) (xB dAdd (oE (xGet2N 1 (oE (xTup (aCons (xVar 6) (aCons (xVar 5) aNil)))) (xLst aNil))) (oE (xLst (aCons (xTup (aCons (xVar 2) (aCons (xVar 3) aNil))) aNil))))) sNext))))
  (sRet (xMv 1))))
def p__law_edges : Spec := fnSpec 7 m__law_edges
def m__law_needs : TS :=
  (sSeq (sAsg (gN 1) (xLc [2] (wX (xB dIx (oV 0) (oE (xC (.int 1))))) (gN 2) bYes (xCall p__law_held (aCons (xVar 0) (aCons (xB dIx (oV 2) (oE (xC (.int 0)))) (aCons (xCB nLen (oCons (oE (xCall p__law_line (aCons (xVar 0) (aCons (xB dIx (oV 2) (oE (xC (.int 0)))) aNil)))) oNil)) aNil))))))
  (sRet (xCB nTuple (oCons (oE (xLc [4] (wRange1 (oE (xCB nLen (oCons (oE (xB dIx (oV 0) (oE (xC (.int 0))))) oNil)))) (gN 4) bYes (xCB nMax (oCons (oE (xLc [3] (wX (xVar 1)) (gN 3) bYes (xB dIx (oV 3) (oV 4)))) oNil)))) oNil))))
def p__law_needs : Spec := fnSpec 5 m__law_needs
def m_whole_line : TS :=
  (sSeq (sAsg (gN 2) (xLst aNil))
  (sSeq (sFor (wX (xCall p_asked_from (aCons (xVar 0) (aCons (xCall p_kind_of (aCons (xVar 0) (aCons (xVar 1) aNil))) aNil)))) (gN 3) (sDrop (xMeth 2 mExtend (oCons (oE (xLc [4, 5] (wX (xB dIx (oV 3) (oE (xC (.int 1))))) (gT [(gN 4), (gN 5)]) bYes (xTup (aCons (xCall p_room_index (aCons (xVar 0) (aCons (xVar 4) aNil))) (aCons (xVar 5) aNil))))) oNil))))
  (sRet (xCB nTuple (oCons (oV 2) oNil)))))
def p_whole_line : Spec := fnSpec 6 m_whole_line
def m_positions : TS :=
  (sSeq (sAsg (gN 1) (xLst aNil))
  (sSeq (sFor (wX (xCall p_kind_names (aCons (xVar 0) aNil))) (gN 2) (sDrop (xMeth 1 mExtend (oCons (oE (xLc [3] (wRange1 (oE (xCB nLen (oCons (oE (xCall p_whole_line (aCons (xVar 0) (aCons (xVar 2) aNil)))) oNil)))) (gN 3) bYes (xTup (aCons (xVar 2) (aCons (xVar 3) aNil))))) oNil))))
  (sRet (xCB nTuple (oCons (oV 1) oNil)))))
def p_positions : Spec := fnSpec 4 m_positions
def m_held_at : TS :=
  (sSeq (sAsg (gN 3) (xCall p_whole_line (aCons (xVar 0) (aCons (xVar 1) aNil))))
  (sSeq (sIf (bNot (bX (xCh dLe2 dLe2 (oE (xC (.int 0))) (oV 2) (oE (xCB nLen (oCons (oV 3) oNil)))))) (fun _ _ => False) sNext)
  (sRet (xCall p_claimed (aCons (xVar 0) (aCons (xCut (oV 3) pNo (pSome (oV 2))) aNil))))))
def p_held_at : Spec := fnSpec 4 m_held_at
def m_claim_at : TS :=
  (sSeq (sAsg (gN 3) (xCall p_whole_line (aCons (xVar 0) (aCons (xVar 1) aNil))))
  (sSeq (sIf (bNot (bX (xCh dLe2 dLt (oE (xC (.int 0))) (oV 2) (oE (xCB nLen (oCons (oV 3) oNil)))))) (fun _ _ => False) sNext)
  (sRet (xB dIx (oV 3) (oV 2)))))
def p_claim_at : Spec := fnSpec 4 m_claim_at
def m_need_of : TS :=
  (sRet (xCall p_claimed (aCons (xVar 0) (aCons (xCall p_whole_line (aCons (xVar 0) (aCons (xVar 1) aNil))) aNil))))
def p_need_of : Spec := fnSpec 2 m_need_of
def m_edge_positions : TS :=
  (sRet (xCB nTuple (oCons (oE (xLc [3, 4] (wX (xCall p_positions (aCons (xVar 0) aNil))) (gT [(gN 3), (gN 4)]) (bAnd (bX (xB dGt (oE (xB dIx (oE (xCall p_held_at (aCons (xVar 0) (aCons (xVar 3) (aCons (xVar 4) aNil))))) (oV 1))) (oE (xC (.int 0))))) (bX (xB dEq (oE (xB dIx (oE (xCall p_claim_at (aCons (xVar 0) (aCons (xVar 3) (aCons (xVar 4) aNil))))) (oE (xC (.int 0))))) (oV 2)))) (xTup (aCons (xVar 3) (aCons (xVar 4) aNil))))) oNil)))
def p_edge_positions : Spec := fnSpec 5 m_edge_positions
def m_greatest_needs : TS :=
  (sSeq (sAsg (gN 1) (xLc [2, 3, 4] (wX (xB dIx (oV 0) (oE (xC (.int 1))))) (gT [(gN 2), (gN 3), (gN 4)]) bYes (xCall p_need_of (aCons (xVar 0) (aCons (xVar 2) aNil)))))
  (sRet (xCB nTuple (oCons (oE (xLc [6] (wRange1 (oE (xCB nLen (oCons (oE (xB dIx (oV 0) (oE (xC (.int 0))))) oNil)))) (gN 6) bYes (xCB nMax (oCons (oE (xLc [5] (wX (xVar 1)) (gN 5) bYes (xB dIx (oV 5) (oV 6)))) oNil)))) oNil))))
def p_greatest_needs : Spec := fnSpec 7 m_greatest_needs
def m_web_of : TS :=
  (sSeq (sAsg (gN 1) (xRng (oE (xCB nLen (oCons (oE (xB dIx (oV 0) (oE (xC (.int 0))))) oNil)))))
  (sRet (xCB nTuple (oCons (oE (xLc2 [2, 3] [3] (wRngV 1) (gN 2) bYes (wRngV 1) (gN 3) (bX (xB dNe (oE (xCall p_edge_positions (aCons (xVar 0) (aCons (xVar 2) (aCons (xVar 3) aNil))))) (oE (xTup aNil)))) (xTup (aCons (xVar 2) (aCons (xVar 3) aNil))))) oNil))))
def p_web_of : Spec := fnSpec 4 m_web_of
def m_law : TS :=
  (sSeq (sFor (wRange1 (oE (xC (.int 6)))) (gN 2) (sSeq (sAsg (gN 3) (xCall p__law_pool (aCons (xVar 1) (aCons (xB dAdd (oE (xC (.int 1))) (oE (xCall p__law_take (aCons (xVar 1) (aCons (xC (.int 4)) aNil))))) (aCons (xB dAdd (oE (xC (.int 1))) (oE (xCall p__law_take (aCons (xVar 1) (aCons (xC (.int 4)) aNil))))) (aCons (xC (.int 6)) (aCons (xC (.int 4)) aNil)))))))
  (sSeq (sMul [4, 5, 6] [(xCall p__law_edges (aCons (xVar 3) aNil)), (xCB nRepr (oCons (oV 3) oNil)), (xCB nLen (oCons (oE (xB dIx (oV 3) (oE (xC (.int 0))))) oNil))])
  (sSeq (sAsg (gN 7) (xTup (aCons (xCB nTuple (oCons (oE (xLc [8] (wX (xB dIx (oV 3) (oE (xC (.int 0))))) (gN 8) bYes (xTup (aCons (xB dIx (oV 8) (oE (xC (.int 0)))) (aCons (xC (.int 0)) (aCons (xB dIx (oV 8) (oE (xC (.int 2)))) aNil)))))) oNil)) (aCons (xB dIx (oV 3) (oE (xC (.int 1)))) aNil))))
  (sSeq (sFor (wX (xTup (aCons (xVar 3) (aCons (xVar 7) (aCons (xVar 3) aNil))))) (gN 9) (sIf (bNot (bO (oE (xCall p__law_alike (aCons (xLst (aCons (xCall p_web_of (aCons (xVar 9) aNil)) (aCons (xCall p_greatest_needs (aCons (xVar 9) aNil)) aNil))) (aCons (xLst (aCons (xCB nTuple (oCons (oE (xSortN 4)) oNil)) (aCons (xCall p__law_needs (aCons (xVar 3) aNil)) aNil))) aNil)))))) (sRet (xC (.bool false))) sNext))
  (sSeq (sFor (wRange1 (oV 6)) (gN 10) (sFor (wRange1 (oV 6)) (gN 11) (sIf (bNot (bO (oE (xCall p__law_alike (aCons (xCall p_edge_positions (aCons (xVar 3) (aCons (xVar 10) (aCons (xVar 11) aNil)))) (aCons (xCB nTuple (oCons (oE (xGet2N 4 (oE (xTup (aCons (xVar 10) (aCons (xVar 11) aNil)))) (xLst aNil))) oNil)) aNil)))))) (sRet (xC (.bool false))) sNext)))
  (sIf (bX (xB dNe (oE (xCB nRepr (oCons (oV 3) oNil))) (oV 5))) (sRet (xC (.bool false))) sNext)))))))
  (sRet (xC (.bool true))))
end DL.LW

namespace DL.LW
open PySem DL
section
local macro_rules | `(tactic| walk_at "dl") => `(tactic| repeat (first
  | refine Step.go ?_
  | (refine goG ?_; first
    | ((with_reducible apply v_on1); (focus exact rfl))
    | ((with_reducible apply v_oV); (focus exact rfl))
    | ((with_reducible apply v_on2); (focus exact rfl); (focus exact rfl))
    | ((with_reducible apply v_gN); (focus ((with_reducible (repeat (first | exact p_z | apply p_s))))))
    | ((with_reducible apply v_xVarD); (focus exact rfl))
    | ((with_reducible apply v_onL); (focus exact rfl))
    | ((with_reducible refine v_neShown (by assumption) ?_))
    | ((with_reducible refine v_eqShown (by assumption) ?_))
    | ((with_reducible refine v_eq ?_))
    | ((with_reducible refine v_ne ?_))
    | ((with_reducible apply v_tB); (focus exact rfl))
    | ((with_reducible apply v_tI); (focus exact rfl))
    | ((with_reducible apply v_tL); (focus exact rfl))
    | ((with_reducible apply v_tT); (focus exact rfl))
    | ((with_reducible apply v_tN); (focus exact rfl))
    | ((with_reducible apply v_tS); (focus exact rfl))
    | ((with_reducible apply v_onI); (focus exact rfl))
    | ((with_reducible apply v_onX); (focus exact rfl))
    | ((with_reducible apply v_xVarB); (focus exact rfl))
    | ((with_reducible apply v_gT); (focus exact rfl))
    | ((with_reducible apply v_sAug); (focus exact rfl))
    | ((with_reducible apply v_lc); (focus ((try simp only [clrs, putO, put]); exact rfl)))
    | ((with_reducible apply v_cl2); (focus ((try simp only [clrs, putO, put]); exact rfl)))
    | ((with_reducible apply v_bk2); (focus ((try simp only [back, putO, put, sl]); exact rfl)))
    | ((with_reducible apply v_xApp); (focus exact rfl))
    | ((with_reducible apply v_xMt); (focus exact rfl))
    | ((with_reducible apply v_onLO); (focus exact rfl); (focus exact rfl))
    | ((with_reducible apply v_onO); (focus exact rfl))
    | ((with_reducible apply v_xVarO); (focus exact rfl); (focus ((with_reducible (repeat (first | exact p_z | apply p_s))))))
    | ((with_reducible apply v_xMv); (focus exact rfl); (focus ((with_reducible (repeat (first | exact p_z | apply p_s))))))
    | ((with_reducible apply v_onII); (focus exact rfl); (focus exact rfl))
    | ((with_reducible apply v_onDO); (focus exact rfl); (focus exact rfl))
    | ((with_reducible apply v_on3); (focus exact rfl); (focus exact rfl); (focus exact rfl))
    | ((with_reducible apply v_xGetN); (focus exact rfl))
    | ((with_reducible apply v_exN); (focus exact rfl))
    | ((with_reducible apply v_onDn); (focus exact rfl); (focus exact rfl))
    | ((with_reducible apply v_onXn); (focus exact rfl))
    | ((with_reducible apply v_onDDn); (focus exact rfl); (focus exact rfl); (focus exact rfl))
    | ((with_reducible apply v_xGet2N); (focus exact rfl))
    | ((with_reducible apply v_onN); (focus exact rfl))
    | ((with_reducible apply v_xDGet); (focus exact rfl))
    | ((with_reducible apply v_exD); (focus exact rfl))
    | ((with_reducible apply v_exL); (focus exact rfl))
    | ((with_reducible apply v_xVarN); (focus exact rfl))
    | ((with_reducible apply v_xTIdx); (focus exact rfl))
    | ((with_reducible apply v_onTT); (focus exact rfl))
    | ((with_reducible apply v_onTTl); (focus exact rfl))
    | ((with_reducible apply v_onDc); (focus exact rfl); (focus exact rfl))
    | ((with_reducible apply v_onSN); (focus exact rfl); (focus exact rfl))
    | ((with_reducible apply v_onLD); (focus exact rfl); (focus exact rfl))
    | ((with_reducible refine v_xDOne ?_ ?_); (focus (intro z; cases z)))
    | ((with_reducible apply v_xLcO); (focus exact rfl); (focus ((with_reducible (repeat (first | exact p_z | apply p_s))))))
    | ((with_reducible apply v_bk3); (focus ((try simp only [back, putO, put, sl]); exact rfl)))
    | ((with_reducible refine v_own1 ?_ ?_); (focus (intro _ e; first | (cases e; done) | (cases e; rfl))))
    | ((with_reducible refine v_own2 ?_ ?_ ?_); (focus (intro _ e; first | (cases e; done) | (cases e; rfl))); (focus (intro _ e; first | (cases e; done) | (cases e; rfl))))
    | ((with_reducible apply v_onEx); (focus exact rfl); (focus (simp only [List.length_cons, List.length_nil]; omega)))
    | ((with_reducible apply v_onExF); (focus exact rfl))
    | ((with_reducible apply v_hF); (focus exact rfl); (focus exact rfl))
    | ((with_reducible apply v_onTLt); (focus exact rfl))
    | ((with_reducible apply v_onTLl); (focus exact rfl))
    | ((with_reducible apply v_onLA); (focus exact rfl))
    | ((with_reducible apply v_exO); (focus exact rfl))
    | ((with_reducible apply v_onIO); (focus exact rfl); (focus exact rfl))
    | ((with_reducible apply v_xDGet2); (focus exact rfl))
    | ((with_reducible apply v_onDD); (focus exact rfl); (focus exact rfl); (focus exact rfl))
    | ((with_reducible apply v_xDSetd); (focus exact rfl))
    | ((with_reducible apply v_onTI); (focus exact rfl); (focus exact rfl))
    | ((with_reducible apply v_onS); (focus exact rfl))
    | ((with_reducible apply v_isSx); (focus exact rfl))
    | ((with_reducible apply v_onSSs); (focus exact rfl); (focus exact rfl))
    | ((with_reducible apply v_xLam); (focus ((try simp only [frz, frz1, sl, put]); exact rfl)); (focus ((try simp only [bare, List.map_cons, List.map_nil, bareO]); exact rfl)))
    | ((with_reducible apply v_onLv); (focus exact rfl))
    | ((with_reducible apply v_hIfT); (focus exact rfl))
    | ((with_reducible apply v_hIfF); (focus exact rfl))
    | (with_reducible refine And.intro (Fine.repr (by assumption) (by decide) (by decide)) ?_)
    | (with_reducible refine And.intro (Fine.ok (by assumption) (by decide)) ?_)
    | (with_reducible refine And.intro (Fine.okS (by assumption)) ?_)
    | ((with_reducible refine And.intro ?_ ?_); (focus (first | omega | exact (by decide) | (simp only [List.length_cons, List.length_nil, List.length_map, List.length_range, rangeL_len] <;> omega) | (simp only [List.length_cons, List.length_nil, List.length_append, List.length_map, List.length_range, rangeL_len] <;> omega) | exact Or.inl ⟨by omega, by omega⟩ | exact Or.inr (Or.inl ⟨by omega, by omega⟩)))))))
local macro_rules | `(tactic| walk_at "fn") => `(tactic| simp only [fnSpec, List.map_cons, List.map_nil, List.length_cons, List.length_nil, List.replicate, List.cons_append, List.nil_append, Nat.reduceAdd, Nat.reduceSub, List.replicate_succ, List.replicate_zero])
local macro_rules | `(tactic| walk_at "fine") => `(tactic| repeat (first | assumption | exact fin_none0 | exact fin_bool0 | exact fins_nil | (with_reducible refine fins_cons ?_ ?_) | (with_reducible refine fin_tup ?_) | (with_reducible refine fin_lst ?_) | exact fin_int0 (by omega) | exact fin_lit _))
section
variable {rs : List (Str × Int × Bool)} {ks : List Kd} {Q : DV → Prop} {E : Err → Prop}
theorem room_names_ok (hl : rs.length ≤ 100) (q : Q (.nd (rs.map fun r => .str r.1))) : p_room_names [.dat (poolD rs ks)] Q E := by
  unfold p_room_names
  walk_at "fn"
  unfold m_room_names
  walk_at "dl"
  refine lcL_map roomD (fun r => .str r.1) (by omega) ?_ ?_
  · intro x hx acc K ha hK
    walk_at "dl"
    exact hK
  · walk_at "dl"
    exact q
theorem kind_names_ok (hl : ks.length ≤ 100) (q : Q (.nd (ks.map fun r => .str r.name))) : p_kind_names [.dat (poolD rs ks)] Q E := by
  unfold p_kind_names
  walk_at "fn"
  unfold m_kind_names
  walk_at "dl"
  refine lcL_map kindD (fun r => .str r.name) (by omega) ?_ ?_
  · intro x hx acc K ha hK
    walk_at "dl"
    exact hK
  · walk_at "dl"
    exact q
theorem zeros_ok {n : Int} (h : 0 ≤ n) (h1 : n ≤ 1000) (q : Q (.dat (.tuple (List.replicate n.toNat [PyData.int 0]).flatten))) : p_zeros [.dat (.int n)] Q E := by
  unfold p_zeros
  walk_at "fn"
  unfold m_zeros
  walk_at "dl"
  exact q
theorem added_ok {a b : List Int} (hl : a.length ≤ 1000) (q : Q (.dat (vecD (plusL a b)))) : p_added [.dat (vecD a), .dat (vecD b)] Q E := by
  unfold p_added
  walk_at "fn"
  unfold m_added
  walk_at "dl"
  rw [zipD_map]
  refine lcL_map _ (fun p : Int × Int => .int (p.1 + p.2)) (by rw [List.length_zip]; omega) ?_ ?_
  · intro x hx acc K ha hK
    walk_at "dl"
    exact hK
  · walk_at "dl"
    unfold plusL vecD at q
    rw [List.map_map] at q
    exact q
theorem law_kind_ok (P : PoolOk rs ks) {i : Nat} {k : Kd} (hk : ks[i]? = some k) (q : Q (.dat (kindD k))) : p__law_kind [.dat (poolD rs ks), .dat (.str k.name)] Q E := by
  have hkl := P.kl
  unfold p__law_kind
  walk_at "fn"
  unfold m__law_kind
  walk_at "dl"
  refine lcL_flt kindD (fun x : Kd => decide (x.name = k.name)) kindD (by omega) ?_ ?_
  · intro x hx acc K ha hK
    have o1 := okD_str (P.ok x hx).nm.1
    have o2 := okD_str (P.ok k (List.mem_of_getElem? hk)).nm.1
    walk_at "dl"
    rw [eqv_str]
    by_cases h : x.name = k.name
    · rw [if_pos (decide_eq_true h)] at hK
      rw [decide_eq_true h]
      walk_at "dl"
      exact hK
    · rw [if_neg (by rw [decide_eq_false h]; simp)] at hK
      rw [decide_eq_false h]
      walk_at "dl"
      exact hK
  · walk_at "dl"
    obtain ⟨t, ht⟩ : ∃ t, ks.filter (fun x : Kd => decide (x.name = k.name)) = k :: t := by
      have h1 := find_name P.kn hk (z := k.name) rfl
      rw [← List.head?_filter] at h1
      cases e : ks.filter (fun x : Kd => decide (x.name = k.name)) with
      | nil => rw [e] at h1; cases h1
      | cons y t => rw [e] at h1; cases h1; exact ⟨t, rfl⟩
    rw [ht, List.map_cons, show L2.atI (kindD k :: t.map kindD) 0 = some (kindD k) from L2.atI_nat (j := 0) rfl]
    walk_at "dl"
    exact q
theorem room_index_ok {z : Str} {i : Nat} (hl : rs.length ≤ 100) (h : Nth (rs.map (·.1)) z i) (q : Q (.dat (.int (i : Nat)))) : p_room_index [.dat (poolD rs ks), .dat (.str z)] Q E := by
  unfold p_room_index
  walk_at "fn"
  unfold m_room_index
  walk_at "dl"
  refine room_names_ok hl ?_
  walk_at "dl"
  rw [show (rs.map fun r => PyData.str r.1) = (rs.map (·.1)).map .str from (List.map_map ..).symm]
  refine v_notIn ?_
  rw [decide_eq_true (List.mem_of_getElem? h.1)]
  walk_at "dl"
  exact ⟨i, h.1, h.2, q⟩
theorem kind_index_ok {z : Str} {i : Nat} (hl : ks.length ≤ 100) (h : Nth (ks.map (·.name)) z i) (q : Q (.dat (.int (i : Nat)))) : p_kind_index [.dat (poolD rs ks), .dat (.str z)] Q E := by
  unfold p_kind_index
  walk_at "fn"
  unfold m_kind_index
  walk_at "dl"
  refine kind_names_ok hl ?_
  walk_at "dl"
  rw [show (ks.map fun r => PyData.str r.name) = (ks.map (·.name)).map .str from (List.map_map ..).symm]
  refine v_notIn ?_
  rw [decide_eq_true (List.mem_of_getElem? h.1)]
  walk_at "dl"
  exact ⟨i, h.1, h.2, q⟩
theorem claimed_ok {ics : List (Nat × Int)} (hl : ics.length ≤ 1000) (hn : rs.length ≤ 100) (q : Q (.dat (vecD (heldL rs.length ics)))) : p_claimed [.dat (poolD rs ks), .dat (.tuple (ics.map icD))] Q E := by
  unfold p_claimed
  walk_at "fn"
  unfold m_claimed
  walk_at "dl"
  refine zeros_ok (by omega) (by rw [List.length_map]; omega) ?_
  walk_at "dl"
  rw [show (((List.map roomD rs).length : Nat) : Int).toNat = rs.length by rw [List.length_map]; rfl, heldL_zero]
  refine forL_map icD (fun pre r => ∃ x y, r = [some (.dat (poolD rs ks)), some (.dat (.tuple (ics.map icD))), some (.dat (vecD (heldL rs.length pre))), x, y, none]) ⟨_, _, rfl⟩ ?_ ?_
  · rintro pre c post r k0 e ⟨x, y, rfl⟩ hk0
    walk_at "dl"
    rw [List.length_map, rangeL0, Int.toNat_natCast]
    refine lcL_map _ (fun at_ : Nat => .int (if at_ = c.1 then c.2 else 0)) (by rw [List.length_range]; omega) ?_ ?_
    · intro j hj acc K ha hK
      walk_at "dl"
      by_cases h : j = c.1
      · rw [if_pos h] at hK
        rw [show (((j : Nat) : Int) == ((c.1 : Nat) : Int)) = true by rw [h]; simp]
        walk_at "dl"
        exact hK
      · rw [if_neg h] at hK
        rw [show (((j : Nat) : Int) == ((c.1 : Nat) : Int)) = false by simp; omega]
        walk_at "dl"
        exact hK
    · walk_at "dl"
      rw [show ((List.range rs.length).map fun at_ : Nat => PyData.int (if at_ = c.1 then c.2 else 0)) = ((List.range rs.length).map fun at_ => if at_ = c.1 then c.2 else 0).map .int by rw [List.map_map]; rfl, heldL_one]
      refine added_ok (by rw [heldL_len]; omega) ?_
      rw [heldL_app]
      walk_at "dl"
      exact hk0 _ ⟨_, _, rfl⟩
  · rintro r ⟨x, y, rfl⟩
    walk_at "dl"
    exact q
theorem law_line_ok (P : PoolOk rs ks) {i : Nat} {k : Kd} (hk : ks[i]? = some k) (q : Q (.own ((flat ks k).map claimD))) : p__law_line [.dat (poolD rs ks), .dat (.str k.name)] Q E := by
  have hkl := P.kl
  obtain ⟨c1, c2, c3, c4⟩ := ch_ok P hk
  unfold p__law_line
  walk_at "fn"
  unfold m__law_line
  walk_at "dl"
  rw [List.length_map]
  refine forL_iv (fun t r => ∃ pre post a x y, ch ks k = pre ++ post ∧ r = [some (.dat (poolD rs ks)), some (.dat (.str k.name)), some (.own ((pre.flatMap Kd.line).map claimD)), some (.dat (.str a)), x, y] ∧ post.length ≤ ks.length - t ∧
    PyData.strOk a = true ∧ ((post = [] ∧ a = "") ∨ ∃ k' t', post = k' :: t' ∧ a = k'.name ∧ a ≠ "" ∧ Chain ks k' post ∧ k' ∈ ks)) ?_ ?_ ?_
  · obtain ⟨t, ht⟩ := c1.head
    refine ⟨[], ch ks k, k.name, none, none, rfl, rfl, by omega, (P.ok k (List.mem_of_getElem? hk)).nm.1, .inr ⟨k, t, ht, rfl, (P.ok k (List.mem_of_getElem? hk)).nz, c1, List.mem_of_getElem? hk⟩⟩
  · rintro t x r k0 hx ⟨pre, post, a, x1, y1, e, rfl, hpl, ha, hcase⟩ hk0
    obtain ⟨rfl, hlt⟩ := rangeL_get hx
    have o1 := okD_str ha
    have o2 : okD (.str "") := okD_str (strOk_of "")
    walk_at "dl"
    rw [eqv_str]
    rcases hcase with ⟨rfl, rfl⟩ | ⟨k', t', rfl, rfl, hne, hc, hm⟩
    · rw [decide_eq_true rfl]
      walk_at "dl"
      exact hk0 _ ⟨pre, [], "", _, _, e, rfl, by simp, strOk_of "", .inl ⟨rfl, rfl⟩⟩
    · rw [decide_eq_false hne]
      obtain ⟨j, hj⟩ := List.getElem?_of_mem hm
      have hfl := flat_len P (l := pre) fun z hz => c2 z (by rw [e]; exact List.mem_append_left _ hz)
      have hpr : pre.length ≤ 12 := by
        have := congrArg List.length e
        rw [List.length_append] at this
        omega
      have hll := P.ll k' hm
      walk_at "dl"
      refine law_kind_ok P hj ?_
      walk_at "dl"
      have e1 : ch ks k = (pre ++ [k']) ++ t' := by rw [e]; simp
      have e2 : (pre.flatMap Kd.line).map claimD ++ k'.line.map claimD = ((pre ++ [k']).flatMap Kd.line).map claimD := by rw [List.flatMap_append, List.map_append]; simp
      rw [e2]
      rw [List.length_cons] at hpl
      refine hk0 _ ⟨pre ++ [k'], t', k'.ask, _, _, e1, rfl, by omega, (P.ok k' hm).ak.1, ?_⟩
      cases hc with
      | last h => exact .inl ⟨rfl, h⟩
      | more h1 h2 h3 h4 =>
        rename_i k2 i2
        obtain ⟨t2, rfl⟩ := h4.head
        have hn : k2.name = k'.ask := by
          have := h2.1
          rw [List.getElem?_map, h3] at this
          exact Option.some.inj this
        exact .inr ⟨k2, t2, rfl, hn.symm, h1, h4, List.mem_of_getElem? h3⟩
  · rintro r ⟨pre, post, a, x1, y1, e, rfl, hpl, _, _⟩
    rw [rangeL_len] at hpl
    have : post = [] := List.eq_nil_of_length_eq_zero (by omega)
    subst this
    rw [List.append_nil] at e
    walk_at "dl"
    show Q (.own ((pre.flatMap Kd.line).map claimD))
    rw [← e]
    exact q
theorem mixed_ok {ss : List Str} (hs : ∀ z ∈ ss, PyData.strOk z = true ∧ z.length ≤ 20) (hl : ss.length ≤ 100) (q : ∀ ys : List Str, ys.Perm ss → Q (.own (ys.map .str))) : p__law_mixed [.bag, .dat (.list (ss.map .str))] Q E := by
  unfold p__law_mixed
  walk_at "fn"
  unfold m__law_mixed
  walk_at "dl"
  refine v_sWhile (fun m r => ∃ left found : List Str, m = left.length ∧ (found ++ left).Perm ss ∧ r = [some .bag, some (.dat (.list (ss.map .str))), some (.own (left.map .str)), some (.own (found.map .str))]) ss.length ⟨ss, [], rfl, .refl _, rfl⟩ ?_
  rintro m r ⟨left, found, rfl, hp, rfl⟩
  have hlen := hp.length_eq
  rw [List.length_append] at hlen
  have f1 := strs_fine (l := left) (fun z hz => hs z (hp.mem_iff.mp (List.mem_append_right _ hz))) (by omega)
  have f2 : Fine 1 4100 (.list []) := fin_list (k := 0) (w := 40) (n := 100) (fun _ h => by cases h) (by decide) (by decide)
  walk_at "dl"
  cases left with
  | nil =>
    rw [show PyData.eqv (.list (List.map PyData.str [])) (.list []) = true from rfl]
    walk_at "dl"
    exact q found (by rw [List.append_nil] at hp; exact hp)
  | cons z t =>
    rw [show PyData.eqv (.list (List.map PyData.str (z :: t))) (.list []) = false from rfl]
    walk_at "dl"
    rw [List.length_map]
    refine take_ok (by rw [List.length_cons]; omega) (by omega) fun k hk0 hk1 => ?_
    obtain ⟨j, rfl⟩ := Int.eq_ofNat_of_zero_le hk0
    have hj : j < (z :: t).length := by omega
    walk_at "dl"
    refine v_mPop (j := j) (y := .str (z :: t)[j]) rfl (by rw [List.getElem?_map, List.getElem?_eq_getElem hj]; rfl) (by rw [List.length_map]; omega) ?_
    walk_at "dl"
    refine ⟨((z :: t).eraseIdx j).length, by rw [List.length_eraseIdx_of_lt hj, List.length_cons]; omega, (z :: t).eraseIdx j, found ++ [(z :: t)[j]], rfl, ?_, ?_⟩
    · refine List.Perm.trans ?_ hp
      rw [List.append_assoc]
      exact List.Perm.append_left _ (erase_perm _ j hj)
    · rw [List.map_append, erase_map]
      rfl
theorem kind_of_ok {z : Str} {i : Nat} {k : Kd} (hl : ks.length ≤ 100) (h : Nth (ks.map (·.name)) z i) (hk : ks[i]? = some k) (q : Q (.dat (kindD k))) : p_kind_of [.dat (poolD rs ks), .dat (.str z)] Q E := by
  unfold p_kind_of
  walk_at "fn"
  unfold m_kind_of
  walk_at "dl"
  refine kind_index_ok hl h ?_
  walk_at "dl"
  rw [L2.atI_nat (show (ks.map kindD)[i]? = some (kindD k) by rw [List.getElem?_map, hk]; rfl)]
  exact q
theorem law_positions_ok (P : PoolOk rs ks) (q : Q (.own ((posL ks ks).map posD))) : p__law_positions [.dat (poolD rs ks)] Q E := by
  have hkl := P.kl
  unfold p__law_positions
  walk_at "fn"
  unfold m__law_positions
  walk_at "dl"
  refine forL_map kindD (fun pre r => ∃ x, r = [some (.dat (poolD rs ks)), some (.own ((posL ks pre).map posD)), x, none]) ⟨_, rfl⟩ ?_ ?_
  · rintro pre k post r k0 e ⟨y, rfl⟩ hk0
    have hk : k ∈ ks := by rw [e]; simp
    obtain ⟨i, hi⟩ := List.getElem?_of_mem hk
    have hpl := posL_le P (l := pre) fun z hz => by rw [e]; exact List.mem_append_left _ hz
    have hpr : pre.length ≤ 12 := by
      have := congrArg List.length e
      rw [List.length_append] at this
      omega
    have hfl := flat_le P hi
    walk_at "dl"
    refine law_line_ok P hi ?_
    walk_at "dl"
    rw [List.length_map, posD_range k]
    refine lcL_map _ (fun q => posD (k, q)) (by rw [List.length_range]; omega) ?_ ?_
    · intro c hc acc K ha hK
      walk_at "dl"
      exact hK
    · walk_at "dl"
      refine hk0 _ ⟨some (.dat (kindD k)), ?_⟩
      have e3 : posL ks (pre ++ [k]) = posL ks pre ++ posOf ks k := by unfold posL; rw [List.flatMap_append]; simp
      have e4 : (List.range (flat ks k).length).map (fun q => posD (k, q)) = (posOf ks k).map posD := by unfold posOf; rw [List.map_map]; rfl
      rw [e3, List.map_append, e4]
  · rintro r ⟨y, rfl⟩
    walk_at "dl"
    exact q
theorem law_held_ok (P : PoolOk rs ks) {i m : Nat} {k : Kd} (hk : ks[i]? = some k) (hm : m ≤ (flat ks k).length) (q : Q (.dat (vecD (heldF rs ((flat ks k).take m))))) : p__law_held [.dat (poolD rs ks), .dat (.str k.name), .dat (.int ((m : Nat) : Int))] Q E := by
  have hrl := P.rl
  have hfl := flat_le P hk
  unfold p__law_held
  walk_at "fn"
  unfold m__law_held
  walk_at "dl"
  refine lcL_map roomD (fun r => .str r.1) (by omega) ?_ ?_
  · intro x hx acc K ha hK
    walk_at "dl"
    exact hK
  walk_at "dl"
  refine law_line_ok P hk ?_
  walk_at "dl"
  have e0 : cutD ((flat ks k).map claimD) none (some ((m : Nat) : Int)) = ((flat ks k).take m).map claimD := by
    unfold cutD
    rw [HT.sIx_nat, HT.sIx_none, List.length_map, Nat.min_eq_left hm, List.map_take]
    rfl
  rw [e0, show (((rs.map fun r => PyData.str r.1).length : Nat) : Int).toNat = rs.length by rw [List.length_map]; rfl, heldL_zero, show (rs.map fun r => PyData.str r.1) = (rs.map (·.1)).map .str from (List.map_map ..).symm]
  refine forL_map claimD (fun pre r => ∃ x y d3, (d3 = DV.own ((rs.map (·.1)).map .str) ∨ d3 = .dat (.list ((rs.map (·.1)).map .str))) ∧ r = [some (.dat (poolD rs ks)), some (.dat (.str k.name)), some (.dat (.int ((m : Nat) : Int))), some d3, x, some (.own ((heldF rs pre).map .int)), y]) ⟨_, _, _, .inl rfl, rfl⟩ ?_ ?_
  · rintro pre c post r k0 e ⟨x, y, d3, hd3, rfl⟩ hk0
    have hc : c ∈ flat ks k := List.mem_of_mem_take (show c ∈ (flat ks k).take m by rw [e]; simp)
    obtain ⟨h1, h2, h3⟩ := flat_mem P hk hc
    have hs : ∀ z ∈ rs.map (·.1), PyData.strOk z = true ∧ z.length ≤ 20 := fun z hz => by
      obtain ⟨r, hr, rfl⟩ := List.mem_map.mp hz
      exact ⟨(P.rok r hr).1, (P.rok r hr).2.1⟩
    have f1 := strs_fine hs (by rw [List.length_map]; omega)
    have f2 : Fine 0 40 (.str c.1) := fin_str (hs _ h1).1 (by have := (hs _ h1).2; omega)
    obtain ⟨n1, n2⟩ := nth_ix h1
    have hlt := ix_lt h1
    have e9 : heldF rs (pre ++ [c]) = heldL rs.length (pre.map (ic rs) ++ [(ixOf (rs.map (·.1)) c.1, c.2)]) := by unfold heldF; rw [List.map_append]; rfl
    rcases hd3 with rfl | rfl
    all_goals (
      walk_at "dl"
      refine ⟨ixOf (rs.map (·.1)) c.1, .str c.1, by rw [List.getElem?_map, n1]; rfl, by rw [eqv_str]; simp, fun m' z' hm' hz' => ?_, ?_⟩
      · rw [List.getElem?_map] at hz'
        cases e : (rs.map (·.1))[m']? with
        | none => rw [e] at hz'; cases hz'
        | some z =>
          rw [e] at hz'
          obtain rfl : PyData.str z = z' := Option.some.inj hz'
          rw [eqv_str, decide_eq_false fun q => n2 m' hm' (by rw [e, q])]
      · walk_at "dl"
        rw [heldL_get _ hlt]
        walk_at "dl"
        refine ⟨ixOf (rs.map (·.1)) c.1, ixN_at (by rw [List.length_map, heldL_len]; exact hlt), ?_⟩
        rw [heldL_set _ hlt]
        walk_at "dl"
        refine hk0 _ ⟨_, _, _, ?_, by rw [e9]⟩
        first | exact .inl rfl | exact .inr rfl)
  · rintro r ⟨x, y, d3, hd3, rfl⟩
    walk_at "dl"
    exact q
theorem law_claim_ok (P : PoolOk rs ks) {p : Kd × Nat} (hp : p.1 ∈ ks) (h : p.2 < (flat ks p.1).length) (q : Q (.dat (ixD rs (clm ks p)))) : p__law_claim [.dat (poolD rs ks), .dat (.str p.1.name), .dat (.int ((p.2 : Nat) : Int))] Q E := by
  obtain ⟨i, hi⟩ := List.getElem?_of_mem hp
  obtain ⟨h1, h2, h3⟩ := clm_ok P hp h
  have hrl := P.rl
  unfold p__law_claim
  walk_at "fn"
  unfold m__law_claim
  walk_at "dl"
  refine law_line_ok P hi ?_
  walk_at "dl"
  rw [L2.atI_nat (show ((flat ks p.1).map claimD)[p.2]? = some (claimD (clm ks p)) by rw [List.getElem?_map, clm_at h]; rfl)]
  walk_at "dl"
  refine lcL_map roomD (fun r => .str r.1) (by omega) ?_ ?_
  · intro x hx acc K ha hK
    walk_at "dl"
    exact hK
  · rw [show (rs.map fun r => PyData.str r.1) = (rs.map (·.1)).map .str from (List.map_map ..).symm]
    have hs : ∀ z ∈ rs.map (·.1), PyData.strOk z = true ∧ z.length ≤ 20 := fun z hz => by
      obtain ⟨r, hr, rfl⟩ := List.mem_map.mp hz
      exact ⟨(P.rok r hr).1, (P.rok r hr).2.1⟩
    have f1 := strs_fine hs (by rw [List.length_map]; omega)
    have f2 : Fine 0 40 (.str (clm ks p).1) := fin_str (hs _ h1).1 (by have := (hs _ h1).2; omega)
    walk_at "dl"
    obtain ⟨n1, n2⟩ := nth_ix h1
    refine ⟨ixOf (rs.map (·.1)) (clm ks p).1, .str (clm ks p).1, by rw [List.getElem?_map, n1]; rfl, by rw [eqv_str]; simp, fun m z' hm hz' => ?_, ?_⟩
    · rw [List.getElem?_map] at hz'
      cases e : (rs.map (·.1))[m]? with
      | none => rw [e] at hz'; cases hz'
      | some z =>
        rw [e] at hz'
        obtain rfl : PyData.str z = z' := Option.some.inj hz'
        rw [eqv_str, decide_eq_false fun q => n2 m hm (by rw [e, q])]
    · walk_at "dl"
      exact q
theorem names_ok {n0 : Int} (hn1 : 0 ≤ n0) (hn2 : n0 ≤ 12) (q : ∀ zs : List Str, zs.Nodup → ((zs.length : Nat) : Int) = n0 → (∀ z ∈ zs, z ∈ names12) → Q (.own (zs.map .str))) : p__law_names [.bag, .dat (.int n0)] Q E := by
  obtain ⟨n, rfl⟩ := Int.eq_ofNat_of_zero_le hn1
  unfold p__law_names
  walk_at "fn"
  unfold m__law_names
  walk_at "dl"
  refine mixed_ok (ss := names12) (fun z hz => ⟨(n12 z hz).1, (n12 z hz).2.1⟩) (by decide) fun ys hp => ?_
  walk_at "dl"
  have hl : ys.length = 12 := hp.length_eq
  have e : cutD (ys.map PyData.str) none (some ((n : Nat) : Int)) = (ys.take n).map .str := by
    unfold cutD
    rw [HT.sIx_nat, HT.sIx_none, List.length_map, Nat.min_eq_left (by omega), List.map_take]
    rfl
  rw [e]
  refine v_sortA (by rw [List.length_take]; omega) fun zs hz _ => ?_
  walk_at "dl"
  refine q zs ?_ (by rw [hz.length_eq, List.length_take]; omega) fun z hz' => hp.mem_iff.mp (List.mem_of_mem_take (hz.mem_iff.mp hz'))
  exact hz.nodup_iff.mpr ((hp.nodup_iff.mpr n12n).sublist (List.take_sublist ..))
theorem drawn_line_ok {rooms : List Str} {u0 : Int} (hu0 : 1 ≤ u0) (hu1 : u0 ≤ 9) (h0 : 0 < rooms.length) (h1 : rooms.length ≤ 12) (q : ∀ cs : List (Str × Int), 1 ≤ cs.length → cs.length ≤ 3 → (∀ c ∈ cs, c.1 ∈ rooms ∧ 1 ≤ c.2 ∧ c.2 ≤ u0) → Q (.dat (.tuple (cs.map claimD)))) :
    p__law_drawn_line [.bag, .dat (.list (rooms.map .str)), .dat (.int 3), .dat (.int u0)] Q E := by
  unfold p__law_drawn_line
  walk_at "fn"
  unfold m__law_drawn_line
  walk_at "dl"
  refine take_ok (by decide) (by decide) fun k hk0 hk1 => ?_
  walk_at "dl"
  refine lcL_each (fun y => ∃ c, y = claimD c ∧ (c.1 ∈ rooms ∧ 1 ≤ c.2 ∧ c.2 ≤ u0)) (by rw [rangeL_len]; omega) ?_ ?_
  · intro x hx acc K ha hK
    obtain ⟨i, rfl, _, _⟩ := rangeL_mem hx
    walk_at "dl"
    refine some_ok (by rw [List.length_map]; exact h0) (by rw [List.length_map]; omega) fun d hd => ?_
    obtain ⟨z, hz, rfl⟩ := List.mem_map.mp hd
    walk_at "dl"
    refine take_ok (by omega) (by omega) fun u hv0 hv1 => ?_
    walk_at "dl"
    exact hK _ ⟨(z, 1 + u), rfl, hz, by show 1 ≤ 1 + u; omega, by show 1 + u ≤ u0; omega⟩
  · intro ys hy1 hy2
    obtain ⟨cs, rfl, hcs⟩ := claims_of hy2
    rw [List.length_map, rangeL_len] at hy1
    walk_at "dl"
    exact q cs (by omega) (by omega) hcs
theorem asked_from_ok {k : Kd} {l : List Kd} (hks : ks.length ≤ 100) (hc : Chain ks k l) (hn : (l.map (·.name)).Nodup) (hok : ∀ x ∈ l, KdOk x) (hl : l.length ≤ 100) (q : Q (.own (l.map kindD))) : p_asked_from [.dat (poolD rs ks), .dat (kindD k)] Q E := by
  unfold p_asked_from
  walk_at "fn"
  unfold m_asked_from
  walk_at "dl"
  obtain ⟨t0, e0⟩ := hc.head
  refine v_sWhile (fun m r => ∃ pre last post x, l = pre ++ last :: post ∧ m = post.length ∧ Chain ks last (last :: post) ∧ r = [some (.dat (poolD rs ks)), some (.dat (kindD k)), some (.own ((pre ++ [last]).map kindD)), x]) t0.length ⟨[], k, t0, none, e0, rfl, e0 ▸ hc, rfl⟩ ?_
  rintro m r ⟨pre, last, post, x, e, rfl, ch, rfl⟩
  have hlast : KdOk last := hok last (by rw [e]; simp)
  have oA := okD_str hlast.ak.1
  have oB : okD (.str "") := okD_str (strOk_of "")
  walk_at "dl"
  rw [List.map_append, List.map_singleton, atI_last]
  walk_at "dl"
  rw [eqv_str]
  cases ch with
  | last ha =>
    rw [decide_eq_true ha]
    walk_at "dl"
    have e2 : List.map kindD pre ++ [kindD last] = l.map kindD := by rw [e, List.map_append]; rfl
    rw [e2]
    exact q
  | more ha hN hk hc' =>
    rename_i k' i
    rw [decide_eq_false ha]
    walk_at "dl"
    rw [atI_last]
    walk_at "dl"
    refine kind_of_ok hks hN hk ?_
    walk_at "dl"
    obtain ⟨t, rfl⟩ := hc'.head
    have hk' : KdOk k' := hok k' (by rw [e]; simp)
    have hpre : ∀ x ∈ pre ++ [last], KdOk x := fun x hx => hok x (by
      rw [e]
      rcases List.mem_append.mp hx with h | h
      · exact List.mem_append_left _ h
      · rw [List.mem_singleton.mp h]; simp)
    have hpl : (pre ++ [last]).length ≤ 100 := by
      have := hl
      rw [e, List.length_append, List.length_cons] at this
      rw [List.length_append, List.length_singleton]; omega
    have ff := kinds_fine hpre hpl
    have fk := kind_fine hk'
    rw [show List.map kindD pre ++ [kindD last] = (pre ++ [last]).map kindD by rw [List.map_append]; rfl]
    refine ⟨fk.ok (by decide), ff.ok (by decide), ?_⟩
    have hnin : k'.name ∉ (pre ++ [last]).map (·.name) := by
      have h2 := hn
      rw [e, show pre ++ last :: k' :: t = (pre ++ [last]) ++ (k' :: t) by simp, List.map_append, List.nodup_append] at h2
      exact fun z => h2.2.2 _ z k'.name (by simp) rfl
    rw [isIn_kind hnin]
    walk_at "dl"
    refine ⟨t.length, by rw [List.length_cons]; omega, pre ++ [last], k', t, some (.dat (kindD k')), by rw [e]; simp, rfl, hc', ?_⟩
    rw [List.map_append (l₁ := pre ++ [last])]
    rfl
theorem pool_ok {i1 i2 sz u0 : Int} (h1 : 1 ≤ i1) (h1' : i1 ≤ 12) (h2 : 0 ≤ i2) (h2' : i2 ≤ 12) (hs : 0 ≤ sz) (hs' : sz ≤ 999) (hu0 : 1 ≤ u0) (hu1 : u0 ≤ 9) (q : ∀ rs ks, PoolOk rs ks → ((rs.length : Nat) : Int) = i1 → ((ks.length : Nat) : Int) = i2 → (∀ k ∈ ks, ∀ c ∈ k.line, c.2 ≤ u0) → (∀ z ∈ ks.map (·.name), z ∈ names12) → (∀ z ∈ rs.map (·.1), z ∈ names12) → Q (.dat (poolD rs ks))) :
    p__law_pool [.bag, .dat (.int i1), .dat (.int i2), .dat (.int sz), .dat (.int u0)] Q E := by
  obtain ⟨n1, rfl⟩ := Int.eq_ofNat_of_zero_le (show 0 ≤ i1 by omega)
  obtain ⟨n2, rfl⟩ := Int.eq_ofNat_of_zero_le h2
  unfold p__law_pool
  walk_at "fn"
  unfold m__law_pool
  walk_at "dl"
  refine names_ok (by omega) (by omega) fun rn rnd rnl rnm => ?_
  walk_at "dl"
  refine names_ok (by omega) (by omega) fun kn knd knl knm => ?_
  walk_at "dl"
  have rok : ∀ y ∈ rn, PyData.strOk y = true ∧ y.length ≤ 20 := fun y hy => ⟨(n12 y (rnm y hy)).1, (n12 y (rnm y hy)).2.1⟩
  refine forL_map (fun z : Str => PyData.str z) (fun pre r => ∃ ks kvs d5 x8 x9 x10, ks.map Kd.name = pre ∧ Made rn ks kvs ∧ (∀ k ∈ ks, ∀ c ∈ k.line, c.2 ≤ u0) ∧ (d5 = DV.own (rn.map .str) ∨ d5 = .dat (.list (rn.map .str))) ∧ (∀ dv, x8 = some dv → dv.hold = false) ∧
    r = [some .bag, some (.dat (.int ((n1 : Nat) : Int))), some (.dat (.int ((n2 : Nat) : Int))), some (.dat (.int sz)), some (.dat (.int u0)), some d5, some (.own (ks.map kindD)), some (.dct false kvs), x8, x9, x10, none, none, none])
    ⟨[], [(.str "", .int 0)], _, none, none, none, rfl, ⟨fun _ h => by (cases h), fun _ h => by (cases h), fun _ h => by (cases h), fun _ _ h => by (cases h), fun z hz => ?_, by decide, fun _ h => by (cases h)⟩, fun _ h => by (cases h), .inl rfl, fun _ h => by (cases h), rfl⟩ ?_ ?_
  · rcases hz with rfl | hz
    · exact ⟨0, rfl⟩
    · cases hz
  · rintro pre z post r k0 e ⟨ks, kvs, d5, x8, x9, x10, hpre, M, hU, hd5, hx8, rfl⟩ hk0
    have hz : z ∈ kn := by rw [e]; simp
    have zok := n12 z (knm z hz)
    have hkl : ks.length ≤ 12 := by
      have a1 := congrArg List.length e
      have a2 := congrArg List.length hpre
      rw [List.length_append, List.length_cons] at a1
      rw [List.length_map] at a2
      omega
    have hvl := M.vl
    rcases hd5 with rfl | rfl
    all_goals (
      walk_at "dl"
      refine drawn_line_ok hu0 hu1 (by omega) (by omega) fun cs hcl0 hcl hcs => ?_
      walk_at "dl"
      refine lcL_flt kindD (fun k : Kd => decide (lenOf kvs k.name + (cs.length : Int) ≤ 12)) (fun k => .str k.name) (by omega) ?_ ?_
      · intro k hk acc K ha hK
        walk_at "dl"
        refine ⟨(by intro q; cases q), ?_⟩
        rw [M.at (.inr (List.mem_map_of_mem hk))]
        walk_at "dl"
        rw [List.length_map]
        by_cases hc : lenOf kvs k.name + (cs.length : Int) ≤ 12
        · rw [if_pos (decide_eq_true hc)] at hK
          rw [decide_eq_true hc]
          walk_at "dl"
          exact hK
        · rw [if_neg (by rw [decide_eq_false hc]; simp)] at hK
          rw [decide_eq_false hc]
          walk_at "dl"
          exact hK
      · walk_at "dl"
        have l3 : (List.replicate (Int.toNat 3) [PyData.str ""]).flatten.length = 3 := rfl
        have l4 : ((ks.filter fun k : Kd => decide (lenOf kvs k.name + (cs.length : Int) ≤ 12)).map fun k => PyData.str k.name).length ≤ 12 := by
          rw [List.length_map]
          exact Nat.le_trans (List.length_filter_le ..) hkl
        refine ⟨by rw [l3]; omega, ?_⟩
        walk_at "dl"
        refine some_ok ?_ ?_ fun d hd => ?_
        · rw [List.length_append, l3]; omega
        · rw [List.length_append, l3]; omega
        · obtain ⟨a, rfl, ha⟩ : ∃ a : Str, d = .str a ∧ (a = "" ∨ a ∈ ks.map (·.name)) := by
            rcases List.mem_append.mp hd with h | h
            · have h' : d ∈ [PyData.str "", .str "", .str ""] := h
              simp only [List.mem_cons, List.not_mem_nil, or_false, or_self] at h'
              exact ⟨"", h', .inl rfl⟩
            · obtain ⟨k, hk, rfl⟩ := List.mem_map.mp h
              exact ⟨k.name, rfl, .inr (List.mem_map_of_mem ((List.mem_filter.mp hk).1))⟩
          walk_at "dl"
          refine ⟨(by intro q; cases q), ?_⟩
          rw [M.at ha]
          walk_at "dl"
          refine ⟨(by intro q; cases q), by omega, ?_⟩
          walk_at "dl"
          refine hk0 _ ⟨ks ++ [⟨z, cs, a⟩], putD kvs (.str z) (.int ((((cs.map claimD).length : Nat) : Int) + lenOf kvs a)), .dat (.list (rn.map .str)), some (.dat (.str z)), some (.dat (.tuple (cs.map claimD))), some (.dat (.str a)), ?_, M.more zok rok hcl0 hcl (fun c hc => let ⟨a1, a2, a3⟩ := hcs c hc; ⟨a1, a2, by omega⟩) ha, (fun k hk c hc => by
            rcases List.mem_append.mp hk with h | h
            · exact hU k h c hc
            · rw [List.mem_singleton.mp h] at hc; exact (hcs c hc).2.2), .inr rfl, ?_, ?_⟩
          · rw [List.map_append, hpre]; rfl
          · intro dv h
            cases h
            rfl
          · rw [List.map_append]; rfl)
  · rintro r ⟨ks, kvs, d5, x8, x9, x10, hpre, M, hU, hd5, hx8, rfl⟩
    have hkl : ks.length ≤ 12 := by
      have := congrArg List.length hpre
      rw [List.length_map] at this
      omega
    walk_at "dl"
    refine take_ok (by decide) (by decide) fun lk hl0 hl1 => ?_
    rcases hd5 with rfl | rfl
    all_goals (
      walk_at "dl"
      refine ⟨fun i hi => ?_, ?_⟩
      · rw [List.mem_singleton.mp hi]
        intro dv h
        exact hx8 dv h
      walk_at "dl"
      generalize (lk == 0) = lost
      refine lcL_prj (fun z : Str => PyData.str z) roomD (fun b : Str × Int × Bool => b.1) (fun b => 0 ≤ b.2.1 ∧ b.2.1 ≤ 1000) (by omega) ?_ ?_
      · intro z hz acc K ha hK
        walk_at "dl"
        refine take_ok (by omega) (by omega) fun u hu0 hu1 => ?_
        walk_at "dl"
        cases lost with
        | true =>
          walk_at "dl"
          refine take_ok (by decide) (by decide) fun w hw0 hw1 => ?_
          walk_at "dl"
          exact hK (z, u, w == 0) rfl ⟨hu0, by show u ≤ 1000; omega⟩
        | false =>
          walk_at "dl"
          exact hK (z, u, false) rfl ⟨hu0, by show u ≤ 1000; omega⟩
      · intro rs hrs hR
        walk_at "dl"
        have hlen : rs.length = n1 := by
          have := congrArg List.length hrs
          rw [List.length_map] at this
          omega
        refine q rs ks ⟨by omega, by omega, by rw [hrs]; exact rnd, by rw [hpre]; exact knd, M.ok, M.ll, fun k hk c hc => by rw [hrs]; exact M.rooms k hk c hc, M.acyc, fun b hb => ?_, M.l1⟩ (by omega) (by have := congrArg List.length hpre; rw [List.length_map] at this; omega) hU (by rw [hpre]; exact knm) (by rw [hrs]; exact rnm)
        have : b.1 ∈ rn := by rw [← hrs]; exact List.mem_map_of_mem hb
        exact ⟨(rok _ this).1, (rok _ this).2, hR b hb⟩)
theorem whole_line_ok (P : PoolOk rs ks) {i : Nat} {k : Kd} (hk : ks[i]? = some k) (q : Q (.dat (.tuple ((flat ks k).map (ixD rs))))) : p_whole_line [.dat (poolD rs ks), .dat (.str k.name)] Q E := by
  have hkl := P.kl
  have hrl := P.rl
  obtain ⟨c1, c2, c3, c4⟩ := ch_ok P hk
  unfold p_whole_line
  walk_at "fn"
  unfold m_whole_line
  walk_at "dl"
  refine kind_of_ok (by omega) (kind_at P hk) hk ?_
  walk_at "dl"
  refine asked_from_ok (by omega) c1 c3 (fun x hx => P.ok x (c2 x hx)) (by omega) ?_
  walk_at "dl"
  refine forL_map kindD (fun pre r => ∃ x, r = [some (.dat (poolD rs ks)), some (.dat (.str k.name)), some (.own ((pre.flatMap Kd.line).map (ixD rs))), x, none, none]) ⟨_, rfl⟩ ?_ ?_
  · rintro pre x post r k0 e ⟨y, rfl⟩ hk0
    have hx : x ∈ ks := c2 x (by rw [e]; simp)
    have hp : ∀ z ∈ pre, z ∈ ks := fun z hz => c2 z (by rw [e]; exact List.mem_append_left _ hz)
    have hpl : pre.length ≤ 12 := by
      have : (ch ks k).length = _ := congrArg List.length e
      rw [List.length_append] at this
      omega
    have hfl := flat_len P hp
    have hll := P.ll x hx
    walk_at "dl"
    refine lcL_map claimD (ixD rs) (by omega) ?_ ?_
    · intro c hc acc K ha hK
      obtain ⟨a1, _, _⟩ := P.rooms x hx c hc
      walk_at "dl"
      refine room_index_ok (by omega) (nth_ix a1) ?_
      walk_at "dl"
      exact hK
    · walk_at "dl"
      exact hk0 _ ⟨some (.dat (kindD x)), by rw [List.flatMap_append, List.map_append]; simp⟩
  · rintro r ⟨y, rfl⟩
    walk_at "dl"
    exact q
theorem positions_ok (P : PoolOk rs ks) (q : Q (.dat (.tuple ((posL ks ks).map posD)))) : p_positions [.dat (poolD rs ks)] Q E := by
  have hkl := P.kl
  unfold p_positions
  walk_at "fn"
  unfold m_positions
  walk_at "dl"
  refine kind_names_ok (by omega) ?_
  walk_at "dl"
  refine forL_map (fun k : Kd => PyData.str k.name) (fun pre r => ∃ x, r = [some (.dat (poolD rs ks)), some (.own ((posL ks pre).map posD)), x, none]) ⟨_, rfl⟩ ?_ ?_
  · rintro pre k post r k0 e ⟨y, rfl⟩ hk0
    have hk : k ∈ ks := by rw [e]; simp
    obtain ⟨i, hi⟩ := List.getElem?_of_mem hk
    have hpl := posL_le P (l := pre) fun z hz => by rw [e]; exact List.mem_append_left _ hz
    have hpr : pre.length ≤ 12 := by
      have := congrArg List.length e
      rw [List.length_append] at this
      omega
    have hfl := flat_le P hi
    walk_at "dl"
    refine whole_line_ok P hi ?_
    walk_at "dl"
    rw [List.length_map, posD_range k]
    refine lcL_map _ (fun q => posD (k, q)) (by rw [List.length_range]; omega) ?_ ?_
    · intro c hc acc K ha hK
      walk_at "dl"
      exact hK
    · walk_at "dl"
      refine hk0 _ ⟨some (.dat (.str k.name)), ?_⟩
      have e3 : posL ks (pre ++ [k]) = posL ks pre ++ posOf ks k := by unfold posL; rw [List.flatMap_append]; simp
      have e4 : (List.range (flat ks k).length).map (fun q => posD (k, q)) = (posOf ks k).map posD := by unfold posOf; rw [List.map_map]; rfl
      rw [e3, List.map_append, e4]
  · rintro r ⟨y, rfl⟩
    walk_at "dl"
    exact q
theorem held_at_ok (P : PoolOk rs ks) {i m : Nat} {k : Kd} (hk : ks[i]? = some k) (hm : m ≤ (flat ks k).length) (q : Q (.dat (vecD (heldF rs ((flat ks k).take m))))) : p_held_at [.dat (poolD rs ks), .dat (.str k.name), .dat (.int ((m : Nat) : Int))] Q E := by
  have hrl := P.rl
  have hfl := flat_le P hk
  unfold p_held_at
  walk_at "fn"
  unfold m_held_at
  walk_at "dl"
  refine whole_line_ok P hk ?_
  walk_at "dl"
  rw [decide_eq_true (show (0 : Int) ≤ (m : Nat) by omega)]
  walk_at "dl"
  rw [List.length_map, decide_eq_true (show ((m : Nat) : Int) ≤ ((flat ks k).length : Nat) by omega)]
  walk_at "dl"
  have e0 : cutD ((flat ks k).map (ixD rs)) none (some ((m : Nat) : Int)) = (((flat ks k).take m).map (ic rs)).map icD := by
    unfold cutD
    rw [HT.sIx_nat, HT.sIx_none, List.length_map, Nat.min_eq_left hm, ← ixD_ic, List.map_take]
    rfl
  rw [e0]
  refine claimed_ok (by rw [List.length_map, List.length_take]; omega) (by omega) ?_
  exact q
theorem claim_at_ok (P : PoolOk rs ks) {p : Kd × Nat} (hp : p.1 ∈ ks) (h : p.2 < (flat ks p.1).length) (q : Q (.dat (ixD rs (clm ks p)))) : p_claim_at [.dat (poolD rs ks), .dat (.str p.1.name), .dat (.int ((p.2 : Nat) : Int))] Q E := by
  obtain ⟨i, hi⟩ := List.getElem?_of_mem hp
  unfold p_claim_at
  walk_at "fn"
  unfold m_claim_at
  walk_at "dl"
  refine whole_line_ok P hi ?_
  walk_at "dl"
  rw [decide_eq_true (show (0 : Int) ≤ (p.2 : Nat) by omega)]
  walk_at "dl"
  rw [List.length_map, decide_eq_true (show ((p.2 : Nat) : Int) < ((flat ks p.1).length : Nat) by omega)]
  walk_at "dl"
  rw [L2.atI_nat (show ((flat ks p.1).map (ixD rs))[p.2]? = some (ixD rs (clm ks p)) by rw [List.getElem?_map, clm_at h]; rfl)]
  exact q
theorem need_of_ok (P : PoolOk rs ks) {i : Nat} {k : Kd} (hk : ks[i]? = some k) (q : Q (.dat (vecD (heldF rs (flat ks k))))) : p_need_of [.dat (poolD rs ks), .dat (.str k.name)] Q E := by
  have hrl := P.rl
  have hfl := flat_le P hk
  unfold p_need_of
  walk_at "fn"
  unfold m_need_of
  walk_at "dl"
  refine whole_line_ok P hk ?_
  walk_at "dl"
  rw [ixD_ic]
  refine claimed_ok (by rw [List.length_map]; omega) (by omega) ?_
  exact q
end
end
end DL.LW

namespace DL.LW
open PySem DL
section
local macro_rules | `(tactic| walk_at "dl") => `(tactic| repeat (first
  | refine Step.go ?_
  | (refine goG ?_; first
    | ((with_reducible apply v_onRng); (focus exact rfl))
    | ((with_reducible apply v_on1); (focus exact rfl))
    | ((with_reducible apply v_oV); (focus exact rfl))
    | ((with_reducible apply v_on2); (focus exact rfl); (focus exact rfl))
    | ((with_reducible apply v_gN); (focus ((with_reducible (repeat (first | exact p_z | apply p_s))))))
    | ((with_reducible apply v_xVarD); (focus exact rfl))
    | ((with_reducible apply v_onL); (focus exact rfl))
    | ((with_reducible refine v_neShown (by assumption) ?_))
    | ((with_reducible refine v_eqShown (by assumption) ?_))
    | ((with_reducible refine v_eq ?_))
    | ((with_reducible refine v_ne ?_))
    | ((with_reducible apply v_tB); (focus exact rfl))
    | ((with_reducible apply v_tI); (focus exact rfl))
    | ((with_reducible apply v_tL); (focus exact rfl))
    | ((with_reducible apply v_tT); (focus exact rfl))
    | ((with_reducible apply v_tN); (focus exact rfl))
    | ((with_reducible apply v_tS); (focus exact rfl))
    | ((with_reducible apply v_onI); (focus exact rfl))
    | ((with_reducible apply v_onX); (focus exact rfl))
    | ((with_reducible apply v_xVarB); (focus exact rfl))
    | ((with_reducible apply v_gT); (focus exact rfl))
    | ((with_reducible apply v_sAug); (focus exact rfl))
    | ((with_reducible apply v_lc); (focus ((try simp only [clrs, putO, put]); exact rfl)))
    | ((with_reducible apply v_cl2); (focus ((try simp only [clrs, putO, put]); exact rfl)))
    | ((with_reducible apply v_bk2); (focus ((try simp only [back, putO, put, sl]); exact rfl)))
    | ((with_reducible apply v_xApp); (focus exact rfl))
    | ((with_reducible apply v_xMt); (focus exact rfl))
    | ((with_reducible apply v_onLO); (focus exact rfl); (focus exact rfl))
    | ((with_reducible apply v_onO); (focus exact rfl))
    | ((with_reducible apply v_xVarO); (focus exact rfl); (focus ((with_reducible (repeat (first | exact p_z | apply p_s))))))
    | ((with_reducible apply v_xMv); (focus exact rfl); (focus ((with_reducible (repeat (first | exact p_z | apply p_s))))))
    | ((with_reducible apply v_onII); (focus exact rfl); (focus exact rfl))
    | ((with_reducible apply v_onDO); (focus exact rfl); (focus exact rfl))
    | ((with_reducible apply v_on3); (focus exact rfl); (focus exact rfl); (focus exact rfl))
    | ((with_reducible apply v_xGetN); (focus exact rfl))
    | ((with_reducible apply v_exN); (focus exact rfl))
    | ((with_reducible apply v_onDn); (focus exact rfl); (focus exact rfl))
    | ((with_reducible apply v_onXn); (focus exact rfl))
    | ((with_reducible apply v_onDDn); (focus exact rfl); (focus exact rfl); (focus exact rfl))
    | ((with_reducible apply v_xGet2N); (focus exact rfl))
    | ((with_reducible apply v_onN); (focus exact rfl))
    | ((with_reducible apply v_xDGet); (focus exact rfl))
    | ((with_reducible apply v_exD); (focus exact rfl))
    | ((with_reducible apply v_exL); (focus exact rfl))
    | ((with_reducible apply v_xVarN); (focus exact rfl))
    | ((with_reducible apply v_xTIdx); (focus exact rfl))
    | ((with_reducible apply v_onTT); (focus exact rfl))
    | ((with_reducible apply v_onTTl); (focus exact rfl))
    | ((with_reducible apply v_onDc); (focus exact rfl); (focus exact rfl))
    | ((with_reducible apply v_onSN); (focus exact rfl); (focus exact rfl))
    | ((with_reducible apply v_onLD); (focus exact rfl); (focus exact rfl))
    | ((with_reducible refine v_xDOne ?_ ?_); (focus (intro z; cases z)))
    | ((with_reducible apply v_xLcO); (focus exact rfl); (focus ((with_reducible (repeat (first | exact p_z | apply p_s))))))
    | ((with_reducible apply v_bk3); (focus ((try simp only [back, putO, put, sl]); exact rfl)))
    | ((with_reducible refine v_own1 ?_ ?_); (focus (intro _ e; first | (cases e; done) | (cases e; rfl))))
    | ((with_reducible refine v_own2 ?_ ?_ ?_); (focus (intro _ e; first | (cases e; done) | (cases e; rfl))); (focus (intro _ e; first | (cases e; done) | (cases e; rfl))))
    | ((with_reducible refine v_own4 ?_ ?_ ?_ ?_ ?_); (focus (intro _ e; first | (cases e; done) | (cases e; rfl))); (focus (intro _ e; first | (cases e; done) | (cases e; rfl))); (focus (intro _ e; first | (cases e; done) | (cases e; rfl))); (focus (intro _ e; first | (cases e; done) | (cases e; rfl))))
    | ((with_reducible refine v_own3 ?_ ?_ ?_ ?_); (focus (intro _ e; first | (cases e; done) | (cases e; rfl))); (focus (intro _ e; first | (cases e; done) | (cases e; rfl))); (focus (intro _ e; first | (cases e; done) | (cases e; rfl))))
    | ((with_reducible apply v_onEx); (focus exact rfl); (focus (simp only [List.length_cons, List.length_nil]; omega)))
    | ((with_reducible apply v_onExF); (focus exact rfl))
    | ((with_reducible apply v_hF); (focus exact rfl); (focus exact rfl))
    | ((with_reducible apply v_onTLt); (focus exact rfl))
    | ((with_reducible apply v_onTLl); (focus exact rfl))
    | ((with_reducible apply v_onLA); (focus exact rfl))
    | ((with_reducible apply v_exO); (focus exact rfl))
    | ((with_reducible apply v_onIO); (focus exact rfl); (focus exact rfl))
    | ((with_reducible apply v_xDGet2); (focus exact rfl))
    | ((with_reducible apply v_onDD); (focus exact rfl); (focus exact rfl); (focus exact rfl))
    | ((with_reducible apply v_xDSetd); (focus exact rfl))
    | ((with_reducible apply v_onTI); (focus exact rfl); (focus exact rfl))
    | ((with_reducible apply v_onS); (focus exact rfl))
    | ((with_reducible apply v_isSx); (focus exact rfl))
    | ((with_reducible apply v_onSSs); (focus exact rfl); (focus exact rfl))
    | ((with_reducible apply v_xLam); (focus ((try simp only [frz, frz1, sl, put]); exact rfl)); (focus ((try simp only [bare, List.map_cons, List.map_nil, bareO]); exact rfl)))
    | ((with_reducible apply v_onLv); (focus exact rfl))
    | ((with_reducible apply v_hIfT); (focus exact rfl))
    | ((with_reducible apply v_hIfF); (focus exact rfl))
    | (with_reducible refine And.intro (Fine.repr (by assumption) (by decide) (by decide)) ?_)
    | (with_reducible refine And.intro (Fine.ok (by assumption) (by decide)) ?_)
    | (with_reducible refine And.intro (Fine.okS (by assumption)) ?_)
    | ((with_reducible refine And.intro ?_ ?_); (focus (first | omega | exact (by decide) | (simp only [List.length_cons, List.length_nil, List.length_map, List.length_range, rangeL_len] <;> omega) | (simp only [List.length_cons, List.length_nil, List.length_append, List.length_map, List.length_range, rangeL_len] <;> omega) | exact Or.inl ⟨by omega, by omega⟩ | exact Or.inr (Or.inl ⟨by omega, by omega⟩)))))))
local macro_rules | `(tactic| walk_at "fn") => `(tactic| simp only [fnSpec, List.map_cons, List.map_nil, List.length_cons, List.length_nil, List.replicate, List.cons_append, List.nil_append, Nat.reduceAdd, Nat.reduceSub, List.replicate_succ, List.replicate_zero])
local macro_rules | `(tactic| walk_at "fine") => `(tactic| repeat (first | assumption | exact fin_none0 | exact fin_bool0 | exact fins_nil | (with_reducible refine fins_cons ?_ ?_) | (with_reducible refine fin_tup ?_) | (with_reducible refine fin_lst ?_) | exact fin_int0 (by omega) | exact fin_lit _))
section
variable {rs : List (Str × Int × Bool)} {ks : List Kd} {Q : DV → Prop} {E : Err → Prop}
/-- what is held at a position, and what it waits for -/
def rowP (rs : List (Str × Int × Bool)) (ks : List Kd) (p : Kd × Nat) : List Int := heldF rs ((flat ks p.1).take p.2)
def thr (rs : List (Str × Int × Bool)) (ks : List Kd) (p : Kd × Nat) : Nat := ixOf (rs.map (·.1)) (clm ks p).1
def cellP (rs : List (Str × Int × Bool)) (ks : List Kd) (p : Kd × Nat) (x : Nat) : Int := cellSum (((flat ks p.1).take p.2).map (ic rs)) x
def edgeB (rs : List (Str × Int × Bool)) (ks : List Kd) (x y : Nat) (p : Kd × Nat) : Bool := decide (0 < cellP rs ks p x) && decide (thr rs ks p = y)
def EP (rs : List (Str × Int × Bool)) (ks : List Kd) (x y : Nat) : List (Kd × Nat) := (posL ks ks).filter (edgeB rs ks x y)
theorem pos_at (P : PoolOk rs ks) {p : Kd × Nat} (hp : p ∈ posL ks ks) : p.2 ≤ (flat ks p.1).length ∧ p.1 ∈ ks ∧ p.2 < (flat ks p.1).length ∧ ∃ i : Nat, ks[i]? = some p.1 := by
  obtain ⟨h1, h2⟩ := pos_mem hp
  exact ⟨Nat.le_of_lt h2, h1, h2, List.getElem?_of_mem h1⟩
theorem edge_positions_ok (P : PoolOk rs ks) {x y : Nat} (hx : x < rs.length) (q : Q (.dat (.tuple ((EP rs ks x y).map posD)))) : p_edge_positions [.dat (poolD rs ks), .dat (.int ((x : Nat) : Int)), .dat (.int ((y : Nat) : Int))] Q E := by
  have hkl := P.kl
  have hrl := P.rl
  have hpl := posL_le P (l := ks) fun z hz => hz
  unfold p_edge_positions
  walk_at "fn"
  unfold m_edge_positions
  walk_at "dl"
  refine positions_ok P ?_
  walk_at "dl"
  refine lcL_flt posD (edgeB rs ks x y) posD (by omega) ?_ ?_
  · intro p hp acc K ha hK
    obtain ⟨h1, h2, h3, i, hi⟩ := pos_at P hp
    walk_at "dl"
    refine held_at_ok P hi h1 ?_
    walk_at "dl"
    rw [heldL_get _ hx]
    walk_at "dl"
    cases e1 : decide (0 < cellP rs ks p x) with
    | false =>
      have e2 : edgeB rs ks x y p = false := by unfold edgeB; rw [e1]; rfl
      rw [e2, if_neg (by decide)] at hK
      have n1 : ¬ cellSum (((flat ks p.1).take p.2).map (ic rs)) x > 0 := of_decide_eq_false e1
      rw [decide_eq_false n1]
      walk_at "dl"
      exact hK
    | true =>
      have n1 : cellSum (((flat ks p.1).take p.2).map (ic rs)) x > 0 := of_decide_eq_true e1
      rw [decide_eq_true n1]
      walk_at "dl"
      refine claim_at_ok P h2 h3 ?_
      walk_at "dl"
      have e3 : (((thr rs ks p : Nat) : Int) == ((y : Nat) : Int)) = edgeB rs ks x y p := by
        unfold edgeB
        rw [e1, Bool.true_and]
        by_cases e : thr rs ks p = y
        · rw [e, decide_eq_true rfl]; simp
        · rw [decide_eq_false e]; exact beq_eq_false_iff_ne.mpr (by omega)
      unfold thr at e3
      rw [e3]
      cases e4 : edgeB rs ks x y p with
      | true =>
        rw [e4] at hK
        walk_at "dl"
        exact hK
      | false =>
        rw [e4] at hK
        walk_at "dl"
        exact hK
  · walk_at "dl"
    exact q
theorem pos_fine (P : PoolOk rs ks) {l : List (Kd × Nat)} (hs : l.Sublist (posL ks ks)) : Fine 2 32000 (.tuple (l.map posD)) := by
  have := posL_le P (l := ks) fun z hz => hz
  have hkl := P.kl
  have := hs.length_le
  refine (fin_tup (fins_map (n := 432) (k := 1) (w := 70) (by omega) fun p hp => ?_)).mono (by decide) (by decide)
  obtain ⟨h1, h2⟩ := pos_mem (hs.subset hp)
  obtain ⟨i, hi⟩ := List.getElem?_of_mem h1
  have := flat_le P hi
  have f0 : Fine 0 20 (.str p.1.name) := fin_str (P.ok p.1 h1).nm.1 (P.ok p.1 h1).nm.2
  exact (fin_tup (fins_cons f0 (fins_cons (fin_int0 (by omega)) fins_nil))).mono (by decide) (by decide)
theorem ep_sub {x y : Nat} : (EP rs ks x y).Sublist (posL ks ks) := List.filter_sublist
theorem range_map (n : Nat) : (rangeL 0 ((n : Nat) : Int)) = (List.range n).map fun q => PyData.int ((q : Nat) : Int) := by
  unfold rangeL
  rw [Int.sub_zero, Int.toNat_natCast]
  refine List.map_congr_left fun q _ => ?_
  rw [Int.zero_add]
def rowW (rs : List (Str × Int × Bool)) (ks : List Kd) (x : Nat) : List (Nat × Nat) := (List.range rs.length).flatMap fun y => if (EP rs ks x y).isEmpty then [] else [(x, y)]
def webL (rs : List (Str × Int × Bool)) (ks : List Kd) : List (Nat × Nat) := (List.range rs.length).flatMap (rowW rs ks)
theorem flatMap_le1 {α β : Type} {G : α → List β} (h : ∀ x, (G x).length ≤ 1) : ∀ l : List α, (l.flatMap G).length ≤ l.length
  | [] => Nat.le_refl _
  | x :: l => by
    have := flatMap_le1 h l
    have := h x
    rw [List.flatMap_cons, List.length_append, List.length_cons]
    omega
theorem rowW_len (x : Nat) : (rowW rs ks x).length ≤ rs.length := by
  have := flatMap_le1 (G := fun y => if (EP rs ks x y).isEmpty then [] else [(x, y)]) (fun y => by split <;> simp) (List.range rs.length)
  rw [List.length_range] at this
  exact this
theorem flatMap_leN {α β : Type} {G : α → List β} {n : Nat} (h : ∀ x, (G x).length ≤ n) : ∀ l : List α, (l.flatMap G).length ≤ n * l.length
  | [] => Nat.zero_le _
  | x :: l => by
    have := flatMap_leN h l
    have := h x
    rw [List.flatMap_cons, List.length_append, List.length_cons, Nat.mul_succ]
    omega
theorem webL_len : (webL rs ks).length ≤ rs.length * rs.length := by
  have := flatMap_leN (G := rowW rs ks) (n := rs.length) (fun x => rowW_len x) (List.range rs.length)
  rw [List.length_range] at this
  exact this
theorem web_of_ok (P : PoolOk rs ks) (q : Q (.dat (.tuple ((webL rs ks).map pairD)))) : p_web_of [.dat (poolD rs ks)] Q E := by
  have hkl := P.kl
  have hrl := P.rl
  unfold p_web_of
  walk_at "fn"
  unfold m_web_of
  walk_at "dl"
  rw [range_map]
  refine lcL2_map (fun q : Nat => PyData.int ((q : Nat) : Int)) (fun x => (rowW rs ks x).map pairD) ?_ ?_
  · intro pre x post e K hK
    have hx : x < rs.length := by
      rw [List.length_map] at e
      exact List.mem_range.mp (by rw [e]; simp)
    have hpre : pre.length ≤ 12 := by
      have := congrArg List.length e
      rw [List.length_range, List.length_append, List.length_map, List.length_cons] at this
      omega
    have hacc : (pre.flatMap fun x => (rowW rs ks x).map pairD).length ≤ 12 * 12 := by
      have := flatMap_leN (G := fun x => (rowW rs ks x).map pairD) (n := 12) (fun x => by rw [List.length_map]; have := rowW_len (rs := rs) (ks := ks) x; omega) pre
      omega
    walk_at "dl"
    rw [range_map]
    refine lcL_acc (fun q : Nat => PyData.int ((q : Nat) : Int)) (fun y => (if (EP rs ks x y).isEmpty then [] else [(x, y)]).map pairD) (fun y _ => by split <;> simp) (by rw [List.length_range, List.length_map]; omega) ?_ ?_
    · intro y hy acc K2 ha hK2
      walk_at "dl"
      refine edge_positions_ok P hx ?_
      have fE := pos_fine P (ep_sub (rs := rs) (ks := ks) (x := x) (y := y))
      walk_at "dl"
      have e2 : PyData.eqv (.tuple ((EP rs ks x y).map posD)) (.tuple []) = (EP rs ks x y).isEmpty := by
        cases EP rs ks x y <;> rfl
      refine ⟨(fin_tup (k := 0) (w := 0) fins_nil).ok (by decide), ?_⟩
      rw [e2]
      cases e3 : (EP rs ks x y).isEmpty with
      | true =>
        rw [e3, if_pos rfl, List.map_nil, List.append_nil] at hK2
        walk_at "dl"
        exact hK2
      | false =>
        rw [e3, if_neg (by decide)] at hK2
        walk_at "dl"
        exact hK2
    · walk_at "dl"
      have e5 : (List.range (List.map roomD rs).length).flatMap (fun y => List.map pairD (if (EP rs ks x y).isEmpty = true then [] else [(x, y)])) = (rowW rs ks x).map pairD := by
        unfold rowW
        rw [List.length_map, List.map_flatMap]
      rw [e5]
      exact hK
  · walk_at "dl"
    have e6 : (List.range (List.map roomD rs).length).flatMap (fun x => (rowW rs ks x).map pairD) = (webL rs ks).map pairD := by
      unfold webL
      rw [List.length_map, List.map_flatMap]
    rw [e6]
    exact q
/-! the greatest needs -/
theorem intsOf_mp (ns : List Int) : intsOf (ns.map PyData.int) = some ns := by
  have := intsOf_of (fun i : Int => i) ns
  rw [List.map_id'] at this
  exact this
def bigL (ns : List Int) : Int := (ns.max?).getD 0
theorem max_okB {ns : List Int} {Q : DV → Prop} (h0 : 0 < ns.length) (q : Q (.dat (.int (bigL ns)))) : nMax [.list (ns.map .int)] Q := by
  have e : intsOf (ns.map PyData.int) = some ns := intsOf_mp ns
  show (match intsOf (ns.map PyData.int) with
    | some ns => 0 < ns.length ∧ ∀ m, m ∈ ns → (∀ y, y ∈ ns → y ≤ m) → Q (.dat (.int m))
    | none => False)
  rw [e]
  refine ⟨h0, fun m h1 h2 => ?_⟩
  have : ns.max? = some m := List.max?_eq_some_iff.mpr ⟨h1, h2⟩
  unfold bigL at q
  rw [this] at q
  exact q
theorem big_bd {ns : List Int} {b : Int} (hb : 0 ≤ b) (h : ∀ x ∈ ns, 0 ≤ x ∧ x ≤ b) : 0 ≤ bigL ns ∧ bigL ns ≤ b := by
  unfold bigL
  cases e : ns.max? with
  | none => exact ⟨Int.le_refl _, hb⟩
  | some m => exact h m (List.max?_eq_some_iff.mp e).1
def needL (rs : List (Str × Int × Bool)) (ks : List Kd) : List Int := (List.range rs.length).map fun i => bigL (ks.map fun k => cellSum ((flat ks k).map (ic rs)) i)
theorem need_fine (P : PoolOk rs ks) : Fine 1 300 (vecD (needL rs ks)) := by
  have hrl := P.rl
  refine (vec_fine (n := 12) (w := 20) (by decide) (fun i hi => ?_) (by unfold needL; rw [List.length_map, List.length_range]; exact hrl)).mono (by decide) (by decide)
  obtain ⟨j, hj, rfl⟩ := List.mem_map.mp hi
  have := big_bd (ns := ks.map fun k => cellSum ((flat ks k).map (ic rs)) j) (b := 9 * 36) (by decide) fun x hx => by
    obtain ⟨k, hk, rfl⟩ := List.mem_map.mp hx
    obtain ⟨i, hi⟩ := List.getElem?_of_mem hk
    have hfl := flat_le P hi
    have h := cellSum_le (cs := (flat ks k).map (ic rs)) (b := 9) (fun c hc => by
      obtain ⟨d, hd, rfl⟩ := List.mem_map.mp hc
      have := (flat_mem P hi hd).2
      exact ⟨by show 0 ≤ d.2; omega, by show d.2 ≤ 9; omega⟩) (by decide) j
    rw [List.length_map] at h
    omega
  omega
theorem row_at {k : Kd} {i : Nat} (hi : i < rs.length) : L2.atI ((heldF rs (flat ks k)).map PyData.int) ((i : Nat) : Int) = some (.int (cellSum ((flat ks k).map (ic rs)) i)) := heldL_get _ hi
theorem greatest_ok (P : PoolOk rs ks) (h0 : 0 < ks.length) (q : Q (.dat (vecD (needL rs ks)))) : p_greatest_needs [.dat (poolD rs ks)] Q E := by
  have hkl := P.kl
  have hrl := P.rl
  unfold p_greatest_needs
  walk_at "fn"
  unfold m_greatest_needs
  walk_at "dl"
  refine lcL_map (xs := ks) kindD (fun k => vecD (heldF rs (flat ks k))) (by omega) ?_ ?_
  · intro k hk acc K ha hK
    obtain ⟨i, hi⟩ := List.getElem?_of_mem hk
    walk_at "dl"
    refine need_of_ok P hi ?_
    walk_at "dl"
    exact hK
  walk_at "dl"
  rw [range_map]
  trace_state
  refine lcL_fzm (xs := List.range (List.map roomD rs).length) (r' := [some (.dat (poolD rs ks)), some (.dat (.list (ks.map fun k => vecD (heldF rs (flat ks k))))), none, none, none, none, none]) (fun q : Nat => PyData.int ((q : Nat) : Int)) (fun i => .int (bigL (ks.map fun k => cellSum ((flat ks k).map (ic rs)) i))) (by rw [List.length_range, List.length_map]; omega) ?_ ?_
  · intro i hi r1 h1 acc K ha hK
    have hi' : i < rs.length := by
      have := List.mem_range.mp hi
      rwa [List.length_map] at this
    rcases h1 with rfl | rfl
    all_goals (
      walk_at "dl"
      refine lcL_map (xs := ks) (fun k => vecD (heldF rs (flat ks k))) (fun k => .int (cellSum ((flat ks k).map (ic rs)) i)) (by omega) ?_ ?_
      · intro k hk acc K ha hK
        walk_at "dl"
        rw [row_at hi']
        walk_at "dl"
        exact hK
      · walk_at "dl"
        rw [show (ks.map fun k => PyData.int (cellSum ((flat ks k).map (ic rs)) i)) = (ks.map fun k => cellSum ((flat ks k).map (ic rs)) i).map .int by rw [List.map_map]; rfl]
        refine max_okB (by rw [List.length_map]; exact h0) ?_
        walk_at "dl"
        exact hK)
  · intro r1 h1
    have e9 : (List.range (List.map roomD rs).length).map (fun i => PyData.int (bigL (ks.map fun k => cellSum ((flat ks k).map (ic rs)) i))) = (needL rs ks).map .int := by
      unfold needL
      rw [List.length_map, List.map_map]
      rfl
    rcases h1 with rfl | rfl
    all_goals (
      walk_at "dl"
      rw [e9]
      exact q)
end
end
end DL.LW

namespace DL.LW
open PySem DL
section
local macro_rules | `(tactic| walk_at "dl") => `(tactic| repeat (first
  | refine Step.go ?_
  | (refine goG ?_; first
    | ((with_reducible apply v_onRng); (focus exact rfl))
    | ((with_reducible apply v_on1); (focus exact rfl))
    | ((with_reducible apply v_oV); (focus exact rfl))
    | ((with_reducible apply v_on2); (focus exact rfl); (focus exact rfl))
    | ((with_reducible apply v_gN); (focus ((with_reducible (repeat (first | exact p_z | apply p_s))))))
    | ((with_reducible apply v_xVarD); (focus exact rfl))
    | ((with_reducible apply v_onL); (focus exact rfl))
    | ((with_reducible refine v_neShown (by assumption) ?_))
    | ((with_reducible refine v_eqShown (by assumption) ?_))
    | ((with_reducible refine v_eq ?_))
    | ((with_reducible refine v_ne ?_))
    | ((with_reducible apply v_tB); (focus exact rfl))
    | ((with_reducible apply v_tI); (focus exact rfl))
    | ((with_reducible apply v_tL); (focus exact rfl))
    | ((with_reducible apply v_tT); (focus exact rfl))
    | ((with_reducible apply v_tN); (focus exact rfl))
    | ((with_reducible apply v_tS); (focus exact rfl))
    | ((with_reducible apply v_onI); (focus exact rfl))
    | ((with_reducible apply v_onX); (focus exact rfl))
    | ((with_reducible apply v_xVarB); (focus exact rfl))
    | ((with_reducible apply v_gT); (focus exact rfl))
    | ((with_reducible apply v_sAug); (focus exact rfl))
    | ((with_reducible apply v_lc); (focus ((try simp only [clrs, putO, put]); exact rfl)))
    | ((with_reducible apply v_cl2); (focus ((try simp only [clrs, putO, put]); exact rfl)))
    | ((with_reducible apply v_bk2); (focus ((try simp only [back, putO, put, sl]); exact rfl)))
    | ((with_reducible apply v_xApp); (focus exact rfl))
    | ((with_reducible apply v_xMt); (focus exact rfl))
    | ((with_reducible apply v_onLO); (focus exact rfl); (focus exact rfl))
    | ((with_reducible apply v_onO); (focus exact rfl))
    | ((with_reducible apply v_xVarO); (focus exact rfl); (focus ((with_reducible (repeat (first | exact p_z | apply p_s))))))
    | ((with_reducible apply v_xMv); (focus exact rfl); (focus ((with_reducible (repeat (first | exact p_z | apply p_s))))))
    | ((with_reducible apply v_onII); (focus exact rfl); (focus exact rfl))
    | ((with_reducible apply v_onDO); (focus exact rfl); (focus exact rfl))
    | ((with_reducible apply v_on3); (focus exact rfl); (focus exact rfl); (focus exact rfl))
    | ((with_reducible apply v_xGetN); (focus exact rfl))
    | ((with_reducible apply v_exN); (focus exact rfl))
    | ((with_reducible apply v_onDn); (focus exact rfl); (focus exact rfl))
    | ((with_reducible apply v_onXn); (focus exact rfl))
    | ((with_reducible apply v_onDDn); (focus exact rfl); (focus exact rfl); (focus exact rfl))
    | ((with_reducible apply v_xGet2N); (focus exact rfl))
    | ((with_reducible apply v_onN); (focus exact rfl))
    | ((with_reducible apply v_xDGet); (focus exact rfl))
    | ((with_reducible apply v_exD); (focus exact rfl))
    | ((with_reducible apply v_exL); (focus exact rfl))
    | ((with_reducible apply v_xVarN); (focus exact rfl))
    | ((with_reducible apply v_xTIdx); (focus exact rfl))
    | ((with_reducible apply v_onTT); (focus exact rfl))
    | ((with_reducible apply v_onTTl); (focus exact rfl))
    | ((with_reducible apply v_onDc); (focus exact rfl); (focus exact rfl))
    | ((with_reducible apply v_onSN); (focus exact rfl); (focus exact rfl))
    | ((with_reducible apply v_onLD); (focus exact rfl); (focus exact rfl))
    | ((with_reducible refine v_xDOne ?_ ?_); (focus (intro z; cases z)))
    | ((with_reducible apply v_xLcO); (focus exact rfl); (focus ((with_reducible (repeat (first | exact p_z | apply p_s))))))
    | ((with_reducible apply v_bk3); (focus ((try simp only [back, putO, put, sl]); exact rfl)))
    | ((with_reducible refine v_own1 ?_ ?_); (focus (intro _ e; first | (cases e; done) | (cases e; rfl))))
    | ((with_reducible refine v_own2 ?_ ?_ ?_); (focus (intro _ e; first | (cases e; done) | (cases e; rfl))); (focus (intro _ e; first | (cases e; done) | (cases e; rfl))))
    | ((with_reducible refine v_own4 ?_ ?_ ?_ ?_ ?_); (focus (intro _ e; first | (cases e; done) | (cases e; rfl))); (focus (intro _ e; first | (cases e; done) | (cases e; rfl))); (focus (intro _ e; first | (cases e; done) | (cases e; rfl))); (focus (intro _ e; first | (cases e; done) | (cases e; rfl))))
    | ((with_reducible refine v_own3 ?_ ?_ ?_ ?_); (focus (intro _ e; first | (cases e; done) | (cases e; rfl))); (focus (intro _ e; first | (cases e; done) | (cases e; rfl))); (focus (intro _ e; first | (cases e; done) | (cases e; rfl))))
    | ((with_reducible apply v_onEx); (focus exact rfl); (focus (simp only [List.length_cons, List.length_nil]; omega)))
    | ((with_reducible apply v_onExF); (focus exact rfl))
    | ((with_reducible apply v_hF); (focus exact rfl); (focus exact rfl))
    | ((with_reducible apply v_onTLt); (focus exact rfl))
    | ((with_reducible apply v_onTLl); (focus exact rfl))
    | ((with_reducible apply v_onLA); (focus exact rfl))
    | ((with_reducible apply v_exO); (focus exact rfl))
    | ((with_reducible apply v_onIO); (focus exact rfl); (focus exact rfl))
    | ((with_reducible apply v_xDGet2); (focus exact rfl))
    | ((with_reducible apply v_onDD); (focus exact rfl); (focus exact rfl); (focus exact rfl))
    | ((with_reducible apply v_xDSetd); (focus exact rfl))
    | ((with_reducible apply v_onTI); (focus exact rfl); (focus exact rfl))
    | ((with_reducible apply v_onS); (focus exact rfl))
    | ((with_reducible apply v_isSx); (focus exact rfl))
    | ((with_reducible apply v_onSSs); (focus exact rfl); (focus exact rfl))
    | ((with_reducible apply v_xLam); (focus ((try simp only [frz, frz1, sl, put]); exact rfl)); (focus ((try simp only [bare, List.map_cons, List.map_nil, bareO]); exact rfl)))
    | ((with_reducible apply v_onLv); (focus exact rfl))
    | ((with_reducible apply v_hIfT); (focus exact rfl))
    | ((with_reducible apply v_hIfF); (focus exact rfl))
    | (with_reducible refine And.intro (Fine.repr (by assumption) (by decide) (by decide)) ?_)
    | (with_reducible refine And.intro (Fine.ok (by assumption) (by decide)) ?_)
    | (with_reducible refine And.intro (Fine.okS (by assumption)) ?_)
    | ((with_reducible refine And.intro ?_ ?_); (focus (first | omega | exact (by decide) | (simp only [List.length_cons, List.length_nil, List.length_map, List.length_range, rangeL_len] <;> omega) | (simp only [List.length_cons, List.length_nil, List.length_append, List.length_map, List.length_range, rangeL_len] <;> omega) | exact Or.inl ⟨by omega, by omega⟩ | exact Or.inr (Or.inl ⟨by omega, by omega⟩)))))))
local macro_rules | `(tactic| walk_at "fn") => `(tactic| simp only [fnSpec, List.map_cons, List.map_nil, List.length_cons, List.length_nil, List.replicate, List.cons_append, List.nil_append, Nat.reduceAdd, Nat.reduceSub, List.replicate_succ, List.replicate_zero])
local macro_rules | `(tactic| walk_at "fine") => `(tactic| repeat (first | assumption | exact fin_none0 | exact fin_bool0 | exact fins_nil | (with_reducible refine fins_cons ?_ ?_) | (with_reducible refine fin_tup ?_) | (with_reducible refine fin_lst ?_) | exact fin_int0 (by omega) | exact fin_lit _))
section
variable {rs : List (Str × Int × Bool)} {ks : List Kd} {Q : DV → Prop} {E : Err → Prop}
theorem law_needs_ok (P : PoolOk rs ks) (h0 : 0 < ks.length) (q : Q (.dat (vecD (needL rs ks)))) : p__law_needs [.dat (poolD rs ks)] Q E := by
  have hkl := P.kl
  have hrl := P.rl
  unfold p__law_needs
  walk_at "fn"
  unfold m__law_needs
  walk_at "dl"
  refine lcL_map (xs := ks) kindD (fun k => vecD (heldF rs (flat ks k))) (by omega) ?_ ?_
  · intro k hk acc K ha hK
    obtain ⟨i, hi⟩ := List.getElem?_of_mem hk
    walk_at "dl"
    refine law_line_ok P hi ?_
    walk_at "dl"
    rw [List.length_map]
    refine law_held_ok P hi (Nat.le_refl _) ?_
    rw [List.take_length]
    walk_at "dl"
    exact hK
  walk_at "dl"
  rw [range_map]
  refine lcL_fzm (xs := List.range (List.map roomD rs).length) (r' := [some (.dat (poolD rs ks)), some (.dat (.list (ks.map fun k => vecD (heldF rs (flat ks k))))), none, none, none]) (fun q : Nat => PyData.int ((q : Nat) : Int)) (fun i => .int (bigL (ks.map fun k => cellSum ((flat ks k).map (ic rs)) i))) (by rw [List.length_range, List.length_map]; omega) ?_ ?_
  · intro i hi r1 h1 acc K ha hK
    have hi' : i < rs.length := by
      have := List.mem_range.mp hi
      rwa [List.length_map] at this
    rcases h1 with rfl | rfl
    all_goals (
      walk_at "dl"
      refine lcL_map (xs := ks) (fun k => vecD (heldF rs (flat ks k))) (fun k => .int (cellSum ((flat ks k).map (ic rs)) i)) (by omega) ?_ ?_
      · intro k hk acc K ha hK
        walk_at "dl"
        rw [row_at hi']
        walk_at "dl"
        exact hK
      · walk_at "dl"
        rw [show (ks.map fun k => PyData.int (cellSum ((flat ks k).map (ic rs)) i)) = (ks.map fun k => cellSum ((flat ks k).map (ic rs)) i).map .int by rw [List.map_map]; rfl]
        refine max_okB (by rw [List.length_map]; exact h0) ?_
        walk_at "dl"
        exact hK)
  · intro r1 h1
    have e9 : (List.range (List.map roomD rs).length).map (fun i => PyData.int (bigL (ks.map fun k => cellSum ((flat ks k).map (ic rs)) i))) = (needL rs ks).map .int := by
      unfold needL
      rw [List.length_map, List.map_map]
      rfl
    rcases h1 with rfl | rfl
    all_goals (
      walk_at "dl"
      rw [e9]
      exact q)
/-! the law's edges: a dict from couples of rooms to positions -/
abbrev Hit := (Nat × Nat) × (Kd × Nat)
def hitsU (rs : List (Str × Int × Bool)) (ks : List Kd) (p : Kd × Nat) (m : Nat) : List Hit := ((List.range m).filter fun a => decide (0 < cellP rs ks p a)).map fun a => ((a, thr rs ks p), p)
def hitsL (rs : List (Str × Int × Bool)) (ks : List Kd) (l : List (Kd × Nat)) : List Hit := l.flatMap fun p => hitsU rs ks p rs.length
def valH (hs : List Hit) (e : Nat × Nat) : List D := (hs.filter fun h => decide (h.1 = e)).map fun h => posD h.2
structure DictI (kvs : List (D × D)) (hs : List Hit) (es : List (Nat × Nat)) : Prop where
  nd : es.Nodup
  mem : ∀ e, e ∈ es ↔ e ∈ hs.map (·.1)
  eq : kvs = es.map fun e => (pairD e, .list (valH hs e))
  len : es.length ≤ hs.length
theorem look_es {V : Nat × Nat → D} (e0 : Nat × Nat) : ∀ es : List (Nat × Nat), lookN (es.map fun e => (pairD e, V e)) (pairD e0) = if e0 ∈ es then some (V e0) else none
  | [] => rfl
  | e :: es => by
    have ih := look_es (V := V) e0 es
    unfold lookN at *
    rw [List.map_cons, List.find?_cons]
    by_cases h : e = e0
    · subst h
      rw [show decide (keyN (pairD e, V e).1 = keyN (pairD e)) = true from decide_eq_true rfl, if_pos (List.mem_cons_self ..)]
      rfl
    · rw [show decide (keyN (pairD e, V e).1 = keyN (pairD e0)) = false from decide_eq_false (fun z => h (keyN_pair_eq.mp z))]
      show Option.map _ (List.find? _ _) = _
      rw [ih]
      by_cases h2 : e0 ∈ es
      · rw [if_pos h2, if_pos (List.mem_cons_of_mem _ h2)]
      · rw [if_neg h2, if_neg (fun z => (List.mem_cons.mp z).elim (fun z => h z.symm) h2)]
theorem valH_none {hs : List Hit} {e : Nat × Nat} (h : e ∉ hs.map (·.1)) : valH hs e = [] := by
  unfold valH
  rw [List.filter_eq_nil_iff.mpr (fun x hx z => h (List.mem_map.mpr ⟨x, hx, of_decide_eq_true z⟩))]
  rfl
theorem DictI.look {kvs : List (D × D)} {hs : List Hit} {es : List (Nat × Nat)} (I : DictI kvs hs es) (e : Nat × Nat) : (lookN kvs (pairD e)).getD (.list []) = .list (valH hs e) := by
  rw [I.eq, look_es e es]
  by_cases h : e ∈ es
  · rw [if_pos h]; rfl
  · rw [if_neg h, valH_none (fun z => h ((I.mem e).mpr z))]; rfl
theorem valH_snoc (hs : List Hit) (e e0 : Nat × Nat) (p : Kd × Nat) : valH (hs ++ [(e0, p)]) e = if e = e0 then valH hs e ++ [posD p] else valH hs e := by
  unfold valH
  rw [List.filter_append, List.map_append]
  by_cases h : e = e0
  · subst h
    rw [if_pos rfl, List.filter_cons_of_pos (by simp)]
    rfl
  · rw [if_neg h, List.filter_cons_of_neg (by simpa using fun z => h z.symm)]
    simp
theorem DictI.put {kvs : List (D × D)} {hs : List Hit} {es : List (Nat × Nat)} (I : DictI kvs hs es) (e0 : Nat × Nat) (p : Kd × Nat) :
    ∃ es', DictI (putN kvs (pairD e0) (.list (valH hs e0 ++ [posD p]))) (hs ++ [(e0, p)]) es' := by
  have any : (kvs.any fun q => decide (keyN q.1 = keyN (pairD e0))) = decide (e0 ∈ es) := by
    rw [I.eq, List.any_map]
    have h : es.any ((fun q : D × D => decide (keyN q.1 = keyN (pairD e0))) ∘ fun e => (pairD e, PyData.list (valH hs e))) = es.any fun e => decide (e = e0) := by
      congr 1
      funext e
      exact decide_eq_decide.mpr keyN_pair_eq
    rw [h]
    by_cases m : e0 ∈ es
    · rw [decide_eq_true m]
      exact List.any_eq_true.mpr ⟨e0, m, decide_eq_true rfl⟩
    · rw [decide_eq_false m]
      exact List.any_eq_false.mpr fun x hx z => m (by rw [← of_decide_eq_true z]; exact hx)
  unfold putN
  rw [any]
  by_cases m : e0 ∈ es
  · rw [if_pos (decide_eq_true m)]
    refine ⟨es, I.nd, fun e => ?_, ?_, ?_⟩
    · rw [I.mem e, List.map_append, List.mem_append]
      refine ⟨.inl, fun h => h.elim id fun z => ?_⟩
      rw [List.map_singleton, List.mem_singleton] at z
      rw [z]
      exact (I.mem e0).mp m
    · rw [I.eq, List.map_map]
      refine List.map_congr_left fun e _ => ?_
      show (if keyN (pairD e) = keyN (pairD e0) then (pairD e, PyData.list (valH hs e0 ++ [posD p])) else (pairD e, PyData.list (valH hs e))) = (pairD e, PyData.list (valH (hs ++ [(e0, p)]) e))
      rw [valH_snoc]
      by_cases h : e = e0
      · subst h; rw [if_pos rfl, if_pos rfl]
      · rw [if_neg (fun z => h (keyN_pair_eq.mp z)), if_neg h]
    · rw [List.length_append]; have := I.len; omega
  · rw [if_neg (fun z => m (of_decide_eq_true z))]
    refine ⟨es ++ [e0], ?_, fun e => ?_, ?_, ?_⟩
    · rw [List.nodup_append]
      exact ⟨I.nd, by simp, fun a ha b hb e => m (by rw [List.mem_singleton] at hb; rw [← hb, ← e]; exact ha)⟩
    · rw [List.mem_append, I.mem e, List.map_append, List.mem_append]
      rfl
    · rw [I.eq, List.map_append]
      congr 1
      · refine List.map_congr_left fun e he => ?_
        rw [valH_snoc, if_neg (fun z : e = e0 => m (by rw [← z]; exact he))]
      · rw [List.map_singleton, valH_snoc, if_pos rfl]
    · rw [List.length_append, List.length_append]; have := I.len; show _ + 1 ≤ _ + 1; omega
theorem hitsU_len (p : Kd × Nat) (m : Nat) : (hitsU rs ks p m).length ≤ m := by
  unfold hitsU
  rw [List.length_map]
  have := List.length_filter_le (fun a => decide (0 < cellP rs ks p a)) (List.range m)
  rwa [List.length_range] at this
theorem hitsL_len (l : List (Kd × Nat)) : (hitsL rs ks l).length ≤ rs.length * l.length := flatMap_leN (fun p => hitsU_len p _) l
theorem hitsU_succ (p : Kd × Nat) (m : Nat) : hitsU rs ks p (m + 1) = hitsU rs ks p m ++ (if 0 < cellP rs ks p m then [((m, thr rs ks p), p)] else []) := by
  unfold hitsU
  rw [List.range_succ, List.filter_append, List.map_append]
  congr 1
  by_cases h : 0 < cellP rs ks p m
  · rw [if_pos h, List.filter_cons_of_pos (p := fun a => decide (0 < cellP rs ks p a)) (decide_eq_true h)]; rfl
  · rw [if_neg h, List.filter_cons_of_neg (p := fun a => decide (0 < cellP rs ks p a)) (fun z => h (of_decide_eq_true z))]; rfl
theorem law_edges_ok (P : PoolOk rs ks) (q : ∀ kvs es, DictI kvs (hitsL rs ks (posL ks ks)) es → Q (.dct true kvs)) : p__law_edges [.dat (poolD rs ks)] Q E := by
  have hkl := P.kl
  have hrl := P.rl
  have hpl := posL_le P (l := ks) fun z hz => hz
  unfold p__law_edges
  walk_at "fn"
  unfold m__law_edges
  walk_at "dl"
  refine law_positions_ok P ?_
  walk_at "dl"
  refine forL_map posD (fun pre r => ∃ kvs es x2 x3 x4 x5 x6, DictI kvs (hitsL rs ks pre) es ∧ (∀ dv, x2 = some dv → dv.hold = false) ∧ (∀ dv, x3 = some dv → dv.hold = false) ∧ (∀ dv, x4 = some dv → dv.hold = false) ∧ (∀ dv, x5 = some dv → dv.hold = false) ∧ r = [some (.dat (poolD rs ks)), some (.dct true kvs), x2, x3, x4, x5, x6])
    ⟨[], [], none, none, none, none, none, ⟨List.nodup_nil, fun e => Iff.rfl, rfl, Nat.le_refl _⟩, (fun _ h => by cases h), (fun _ h => by cases h), (fun _ h => by cases h), (fun _ h => by cases h), rfl⟩ ?_ ?_
  · rintro pre p post r k0 e ⟨kvs, es, x2, x3, x4, x5, x6, I, h2, h3, h4, h5, rfl⟩ hk0
    have hp : p ∈ posL ks ks := by rw [e]; simp
    have hpre : pre.length ≤ 432 := by
      have := congrArg List.length e
      rw [List.length_append, List.length_cons] at this
      omega
    have hhl := hitsL_len (rs := rs) (ks := ks) pre
    have hhl2 : rs.length * pre.length ≤ 12 * 432 := Nat.mul_le_mul hrl hpre
    obtain ⟨hm1, hm2, hm3, i, hi⟩ := pos_at P hp
    walk_at "dl"
    refine law_held_ok P hi hm1 ?_
    walk_at "dl"
    refine law_claim_ok P hm2 hm3 ?_
    walk_at "dl"
    rw [show (List.map PyData.int (heldF rs (List.take p.2 (flat ks p.1)))).length = rs.length by rw [List.length_map, heldL_len]]
    walk_at "dl"
    refine forL_iv (fun m r => ∃ kvs es x6, DictI kvs (hitsL rs ks pre ++ hitsU rs ks p m) es ∧ r = [some (.dat (poolD rs ks)), some (.dct true kvs), some (.dat (.str p.1.name)), some (.dat (.int (p.2 : Nat))), some (.dat (vecD (rowP rs ks p))), some (.dat (.int (thr rs ks p : Nat))), x6])
      ⟨kvs, es, x6, by rw [show hitsU rs ks p 0 = [] from rfl, List.append_nil]; exact I, rfl⟩ ?_ ?_
    · rintro m x r k1 hx ⟨kvs, es, x6, I, rfl⟩ hk1
      obtain ⟨rfl, hlt⟩ := rangeL_get hx
      have hm : m < rs.length := by
        omega
      have hh2 := hitsU_len (rs := rs) (ks := ks) p m
      have hes := I.len
      rw [List.length_append] at hes
      rw [show (0 : Int) + ((m : Nat) : Int) = ((m : Nat) : Int) by omega]
      walk_at "dl"
      rw [show rowP rs ks p = heldL rs.length (((flat ks p.1).take p.2).map (ic rs)) from rfl, heldL_get _ hm]
      walk_at "dl"
      have es1 := hitsU_succ (rs := rs) (ks := ks) p m
      cases e1 : decide (0 < cellP rs ks p m) with
      | false =>
        have n1 : ¬ cellSum (((flat ks p.1).take p.2).map (ic rs)) m > 0 := of_decide_eq_false e1
        have n2 : ¬ 0 < cellP rs ks p m := of_decide_eq_false e1
        rw [if_neg n2, List.append_nil] at es1
        rw [decide_eq_false n1]
        walk_at "dl"
        exact hk1 _ ⟨kvs, es, _, by rw [es1]; exact I, rfl⟩
      | true =>
        have n1 : cellSum (((flat ks p.1).take p.2).map (ic rs)) m > 0 := of_decide_eq_true e1
        have n2 : 0 < cellP rs ks p m := of_decide_eq_true e1
        rw [if_pos n2] at es1
        rw [decide_eq_true n1]
        walk_at "dl"
        have kn : keyN (.tuple [.int ((m : Nat) : Int), .int ((thr rs ks p : Nat) : Int)]) ≠ none := by
          rw [keyN_pair (m, thr rs ks p)]; exact fun z => by cases z
        refine ⟨kn, ?_⟩
        rw [I.look (m, thr rs ks p)]
        have hvl : (valH (hitsL rs ks pre ++ hitsU rs ks p m) (m, thr rs ks p)).length ≤ 6000 := by
          unfold valH
          rw [List.length_map]
          have := List.length_filter_le (fun h : Hit => decide (h.1 = (m, thr rs ks p))) (hitsL rs ks pre ++ hitsU rs ks p m)
          rw [List.length_append] at this
          omega
        have hkv : kvs.length < 16777216 := by
          have := congrArg List.length I.eq
          rw [List.length_map] at this
          omega
        walk_at "dl"
        obtain ⟨es', I'⟩ := I.put (m, thr rs ks p) p
        exact hk1 _ ⟨_, es', _, by rw [es1, ← List.append_assoc]; exact I', rfl⟩
    · rintro r ⟨kvs, es, x6, I, rfl⟩
      refine hk0 _ ⟨kvs, es, _, _, _, _, _, ?_, (fun dv h => by cases h; rfl), (fun dv h => by cases h; rfl), (fun dv h => by cases h; rfl), (fun dv h => by cases h; rfl), rfl⟩
      have e7 : hitsL rs ks (pre ++ [p]) = hitsL rs ks pre ++ hitsU rs ks p rs.length := by
        unfold hitsL
        rw [List.flatMap_append, List.flatMap_singleton]
      rw [e7]
      have e8 : (rangeL 0 ((rs.length : Nat) : Int)).length = rs.length := by rw [range_map, List.length_map, List.length_range]
      rw [e8] at I
      exact I
  · rintro r ⟨kvs, es, x2, x3, x4, x5, x6, I, h2, h3, h4, h5, rfl⟩
    walk_at "dl"
    exact q _ _ I
end
end
end DL.LW

namespace DL.LW
open PySem DL
section
local macro_rules | `(tactic| walk_at "dl") => `(tactic| repeat (first
  | refine Step.go ?_
  | (refine goG ?_; first
    | ((with_reducible apply v_onRng); (focus exact rfl))
    | ((with_reducible apply v_on1); (focus exact rfl))
    | ((with_reducible apply v_oV); (focus exact rfl))
    | ((with_reducible apply v_on2); (focus exact rfl); (focus exact rfl))
    | ((with_reducible apply v_gN); (focus ((with_reducible (repeat (first | exact p_z | apply p_s))))))
    | ((with_reducible apply v_xVarD); (focus exact rfl))
    | ((with_reducible apply v_onL); (focus exact rfl))
    | ((with_reducible refine v_neShown (by assumption) ?_))
    | ((with_reducible refine v_eqShown (by assumption) ?_))
    | ((with_reducible refine v_eq ?_))
    | ((with_reducible refine v_ne ?_))
    | ((with_reducible apply v_tB); (focus exact rfl))
    | ((with_reducible apply v_tI); (focus exact rfl))
    | ((with_reducible apply v_tL); (focus exact rfl))
    | ((with_reducible apply v_tT); (focus exact rfl))
    | ((with_reducible apply v_tN); (focus exact rfl))
    | ((with_reducible apply v_tS); (focus exact rfl))
    | ((with_reducible apply v_onI); (focus exact rfl))
    | ((with_reducible apply v_onX); (focus exact rfl))
    | ((with_reducible apply v_xVarB); (focus exact rfl))
    | ((with_reducible apply v_gT); (focus exact rfl))
    | ((with_reducible apply v_sAug); (focus exact rfl))
    | ((with_reducible apply v_lc); (focus ((try simp only [clrs, putO, put]); exact rfl)))
    | ((with_reducible apply v_cl2); (focus ((try simp only [clrs, putO, put]); exact rfl)))
    | ((with_reducible apply v_bk2); (focus ((try simp only [back, putO, put, sl]); exact rfl)))
    | ((with_reducible apply v_xApp); (focus exact rfl))
    | ((with_reducible apply v_xMt); (focus exact rfl))
    | ((with_reducible apply v_onLO); (focus exact rfl); (focus exact rfl))
    | ((with_reducible apply v_onO); (focus exact rfl))
    | ((with_reducible apply v_xVarO); (focus exact rfl); (focus ((with_reducible (repeat (first | exact p_z | apply p_s))))))
    | ((with_reducible apply v_xMv); (focus exact rfl); (focus ((with_reducible (repeat (first | exact p_z | apply p_s))))))
    | ((with_reducible apply v_onII); (focus exact rfl); (focus exact rfl))
    | ((with_reducible apply v_onDO); (focus exact rfl); (focus exact rfl))
    | ((with_reducible apply v_on3); (focus exact rfl); (focus exact rfl); (focus exact rfl))
    | ((with_reducible apply v_xGetN); (focus exact rfl))
    | ((with_reducible apply v_exN); (focus exact rfl))
    | ((with_reducible apply v_onDn); (focus exact rfl); (focus exact rfl))
    | ((with_reducible apply v_onXn); (focus exact rfl))
    | ((with_reducible apply v_onDDn); (focus exact rfl); (focus exact rfl); (focus exact rfl))
    | ((with_reducible apply v_xGet2N); (focus exact rfl))
    | ((with_reducible apply v_onN); (focus exact rfl))
    | ((with_reducible apply v_xDGet); (focus exact rfl))
    | ((with_reducible apply v_exD); (focus exact rfl))
    | ((with_reducible apply v_exL); (focus exact rfl))
    | ((with_reducible apply v_xVarN); (focus exact rfl))
    | ((with_reducible apply v_xTIdx); (focus exact rfl))
    | ((with_reducible apply v_onTT); (focus exact rfl))
    | ((with_reducible apply v_onTTl); (focus exact rfl))
    | ((with_reducible apply v_onDc); (focus exact rfl); (focus exact rfl))
    | ((with_reducible apply v_onSN); (focus exact rfl); (focus exact rfl))
    | ((with_reducible apply v_onLD); (focus exact rfl); (focus exact rfl))
    | ((with_reducible refine v_xDOne ?_ ?_); (focus (intro z; cases z)))
    | ((with_reducible apply v_xLcO); (focus exact rfl); (focus ((with_reducible (repeat (first | exact p_z | apply p_s))))))
    | ((with_reducible apply v_bk3); (focus ((try simp only [back, putO, put, sl]); exact rfl)))
    | ((with_reducible refine v_own1 ?_ ?_); (focus (intro _ e; first | (cases e; done) | (cases e; rfl))))
    | ((with_reducible refine v_own2 ?_ ?_ ?_); (focus (intro _ e; first | (cases e; done) | (cases e; rfl))); (focus (intro _ e; first | (cases e; done) | (cases e; rfl))))
    | ((with_reducible refine v_own4 ?_ ?_ ?_ ?_ ?_); (focus (intro _ e; first | (cases e; done) | (cases e; rfl))); (focus (intro _ e; first | (cases e; done) | (cases e; rfl))); (focus (intro _ e; first | (cases e; done) | (cases e; rfl))); (focus (intro _ e; first | (cases e; done) | (cases e; rfl))))
    | ((with_reducible refine v_own3 ?_ ?_ ?_ ?_); (focus (intro _ e; first | (cases e; done) | (cases e; rfl))); (focus (intro _ e; first | (cases e; done) | (cases e; rfl))); (focus (intro _ e; first | (cases e; done) | (cases e; rfl))))
    | ((with_reducible apply v_onEx); (focus exact rfl); (focus (simp only [List.length_cons, List.length_nil]; omega)))
    | ((with_reducible apply v_onExF); (focus exact rfl))
    | ((with_reducible apply v_hF); (focus exact rfl); (focus exact rfl))
    | ((with_reducible apply v_onTLt); (focus exact rfl))
    | ((with_reducible apply v_onTLl); (focus exact rfl))
    | ((with_reducible apply v_onLA); (focus exact rfl))
    | ((with_reducible apply v_exO); (focus exact rfl))
    | ((with_reducible apply v_onIO); (focus exact rfl); (focus exact rfl))
    | ((with_reducible apply v_xDGet2); (focus exact rfl))
    | ((with_reducible apply v_onDD); (focus exact rfl); (focus exact rfl); (focus exact rfl))
    | ((with_reducible apply v_xDSetd); (focus exact rfl))
    | ((with_reducible apply v_onTI); (focus exact rfl); (focus exact rfl))
    | ((with_reducible apply v_onS); (focus exact rfl))
    | ((with_reducible apply v_isSx); (focus exact rfl))
    | ((with_reducible apply v_onSSs); (focus exact rfl); (focus exact rfl))
    | ((with_reducible apply v_xLam); (focus ((try simp only [frz, frz1, sl, put]); exact rfl)); (focus ((try simp only [bare, List.map_cons, List.map_nil, bareO]); exact rfl)))
    | ((with_reducible apply v_onLv); (focus exact rfl))
    | ((with_reducible apply v_hIfT); (focus exact rfl))
    | ((with_reducible apply v_hIfF); (focus exact rfl))
    | (with_reducible refine And.intro (Fine.repr (by assumption) (by decide) (by decide)) ?_)
    | (with_reducible refine And.intro (Fine.ok (by assumption) (by decide)) ?_)
    | (with_reducible refine And.intro (Fine.okS (by assumption)) ?_)
    | ((with_reducible refine And.intro ?_ ?_); (focus (first | omega | exact (by decide) | (simp only [List.length_cons, List.length_nil, List.length_map, List.length_range, rangeL_len] <;> omega) | (simp only [List.length_cons, List.length_nil, List.length_append, List.length_map, List.length_range, rangeL_len] <;> omega) | exact Or.inl ⟨by omega, by omega⟩ | exact Or.inr (Or.inl ⟨by omega, by omega⟩)))))))
local macro_rules | `(tactic| walk_at "fn") => `(tactic| simp only [fnSpec, List.map_cons, List.map_nil, List.length_cons, List.length_nil, List.replicate, List.cons_append, List.nil_append, Nat.reduceAdd, Nat.reduceSub, List.replicate_succ, List.replicate_zero])
local macro_rules | `(tactic| walk_at "fine") => `(tactic| repeat (first | assumption | exact fin_none0 | exact fin_bool0 | exact fins_nil | (with_reducible refine fins_cons ?_ ?_) | (with_reducible refine fin_tup ?_) | (with_reducible refine fin_lst ?_) | exact fin_int0 (by omega) | exact fin_lit _))
section
variable {rs rs' : List (Str × Int × Bool)} {ks : List Kd} {Q : DV → Prop} {E : Err → Prop}
/-! a pool's sizes mean nothing -/
theorem ic_same (h : rs'.map (·.1) = rs.map (·.1)) : ic rs' = ic rs := by funext c; unfold ic; rw [h]
theorem len_same (h : rs'.map (·.1) = rs.map (·.1)) : rs'.length = rs.length := by
  have := congrArg List.length h
  rwa [List.length_map, List.length_map] at this
theorem EP_same (h : rs'.map (·.1) = rs.map (·.1)) : EP rs' ks = EP rs ks := by
  funext x y
  unfold EP
  congr 1
  funext p
  unfold edgeB cellP thr
  rw [ic_same h, h]
theorem web_same (h : rs'.map (·.1) = rs.map (·.1)) : webL rs' ks = webL rs ks := by
  have e : rowW rs' ks = rowW rs ks := by
    funext x
    unfold rowW
    rw [EP_same h, len_same h]
  unfold webL
  rw [e, len_same h]
theorem need_same (h : rs'.map (·.1) = rs.map (·.1)) : needL rs' ks = needL rs ks := by
  unfold needL
  rw [ic_same h, len_same h]
def zeroed (rs : List (Str × Int × Bool)) : List (Str × Int × Bool) := rs.map fun r => (r.1, 0, r.2.2)
theorem zeroed_names : (zeroed rs).map (·.1) = rs.map (·.1) := by unfold zeroed; rw [List.map_map]; rfl
theorem zeroed_ok (P : PoolOk rs ks) : PoolOk (zeroed rs) ks where
  rl := by unfold zeroed; rw [List.length_map]; exact P.rl
  kl := P.kl
  rn := by rw [zeroed_names]; exact P.rn
  kn := P.kn
  ok := P.ok
  ll := P.ll
  rooms := by rw [zeroed_names]; exact P.rooms
  acyc := P.acyc
  rok := fun r hr => by
    obtain ⟨x, hx, rfl⟩ := List.mem_map.mp hr
    have := P.rok x hx
    exact ⟨this.1, this.2.1, Int.le_refl _, by show (0 : Int) ≤ 1000; decide⟩
  l1 := P.l1
/-! the web is what the law's edges have, in order -/
theorem web_mem {e : Nat × Nat} : e ∈ webL rs ks ↔ e.1 < rs.length ∧ e.2 < rs.length ∧ EP rs ks e.1 e.2 ≠ [] := by
  unfold webL rowW
  rw [List.mem_flatMap]
  constructor
  · rintro ⟨x, hx, h⟩
    rw [List.mem_flatMap] at h
    obtain ⟨y, hy, h⟩ := h
    rw [List.mem_range] at hx hy
    split at h
    · cases h
    · rename_i n
      rw [List.mem_singleton] at h
      subst h
      exact ⟨hx, hy, fun z => n (by rw [z]; rfl)⟩
  · rintro ⟨h1, h2, h3⟩
    refine ⟨e.1, List.mem_range.mpr h1, List.mem_flatMap.mpr ⟨e.2, List.mem_range.mpr h2, ?_⟩⟩
    rw [if_neg (fun z => h3 (List.isEmpty_iff.mp z))]
    exact List.mem_singleton.mpr rfl
def ltP (p q : Nat × Nat) : Prop := p.1 < q.1 ∨ (p.1 = q.1 ∧ p.2 < q.2)
theorem rowW_fst {x : Nat} {e : Nat × Nat} (h : e ∈ rowW rs ks x) : e.1 = x := by
  unfold rowW at h
  obtain ⟨y, _, h⟩ := List.mem_flatMap.mp h
  split at h
  · cases h
  · rw [List.mem_singleton.mp h]
theorem web_lt : (webL rs ks).Pairwise ltP := by
  unfold webL
  rw [List.pairwise_flatMap]
  refine ⟨fun x _ => ?_, ?_⟩
  · unfold rowW
    rw [List.pairwise_flatMap]
    refine ⟨fun y _ => ?_, ?_⟩
    · split
      · exact .nil
      · exact List.pairwise_singleton ..
    · refine List.pairwise_lt_range.imp fun {a b} hab u hu v hv => ?_
      split at hu
      · cases hu
      split at hv
      · cases hv
      rw [List.mem_singleton] at hu hv
      subst hu hv
      exact .inr ⟨rfl, hab⟩
  · refine List.pairwise_lt_range.imp fun {a b} hab u hu v hv => .inl ?_
    rw [rowW_fst hu, rowW_fst hv]
    exact hab
theorem web_le : (webL rs ks).Pairwise leP := web_lt.imp fun {a b} h => h.elim .inl fun z => .inr ⟨z.1, Nat.le_of_lt z.2⟩
theorem web_nd : (webL rs ks).Nodup := web_lt.imp fun {a b} h e => by
  subst e
  unfold ltP at h
  omega
theorem hit_mem (P : PoolOk rs ks) {e : Nat × Nat} : e ∈ (hitsL rs ks (posL ks ks)).map (·.1) ↔ e ∈ webL rs ks := by
  rw [web_mem]
  constructor
  · intro h
    obtain ⟨x, hx, rfl⟩ := List.mem_map.mp h
    obtain ⟨p, hp, hx⟩ := List.mem_flatMap.mp hx
    obtain ⟨a, ha, rfl⟩ := List.mem_map.mp hx
    obtain ⟨h1, h2⟩ := List.mem_filter.mp ha
    obtain ⟨_, hm2, hm3, _⟩ := pos_at P hp
    refine ⟨List.mem_range.mp h1, ix_lt (clm_ok P hm2 hm3).1, fun z => ?_⟩
    have : p ∈ EP rs ks a (thr rs ks p) := List.mem_filter.mpr ⟨hp, by unfold edgeB; rw [h2, decide_eq_true rfl]; rfl⟩
    have z' : EP rs ks a (thr rs ks p) = [] := z
    rw [z'] at this
    cases this
  · rintro ⟨h1, h2, h3⟩
    obtain ⟨p, hp⟩ := List.exists_mem_of_ne_nil _ h3
    obtain ⟨hp1, hp2⟩ := List.mem_filter.mp hp
    unfold edgeB at hp2
    rw [Bool.and_eq_true] at hp2
    refine List.mem_map.mpr ⟨(e, p), List.mem_flatMap.mpr ⟨p, hp1, List.mem_map.mpr ⟨e.1, List.mem_filter.mpr ⟨List.mem_range.mpr h1, hp2.1⟩, ?_⟩⟩, rfl⟩
    rw [of_decide_eq_true hp2.2]
theorem hits_val (P : PoolOk rs ks) {x y : Nat} (hx : x < rs.length) : valH (hitsL rs ks (posL ks ks)) (x, y) = (EP rs ks x y).map posD := by
  have key : ∀ l : List (Kd × Nat), valH (hitsL rs ks l) (x, y) = (l.filter (edgeB rs ks x y)).map posD := by
    intro l
    induction l with
    | nil => rfl
    | cons p l ih =>
      have e1 : hitsL rs ks (p :: l) = hitsU rs ks p rs.length ++ hitsL rs ks l := List.flatMap_cons
      have e2 : valH (hitsU rs ks p rs.length ++ hitsL rs ks l) (x, y) = valH (hitsU rs ks p rs.length) (x, y) ++ valH (hitsL rs ks l) (x, y) := by
        unfold valH
        rw [List.filter_append, List.map_append]
      have e3 : ∀ m, valH (hitsU rs ks p m) (x, y) = if x < m ∧ edgeB rs ks x y p = true then [posD p] else [] := by
        intro m
        induction m with
        | zero => rw [if_neg (by omega)]; rfl
        | succ m ihm =>
          rw [hitsU_succ]
          by_cases hc : 0 < cellP rs ks p m
          · rw [if_pos hc, valH_snoc, ihm]
            by_cases he : (x, y) = (m, thr rs ks p)
            · cases he
              have eb : edgeB rs ks x (thr rs ks p) p = true := by unfold edgeB; rw [decide_eq_true hc, decide_eq_true rfl]; rfl
              rw [if_pos rfl, if_neg (by omega), if_pos ⟨by omega, eb⟩]
              rfl
            · rw [if_neg he]
              by_cases hxm : x = m
              · subst hxm
                have eb : ¬ edgeB rs ks x y p = true := fun z => by
                  unfold edgeB at z
                  rw [Bool.and_eq_true] at z
                  exact he (by rw [of_decide_eq_true z.2])
                rw [if_neg (by omega), if_neg (fun z => eb z.2)]
              · by_cases hb : edgeB rs ks x y p = true
                · by_cases hlt : x < m
                  · rw [if_pos ⟨hlt, hb⟩, if_pos ⟨by omega, hb⟩]
                  · rw [if_neg (fun z => hlt z.1), if_neg (fun z => by omega)]
                · rw [if_neg (fun z => hb z.2), if_neg (fun z => hb z.2)]
          · rw [if_neg hc, List.append_nil, ihm]
            by_cases hxm : x = m
            · subst hxm
              have eb : ¬ edgeB rs ks x y p = true := fun z => by
                unfold edgeB at z
                rw [Bool.and_eq_true] at z
                exact hc (of_decide_eq_true z.1)
              rw [if_neg (fun z => eb z.2), if_neg (fun z => eb z.2)]
            · by_cases hb : edgeB rs ks x y p = true
              · by_cases hlt : x < m
                · rw [if_pos ⟨hlt, hb⟩, if_pos ⟨by omega, hb⟩]
                · rw [if_neg (fun z => hlt z.1), if_neg (fun z => by omega)]
              · rw [if_neg (fun z => hb z.2), if_neg (fun z => hb z.2)]
      rw [e1, e2, e3, ih]
      by_cases hb : edgeB rs ks x y p = true
      · rw [if_pos ⟨hx, hb⟩, List.filter_cons_of_pos hb]; rfl
      · rw [if_neg (fun z => hb z.2), List.filter_cons_of_neg hb]; rfl
  exact key _
theorem web_fine (P : PoolOk rs ks) : Fine 2 20000 (.tuple ((webL rs ks).map pairD)) := by
  have hrl := P.rl
  have h := webL_len (rs := rs) (ks := ks)
  have h2 : rs.length * rs.length ≤ 12 * 12 := Nat.mul_le_mul hrl hrl
  refine (fin_tup (fins_map (n := 144) (k := 1) (w := 90) (by omega) fun e he => ?_)).mono (by decide) (by decide)
  obtain ⟨h1, h2, _⟩ := web_mem.mp he
  exact (fin_tup (fins_cons (fin_int0 (by omega)) (fins_cons (fin_int0 (by omega)) fins_nil))).mono (by decide) (by decide)
theorem vc_law : LawVC 12 1 m_law := by
  unfold LawVC m_law
  show sSeq _ _ _ [none, some .bag, none, none, none, none, none, none, none, none, none, none]
  walk_at "dl"
  refine forL_iv (fun i r => ∃ a x2 x3 x4 x5 x6 x7 x9 x10 x11, r = [a, some .bag, x2, x3, x4, x5, x6, x7, none, x9, x10, x11]) ⟨_, _, _, _, _, _, _, _, _, _, rfl⟩ ?_ ?_
  · rintro i x r nx hx ⟨_, _, _, _, _, _, _, _, _, _, rfl⟩ hn
    obtain ⟨rfl, hlt⟩ := rangeL_get hx
    walk_at "dl"
    refine take_ok (by decide) (by decide) fun m hm0 hm1 => ?_
    walk_at "dl"
    refine take_ok (by decide) (by decide) fun m2 hm2 hm3 => ?_
    walk_at "dl"
    refine pool_ok (by omega) (by omega) (by omega) (by omega) (by decide) (by decide) (by decide) (by decide) fun rs ks P hr hk hu hkn hrn => ?_
    have hkl := P.kl
    have hrl := P.rl
    have hk0 : 0 < ks.length := by omega
    have fP := pool_fine P
    walk_at "dl"
    refine law_edges_ok P fun kvs es I => ?_
    walk_at "dl"
    refine lcL_map (xs := rs) roomD (fun r => roomD (r.1, 0, r.2.2)) (by omega) ?_ ?_
    · intro x hx acc K ha hK
      walk_at "dl"
      exact hK
    walk_at "dl"
    rw [show PyData.tuple [PyData.tuple (List.map (fun r => roomD (r.fst, 0, r.snd.snd)) rs), PyData.tuple (List.map kindD ks)] = poolD (zeroed rs) ks by unfold zeroed poolD; rw [List.map_map]; rfl]
    have hkeys : kvs.map (·.1) = es.map pairD := by rw [I.eq, List.map_map]; rfl
    have hperm : es.Perm (webL rs ks) := (List.perm_ext_iff_of_nodup I.nd web_nd).mpr fun e => (I.mem e).trans (hit_mem P)
    have hsort := sort_ii hperm web_le
    have hal := alike_pairs es
    have hso := sortable_pairs es
    have hdep : ∀ d ∈ es.map pairD, d.depth ≤ 64 := fun d hd => by
      obtain ⟨p, _, rfl⟩ := List.mem_map.mp hd
      show 1 ≤ 64
      decide
    have hkl2 : kvs.length ≤ 16777216 := by
      have h1 := congrArg List.length hkeys
      have h2 := hperm.length_eq
      have h3 := webL_len (rs := rs) (ks := ks)
      have h4 : rs.length * rs.length ≤ 12 * 12 := Nat.mul_le_mul hrl hrl
      rw [List.length_map, List.length_map] at h1
      omega
    refine forL_iv (fun _ r => ∃ a x2 x9 x10 x11, r = [a, some .bag, x2, some (.dat (poolD rs ks)), some (.dct true kvs), some (.dat (.str (poolD rs ks).shown)), some (.dat (.int ((List.map roomD rs).length : Nat))), some (.dat (poolD (zeroed rs) ks)), none, x9, x10, x11]) ⟨_, _, _, _, _, rfl⟩ ?_ ?_
    · rintro j x r k0 hx ⟨_, _, _, _, _, rfl⟩ hk1
      obtain ⟨rs1, rfl, P1, hnm⟩ : ∃ rs1, x = poolD rs1 ks ∧ PoolOk rs1 ks ∧ rs1.map (·.1) = rs.map (·.1) := by
        have h := List.mem_of_getElem? hx
        simp only [List.mem_cons, List.not_mem_nil, or_false] at h
        rcases h with rfl | rfl | rfl
        · exact ⟨rs, rfl, P, rfl⟩
        · exact ⟨zeroed rs, rfl, zeroed_ok P, zeroed_names⟩
        · exact ⟨rs, rfl, P, rfl⟩
      walk_at "dl"
      refine web_of_ok P1 ?_
      rw [web_same hnm]
      walk_at "dl"
      refine greatest_ok P1 hk0 ?_
      rw [need_same hnm]
      walk_at "dl"
      rw [hkeys]
      refine ⟨hal, hso, hdep, hkl2, ?_⟩
      rw [hsort]
      walk_at "dl"
      refine law_needs_ok P hk0 ?_
      walk_at "dl"
      refine alike_ok (k := 3) (w := 22000) ((fin_lst (fins_cons (web_fine P) (fins_cons (need_fine P) fins_nil))).mono (by decide) (by decide)) (by decide) (by decide) ?_
      walk_at "dl"
      exact hk1 _ ⟨_, _, _, _, _, rfl⟩
    rintro r ⟨_, _, _, _, _, rfl⟩
    walk_at "dl"
    refine forL_iv (fun _ r => ∃ a x2 x9 x10 x11, r = [a, some .bag, x2, some (.dat (poolD rs ks)), some (.dct true kvs), some (.dat (.str (poolD rs ks).shown)), some (.dat (.int ((List.map roomD rs).length : Nat))), some (.dat (poolD (zeroed rs) ks)), none, x9, x10, x11]) ⟨_, _, _, _, _, rfl⟩ ?_ ?_
    · rintro x _ r k0 hx ⟨_, _, _, _, _, rfl⟩ hk1
      obtain ⟨rfl, hlx⟩ := rangeL_get hx
      rw [show (0 : Int) + ((x : Nat) : Int) = ((x : Nat) : Int) by omega]
      have hxl : x < rs.length := by rw [List.length_map] at hlx; omega
      walk_at "dl"
      refine forL_iv (fun _ r => ∃ a x2 x9 x11, r = [a, some .bag, x2, some (.dat (poolD rs ks)), some (.dct true kvs), some (.dat (.str (poolD rs ks).shown)), some (.dat (.int ((List.map roomD rs).length : Nat))), some (.dat (poolD (zeroed rs) ks)), none, x9, some (.dat (.int ((x : Nat) : Int))), x11]) ⟨_, _, _, _, rfl⟩ ?_ ?_
      · rintro y _ r k2 hy ⟨_, _, _, _, rfl⟩ hk2
        obtain ⟨rfl, hly⟩ := rangeL_get hy
        rw [show (0 : Int) + ((y : Nat) : Int) = ((y : Nat) : Int) by omega]
        walk_at "dl"
        refine edge_positions_ok P hxl ?_
        walk_at "dl"
        have kn : keyN (.tuple [.int ((x : Nat) : Int), .int ((y : Nat) : Int)]) ≠ none := by
          rw [keyN_pair (x, y)]; exact fun z => by cases z
        refine ⟨kn, ?_⟩
        rw [I.look (x, y), hits_val P hxl]
        walk_at "dl"
        refine alike_ok (pos_fine P ep_sub) (by decide) (by decide) ?_
        walk_at "dl"
        exact hk2 _ ⟨_, _, _, _, rfl⟩
      · rintro r ⟨_, _, _, _, rfl⟩
        exact hk1 _ ⟨_, _, _, _, _, rfl⟩
    · rintro r ⟨_, _, _, _, _, rfl⟩
      walk_at "dl"
      exact hn _ ⟨_, _, _, _, _, _, _, _, _, _, rfl⟩
  · rintro r ⟨_, _, _, _, _, _, _, _, _, _, rfl⟩
    walk_at "dl"
    rfl
end
end
end DL.LW

namespace DL.LW
open PySem PySem.Spec L2 DL
def top (i : Nat) : Stmt := PySem.Challenge.pw_onceortold_k29_webs_of_rooms.main.body.getD i (.Pass ⟨0, 0, 0, 0⟩)
abbrev s_room_names : Stmt := top 7
theorem sc_room_names : FnScope ["pool", "room"] ["pool"] (defScope s_room_names) := ⟨rfl, rfl, rfl, by decide +kernel, rfl, by decide +kernel, by decide +kernel⟩
abbrev s_kind_names : Stmt := top 8
theorem sc_kind_names : FnScope ["pool", "kind"] ["pool"] (defScope s_kind_names) := ⟨rfl, rfl, rfl, by decide +kernel, rfl, by decide +kernel, by decide +kernel⟩
abbrev s_zeros : Stmt := top 14
theorem sc_zeros : FnScope ["many"] ["many"] (defScope s_zeros) := ⟨rfl, rfl, rfl, by decide +kernel, rfl, by decide +kernel, by decide +kernel⟩
abbrev s_added : Stmt := top 15
theorem sc_added : FnScope ["one", "other", "member", "its"] ["one", "other"] (defScope s_added) := ⟨rfl, rfl, rfl, by decide +kernel, rfl, by decide +kernel, by decide +kernel⟩
abbrev s__law_kind : Stmt := top 28
theorem sc__law_kind : FnScope ["pool", "name", "kind"] ["pool", "name"] (defScope s__law_kind) := ⟨rfl, rfl, rfl, by decide +kernel, rfl, by decide +kernel, by decide +kernel⟩
abbrev s__law_bag : Stmt := top 33
theorem sc__law_bag : FnScope ["script", "cell"] ["script"] (defScope s__law_bag) := ⟨rfl, rfl, rfl, by decide +kernel, rfl, by decide +kernel, by decide +kernel⟩
abbrev s__law_take : Stmt := top 34
theorem sc__law_take : FnScope ["bag", "many", "cell", "stirred", "value", "begin", "second"] ["bag", "many"] (defScope s__law_take) := ⟨rfl, rfl, rfl, by decide +kernel, rfl, by decide +kernel, by decide +kernel⟩
abbrev s__law_alike : Stmt := top 40
theorem sc__law_alike : FnScope ["found", "due"] ["found", "due"] (defScope s__law_alike) := ⟨rfl, rfl, rfl, by decide +kernel, rfl, by decide +kernel, by decide +kernel⟩
abbrev s_room_index : Stmt := top 9
theorem sc_room_index : FnScope ["pool", "name", "names"] ["pool", "name"] (defScope s_room_index) := ⟨rfl, rfl, rfl, by decide +kernel, rfl, by decide +kernel, by decide +kernel⟩
abbrev s_kind_index : Stmt := top 10
theorem sc_kind_index : FnScope ["pool", "name", "names"] ["pool", "name"] (defScope s_kind_index) := ⟨rfl, rfl, rfl, by decide +kernel, rfl, by decide +kernel, by decide +kernel⟩
abbrev s_claimed : Stmt := top 19
theorem sc_claimed : FnScope ["pool", "claims", "found", "room", "units", "at"] ["pool", "claims"] (defScope s_claimed) := ⟨rfl, rfl, rfl, by decide +kernel, rfl, by decide +kernel, by decide +kernel⟩
abbrev s__law_line : Stmt := top 29
theorem sc__law_line : FnScope ["pool", "name", "found", "asks", "turn", "kind"] ["pool", "name"] (defScope s__law_line) := ⟨rfl, rfl, rfl, by decide +kernel, rfl, by decide +kernel, by decide +kernel⟩
abbrev s__law_mixed : Stmt := top 35
theorem sc__law_mixed : FnScope ["bag", "things", "left", "found"] ["bag", "things"] (defScope s__law_mixed) := ⟨rfl, rfl, rfl, by decide +kernel, rfl, by decide +kernel, by decide +kernel⟩
abbrev s__law_some : Stmt := top 37
theorem sc__law_some : FnScope ["bag", "things"] ["bag", "things"] (defScope s__law_some) := ⟨rfl, rfl, rfl, by decide +kernel, rfl, by decide +kernel, by decide +kernel⟩
abbrev s_kind_of : Stmt := top 11
theorem sc_kind_of : FnScope ["pool", "name"] ["pool", "name"] (defScope s_kind_of) := ⟨rfl, rfl, rfl, by decide +kernel, rfl, by decide +kernel, by decide +kernel⟩
abbrev s__law_positions : Stmt := top 30
theorem sc__law_positions : FnScope ["pool", "found", "kind", "q"] ["pool"] (defScope s__law_positions) := ⟨rfl, rfl, rfl, by decide +kernel, rfl, by decide +kernel, by decide +kernel⟩
abbrev s__law_held : Stmt := top 31
theorem sc__law_held : FnScope ["pool", "name", "q", "names", "room", "found", "units"] ["pool", "name", "q"] (defScope s__law_held) := ⟨rfl, rfl, rfl, by decide +kernel, rfl, by decide +kernel, by decide +kernel⟩
abbrev s__law_claim : Stmt := top 32
theorem sc__law_claim : FnScope ["pool", "name", "q", "room", "units", "one"] ["pool", "name", "q"] (defScope s__law_claim) := ⟨rfl, rfl, rfl, by decide +kernel, rfl, by decide +kernel, by decide +kernel⟩
abbrev s__law_names : Stmt := top 36
theorem sc__law_names : FnScope ["bag", "many", "names"] ["bag", "many"] (defScope s__law_names) := ⟨rfl, rfl, rfl, by decide +kernel, rfl, by decide +kernel, by decide +kernel⟩
abbrev s__law_drawn_line : Stmt := top 38
theorem sc__law_drawn_line : FnScope ["bag", "rooms", "most", "units", "claims", "turn"] ["bag", "rooms", "most", "units"] (defScope s__law_drawn_line) := ⟨rfl, rfl, rfl, by decide +kernel, rfl, by decide +kernel, by decide +kernel⟩
abbrev s_asked_from : Stmt := top 12
theorem sc_asked_from : FnScope ["pool", "kind", "found", "later"] ["pool", "kind"] (defScope s_asked_from) := ⟨rfl, rfl, rfl, by decide +kernel, rfl, by decide +kernel, by decide +kernel⟩
abbrev s__law_pool : Stmt := top 39
theorem sc__law_pool : FnScope ["bag", "rooms", "kinds", "size", "units", "names", "made", "lengths", "name", "line", "ask", "one", "lost", "some"] ["bag", "rooms", "kinds", "size", "units"] (defScope s__law_pool) := ⟨rfl, rfl, rfl, by decide +kernel, rfl, by decide +kernel, by decide +kernel⟩
abbrev s__law_edges : Stmt := top 41
theorem sc__law_edges : FnScope ["pool", "found", "name", "q", "held", "there", "at"] ["pool"] (defScope s__law_edges) := ⟨rfl, rfl, rfl, by decide +kernel, rfl, by decide +kernel, by decide +kernel⟩
abbrev s__law_needs : Stmt := top 42
theorem sc__law_needs : FnScope ["pool", "needs", "kind", "need", "at"] ["pool"] (defScope s__law_needs) := ⟨rfl, rfl, rfl, by decide +kernel, rfl, by decide +kernel, by decide +kernel⟩
abbrev s_whole_line : Stmt := top 17
theorem sc_whole_line : FnScope ["pool", "kind", "found", "one", "room", "units"] ["pool", "kind"] (defScope s_whole_line) := ⟨rfl, rfl, rfl, by decide +kernel, rfl, by decide +kernel, by decide +kernel⟩
abbrev s_positions : Stmt := top 18
theorem sc_positions : FnScope ["pool", "found", "name", "q"] ["pool"] (defScope s_positions) := ⟨rfl, rfl, rfl, by decide +kernel, rfl, by decide +kernel, by decide +kernel⟩
abbrev s_held_at : Stmt := top 20
theorem sc_held_at : FnScope ["pool", "kind", "q", "line"] ["pool", "kind", "q"] (defScope s_held_at) := ⟨rfl, rfl, rfl, by decide +kernel, rfl, by decide +kernel, by decide +kernel⟩
abbrev s_claim_at : Stmt := top 21
theorem sc_claim_at : FnScope ["pool", "kind", "q", "line"] ["pool", "kind", "q"] (defScope s_claim_at) := ⟨rfl, rfl, rfl, by decide +kernel, rfl, by decide +kernel, by decide +kernel⟩
abbrev s_need_of : Stmt := top 22
theorem sc_need_of : FnScope ["pool", "kind"] ["pool", "kind"] (defScope s_need_of) := ⟨rfl, rfl, rfl, by decide +kernel, rfl, by decide +kernel, by decide +kernel⟩
abbrev s_edge_positions : Stmt := top 24
theorem sc_edge_positions : FnScope ["pool", "x", "y", "kind", "q"] ["pool", "x", "y"] (defScope s_edge_positions) := ⟨rfl, rfl, rfl, by decide +kernel, rfl, by decide +kernel, by decide +kernel⟩
abbrev s_greatest_needs : Stmt := top 26
theorem sc_greatest_needs : FnScope ["pool", "needs", "name", "line", "ask", "need", "room"] ["pool"] (defScope s_greatest_needs) := ⟨rfl, rfl, rfl, by decide +kernel, rfl, by decide +kernel, by decide +kernel⟩
abbrev s_web_of : Stmt := top 25
theorem sc_web_of : FnScope ["pool", "rooms", "x", "y"] ["pool"] (defScope s_web_of) := ⟨rfl, rfl, rfl, by decide +kernel, rfl, by decide +kernel, by decide +kernel⟩
abbrev s_law : Stmt := top 43
theorem sc_law : FnScope ["script", "bag", "turn", "pool", "edges", "kept", "many", "small", "room", "one", "x", "y"] ["script"] (defScope s_law) := ⟨rfl, rfl, rfl, by decide +kernel, rfl, by decide +kernel, by decide +kernel⟩
structure Txt (K : PySem.W.Frag) (mg : Str → Option Value) where
  a_room_names : Addr
  d_room_names : FuncData
  F_room_names : Fun K "room_names" "room_names" s_room_names a_room_names d_room_names
  g_room_names : mg "room_names" = some (.ref a_room_names)
  b_room_names : Binds K d_room_names ["pool"] []
  a_kind_names : Addr
  d_kind_names : FuncData
  F_kind_names : Fun K "kind_names" "kind_names" s_kind_names a_kind_names d_kind_names
  g_kind_names : mg "kind_names" = some (.ref a_kind_names)
  b_kind_names : Binds K d_kind_names ["pool"] []
  a_zeros : Addr
  d_zeros : FuncData
  F_zeros : Fun K "zeros" "zeros" s_zeros a_zeros d_zeros
  g_zeros : mg "zeros" = some (.ref a_zeros)
  b_zeros : Binds K d_zeros ["many"] []
  a_added : Addr
  d_added : FuncData
  F_added : Fun K "added" "added" s_added a_added d_added
  g_added : mg "added" = some (.ref a_added)
  b_added : Binds K d_added ["one", "other"] []
  a__law_kind : Addr
  d__law_kind : FuncData
  F__law_kind : Fun K "_law_kind" "_law_kind" s__law_kind a__law_kind d__law_kind
  g__law_kind : mg "_law_kind" = some (.ref a__law_kind)
  b__law_kind : Binds K d__law_kind ["pool", "name"] []
  a__law_bag : Addr
  d__law_bag : FuncData
  F__law_bag : Fun K "_law_bag" "_law_bag" s__law_bag a__law_bag d__law_bag
  g__law_bag : mg "_law_bag" = some (.ref a__law_bag)
  b__law_bag : Binds K d__law_bag ["script"] []
  a__law_take : Addr
  d__law_take : FuncData
  F__law_take : Fun K "_law_take" "_law_take" s__law_take a__law_take d__law_take
  g__law_take : mg "_law_take" = some (.ref a__law_take)
  b__law_take : Binds K d__law_take ["bag", "many"] []
  a__law_alike : Addr
  d__law_alike : FuncData
  F__law_alike : Fun K "_law_alike" "_law_alike" s__law_alike a__law_alike d__law_alike
  g__law_alike : mg "_law_alike" = some (.ref a__law_alike)
  b__law_alike : Binds K d__law_alike ["found", "due"] []
  a_room_index : Addr
  d_room_index : FuncData
  F_room_index : Fun K "room_index" "room_index" s_room_index a_room_index d_room_index
  g_room_index : mg "room_index" = some (.ref a_room_index)
  b_room_index : Binds K d_room_index ["pool", "name"] []
  a_kind_index : Addr
  d_kind_index : FuncData
  F_kind_index : Fun K "kind_index" "kind_index" s_kind_index a_kind_index d_kind_index
  g_kind_index : mg "kind_index" = some (.ref a_kind_index)
  b_kind_index : Binds K d_kind_index ["pool", "name"] []
  a_claimed : Addr
  d_claimed : FuncData
  F_claimed : Fun K "claimed" "claimed" s_claimed a_claimed d_claimed
  g_claimed : mg "claimed" = some (.ref a_claimed)
  b_claimed : Binds K d_claimed ["pool", "claims"] []
  a__law_line : Addr
  d__law_line : FuncData
  F__law_line : Fun K "_law_line" "_law_line" s__law_line a__law_line d__law_line
  g__law_line : mg "_law_line" = some (.ref a__law_line)
  b__law_line : Binds K d__law_line ["pool", "name"] []
  a__law_mixed : Addr
  d__law_mixed : FuncData
  F__law_mixed : Fun K "_law_mixed" "_law_mixed" s__law_mixed a__law_mixed d__law_mixed
  g__law_mixed : mg "_law_mixed" = some (.ref a__law_mixed)
  b__law_mixed : Binds K d__law_mixed ["bag", "things"] []
  a__law_some : Addr
  d__law_some : FuncData
  F__law_some : Fun K "_law_some" "_law_some" s__law_some a__law_some d__law_some
  g__law_some : mg "_law_some" = some (.ref a__law_some)
  b__law_some : Binds K d__law_some ["bag", "things"] []
  a_kind_of : Addr
  d_kind_of : FuncData
  F_kind_of : Fun K "kind_of" "kind_of" s_kind_of a_kind_of d_kind_of
  g_kind_of : mg "kind_of" = some (.ref a_kind_of)
  b_kind_of : Binds K d_kind_of ["pool", "name"] []
  a__law_positions : Addr
  d__law_positions : FuncData
  F__law_positions : Fun K "_law_positions" "_law_positions" s__law_positions a__law_positions d__law_positions
  g__law_positions : mg "_law_positions" = some (.ref a__law_positions)
  b__law_positions : Binds K d__law_positions ["pool"] []
  a__law_held : Addr
  d__law_held : FuncData
  F__law_held : Fun K "_law_held" "_law_held" s__law_held a__law_held d__law_held
  g__law_held : mg "_law_held" = some (.ref a__law_held)
  b__law_held : Binds K d__law_held ["pool", "name", "q"] []
  a__law_claim : Addr
  d__law_claim : FuncData
  F__law_claim : Fun K "_law_claim" "_law_claim" s__law_claim a__law_claim d__law_claim
  g__law_claim : mg "_law_claim" = some (.ref a__law_claim)
  b__law_claim : Binds K d__law_claim ["pool", "name", "q"] []
  a__law_names : Addr
  d__law_names : FuncData
  F__law_names : Fun K "_law_names" "_law_names" s__law_names a__law_names d__law_names
  g__law_names : mg "_law_names" = some (.ref a__law_names)
  b__law_names : Binds K d__law_names ["bag", "many"] []
  a__law_drawn_line : Addr
  d__law_drawn_line : FuncData
  F__law_drawn_line : Fun K "_law_drawn_line" "_law_drawn_line" s__law_drawn_line a__law_drawn_line d__law_drawn_line
  g__law_drawn_line : mg "_law_drawn_line" = some (.ref a__law_drawn_line)
  b__law_drawn_line : Binds K d__law_drawn_line ["bag", "rooms", "most", "units"] []
  a_asked_from : Addr
  d_asked_from : FuncData
  F_asked_from : Fun K "asked_from" "asked_from" s_asked_from a_asked_from d_asked_from
  g_asked_from : mg "asked_from" = some (.ref a_asked_from)
  b_asked_from : Binds K d_asked_from ["pool", "kind"] []
  a__law_pool : Addr
  d__law_pool : FuncData
  F__law_pool : Fun K "_law_pool" "_law_pool" s__law_pool a__law_pool d__law_pool
  g__law_pool : mg "_law_pool" = some (.ref a__law_pool)
  b__law_pool : Binds K d__law_pool ["bag", "rooms", "kinds", "size", "units"] []
  a__law_edges : Addr
  d__law_edges : FuncData
  F__law_edges : Fun K "_law_edges" "_law_edges" s__law_edges a__law_edges d__law_edges
  g__law_edges : mg "_law_edges" = some (.ref a__law_edges)
  b__law_edges : Binds K d__law_edges ["pool"] []
  a__law_needs : Addr
  d__law_needs : FuncData
  F__law_needs : Fun K "_law_needs" "_law_needs" s__law_needs a__law_needs d__law_needs
  g__law_needs : mg "_law_needs" = some (.ref a__law_needs)
  b__law_needs : Binds K d__law_needs ["pool"] []
  a_whole_line : Addr
  d_whole_line : FuncData
  F_whole_line : Fun K "whole_line" "whole_line" s_whole_line a_whole_line d_whole_line
  g_whole_line : mg "whole_line" = some (.ref a_whole_line)
  b_whole_line : Binds K d_whole_line ["pool", "kind"] []
  a_positions : Addr
  d_positions : FuncData
  F_positions : Fun K "positions" "positions" s_positions a_positions d_positions
  g_positions : mg "positions" = some (.ref a_positions)
  b_positions : Binds K d_positions ["pool"] []
  a_held_at : Addr
  d_held_at : FuncData
  F_held_at : Fun K "held_at" "held_at" s_held_at a_held_at d_held_at
  g_held_at : mg "held_at" = some (.ref a_held_at)
  b_held_at : Binds K d_held_at ["pool", "kind", "q"] []
  a_claim_at : Addr
  d_claim_at : FuncData
  F_claim_at : Fun K "claim_at" "claim_at" s_claim_at a_claim_at d_claim_at
  g_claim_at : mg "claim_at" = some (.ref a_claim_at)
  b_claim_at : Binds K d_claim_at ["pool", "kind", "q"] []
  a_need_of : Addr
  d_need_of : FuncData
  F_need_of : Fun K "need_of" "need_of" s_need_of a_need_of d_need_of
  g_need_of : mg "need_of" = some (.ref a_need_of)
  b_need_of : Binds K d_need_of ["pool", "kind"] []
  a_edge_positions : Addr
  d_edge_positions : FuncData
  F_edge_positions : Fun K "edge_positions" "edge_positions" s_edge_positions a_edge_positions d_edge_positions
  g_edge_positions : mg "edge_positions" = some (.ref a_edge_positions)
  b_edge_positions : Binds K d_edge_positions ["pool", "x", "y"] []
  a_greatest_needs : Addr
  d_greatest_needs : FuncData
  F_greatest_needs : Fun K "greatest_needs" "greatest_needs" s_greatest_needs a_greatest_needs d_greatest_needs
  g_greatest_needs : mg "greatest_needs" = some (.ref a_greatest_needs)
  b_greatest_needs : Binds K d_greatest_needs ["pool"] []
  a_web_of : Addr
  d_web_of : FuncData
  F_web_of : Fun K "web_of" "web_of" s_web_of a_web_of d_web_of
  g_web_of : mg "web_of" = some (.ref a_web_of)
  b_web_of : Binds K d_web_of ["pool"] []
  a_law : Addr
  d_law : FuncData
  F_law : Fun K "law" "law" s_law a_law d_law
  g_law : mg "law" = some (.ref a_law)
  b_law : Binds K d_law ["script"] []
  n_abs : mg "abs" = none
  n_int : mg "int" = none
  n_len : mg "len" = none
  n_list : mg "list" = none
  n_max : mg "max" = none
  n_range : mg "range" = none
  n_repr : mg "repr" = none
  n_sorted : mg "sorted" = none
  n_tuple : mg "tuple" = none
  n_zip : mg "zip" = none
section
variable {P : Program} {w : World} {K : PySem.W.Frag} {mg : Str → Option Value} {base : Heap}
theorem ok_room_names (T : Txt K mg) : FnG false P w K mg base 1 T.a_room_names T.d_room_names ["pool"] p_room_names := by
  refine fn_mk (k := 0) T.F_room_names sc_room_names ?_
  rintro X cdv A outer s H E hcd rfl hgd hr tk hp
  exact (dss_one (ds_ret (de_ct call_tupF sem_tupN T.n_tuple (by decide +kernel) (doa_cons (do_e (de_lc (own := [(("room" : PySem.Str), 1)]) (ws := [1]) (src_x (de_ix ix_seq sem_ix (do_v (pv 0)) (do_e de_int) (fun _ _ => rfl))) (by decide) (fun _ _ _ _ _ => (dg_name (pg_name (i := 1) sc_room_names.nd rfl (by first | exact Or.inl rfl | exact Or.inr rfl)))) (fun _ _ _ _ _ => (de_ix ix_seq sem_ix (do_v (pv 1)) (do_e de_int) (fun _ _ => rfl))) (fun pi pg pe => pe_lc rfl sc_room_names.nd pi (blkOk_by (N := ["pool", "room"]) (sc := defScope s_room_names) (by decide +kernel)) pg (fun _ _ _ _ _ => pts_nil) pe))) doa_nil))))
theorem ok_kind_names (T : Txt K mg) : FnG false P w K mg base 1 T.a_kind_names T.d_kind_names ["pool"] p_kind_names := by
  refine fn_mk (k := 0) T.F_kind_names sc_kind_names ?_
  rintro X cdv A outer s H E hcd rfl hgd hr tk hp
  exact (dss_one (ds_ret (de_ct call_tupF sem_tupN T.n_tuple (by decide +kernel) (doa_cons (do_e (de_lc (own := [(("kind" : PySem.Str), 1)]) (ws := [1]) (src_x (de_ix ix_seq sem_ix (do_v (pv 0)) (do_e de_int) (fun _ _ => rfl))) (by decide) (fun _ _ _ _ _ => (dg_name (pg_name (i := 1) sc_kind_names.nd rfl (by first | exact Or.inl rfl | exact Or.inr rfl)))) (fun _ _ _ _ _ => (de_ix ix_seq sem_ix (do_v (pv 1)) (do_e de_int) (fun _ _ => rfl))) (fun pi pg pe => pe_lc rfl sc_kind_names.nd pi (blkOk_by (N := ["pool", "kind"]) (sc := defScope s_kind_names) (by decide +kernel)) pg (fun _ _ _ _ _ => pts_nil) pe))) doa_nil))))
theorem ok_zeros (T : Txt K mg) : FnG false P w K mg base 1 T.a_zeros T.d_zeros ["many"] p_zeros := by
  refine fn_mk (k := 0) T.F_zeros sc_zeros ?_
  rintro X cdv A outer s H E hcd rfl hgd hr tk hp
  exact (dss_one (ds_ret (de_bin op_mul4 sem_mul (do_e (de_tup (da_cons de_int da_nil))) (do_v (pv 0)))))
theorem ok_added (T : Txt K mg) : FnG false P w K mg base 1 T.a_added T.d_added ["one", "other"] p_added := by
  refine fn_mk (k := 0) T.F_added sc_added ?_
  rintro X cdv A outer s H E hcd rfl hgd hr tk hp
  exact (dss_one (ds_ret (de_ct call_tuple_of sem_tuple T.n_tuple (by decide +kernel) (doa_cons (do_e (de_lc (own := [(("member" : PySem.Str), 2), (("its" : PySem.Str), 3)]) (ws := [2, 3]) (src_zip (da_cons (de_var (pv 0)) (da_cons (de_var (pv 1)) da_nil)) (fun pa => RZ.pi_zipA (by rfl) T.n_zip pa)) (by decide) (fun _ _ _ _ _ => (dg_tup rfl (dgs_cons (dg_name (pg_name (i := 2) sc_added.nd rfl (by first | exact Or.inl rfl | exact Or.inr rfl))) (dgs_cons (dg_name (pg_name (i := 3) sc_added.nd rfl (by first | exact Or.inl rfl | exact Or.inr rfl))) dgs_nil)))) (fun _ _ _ _ _ => (de_bin op_add4 sem_add (do_v (pv 2)) (do_v (pv 3)))) (fun pi pg pe => pe_lc rfl sc_added.nd pi (blkOk_by (N := ["one", "other", "member", "its"]) (sc := defScope s_added) (by decide +kernel)) pg (fun _ _ _ _ _ => pts_nil) pe))) doa_nil))))
theorem ok__law_kind (T : Txt K mg) : FnG false P w K mg base 1 T.a__law_kind T.d__law_kind ["pool", "name"] p__law_kind := by
  refine fn_mk (k := 0) T.F__law_kind sc__law_kind ?_
  rintro X cdv A outer s H E hcd rfl hgd hr tk hp
  exact (dss_one (ds_ret (de_ix ix_seq sem_ix (do_e (de_lcI (own := [(("kind" : PySem.Str), 2)]) (ws := [2]) (src_x (de_ix ix_seq sem_ix (do_v (pv 0)) (do_e de_int) (fun _ _ => rfl))) (by decide) (fun _ _ _ _ _ => (dg_name (pg_name (i := 2) sc__law_kind.nd rfl (by first | exact Or.inl rfl | exact Or.inr rfl)))) (fun _ _ _ _ _ => (dt_cmp (op_eqD hr.units) sem_eq (do_e (de_ix ix_seq sem_ix (do_v (pv 2)) (do_e de_int) (fun _ _ => rfl))) (do_v (pv 1)) (nomark _))) (fun _ _ _ _ _ => (de_var (pv 2))) (fun pi pg pt pe => pe_lc rfl sc__law_kind.nd pi (blkOk_by (N := ["pool", "name", "kind"]) (sc := defScope s__law_kind) (by decide +kernel)) pg pt pe))) (do_e de_int) (fun _ _ => rfl))))
theorem ok__law_bag (T : Txt K mg) : FnOk P w K mg base CX0 1 T.a__law_bag T.d__law_bag ["script"] (spBag K) := by
  refine T.F__law_bag.ok sc__law_bag (fun vs H Q E h => ?_) (fun cdv A outer s H vs Q E hr h => ⟨bagT K, ?_, pure_bag h⟩)
  · obtain ⟨a, ns, rfl, _⟩ := h
    rfl
  · exact pss_one (ps_ret (pe_lst (pa_cons pe_int (pa_cons pe_int (pa_cons pe_int (pa_cons (pe_lc (own := [(("cell" : Str), 1)]) (g := gName 1) (tt := tYes) rfl sc__law_bag.nd (pi_list (pe_slice sl_list (pv 0) po_none (po_some pe_int)))
      (blkOk_by (N := ["script", "cell"]) (sc := defScope s__law_bag) (by decide +kernel)) (fun _ _ _ _ _ => pg_name (i := 1) sc__law_bag.nd rfl (Or.inl rfl)) (fun _ _ _ _ _ => pts_nil) (fun _ _ _ _ _ => pe_callB call_abs rfl T.n_abs (by decide +kernel) (pa_cons (pv 1) pa_nil))) pa_nil))))))
theorem ok__law_take (T : Txt K mg) : FnG false P w K mg base 1 T.a__law_take T.d__law_take ["bag", "many"] takeS := by
  constructor
  intro A outer s H args us vs Q E hg hr e0 hb rv h
  refine fn_raw (k := 0) T.F__law_take sc__law_take hr e0 hb rv h.1 fun cdv _ => ⟨takeT K, ?_, pure_take h⟩
  have nd := sc__law_take.nd
  exact Evl.pss_cut (ps_if (pt_cmpR op_eq (pe_ix ix_list (pv 0) pe_int (fun _ _ => rfl)) pe_int (nomark _))
    (pss_cons (ps_set (i := 2) nd rfl (Or.inl rfl) (pe_ix ix_list (pe_op op_cat (pe_slice sl_list (pe_ix ix_list (pv 0) pe_int (fun _ _ => rfl)) (po_some (pe_ix ix_list (pv 0) pe_int (fun _ _ => rfl))) po_none) (pe_lst (pa_cons pe_int pa_nil))) pe_int (fun _ _ => rfl)))
    (pss_cons (ps_augS (pv 0) pe_int get_list pe_int ip_add set_list)
    (pss_cons (ps_if (pt_cmpR op_ge (pv 2) (pe_op op_pow pe_int pe_int) (nomark _)) (pss_one (ps_asg (pv 2) (pg_sub (pv 0) pe_int set_list))) pss_nil)
    (pss_cons (ps_set (i := 3) nd rfl (Or.inl rfl) (pe_op op_add (pe_op op_add (pe_op op_mul (pe_ix ix_list (pv 0) pe_int (fun _ _ => rfl)) pe_int) (pe_op op_mod (pe_callTy call_int1 rfl T.n_int (by decide +kernel) (pa_cons (pv 2) pa_nil)) pe_int)) (pe_op op_mul pe_int (pe_ix ix_list (pv 0) pe_int (fun _ _ => rfl)))))
    (pss_one (ps_asg (pe_op op_mod (pe_callTy call_int1 rfl T.n_int (by decide +kernel) (pa_cons (pv 3) pa_nil)) pe_int) (pg_sub (pv 0) pe_int set_list))))))) pss_nil)
    (pss_cons (ps_if (pt_cmpR op_gt (pe_ix ix_list (pv 0) pe_int (fun _ _ => rfl)) pe_int (nomark _))
      (pss_cons (ps_set (i := 4) nd rfl (Or.inl rfl) (pe_op op_mod (pe_callTy call_int1 rfl T.n_int (by decide +kernel) (pa_cons (pe_ix ix_list (pv 0) pe_int (fun _ _ => rfl)) pa_nil)) (pv 1)))
      (pss_cons (ps_asg (pe_op op_fdiv (pe_callTy call_int1 rfl T.n_int (by decide +kernel) (pa_cons (pe_ix ix_list (pv 0) pe_int (fun _ _ => rfl)) pa_nil)) (pv 1)) (pg_sub (pv 0) pe_int set_list))
      (pss_one (ps_ret (pv 4))))) pss_nil)
    (pss_cons (ps_set (i := 5) nd rfl (Or.inl rfl) (pe_op op_mod (pe_callTy call_int1 rfl T.n_int (by decide +kernel) (pa_cons (pe_op op_mul (pe_op op_add (pe_ix ix_list (pv 0) pe_int (fun _ _ => rfl)) pe_int) pe_int) pa_nil)) pe_int))
    (pss_cons (ps_set (i := 6) nd rfl (Or.inl rfl) (pe_op op_mod (pe_callTy call_int1 rfl T.n_int (by decide +kernel) (pa_cons (pe_op op_mul (pe_op op_mod (pe_callTy call_int1 rfl T.n_int (by decide +kernel) (pa_cons (pe_op op_mul (pv 5) (pv 5)) pa_nil)) pe_int) pe_int) pa_nil)) pe_int))
    (pss_one (ps_ret (pe_op op_mod (pe_callTy call_int1 rfl T.n_int (by decide +kernel) (pa_cons (pe_op op_fdiv (pv 6) pe_int) pa_nil)) (pv 1)))))))
theorem ok__law_alike (T : Txt K mg) : FnG true P w K mg base 1 T.a__law_alike T.d__law_alike ["found", "due"] p__law_alike := by
  refine fn_mk (k := 0) T.F__law_alike sc__law_alike ?_
  rintro X cdv A outer s H E hcd rfl hgd hr tk hp
  exact (dss_one (ds_ret (de_and (de_cmp (op_eqD hr.units) sem_eq (do_e (de_cb (call_reprD (hgd rfl) (hu100 hr)) sem_repr T.n_repr (by decide +kernel) (doa_cons (do_v (pv 0)) doa_nil))) (do_e (de_cb (call_reprD (hgd rfl) (hu100 hr)) sem_repr T.n_repr (by decide +kernel) (doa_cons (do_v (pv 1)) doa_nil))) (nomark _)) (de_one (de_cmp (op_eqD hr.units) sem_eq (do_v (pv 0)) (do_v (pv 1)) (nomark _))))))
theorem ok_room_index (T : Txt K mg) : FnG false P w K mg base 2 T.a_room_index T.d_room_index ["pool", "name"] p_room_index := by
  refine fn_mk (k := 1) T.F_room_index sc_room_index ?_
  rintro X cdv A outer s H E hcd rfl hgd hr tk hp
  exact (dss_cons (ds_set (de_call0 (ok_room_names T) (fun z => nomatch z) (hr.mono (by decide)) tk T.g_room_names T.F_room_names.kp T.b_room_names rfl (da_cons (de_var (pv 0)) da_nil)) (fun p => ps_set (i := 2) sc_room_index.nd rfl (by first | exact Or.inl rfl | exact Or.inr rfl) p))
  (dss_cons (ds_if (dt_cmp (op_notin4 (hu65 hr)) sem_notin4 (do_v (pv 1)) (do_v (pv 2)) (by rfl)) (dss_one ds_never) dss_nil)
  (dss_one (ds_ret (de_tidx (pv 2) (do_v (pv 1)))))))
theorem ok_kind_index (T : Txt K mg) : FnG false P w K mg base 2 T.a_kind_index T.d_kind_index ["pool", "name"] p_kind_index := by
  refine fn_mk (k := 1) T.F_kind_index sc_kind_index ?_
  rintro X cdv A outer s H E hcd rfl hgd hr tk hp
  exact (dss_cons (ds_set (de_call0 (ok_kind_names T) (fun z => nomatch z) (hr.mono (by decide)) tk T.g_kind_names T.F_kind_names.kp T.b_kind_names rfl (da_cons (de_var (pv 0)) da_nil)) (fun p => ps_set (i := 2) sc_kind_index.nd rfl (by first | exact Or.inl rfl | exact Or.inr rfl) p))
  (dss_cons (ds_if (dt_cmp (op_notin4 (hu65 hr)) sem_notin4 (do_v (pv 1)) (do_v (pv 2)) (by rfl)) (dss_one ds_never) dss_nil)
  (dss_one (ds_ret (de_tidx (pv 2) (do_v (pv 1)))))))
theorem ok_claimed (T : Txt K mg) : FnG false P w K mg base 2 T.a_claimed T.d_claimed ["pool", "claims"] p_claimed := by
  refine fn_mk (k := 1) T.F_claimed sc_claimed ?_
  rintro X cdv A outer s H E hcd rfl hgd hr tk hp
  exact (dss_cons (ds_set (de_call0 (ok_zeros T) (fun z => nomatch z) (hr.mono (by decide)) tk T.g_zeros T.F_zeros.kp T.b_zeros rfl (da_cons (de_cb call_len2 sem_len T.n_len (by decide +kernel) (doa_cons (do_e (de_ix ix_seq sem_ix (do_v (pv 0)) (do_e de_int) (fun _ _ => rfl))) doa_nil)) da_nil)) (fun p => ps_set (i := 2) sc_claimed.nd rfl (by first | exact Or.inl rfl | exact Or.inr rfl) p))
  (dss_cons (ds_for hp rfl (src_x (de_var (pv 1))) (dg_tup rfl (dgs_cons (dg_name (pg_name (i := 3) sc_claimed.nd rfl (by first | exact Or.inl rfl | exact Or.inr rfl))) (dgs_cons (dg_name (pg_name (i := 4) sc_claimed.nd rfl (by first | exact Or.inl rfl | exact Or.inr rfl))) dgs_nil))) (dss_one (ds_set (de_call0 (ok_added T) (fun z => nomatch z) (hr.mono (by decide)) tk T.g_added T.F_added.kp T.b_added rfl (da_cons (de_var (pv 2)) (da_cons (de_ct call_tuple_of sem_tuple T.n_tuple (by decide +kernel) (doa_cons (do_e (de_lc (own := [(("at" : PySem.Str), 5)]) (ws := [5]) (src_range1 (fun pa => pi_range1 (by rfl) T.n_range pa) (do_e (de_cb call_len2 sem_len T.n_len (by decide +kernel) (doa_cons (do_e (de_ix ix_seq sem_ix (do_v (pv 0)) (do_e de_int) (fun _ _ => rfl))) doa_nil)))) (by decide) (fun _ _ _ _ _ => (dg_name (pg_name (i := 5) sc_claimed.nd rfl (by first | exact Or.inl rfl | exact Or.inr rfl)))) (fun _ _ _ _ _ => (de_if (dt_cmp (op_eqD hr.units) sem_eq (do_v (pv 5)) (do_v (pv 3)) (nomark _)) (de_var (pv 4)) de_int)) (fun pi pg pe => pe_lc rfl sc_claimed.nd pi (blkOk_by (N := ["pool", "claims", "found", "room", "units", "at"]) (sc := defScope s_claimed) (by decide +kernel)) pg (fun _ _ _ _ _ => pts_nil) pe))) doa_nil)) da_nil))) (fun p => ps_set (i := 2) sc_claimed.nd rfl (by first | exact Or.inl rfl | exact Or.inr rfl) p))))
  (dss_one (ds_ret (de_mv (pv 2))))))
theorem ok__law_line (T : Txt K mg) : FnG false P w K mg base 2 T.a__law_line T.d__law_line ["pool", "name"] p__law_line := by
  refine fn_mk (k := 1) T.F__law_line sc__law_line ?_
  rintro X cdv A outer s H E hcd rfl hgd hr tk hp
  exact (dss_cons (ds_par (de_lst da_nil) (de_var (pv 1)) (fun pa => ps_par (i := 2) (j := 3) rfl sc__law_line.nd rfl rfl (by decide) rfl rfl pa (by rfl)))
  (dss_cons (ds_for hp rfl (src_range1 (fun pa => pi_range1 (by rfl) T.n_range pa) (do_e (de_cb call_len2 sem_len T.n_len (by decide +kernel) (doa_cons (do_e (de_ix ix_seq sem_ix (do_v (pv 0)) (do_e de_int) (fun _ _ => rfl))) doa_nil)))) (dg_name (pg_name (i := 4) sc__law_line.nd rfl (by first | exact Or.inl rfl | exact Or.inr rfl))) (dss_one (ds_if (dt_cmp (op_neD hr.units) sem_ne (do_v (pv 3)) (do_e de_str) (nomark _)) (dss_cons (ds_set (de_call0 (ok__law_kind T) (fun z => nomatch z) (hr.mono (by decide)) tk T.g__law_kind T.F__law_kind.kp T.b__law_kind rfl (da_cons (de_var (pv 0)) (da_cons (de_var (pv 3)) da_nil))) (fun p => ps_set (i := 5) sc__law_line.nd rfl (by first | exact Or.inl rfl | exact Or.inr rfl) p))
  (dss_cons (ds_drop (de_meth (pv 2) semM_extend (doa_cons (do_e (de_ct call_list_of sem_list T.n_list (by decide +kernel) (doa_cons (do_e (de_ix ix_seq sem_ix (do_v (pv 5)) (do_e de_int) (fun _ _ => rfl))) doa_nil))) doa_nil) (fun pa pb => pe_bm PySem.F.plainAttrs_list PySem.F.slot_list_extend PySem.F.type_list_extend mt_extend pa pb)))
  (dss_one (ds_set (de_ix ix_seq sem_ix (do_v (pv 5)) (do_e de_int) (fun _ _ => rfl)) (fun p => ps_set (i := 3) sc__law_line.nd rfl (by first | exact Or.inl rfl | exact Or.inr rfl) p))))) dss_nil)))
  (dss_one (ds_ret (de_mv (pv 2))))))
theorem ok__law_mixed (T : Txt K mg) : FnG false P w K mg base 2 T.a__law_mixed T.d__law_mixed ["bag", "things"] p__law_mixed := by
  refine fn_mk (k := 1) T.F__law_mixed sc__law_mixed ?_
  rintro X cdv A outer s H E hcd rfl hgd hr tk hp
  exact (dss_cons (ds_par (de_ct call_list_of sem_list T.n_list (by decide +kernel) (doa_cons (do_v (pv 1)) doa_nil)) (de_lst da_nil) (fun pa => ps_par (i := 2) (j := 3) rfl sc__law_mixed.nd rfl rfl (by decide) rfl rfl pa (by rfl)))
  (dss_cons (ds_while hp (dt_cmp (op_neD hr.units) sem_ne (do_v (pv 2)) (do_e (de_lst da_nil)) (nomark _)) (dss_one (ds_drop (de_app (pv 3) (de_meth (pv 2) semM_pop (doa_cons (do_e (de_call0 (ok__law_take T) (fun z => nomatch z) (hr.mono (by decide)) tk T.g__law_take T.F__law_take.kp T.b__law_take rfl (da_cons (de_var (pv 0)) (da_cons (de_cb call_len2 sem_len T.n_len (by decide +kernel) (doa_cons (do_v (pv 2)) doa_nil)) da_nil)))) doa_nil) (fun pa pb => pe_bm PySem.F.plainAttrs_list PySem.F.slot_list_pop PySem.F.type_list_pop mt_popAt pa pb)) rfl (fun pa pb => pe_bm PySem.F.plainAttrs_list PySem.F.slot_list_append PySem.F.type_list_append mt_append pa pb)))))
  (dss_one (ds_ret (de_mv (pv 3))))))
theorem ok__law_some (T : Txt K mg) : FnG false P w K mg base 2 T.a__law_some T.d__law_some ["bag", "things"] p__law_some := by
  refine fn_mk (k := 1) T.F__law_some sc__law_some ?_
  rintro X cdv A outer s H E hcd rfl hgd hr tk hp
  exact (dss_one (ds_ret (de_ix ix_seq sem_ix (do_v (pv 1)) (do_e (de_call0 (ok__law_take T) (fun z => nomatch z) (hr.mono (by decide)) tk T.g__law_take T.F__law_take.kp T.b__law_take rfl (da_cons (de_var (pv 0)) (da_cons (de_cb call_len2 sem_len T.n_len (by decide +kernel) (doa_cons (do_v (pv 1)) doa_nil)) da_nil)))) (fun _ _ => rfl))))
theorem ok_kind_of (T : Txt K mg) : FnG false P w K mg base 3 T.a_kind_of T.d_kind_of ["pool", "name"] p_kind_of := by
  refine fn_mk (k := 2) T.F_kind_of sc_kind_of ?_
  rintro X cdv A outer s H E hcd rfl hgd hr tk hp
  exact (dss_one (ds_ret (de_ix ix_seq sem_ix (do_e (de_ix ix_seq sem_ix (do_v (pv 0)) (do_e de_int) (fun _ _ => rfl))) (do_e (de_call0 (ok_kind_index T) (fun z => nomatch z) (hr.mono (by decide)) tk T.g_kind_index T.F_kind_index.kp T.b_kind_index rfl (da_cons (de_var (pv 0)) (da_cons (de_var (pv 1)) da_nil)))) (fun _ _ => rfl))))
theorem ok__law_positions (T : Txt K mg) : FnG false P w K mg base 3 T.a__law_positions T.d__law_positions ["pool"] p__law_positions := by
  refine fn_mk (k := 2) T.F__law_positions sc__law_positions ?_
  rintro X cdv A outer s H E hcd rfl hgd hr tk hp
  exact (dss_cons (ds_set (de_lst da_nil) (fun p => ps_set (i := 1) sc__law_positions.nd rfl (by first | exact Or.inl rfl | exact Or.inr rfl) p))
  (dss_cons (ds_for hp rfl (src_x (de_ix ix_seq sem_ix (do_v (pv 0)) (do_e de_int) (fun _ _ => rfl))) (dg_name (pg_name (i := 2) sc__law_positions.nd rfl (by first | exact Or.inl rfl | exact Or.inr rfl))) (dss_one (ds_drop (de_meth (pv 1) semM_extend (doa_cons (do_e (de_lc (own := [(("q" : PySem.Str), 3)]) (ws := [3]) (src_range1 (fun pa => pi_range1 (by rfl) T.n_range pa) (do_e (de_cb call_len2 sem_len T.n_len (by decide +kernel) (doa_cons (do_e (de_call0 (ok__law_line T) (fun z => nomatch z) (hr.mono (by decide)) tk T.g__law_line T.F__law_line.kp T.b__law_line rfl (da_cons (de_var (pv 0)) (da_cons (de_ix ix_seq sem_ix (do_v (pv 2)) (do_e de_int) (fun _ _ => rfl)) da_nil)))) doa_nil)))) (by decide) (fun _ _ _ _ _ => (dg_name (pg_name (i := 3) sc__law_positions.nd rfl (by first | exact Or.inl rfl | exact Or.inr rfl)))) (fun _ _ _ _ _ => (de_tup (da_cons (de_ix ix_seq sem_ix (do_v (pv 2)) (do_e de_int) (fun _ _ => rfl)) (da_cons (de_var (pv 3)) da_nil)))) (fun pi pg pe => pe_lc rfl sc__law_positions.nd pi (blkOk_by (N := ["pool", "found", "kind", "q"]) (sc := defScope s__law_positions) (by decide +kernel)) pg (fun _ _ _ _ _ => pts_nil) pe))) doa_nil) (fun pa pb => pe_bm PySem.F.plainAttrs_list PySem.F.slot_list_extend PySem.F.type_list_extend mt_extend pa pb)))))
  (dss_one (ds_ret (de_mv (pv 1))))))
theorem ok__law_held (T : Txt K mg) : FnG false P w K mg base 3 T.a__law_held T.d__law_held ["pool", "name", "q"] p__law_held := by
  refine fn_mk (k := 2) T.F__law_held sc__law_held ?_
  rintro X cdv A outer s H E hcd rfl hgd hr tk hp
  exact (dss_cons (ds_setLc (i := 3) (own := [(("room" : PySem.Str), 4)]) (ws := [4]) (src_x (de_ix ix_seq sem_ix (do_v (pv 0)) (do_e de_int) (fun _ _ => rfl))) (by decide) (fun _ _ _ _ _ => (dg_name (pg_name (i := 4) sc__law_held.nd rfl (by first | exact Or.inl rfl | exact Or.inr rfl)))) (fun _ _ _ _ _ => (de_ix ix_seq sem_ix (do_v (pv 4)) (do_e de_int) (fun _ _ => rfl))) (fun pi pg pe => ps_setLc (i := 3) rfl sc__law_held.nd rfl rfl (sw_true rfl rfl rfl (by decide +kernel)) pi (blkOk_by (N := ["pool", "name", "q", "names", "room", "found", "units"]) (sc := defScope s__law_held) (by decide +kernel)) pg (fun _ _ _ _ _ => pts_nil) pe))
  (dss_cons (ds_set (de_bin op_mul4 sem_mul (do_e (de_lst (da_cons de_int da_nil))) (do_e (de_cb call_len2 sem_len T.n_len (by decide +kernel) (doa_cons (do_v (pv 3)) doa_nil)))) (fun p => ps_set (i := 5) sc__law_held.nd rfl (by first | exact Or.inl rfl | exact Or.inr rfl) p))
  (dss_cons (ds_for hp rfl (src_x (de_cut (do_e (de_call0 (ok__law_line T) (fun z => nomatch z) (hr.mono (by decide)) tk T.g__law_line T.F__law_line.kp T.b__law_line rfl (da_cons (de_var (pv 0)) (da_cons (de_var (pv 1)) da_nil)))) dp_no (dp_some (do_v (pv 2))))) (dg_tup rfl (dgs_cons (dg_name (pg_name (i := 4) sc__law_held.nd rfl (by first | exact Or.inl rfl | exact Or.inr rfl))) (dgs_cons (dg_name (pg_name (i := 6) sc__law_held.nd rfl (by first | exact Or.inl rfl | exact Or.inr rfl))) dgs_nil))) (dss_one (ds_augI (op := (fun i j => i + j)) (pv 5) (do_e (de_lidx (do_v (pv 3)) (do_v (pv 4)) rfl (fun pa pb => pe_bm PySem.F.plainAttrs_list PySem.F.slot_list_index PySem.F.type_list_index (mt_indexD (hu65 hr)) pa pb))) (do_v (pv 6)) (fun po pi pe => ps_augS po pi get_list pe ip_add set_list))))
  (dss_one (ds_ret (de_ct call_tuple_of sem_tuple T.n_tuple (by decide +kernel) (doa_cons (do_v (pv 5)) doa_nil)))))))
theorem ok__law_claim (T : Txt K mg) : FnG false P w K mg base 3 T.a__law_claim T.d__law_claim ["pool", "name", "q"] p__law_claim := by
  refine fn_mk (k := 2) T.F__law_claim sc__law_claim ?_
  rintro X cdv A outer s H E hcd rfl hgd hr tk hp
  exact (dss_cons (ds_asg (de_ix ix_seq sem_ix (do_e (de_call0 (ok__law_line T) (fun z => nomatch z) (hr.mono (by decide)) tk T.g__law_line T.F__law_line.kp T.b__law_line rfl (da_cons (de_var (pv 0)) (da_cons (de_var (pv 1)) da_nil)))) (do_v (pv 2)) (fun _ _ => rfl)) (dg_tup rfl (dgs_cons (dg_name (pg_name (i := 3) sc__law_claim.nd rfl (by first | exact Or.inl rfl | exact Or.inr rfl))) (dgs_cons (dg_name (pg_name (i := 4) sc__law_claim.nd rfl (by first | exact Or.inl rfl | exact Or.inr rfl))) dgs_nil))))
  (dss_one (ds_ret (de_tup (da_cons (de_lidx (do_e (de_lc (own := [(("one" : PySem.Str), 5)]) (ws := [5]) (src_x (de_ix ix_seq sem_ix (do_v (pv 0)) (do_e de_int) (fun _ _ => rfl))) (by decide) (fun _ _ _ _ _ => (dg_name (pg_name (i := 5) sc__law_claim.nd rfl (by first | exact Or.inl rfl | exact Or.inr rfl)))) (fun _ _ _ _ _ => (de_ix ix_seq sem_ix (do_v (pv 5)) (do_e de_int) (fun _ _ => rfl))) (fun pi pg pe => pe_lc rfl sc__law_claim.nd pi (blkOk_by (N := ["pool", "name", "q", "room", "units", "one"]) (sc := defScope s__law_claim) (by decide +kernel)) pg (fun _ _ _ _ _ => pts_nil) pe))) (do_v (pv 3)) rfl (fun pa pb => pe_bm PySem.F.plainAttrs_list PySem.F.slot_list_index PySem.F.type_list_index (mt_indexD (hu65 hr)) pa pb)) (da_cons (de_var (pv 4)) da_nil))))))
theorem ok__law_names (T : Txt K mg) : FnG false P w K mg base 3 T.a__law_names T.d__law_names ["bag", "many"] p__law_names := by
  refine fn_mk (k := 2) T.F__law_names sc__law_names ?_
  rintro X cdv A outer s H E hcd rfl hgd hr tk hp
  exact (dss_cons (ds_set (de_lst (da_cons de_str (da_cons de_str (da_cons de_str (da_cons de_str (da_cons de_str (da_cons de_str (da_cons de_str (da_cons de_str (da_cons de_str (da_cons de_str (da_cons de_str (da_cons de_str da_nil))))))))))))) (fun p => ps_set (i := 2) sc__law_names.nd rfl (by first | exact Or.inl rfl | exact Or.inr rfl) p))
  (dss_one (ds_ret (de_cb cr_sortA sem_sortA T.n_sorted (by decide +kernel) (doa_cons (do_e (de_cut (do_e (de_call0 (ok__law_mixed T) (fun z => nomatch z) (hr.mono (by decide)) tk T.g__law_mixed T.F__law_mixed.kp T.b__law_mixed rfl (da_cons (de_var (pv 0)) (da_cons (de_var (pv 2)) da_nil)))) dp_no (dp_some (do_v (pv 1))))) doa_nil)))))
theorem ok__law_drawn_line (T : Txt K mg) : FnG false P w K mg base 3 T.a__law_drawn_line T.d__law_drawn_line ["bag", "rooms", "most", "units"] p__law_drawn_line := by
  refine fn_mk (k := 2) T.F__law_drawn_line sc__law_drawn_line ?_
  rintro X cdv A outer s H E hcd rfl hgd hr tk hp
  exact (dss_cons (ds_setLc (i := 4) (own := [(("turn" : PySem.Str), 5)]) (ws := [5]) (src_range1 (fun pa => pi_range1 (by rfl) T.n_range pa) (do_e (de_bin op_add4 sem_add (do_e de_int) (do_e (de_call0 (ok__law_take T) (fun z => nomatch z) (hr.mono (by decide)) tk T.g__law_take T.F__law_take.kp T.b__law_take rfl (da_cons (de_var (pv 0)) (da_cons (de_var (pv 2)) da_nil))))))) (by decide) (fun _ _ _ _ _ => (dg_name (pg_name (i := 5) sc__law_drawn_line.nd rfl (by first | exact Or.inl rfl | exact Or.inr rfl)))) (fun _ _ _ _ _ => (de_tup (da_cons (de_call0 (ok__law_some T) (fun z => nomatch z) (hr.mono (by decide)) takes0 T.g__law_some T.F__law_some.kp T.b__law_some rfl (da_cons (de_var (pv 0)) (da_cons (de_var (pv 1)) da_nil))) (da_cons (de_bin op_add4 sem_add (do_e de_int) (do_e (de_call0 (ok__law_take T) (fun z => nomatch z) (hr.mono (by decide)) takes0 T.g__law_take T.F__law_take.kp T.b__law_take rfl (da_cons (de_var (pv 0)) (da_cons (de_var (pv 3)) da_nil))))) da_nil)))) (fun pi pg pe => ps_setLc (i := 4) rfl sc__law_drawn_line.nd rfl rfl (sw_true rfl rfl rfl (by decide +kernel)) pi (blkOk_by (N := ["bag", "rooms", "most", "units", "claims", "turn"]) (sc := defScope s__law_drawn_line) (by decide +kernel)) pg (fun _ _ _ _ _ => pts_nil) pe))
  (dss_one (ds_ret (de_ct call_tuple_of sem_tuple T.n_tuple (by decide +kernel) (doa_cons (do_v (pv 4)) doa_nil)))))
theorem ok_asked_from (T : Txt K mg) : FnG false P w K mg base 4 T.a_asked_from T.d_asked_from ["pool", "kind"] p_asked_from := by
  refine fn_mk (k := 3) T.F_asked_from sc_asked_from ?_
  rintro X cdv A outer s H E hcd rfl hgd hr tk hp
  exact (dss_cons (ds_set (de_lst (da_cons (de_var (pv 1)) da_nil)) (fun p => ps_set (i := 2) sc_asked_from.nd rfl (by first | exact Or.inl rfl | exact Or.inr rfl) p))
  (dss_cons (ds_while hp (dt_cmp (op_neD hr.units) sem_ne (do_e (de_ix ix_seq sem_ix (do_e (de_ix ix_seq sem_ix (do_v (pv 2)) (do_e (de_un un_neg sem_neg (do_e de_int))) (fun _ _ => rfl))) (do_e de_int) (fun _ _ => rfl))) (do_e de_str) (nomark _)) (dss_cons (ds_set (de_call0 (ok_kind_of T) (fun z => nomatch z) (hr.mono (by decide)) tk T.g_kind_of T.F_kind_of.kp T.b_kind_of rfl (da_cons (de_var (pv 0)) (da_cons (de_ix ix_seq sem_ix (do_e (de_ix ix_seq sem_ix (do_v (pv 2)) (do_e (de_un un_neg sem_neg (do_e de_int))) (fun _ _ => rfl))) (do_e de_int) (fun _ _ => rfl)) da_nil))) (fun p => ps_set (i := 3) sc_asked_from.nd rfl (by first | exact Or.inl rfl | exact Or.inr rfl) p))
  (dss_cons (ds_if (dt_cmp (op_in4 (hu65 hr)) sem_in4 (do_v (pv 3)) (do_v (pv 2)) (by rfl)) (dss_one (ds_ret de_non)) dss_nil)
  (dss_one (ds_drop (de_app (pv 2) (de_var (pv 3)) rfl (fun pa pb => pe_bm PySem.F.plainAttrs_list PySem.F.slot_list_append PySem.F.type_list_append mt_append pa pb)))))))
  (dss_one (ds_ret (de_mv (pv 2))))))
theorem ok__law_pool (T : Txt K mg) : FnG false P w K mg base 4 T.a__law_pool T.d__law_pool ["bag", "rooms", "kinds", "size", "units"] p__law_pool := by
  refine fn_mk (k := 3) T.F__law_pool sc__law_pool ?_
  rintro X cdv A outer s H E hcd rfl hgd hr tk hp
  exact (dss_cons (ds_mult (is := [5, 6, 7]) (dav_cons (de_call0 (ok__law_names T) (fun z => nomatch z) (hr.mono (by decide)) tk T.g__law_names T.F__law_names.kp T.b__law_names rfl (da_cons (de_var (pv 0)) (da_cons (de_var (pv 1)) da_nil))) (dav_cons (de_lst da_nil) (dav_cons (de_done (kd := .str "") pe_str (fun _ e => by cases e; rfl) de_int) dav_nil))) rfl (by decide) rfl (fun pa => ps_asg (pe_tup pa) (pg_tup rfl (pgs_cons (pg_name (i := 5) sc__law_pool.nd rfl (by first | exact Or.inl rfl | exact Or.inr rfl)) (pgs_cons (pg_name (i := 6) sc__law_pool.nd rfl (by first | exact Or.inl rfl | exact Or.inr rfl)) (pgs_cons (pg_name (i := 7) sc__law_pool.nd rfl (by first | exact Or.inl rfl | exact Or.inr rfl)) pgs_nil))))))
  (dss_cons (ds_for hp rfl (src_x (de_call0 (ok__law_names T) (fun z => nomatch z) (hr.mono (by decide)) tk T.g__law_names T.F__law_names.kp T.b__law_names rfl (da_cons (de_var (pv 0)) (da_cons (de_var (pv 2)) da_nil)))) (dg_name (pg_name (i := 8) sc__law_pool.nd rfl (by first | exact Or.inl rfl | exact Or.inr rfl))) (dss_cons (ds_set (de_call0 (ok__law_drawn_line T) (fun z => nomatch z) (hr.mono (by decide)) tk T.g__law_drawn_line T.F__law_drawn_line.kp T.b__law_drawn_line rfl (da_cons (de_var (pv 0)) (da_cons (de_var (pv 5)) (da_cons de_int (da_cons (de_var (pv 4)) da_nil))))) (fun p => ps_set (i := 9) sc__law_pool.nd rfl (by first | exact Or.inl rfl | exact Or.inr rfl) p))
  (dss_cons (ds_set (de_call0 (ok__law_some T) (fun z => nomatch z) (hr.mono (by decide)) tk T.g__law_some T.F__law_some.kp T.b__law_some rfl (da_cons (de_var (pv 0)) (da_cons (de_bin op_add4 sem_add (do_e (de_bin op_mul4 sem_mul (do_e (de_lst (da_cons de_str da_nil))) (do_e de_int))) (do_e (de_lcIO (own := [(("one" : PySem.Str), 11)]) (ws := [11]) (pv 6) (by decide) (fun _ _ _ _ _ => (dg_name (pg_name (i := 11) sc__law_pool.nd rfl (by first | exact Or.inl rfl | exact Or.inr rfl)))) (fun _ _ _ _ _ => (dt_cmp op_le2 sem_le2 (do_e (de_bin op_add4 sem_add (do_e (de_dget (hu1 hr) (pv 7) (do_e (de_ix ix_seq sem_ix (do_v (pv 11)) (do_e de_int) (fun _ _ => rfl))) (fun _ _ => rfl))) (do_e (de_cb call_len2 sem_len T.n_len (by decide +kernel) (doa_cons (do_v (pv 9)) doa_nil))))) (do_e de_int) (nomark _))) (fun _ _ _ _ _ => (de_ix ix_seq sem_ix (do_v (pv 11)) (do_e de_int) (fun _ _ => rfl))) (fun pi pg pt pe => pe_lc rfl sc__law_pool.nd pi (blkOk_by (N := ["bag", "rooms", "kinds", "size", "units", "names", "made", "lengths", "name", "line", "ask", "one", "lost", "some"]) (sc := defScope s__law_pool) (by decide +kernel)) pg pt pe)))) da_nil))) (fun p => ps_set (i := 10) sc__law_pool.nd rfl (by first | exact Or.inl rfl | exact Or.inr rfl) p))
  (dss_cons (ds_dput (hu1 hr) (pv 7) (do_v (pv 8)) (de_bin op_add4 sem_add (do_e (de_cb call_len2 sem_len T.n_len (by decide +kernel) (doa_cons (do_v (pv 9)) doa_nil))) (do_e (de_dget (hu1 hr) (pv 7) (do_v (pv 10)) (fun _ _ => rfl)))))
  (dss_one (ds_drop (de_app (pv 6) (de_tup (da_cons (de_var (pv 8)) (da_cons (de_var (pv 9)) (da_cons (de_var (pv 10)) da_nil)))) rfl (fun pa pb => pe_bm PySem.F.plainAttrs_list PySem.F.slot_list_append PySem.F.type_list_append mt_append pa pb))))))))
  (dss_cons (ds_set (de_cmp (op_eqD hr.units) sem_eq (do_e (de_call0 (ok__law_take T) (fun z => nomatch z) (hr.mono (by decide)) tk T.g__law_take T.F__law_take.kp T.b__law_take rfl (da_cons (de_var (pv 0)) (da_cons de_int da_nil)))) (do_e de_int) (nomark _)) (fun p => ps_set (i := 12) sc__law_pool.nd rfl (by first | exact Or.inl rfl | exact Or.inr rfl) p))
  (dss_cons (ds_setLc (i := 13) (own := [(("name" : PySem.Str), 8)]) (ws := [8]) (src_x (de_var (pv 5))) (by decide) (fun _ _ _ _ _ => (dg_name (pg_name (i := 8) sc__law_pool.nd rfl (by first | exact Or.inl rfl | exact Or.inr rfl)))) (fun _ _ _ _ _ => (de_tup (da_cons (de_var (pv 8)) (da_cons (de_call0 (ok__law_take T) (fun z => nomatch z) (hr.mono (by decide)) takes0 T.g__law_take T.F__law_take.kp T.b__law_take rfl (da_cons (de_var (pv 0)) (da_cons (de_bin op_add4 sem_add (do_v (pv 3)) (do_e de_int)) da_nil))) (da_cons (de_and (de_var (pv 12)) (de_one (de_cmp (op_eqD hr.units) sem_eq (do_e (de_call0 (ok__law_take T) (fun z => nomatch z) (hr.mono (by decide)) takes0 T.g__law_take T.F__law_take.kp T.b__law_take rfl (da_cons (de_var (pv 0)) (da_cons de_int da_nil)))) (do_e de_int) (nomark _)))) da_nil))))) (fun pi pg pe => ps_setLc (i := 13) rfl sc__law_pool.nd rfl rfl (sw_true rfl rfl rfl (by decide +kernel)) pi (blkOk_by (N := ["bag", "rooms", "kinds", "size", "units", "names", "made", "lengths", "name", "line", "ask", "one", "lost", "some"]) (sc := defScope s__law_pool) (by decide +kernel)) pg (fun _ _ _ _ _ => pts_nil) pe))
  (dss_one (ds_ret (de_tup (da_cons (de_ct call_tuple_of sem_tuple T.n_tuple (by decide +kernel) (doa_cons (do_v (pv 13)) doa_nil)) (da_cons (de_ct call_tuple_of sem_tuple T.n_tuple (by decide +kernel) (doa_cons (do_v (pv 6)) doa_nil)) da_nil)))))))))
theorem ok__law_edges (T : Txt K mg) : FnG false P w K mg base 4 T.a__law_edges T.d__law_edges ["pool"] p__law_edges := by
  refine fn_mk (k := 3) T.F__law_edges sc__law_edges ?_
  rintro X cdv A outer s H E hcd rfl hgd hr tk hp
  exact (dss_cons (ds_set de_newN (fun p => ps_set (i := 1) sc__law_edges.nd rfl (by first | exact Or.inl rfl | exact Or.inr rfl) p))
  (dss_cons (ds_for hp rfl (src_x (de_call0 (ok__law_positions T) (fun z => nomatch z) (hr.mono (by decide)) tk T.g__law_positions T.F__law_positions.kp T.b__law_positions rfl (da_cons (de_var (pv 0)) da_nil))) (dg_tup rfl (dgs_cons (dg_name (pg_name (i := 2) sc__law_edges.nd rfl (by first | exact Or.inl rfl | exact Or.inr rfl))) (dgs_cons (dg_name (pg_name (i := 3) sc__law_edges.nd rfl (by first | exact Or.inl rfl | exact Or.inr rfl))) dgs_nil))) (dss_cons (ds_par (de_call0 (ok__law_held T) (fun z => nomatch z) (hr.mono (by decide)) tk T.g__law_held T.F__law_held.kp T.b__law_held rfl (da_cons (de_var (pv 0)) (da_cons (de_var (pv 2)) (da_cons (de_var (pv 3)) da_nil)))) (de_ix ix_seq sem_ix (do_e (de_call0 (ok__law_claim T) (fun z => nomatch z) (hr.mono (by decide)) tk T.g__law_claim T.F__law_claim.kp T.b__law_claim rfl (da_cons (de_var (pv 0)) (da_cons (de_var (pv 2)) (da_cons (de_var (pv 3)) da_nil))))) (do_e de_int) (fun _ _ => rfl)) (fun pa => ps_par (i := 4) (j := 5) rfl sc__law_edges.nd rfl rfl (by decide) rfl rfl pa (by rfl)))
  (dss_one (ds_for hp rfl (src_range1 (fun pa => pi_range1 (by rfl) T.n_range pa) (do_e (de_cb call_len2 sem_len T.n_len (by decide +kernel) (doa_cons (do_v (pv 4)) doa_nil)))) (dg_name (pg_name (i := 6) sc__law_edges.nd rfl (by first | exact Or.inl rfl | exact Or.inr rfl))) (dss_one (ds_if (dt_cmp op_gt sem_gt (do_e (de_ix ix_seq sem_ix (do_v (pv 4)) (do_v (pv 6)) (fun _ _ => rfl))) (do_e de_int) (nomark _)) (dss_one (ds_putN (hu100 hr) (pv 1) (do_e (de_tup (da_cons (de_var (pv 6)) (da_cons (de_var (pv 5)) da_nil)))) (de_bin op_add4 sem_add (do_e (de_get2N (hu100 hr) (pv 1) (do_e (de_tup (da_cons (de_var (pv 6)) (da_cons (de_var (pv 5)) da_nil)))) (de_lst da_nil) ⟨by rfl, by rfl, by rfl, by rfl⟩)) (do_e (de_lst (da_cons (de_tup (da_cons (de_var (pv 2)) (da_cons (de_var (pv 3)) da_nil))) da_nil)))))) dss_nil))))))
  (dss_one (ds_ret (de_mv (pv 1))))))
theorem ok__law_needs (T : Txt K mg) : FnG false P w K mg base 4 T.a__law_needs T.d__law_needs ["pool"] p__law_needs := by
  refine fn_mk (k := 3) T.F__law_needs sc__law_needs ?_
  rintro X cdv A outer s H E hcd rfl hgd hr tk hp
  exact (dss_cons (ds_set (de_lc (own := [(("kind" : PySem.Str), 2)]) (ws := [2]) (src_x (de_ix ix_seq sem_ix (do_v (pv 0)) (do_e de_int) (fun _ _ => rfl))) (by decide) (fun _ _ _ _ _ => (dg_name (pg_name (i := 2) sc__law_needs.nd rfl (by first | exact Or.inl rfl | exact Or.inr rfl)))) (fun _ _ _ _ _ => (de_call0 (ok__law_held T) (fun z => nomatch z) (hr.mono (by decide)) takes0 T.g__law_held T.F__law_held.kp T.b__law_held rfl (da_cons (de_var (pv 0)) (da_cons (de_ix ix_seq sem_ix (do_v (pv 2)) (do_e de_int) (fun _ _ => rfl)) (da_cons (de_cb call_len2 sem_len T.n_len (by decide +kernel) (doa_cons (do_e (de_call0 (ok__law_line T) (fun z => nomatch z) (hr.mono (by decide)) takes0 T.g__law_line T.F__law_line.kp T.b__law_line rfl (da_cons (de_var (pv 0)) (da_cons (de_ix ix_seq sem_ix (do_v (pv 2)) (do_e de_int) (fun _ _ => rfl)) da_nil)))) doa_nil)) da_nil))))) (fun pi pg pe => pe_lc rfl sc__law_needs.nd pi (blkOk_by (N := ["pool", "needs", "kind", "need", "at"]) (sc := defScope s__law_needs) (by decide +kernel)) pg (fun _ _ _ _ _ => pts_nil) pe)) (fun p => ps_set (i := 1) sc__law_needs.nd rfl (by first | exact Or.inl rfl | exact Or.inr rfl) p))
  (dss_one (ds_ret (de_ct call_tuple_of sem_tuple T.n_tuple (by decide +kernel) (doa_cons (do_e (de_lc (own := [(("at" : PySem.Str), 4)]) (ws := [4]) (src_range1 (fun pa => pi_range1 (by rfl) T.n_range pa) (do_e (de_cb call_len2 sem_len T.n_len (by decide +kernel) (doa_cons (do_e (de_ix ix_seq sem_ix (do_v (pv 0)) (do_e de_int) (fun _ _ => rfl))) doa_nil)))) (by decide) (fun _ _ _ _ _ => (dg_name (pg_name (i := 4) sc__law_needs.nd rfl (by first | exact Or.inl rfl | exact Or.inr rfl)))) (fun _ _ _ _ _ => (de_cb (call_max3 rfl) sem_max T.n_max (by decide +kernel) (doa_cons (do_e (de_lc (own := [(("need" : PySem.Str), 3)]) (ws := [3]) (src_x (de_var (pv 1))) (by decide) (fun _ _ _ _ _ => (dg_name (pg_name (i := 3) sc__law_needs.nd rfl (by first | exact Or.inl rfl | exact Or.inr rfl)))) (fun _ _ _ _ _ => (de_ix ix_seq sem_ix (do_v (pv 3)) (do_v (pv 4)) (fun _ _ => rfl))) (fun pi pg pe => pe_lc rfl sc__law_needs.nd pi (blkOk_by (by rfl)) pg (fun _ _ _ _ _ => pts_nil) pe))) doa_nil))) (fun pi pg pe => pe_lc rfl sc__law_needs.nd pi (blkOk_by (N := ["pool", "needs", "kind", "need", "at"]) (sc := defScope s__law_needs) (by decide +kernel)) pg (fun _ _ _ _ _ => pts_nil) pe))) doa_nil)))))
theorem ok_whole_line (T : Txt K mg) : FnG false P w K mg base 5 T.a_whole_line T.d_whole_line ["pool", "kind"] p_whole_line := by
  refine fn_mk (k := 4) T.F_whole_line sc_whole_line ?_
  rintro X cdv A outer s H E hcd rfl hgd hr tk hp
  exact (dss_cons (ds_set (de_lst da_nil) (fun p => ps_set (i := 2) sc_whole_line.nd rfl (by first | exact Or.inl rfl | exact Or.inr rfl) p))
  (dss_cons (ds_for hp rfl (src_x (de_call0 (ok_asked_from T) (fun z => nomatch z) (hr.mono (by decide)) tk T.g_asked_from T.F_asked_from.kp T.b_asked_from rfl (da_cons (de_var (pv 0)) (da_cons (de_call0 (ok_kind_of T) (fun z => nomatch z) (hr.mono (by decide)) tk T.g_kind_of T.F_kind_of.kp T.b_kind_of rfl (da_cons (de_var (pv 0)) (da_cons (de_var (pv 1)) da_nil))) da_nil)))) (dg_name (pg_name (i := 3) sc_whole_line.nd rfl (by first | exact Or.inl rfl | exact Or.inr rfl))) (dss_one (ds_drop (de_meth (pv 2) semM_extend (doa_cons (do_e (de_lc (own := [(("room" : PySem.Str), 4), (("units" : PySem.Str), 5)]) (ws := [4, 5]) (src_x (de_ix ix_seq sem_ix (do_v (pv 3)) (do_e de_int) (fun _ _ => rfl))) (by decide) (fun _ _ _ _ _ => (dg_tup rfl (dgs_cons (dg_name (pg_name (i := 4) sc_whole_line.nd rfl (by first | exact Or.inl rfl | exact Or.inr rfl))) (dgs_cons (dg_name (pg_name (i := 5) sc_whole_line.nd rfl (by first | exact Or.inl rfl | exact Or.inr rfl))) dgs_nil)))) (fun _ _ _ _ _ => (de_tup (da_cons (de_call0 (ok_room_index T) (fun z => nomatch z) (hr.mono (by decide)) takes0 T.g_room_index T.F_room_index.kp T.b_room_index rfl (da_cons (de_var (pv 0)) (da_cons (de_var (pv 4)) da_nil))) (da_cons (de_var (pv 5)) da_nil)))) (fun pi pg pe => pe_lc rfl sc_whole_line.nd pi (blkOk_by (N := ["pool", "kind", "found", "one", "room", "units"]) (sc := defScope s_whole_line) (by decide +kernel)) pg (fun _ _ _ _ _ => pts_nil) pe))) doa_nil) (fun pa pb => pe_bm PySem.F.plainAttrs_list PySem.F.slot_list_extend PySem.F.type_list_extend mt_extend pa pb)))))
  (dss_one (ds_ret (de_ct call_tuple_of sem_tuple T.n_tuple (by decide +kernel) (doa_cons (do_v (pv 2)) doa_nil))))))
theorem ok_positions (T : Txt K mg) : FnG false P w K mg base 6 T.a_positions T.d_positions ["pool"] p_positions := by
  refine fn_mk (k := 5) T.F_positions sc_positions ?_
  rintro X cdv A outer s H E hcd rfl hgd hr tk hp
  exact (dss_cons (ds_set (de_lst da_nil) (fun p => ps_set (i := 1) sc_positions.nd rfl (by first | exact Or.inl rfl | exact Or.inr rfl) p))
  (dss_cons (ds_for hp rfl (src_x (de_call0 (ok_kind_names T) (fun z => nomatch z) (hr.mono (by decide)) tk T.g_kind_names T.F_kind_names.kp T.b_kind_names rfl (da_cons (de_var (pv 0)) da_nil))) (dg_name (pg_name (i := 2) sc_positions.nd rfl (by first | exact Or.inl rfl | exact Or.inr rfl))) (dss_one (ds_drop (de_meth (pv 1) semM_extend (doa_cons (do_e (de_lc (own := [(("q" : PySem.Str), 3)]) (ws := [3]) (src_range1 (fun pa => pi_range1 (by rfl) T.n_range pa) (do_e (de_cb call_len2 sem_len T.n_len (by decide +kernel) (doa_cons (do_e (de_call0 (ok_whole_line T) (fun z => nomatch z) (hr.mono (by decide)) tk T.g_whole_line T.F_whole_line.kp T.b_whole_line rfl (da_cons (de_var (pv 0)) (da_cons (de_var (pv 2)) da_nil)))) doa_nil)))) (by decide) (fun _ _ _ _ _ => (dg_name (pg_name (i := 3) sc_positions.nd rfl (by first | exact Or.inl rfl | exact Or.inr rfl)))) (fun _ _ _ _ _ => (de_tup (da_cons (de_var (pv 2)) (da_cons (de_var (pv 3)) da_nil)))) (fun pi pg pe => pe_lc rfl sc_positions.nd pi (blkOk_by (N := ["pool", "found", "name", "q"]) (sc := defScope s_positions) (by decide +kernel)) pg (fun _ _ _ _ _ => pts_nil) pe))) doa_nil) (fun pa pb => pe_bm PySem.F.plainAttrs_list PySem.F.slot_list_extend PySem.F.type_list_extend mt_extend pa pb)))))
  (dss_one (ds_ret (de_ct call_tuple_of sem_tuple T.n_tuple (by decide +kernel) (doa_cons (do_v (pv 1)) doa_nil))))))
theorem ok_held_at (T : Txt K mg) : FnG false P w K mg base 6 T.a_held_at T.d_held_at ["pool", "kind", "q"] p_held_at := by
  refine fn_mk (k := 5) T.F_held_at sc_held_at ?_
  rintro X cdv A outer s H E hcd rfl hgd hr tk hp
  exact (dss_cons (ds_set (de_call0 (ok_whole_line T) (fun z => nomatch z) (hr.mono (by decide)) tk T.g_whole_line T.F_whole_line.kp T.b_whole_line rfl (da_cons (de_var (pv 0)) (da_cons (de_var (pv 1)) da_nil))) (fun p => ps_set (i := 3) sc_held_at.nd rfl (by first | exact Or.inl rfl | exact Or.inr rfl) p))
  (dss_cons (ds_if (dt_not (dt_chain op_le2 op_le2 sem_le2 sem_le2 (do_e de_int) (do_v (pv 2)) (do_e (de_cb call_len2 sem_len T.n_len (by decide +kernel) (doa_cons (do_v (pv 3)) doa_nil))))) (dss_one ds_never) dss_nil)
  (dss_one (ds_ret (de_call0 (ok_claimed T) (fun z => nomatch z) (hr.mono (by decide)) tk T.g_claimed T.F_claimed.kp T.b_claimed rfl (da_cons (de_var (pv 0)) (da_cons (de_cut (do_v (pv 3)) dp_no (dp_some (do_v (pv 2)))) da_nil)))))))
theorem ok_claim_at (T : Txt K mg) : FnG false P w K mg base 6 T.a_claim_at T.d_claim_at ["pool", "kind", "q"] p_claim_at := by
  refine fn_mk (k := 5) T.F_claim_at sc_claim_at ?_
  rintro X cdv A outer s H E hcd rfl hgd hr tk hp
  exact (dss_cons (ds_set (de_call0 (ok_whole_line T) (fun z => nomatch z) (hr.mono (by decide)) tk T.g_whole_line T.F_whole_line.kp T.b_whole_line rfl (da_cons (de_var (pv 0)) (da_cons (de_var (pv 1)) da_nil))) (fun p => ps_set (i := 3) sc_claim_at.nd rfl (by first | exact Or.inl rfl | exact Or.inr rfl) p))
  (dss_cons (ds_if (dt_not (dt_chain op_le2 (op_lt3 hr.units0) sem_le2 sem_lt (do_e de_int) (do_v (pv 2)) (do_e (de_cb call_len2 sem_len T.n_len (by decide +kernel) (doa_cons (do_v (pv 3)) doa_nil))))) (dss_one ds_never) dss_nil)
  (dss_one (ds_ret (de_ix ix_seq sem_ix (do_v (pv 3)) (do_v (pv 2)) (fun _ _ => rfl))))))
theorem ok_need_of (T : Txt K mg) : FnG false P w K mg base 6 T.a_need_of T.d_need_of ["pool", "kind"] p_need_of := by
  refine fn_mk (k := 5) T.F_need_of sc_need_of ?_
  rintro X cdv A outer s H E hcd rfl hgd hr tk hp
  exact (dss_one (ds_ret (de_call0 (ok_claimed T) (fun z => nomatch z) (hr.mono (by decide)) tk T.g_claimed T.F_claimed.kp T.b_claimed rfl (da_cons (de_var (pv 0)) (da_cons (de_call0 (ok_whole_line T) (fun z => nomatch z) (hr.mono (by decide)) tk T.g_whole_line T.F_whole_line.kp T.b_whole_line rfl (da_cons (de_var (pv 0)) (da_cons (de_var (pv 1)) da_nil))) da_nil)))))
theorem ok_edge_positions (T : Txt K mg) : FnG false P w K mg base 7 T.a_edge_positions T.d_edge_positions ["pool", "x", "y"] p_edge_positions := by
  refine fn_mk (k := 6) T.F_edge_positions sc_edge_positions ?_
  rintro X cdv A outer s H E hcd rfl hgd hr tk hp
  exact (dss_one (ds_ret (de_ct call_tuple_of sem_tuple T.n_tuple (by decide +kernel) (doa_cons (do_e (de_lcI (own := [(("kind" : PySem.Str), 3), (("q" : PySem.Str), 4)]) (ws := [3, 4]) (src_x (de_call0 (ok_positions T) (fun z => nomatch z) (hr.mono (by decide)) tk T.g_positions T.F_positions.kp T.b_positions rfl (da_cons (de_var (pv 0)) da_nil))) (by decide) (fun _ _ _ _ _ => (dg_tup rfl (dgs_cons (dg_name (pg_name (i := 3) sc_edge_positions.nd rfl (by first | exact Or.inl rfl | exact Or.inr rfl))) (dgs_cons (dg_name (pg_name (i := 4) sc_edge_positions.nd rfl (by first | exact Or.inl rfl | exact Or.inr rfl))) dgs_nil)))) (fun _ _ _ _ _ => (DW.t (dw_and (dt_cmp op_gt sem_gt (do_e (de_ix ix_seq sem_ix (do_e (de_call0 (ok_held_at T) (fun z => nomatch z) (hr.mono (by decide)) takes0 T.g_held_at T.F_held_at.kp T.b_held_at rfl (da_cons (de_var (pv 0)) (da_cons (de_var (pv 3)) (da_cons (de_var (pv 4)) da_nil))))) (do_v (pv 1)) (fun _ _ => rfl))) (do_e de_int) (nomark _)) (dw_and1 (dt_cmp (op_eqD hr.units) sem_eq (do_e (de_ix ix_seq sem_ix (do_e (de_call0 (ok_claim_at T) (fun z => nomatch z) (hr.mono (by decide)) takes0 T.g_claim_at T.F_claim_at.kp T.b_claim_at rfl (da_cons (de_var (pv 0)) (da_cons (de_var (pv 3)) (da_cons (de_var (pv 4)) da_nil))))) (do_e de_int) (fun _ _ => rfl))) (do_v (pv 2)) (nomark _)))))) (fun _ _ _ _ _ => (de_tup (da_cons (de_var (pv 3)) (da_cons (de_var (pv 4)) da_nil)))) (fun pi pg pt pe => pe_lc rfl sc_edge_positions.nd pi (blkOk_by (N := ["pool", "x", "y", "kind", "q"]) (sc := defScope s_edge_positions) (by decide +kernel)) pg pt pe))) doa_nil))))
theorem ok_greatest_needs (T : Txt K mg) : FnG false P w K mg base 7 T.a_greatest_needs T.d_greatest_needs ["pool"] p_greatest_needs := by
  refine fn_mk (k := 6) T.F_greatest_needs sc_greatest_needs ?_
  rintro X cdv A outer s H E hcd rfl hgd hr tk hp
  exact (dss_cons (ds_set (de_lc (own := [(("name" : PySem.Str), 2), (("line" : PySem.Str), 3), (("ask" : PySem.Str), 4)]) (ws := [2, 3, 4]) (src_x (de_ix ix_seq sem_ix (do_v (pv 0)) (do_e de_int) (fun _ _ => rfl))) (by decide) (fun _ _ _ _ _ => (dg_tup rfl (dgs_cons (dg_name (pg_name (i := 2) sc_greatest_needs.nd rfl (by first | exact Or.inl rfl | exact Or.inr rfl))) (dgs_cons (dg_name (pg_name (i := 3) sc_greatest_needs.nd rfl (by first | exact Or.inl rfl | exact Or.inr rfl))) (dgs_cons (dg_name (pg_name (i := 4) sc_greatest_needs.nd rfl (by first | exact Or.inl rfl | exact Or.inr rfl))) dgs_nil))))) (fun _ _ _ _ _ => (de_call0 (ok_need_of T) (fun z => nomatch z) (hr.mono (by decide)) takes0 T.g_need_of T.F_need_of.kp T.b_need_of rfl (da_cons (de_var (pv 0)) (da_cons (de_var (pv 2)) da_nil)))) (fun pi pg pe => pe_lc rfl sc_greatest_needs.nd pi (blkOk_by (N := ["pool", "needs", "name", "line", "ask", "need", "room"]) (sc := defScope s_greatest_needs) (by decide +kernel)) pg (fun _ _ _ _ _ => pts_nil) pe)) (fun p => ps_set (i := 1) sc_greatest_needs.nd rfl (by first | exact Or.inl rfl | exact Or.inr rfl) p))
  (dss_one (ds_ret (de_ct call_tuple_of sem_tuple T.n_tuple (by decide +kernel) (doa_cons (do_e (de_lc (own := [(("room" : PySem.Str), 6)]) (ws := [6]) (src_range1 (fun pa => pi_range1 (by rfl) T.n_range pa) (do_e (de_cb call_len2 sem_len T.n_len (by decide +kernel) (doa_cons (do_e (de_ix ix_seq sem_ix (do_v (pv 0)) (do_e de_int) (fun _ _ => rfl))) doa_nil)))) (by decide) (fun _ _ _ _ _ => (dg_name (pg_name (i := 6) sc_greatest_needs.nd rfl (by first | exact Or.inl rfl | exact Or.inr rfl)))) (fun _ _ _ _ _ => (de_cb (call_max3 rfl) sem_max T.n_max (by decide +kernel) (doa_cons (do_e (de_lc (own := [(("need" : PySem.Str), 5)]) (ws := [5]) (src_x (de_var (pv 1))) (by decide) (fun _ _ _ _ _ => (dg_name (pg_name (i := 5) sc_greatest_needs.nd rfl (by first | exact Or.inl rfl | exact Or.inr rfl)))) (fun _ _ _ _ _ => (de_ix ix_seq sem_ix (do_v (pv 5)) (do_v (pv 6)) (fun _ _ => rfl))) (fun pi pg pe => pe_lc rfl sc_greatest_needs.nd pi (blkOk_by (by rfl)) pg (fun _ _ _ _ _ => pts_nil) pe))) doa_nil))) (fun pi pg pe => pe_lc rfl sc_greatest_needs.nd pi (blkOk_by (N := ["pool", "needs", "name", "line", "ask", "need", "room"]) (sc := defScope s_greatest_needs) (by decide +kernel)) pg (fun _ _ _ _ _ => pts_nil) pe))) doa_nil)))))
theorem ok_web_of (T : Txt K mg) : FnG false P w K mg base 8 T.a_web_of T.d_web_of ["pool"] p_web_of := by
  refine fn_mk (k := 7) T.F_web_of sc_web_of ?_
  rintro X cdv A outer s H E hcd rfl hgd hr tk hp
  exact (dss_cons (ds_set (de_rng (do_e (de_cb call_len2 sem_len T.n_len (by decide +kernel) (doa_cons (do_e (de_ix ix_seq sem_ix (do_v (pv 0)) (do_e de_int) (fun _ _ => rfl))) doa_nil))) (fun pa => pe_callTy RGV.cr_range1 (by rfl) T.n_range (by decide +kernel) pa)) (fun p => ps_set (i := 1) sc_web_of.nd rfl (by first | exact Or.inl rfl | exact Or.inr rfl) p))
  (dss_one (ds_ret (de_ct call_tuple_of sem_tuple T.n_tuple (by decide +kernel) (doa_cons (do_e (de_lc2 (own := [(("x" : PySem.Str), 2), (("y" : PySem.Str), 3)]) (vs1 := [3]) (ws := [2]) (ws1 := [3]) (src_rngV (pv 1)) (by decide) (by decide) (by decide) (fun _ _ _ _ _ => (dg_name (pg_name (i := 2) sc_web_of.nd rfl (by first | exact Or.inl rfl | exact Or.inr rfl)))) .nil (fun _ _ _ _ _ => (src_rngV (pv 1))) (fun _ _ _ _ _ => (dg_name (pg_name (i := 3) sc_web_of.nd rfl (by first | exact Or.inl rfl | exact Or.inr rfl)))) (.one (fun _ _ _ _ _ => (dt_cmp (op_neD hr.units) sem_ne (do_e (de_call0 (ok_edge_positions T) (fun z => nomatch z) (hr.mono (by decide)) takes0 T.g_edge_positions T.F_edge_positions.kp T.b_edge_positions rfl (da_cons (de_var (pv 0)) (da_cons (de_var (pv 2)) (da_cons (de_var (pv 3)) da_nil))))) (do_e (de_tup da_nil)) (nomark _)))) (fun _ _ _ _ _ => (de_tup (da_cons (de_var (pv 2)) (da_cons (de_var (pv 3)) da_nil)))) (fun pi pg pt pi1 pg1 pt1 pe => pe_lc2 rfl sc_web_of.nd pi (blkOk_by (N := ["pool", "rooms", "x", "y"]) (sc := defScope s_web_of) (by decide +kernel)) (by decide) pg pt pi1 pg1 pt1 pe))) doa_nil)))))
theorem run_law (T : Txt K mg) (hb : ∀ (s : Shared) (u : Value), BindsTo s T.d_law ⟨[u], []⟩ [("script", u)]) (vc : LawVC 12 1 m_law) : RunOk P w K mg T.a_law := by
  refine law_mk (k := 8) (p := 1) (rest := (defBody s_law).tail) T.F_law sc_law ⟨rfl, by decide, by decide⟩ hb (by decide) (fun base tbs => ?_) vc
  rintro X cdv s H hcd rfl hgd hr tk hp
  refine ⟨fun ps => pss_cons (ps_set (i := 1) sc_law.nd rfl (by first | exact Or.inl rfl | exact Or.inr rfl) (pe_call (ok__law_bag T) (hr.mono (by decide)) rfl T.g__law_bag T.F__law_bag.kp T.b__law_bag .nil pass0 (pa_cons (pv 0) pa_nil))) ps, ?_⟩
  exact (dss_cons (ds_for hp rfl (src_range1 (fun pa => pi_range1 (by rfl) T.n_range pa) (do_e de_int)) (dg_name (pg_name (i := 2) sc_law.nd rfl (by first | exact Or.inl rfl | exact Or.inr rfl))) (dss_cons (ds_set (de_call0 (ok__law_pool T) (fun z => nomatch z) (hr.mono (by decide)) tk T.g__law_pool T.F__law_pool.kp T.b__law_pool rfl (da_cons (de_var (pv 1)) (da_cons (de_bin op_add4 sem_add (do_e de_int) (do_e (de_call0 (ok__law_take T) (fun z => nomatch z) (hr.mono (by decide)) tk T.g__law_take T.F__law_take.kp T.b__law_take rfl (da_cons (de_var (pv 1)) (da_cons de_int da_nil))))) (da_cons (de_bin op_add4 sem_add (do_e de_int) (do_e (de_call0 (ok__law_take T) (fun z => nomatch z) (hr.mono (by decide)) tk T.g__law_take T.F__law_take.kp T.b__law_take rfl (da_cons (de_var (pv 1)) (da_cons de_int da_nil))))) (da_cons de_int (da_cons de_int da_nil)))))) (fun p => ps_set (i := 3) sc_law.nd rfl (by first | exact Or.inl rfl | exact Or.inr rfl) p))
  (dss_cons (ds_mul3 (dav_cons (de_call0 (ok__law_edges T) (fun z => nomatch z) (hr.mono (by decide)) tk T.g__law_edges T.F__law_edges.kp T.b__law_edges rfl (da_cons (de_var (pv 3)) da_nil)) (dav_cons (de_cb (call_reprD (hgd rfl) (hu100 hr)) sem_repr T.n_repr (by decide +kernel) (doa_cons (do_v (pv 3)) doa_nil)) (dav_cons (de_cb call_len2 sem_len T.n_len (by decide +kernel) (doa_cons (do_e (de_ix ix_seq sem_ix (do_v (pv 3)) (do_e de_int) (fun _ _ => rfl))) doa_nil)) dav_nil))) (fun pa => ps_par3 (i := 4) (j := 5) (l := 6) rfl sc_law.nd rfl rfl rfl (by decide) (by decide) (by decide) rfl rfl rfl pa (by rfl)))
  (dss_cons (ds_set (de_tup (da_cons (de_ct call_tuple_of sem_tuple T.n_tuple (by decide +kernel) (doa_cons (do_e (de_lc (own := [(("room" : PySem.Str), 8)]) (ws := [8]) (src_x (de_ix ix_seq sem_ix (do_v (pv 3)) (do_e de_int) (fun _ _ => rfl))) (by decide) (fun _ _ _ _ _ => (dg_name (pg_name (i := 8) sc_law.nd rfl (by first | exact Or.inl rfl | exact Or.inr rfl)))) (fun _ _ _ _ _ => (de_tup (da_cons (de_ix ix_seq sem_ix (do_v (pv 8)) (do_e de_int) (fun _ _ => rfl)) (da_cons de_int (da_cons (de_ix ix_seq sem_ix (do_v (pv 8)) (do_e de_int) (fun _ _ => rfl)) da_nil))))) (fun pi pg pe => pe_lc rfl sc_law.nd pi (blkOk_by (N := ["script", "bag", "turn", "pool", "edges", "kept", "many", "small", "room", "one", "x", "y"]) (sc := defScope s_law) (by decide +kernel)) pg (fun _ _ _ _ _ => pts_nil) pe))) doa_nil)) (da_cons (de_ix ix_seq sem_ix (do_v (pv 3)) (do_e de_int) (fun _ _ => rfl)) da_nil))) (fun p => ps_set (i := 7) sc_law.nd rfl (by first | exact Or.inl rfl | exact Or.inr rfl) p))
  (dss_cons (ds_for hp rfl (src_x (de_tup (da_cons (de_var (pv 3)) (da_cons (de_var (pv 7)) (da_cons (de_var (pv 3)) da_nil))))) (dg_name (pg_name (i := 9) sc_law.nd rfl (by first | exact Or.inl rfl | exact Or.inr rfl))) (dss_one (ds_if (dt_not (dt_o (do_e (de_call0 (ok__law_alike T) (fun _ => hgd rfl) (hr.mono (by decide)) tk T.g__law_alike T.F__law_alike.kp T.b__law_alike rfl (da_cons (de_lst (da_cons (de_call0 (ok_web_of T) (fun z => nomatch z) (hr.mono (by decide)) tk T.g_web_of T.F_web_of.kp T.b_web_of rfl (da_cons (de_var (pv 9)) da_nil)) (da_cons (de_call0 (ok_greatest_needs T) (fun z => nomatch z) (hr.mono (by decide)) tk T.g_greatest_needs T.F_greatest_needs.kp T.b_greatest_needs rfl (da_cons (de_var (pv 9)) da_nil)) da_nil))) (da_cons (de_lst (da_cons (de_ct call_tuple_of sem_tuple T.n_tuple (by decide +kernel) (doa_cons (do_e (de_sortN rfl (hu100 hr) (pv 4) (fun hc po => pe_callB hc (by rfl) T.n_sorted (by decide +kernel) (pa_cons po pa_nil)))) doa_nil)) (da_cons (de_call0 (ok__law_needs T) (fun z => nomatch z) (hr.mono (by decide)) tk T.g__law_needs T.F__law_needs.kp T.b__law_needs rfl (da_cons (de_var (pv 3)) da_nil)) da_nil))) da_nil)))))) (dss_one (ds_ret de_bl)) dss_nil)))
  (dss_cons (ds_for hp rfl (src_range1 (fun pa => pi_range1 (by rfl) T.n_range pa) (do_v (pv 6))) (dg_name (pg_name (i := 10) sc_law.nd rfl (by first | exact Or.inl rfl | exact Or.inr rfl))) (dss_one (ds_for hp rfl (src_range1 (fun pa => pi_range1 (by rfl) T.n_range pa) (do_v (pv 6))) (dg_name (pg_name (i := 11) sc_law.nd rfl (by first | exact Or.inl rfl | exact Or.inr rfl))) (dss_one (ds_if (dt_not (dt_o (do_e (de_call0 (ok__law_alike T) (fun _ => hgd rfl) (hr.mono (by decide)) tk T.g__law_alike T.F__law_alike.kp T.b__law_alike rfl (da_cons (de_call0 (ok_edge_positions T) (fun z => nomatch z) (hr.mono (by decide)) tk T.g_edge_positions T.F_edge_positions.kp T.b_edge_positions rfl (da_cons (de_var (pv 3)) (da_cons (de_var (pv 10)) (da_cons (de_var (pv 11)) da_nil)))) (da_cons (de_ct call_tuple_of sem_tuple T.n_tuple (by decide +kernel) (doa_cons (do_e (de_get2N (hu100 hr) (pv 4) (do_e (de_tup (da_cons (de_var (pv 10)) (da_cons (de_var (pv 11)) da_nil)))) (de_lst da_nil) ⟨by rfl, by rfl, by rfl, by rfl⟩)) doa_nil)) da_nil)))))) (dss_one (ds_ret de_bl)) dss_nil)))))
  (dss_one (ds_if (dt_cmp (op_neD hr.units) sem_ne (do_e (de_cb (call_reprD (hgd rfl) (hu100 hr)) sem_repr T.n_repr (by decide +kernel) (doa_cons (do_v (pv 3)) doa_nil))) (do_v (pv 5)) (nomark _)) (dss_one (ds_ret de_bl)) dss_nil))))))))
  (dss_one (ds_ret de_bl)))
end
theorem all_mk {P : Program} {w : World} {K : PySem.W.Frag} {h : Heap} {mg : Str → Option Value} {fa f0 f1 f2 f3 f4 f5 f6 f7 f8 f9 f10 f11 f12 f13 f14 f15 f16 f17 f18 f19 f20 f21 f22 f23 f24 f25 f26 f27 f28 f29 f30 f31 f32 : Addr} (vc : LawVC 12 1 m_law) (X : K.In h) (G : h.Ns mainGlobals mg) (hfa : mg "law" = some (.ref fa))
    {od0 an0 od1 an1 od2 an2 od3 an3 od4 an4 od5 an5 od6 an6 od7 an7 od8 an8 od9 an9 od10 an10 od11 an11 od12 an12 od13 an13 od14 an14 od15 an15 od16 an16 od17 an17 od18 an18 od19 an19 od20 an20 od21 an21 od22 an22 od23 an23 od24 an24 od25 an25 od26 an26 od27 an27 od28 an28 od29 an29 od30 an30 od31 an31 od32 an32 : Option Addr} {sl0 sl1 sl2 sl3 sl4 sl5 sl6 sl7 sl8 sl9 sl10 sl11 sl12 sl13 sl14 sl15 sl16 sl17 sl18 sl19 sl20 sl21 sl22 sl23 sl24 sl25 sl26 sl27 sl28 sl29 sl30 sl31 sl32 : Array (Option Value)} {oc0 kV0 dc0 pm0 cd0 ct0 oc1 kV1 dc1 pm1 cd1 ct1 oc2 kV2 dc2 pm2 cd2 ct2 oc3 kV3 dc3 pm3 cd3 ct3 oc4 kV4 dc4 pm4 cd4 ct4 oc5 kV5 dc5 pm5 cd5 ct5 oc6 kV6 dc6 pm6 cd6 ct6 oc7 kV7 dc7 pm7 cd7 ct7 oc8 kV8 dc8 pm8 cd8 ct8 oc9 kV9 dc9 pm9 cd9 ct9 oc10 kV10 dc10 pm10 cd10 ct10 oc11 kV11 dc11 pm11 cd11 ct11 oc12 kV12 dc12 pm12 cd12 ct12 oc13 kV13 dc13 pm13 cd13 ct13 oc14 kV14 dc14 pm14 cd14 ct14 oc15 kV15 dc15 pm15 cd15 ct15 oc16 kV16 dc16 pm16 cd16 ct16 oc17 kV17 dc17 pm17 cd17 ct17 oc18 kV18 dc18 pm18 cd18 ct18 oc19 kV19 dc19 pm19 cd19 ct19 oc20 kV20 dc20 pm20 cd20 ct20 oc21 kV21 dc21 pm21 cd21 ct21 oc22 kV22 dc22 pm22 cd22 ct22 oc23 kV23 dc23 pm23 cd23 ct23 oc24 kV24 dc24 pm24 cd24 ct24 oc25 kV25 dc25 pm25 cd25 ct25 oc26 kV26 dc26 pm26 cd26 ct26 oc27 kV27 dc27 pm27 cd27 ct27 oc28 kV28 dc28 pm28 cd28 ct28 oc29 kV29 dc29 pm29 cd29 ct29 oc30 kV30 dc30 pm30 cd30 ct30 oc31 kV31 dc31 pm31 cd31 ct31 oc32 kV32 dc32 pm32 cd32 ct32 : Value}
    (a0 : PySem.W.nsIn K mainGlobals "room_names" = some (some (.ref f0))) (l0 : K.lookup f0 = some ⟨oc0, od0, .func (PySem.W.fnOf "room_names" "room_names" (defArgs s_room_names) (defBody s_room_names) (defScope s_room_names) .none kV0 dc0 pm0 an0 cd0 ct0), sl0⟩) (c0 : PySem.W.codeIn K cd0 "room_names" = true) (k0 : PySem.W.keepIn K (.ref f0) = true)
    (a1 : PySem.W.nsIn K mainGlobals "kind_names" = some (some (.ref f1))) (l1 : K.lookup f1 = some ⟨oc1, od1, .func (PySem.W.fnOf "kind_names" "kind_names" (defArgs s_kind_names) (defBody s_kind_names) (defScope s_kind_names) .none kV1 dc1 pm1 an1 cd1 ct1), sl1⟩) (c1 : PySem.W.codeIn K cd1 "kind_names" = true) (k1 : PySem.W.keepIn K (.ref f1) = true)
    (a2 : PySem.W.nsIn K mainGlobals "zeros" = some (some (.ref f2))) (l2 : K.lookup f2 = some ⟨oc2, od2, .func (PySem.W.fnOf "zeros" "zeros" (defArgs s_zeros) (defBody s_zeros) (defScope s_zeros) .none kV2 dc2 pm2 an2 cd2 ct2), sl2⟩) (c2 : PySem.W.codeIn K cd2 "zeros" = true) (k2 : PySem.W.keepIn K (.ref f2) = true)
    (a3 : PySem.W.nsIn K mainGlobals "added" = some (some (.ref f3))) (l3 : K.lookup f3 = some ⟨oc3, od3, .func (PySem.W.fnOf "added" "added" (defArgs s_added) (defBody s_added) (defScope s_added) .none kV3 dc3 pm3 an3 cd3 ct3), sl3⟩) (c3 : PySem.W.codeIn K cd3 "added" = true) (k3 : PySem.W.keepIn K (.ref f3) = true)
    (a4 : PySem.W.nsIn K mainGlobals "_law_kind" = some (some (.ref f4))) (l4 : K.lookup f4 = some ⟨oc4, od4, .func (PySem.W.fnOf "_law_kind" "_law_kind" (defArgs s__law_kind) (defBody s__law_kind) (defScope s__law_kind) .none kV4 dc4 pm4 an4 cd4 ct4), sl4⟩) (c4 : PySem.W.codeIn K cd4 "_law_kind" = true) (k4 : PySem.W.keepIn K (.ref f4) = true)
    (a5 : PySem.W.nsIn K mainGlobals "_law_bag" = some (some (.ref f5))) (l5 : K.lookup f5 = some ⟨oc5, od5, .func (PySem.W.fnOf "_law_bag" "_law_bag" (defArgs s__law_bag) (defBody s__law_bag) (defScope s__law_bag) .none kV5 dc5 pm5 an5 cd5 ct5), sl5⟩) (c5 : PySem.W.codeIn K cd5 "_law_bag" = true) (k5 : PySem.W.keepIn K (.ref f5) = true)
    (a6 : PySem.W.nsIn K mainGlobals "_law_take" = some (some (.ref f6))) (l6 : K.lookup f6 = some ⟨oc6, od6, .func (PySem.W.fnOf "_law_take" "_law_take" (defArgs s__law_take) (defBody s__law_take) (defScope s__law_take) .none kV6 dc6 pm6 an6 cd6 ct6), sl6⟩) (c6 : PySem.W.codeIn K cd6 "_law_take" = true) (k6 : PySem.W.keepIn K (.ref f6) = true)
    (a7 : PySem.W.nsIn K mainGlobals "_law_alike" = some (some (.ref f7))) (l7 : K.lookup f7 = some ⟨oc7, od7, .func (PySem.W.fnOf "_law_alike" "_law_alike" (defArgs s__law_alike) (defBody s__law_alike) (defScope s__law_alike) .none kV7 dc7 pm7 an7 cd7 ct7), sl7⟩) (c7 : PySem.W.codeIn K cd7 "_law_alike" = true) (k7 : PySem.W.keepIn K (.ref f7) = true)
    (a8 : PySem.W.nsIn K mainGlobals "room_index" = some (some (.ref f8))) (l8 : K.lookup f8 = some ⟨oc8, od8, .func (PySem.W.fnOf "room_index" "room_index" (defArgs s_room_index) (defBody s_room_index) (defScope s_room_index) .none kV8 dc8 pm8 an8 cd8 ct8), sl8⟩) (c8 : PySem.W.codeIn K cd8 "room_index" = true) (k8 : PySem.W.keepIn K (.ref f8) = true)
    (a9 : PySem.W.nsIn K mainGlobals "kind_index" = some (some (.ref f9))) (l9 : K.lookup f9 = some ⟨oc9, od9, .func (PySem.W.fnOf "kind_index" "kind_index" (defArgs s_kind_index) (defBody s_kind_index) (defScope s_kind_index) .none kV9 dc9 pm9 an9 cd9 ct9), sl9⟩) (c9 : PySem.W.codeIn K cd9 "kind_index" = true) (k9 : PySem.W.keepIn K (.ref f9) = true)
    (a10 : PySem.W.nsIn K mainGlobals "claimed" = some (some (.ref f10))) (l10 : K.lookup f10 = some ⟨oc10, od10, .func (PySem.W.fnOf "claimed" "claimed" (defArgs s_claimed) (defBody s_claimed) (defScope s_claimed) .none kV10 dc10 pm10 an10 cd10 ct10), sl10⟩) (c10 : PySem.W.codeIn K cd10 "claimed" = true) (k10 : PySem.W.keepIn K (.ref f10) = true)
    (a11 : PySem.W.nsIn K mainGlobals "_law_line" = some (some (.ref f11))) (l11 : K.lookup f11 = some ⟨oc11, od11, .func (PySem.W.fnOf "_law_line" "_law_line" (defArgs s__law_line) (defBody s__law_line) (defScope s__law_line) .none kV11 dc11 pm11 an11 cd11 ct11), sl11⟩) (c11 : PySem.W.codeIn K cd11 "_law_line" = true) (k11 : PySem.W.keepIn K (.ref f11) = true)
    (a12 : PySem.W.nsIn K mainGlobals "_law_mixed" = some (some (.ref f12))) (l12 : K.lookup f12 = some ⟨oc12, od12, .func (PySem.W.fnOf "_law_mixed" "_law_mixed" (defArgs s__law_mixed) (defBody s__law_mixed) (defScope s__law_mixed) .none kV12 dc12 pm12 an12 cd12 ct12), sl12⟩) (c12 : PySem.W.codeIn K cd12 "_law_mixed" = true) (k12 : PySem.W.keepIn K (.ref f12) = true)
    (a13 : PySem.W.nsIn K mainGlobals "_law_some" = some (some (.ref f13))) (l13 : K.lookup f13 = some ⟨oc13, od13, .func (PySem.W.fnOf "_law_some" "_law_some" (defArgs s__law_some) (defBody s__law_some) (defScope s__law_some) .none kV13 dc13 pm13 an13 cd13 ct13), sl13⟩) (c13 : PySem.W.codeIn K cd13 "_law_some" = true) (k13 : PySem.W.keepIn K (.ref f13) = true)
    (a14 : PySem.W.nsIn K mainGlobals "kind_of" = some (some (.ref f14))) (l14 : K.lookup f14 = some ⟨oc14, od14, .func (PySem.W.fnOf "kind_of" "kind_of" (defArgs s_kind_of) (defBody s_kind_of) (defScope s_kind_of) .none kV14 dc14 pm14 an14 cd14 ct14), sl14⟩) (c14 : PySem.W.codeIn K cd14 "kind_of" = true) (k14 : PySem.W.keepIn K (.ref f14) = true)
    (a15 : PySem.W.nsIn K mainGlobals "_law_positions" = some (some (.ref f15))) (l15 : K.lookup f15 = some ⟨oc15, od15, .func (PySem.W.fnOf "_law_positions" "_law_positions" (defArgs s__law_positions) (defBody s__law_positions) (defScope s__law_positions) .none kV15 dc15 pm15 an15 cd15 ct15), sl15⟩) (c15 : PySem.W.codeIn K cd15 "_law_positions" = true) (k15 : PySem.W.keepIn K (.ref f15) = true)
    (a16 : PySem.W.nsIn K mainGlobals "_law_held" = some (some (.ref f16))) (l16 : K.lookup f16 = some ⟨oc16, od16, .func (PySem.W.fnOf "_law_held" "_law_held" (defArgs s__law_held) (defBody s__law_held) (defScope s__law_held) .none kV16 dc16 pm16 an16 cd16 ct16), sl16⟩) (c16 : PySem.W.codeIn K cd16 "_law_held" = true) (k16 : PySem.W.keepIn K (.ref f16) = true)
    (a17 : PySem.W.nsIn K mainGlobals "_law_claim" = some (some (.ref f17))) (l17 : K.lookup f17 = some ⟨oc17, od17, .func (PySem.W.fnOf "_law_claim" "_law_claim" (defArgs s__law_claim) (defBody s__law_claim) (defScope s__law_claim) .none kV17 dc17 pm17 an17 cd17 ct17), sl17⟩) (c17 : PySem.W.codeIn K cd17 "_law_claim" = true) (k17 : PySem.W.keepIn K (.ref f17) = true)
    (a18 : PySem.W.nsIn K mainGlobals "_law_names" = some (some (.ref f18))) (l18 : K.lookup f18 = some ⟨oc18, od18, .func (PySem.W.fnOf "_law_names" "_law_names" (defArgs s__law_names) (defBody s__law_names) (defScope s__law_names) .none kV18 dc18 pm18 an18 cd18 ct18), sl18⟩) (c18 : PySem.W.codeIn K cd18 "_law_names" = true) (k18 : PySem.W.keepIn K (.ref f18) = true)
    (a19 : PySem.W.nsIn K mainGlobals "_law_drawn_line" = some (some (.ref f19))) (l19 : K.lookup f19 = some ⟨oc19, od19, .func (PySem.W.fnOf "_law_drawn_line" "_law_drawn_line" (defArgs s__law_drawn_line) (defBody s__law_drawn_line) (defScope s__law_drawn_line) .none kV19 dc19 pm19 an19 cd19 ct19), sl19⟩) (c19 : PySem.W.codeIn K cd19 "_law_drawn_line" = true) (k19 : PySem.W.keepIn K (.ref f19) = true)
    (a20 : PySem.W.nsIn K mainGlobals "asked_from" = some (some (.ref f20))) (l20 : K.lookup f20 = some ⟨oc20, od20, .func (PySem.W.fnOf "asked_from" "asked_from" (defArgs s_asked_from) (defBody s_asked_from) (defScope s_asked_from) .none kV20 dc20 pm20 an20 cd20 ct20), sl20⟩) (c20 : PySem.W.codeIn K cd20 "asked_from" = true) (k20 : PySem.W.keepIn K (.ref f20) = true)
    (a21 : PySem.W.nsIn K mainGlobals "_law_pool" = some (some (.ref f21))) (l21 : K.lookup f21 = some ⟨oc21, od21, .func (PySem.W.fnOf "_law_pool" "_law_pool" (defArgs s__law_pool) (defBody s__law_pool) (defScope s__law_pool) .none kV21 dc21 pm21 an21 cd21 ct21), sl21⟩) (c21 : PySem.W.codeIn K cd21 "_law_pool" = true) (k21 : PySem.W.keepIn K (.ref f21) = true)
    (a22 : PySem.W.nsIn K mainGlobals "_law_edges" = some (some (.ref f22))) (l22 : K.lookup f22 = some ⟨oc22, od22, .func (PySem.W.fnOf "_law_edges" "_law_edges" (defArgs s__law_edges) (defBody s__law_edges) (defScope s__law_edges) .none kV22 dc22 pm22 an22 cd22 ct22), sl22⟩) (c22 : PySem.W.codeIn K cd22 "_law_edges" = true) (k22 : PySem.W.keepIn K (.ref f22) = true)
    (a23 : PySem.W.nsIn K mainGlobals "_law_needs" = some (some (.ref f23))) (l23 : K.lookup f23 = some ⟨oc23, od23, .func (PySem.W.fnOf "_law_needs" "_law_needs" (defArgs s__law_needs) (defBody s__law_needs) (defScope s__law_needs) .none kV23 dc23 pm23 an23 cd23 ct23), sl23⟩) (c23 : PySem.W.codeIn K cd23 "_law_needs" = true) (k23 : PySem.W.keepIn K (.ref f23) = true)
    (a24 : PySem.W.nsIn K mainGlobals "whole_line" = some (some (.ref f24))) (l24 : K.lookup f24 = some ⟨oc24, od24, .func (PySem.W.fnOf "whole_line" "whole_line" (defArgs s_whole_line) (defBody s_whole_line) (defScope s_whole_line) .none kV24 dc24 pm24 an24 cd24 ct24), sl24⟩) (c24 : PySem.W.codeIn K cd24 "whole_line" = true) (k24 : PySem.W.keepIn K (.ref f24) = true)
    (a25 : PySem.W.nsIn K mainGlobals "positions" = some (some (.ref f25))) (l25 : K.lookup f25 = some ⟨oc25, od25, .func (PySem.W.fnOf "positions" "positions" (defArgs s_positions) (defBody s_positions) (defScope s_positions) .none kV25 dc25 pm25 an25 cd25 ct25), sl25⟩) (c25 : PySem.W.codeIn K cd25 "positions" = true) (k25 : PySem.W.keepIn K (.ref f25) = true)
    (a26 : PySem.W.nsIn K mainGlobals "held_at" = some (some (.ref f26))) (l26 : K.lookup f26 = some ⟨oc26, od26, .func (PySem.W.fnOf "held_at" "held_at" (defArgs s_held_at) (defBody s_held_at) (defScope s_held_at) .none kV26 dc26 pm26 an26 cd26 ct26), sl26⟩) (c26 : PySem.W.codeIn K cd26 "held_at" = true) (k26 : PySem.W.keepIn K (.ref f26) = true)
    (a27 : PySem.W.nsIn K mainGlobals "claim_at" = some (some (.ref f27))) (l27 : K.lookup f27 = some ⟨oc27, od27, .func (PySem.W.fnOf "claim_at" "claim_at" (defArgs s_claim_at) (defBody s_claim_at) (defScope s_claim_at) .none kV27 dc27 pm27 an27 cd27 ct27), sl27⟩) (c27 : PySem.W.codeIn K cd27 "claim_at" = true) (k27 : PySem.W.keepIn K (.ref f27) = true)
    (a28 : PySem.W.nsIn K mainGlobals "need_of" = some (some (.ref f28))) (l28 : K.lookup f28 = some ⟨oc28, od28, .func (PySem.W.fnOf "need_of" "need_of" (defArgs s_need_of) (defBody s_need_of) (defScope s_need_of) .none kV28 dc28 pm28 an28 cd28 ct28), sl28⟩) (c28 : PySem.W.codeIn K cd28 "need_of" = true) (k28 : PySem.W.keepIn K (.ref f28) = true)
    (a29 : PySem.W.nsIn K mainGlobals "edge_positions" = some (some (.ref f29))) (l29 : K.lookup f29 = some ⟨oc29, od29, .func (PySem.W.fnOf "edge_positions" "edge_positions" (defArgs s_edge_positions) (defBody s_edge_positions) (defScope s_edge_positions) .none kV29 dc29 pm29 an29 cd29 ct29), sl29⟩) (c29 : PySem.W.codeIn K cd29 "edge_positions" = true) (k29 : PySem.W.keepIn K (.ref f29) = true)
    (a30 : PySem.W.nsIn K mainGlobals "greatest_needs" = some (some (.ref f30))) (l30 : K.lookup f30 = some ⟨oc30, od30, .func (PySem.W.fnOf "greatest_needs" "greatest_needs" (defArgs s_greatest_needs) (defBody s_greatest_needs) (defScope s_greatest_needs) .none kV30 dc30 pm30 an30 cd30 ct30), sl30⟩) (c30 : PySem.W.codeIn K cd30 "greatest_needs" = true) (k30 : PySem.W.keepIn K (.ref f30) = true)
    (a31 : PySem.W.nsIn K mainGlobals "web_of" = some (some (.ref f31))) (l31 : K.lookup f31 = some ⟨oc31, od31, .func (PySem.W.fnOf "web_of" "web_of" (defArgs s_web_of) (defBody s_web_of) (defScope s_web_of) .none kV31 dc31 pm31 an31 cd31 ct31), sl31⟩) (c31 : PySem.W.codeIn K cd31 "web_of" = true) (k31 : PySem.W.keepIn K (.ref f31) = true)
    (a32 : PySem.W.nsIn K mainGlobals "law" = some (some (.ref f32))) (l32 : K.lookup f32 = some ⟨oc32, od32, .func (PySem.W.fnOf "law" "law" (defArgs s_law) (defBody s_law) (defScope s_law) .none kV32 dc32 pm32 an32 cd32 ct32), sl32⟩) (c32 : PySem.W.codeIn K cd32 "law" = true) (k32 : PySem.W.keepIn K (.ref f32) = true)
    (z0 : PySem.W.nsIn K mainGlobals "abs" = some none)
    (z1 : PySem.W.nsIn K mainGlobals "int" = some none)
    (z2 : PySem.W.nsIn K mainGlobals "len" = some none)
    (z3 : PySem.W.nsIn K mainGlobals "list" = some none)
    (z4 : PySem.W.nsIn K mainGlobals "max" = some none)
    (z5 : PySem.W.nsIn K mainGlobals "range" = some none)
    (z6 : PySem.W.nsIn K mainGlobals "repr" = some none)
    (z7 : PySem.W.nsIn K mainGlobals "sorted" = some none)
    (z8 : PySem.W.nsIn K mainGlobals "tuple" = some none)
    (z9 : PySem.W.nsIn K mainGlobals "zip" = some none) : RunOk P w K mg fa := by
  have e := hfa.symm.trans (PySem.W.mg_of X G a32)
  cases e
  have F0 := fun_mk (st := s_room_names) l0 c0 k0
  have F1 := fun_mk (st := s_kind_names) l1 c1 k1
  have F2 := fun_mk (st := s_zeros) l2 c2 k2
  have F3 := fun_mk (st := s_added) l3 c3 k3
  have F4 := fun_mk (st := s__law_kind) l4 c4 k4
  have F5 := fun_mk (st := s__law_bag) l5 c5 k5
  have F6 := fun_mk (st := s__law_take) l6 c6 k6
  have F7 := fun_mk (st := s__law_alike) l7 c7 k7
  have F8 := fun_mk (st := s_room_index) l8 c8 k8
  have F9 := fun_mk (st := s_kind_index) l9 c9 k9
  have F10 := fun_mk (st := s_claimed) l10 c10 k10
  have F11 := fun_mk (st := s__law_line) l11 c11 k11
  have F12 := fun_mk (st := s__law_mixed) l12 c12 k12
  have F13 := fun_mk (st := s__law_some) l13 c13 k13
  have F14 := fun_mk (st := s_kind_of) l14 c14 k14
  have F15 := fun_mk (st := s__law_positions) l15 c15 k15
  have F16 := fun_mk (st := s__law_held) l16 c16 k16
  have F17 := fun_mk (st := s__law_claim) l17 c17 k17
  have F18 := fun_mk (st := s__law_names) l18 c18 k18
  have F19 := fun_mk (st := s__law_drawn_line) l19 c19 k19
  have F20 := fun_mk (st := s_asked_from) l20 c20 k20
  have F21 := fun_mk (st := s__law_pool) l21 c21 k21
  have F22 := fun_mk (st := s__law_edges) l22 c22 k22
  have F23 := fun_mk (st := s__law_needs) l23 c23 k23
  have F24 := fun_mk (st := s_whole_line) l24 c24 k24
  have F25 := fun_mk (st := s_positions) l25 c25 k25
  have F26 := fun_mk (st := s_held_at) l26 c26 k26
  have F27 := fun_mk (st := s_claim_at) l27 c27 k27
  have F28 := fun_mk (st := s_need_of) l28 c28 k28
  have F29 := fun_mk (st := s_edge_positions) l29 c29 k29
  have F30 := fun_mk (st := s_greatest_needs) l30 c30 k30
  have F31 := fun_mk (st := s_web_of) l31 c31 k31
  have F32 := fun_mk (st := s_law) l32 c32 k32
  let T : Txt K mg := { a_room_names := f0, d_room_names := _, F_room_names := F0, g_room_names := PySem.W.mg_of X G a0, b_room_names := F0.binds (ps := ["pool"]) (fun _ _ _ _ _ _ us hl => match us, hl with | [_], _ => rfl), a_kind_names := f1, d_kind_names := _, F_kind_names := F1, g_kind_names := PySem.W.mg_of X G a1, b_kind_names := F1.binds (ps := ["pool"]) (fun _ _ _ _ _ _ us hl => match us, hl with | [_], _ => rfl), a_zeros := f2, d_zeros := _, F_zeros := F2, g_zeros := PySem.W.mg_of X G a2, b_zeros := F2.binds (ps := ["many"]) (fun _ _ _ _ _ _ us hl => match us, hl with | [_], _ => rfl), a_added := f3, d_added := _, F_added := F3, g_added := PySem.W.mg_of X G a3, b_added := F3.binds (ps := ["one", "other"]) (fun _ _ _ _ _ _ us hl => match us, hl with | [_, _], _ => rfl), a__law_kind := f4, d__law_kind := _, F__law_kind := F4, g__law_kind := PySem.W.mg_of X G a4, b__law_kind := F4.binds (ps := ["pool", "name"]) (fun _ _ _ _ _ _ us hl => match us, hl with | [_, _], _ => rfl), a__law_bag := f5, d__law_bag := _, F__law_bag := F5, g__law_bag := PySem.W.mg_of X G a5, b__law_bag := F5.binds (ps := ["script"]) (fun _ _ _ _ _ _ us hl => match us, hl with | [_], _ => rfl), a__law_take := f6, d__law_take := _, F__law_take := F6, g__law_take := PySem.W.mg_of X G a6, b__law_take := F6.binds (ps := ["bag", "many"]) (fun _ _ _ _ _ _ us hl => match us, hl with | [_, _], _ => rfl), a__law_alike := f7, d__law_alike := _, F__law_alike := F7, g__law_alike := PySem.W.mg_of X G a7, b__law_alike := F7.binds (ps := ["found", "due"]) (fun _ _ _ _ _ _ us hl => match us, hl with | [_, _], _ => rfl), a_room_index := f8, d_room_index := _, F_room_index := F8, g_room_index := PySem.W.mg_of X G a8, b_room_index := F8.binds (ps := ["pool", "name"]) (fun _ _ _ _ _ _ us hl => match us, hl with | [_, _], _ => rfl), a_kind_index := f9, d_kind_index := _, F_kind_index := F9, g_kind_index := PySem.W.mg_of X G a9, b_kind_index := F9.binds (ps := ["pool", "name"]) (fun _ _ _ _ _ _ us hl => match us, hl with | [_, _], _ => rfl), a_claimed := f10, d_claimed := _, F_claimed := F10, g_claimed := PySem.W.mg_of X G a10, b_claimed := F10.binds (ps := ["pool", "claims"]) (fun _ _ _ _ _ _ us hl => match us, hl with | [_, _], _ => rfl), a__law_line := f11, d__law_line := _, F__law_line := F11, g__law_line := PySem.W.mg_of X G a11, b__law_line := F11.binds (ps := ["pool", "name"]) (fun _ _ _ _ _ _ us hl => match us, hl with | [_, _], _ => rfl), a__law_mixed := f12, d__law_mixed := _, F__law_mixed := F12, g__law_mixed := PySem.W.mg_of X G a12, b__law_mixed := F12.binds (ps := ["bag", "things"]) (fun _ _ _ _ _ _ us hl => match us, hl with | [_, _], _ => rfl), a__law_some := f13, d__law_some := _, F__law_some := F13, g__law_some := PySem.W.mg_of X G a13, b__law_some := F13.binds (ps := ["bag", "things"]) (fun _ _ _ _ _ _ us hl => match us, hl with | [_, _], _ => rfl), a_kind_of := f14, d_kind_of := _, F_kind_of := F14, g_kind_of := PySem.W.mg_of X G a14, b_kind_of := F14.binds (ps := ["pool", "name"]) (fun _ _ _ _ _ _ us hl => match us, hl with | [_, _], _ => rfl), a__law_positions := f15, d__law_positions := _, F__law_positions := F15, g__law_positions := PySem.W.mg_of X G a15, b__law_positions := F15.binds (ps := ["pool"]) (fun _ _ _ _ _ _ us hl => match us, hl with | [_], _ => rfl), a__law_held := f16, d__law_held := _, F__law_held := F16, g__law_held := PySem.W.mg_of X G a16, b__law_held := F16.binds (ps := ["pool", "name", "q"]) (fun _ _ _ _ _ _ us hl => match us, hl with | [_, _, _], _ => rfl), a__law_claim := f17, d__law_claim := _, F__law_claim := F17, g__law_claim := PySem.W.mg_of X G a17, b__law_claim := F17.binds (ps := ["pool", "name", "q"]) (fun _ _ _ _ _ _ us hl => match us, hl with | [_, _, _], _ => rfl), a__law_names := f18, d__law_names := _, F__law_names := F18, g__law_names := PySem.W.mg_of X G a18, b__law_names := F18.binds (ps := ["bag", "many"]) (fun _ _ _ _ _ _ us hl => match us, hl with | [_, _], _ => rfl), a__law_drawn_line := f19, d__law_drawn_line := _, F__law_drawn_line := F19, g__law_drawn_line := PySem.W.mg_of X G a19, b__law_drawn_line := F19.binds (ps := ["bag", "rooms", "most", "units"]) (fun _ _ _ _ _ _ us hl => match us, hl with | [_, _, _, _], _ => rfl), a_asked_from := f20, d_asked_from := _, F_asked_from := F20, g_asked_from := PySem.W.mg_of X G a20, b_asked_from := F20.binds (ps := ["pool", "kind"]) (fun _ _ _ _ _ _ us hl => match us, hl with | [_, _], _ => rfl), a__law_pool := f21, d__law_pool := _, F__law_pool := F21, g__law_pool := PySem.W.mg_of X G a21, b__law_pool := F21.binds (ps := ["bag", "rooms", "kinds", "size", "units"]) (fun _ _ _ _ _ _ us hl => match us, hl with | [_, _, _, _, _], _ => rfl), a__law_edges := f22, d__law_edges := _, F__law_edges := F22, g__law_edges := PySem.W.mg_of X G a22, b__law_edges := F22.binds (ps := ["pool"]) (fun _ _ _ _ _ _ us hl => match us, hl with | [_], _ => rfl), a__law_needs := f23, d__law_needs := _, F__law_needs := F23, g__law_needs := PySem.W.mg_of X G a23, b__law_needs := F23.binds (ps := ["pool"]) (fun _ _ _ _ _ _ us hl => match us, hl with | [_], _ => rfl), a_whole_line := f24, d_whole_line := _, F_whole_line := F24, g_whole_line := PySem.W.mg_of X G a24, b_whole_line := F24.binds (ps := ["pool", "kind"]) (fun _ _ _ _ _ _ us hl => match us, hl with | [_, _], _ => rfl), a_positions := f25, d_positions := _, F_positions := F25, g_positions := PySem.W.mg_of X G a25, b_positions := F25.binds (ps := ["pool"]) (fun _ _ _ _ _ _ us hl => match us, hl with | [_], _ => rfl), a_held_at := f26, d_held_at := _, F_held_at := F26, g_held_at := PySem.W.mg_of X G a26, b_held_at := F26.binds (ps := ["pool", "kind", "q"]) (fun _ _ _ _ _ _ us hl => match us, hl with | [_, _, _], _ => rfl), a_claim_at := f27, d_claim_at := _, F_claim_at := F27, g_claim_at := PySem.W.mg_of X G a27, b_claim_at := F27.binds (ps := ["pool", "kind", "q"]) (fun _ _ _ _ _ _ us hl => match us, hl with | [_, _, _], _ => rfl), a_need_of := f28, d_need_of := _, F_need_of := F28, g_need_of := PySem.W.mg_of X G a28, b_need_of := F28.binds (ps := ["pool", "kind"]) (fun _ _ _ _ _ _ us hl => match us, hl with | [_, _], _ => rfl), a_edge_positions := f29, d_edge_positions := _, F_edge_positions := F29, g_edge_positions := PySem.W.mg_of X G a29, b_edge_positions := F29.binds (ps := ["pool", "x", "y"]) (fun _ _ _ _ _ _ us hl => match us, hl with | [_, _, _], _ => rfl), a_greatest_needs := f30, d_greatest_needs := _, F_greatest_needs := F30, g_greatest_needs := PySem.W.mg_of X G a30, b_greatest_needs := F30.binds (ps := ["pool"]) (fun _ _ _ _ _ _ us hl => match us, hl with | [_], _ => rfl), a_web_of := f31, d_web_of := _, F_web_of := F31, g_web_of := PySem.W.mg_of X G a31, b_web_of := F31.binds (ps := ["pool"]) (fun _ _ _ _ _ _ us hl => match us, hl with | [_], _ => rfl), a_law := fa, d_law := _, F_law := F32, g_law := PySem.W.mg_of X G a32, b_law := F32.binds (ps := ["script"]) (fun _ _ _ _ _ _ us hl => match us, hl with | [_], _ => rfl), n_abs := PySem.W.mg_none_of X G z0, n_int := PySem.W.mg_none_of X G z1, n_len := PySem.W.mg_none_of X G z2, n_list := PySem.W.mg_none_of X G z3, n_max := PySem.W.mg_none_of X G z4, n_range := PySem.W.mg_none_of X G z5, n_repr := PySem.W.mg_none_of X G z6, n_sorted := PySem.W.mg_none_of X G z7, n_tuple := PySem.W.mg_none_of X G z8, n_zip := PySem.W.mg_none_of X G z9 }
  exact run_law T (fun s v => .of_eq rfl) vc
end DL.LW

open PySem PySem.W PyProof.Rows
set_option maxRecDepth 100000 in
set_option maxHeartbeats 0 in
theorem PySem.Challenge.cw_onceortold_k29_webs_of_rooms_holds : PySem.Challenge.rw_onceortold_k29_webs_of_rooms.Holds := by
  w_on; o_law; k_head; (case hw => w_witness2)
  k_fill
  refine DL.walk_run (l := PySem.Challenge.rw_onceortold_k29_webs_of_rooms) rfl rfl (fun w h Y => PySem.W.kIn_of Y) ?HT ?F
  case HT =>
    intro w h Y
    exact DL.headTabs_of fun y hy => by cases hy
  case F =>
    intro w mg fa h KX G hmg
    refine' DL.LW.all_mk DL.LW.vc_law KX G hmg ?a0 ?l0 ?c0 ?k0 ?a1 ?l1 ?c1 ?k1 ?a2 ?l2 ?c2 ?k2 ?a3 ?l3 ?c3 ?k3 ?a4 ?l4 ?c4 ?k4 ?a5 ?l5 ?c5 ?k5 ?a6 ?l6 ?c6 ?k6 ?a7 ?l7 ?c7 ?k7 ?a8 ?l8 ?c8 ?k8 ?a9 ?l9 ?c9 ?k9 ?a10 ?l10 ?c10 ?k10 ?a11 ?l11 ?c11 ?k11 ?a12 ?l12 ?c12 ?k12 ?a13 ?l13 ?c13 ?k13 ?a14 ?l14 ?c14 ?k14 ?a15 ?l15 ?c15 ?k15 ?a16 ?l16 ?c16 ?k16 ?a17 ?l17 ?c17 ?k17 ?a18 ?l18 ?c18 ?k18 ?a19 ?l19 ?c19 ?k19 ?a20 ?l20 ?c20 ?k20 ?a21 ?l21 ?c21 ?k21 ?a22 ?l22 ?c22 ?k22 ?a23 ?l23 ?c23 ?k23 ?a24 ?l24 ?c24 ?k24 ?a25 ?l25 ?c25 ?k25 ?a26 ?l26 ?c26 ?k26 ?a27 ?l27 ?c27 ?k27 ?a28 ?l28 ?c28 ?k28 ?a29 ?l29 ?c29 ?k29 ?a30 ?l30 ?c30 ?k30 ?a31 ?l31 ?c31 ?k31 ?a32 ?l32 ?c32 ?k32 ?z0 ?z1 ?z2 ?z3 ?z4 ?z5 ?z6 ?z7 ?z8 ?z9
    (case a0 => k_is); (case l0 => k_is); (case c0 => k_is); (case k0 => k_is); (case a1 => k_is); (case l1 => k_is); (case c1 => k_is); (case k1 => k_is); (case a2 => k_is); (case l2 => k_is); (case c2 => k_is); (case k2 => k_is); (case a3 => k_is); (case l3 => k_is); (case c3 => k_is); (case k3 => k_is); (case a4 => k_is); (case l4 => k_is); (case c4 => k_is); (case k4 => k_is); (case a5 => k_is); (case l5 => k_is); (case c5 => k_is); (case k5 => k_is); (case a6 => k_is); (case l6 => k_is); (case c6 => k_is); (case k6 => k_is); (case a7 => k_is); (case l7 => k_is); (case c7 => k_is); (case k7 => k_is); (case a8 => k_is); (case l8 => k_is); (case c8 => k_is); (case k8 => k_is); (case a9 => k_is); (case l9 => k_is); (case c9 => k_is); (case k9 => k_is); (case a10 => k_is); (case l10 => k_is); (case c10 => k_is); (case k10 => k_is); (case a11 => k_is); (case l11 => k_is); (case c11 => k_is); (case k11 => k_is); (case a12 => k_is); (case l12 => k_is); (case c12 => k_is); (case k12 => k_is); (case a13 => k_is); (case l13 => k_is); (case c13 => k_is); (case k13 => k_is); (case a14 => k_is); (case l14 => k_is); (case c14 => k_is); (case k14 => k_is); (case a15 => k_is); (case l15 => k_is); (case c15 => k_is); (case k15 => k_is); (case a16 => k_is); (case l16 => k_is); (case c16 => k_is); (case k16 => k_is); (case a17 => k_is); (case l17 => k_is); (case c17 => k_is); (case k17 => k_is); (case a18 => k_is); (case l18 => k_is); (case c18 => k_is); (case k18 => k_is); (case a19 => k_is); (case l19 => k_is); (case c19 => k_is); (case k19 => k_is); (case a20 => k_is); (case l20 => k_is); (case c20 => k_is); (case k20 => k_is); (case a21 => k_is); (case l21 => k_is); (case c21 => k_is); (case k21 => k_is); (case a22 => k_is); (case l22 => k_is); (case c22 => k_is); (case k22 => k_is); (case a23 => k_is); (case l23 => k_is); (case c23 => k_is); (case k23 => k_is); (case a24 => k_is); (case l24 => k_is); (case c24 => k_is); (case k24 => k_is); (case a25 => k_is); (case l25 => k_is); (case c25 => k_is); (case k25 => k_is); (case a26 => k_is); (case l26 => k_is); (case c26 => k_is); (case k26 => k_is); (case a27 => k_is); (case l27 => k_is); (case c27 => k_is); (case k27 => k_is); (case a28 => k_is); (case l28 => k_is); (case c28 => k_is); (case k28 => k_is); (case a29 => k_is); (case l29 => k_is); (case c29 => k_is); (case k29 => k_is); (case a30 => k_is); (case l30 => k_is); (case c30 => k_is); (case k30 => k_is); (case a31 => k_is); (case l31 => k_is); (case c31 => k_is); (case k31 => k_is); (case a32 => k_is); (case l32 => k_is); (case c32 => k_is); (case k32 => k_is); (case z0 => k_is); (case z1 => k_is); (case z2 => k_is); (case z3 => k_is); (case z4 => k_is); (case z5 => k_is); (case z6 => k_is); (case z7 => k_is); (case z8 => k_is); (case z9 => k_is)
