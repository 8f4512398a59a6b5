import PyProof.Rows.All
import HandS.Lambda
import KE.KNestM
import Wide.All
import OpenK.AllK
import Wide.FinOn
import HandS.ForMost
import HandS.Walk
import HandS.Exc
import HandS.ExcOwn
import HandS.TryOnly
import HandS.WordsExc
import HandS.TupMul
import HandS.TupAny
import HandS.Deep
import HandS.Wide
import HandS.RaiseMore
import HandS.Evl
import HandS.Style
import HandS.Zip
import KE.GoesEnum
import HandS.Strs
import HandS.SetKeys
import HandS.IsInst
import HandS.ExcInit
import HandS.ExcField
import HandS.Nested
import KE.KExcSuper
import HandS.Star
import HandS.Small
import PyProof.ExcBaseAll.ValueError
import KE.KExcIs
import HandS.DictTup
import HandS.Conv
import KE.KSortTupUse
import HandS.SortInts
import PySem.Challenge.RW_onceortold_k79_first_words_decide
set_option Elab.async false
set_option linter.all false
set_option maxRecDepth 100000
set_option maxHeartbeats 4000000
namespace DL
/-- the defs of the text that make lambdas -/
def lamNames : List PySem.Str := []
end DL

/-! DL: Python over plain data. Part 1: the meaning of expressions and statements over data, without a heap. -/
namespace DL
open PySem

abbrev D := PyData
abbrev D.no : D := PyData.none
/-- what a slot holds: data that nobody changes; a list that this frame alone holds; the bag of drawn numbers -/
inductive DV where
  | dat (d : D)
  | own (ds : List D)
  | dct (t : Bool) (kvs : List (D × D))
  | nd (ds : List D)
  | bag
structure Err where
  cls : Str
  fs : List (Str × D)
abbrev Env := List (Option DV)
abbrev XW := Err → Env → Prop
abbrev TX := XW → Env → (DV → Env → Prop) → Prop
abbrev Get := Env → Option D
abbrev OX := XW → Env → (Get → Env → Prop) → Prop
abbrev TB := XW → Env → (Bool → Env → Prop) → Prop
abbrev AX := XW → Env → (List DV → Env → Prop) → Prop
abbrev OAX := XW → Env → (List Get → Env → Prop) → Prop
abbrev Op2 := D → D → (DV → Prop) → Prop
abbrev OpN := List D → (DV → Prop) → Prop
abbrev Spec := List DV → (DV → Prop) → (Err → Prop) → Prop

def DV.toD : DV → Option D
  | .dat d => some d
  | .own ds => some (.list ds)
  | .dct _ _ => none
  | .nd ds => some (.tuple ds)
  | .bag => none
def DV.hold : DV → Bool
  | .own _ => true
  | .dct _ _ => true
  | _ => false
/-- a value, handed over -/
def onArg (dv : DV) (k : DV → Prop) : Prop := match dv with
  | .dat d => k (.dat d)
  | .own ds => k (.dat (.list ds))
  | .nd ds => k (.dat (.tuple ds))
  | .bag => k .bag
  | .dct _ _ => False

def sl : Env → Nat → Option DV
  | [], _ => none
  | x :: _, 0 => x
  | _ :: r, i + 1 => sl r i
def putO : Env → Nat → Option DV → Env
  | [], _, _ => []
  | _ :: r, 0, v => v :: r
  | x :: r, i + 1, v => x :: putO r i v
abbrev put (r : Env) (i : Nat) (v : DV) : Env := putO r i (some v)

/-! expressions -/
def xC (d : D) : TX := fun _ r Q => Q (.dat d) r
/-- a name's value; a list that the frame holds alone is from then on nobody's to change -/
def xVar (i : Nat) : TX := fun _ r Q => match sl r i with
  | some (.own ds) => Q (.dat (.list ds)) (put r i (.dat (.list ds)))
  | some (.dct _ _) => False
  | some dv => Q dv r
  | none => False
/-- a name's value, the name given up -/
def xMv (i : Nat) : TX := fun _ r Q => match sl r i with
  | some dv => Q dv (putO r i none)
  | none => False
/-- operands: looked at when they are used -/
def oV (i : Nat) : OX := fun _ r Q => match sl r i with
  | some _ => Q (fun r' => (sl r' i).bind DV.toD) r
  | none => False
def oE (f : TX) : OX := fun X r Q => f X r fun dv r1 => match dv.toD with
  | some d => Q (fun _ => some d) r1
  | none => False
def xB (o : Op2) (a b : OX) : TX := fun X r Q => a X r fun g r1 => b X r1 fun h r2 => match g r2, h r2 with
  | some x, some y => o x y fun v => Q v r2
  | _, _ => False
def xU (o : D → (DV → Prop) → Prop) (a : OX) : TX := fun X r Q => a X r fun g r1 => match g r1 with
  | some x => o x fun v => Q v r1
  | none => False
/-- a < b < c -/
def xCh (o o' : Op2) (a b c : OX) : TX := fun X r Q => a X r fun g r1 => b X r1 fun h r2 => match g r2, h r2 with
  | some x, some y => o x y fun v => match v with
    | .dat (.bool true) => c X r2 fun k r3 => match h r3, k r3 with
      | some y', some z => o' y' z fun w => match w with
        | .dat (.bool q) => Q (.dat (.bool q)) r3
        | _ => False
      | _, _ => False
    | .dat (.bool false) => Q (.dat (.bool false)) r2
    | _ => False
  | _, _ => False
def oNil : OAX := fun _ r Q => Q [] r
def oCons (a : OX) (t : OAX) : OAX := fun X r Q => a X r fun g r1 => t X r1 fun gs r2 => Q (g :: gs) r2
def gets : List Get → Env → Option (List D)
  | [], _ => some []
  | g :: gs, r => match g r, gets gs r with
    | some d, some ds => some (d :: ds)
    | _, _ => none
/-- a built-in, called -/
def xCB (o : OpN) (t : OAX) : TX := fun X r Q => t X r fun gs r1 => match gets gs r1 with
  | some ds => o ds fun v => Q v r1
  | none => False
def aNil : AX := fun _ r Q => Q [] r
def aCons (f : TX) (t : AX) : AX := fun X r Q => f X r fun dv r1 => onArg dv fun w => t X r1 fun vs r2 => Q (w :: vs) r2
/-- a def of the text, called -/
def xCall (S : Spec) (t : AX) : TX := fun X r Q => t X r fun vs r1 => S vs (fun v => Q v r1) fun e => X e r1
def allD : List DV → Option (List D)
  | [] => some []
  | .dat d :: r => match allD r with
    | some ds => some (d :: ds)
    | none => none
  | _ :: _ => none
def xTup (t : AX) : TX := fun X r Q => t X r fun vs r1 => match allD vs with
  | some ds => ds.length ≤ 16777216 ∧ Q (.dat (.tuple ds)) r1
  | none => False
def xLst (t : AX) : TX := fun X r Q => t X r fun vs r1 => match allD vs with
  | some ds => ds.length ≤ 16777216 ∧ Q (.own ds) r1
  | none => False
/-! tests -/
def bX (f : TX) : TB := fun X r Q => f X r fun dv r1 => match dv with
  | .dat (.bool b) => Q b r1
  | _ => False
def truth : D → Option Bool
  | .none => some false
  | .bool b => some b
  | .int i => some (i != 0)
  | .str x => some ((x.length : Int) != 0)
  | .list xs => some (!xs.isEmpty)
  | .tuple xs => some (!xs.isEmpty)
  | .dict _ => none
def bO (a : OX) : TB := fun X r Q => a X r fun g r1 => match (g r1).bind truth with
  | some b => (∀ x, g r1 = some (.str x) → x.length ≤ 16777216) ∧ Q b r1
  | none => False
def bAnd (a b : TB) : TB := fun X r Q => a X r fun c r1 => if c = true then b X r1 Q else Q false r1
def bOr (a b : TB) : TB := fun X r Q => a X r fun c r1 => if c = true then Q true r1 else b X r1 Q
def bNot (a : TB) : TB := fun X r Q => a X r fun c r1 => Q (!c) r1
def xAnd (a b : TX) : TX := fun X r Q => a X r fun dv r1 => match dv with
  | .dat (.bool c) => if c = true then b X r1 Q else Q (.dat (.bool false)) r1
  | _ => False
def xOr (a b : TX) : TX := fun X r Q => a X r fun dv r1 => match dv with
  | .dat (.bool c) => if c = true then Q (.dat (.bool true)) r1 else b X r1 Q
  | _ => False
def xNot (a : TB) : TX := fun X r Q => a X r fun c r1 => Q (.dat (.bool (!c))) r1
def xIf (t : TB) (a b : TX) : TX := fun X r Q => t X r fun c r1 => if c = true then a X r1 Q else b X r1 Q
/-! what is walked -/
abbrev SX := XW → Env → (List D → Env → Prop) → Prop
def itemsOf : D → Option (List D)
  | .list xs => some xs
  | .tuple xs => some xs
  | .str z => some (z.cps.toList.map fun c => .str ⟨#[c]⟩)
  | _ => none
def wX (f : TX) : SX := fun X r Q => f X r fun dv r1 => match dv.toD with
  | some d => (match itemsOf d with
    | some ds => Q ds r1
    | none => False)
  | none => False
def rangeL (lo hi : Int) : List D := (List.range (hi - lo).toNat).map fun k => .int (lo + (k : Nat))
def wRange1 (a : OX) : SX := fun X r Q => a X r fun g r1 => match g r1 with
  | some (.int n) => (-(2 ^ 62) ≤ n ∧ n < 2 ^ 62) ∧ Q (rangeL 0 n) r1
  | _ => False
def wRange2 (a b : OX) : SX := fun X r Q => a X r fun g r1 => b X r1 fun h r2 => match g r2, h r2 with
  | some (.int n), some (.int m) => (-(2 ^ 62) ≤ n ∧ n < 2 ^ 62 ∧ -(2 ^ 62) ≤ m ∧ m < 2 ^ 62) ∧ Q (rangeL n m) r2
  | _, _ => False
/-! targets -/
abbrev TG := DV → Env → (Env → Prop) → Prop
def gN (i : Nat) : TG := fun v r Q => Q (put r i v)
def gsAll : List TG → List D → Env → (Env → Prop) → Prop
  | [], ds, r, Q => ds = [] ∧ Q r
  | g :: gs, ds, r, Q => match ds with
    | d :: dr => g (.dat d) r fun r1 => gsAll gs dr r1 Q
    | [] => False
def gT (gs : List TG) : TG := fun v r Q => match v with
  | .dat (.tuple ds) => ds.length = gs.length ∧ gsAll gs ds r Q
  | _ => False
/-! comprehensions -/
def clrs (r : Env) : List Nat → Env
  | [] => r
  | i :: is => putO (clrs r is) i none
def back (r0 r : Env) : List Nat → Env
  | [] => r
  | i :: is => putO (back r0 r is) i (sl r0 i)
def noX : XW := fun _ _ => False
def lcL (own : List Nat) (g : TG) (t : TB) (f : TX) : List D → List D → Env → (List D → Env → Prop) → Prop
  | [], acc, r, Q => Q acc r
  | x :: xs, acc, r, Q => g (.dat x) r fun r1 => t noX r1 fun b r2 => if b = true then
      f noX r2 fun dv r3 => match dv.toD with
        | some d => acc.length < 16777216 ∧ lcL own g t f xs (acc ++ [d]) (clrs r3 own) Q
        | none => False
    else lcL own g t f xs acc (clrs r2 own) Q
def notOwn (r : Env) (i : Nat) : Prop := ∀ dv, sl r i = some dv → dv.hold = false
def xLc (own : List Nat) (s : SX) (g : TG) (t : TB) (f : TX) : TX := fun X r Q => s X r fun ds r1 =>
  (∀ i ∈ own, notOwn r1 i) ∧ lcL own g t f ds [] (clrs r1 own) fun acc r2 => Q (.own acc) (back r1 r2 own)
def bYes : TB := fun _ r Q => Q true r
/-! statements -/
structure Ends where
  nx : Env → Prop
  rt : DV → Prop
  bk : Env → Prop := fun _ => False
  ct : Env → Prop := fun _ => False
  ex : XW := fun _ _ => False
abbrev TS := Ends → Env → Prop
def sNext : TS := fun E r => E.nx r
def sSeq (a b : TS) : TS := fun E r => a { E with nx := b E } r
def sAsg (g : TG) (f : TX) : TS := fun E r => f E.ex r fun v r1 => g v r1 E.nx
def sPar (i j : Nat) (f h : TX) : TS := fun E r => f E.ex r fun v r1 => h E.ex r1 fun w r2 => E.nx (put (put r2 i v) j w)
def sDrop (f : TX) : TS := fun E r => f E.ex r fun _ r1 => E.nx r1
def sRet (f : TX) : TS := fun E r => f E.ex r fun v _ => E.rt v
def sRetN : TS := fun E _ => E.rt (.dat .none)
def sIf (t : TB) (a b : TS) : TS := fun E r => t E.ex r fun c r1 => if c = true then a E r1 else b E r1
def sBrk : TS := fun E r => E.bk r
def sCnt : TS := fun E r => E.ct r
def sAug (i : Nat) (o : Op2) (b : OX) : TS := fun E r => match sl r i with
  | some (.dat x) => b E.ex r fun g r1 => (match g r1 with
    | some y => o x y fun v => E.nx (put r1 i v)
    | none => False)
  | _ => False
def forL (g : TG) (b : TS) (E : Ends) : List D → Env → Prop
  | [], r => E.nx r
  | x :: xs, r => g (.dat x) r fun r1 => b { E with nx := forL g b E xs, ct := forL g b E xs, bk := E.nx } r1
def sFor (s : SX) (g : TG) (b : TS) : TS := fun E r => s E.ex r fun ds r1 => forL g b E ds r1
def sWhile (t : TB) (b : TS) : TS := fun E r => ∃ W : Nat → Env → Prop, (∃ m, W m r) ∧ ∀ m r, W m r →
  t E.ex r fun c r1 => if c = true then
    b { E with nx := fun r' => ∃ m', m' < m ∧ W m' r', ct := fun r' => ∃ m', m' < m ∧ W m' r', bk := E.nx } r1
  else E.nx r1
/-- the list in a slot, changed -/
def xApp (i : Nat) (f : TX) : TX := fun X r Q => (∃ ds, sl r i = some (.own ds)) ∧ f X r fun dv r1 => match dv.toD, sl r1 i with
  | some d, some (.own ds) => ds.length < 16777216 ∧ Q (.dat .none) (put r1 i (.own (ds ++ [d])))
  | _, _ => False
def fnSpec (n : Nat) (b : TS) : Spec := fun vs Q E =>
  b { nx := fun _ => Q (.dat .none), rt := Q, ex := fun e _ => E e } (vs.map some ++ List.replicate (n - vs.length) none)
end DL

/-! DL, part 2: data in the abstract heap; a frame's slots. -/
namespace DL
open PySem PySem.Spec L2

abbrev AP := Addr → Prop
def KL (K : PySem.W.Frag) (a : Addr) (xs : List V) : Prop := SqL K (fun _ => none) a xs
def KT (K : PySem.W.Frag) (a : Addr) (xs : List V) : Prop := SqT K (fun _ => none) a xs
mutual
inductive DpF (K : PySem.W.Frag) (H : Hp) (F : AP) : V → D → Prop
  | non : DpF K H F .non .none
  | bl (b : Bool) : DpF K H F (.bl b) (.bool b)
  | int (i : Int) : DpF K H F (.int i) (.int i)
  | str (x : Str) : DpF K H F (.str x) (.str x)
  | lst {a : Addr} {xs : List V} {ds : List D} : (F a ∧ H a = some (.lst xs)) → DpFs K H F xs ds → DpF K H F (.ref a) (.list ds)
  | tup {a : Addr} {xs : List V} {ds : List D} : ((F a ∧ Rd H a (.tup xs)) ∨ KT K a xs) → DpFs K H F xs ds → DpF K H F (.ref a) (.tuple ds)
inductive DpFs (K : PySem.W.Frag) (H : Hp) (F : AP) : List V → List D → Prop
  | nil : DpFs K H F [] []
  | cons {v : V} {vs : List V} {d : D} {ds : List D} : DpF K H F v d → DpFs K H F vs ds → DpFs K H F (v :: vs) (d :: ds)
end
section
variable {K : PySem.W.Frag} {H H' : Hp} {F F' : AP}
theorem KL.sq {a : Addr} {xs : List V} (h : KL K a xs) (H : Hp) : SqL K H a xs := by
  rcases h with (h | ⟨o, h⟩) | h
  · cases h
  · cases h
  · exact .inr h
theorem KT.sq {a : Addr} {xs : List V} (h : KT K a xs) (H : Hp) : SqT K H a xs := by
  rcases h with (h | ⟨o, h⟩) | h
  · cases h
  · cases h
  · exact .inr h
/-- later: what was frozen stands -/
def Later (H : Hp) (F : AP) (H' : Hp) (F' : AP) : Prop := ∀ a, F a → F' a ∧ H' a = H a
theorem Later.refl : Later H F H F := fun _ h => ⟨h, rfl⟩
theorem Later.trans {H2 : Hp} {F2 : AP} (a : Later H F H' F') (b : Later H' F' H2 F2) : Later H F H2 F2 := fun x h =>
  ⟨(b x (a x h).1).1, ((b x (a x h).1).2).trans (a x h).2⟩
theorem rd_later {a : Addr} {u : HO} (e : H' a = H a) (r : Rd H a u) : Rd H' a u := by
  rcases r with r | ⟨o, r⟩
  · exact .inl (e.trans r)
  · exact .inr ⟨o, e.trans r⟩
mutual
theorem DpF.mono (l : Later H F H' F') : ∀ {v : V} {d : D}, DpF K H F v d → DpF K H' F' v d
  | _, _, .non => .non
  | _, _, .bl b => .bl b
  | _, _, .int i => .int i
  | _, _, .str x => .str x
  | _, _, .lst h hs => .lst ⟨(l _ h.1).1, (l _ h.1).2.trans h.2⟩ (DpFs.mono l hs)
  | _, _, .tup h hs => .tup (h.imp (fun p => ⟨(l _ p.1).1, rd_later (l _ p.1).2 p.2⟩) id) (DpFs.mono l hs)
theorem DpFs.mono (l : Later H F H' F') : ∀ {vs : List V} {ds : List D}, DpFs K H F vs ds → DpFs K H' F' vs ds
  | _, _, .nil => .nil
  | _, _, .cons h hs => .cons (DpF.mono l h) (DpFs.mono l hs)
end
mutual
theorem DpF.dp : ∀ {v : V} {d : D}, DpF K H F v d → Dp K H v d
  | _, _, .non => .non
  | _, _, .bl b => .bl b
  | _, _, .int i => .int i
  | _, _, .str x => .str x
  | _, _, .lst h hs => .lst (.inl (.inl h.2)) (DpFs.dps hs)
  | _, _, .tup h hs => .tup (h.elim (fun p => .inl p.2) fun p => p.sq H) (DpFs.dps hs)
theorem DpFs.dps : ∀ {vs : List V} {ds : List D}, DpFs K H F vs ds → DpAll K H vs ds
  | _, _, .nil => .nil
  | _, _, .cons h hs => .cons (DpF.dp h) (DpFs.dps hs)
end
theorem DpFs.length : ∀ {vs : List V} {ds : List D}, DpFs K H F vs ds → vs.length = ds.length
  | _, _, .nil => rfl
  | _, _, .cons _ hs => congrArg (· + 1) (DpFs.length hs)
theorem DpFs.app : ∀ {vs ws : List V} {ds es : List D}, DpFs K H F vs ds → DpFs K H F ws es → DpFs K H F (vs ++ ws) (ds ++ es)
  | _, _, _, _, .nil, k => k
  | _, _, _, _, .cons h hs, k => .cons h (DpFs.app hs k)
theorem DpFs.get : ∀ {vs : List V} {ds : List D} {i : Nat} {d : D}, DpFs K H F vs ds → ds[i]? = some d → ∃ v, vs[i]? = some v ∧ DpF K H F v d
  | _, _, _, _, .nil, e => by simp at e
  | _, _, 0, _, .cons h _, e => by simp at e; subst e; exact ⟨_, rfl, h⟩
  | _, _, i + 1, d, .cons _ hs, e => by
    obtain ⟨v, a, b⟩ := DpFs.get (i := i) (d := d) hs (by simpa using e)
    exact ⟨v, by simpa using a, b⟩
theorem DpFs.getV : ∀ {vs : List V} {ds : List D} {i : Nat} {v : V}, DpFs K H F vs ds → vs[i]? = some v → ∃ d, ds[i]? = some d ∧ DpF K H F v d
  | _, _, _, _, .nil, e => by simp at e
  | _, _, 0, _, .cons h _, e => by simp at e; subst e; exact ⟨_, rfl, h⟩
  | _, _, i + 1, v, .cons _ hs, e => by
    obtain ⟨d, a, b⟩ := DpFs.getV (i := i) (v := v) hs (by simpa using e)
    exact ⟨d, by simpa using a, b⟩
theorem DpFs.take : ∀ {vs : List V} {ds : List D} (n : Nat), DpFs K H F vs ds → DpFs K H F (vs.take n) (ds.take n)
  | _, _, 0, _ => .nil
  | _, _, _ + 1, .nil => .nil
  | _, _, n + 1, .cons h hs => .cons h (DpFs.take n hs)
theorem DpFs.drop : ∀ {vs : List V} {ds : List D} (n : Nat), DpFs K H F vs ds → DpFs K H F (vs.drop n) (ds.drop n)
  | _, _, 0, h => h
  | _, _, _ + 1, .nil => .nil
  | _, _, n + 1, .cons _ hs => DpFs.drop n hs
theorem DpFs.set : ∀ {vs : List V} {ds : List D} (n : Nat) {v : V} {d : D}, DpF K H F v d → DpFs K H F vs ds → DpFs K H F (vs.set n v) (ds.set n d)
  | _, _, _, _, _, _, .nil => .nil
  | _, _, 0, _, _, h, .cons _ hs => .cons h hs
  | _, _, n + 1, _, _, h, .cons k hs => .cons k (DpFs.set n h hs)
theorem DpFs.erase : ∀ {vs : List V} {ds : List D} (n : Nat), DpFs K H F vs ds → DpFs K H F (vs.eraseIdx n) (ds.eraseIdx n)
  | _, _, _, .nil => .nil
  | _, _, 0, .cons _ hs => hs
  | _, _, n + 1, .cons k hs => .cons k (DpFs.erase n hs)
theorem DpFs.rev {vs : List V} {ds : List D} (h : DpFs K H F vs ds) : DpFs K H F vs.reverse ds.reverse := by
  induction vs generalizing ds with
  | nil => cases h; exact .nil
  | cons v vs ih =>
    cases h with
    | cons a b =>
      rw [List.reverse_cons, List.reverse_cons]
      exact (ih b).app (.cons a .nil)
theorem DpFs.rep {vs : List V} {ds : List D} (h : DpFs K H F vs ds) : ∀ n : Nat, DpFs K H F (List.replicate n vs).flatten (List.replicate n ds).flatten
  | 0 => .nil
  | n + 1 => by
    rw [List.replicate_succ, List.replicate_succ, List.flatten_cons, List.flatten_cons]
    exact h.app (DpFs.rep h n)
theorem DpFs.ints : ∀ (ns : List Int), DpFs K H F (ns.map V.int) (ns.map PyData.int)
  | [] => .nil
  | _ :: ns => .cons (.int _) (DpFs.ints ns)
theorem DpFs.vints : ∀ {vs : List V} {ns : List Int}, DpFs K H F vs (ns.map PyData.int) → vs = ns.map V.int
  | _, [], .nil => rfl
  | _, _ :: _, .cons (.int _) hs => congrArg _ (DpFs.vints hs)
theorem DpFs.vbools : ∀ {vs : List V} {ns : List Bool}, DpFs K H F vs (ns.map PyData.bool) → vs = ns.map V.bl
  | _, [], .nil => rfl
  | _, _ :: _, .cons (.bl _) hs => congrArg _ (DpFs.vbools hs)
theorem DpFs.vstrs : ∀ {vs : List V} {ns : List Str}, DpFs K H F vs (ns.map PyData.str) → vs = ns.map V.str
  | _, [], .nil => rfl
  | _, _ :: _, .cons (.str _) hs => congrArg _ (DpFs.vstrs hs)
end

/-- a key of a dict -/
def keyD : D → Option L2.Key
  | .int i => some (.inl i)
  | .str x => some (.inr x)
  | _ => none
def keysD : List D → Option (List L2.Key)
  | [] => some []
  | d :: r => match keyD d, keysD r with
    | some k, some ks => some (k :: ks)
    | _, _ => none
def keyT : D → Option (List L2.Key)
  | .tuple ds => keysD ds
  | _ => none
inductive KvR (K : PySem.W.Frag) (H : Hp) (F : AP) {κ : Type} (g : D → Option κ) : List (κ × V) → List (D × D) → Prop
  | nil : KvR K H F g [] []
  | cons {k : κ} {v : V} {kd d : D} {r : List (κ × V)} {s : List (D × D)} : g kd = some k → DpF K H F v d → KvR K H F g r s → KvR K H F g ((k, v) :: r) ((kd, d) :: s)
def DctR (K : PySem.W.Frag) (H : Hp) (F : AP) (a : Addr) (t : Bool) (kvs : List (D × D)) : Prop :=
  (t = false ∧ ∃ ps, H a = some (.dK ps) ∧ KvR K H F keyD ps kvs) ∨ (t = true ∧ ∃ ps, H a = some (.dT ps) ∧ KvR K H F keyT ps kvs)
theorem KvR.mono {K : PySem.W.Frag} {H H' : Hp} {F F' : AP} {κ : Type} {g : D → Option κ} (l : Later H F H' F') : ∀ {ps : List (κ × V)} {kvs : List (D × D)}, KvR K H F g ps kvs → KvR K H' F' g ps kvs
  | _, _, .nil => .nil
  | _, _, .cons e h hs => .cons e (h.mono l) (KvR.mono l hs)
theorem DctR.mono {K : PySem.W.Frag} {H H' : Hp} {F F' : AP} {a : Addr} {t : Bool} {kvs : List (D × D)} (l : Later H F H' F') (e : H' a = H a) (h : DctR K H F a t kvs) : DctR K H' F' a t kvs := by
  rcases h with ⟨h1, ps, h2, h3⟩ | ⟨h1, ps, h2, h3⟩
  · exact .inl ⟨h1, ps, e.trans h2, h3.mono l⟩
  · exact .inr ⟨h1, ps, e.trans h2, h3.mono l⟩
theorem DctR.ne {K : PySem.W.Frag} {H : Hp} {F : AP} {a : Addr} {t : Bool} {kvs : List (D × D)} (h : DctR K H F a t kvs) : (∀ xs, H a ≠ some (.lst xs)) ∧ H a ≠ none := by
  rcases h with ⟨_, ps, h2, _⟩ | ⟨_, ps, h2, _⟩ <;> exact ⟨(fun xs z => by rw [h2] at z; cases z), (by rw [h2]; simp)⟩
/-- the bag of drawn numbers -/
def BagOk (K : PySem.W.Frag) (H : Hp) (F : AP) (b : Addr) : Prop :=
  ∃ (c : Addr) (i j k : Int) (cells : List Int), H b = some (.lst [.int i, .int j, .int k, .ref c]) ∧ DpF K H F (.ref c) (.list (cells.map PyData.int)) ∧ cells.length ≤ 63
/-- a tuple of which it is known that it has no dict -/
def NdR (H : Hp) (F : AP) (v : V) : Prop := ∃ (a : Addr) (o : Obj) (u : HO), v = .ref a ∧ F a ∧ o.dict = none ∧ o.cls = .type "tuple" ∧ H a = some (.frz o u)
theorem NdR.mono {H H' : Hp} {F F' : AP} {v : V} (l : Later H F H' F') (h : NdR H F v) : NdR H' F' v := by
  obtain ⟨a, o, u, e, f, d, c, q⟩ := h
  exact ⟨a, o, u, e, (l a f).1, d, c, (l a f).2.trans q⟩
inductive SltR (K : PySem.W.Frag) (H : Hp) (F : AP) (b : Option Addr) : V → DV → Prop
  | dat {v : V} {d : D} : DpF K H F v d → SltR K H F b v (.dat d)
  | own {a : Addr} {xs : List V} {ds : List D} : H a = some (.lst xs) → DpFs K H F xs ds → ¬ F a → SltR K H F b (.ref a) (.own ds)
  | dct {a : Addr} {t : Bool} {kvs : List (D × D)} : DctR K H F a t kvs → ¬ F a → SltR K H F b (.ref a) (.dct t kvs)
  | nd {v : V} {ds : List D} : DpF K H F v (.tuple ds) → NdR H F v → SltR K H F b v (.nd ds)
  | bag {a : Addr} : b = some a → SltR K H F b (.ref a) .bag
/-! tables of code objects -/
def lamQ (x : Str) : Str := x ++ ".<locals>." ++ "<lambda>"
def tabsOf (K : PySem.W.Frag) : List (Addr × Str) := lamNames.filterMap fun x => (PySem.W.tabIn K x).map fun cp => (cp.2, lamQ x)
def NT (H : Hp) (a : Addr) : Prop := ∀ ps, H a ≠ some (.tbl ps)
/-- what may be written over: no table, no code object -/
def FreeAt (H : Hp) (a : Addr) : Prop := ∀ u, H a = some u → (∀ ps, u ≠ .tbl ps) ∧ ∀ g, u ≠ .ext g
structure TBk (K : PySem.W.Frag) (Z F : AP) (H : Hp) : Prop where
  tab : LamX.Tabs (tabsOf K) H
  z : ∀ a, Z a → NT H a
  f : ∀ a, F a → NT H a
theorem TBk.grow {K : PySem.W.Frag} {Z F F' : AP} {H H' : Hp} (t : TBk K Z F H) (hs : ∀ a o, H a = some o → H' a = some o) (hz : ∀ a, Z a → H a ≠ none) (hf : ∀ a, F' a → (F a ∧ H a ≠ none) ∨ NT H' a) : TBk K Z F' H' where
  tab := t.tab.ext hs
  z := fun a za ps e => by
    cases q : H a with
    | none => exact hz a za q
    | some o =>
      rw [hs a o q] at e
      cases e
      exact t.z a za ps q
  f := fun a fa ps e => by
    rcases hf a fa with ⟨f, n⟩ | n
    · cases q : H a with
      | none => exact n q
      | some o =>
        rw [hs a o q] at e
        cases e
        exact t.f a f ps q
    · exact n ps e
theorem TBk.upd {K : PySem.W.Frag} {Z F : AP} {H : Hp} {a : Addr} {o : HO} (t : TBk K Z F H) (h : FreeAt H a) (ho : ∀ ps, o ≠ .tbl ps) : TBk K Z F (upd H a o) where
  tab := fun p hp => by
    obtain ⟨ps, h1, h2, h3⟩ := t.tab p hp
    have n1 : p.1 ≠ a := fun e => (h _ (e ▸ h1)).1 ps rfl
    refine ⟨ps, by rw [upd_ne n1]; exact h1, h2, fun pos cv hc => ?_⟩
    obtain ⟨c, e1, e2⟩ := h3 pos cv hc
    have n2 : c ≠ a := fun e => (h _ (e ▸ e2)).2 _ rfl
    exact ⟨c, e1, by rw [upd_ne n2]; exact e2⟩
  z := fun x zx ps e => by
    by_cases q : x = a
    · rw [q, upd_same] at e
      exact ho ps (Option.some.inj e)
    · rw [upd_ne q] at e
      exact t.z x zx ps e
  f := fun x zx ps e => by
    by_cases q : x = a
    · rw [q, upd_same] at e
      exact ho ps (Option.some.inj e)
    · rw [upd_ne q] at e
      exact t.f x zx ps e
theorem TBk.imp {K : PySem.W.Frag} {Z F Z' F' : AP} {H : Hp} (t : TBk K Z F H) (hz : ∀ a, Z' a → NT H a) (hf : ∀ a, F' a → NT H a) : TBk K Z' F' H := ⟨t.tab, hz, hf⟩
theorem nt_lst {H : Hp} {a : Addr} {xs : List V} (h : H a = some (.lst xs)) : NT H a := fun ps e => by rw [h] at e; cases e
theorem nt_tup {H : Hp} {a : Addr} {xs : List V} (h : H a = some (.tup xs)) : NT H a := fun ps e => by rw [h] at e; cases e
theorem free_lst {H : Hp} {a : Addr} {xs : List V} (h : H a = some (.lst xs)) : FreeAt H a := fun u e => by
  rw [h] at e; cases e
  exact ⟨fun _ z => (by cases z), fun _ z => (by cases z)⟩
theorem FreeAt.nt {H : Hp} {a : Addr} (h : FreeAt H a) : NT H a := fun ps e => (h _ e).1 ps rfl
theorem free_none {H : Hp} {a : Addr} (h : H a = none) : FreeAt H a := fun u e => by rw [h] at e; cases e
theorem free_dct {K : PySem.W.Frag} {H : Hp} {F : AP} {a : Addr} {t : Bool} {kvs : List (D × D)} (h : DctR K H F a t kvs) : FreeAt H a := fun u e => by
  rcases h with ⟨_, ps, h2, _⟩ | ⟨_, ps, h2, _⟩ <;> (rw [h2] at e; cases e; exact ⟨fun _ z => (by cases z), fun _ z => (by cases z)⟩)
/-- a frame's surroundings: the bag; what is not to change, and what stands there; what was frozen at the start -/
structure Ctx where
  K : PySem.W.Frag
  b : Option Addr
  Z : AP
  HZ : Hp
  F0 : AP
structure Rep (C : Ctx) (r : Env) (σ : L2.St) (H : Hp) (F : AP) : Prop where
  len : r.length = σ.length
  slot : ∀ i dv, sl r i = some dv → ∃ v, σ[i]? = some (some v) ∧ SltR C.K H F C.b v dv
  dist : ∀ i j di dj a, sl r i = some di → sl r j = some dj → di.hold = true → dj.hold = true → σ[i]? = some (some (.ref a)) → σ[j]? = some (some (.ref a)) → i = j
  keep : ∀ a, C.Z a → H a = C.HZ a ∧ H a ≠ none
  fsub : ∀ a, C.F0 a → F a
  fnew : ∀ a, F a → C.F0 a ∨ ¬ C.Z a
  fz : ∀ a, C.F0 a → C.Z a
  ftrk : ∀ a, F a → H a ≠ none
  ownz : ∀ i ds a, sl r i = some ds → ds.hold = true → σ[i]? = some (some (.ref a)) → ¬ C.Z a ∧ C.b ≠ some a
  bag : ∀ b, C.b = some b → BagOk C.K H F b ∧ ¬ F b ∧ ¬ C.Z b
  tb : TBk C.K C.Z F H
/-- a value just made -/
inductive Res (C : Ctx) (r : Env) (σ : L2.St) (H : Hp) (F : AP) : V → DV → Prop
  | dat {v : V} {d : D} : DpF C.K H F v d → Res C r σ H F v (.dat d)
  | own {a : Addr} {xs : List V} {ds : List D} : H a = some (.lst xs) → DpFs C.K H F xs ds → ¬ F a → ¬ C.Z a → C.b ≠ some a →
      (∀ i es, sl r i = some es → es.hold = true → σ[i]? ≠ some (some (.ref a))) → Res C r σ H F (.ref a) (.own ds)
  | dct {a : Addr} {t : Bool} {kvs : List (D × D)} : DctR C.K H F a t kvs → ¬ F a → ¬ C.Z a → C.b ≠ some a →
      (∀ i es, sl r i = some es → es.hold = true → σ[i]? ≠ some (some (.ref a))) → Res C r σ H F (.ref a) (.dct t kvs)
  | nd {v : V} {ds : List D} : DpF C.K H F v (.tuple ds) → NdR H F v → Res C r σ H F v (.nd ds)
  | bag {a : Addr} : C.b = some a → Res C r σ H F (.ref a) .bag

theorem sl_putO : ∀ (r : Env) (i j : Nat) (v : Option DV), sl (putO r i v) j = if j = i then (if i < r.length then v else none) else sl r j
  | [], i, j, v => by simp [putO, sl]
  | x :: r, 0, 0, v => by simp [putO, sl]
  | x :: r, 0, j + 1, v => by simp [putO, sl]
  | x :: r, i + 1, 0, v => by simp [putO, sl]
  | x :: r, i + 1, j + 1, v => by
    simp only [putO, sl, sl_putO r i j v, List.length_cons, Nat.add_right_cancel_iff, Nat.add_lt_add_iff_right]
theorem len_putO : ∀ (r : Env) (i : Nat) (v : Option DV), (putO r i v).length = r.length
  | [], _, _ => rfl
  | _ :: _, 0, _ => rfl
  | _ :: r, i + 1, v => congrArg (· + 1) (len_putO r i v)
theorem sl_lt : ∀ {r : Env} {i : Nat} {v : DV}, sl r i = some v → i < r.length
  | [], _, _, h => by simp [sl] at h
  | _ :: _, 0, _, _ => Nat.succ_pos _
  | _ :: r, i + 1, _, h => Nat.succ_lt_succ (sl_lt (r := r) h)
theorem sl_put_some {r : Env} {i j : Nat} {v dv : DV} (h : sl (put r i v) j = some dv) : (j = i ∧ dv = v) ∨ (j ≠ i ∧ sl r j = some dv) := by
  rw [sl_putO] at h
  by_cases e : j = i
  · rw [if_pos e] at h
    split at h
    · exact .inl ⟨e, (Option.some.inj h).symm⟩
    · cases h
  · rw [if_neg e] at h
    exact .inr ⟨e, h⟩
theorem sl_put_none {r : Env} {i j : Nat} {dv : DV} (h : sl (putO r i none) j = some dv) : j ≠ i ∧ sl r j = some dv := by
  rw [sl_putO] at h
  by_cases e : j = i
  · rw [if_pos e] at h
    split at h <;> cases h
  · rw [if_neg e] at h
    exact ⟨e, h⟩

section
variable {C : Ctx} {r r' : Env} {σ σ' : L2.St} {H H' : Hp} {F F' : AP} {v : V} {dv : DV}
theorem SltR.mono {b : Option Addr} (l : Later H F H' F') (hk : ∀ a, v = .ref a → dv.hold = true → ¬ F a → H a ≠ none → H' a = H a ∧ ¬ F' a) (h : SltR C.K H F b v dv) : SltR C.K H' F' b v dv := by
  cases h with
  | dat h => exact .dat (h.mono l)
  | own h1 h2 h3 =>
    obtain ⟨e, n⟩ := hk _ rfl rfl h3 (by rw [h1]; simp)
    exact .own (e.trans h1) (h2.mono l) n
  | dct h1 h3 =>
    obtain ⟨e, n⟩ := hk _ rfl rfl h3 h1.ne.2
    exact .dct (h1.mono l e) n
  | nd h n => exact .nd (h.mono l) (n.mono l)
  | bag h => exact .bag h
theorem BagOk.mono {b : Addr} (l : Later H F H' F') (e : H' b = H b) (h : BagOk C.K H F b) : BagOk C.K H' F' b := by
  obtain ⟨c, i, j, k, cells, h1, h2, h3⟩ := h
  exact ⟨c, i, j, k, cells, e.trans h1, h2.mono l, h3⟩
/-- the slots as they are; the heap and what is frozen have grown -/
theorem Rep.grow (R : Rep C r σ H F) (l : Later H F H' F') (hs : ∀ a o, H a = some o → H' a = some o) (hf : ∀ a, F' a → F a ∨ (H a = none ∧ H' a ≠ none ∧ NT H' a)) : Rep C r σ H' F' where
  len := R.len
  slot := fun i dv e => by
    obtain ⟨v, e1, q⟩ := R.slot i dv e
    refine ⟨v, e1, SltR.mono (C := C) l (fun a ev _ nf nn => ⟨?_, fun z => ?_⟩) q⟩
    · cases hx : H a with
      | none => exact absurd hx nn
      | some o => exact hs _ _ hx
    rcases hf a z with z | ⟨z, _⟩
    · exact nf z
    · exact nn z
  dist := R.dist
  keep := fun a z => by
    obtain ⟨e, n⟩ := R.keep a z
    cases q : H a with
    | none => exact absurd q n
    | some o =>
      have q' := hs a o q
      exact ⟨q'.trans (q.symm.trans e), by rw [q']; simp⟩
  fsub := fun a z => (l a (R.fsub a z)).1
  fnew := fun a z => by
    rcases hf a z with z | ⟨z, _⟩
    · exact R.fnew a z
    · exact .inr fun q => (R.keep a q).2 z
  fz := R.fz
  ftrk := fun a z => by
    rcases hf a z with z | ⟨_, z, _⟩
    · have n := R.ftrk a z
      rw [(l a z).2]; exact n
    · exact z
  ownz := R.ownz
  bag := fun b e => by
    obtain ⟨k, nf, nz⟩ := R.bag b e
    obtain ⟨c, i, j, k', cells, h1, h2⟩ := id k
    refine ⟨BagOk.mono (C := C) l ((hs _ _ h1).trans h1.symm) k, fun z => ?_, nz⟩
    rcases hf b z with z | ⟨z, _⟩
    · exact nf z
    · rw [h1] at z; cases z
  tb := R.tb.grow hs (fun a z => (R.keep a z).2) fun a z => by
    rcases hf a z with z | ⟨_, _, n⟩
    · exact .inl ⟨z, R.ftrk a z⟩
    · exact .inr n
/-- a new object, frozen at once (a tuple) or not -/
theorem Rep.new {p : Addr} {o : HO} (R : Rep C r σ H F) (hp : H p = none) : Rep C r σ (upd H p o) F :=
  R.grow (fun a z => ⟨z, upd_ne fun e => R.ftrk a z (e ▸ hp)⟩) (fun a u e => by rw [upd_ne (ne_of_none e hp)]; exact e) fun a z => .inl z
theorem Rep.newF {p : Addr} {o : HO} (R : Rep C r σ H F) (hp : H p = none) (ho : ∀ ps, o ≠ .tbl ps := by intro _ z; cases z) : Rep C r σ (upd H p o) (fun a => F a ∨ a = p) :=
  R.grow (fun a z => ⟨.inl z, upd_ne fun e => R.ftrk a z (e ▸ hp)⟩) (fun a u e => by rw [upd_ne (ne_of_none e hp)]; exact e) fun a z => by
    rcases z with z | rfl
    · exact .inl z
    · exact .inr ⟨hp, by rw [upd_same]; simp, fun ps q => by rw [upd_same] at q; exact ho ps (Option.some.inj q)⟩
theorem later_new {p : Addr} {o : HO} (R : Rep C r σ H F) (hp : H p = none) : Later H F (upd H p o) (fun a => F a ∨ a = p) :=
  fun a z => ⟨.inl z, upd_ne fun e => R.ftrk a z (e ▸ hp)⟩
theorem later_new0 {p : Addr} {o : HO} (R : Rep C r σ H F) (hp : H p = none) : Later H F (upd H p o) F :=
  fun a z => ⟨z, upd_ne fun e => R.ftrk a z (e ▸ hp)⟩
/-- a tracked list that nobody holds is frozen -/
theorem Rep.freezeT {a : Addr} {xs : List V} (R : Rep C r σ H F) (ha : H a = some (.lst xs)) (nf : ¬ F a) (nz : ¬ C.Z a) (nb : C.b ≠ some a) (no : ∀ i es, sl r i = some es → es.hold = true → σ[i]? ≠ some (some (.ref a))) :
    Rep C r σ H (fun x => F x ∨ x = a) where
  len := R.len
  slot := fun i dv e => by
    obtain ⟨v, e1, q⟩ := R.slot i dv e
    have l : Later H F H (fun x => F x ∨ x = a) := fun x z => ⟨.inl z, rfl⟩
    cases q with
    | dat q => exact ⟨_, e1, .dat (q.mono l)⟩
    | own h1 h2 h3 => exact ⟨_, e1, .own h1 (h2.mono l) fun z => z.elim h3 fun z => no i _ e rfl (z ▸ e1)⟩
    | dct h1 h3 => exact ⟨_, e1, .dct (h1.mono l rfl) fun z => z.elim h3 fun z => no i _ e rfl (z ▸ e1)⟩
    | nd h n => exact ⟨_, e1, .nd (h.mono l) (n.mono l)⟩
    | bag h => exact ⟨_, e1, .bag h⟩
  dist := R.dist
  keep := R.keep
  fsub := fun x z => .inl (R.fsub x z)
  fnew := fun x z => z.elim (R.fnew x) fun z => .inr (z ▸ nz)
  fz := R.fz
  ftrk := fun x z => z.elim (R.ftrk x) fun z => by rw [z, ha]; simp
  ownz := R.ownz
  bag := fun b e => by
    obtain ⟨k, nf', nz'⟩ := R.bag b e
    exact ⟨BagOk.mono (C := C) (fun x z => ⟨.inl z, rfl⟩) rfl k, fun z => z.elim nf' fun z => nb (z ▸ e), nz'⟩
  tb := R.tb.imp R.tb.z fun x z => z.elim (R.tb.f x) fun z => z ▸ nt_lst ha
theorem later_fr {a : Addr} : Later H F H (fun x => F x ∨ x = a) := fun x z => ⟨.inl z, rfl⟩
/-- a slot takes a value -/
theorem Rep.store {i : Nat} (R : Rep C r σ H F) (q : Res C r σ H F v dv) : Rep C (put r i dv) (σ.set i (some v)) H F where
  len := by rw [len_putO, List.length_set]; exact R.len
  slot := fun j d e => by
    have hj : j < r.length := by have := sl_lt e; rwa [len_putO] at this
    rcases sl_put_some e with ⟨rfl, rfl⟩ | ⟨ne, e'⟩
    · refine ⟨v, List.getElem?_set_self (by rw [← R.len]; exact hj), ?_⟩
      cases q with
      | dat q => exact .dat q
      | own h1 h2 h3 => exact .own h1 h2 h3
      | dct h1 h3 => exact .dct h1 h3
      | nd h n => exact .nd h n
      | bag h => exact .bag h
    · rw [List.getElem?_set_ne (Ne.symm ne)]
      exact R.slot j d e'
  dist := fun j k dj dk a e1 e2 o1 o2 s1 s2 => by
    have hj : j < σ.length := by have := sl_lt e1; rw [len_putO] at this; rw [← R.len]; exact this
    have hk : k < σ.length := by have := sl_lt e2; rw [len_putO] at this; rw [← R.len]; exact this
    rcases sl_put_some e1 with ⟨rfl, q1⟩ | ⟨n1, q1⟩ <;> rcases sl_put_some e2 with ⟨rfl, q2⟩ | ⟨n2, q2⟩
    · rfl
    · rw [List.getElem?_set_self hj] at s1
      rw [List.getElem?_set_ne (Ne.symm n2)] at s2
      cases s1
      subst q1
      cases q with
      | dat _ => cases o1
      | nd _ _ => cases o1
      | bag _ => cases o1
      | dct _ _ _ _ no => exact absurd s2 (no k _ q2 o2)
      | own _ _ _ _ _ no => exact absurd s2 (no k _ q2 o2)
    · rw [List.getElem?_set_self hk] at s2
      rw [List.getElem?_set_ne (Ne.symm n1)] at s1
      cases s2
      subst q2
      cases q with
      | dat _ => cases o2
      | nd _ _ => cases o2
      | bag _ => cases o2
      | dct _ _ _ _ no => exact absurd s1 (no j _ q1 o1)
      | own _ _ _ _ _ no => exact absurd s1 (no j _ q1 o1)
    · rw [List.getElem?_set_ne (Ne.symm n1)] at s1
      rw [List.getElem?_set_ne (Ne.symm n2)] at s2
      exact R.dist j k dj dk a q1 q2 o1 o2 s1 s2
  keep := R.keep
  fsub := R.fsub
  fnew := R.fnew
  fz := R.fz
  ftrk := R.ftrk
  ownz := fun j ds a e o1 s1 => by
    have hj : j < σ.length := by have := sl_lt e; rw [len_putO] at this; rw [← R.len]; exact this
    rcases sl_put_some e with ⟨rfl, q1⟩ | ⟨n1, q1⟩
    · rw [List.getElem?_set_self hj] at s1
      cases s1
      subst q1
      cases q with
      | dat _ => cases o1
      | nd _ _ => cases o1
      | bag _ => cases o1
      | dct _ _ nz nb _ => exact ⟨nz, nb⟩
      | own _ _ _ nz nb _ => exact ⟨nz, nb⟩
    · rw [List.getElem?_set_ne (Ne.symm n1)] at s1
      exact R.ownz j ds a q1 o1 s1
  bag := R.bag
  tb := R.tb
/-- a name is given up (the frame may still hold it) -/
theorem Rep.drop {i : Nat} (R : Rep C r σ H F) : Rep C (putO r i none) σ H F where
  len := by rw [len_putO]; exact R.len
  slot := fun j d e => R.slot j d (sl_put_none e).2
  dist := fun j k dj dk a e1 e2 => R.dist j k dj dk a (sl_put_none e1).2 (sl_put_none e2).2
  keep := R.keep
  fsub := R.fsub
  fnew := R.fnew
  fz := R.fz
  ftrk := R.ftrk
  ownz := fun j ds a e => R.ownz j ds a (sl_put_none e).2
  bag := R.bag
  tb := R.tb
/-- the list in a slot is frozen -/
theorem Rep.freeze {i : Nat} {ds : List D} {a : Addr} {xs : List V} (R : Rep C r σ H F) (e : sl r i = some (.own ds)) (e1 : σ[i]? = some (some (.ref a))) (ha : H a = some (.lst xs)) (hd : DpFs C.K H F xs ds) (nf : ¬ F a) :
    Rep C (put r i (.dat (.list ds))) σ H (fun x => F x ∨ x = a) ∧ DpF C.K H (fun x => F x ∨ x = a) (.ref a) (.list ds) := by
  obtain ⟨nz, nb⟩ := R.ownz i _ a e rfl e1
  have R1 : Rep C (putO r i none) σ H F := R.drop
  have R2 := R1.freezeT ha nf nz nb fun j es e2 o2 s2 => by
    obtain ⟨n, e3⟩ := sl_put_none e2
    exact n (R.dist j i es _ a e3 e o2 rfl s2 e1)
  have hv : DpF C.K H (fun x => F x ∨ x = a) (.ref a) (.list ds) := .lst ⟨.inr rfl, ha⟩ (hd.mono later_fr)
  refine ⟨?_, hv⟩
  have R3 := R2.store (i := i) (v := .ref a) (dv := .dat (.list ds)) (.dat hv)
  have q : put (putO r i none) i (.dat (.list ds)) = put r i (.dat (.list ds)) := by
    clear R R1 R2 R3 hv e e1
    induction r generalizing i with
    | nil => rfl
    | cons x r ih =>
      cases i with
      | zero => rfl
      | succ i => exact congrArg (x :: ·) (ih)
  rw [q] at R3
  have qs : σ.set i (some (.ref a)) = σ := by
    apply List.ext_getElem?
    intro j
    by_cases h : i = j
    · subst h
      have hl : i < σ.length := (List.getElem?_eq_some_iff.mp e1).1
      rw [List.getElem?_set_self hl, e1]
    · rw [List.getElem?_set_ne h]
  rwa [qs] at R3
/-- the floor: nothing that is frozen now, nor what T names, will change -/
def Ctx.up (C : Ctx) (H : Hp) (F T : AP) : Ctx := { C with Z := fun a => C.Z a ∨ F a ∨ T a, HZ := H, F0 := F }
theorem Rep.up {T : AP} (R : Rep C r σ H F) (ht : ∀ a, T a → H a ≠ none ∧ C.b ≠ some a ∧ (∀ i es, sl r i = some es → es.hold = true → σ[i]? ≠ some (some (.ref a))) ∧ NT H a) : Rep (C.up H F T) r σ H F where
  len := R.len
  slot := R.slot
  dist := R.dist
  keep := fun a z => ⟨rfl, by
    rcases z with z | z | z
    · exact (R.keep a z).2
    · exact R.ftrk a z
    · exact (ht a z).1⟩
  fsub := fun _ z => z
  fnew := fun _ z => .inl z
  fz := fun _ z => .inr (.inl z)
  ftrk := R.ftrk
  ownz := fun i ds a e o1 e1 => by
    obtain ⟨nz, nb⟩ := R.ownz i ds a e o1 e1
    refine ⟨fun z => ?_, nb⟩
    rcases z with z | z | z
    · exact nz z
    · obtain ⟨v, e2, q⟩ := R.slot i _ e
      rw [e1] at e2; cases e2
      cases q with
      | own _ _ nf => exact nf z
      | dct _ nf => exact nf z
      | nd _ _ => cases o1
      | dat _ => cases o1
      | bag _ => cases o1
    · exact (ht a z).2.2.1 i ds e o1 e1
  bag := fun b e => by
    obtain ⟨k, nf, nz⟩ := R.bag b e
    refine ⟨k, nf, fun z => ?_⟩
    rcases z with z | z | z
    · exact nz z
    · exact nf z
    · exact (ht b z).2.1 e
  tb := R.tb.imp (fun a z => z.elim (R.tb.z a) fun z => z.elim (R.tb.f a) fun z => (ht a z).2.2.2) R.tb.f
theorem Rep.down {T : AP} (R : Rep C r σ H F) (R' : Rep (C.up H F T) r' σ' H' F') : Rep C r' σ' H' F' where
  len := R'.len
  slot := R'.slot
  dist := R'.dist
  keep := fun a z => by
    obtain ⟨e, n⟩ := R'.keep a (.inl z)
    exact ⟨e.trans (R.keep a z).1, n⟩
  fsub := fun a z => R'.fsub a (R.fsub a z)
  fnew := fun a z => by
    rcases R'.fnew a z with z | z
    · exact R.fnew a z
    · exact .inr fun q => z (.inl q)
  fz := R.fz
  ftrk := R'.ftrk
  ownz := fun i ds a e o1 e1 => by
    obtain ⟨nz, nb⟩ := R'.ownz i ds a e o1 e1
    exact ⟨fun z => nz (.inl z), nb⟩
  bag := fun b e => by
    obtain ⟨k, nf, nz⟩ := R'.bag b e
    exact ⟨k, nf, fun z => nz (.inl z)⟩
  tb := R'.tb.imp (fun a z => R'.tb.z a (.inl z)) R'.tb.f
theorem Rep.later {T : AP} (R' : Rep (C.up H F T) r' σ' H' F') : Later H F H' F' := fun a z => ⟨R'.fsub a z, (R'.keep a (.inr (.inl z))).1⟩
theorem Rep.still {T : AP} {a : Addr} (R' : Rep (C.up H F T) r' σ' H' F') (ht : T a) (nf : ¬ F a) : H' a = H a ∧ ¬ F' a :=
  ⟨(R'.keep a (.inr (.inr ht))).1, fun z => (R'.fnew a z).elim nf fun q => q (.inr (.inr ht))⟩
theorem Res.down {T : AP} (q : Res (C.up H F T) r' σ' H' F' v dv) : Res C r' σ' H' F' v dv := by
  cases q with
  | dat q => exact .dat q
  | own h1 h2 h3 h4 h5 h6 => exact .own h1 h2 h3 (fun z => h4 (.inl z)) h5 h6
  | dct h1 h3 h4 h5 h6 => exact .dct h1 h3 (fun z => h4 (.inl z)) h5 h6
  | nd h n => exact .nd h n
  | bag h => exact .bag h
def noT : AP := fun _ => False
theorem Rep.up0 (R : Rep C r σ H F) : Rep (C.up H F noT) r σ H F := R.up fun _ z => z.elim
end
end DL

/-! DL, part 3: what an expression, a statement of the text means over data; defs. -/
namespace DL
open PySem PySem.Spec L2

/-- a value that is looked at now: data, or the list that a slot holds alone -/
def DpT (K : PySem.W.Frag) (H : Hp) (F : AP) (v : V) (d : D) : Prop :=
  DpF K H F v d ∨ ∃ a xs ds, v = .ref a ∧ d = .list ds ∧ H a = some (.lst xs) ∧ DpFs K H F xs ds
inductive DpTs (K : PySem.W.Frag) (H : Hp) (F : AP) : List V → List D → Prop
  | nil : DpTs K H F [] []
  | cons {v : V} {vs : List V} {d : D} {ds : List D} : DpT K H F v d → DpTs K H F vs ds → DpTs K H F (v :: vs) (d :: ds)
theorem DpT.dp {K : PySem.W.Frag} {H : Hp} {F : AP} {v : V} {d : D} (h : DpT K H F v d) : Dp K H v d := by
  rcases h with h | ⟨a, xs, ds, rfl, rfl, h1, h2⟩
  · exact h.dp
  · exact .lst (.inl (.inl h1)) h2.dps
theorem DpT.lst {K : PySem.W.Frag} {H : Hp} {F : AP} {v : V} {ds : List D} (h : DpT K H F v (.list ds)) : ∃ a xs, v = .ref a ∧ H a = some (.lst xs) ∧ DpFs K H F xs ds := by
  rcases h with h | ⟨a, xs, ds', rfl, e, h1, h2⟩
  · cases h with
    | lst h hs => exact ⟨_, _, rfl, h.2, hs⟩
  · cases e
    exact ⟨_, _, rfl, h1, h2⟩
theorem DpT.tup {K : PySem.W.Frag} {H : Hp} {F : AP} {v : V} {ds : List D} (h : DpT K H F v (.tuple ds)) : ∃ a xs, v = .ref a ∧ SqT K H a xs ∧ DpFs K H F xs ds ∧ ((F a ∧ Rd H a (.tup xs)) ∨ KT K a xs) := by
  rcases h with h | ⟨a, xs, ds', rfl, e, h1, h2⟩
  · cases h with
    | tup h hs => exact ⟨_, _, rfl, h.elim (fun p => .inl p.2) fun p => p.sq H, hs, h⟩
  · cases e
theorem DpT.int {K : PySem.W.Frag} {H : Hp} {F : AP} {v : V} {i : Int} (h : DpT K H F v (.int i)) : v = .int i := by
  rcases h with h | ⟨a, xs, ds', rfl, e, h1, h2⟩
  · cases h; rfl
  · cases e
theorem DpT.bl {K : PySem.W.Frag} {H : Hp} {F : AP} {v : V} {i : Bool} (h : DpT K H F v (.bool i)) : v = .bl i := by
  rcases h with h | ⟨a, xs, ds', rfl, e, h1, h2⟩
  · cases h; rfl
  · cases e
theorem DpT.str {K : PySem.W.Frag} {H : Hp} {F : AP} {v : V} {i : Str} (h : DpT K H F v (.str i)) : v = .str i := by
  rcases h with h | ⟨a, xs, ds', rfl, e, h1, h2⟩
  · cases h; rfl
  · cases e
theorem DpT.non {K : PySem.W.Frag} {H : Hp} {F : AP} {v : V} (h : DpT K H F v .none) : v = .non := by
  rcases h with h | ⟨a, xs, ds', rfl, e, h1, h2⟩
  · cases h; rfl
  · cases e

def ErrR (mg : Str → Option Value) (K : PySem.W.Frag) (H : Hp) (F : AP) (cls : Value) (d : Option Addr) (er : Err) : Prop :=
  ∃ (Cc : Addr), mg er.cls = some (.ref Cc) ∧ cls = .ref Cc ∧ ((er.fs = [] ∧ d = none) ∨ ∃ (dd : Addr) (vs : List V), d = some dd ∧ H dd = some (.xd (List.zip (er.fs.map (·.1)) vs)) ∧ DpFs K H F vs (er.fs.map (·.2)))
/-- the errors that the data's side lets out are wished for -/
def Link (X : Cx) (W : WX) (Xk : XW) (C : Ctx) (σ : L2.St) : Prop :=
  ∀ er r' H' F' cls d, Rep C r' σ H' F' → ErrR X.mg C.K H' F' cls d er → Xk er r' → W cls d σ H'
theorem Link.up {X : Cx} {W : WX} {Xk : XW} {C : Ctx} {r : Env} {σ σ' : L2.St} {H : Hp} {F T : AP} (l : Link X W Xk C σ') (R : Rep C r σ H F) : Link X W Xk (C.up H F T) σ' :=
  fun er r' H' F' cls d R' e q => l er r' H' F' cls d (R.down R') e q
/-- an operand's data, whenever it is looked at -/
def Gd (C : Ctx) (σ : L2.St) (v : V) (g : Get) (H : Hp) (F : AP) : Prop :=
  ∀ H' F' r' d, Rep C r' σ H' F' → Later H F H' F' → g r' = some d → DpT C.K H' F' v d
section
variable (X : Cx) (W : WX)
structure DE (e : Expr) (f : TX) : Prop where
  ex : ∃ t, PE X e t ∧ ∀ (C : Ctx) (r : Env) (σ : L2.St) (H : Hp) (F : AP) (Q : DV → Env → Prop) (Xk : XW) (QV : VK), C.K = X.K → Rep C r σ H F → Link X W Xk C σ → f Xk r Q →
    (∀ v H' F' dv r', Rep C r' σ H' F' → Res C r' σ H' F' v dv → Q dv r' → QV v H') → t σ H QV
structure DO (e : Expr) (f : OX) : Prop where
  ex : ∃ t, PE X e t ∧ ∀ (C : Ctx) (r : Env) (σ : L2.St) (H : Hp) (F : AP) (Q : Get → Env → Prop) (Xk : XW) (QV : VK), C.K = X.K → Rep C r σ H F → Link X W Xk C σ → f Xk r Q →
    (∀ v H' F' g r', Rep C r' σ H' F' → Gd C σ v g H' F' → Q g r' → QV v H') → t σ H QV
structure DT (e : Expr) (f : TB) : Prop where
  ex : ∃ t, PT X e t ∧ ∀ (C : Ctx) (r : Env) (σ : L2.St) (H : Hp) (F : AP) (Q : Bool → Env → Prop) (Xk : XW) (QV : Bool → Hp → Prop), C.K = X.K → Rep C r σ H F → Link X W Xk C σ → f Xk r Q →
    (∀ b H' F' r', Rep C r' σ H' F' → Q b r' → QV b H') → t σ H QV
structure DW (e : Expr) (f : TB) : Prop where
  ex : ∃ t, PW X e t ∧ ∀ (C : Ctx) (r : Env) (σ : L2.St) (H : Hp) (F : AP) (Q : Bool → Env → Prop) (Xk : XW) (QV : Bool → Hp → Prop), C.K = X.K → Rep C r σ H F → Link X W Xk C σ → f Xk r Q →
    (∀ b H' F' r', Rep C r' σ H' F' → Q b r' → QV b H') → t σ H QV
/-- arguments: data or the bag -/
inductive ArgR (K : PySem.W.Frag) (H : Hp) (F : AP) (b : Option Addr) : List V → List DV → Prop
  | nil : ArgR K H F b [] []
  | dat {v : V} {d : D} {vs : List V} {ds : List DV} : DpF K H F v d → ArgR K H F b vs ds → ArgR K H F b (v :: vs) (.dat d :: ds)
  | bag {a : Addr} {vs : List V} {ds : List DV} : b = some a → ArgR K H F b vs ds → ArgR K H F b (.ref a :: vs) (.bag :: ds)
structure DA (es : List Expr) (f : AX) : Prop where
  ex : ∃ t, PA X es t ∧ ∀ (C : Ctx) (r : Env) (σ : L2.St) (H : Hp) (F : AP) (Q : List DV → Env → Prop) (Xk : XW) (QV : List V → Hp → Prop), C.K = X.K → Rep C r σ H F → Link X W Xk C σ → f Xk r Q →
    (∀ vs H' F' ds r', vs.length = es.length → Rep C r' σ H' F' → ArgR C.K H' F' C.b vs ds → Q ds r' → QV vs H') → t σ H QV
inductive GdAll (C : Ctx) (σ : L2.St) (H : Hp) (F : AP) : List V → List Get → Prop
  | nil : GdAll C σ H F [] []
  | cons {v : V} {g : Get} {vs : List V} {gs : List Get} : Gd C σ v g H F → GdAll C σ H F vs gs → GdAll C σ H F (v :: vs) (g :: gs)
structure DOA (es : List Expr) (f : OAX) : Prop where
  ex : ∃ t, PA X es t ∧ ∀ (C : Ctx) (r : Env) (σ : L2.St) (H : Hp) (F : AP) (Q : List Get → Env → Prop) (Xk : XW) (QV : List V → Hp → Prop), C.K = X.K → Rep C r σ H F → Link X W Xk C σ → f Xk r Q →
    (∀ vs H' F' gs r', Rep C r' σ H' F' → GdAll C σ H' F' vs gs → Q gs r' → QV vs H') → t σ H QV
end
theorem ArgR.mono {K : PySem.W.Frag} {H H' : Hp} {F F' : AP} {b : Option Addr} (l : Later H F H' F') : ∀ {vs : List V} {ds : List DV}, ArgR K H F b vs ds → ArgR K H' F' b vs ds
  | _, _, .nil => .nil
  | _, _, .dat h hs => .dat (h.mono l) (ArgR.mono l hs)
  | _, _, .bag h hs => .bag h (ArgR.mono l hs)
theorem ArgR.length {K : PySem.W.Frag} {H : Hp} {F : AP} {b : Option Addr} : ∀ {vs : List V} {ds : List DV}, ArgR K H F b vs ds → vs.length = ds.length
  | _, _, .nil => rfl
  | _, _, .dat _ hs => congrArg (· + 1) (ArgR.length hs)
  | _, _, .bag _ hs => congrArg (· + 1) (ArgR.length hs)
theorem ArgR.all {K : PySem.W.Frag} {H : Hp} {F : AP} {b : Option Addr} : ∀ {vs : List V} {ds : List DV} {es : List D}, ArgR K H F b vs ds → allD ds = some es → DpFs K H F vs es
  | _, _, _, .nil, e => by cases e; exact .nil
  | _, _, es, .dat (ds := ds) h hs, e => by
    simp only [allD] at e
    cases q : allD ds with
    | none => rw [q] at e; cases e
    | some x => rw [q] at e; cases e; exact .cons h (ArgR.all hs q)
  | _, _, _, .bag _ _, e => by cases e
theorem Gd.mono {C : Ctx} {σ : L2.St} {v : V} {g : Get} {H H' : Hp} {F F' : AP} (l : Later H F H' F') (h : Gd C σ v g H F) : Gd C σ v g H' F' :=
  fun H2 F2 r2 d R l2 e => h H2 F2 r2 d R (l.trans l2) e
theorem Gd.down {C : Ctx} {σ : L2.St} {v : V} {g : Get} {H1 H : Hp} {F1 F T : AP} (h : Gd (C.up H1 F1 T) σ v g H F) (k : ∀ H' F' r', Rep C r' σ H' F' → Later H F H' F' → Rep (C.up H1 F1 T) r' σ H' F') : Gd C σ v g H F :=
  fun H2 F2 r2 d R l2 e => h H2 F2 r2 d (k H2 F2 r2 R l2) l2 e
theorem gets_of {C : Ctx} {r : Env} {σ : L2.St} {H : Hp} {F : AP} (R : Rep C r σ H F) : ∀ {vs : List V} {gs : List Get} {ds : List D}, GdAll C σ H F vs gs → gets gs r = some ds → DpTs C.K H F vs ds
  | _, _, _, .nil, e => by cases e; exact .nil
  | _, _, _, .cons (g := g) (gs := gs) h hs, e => by
    simp only [gets] at e
    split at e
    · rename_i d ds' e1 e2
      cases e
      exact .cons (h _ _ _ _ R Later.refl e1) (gets_of R hs e2)
    · cases e

section
variable {X : Cx} {W : WX} {e a b c : Expr} {es : List Expr} {f h k : TX} {pos : Pos}
/-! ### names, constants -/
theorem de_c {v : V} {d : D} (p : PE X e (tC v)) (q : ∀ K H F, DpF K H F v d) : DE X W e (xC d) :=
  ⟨⟨_, p, fun C r σ H F Q Xk QV _ R _ hf k => k v H F _ r R (.dat (q _ _ _)) hf⟩⟩
theorem de_int {i : Int} {j : Nat} : DE X W (.Constant (.int i) j pos) (xC (.int i)) := de_c pe_int fun _ _ _ => .int i
theorem de_bl {i : Bool} {j : Nat} : DE X W (.Constant (.bool i) j pos) (xC (.bool i)) := de_c pe_bl fun _ _ _ => .bl i
theorem de_str {i : Str} {j : Nat} : DE X W (.Constant (.str i) j pos) (xC (.str i)) := de_c pe_str fun _ _ _ => .str i
theorem de_non {j : Nat} : DE X W (.Constant .none j pos) (xC .none) := de_c pe_non fun _ _ _ => .non
theorem de_var {i : Nat} (p : PE X e (tVar i)) : DE X W e (xVar i) := by
  refine ⟨⟨_, p, fun C r σ H F Q Xk QV _ R _ hf k => ?_⟩⟩
  unfold xVar at hf
  cases q : sl r i with
  | none => rw [q] at hf; exact hf.elim
  | some dv =>
    rw [q] at hf
    obtain ⟨v, e1, sr⟩ := R.slot i dv q
    refine ⟨v, e1, ?_⟩
    cases sr with
    | dat s => exact k v H F _ r R (.dat s) hf
    | own h1 h2 h3 =>
      obtain ⟨R2, s2⟩ := R.freeze q e1 h1 h2 h3
      exact k _ H _ _ _ R2 (.dat s2) hf
    | dct _ _ => exact hf.elim
    | nd s n => exact k v H F _ r R (.nd s n) hf
    | bag s => exact k _ H F _ r R (.bag s) hf
theorem de_mv {i : Nat} (p : PE X e (tVar i)) : DE X W e (xMv i) := by
  refine ⟨⟨_, p, fun C r σ H F Q Xk QV _ R _ hf k => ?_⟩⟩
  unfold xMv at hf
  cases q : sl r i with
  | none => rw [q] at hf; exact hf.elim
  | some dv =>
    rw [q] at hf
    obtain ⟨v, e1, sr⟩ := R.slot i dv q
    refine ⟨v, e1, k v H F dv _ R.drop ?_ hf⟩
    cases sr with
    | dat s => exact .dat s
    | own h1 h2 h3 =>
      obtain ⟨nz, nb⟩ := R.ownz i _ _ q rfl e1
      exact .own h1 h2 h3 nz nb fun j es e2 o2 s2 => (sl_put_none e2).1 (R.dist j i es _ _ (sl_put_none e2).2 q o2 rfl s2 e1)
    | dct h1 h3 =>
      obtain ⟨nz, nb⟩ := R.ownz i _ _ q rfl e1
      exact .dct h1 h3 nz nb fun j es e2 o2 s2 => (sl_put_none e2).1 (R.dist j i es _ _ (sl_put_none e2).2 q o2 rfl s2 e1)
    | nd s n => exact .nd s n
    | bag s => exact .bag s
/-! ### operands -/
theorem do_v {i : Nat} (p : PE X e (tVar i)) : DO X W e (oV i) := by
  refine ⟨⟨_, p, fun C r σ H F Q Xk QV _ R _ hf k => ?_⟩⟩
  unfold oV at hf
  cases q : sl r i with
  | none => rw [q] at hf; exact hf.elim
  | some dv =>
    rw [q] at hf
    obtain ⟨v, e1, _⟩ := R.slot i dv q
    refine ⟨v, e1, k v H F _ r R (fun H' F' r' d R' _ eg => ?_) hf⟩
    cases q' : sl r' i with
    | none => rw [q'] at eg; cases eg
    | some dv' =>
      rw [q'] at eg
      obtain ⟨v', e2, sr⟩ := R'.slot i dv' q'
      rw [e1] at e2; cases e2
      cases sr with
      | dat s => cases eg; exact .inl s
      | own h1 h2 h3 => cases eg; exact .inr ⟨_, _, _, rfl, rfl, h1, h2⟩
      | dct _ _ => cases eg
      | nd s _ => cases eg; exact .inl s
      | bag s => cases eg
theorem Res.froz {C : Ctx} {r : Env} {σ : L2.St} {H : Hp} {F : AP} {v : V} {dv : DV} {d : D} (R : Rep C r σ H F) (q : Res C r σ H F v dv) (e : dv.toD = some d) :
    ∃ F', Rep C r σ H F' ∧ DpF C.K H F' v d ∧ Later H F H F' := by
  cases q with
  | dat s => cases e; exact ⟨F, R, s, Later.refl⟩
  | own h1 h2 h3 h4 h5 h6 =>
    cases e
    exact ⟨_, R.freezeT h1 h3 h4 h5 h6, .lst ⟨.inr rfl, h1⟩ (h2.mono later_fr), later_fr⟩
  | dct _ _ _ _ _ => cases e
  | nd s _ => cases e; exact ⟨F, R, s, Later.refl⟩
  | bag s => cases e
theorem do_e (p : DE X W e f) : DO X W e (oE f) := by
  obtain ⟨t, pe, ent⟩ := p.ex
  refine ⟨⟨t, pe, fun C r σ H F Q Xk QV hK R L hf k => ?_⟩⟩
  refine ent C r σ H F _ Xk QV hK R L hf fun v H1 F1 dv r1 R1 G1 q1 => ?_
  cases q : dv.toD with
  | none => rw [q] at q1; exact q1.elim
  | some d =>
    rw [q] at q1
    obtain ⟨F2, R2, s2, _⟩ := G1.froz R1 q
    exact k v H1 F2 _ r1 R2 (fun H' F' r' d' _ l eg => by cases eg; exact .inl (s2.mono l)) q1
/-! ### operators -/
def Sem2 (K : PySem.W.Frag) (p : R2) (o : Op2) : Prop := ∀ (C : Ctx) (r : Env) (σ : L2.St) (H : Hp) (F : AP) (x y : V) (dx dy : D) (Q : DV → Prop) (QV : VK), C.K = K → Rep C r σ H F → DpT C.K H F x dx → DpT C.K H F y dy → o dx dy Q →
  (∀ v H' F' dv, Rep C r σ H' F' → Later H F H' F' → Res C r σ H' F' v dv → Q dv → QV v H') → p x y H QV
theorem bin_ent {ta tb : TE} {p : R2} {o : Op2} {oa ob : OX} (hs : Sem2 X.K p o)
    (ea : ∀ (C : Ctx) (r : Env) (σ : L2.St) (H : Hp) (F : AP) (Q : Get → Env → Prop) (Xk : XW) (QV : VK), C.K = X.K → Rep C r σ H F → Link X W Xk C σ → oa Xk r Q → (∀ v H' F' g r', Rep C r' σ H' F' → Gd C σ v g H' F' → Q g r' → QV v H') → ta σ H QV)
    (eb : ∀ (C : Ctx) (r : Env) (σ : L2.St) (H : Hp) (F : AP) (Q : Get → Env → Prop) (Xk : XW) (QV : VK), C.K = X.K → Rep C r σ H F → Link X W Xk C σ → ob Xk r Q → (∀ v H' F' g r', Rep C r' σ H' F' → Gd C σ v g H' F' → Q g r' → QV v H') → tb σ H QV) :
    ∀ (C : Ctx) (r : Env) (σ : L2.St) (H : Hp) (F : AP) (Q : DV → Env → Prop) (Xk : XW) (QV : VK), C.K = X.K → Rep C r σ H F → Link X W Xk C σ → xB o oa ob Xk r Q → (∀ v H' F' dv r', Rep C r' σ H' F' → Res C r' σ H' F' v dv → Q dv r' → QV v H') → tOp p ta tb σ H QV := by
  intro C r σ H F Q Xk QV hK R L hf k
  refine ea C r σ H F _ Xk _ hK R L hf fun v1 H1 F1 g r1 R1 G1 q1 => ?_
  refine eb (C.up H1 F1 noT) r1 σ H1 F1 _ Xk _ hK R1.up0 (L.up R1) q1 fun v2 H2 F2 g2 r2 R2' G2 q2 => ?_
  have R2 := R1.down R2'
  have l := R2'.later
  split at q2
  · rename_i x y ex ey
    exact hs C r2 σ H2 F2 v1 v2 x y _ QV hK R2 (G1 _ _ _ _ R2 l ex) (G2 _ _ _ _ R2' Later.refl ey) q2 fun v H' F' dv R' _ G' q' => k v H' F' dv r2 R' G' q'
  · exact q2.elim
theorem de_bin {op : Operator} {p : R2} {o : Op2} {oa ob : OX} (ho : OpR X (binaryOp op) p) (hs : Sem2 X.K p o) (ha : DO X W a oa) (hb : DO X W b ob) : DE X W (.BinOp a op b pos) (xB o oa ob) := by
  obtain ⟨ta, pa, ea⟩ := ha.ex
  obtain ⟨tb, pb, eb⟩ := hb.ex
  exact ⟨⟨tOp p ta tb, pe_op ho pa pb, bin_ent hs ea eb⟩⟩
theorem de_cmp {op : CmpOp} {p : R2} {o : Op2} {oa ob : OX} (ho : OpR X (compareOp op) p) (hs : Sem2 X.K p o) (ha : DO X W a oa) (hb : DO X W b ob) (hm : behindInMarks op b = false) : DE X W (.Compare a [op] [b] pos) (xB o oa ob) := by
  obtain ⟨ta, pa, ea⟩ := ha.ex
  obtain ⟨tb, pb, eb⟩ := hb.ex
  exact ⟨⟨tOp p ta tb, pe_cmpR ho pa pb hm, bin_ent hs ea eb⟩⟩
theorem dt_cmp {op : CmpOp} {p : R2} {o : Op2} {oa ob : OX} (ho : OpR X (compareOp op) p) (hs : Sem2 X.K p o) (ha : DO X W a oa) (hb : DO X W b ob) (hm : behindInMarks op b = false) : DT X W (.Compare a [op] [b] pos) (bX (xB o oa ob)) := by
  obtain ⟨ta, pa, ea⟩ := ha.ex
  obtain ⟨tb, pb, eb⟩ := hb.ex
  refine ⟨⟨_, pt_cmpR ho pa pb hm, fun C r σ H F Q Xk QV hK R L hf k => ?_⟩⟩
  refine bin_ent hs ea eb C r σ H F _ Xk _ hK R L hf fun v H' F' dv r' R' G' q' => ?_
  split at q'
  · rename_i bb
    cases G' with
    | dat s =>
      cases s
      exact ⟨_, rfl, k bb H' F' r' R' q'⟩
  · exact q'.elim
theorem de_ix {p : R2} {o : Op2} {oa ob : OX} (ho : IxR X p) (hs : Sem2 X.K p o) (ha : DO X W a oa) (hb : DO X W b ob) (hp : PlainIx b) : DE X W (.Subscript a b pos) (xB o oa ob) := by
  obtain ⟨ta, pa, ea⟩ := ha.ex
  obtain ⟨tb, pb, eb⟩ := hb.ex
  exact ⟨⟨tOp p ta tb, pe_ix ho pa pb hp, bin_ent hs ea eb⟩⟩
def Sem1 (K : PySem.W.Frag) (p : V → Hp → VK → Prop) (o : D → (DV → Prop) → Prop) : Prop := ∀ (C : Ctx) (r : Env) (σ : L2.St) (H : Hp) (F : AP) (x : V) (dx : D) (Q : DV → Prop) (QV : VK), C.K = K → Rep C r σ H F → DpT C.K H F x dx → o dx Q →
  (∀ v H' F' dv, Rep C r σ H' F' → Later H F H' F' → Res C r σ H' F' v dv → Q dv → QV v H') → p x H QV
theorem de_un {op : UnaryOp} {p : V → Hp → VK → Prop} {o : D → (DV → Prop) → Prop} {oa : OX} (ho : UnR X (unaryOp op) p) (hs : Sem1 X.K p o) (ha : DO X W a oa) : DE X W (.UnaryOp op a pos) (xU o oa) := by
  obtain ⟨ta, pa, ea⟩ := ha.ex
  refine ⟨⟨_, pe_un ho pa, fun C r σ H F Q Xk QV hK R L hf k => ?_⟩⟩
  refine ea C r σ H F _ Xk _ hK R L hf fun v1 H1 F1 g r1 R1 G1 q1 => ?_
  split at q1
  · rename_i x ex
    exact hs C r1 σ H1 F1 v1 x _ QV hK R1 (G1 _ _ _ _ R1 Later.refl ex) q1 fun v H' F' dv R' _ G' q' => k v H' F' dv r1 R' G' q'
  · exact q1.elim
theorem chain_ent {ta tb tc : L2.TE} {p p' : R2} {o o' : Op2} {oa ob oc : OX} (hs : Sem2 X.K p o) (hs' : Sem2 X.K p' o')
    (ea : ∀ (C : Ctx) (r : Env) (σ : L2.St) (H : Hp) (F : AP) (Q : Get → Env → Prop) (Xk : XW) (QV : VK), C.K = X.K → Rep C r σ H F → Link X W Xk C σ → oa Xk r Q → (∀ v H' F' g r', Rep C r' σ H' F' → Gd C σ v g H' F' → Q g r' → QV v H') → ta σ H QV)
    (eb : ∀ (C : Ctx) (r : Env) (σ : L2.St) (H : Hp) (F : AP) (Q : Get → Env → Prop) (Xk : XW) (QV : VK), C.K = X.K → Rep C r σ H F → Link X W Xk C σ → ob Xk r Q → (∀ v H' F' g r', Rep C r' σ H' F' → Gd C σ v g H' F' → Q g r' → QV v H') → tb σ H QV)
    (ec : ∀ (C : Ctx) (r : Env) (σ : L2.St) (H : Hp) (F : AP) (Q : Get → Env → Prop) (Xk : XW) (QV : VK), C.K = X.K → Rep C r σ H F → Link X W Xk C σ → oc Xk r Q → (∀ v H' F' g r', Rep C r' σ H' F' → Gd C σ v g H' F' → Q g r' → QV v H') → tc σ H QV) :
    ∀ (C : Ctx) (r : Env) (σ : L2.St) (H : Hp) (F : AP) (Q : DV → Env → Prop) (Xk : XW) (QV : VK), C.K = X.K → Rep C r σ H F → Link X W Xk C σ → xCh o o' oa ob oc Xk r Q → (∀ v H' F' dv r', Rep C r' σ H' F' → Res C r' σ H' F' v dv → Q dv r' → QV v H') → tChain p p' ta tb tc σ H QV := by
  intro C r σ H F Q Xk QV hK R L hf k
  refine ea C r σ H F _ Xk _ hK R L hf fun v1 H1 F1 g r1 R1 G1 q1 => ?_
  refine eb (C.up H1 F1 noT) r1 σ H1 F1 _ Xk _ hK R1.up0 (L.up R1) q1 fun v2 H2 F2 g2 r2 R2' G2 q2 => ?_
  have R2 := R1.down R2'
  have l := R2'.later
  split at q2
  · rename_i x y ex ey
    refine hs C r2 σ H2 F2 v1 v2 x y _ _ hK R2 (G1 _ _ _ _ R2 l ex) (G2 _ _ _ _ R2' Later.refl ey) q2 fun v H3 F3 dv R3 l3 G3 q3 => ?_
    split at q3
    · cases G3 with
      | dat s =>
        cases s
        refine ⟨true, rfl, iteT ?_⟩
        have R3u : Rep (C.up H1 F1 noT) r2 σ H3 F3 := by
          have u := R3.up0
          refine { u with tb := R3.tb.imp (fun a z => z.elim (R3.tb.z a) fun z => z.elim (fun z => R3.tb.f a ((l.trans l3) a z).1) fun z => z.elim) R3.tb.f, keep := fun x z => ?_, fsub := fun x z => (l.trans l3 x z).1, fnew := fun x z => ?_, fz := fun x z => .inr (.inl z), ownz := fun i ds x e1 o1 e2 => ?_, bag := fun x e1 => ?_ }
          · rcases z with z | z | z
            · exact ⟨((R3.keep x z).1).trans (R1.keep x z).1.symm, (R3.keep x z).2⟩
            · have q := (l.trans l3) x z
              exact ⟨q.2, R3.ftrk x q.1⟩
            · exact z.elim
          · by_cases hz : F1 x
            · exact .inl hz
            · refine .inr fun w => ?_
              rcases w with w | w | w
              · rcases R3.fnew x z with q | q
                · exact hz (R1.fsub x q)
                · exact q w
              · exact hz w
              · exact w
          · obtain ⟨nz, nb⟩ := R3.ownz i ds x e1 o1 e2
            refine ⟨fun w => ?_, nb⟩
            rcases w with w | w | w
            · exact nz w
            · obtain ⟨v, e3, sr⟩ := R3.slot i _ e1
              rw [e2] at e3; cases e3
              cases sr with
              | own _ _ nf => exact nf ((l.trans l3) x w).1
              | dct _ nf => exact nf ((l.trans l3) x w).1
              | nd _ _ => cases o1
              | dat _ => cases o1
              | bag _ => cases o1
            · exact w
          · obtain ⟨kk, nf, nz⟩ := R3.bag x e1
            refine ⟨kk, nf, fun w => ?_⟩
            rcases w with w | w | w
            · exact nz w
            · exact nf ((l.trans l3) x w).1
            · exact w
        refine ec (C.up H3 F3 noT) r2 σ H3 F3 _ Xk _ hK R3.up0 (L.up R3) q3 fun v4 H4 F4 g4 r4 R4' G4 q4 => ?_
        have R4 := R3.down R4'
        split at q4
        · rename_i y' z ey' ez
          -- the middle one, looked at again
          have hy : DpT C.K H4 F4 v2 y' := by
            refine G2 H4 F4 r4 y' ?_ (l3.trans R4'.later) ey'
            have l4 := l3.trans R4'.later
            refine { R4 with tb := R4.tb.imp (fun a z => z.elim (R4.tb.z a) fun z => z.elim (fun z => R4.tb.f a ((l.trans l4) a z).1) fun z => z.elim) R4.tb.f, keep := fun x z => ?_, fsub := fun x z => ((l.trans l4) x z).1, fnew := fun x z => ?_, fz := fun x z => .inr (.inl z), ownz := fun i ds x e1 o1 e2 => ?_, bag := fun x e1 => ?_ }
            · rcases z with z | z | z
              · exact ⟨((R4.keep x z).1).trans (R1.keep x z).1.symm, (R4.keep x z).2⟩
              · have q := (l.trans l4) x z
                exact ⟨q.2, R4.ftrk x q.1⟩
              · exact z.elim
            · by_cases hz : F1 x
              · exact .inl hz
              · refine .inr fun w => ?_
                rcases w with w | w | w
                · rcases R4.fnew x z with q | q
                  · exact hz (R1.fsub x q)
                  · exact q w
                · exact hz w
                · exact w
            · obtain ⟨nz, nb⟩ := R4.ownz i ds x e1 o1 e2
              refine ⟨fun w => ?_, nb⟩
              rcases w with w | w | w
              · exact nz w
              · obtain ⟨v, e3, sr⟩ := R4.slot i _ e1
                rw [e2] at e3; cases e3
                cases sr with
                | own _ _ nf => exact nf ((l.trans l4) x w).1
                | dct _ nf => exact nf ((l.trans l4) x w).1
                | nd _ _ => cases o1
                | dat _ => cases o1
                | bag _ => cases o1
              · exact w
            · obtain ⟨kk, nf, nz⟩ := R4.bag x e1
              refine ⟨kk, nf, fun w => ?_⟩
              rcases w with w | w | w
              · exact nz w
              · exact nf ((l.trans l4) x w).1
              · exact w
          refine hs' C r4 σ H4 F4 v2 v4 y' z _ QV hK R4 hy (G4 _ _ _ _ R4' Later.refl ez) q4 fun v5 H5 F5 dv5 R5 _ G5 q5 => ?_
          split at q5
          · exact k v5 H5 F5 _ r4 R5 G5 q5
          · exact q5.elim
        · exact q4.elim
    · cases G3 with
      | dat s =>
        cases s
        exact ⟨false, rfl, iteF (k (.bl false) H3 F3 _ r2 R3 (.dat (.bl false)) q3)⟩
    · exact q3.elim
  · exact q2.elim
theorem de_chain {op op' : CmpOp} {p p' : R2} {o o' : Op2} {oa ob oc : OX} (ho : OpR X (compareOp op) p) (ho' : OpR X (compareOp op') p') (hs : Sem2 X.K p o) (hs' : Sem2 X.K p' o') (ha : DO X W a oa) (hb : DO X W b ob) (hc : DO X W c oc)
    (hm : lastMarks [op, op'] [b, c] = false := by with_unfolding_all rfl) : DE X W (.Compare a [op, op'] [b, c] pos) (xCh o o' oa ob oc) := by
  obtain ⟨ta, pa, ea⟩ := ha.ex
  obtain ⟨tb, pb, eb⟩ := hb.ex
  obtain ⟨tc, pc, ec⟩ := hc.ex
  exact ⟨⟨_, pe_chain ho ho' pa pb pc hm, chain_ent hs hs' ea eb ec⟩⟩
end
end DL

/-! DL, part 4: tests, displays, calls, comprehensions, statements. -/
namespace DL
open PySem PySem.Spec L2
theorem Rep.reup {C : Ctx} {r r1 : Env} {σ σ1 : L2.St} {H H1 : Hp} {F F1 : AP} (R : Rep C r σ H F) (R1 : Rep C r1 σ1 H1 F1) (l : Later H1 F1 H F) : Rep (C.up H1 F1 noT) r σ H F where
  len := R.len
  slot := R.slot
  dist := R.dist
  keep := fun x z => by
    rcases z with z | z | z
    · exact ⟨((R.keep x z).1).trans (R1.keep x z).1.symm, (R.keep x z).2⟩
    · exact ⟨(l x z).2, R.ftrk x (l x z).1⟩
    · exact z.elim
  fsub := fun x z => (l x z).1
  fnew := fun x z => by
    by_cases hz : F1 x
    · exact .inl hz
    · refine .inr fun w => ?_
      rcases w with w | w | w
      · rcases R.fnew x z with q | q
        · exact hz (R1.fsub x q)
        · exact q w
      · exact hz w
      · exact w
  fz := fun x z => .inr (.inl z)
  ftrk := R.ftrk
  ownz := fun i ds x e1 o1 e2 => by
    obtain ⟨nz, nb⟩ := R.ownz i ds x e1 o1 e2
    refine ⟨fun w => ?_, nb⟩
    rcases w with w | w | w
    · exact nz w
    · obtain ⟨v, e3, sr⟩ := R.slot i _ e1
      rw [e2] at e3; cases e3
      cases sr with
      | own _ _ nf => exact nf (l x w).1
      | dct _ nf => exact nf (l x w).1
      | nd _ _ => cases o1
      | dat _ => cases o1
      | bag _ => cases o1
    · exact w
  bag := fun x e1 => by
    obtain ⟨kk, nf, nz⟩ := R.bag x e1
    refine ⟨kk, nf, fun w => ?_⟩
    rcases w with w | w | w
    · exact nz w
    · exact nf (l x w).1
    · exact w
  tb := R.tb.imp (fun a z => z.elim (R.tb.z a) fun z => z.elim (fun z => R.tb.f a (l a z).1) fun z => z.elim) R.tb.f
section
variable {X : Cx} {W : WX} {e a b c : Expr} {es : List Expr} {f h k : TX} {pos : Pos}
/-! ### tests -/
theorem dt_x (p : DE X W e f) (he : ∀ whole, isTrue e X.env whole = (do let v ← whole; standAt e.pos; holding [v] (truthy v)) := by intro _; rfl) : DT X W e (bX f) := by
  obtain ⟨t, pe, ent⟩ := p.ex
  refine ⟨⟨_, pt_val pe he, fun C r σ H F Q Xk QV hK R L hf k => ?_⟩⟩
  refine ent C r σ H F _ Xk _ hK R L hf fun v H1 F1 dv r1 R1 G1 q1 => ?_
  split at q1
  · cases G1 with
    | dat s =>
      cases s
      exact ⟨_, rfl, k _ H1 F1 r1 R1 q1⟩
  · exact q1.elim
theorem line_eq : sizeLine = 16777216 := sizeLine_eq
theorem dt_o {o : OX} (p : DO X W e o) (he : ∀ whole, isTrue e X.env whole = (do let v ← whole; standAt e.pos; holding [v] (truthy v)) := by intro _; rfl) : DT X W e (bO o) := by
  obtain ⟨t, pe, ent⟩ := p.ex
  refine ⟨⟨_, pt_truth pe he, fun C r σ H F Q Xk QV hK R L hf k => ?_⟩⟩
  refine ent C r σ H F _ Xk _ hK R L hf fun v H1 F1 g r1 R1 G1 q1 => ?_
  split at q1
  · rename_i bb eb
    obtain ⟨d, ed, et⟩ := Option.bind_eq_some_iff.mp eb
    have hd := G1 _ _ _ _ R1 Later.refl ed
    refine ⟨bb, ?_, k _ H1 F1 r1 R1 q1.2⟩
    cases d with
    | none => cases hd.non; cases et; rfl
    | bool => cases hd.bl; cases et; rfl
    | int => cases hd.int; cases et; rfl
    | str x =>
      cases hd.str
      cases et
      exact ⟨by rw [line_eq]; exact q1.1 x ed, rfl⟩
    | list ds =>
      obtain ⟨a, xs, rfl, h1, h2⟩ := hd.lst
      cases et
      refine .inl ⟨xs, .inl (.inl h1), ?_⟩
      cases h2 <;> rfl
    | tuple ds =>
      obtain ⟨a, xs, rfl, h1, h2, _⟩ := hd.tup
      cases et
      refine .inr (.inl ⟨xs, hK ▸ h1, ?_⟩)
      cases h2 <;> rfl
    | dict => cases et
  · exact q1.elim
variable {ta tb : TB} {rest : List Expr}
theorem DW.t (p : DW X W e ta) : DT X W e ta := by
  obtain ⟨t, pe, ent⟩ := p.ex
  exact ⟨⟨t, pe.pt, ent⟩⟩
theorem dw_and1 (p : DT X W a ta) : DW X W (.BoolOp .And [a] pos) ta := by
  obtain ⟨t, pe, ent⟩ := p.ex
  exact ⟨⟨t, pw_and1 pe, ent⟩⟩
theorem dw_or1 (p : DT X W a ta) : DW X W (.BoolOp .Or [a] pos) ta := by
  obtain ⟨t, pe, ent⟩ := p.ex
  exact ⟨⟨t, pw_or1 pe, ent⟩⟩
theorem dw_and (p : DT X W a ta) (q : DW X W (.BoolOp .And (b :: rest) pos) tb) : DW X W (.BoolOp .And (a :: b :: rest) pos) (bAnd ta tb) := by
  obtain ⟨t, pe, ent⟩ := p.ex
  obtain ⟨u, pu, enu⟩ := q.ex
  refine ⟨⟨_, pw_and pe pu, fun C r σ H F Q Xk QV hK R L hf k => ?_⟩⟩
  refine ent C r σ H F _ Xk _ hK R L hf fun v H1 F1 r1 R1 q1 => ?_
  cases v with
  | true => exact enu C r1 σ H1 F1 _ Xk _ hK R1 L q1 k
  | false => exact k false H1 F1 r1 R1 q1
theorem dw_or (p : DT X W a ta) (q : DW X W (.BoolOp .Or (b :: rest) pos) tb) : DW X W (.BoolOp .Or (a :: b :: rest) pos) (bOr ta tb) := by
  obtain ⟨t, pe, ent⟩ := p.ex
  obtain ⟨u, pu, enu⟩ := q.ex
  refine ⟨⟨_, pw_or pe pu, fun C r σ H F Q Xk QV hK R L hf k => ?_⟩⟩
  refine ent C r σ H F _ Xk _ hK R L hf fun v H1 F1 r1 R1 q1 => ?_
  cases v with
  | true => exact k true H1 F1 r1 R1 q1
  | false => exact enu C r1 σ H1 F1 _ Xk _ hK R1 L q1 k
theorem dt_not (p : DT X W a ta) : DT X W (.UnaryOp .Not a pos) (bNot ta) := by
  obtain ⟨t, pe, ent⟩ := p.ex
  refine ⟨⟨_, pt_not pe, fun C r σ H F Q Xk QV hK R L hf k => ?_⟩⟩
  exact ent C r σ H F _ Xk _ hK R L hf fun v H1 F1 r1 R1 q1 => k (!v) H1 F1 r1 R1 q1
theorem de_one {op} (p : DE X W a f) : DE X W (.BoolOp op [a] pos) f := by
  obtain ⟨t, pe, ent⟩ := p.ex
  exact ⟨⟨t, pe_one pe, ent⟩⟩
theorem de_and (p : DE X W a f) (q : DE X W (.BoolOp .And (b :: rest) pos) h) : DE X W (.BoolOp .And (a :: b :: rest) pos) (xAnd f h) := by
  obtain ⟨t, pe, ent⟩ := p.ex
  obtain ⟨u, pu, enu⟩ := q.ex
  refine ⟨⟨_, pe_and pe pu, fun C r σ H F Q Xk QV hK R L hf k => ?_⟩⟩
  refine ent C r σ H F _ Xk _ hK R L hf fun v H1 F1 dv r1 R1 G1 q1 => ?_
  split at q1
  · cases G1 with
    | dat s =>
      cases s
      rename_i cc
      refine ⟨cc, rfl, ?_⟩
      cases cc with
      | true => exact enu C r1 σ H1 F1 _ Xk _ hK R1 L q1 k
      | false => exact k _ H1 F1 _ r1 R1 (.dat (.bl false)) q1
  · exact q1.elim
theorem de_or (p : DE X W a f) (q : DE X W (.BoolOp .Or (b :: rest) pos) h) : DE X W (.BoolOp .Or (a :: b :: rest) pos) (xOr f h) := by
  obtain ⟨t, pe, ent⟩ := p.ex
  obtain ⟨u, pu, enu⟩ := q.ex
  refine ⟨⟨_, pe_or pe pu, fun C r σ H F Q Xk QV hK R L hf k => ?_⟩⟩
  refine ent C r σ H F _ Xk _ hK R L hf fun v H1 F1 dv r1 R1 G1 q1 => ?_
  split at q1
  · cases G1 with
    | dat s =>
      cases s
      rename_i cc
      refine ⟨cc, rfl, ?_⟩
      cases cc with
      | true => exact k _ H1 F1 _ r1 R1 (.dat (.bl true)) q1
      | false => exact enu C r1 σ H1 F1 _ Xk _ hK R1 L q1 k
  · exact q1.elim
theorem de_not (p : DE X W a f) : DE X W (.UnaryOp .Not a pos) (xNot (bX f)) := by
  obtain ⟨t, pe, ent⟩ := p.ex
  refine ⟨⟨_, pe_not pe, fun C r σ H F Q Xk QV hK R L hf k => ?_⟩⟩
  refine ent C r σ H F _ Xk _ hK R L hf fun v H1 F1 dv r1 R1 G1 q1 => ?_
  split at q1
  · cases G1 with
    | dat s =>
      cases s
      exact ⟨_, rfl, k _ H1 F1 _ r1 R1 (.dat (.bl _)) q1⟩
  · exact q1.elim
theorem de_if (t : DT X W c ta) (p : DE X W a f) (q : DE X W b h) : DE X W (.IfExp c a b pos) (xIf ta f h) := by
  obtain ⟨t, pt, ent⟩ := t.ex
  obtain ⟨ua, pa, ena⟩ := p.ex
  obtain ⟨ub, pb, enb⟩ := q.ex
  refine ⟨⟨_, pe_ifExp pt pa pb, fun C r σ H F Q Xk QV hK R L hf k => ?_⟩⟩
  refine ent C r σ H F _ Xk _ hK R L hf fun v H1 F1 r1 R1 q1 => ?_
  cases v with
  | true => exact ena C r1 σ H1 F1 _ Xk _ hK R1 L q1 k
  | false => exact enb C r1 σ H1 F1 _ Xk _ hK R1 L q1 k
/-! ### arguments, displays -/
theorem da_nil : DA X W [] aNil := ⟨⟨_, pa_nil, fun C r σ H F Q Xk QV _ R _ hf k => k [] H F [] r rfl R .nil hf⟩⟩
theorem da_cons {t : AX} (p : DE X W e f) (q : DA X W es t) (hs : starEach (e :: es) X.env = (false, eval e X.env) :: starEach es X.env := by rfl) : DA X W (e :: es) (aCons f t) := by
  obtain ⟨u, pe, ent⟩ := p.ex
  obtain ⟨w, pa, ena⟩ := q.ex
  refine ⟨⟨_, pa_cons pe pa hs, fun C r σ H F Q Xk QV hK R L hf k => ?_⟩⟩
  refine ent C r σ H F _ Xk _ hK R L hf fun v H1 F1 dv r1 R1 G1 q1 => ?_
  cases G1 with
  | dat s =>
    refine ena (C.up H1 F1 noT) r1 σ H1 F1 _ Xk _ hK R1.up0 (L.up R1) q1 fun vs H2 F2 ds r2 n2 R2' A2 q2 => ?_
    exact k _ H2 F2 _ r2 (congrArg (· + 1) n2) (R1.down R2') (.dat (s.mono R2'.later) A2) q2
  | own h1 h2 h3 h4 h5 h6 =>
    have R1f := R1.freezeT h1 h3 h4 h5 h6
    have s : DpF C.K H1 (fun x => F1 x ∨ x = _) (.ref _) (.list _) := .lst ⟨.inr rfl, h1⟩ (h2.mono later_fr)
    refine ena (C.up H1 _ noT) r1 σ H1 _ _ Xk _ hK R1f.up0 (L.up R1f) q1 fun vs H2 F2 ds r2 n2 R2' A2 q2 => ?_
    exact k _ H2 F2 _ r2 (congrArg (· + 1) n2) (R1f.down R2') (.dat (s.mono R2'.later) A2) q2
  | bag s =>
    refine ena (C.up H1 F1 noT) r1 σ H1 F1 _ Xk _ hK R1.up0 (L.up R1) q1 fun vs H2 F2 ds r2 n2 R2' A2 q2 => ?_
    exact k _ H2 F2 _ r2 (congrArg (· + 1) n2) (R1.down R2') (.bag s A2) q2
  | dct _ _ _ _ _ => exact q1.elim
  | nd s n =>
    refine ena (C.up H1 F1 noT) r1 σ H1 F1 _ Xk _ hK R1.up0 (L.up R1) q1 fun vs H2 F2 ds r2 n2 R2' A2 q2 => ?_
    exact k _ H2 F2 _ r2 (congrArg (· + 1) n2) (R1.down R2') (.dat (s.mono R2'.later) A2) q2
theorem de_tup {t : AX} {x1} (p : DA X W es t) : DE X W (.Tuple es x1 pos) (xTup t) := by
  obtain ⟨u, pa, ent⟩ := p.ex
  refine ⟨⟨_, pe_tup pa, fun C r σ H F Q Xk QV hK R L hf k => ?_⟩⟩
  refine ent C r σ H F _ Xk _ hK R L hf fun vs H1 F1 ds r1 _ R1 A1 q1 => ?_
  split at q1
  · rename_i es' ee
    have hd := A1.all ee
    refine ⟨by rw [line_eq, hd.length]; exact q1.1, fun p hp => ?_⟩
    exact k _ _ _ _ r1 (R1.newF hp) (.dat (.tup (.inl ⟨.inr rfl, .inl upd_same⟩) (hd.mono (later_new R1 hp)))) q1.2
  · exact q1.elim
theorem Rep.freshOwn {C : Ctx} {r : Env} {σ : L2.St} {H : Hp} {F : AP} {p : Addr} {xs : List V} {ds : List D} (R : Rep C r σ H F) (hp : H p = none) (hd : DpFs C.K H F xs ds) :
    Rep C r σ (upd H p (.lst xs)) F ∧ Res C r σ (upd H p (.lst xs)) F (.ref p) (.own ds) ∧ Later H F (upd H p (.lst xs)) F := by
  refine ⟨R.new hp, .own upd_same (hd.mono (later_new0 R hp)) (fun z => R.ftrk p z hp) (fun z => (R.keep p z).2 hp) (fun z => ?_) (fun i es e o1 e1 => ?_), later_new0 R hp⟩
  · obtain ⟨⟨_, _, _, _, _, h1, _⟩, _, _⟩ := R.bag p z
    rw [hp] at h1; cases h1
  · obtain ⟨v, e2, sr⟩ := R.slot i _ e
    rw [e1] at e2; cases e2
    cases sr with
    | own h1 _ _ => rw [hp] at h1; cases h1
    | dct h1 _ => exact h1.ne.2 hp
    | nd _ _ => cases o1
    | dat _ => cases o1
    | bag _ => cases o1
theorem Rep.freshTup {C : Ctx} {r : Env} {σ : L2.St} {H : Hp} {F : AP} {p : Addr} {xs : List V} {ds : List D} (R : Rep C r σ H F) (hp : H p = none) (hd : DpFs C.K H F xs ds) :
    Rep C r σ (upd H p (.tup xs)) (fun a => F a ∨ a = p) ∧ Res C r σ (upd H p (.tup xs)) (fun a => F a ∨ a = p) (.ref p) (.dat (.tuple ds)) ∧ Later H F (upd H p (.tup xs)) (fun a => F a ∨ a = p) :=
  ⟨R.newF hp, .dat (.tup (.inl ⟨.inr rfl, .inl upd_same⟩) (hd.mono (later_new R hp))), later_new R hp⟩
theorem de_lst {t : AX} (p : DA X W es t) : DE X W (.List es pos) (xLst t) := by
  obtain ⟨u, pa, ent⟩ := p.ex
  refine ⟨⟨_, pe_lst pa, fun C r σ H F Q Xk QV hK R L hf k => ?_⟩⟩
  refine ent C r σ H F _ Xk _ hK R L hf fun vs H1 F1 ds r1 _ R1 A1 q1 => ?_
  split at q1
  · rename_i es' ee
    have hd := A1.all ee
    refine ⟨by rw [line_eq, hd.length]; exact q1.1, fun p hp => ?_⟩
    obtain ⟨R2, G2, _⟩ := R1.freshOwn hp hd
    exact k _ _ _ _ r1 R2 G2 q1.2
  · exact q1.elim
/-! ### built-ins -/
theorem doa_nil : DOA X W [] oNil := ⟨⟨_, pa_nil, fun C r σ H F Q Xk QV _ R _ hf k => k [] H F [] r R .nil hf⟩⟩
theorem GdAll.re {C : Ctx} {r : Env} {σ : L2.St} {H1 H : Hp} {F1 F : AP} (R1 : Rep C r σ H1 F1) (l0 : Later H1 F1 H F) : ∀ {vs : List V} {gs : List Get}, GdAll (C.up H1 F1 noT) σ H F vs gs → GdAll C σ H F vs gs
  | _, _, .nil => .nil
  | _, _, .cons h hs => .cons (h.down fun H' F' r' R l => R.reup R1 (l0.trans l)) (GdAll.re R1 l0 hs)
theorem doa_cons {o : OX} {t : OAX} (p : DO X W e o) (q : DOA X W es t) (hs : starEach (e :: es) X.env = (false, eval e X.env) :: starEach es X.env := by rfl) : DOA X W (e :: es) (oCons o t) := by
  obtain ⟨u, pe, ent⟩ := p.ex
  obtain ⟨w, pa, ena⟩ := q.ex
  refine ⟨⟨_, pa_cons pe pa hs, fun C r σ H F Q Xk QV hK R L hf k => ?_⟩⟩
  refine ent C r σ H F _ Xk _ hK R L hf fun v H1 F1 g r1 R1 G1 q1 => ?_
  refine ena (C.up H1 F1 noT) r1 σ H1 F1 _ Xk _ hK R1.up0 (L.up R1) q1 fun vs H2 F2 gs r2 R2' A2 q2 => ?_
  exact k _ H2 F2 _ r2 (R1.down R2') (.cons (G1.mono R2'.later) (A2.re R1 R2'.later)) q2
def SemN (K : PySem.W.Frag) (p : List V → Hp → VK → Prop) (o : OpN) : Prop := ∀ (C : Ctx) (r : Env) (σ : L2.St) (H : Hp) (F : AP) (xs : List V) (ds : List D) (Q : DV → Prop) (QV : VK), C.K = K → Rep C r σ H F → DpTs C.K H F xs ds → o ds Q →
  (∀ v H' F' dv, Rep C r σ H' F' → Later H F H' F' → Res C r σ H' F' v dv → Q dv → QV v H') → p xs H QV
theorem cb_ent {t : TA} {p : List V → Hp → VK → Prop} {o : OpN} {u : OAX} (hs : SemN X.K p o)
    (ea : ∀ (C : Ctx) (r : Env) (σ : L2.St) (H : Hp) (F : AP) (Q : List Get → Env → Prop) (Xk : XW) (QV : List V → Hp → Prop), C.K = X.K → Rep C r σ H F → Link X W Xk C σ → u Xk r Q →
      (∀ vs H' F' gs r', Rep C r' σ H' F' → GdAll C σ H' F' vs gs → Q gs r' → QV vs H') → t σ H QV) :
    ∀ (C : Ctx) (r : Env) (σ : L2.St) (H : Hp) (F : AP) (Q : DV → Env → Prop) (Xk : XW) (QV : VK), C.K = X.K → Rep C r σ H F → Link X W Xk C σ → xCB o u Xk r Q → (∀ v H' F' dv r', Rep C r' σ H' F' → Res C r' σ H' F' v dv → Q dv r' → QV v H') → tCB p t σ H QV := by
  intro C r σ H F Q Xk QV hK R L hf k
  refine ea C r σ H F _ Xk _ hK R L hf fun vs H1 F1 gs r1 R1 G1 q1 => ?_
  split at q1
  · rename_i ds ed
    exact hs C r1 σ H1 F1 vs ds _ QV hK R1 (gets_of R1 G1 ed) q1 fun v H' F' dv R' _ G' q' => k v H' F' dv r1 R' G' q'
  · exact q1.elim
theorem de_cb {x : Str} {p : Pos} {id : String} {q : List V → Hp → VK → Prop} {o : OpN} {u : OAX} (hc : CallR X (.builtin id) q) (hs : SemN X.K q o) (hm : X.mg x = none) (hv : bootBuiltins x = some (.builtin id)) (ha : DOA X W (e :: es) u)
    (hg : Gl X x := by rfl) (hn : x ≠ "__name__" := by decide) (hdb : (x == ("__debug__" : Str)) = false := by decide)
    (he : starEach (e :: es) X.env = (false, eval e X.env) :: starEach es X.env := by rfl) (hpl : (backTo pos (starEach es X.env)).any (·.1) = false := by rfl) : DE X W (.Call (.Name x p) (e :: es) [] pos) (xCB o u) := by
  obtain ⟨t, pa, ea⟩ := ha.ex
  exact ⟨⟨_, pe_callB hc hg hm hv pa hn hdb he hpl, cb_ent hs ea⟩⟩
theorem de_ct {x : Str} {p : Pos} {T : String} {q : List V → Hp → VK → Prop} {o : OpN} {u : OAX} (hc : CallR X (.type T) q) (hs : SemN X.K q o) (hm : X.mg x = none) (hv : bootBuiltins x = some (.type T)) (ha : DOA X W (e :: es) u)
    (hg : Gl X x := by rfl) (hn : x ≠ "__name__" := by decide) (hdb : (x == ("__debug__" : Str)) = false := by decide)
    (he : starEach (e :: es) X.env = (false, eval e X.env) :: starEach es X.env := by rfl) (hpl : (backTo pos (starEach es X.env)).any (·.1) = false := by rfl) : DE X W (.Call (.Name x p) (e :: es) [] pos) (xCB o u) := by
  obtain ⟨t, pa, ea⟩ := ha.ex
  exact ⟨⟨_, pe_callTy hc hg hm hv pa hn hdb he hpl, cb_ent hs ea⟩⟩
/-! ### statements -/
end
/-- a frame's end: what a caller finds -/
inductive RetR (C : Ctx) (H : Hp) (F : AP) : V → DV → Prop
  | dat {v : V} {d : D} : DpF C.K H F v d → RetR C H F v (.dat d)
  | own {a : Addr} {xs : List V} {ds : List D} : H a = some (.lst xs) → DpFs C.K H F xs ds → ¬ F a → ¬ C.Z a → C.b ≠ some a → RetR C H F (.ref a) (.own ds)
  | dct {a : Addr} {t : Bool} {kvs : List (D × D)} : DctR C.K H F a t kvs → ¬ F a → ¬ C.Z a → C.b ≠ some a → RetR C H F (.ref a) (.dct t kvs)
  | nd {v : V} {ds : List D} : DpF C.K H F v (.tuple ds) → NdR H F v → RetR C H F v (.nd ds)
  | bag {a : Addr} : C.b = some a → RetR C H F (.ref a) .bag
structure Fin (C : Ctx) (H : Hp) (F : AP) : Prop where
  keep : ∀ a, C.Z a → H a = C.HZ a ∧ H a ≠ none
  fsub : ∀ a, C.F0 a → F a
  fnew : ∀ a, F a → C.F0 a ∨ ¬ C.Z a
  ftrk : ∀ a, F a → H a ≠ none
  bag : ∀ b, C.b = some b → BagOk C.K H F b ∧ ¬ F b ∧ ¬ C.Z b
  tb : TBk C.K C.Z F H
theorem Rep.fin {C : Ctx} {r : Env} {σ : L2.St} {H : Hp} {F : AP} (R : Rep C r σ H F) : Fin C H F := ⟨R.keep, R.fsub, R.fnew, R.ftrk, R.bag, R.tb⟩
theorem Res.ret {C : Ctx} {r : Env} {σ : L2.St} {H : Hp} {F : AP} {v : V} {dv : DV} (q : Res C r σ H F v dv) : RetR C H F v dv := by
  cases q with
  | dat s => exact .dat s
  | own h1 h2 h3 h4 h5 _ => exact .own h1 h2 h3 h4 h5
  | dct h1 h3 h4 h5 _ => exact .dct h1 h3 h4 h5
  | nd h n => exact .nd h n
  | bag s => exact .bag s
theorem Fin.down {C : Ctx} {r : Env} {σ : L2.St} {H1 H : Hp} {F1 F T : AP} (R : Rep C r σ H1 F1) (q : Fin (C.up H1 F1 T) H F) : Fin C H F where
  keep := fun a z => by
    obtain ⟨e, n⟩ := q.keep a (.inl z)
    exact ⟨e.trans (R.keep a z).1, n⟩
  fsub := fun a z => q.fsub a (R.fsub a z)
  fnew := fun a z => by
    rcases q.fnew a z with z | z
    · exact R.fnew a z
    · exact .inr fun w => z (.inl w)
  ftrk := q.ftrk
  bag := fun b e => by
    obtain ⟨k, nf, nz⟩ := q.bag b e
    exact ⟨k, nf, fun z => nz (.inl z)⟩
  tb := q.tb.imp (fun a z => q.tb.z a (.inl z)) q.tb.f
theorem RetR.down {C : Ctx} {H1 H : Hp} {F1 F T : AP} {v : V} {dv : DV} (q : RetR (C.up H1 F1 T) H F v dv) : RetR C H F v dv := by
  cases q with
  | dat s => exact .dat s
  | own h1 h2 h3 h4 h5 => exact .own h1 h2 h3 (fun z => h4 (.inl z)) h5
  | dct h1 h3 h4 h5 => exact .dct h1 h3 (fun z => h4 (.inl z)) h5
  | nd h n => exact .nd h n
  | bag s => exact .bag s
/-- what a target stores into -/
def Wr (ws : List Nat) (σ σ' : L2.St) : Prop := σ'.length = σ.length ∧ ∀ i, i ∉ ws → σ'[i]? = σ[i]?
/-- the data's ends behind the text's ends -/
structure EndsR (X : Cx) (W : WX) (C : Ctx) (D' : L2.Ends) (E : Ends) : Prop where
  nx : ∀ σ' H' F' r', Rep C r' σ' H' F' → E.nx r' → D'.nx σ' H'
  rt : ∀ v H' F' dv, Fin C H' F' → RetR C H' F' v dv → E.rt dv → D'.rt v H'
  bk : ∀ σ' H' F' r', Rep C r' σ' H' F' → E.bk r' → D'.bk σ' H'
  ct : ∀ σ' H' F' r', Rep C r' σ' H' F' → E.ct r' → D'.ct σ' H'
  ex : ∀ σ', Link X W E.ex C σ'
theorem EndsR.up {X : Cx} {W : WX} {C : Ctx} {D' : L2.Ends} {E : Ends} {r : Env} {σ : L2.St} {H : Hp} {F T : AP} (q : EndsR X W C D' E) (R : Rep C r σ H F) : EndsR X W (C.up H F T) D' E where
  nx := fun σ' H' F' r' R' => q.nx σ' H' F' r' (R.down R')
  rt := fun v H' F' dv k s => q.rt v H' F' dv (k.down R) s.down
  bk := fun σ' H' F' r' R' => q.bk σ' H' F' r' (R.down R')
  ct := fun σ' H' F' r' R' => q.ct σ' H' F' r' (R.down R')
  ex := fun σ' => (q.ex σ').up R
section
variable (X : Cx) (W : WX)
structure DS (st : Stmt) (f : TS) : Prop where
  ex : ∃ t, PS X st t ∧ ∀ (C : Ctx) (r : Env) (σ : L2.St) (H : Hp) (F : AP) (E : Ends) (D' : L2.Ends), C.K = X.K → Rep C r σ H F → EndsR X W C D' E → f E r → t D' σ H
structure DSs (st : List Stmt) (f : TS) : Prop where
  ex : ∃ t, PSs X st t ∧ ∀ (C : Ctx) (r : Env) (σ : L2.St) (H : Hp) (F : AP) (E : Ends) (D' : L2.Ends), C.K = X.K → Rep C r σ H F → EndsR X W C D' E → f E r → t D' σ H
structure DG (e : Expr) (ws : List Nat) (g : TG) : Prop where
  ex : ∃ t, PG X e t ∧ ∀ (C : Ctx) (r : Env) (σ : L2.St) (H : Hp) (F : AP) (v : V) (dv : DV) (Q : Env → Prop) (QV : L2.St → Hp → Prop), C.K = X.K → Rep C r σ H F → Res C r σ H F v dv → g dv r Q →
    (∀ σ' r', Rep C r' σ' H F → Wr ws σ σ' → Q r' → QV σ' H) → t v σ H QV
structure DGs (es : List Expr) (ws : List Nat) (gs : List TG) : Prop where
  ex : ∃ t, PGs X es t ∧ ∀ (C : Ctx) (r : Env) (σ : L2.St) (H : Hp) (F : AP) (vs : List V) (ds : List D) (Q : Env → Prop) (QV : L2.St → Hp → Prop), C.K = X.K → Rep C r σ H F → DpFs C.K H F vs ds → gsAll gs ds r Q →
    (∀ σ' r', Rep C r' σ' H F → Wr ws σ σ' → Q r' → QV σ' H) → t vs σ H QV
end
section
variable {X : Cx} {W : WX} {e a b c : Expr} {es : List Expr} {f h : TX} {pos : Pos} {st : Stmt} {rest : List Stmt} {p q : TS}
theorem dss_nil : DSs X W [] sNext := ⟨⟨_, pss_nil, fun C r σ H F E D' _ R k hf => k.nx σ H F r R hf⟩⟩
theorem dss_one (s : DS X W st p) : DSs X W [st] p := by
  obtain ⟨t, ps, ent⟩ := s.ex
  exact ⟨⟨t, pss_one ps, ent⟩⟩
theorem dss_cons (s : DS X W st p) (ss : DSs X W rest q) : DSs X W (st :: rest) (sSeq p q) := by
  obtain ⟨t, ps, ent⟩ := s.ex
  obtain ⟨u, pss, enu⟩ := ss.ex
  refine ⟨⟨_, pss_cons ps pss, fun C r σ H F E D' hK R k hf => ?_⟩⟩
  exact ent C r σ H F { E with nx := q E } { D' with nx := u D' } hK R ⟨fun σ' H' F' r' R' q' => enu C r' σ' H' F' E D' hK R' k q', k.rt, k.bk, k.ct, k.ex⟩ hf
theorem ds_pass : DS X W (.Pass pos) sNext := ⟨⟨_, ps_pass, fun C r σ H F E D' _ R k hf => k.nx σ H F r R hf⟩⟩
theorem ds_brk : DS X W (.Break pos) sBrk := ⟨⟨_, ps_break, fun C r σ H F E D' _ R k hf => k.bk σ H F r R hf⟩⟩
theorem ds_cnt : DS X W (.Continue pos) sCnt := ⟨⟨_, ps_continue, fun C r σ H F E D' _ R k hf => k.ct σ H F r R hf⟩⟩
theorem ds_drop (s : DE X W e f) (hs : swapsWith e none pos.line X.env = pure false := by rfl) : DS X W (.Expr e pos) (sDrop f) := by
  obtain ⟨t, pe, ent⟩ := s.ex
  refine ⟨⟨_, ps_expr pe hs, fun C r σ H F E D' hK R k hf => ?_⟩⟩
  exact ent C r σ H F _ E.ex _ hK R (k.ex σ) hf fun v H1 F1 dv r1 R1 _ q1 => k.nx σ H1 F1 r1 R1 q1
theorem ds_ret (s : DE X W e f) : DS X W (.Return (some e) pos) (sRet f) := by
  obtain ⟨t, pe, ent⟩ := s.ex
  refine ⟨⟨_, ps_ret pe, fun C r σ H F E D' hK R k hf => ?_⟩⟩
  exact ent C r σ H F _ E.ex _ hK R (k.ex σ) hf fun v H1 F1 dv r1 R1 G1 q1 => k.rt v H1 F1 dv R1.fin G1.ret q1
theorem ds_retN : DS X W (.Return none pos) sRetN := ⟨⟨_, ps_retN, fun C r σ H F E D' _ R k hf => k.rt .non H F _ R.fin (.dat .non) hf⟩⟩
theorem ds_if {t : TB} {as bs : List Stmt} (hc : DT X W c t) (ha : DSs X W as p) (hb : DSs X W bs q) : DS X W (.If c as bs pos) (sIf t p q) := by
  obtain ⟨u, pc, enc⟩ := hc.ex
  obtain ⟨ua, pa, ena⟩ := ha.ex
  obtain ⟨ub, pb, enb⟩ := hb.ex
  refine ⟨⟨_, ps_if pc pa pb, fun C r σ H F E D' hK R k hf => ?_⟩⟩
  refine enc C r σ H F _ E.ex _ hK R (k.ex σ) hf fun v H1 F1 r1 R1 q1 => ?_
  cases v with
  | true => exact ena C r1 σ H1 F1 E D' hK R1 k q1
  | false => exact enb C r1 σ H1 F1 E D' hK R1 k q1
theorem ds_never : DS X W st (fun _ _ => False) := ⟨⟨_, ps_never, fun _ _ _ _ _ _ _ _ _ _ hf => hf⟩⟩
/-! ### targets -/
theorem dg_name {i : Nat} (p : PG X e (gName i)) : DG X e [i] (gN i) :=
  ⟨⟨_, p, fun C r σ H F v dv Q QV _ R G hf k => k _ _ (R.store G) ⟨by rw [List.length_set], fun j hj => List.getElem?_set_ne fun z => hj (by simp [z])⟩ hf⟩⟩
theorem dgs_nil : DGs X [] [] [] := ⟨⟨_, pgs_nil, fun C r σ H F vs ds Q QV _ R G hf k => by
  obtain ⟨rfl, hf⟩ := hf
  cases G
  exact ⟨rfl, k σ r R ⟨rfl, fun _ _ => rfl⟩ hf⟩⟩⟩
theorem dgs_cons {g : TG} {gs : List TG} {ws us : List Nat} (s : DG X e ws g) (ss : DGs X es us gs) (hs : (assignEach (e :: es) X.env).map (·.2) = assign e X.env :: (assignEach es X.env).map (·.2) := by rfl) : DGs X (e :: es) (ws ++ us) (g :: gs) := by
  obtain ⟨t, pg, ent⟩ := s.ex
  obtain ⟨u, pgs, enu⟩ := ss.ex
  refine ⟨⟨_, pgs_cons pg pgs hs, fun C r σ H F vs ds Q QV hK R G hf k => ?_⟩⟩
  cases G with
  | nil => exact hf.elim
  | cons g1 g2 =>
    refine ⟨_, _, rfl, ent C r σ H F _ _ _ _ hK R (.dat g1) hf fun σ1 r1 R1 w1 q1 => ?_⟩
    exact enu C r1 σ1 H F _ _ _ QV hK R1 g2 q1 fun σ2 r2 R2 w2 q2 => k σ2 r2 R2 ⟨w2.1.trans w1.1, fun i hi => (w2.2 i fun z => hi (List.mem_append_right _ z)).trans (w1.2 i fun z => hi (List.mem_append_left _ z))⟩ q2
theorem dg_tup {gs : List TG} {ws : List Nat} {k : Nat} (hc : X.calm = true) (ss : DGs X es ws gs) (hn : (assignEach es X.env).length = gs.length := by rfl) (hst : (assignEach es X.env).findIdx? (·.1) = none := by rfl) : DG X (.Tuple es k pos) ws (gT gs) := by
  obtain ⟨u, pgs, enu⟩ := ss.ex
  refine ⟨⟨_, pg_tup hc pgs hn hst, fun C r σ H F v dv Q QV hK R G hf k => ?_⟩⟩
  cases G with
  | dat s =>
    cases s with
    | tup h1 h2 =>
      refine ⟨_, _, rfl, ?_, ?_, enu C r σ H F _ _ Q QV hK R h2 hf.2 k⟩
      · rw [← hK]; exact h1.elim (fun p => .inl p.2) fun p => p.sq H
      · rw [h2.length]; exact hf.1
    | non => exact hf.elim
    | bl => exact hf.elim
    | int => exact hf.elim
    | str => exact hf.elim
    | lst => exact hf.elim
  | own => exact hf.elim
  | dct => exact hf.elim
  | nd => exact hf.elim
  | bag => exact hf.elim
theorem ds_set {i : Nat} (s : DE X W e f) (mk : ∀ {te : L2.TE}, PE X e te → PS X st (tAsg te (gName i))) : DS X W st (sAsg (gN i) f) := by
  obtain ⟨t, pe, ent⟩ := s.ex
  refine ⟨⟨_, mk pe, fun C r σ H F E D' hK R k hf => ?_⟩⟩
  exact ent C r σ H F _ E.ex _ hK R (k.ex σ) hf fun v H1 F1 dv r1 R1 G1 q1 => k.nx _ H1 F1 _ (R1.store G1) q1
theorem ds_asg {tg : Expr} {g : TG} {ws : List Nat} (s : DE X W e f) (sg : DG X tg ws g) (hs : swapsWithSole [tg] e pos.line X.env = pure false := by rfl) (hw : swappedStores [tg] e X.env = pure none := by rfl)
    (h1 : (assignEach [tg] X.env).map (·.2) = [assign tg X.env] := by rfl) : DS X W (.Assign [tg] e pos) (sAsg g f) := by
  obtain ⟨t, pe, ent⟩ := s.ex
  obtain ⟨u, pg, eng⟩ := sg.ex
  refine ⟨⟨_, ps_asg pe pg hs hw h1, fun C r σ H F E D' hK R k hf => ?_⟩⟩
  refine ent C r σ H F _ E.ex _ hK R (k.ex σ) hf fun v H1 F1 dv r1 R1 G1 q1 => ?_
  exact eng C r1 σ H1 F1 v dv _ _ hK R1 G1 q1 fun σ' r' R' _ q' => k.nx σ' H1 F1 r' R' q'
theorem ds_aug {i : Nat} {op : Operator} {pr : R2} {o : Op2} {ob : OX} (hb : DO X W e ob) (hs : Sem2 X.K pr o) (mk : ∀ {te : L2.TE}, PE X e te → PS X st (tAug i te pr)) : DS X W st (sAug i o ob) := by
  obtain ⟨t, pe, ent⟩ := hb.ex
  refine ⟨⟨_, mk pe, fun C r σ H F E D' hK R k hf => ?_⟩⟩
  unfold sAug at hf
  split at hf
  · rename_i x ex
    obtain ⟨v, e1, sr⟩ := R.slot i _ ex
    refine ⟨v, e1, ?_⟩
    cases sr with
    | dat s =>
      refine ent (C.up H F noT) r σ H F _ E.ex _ hK R.up0 ((k.ex σ).up R) hf fun u H1 F1 g r1 R1' G1 q1 => ?_
      have R1 := R.down R1'
      split at q1
      · rename_i y ey
        exact hs C r1 σ H1 F1 v u x y _ _ hK R1 (.inl (s.mono R1'.later)) (G1 _ _ _ _ R1' Later.refl ey) q1 fun z H2 F2 dz R2 _ G2 q2 => k.nx _ H2 F2 _ (R2.store G2) q2
      · exact q1.elim
  · exact hf.elim
end
end DL

/-! DL, part 5: loops, comprehensions, lists that grow. -/
namespace DL
open PySem PySem.Spec L2
/-- an iterator that gives the data ds, whatever grows meanwhile -/
structure WalkD (K : PySem.W.Frag) (J : It) (ds : List D) (H : Hp) (F : AP) : Prop where
  goes : ∀ i H' F', i < ds.length → Later H F H' F' → J.go i H'
  stops : ∀ H' F', Later H F H' F' → J.stop ds.length H'
  yields : ∀ i H' F' x H2, i < ds.length → (∀ a, F' a → H' a ≠ none) → Later H F H' F' → J.yld i H' x H2 → ∃ F2 d, ds[i]? = some d ∧ DpF K H2 F2 x d ∧ Later H' F' H2 F2 ∧
    (∀ a o, H' a = some o → H2 a = some o) ∧ ∀ a, F2 a → F' a ∨ (H' a = none ∧ H2 a ≠ none ∧ NT H2 a)
section
variable {K : PySem.W.Frag} {H : Hp} {F : AP}
theorem walkD_of {J : It} {ds : List D} {xs : List V} (hx : DpFs K H F xs ds) (w : ∀ H' F', Later H F H' F' → Walk J ds.length (fun Hx => Hx = H') (YAt xs)) : WalkD K J ds H F where
  goes := fun i H' F' hi l => (w H' F' l).goes i H' hi rfl
  stops := fun H' F' l => (w H' F' l).stops H' rfl
  yields := fun i H' F' x H2 hi _ l y => by
    obtain ⟨rfl, e⟩ := (w H' F' l).yields i H' x H2 hi rfl y
    obtain ⟨d, e1, q⟩ := hx.getV e
    exact ⟨F', d, e1, q.mono l, Later.refl, fun _ _ z => z, fun _ z => .inl z⟩
theorem walkD_list {a : Addr} {xs : List V} {ds : List D} (h : F a ∧ H a = some (.lst xs)) (hx : DpFs K H F xs ds) : WalkD K (Itl K a) ds H F :=
  walkD_of hx fun H' F' l => by
    rw [← hx.length]
    exact walk_list.mono (fun Hx e => by subst e; exact .inl (.inl ((l a h.1).2.trans h.2))) fun _ _ _ _ _ _ y => y
theorem walkD_tup {a : Addr} {xs : List V} {ds : List D} (h : (F a ∧ Rd H a (.tup xs)) ∨ KT K a xs) (hx : DpFs K H F xs ds) : WalkD K (Itt K a) ds H F :=
  walkD_of hx fun H' F' l => by
    rw [← hx.length]
    refine walk_tup.mono (fun Hx e => ?_) fun _ _ _ _ _ _ y => y
    subst e
    rcases h with h | h
    · exact .inl (rd_later (l a h.1).2 h.2)
    · exact h.sq _
theorem walkD_str {z : Str} : WalkD K (Its z) (z.cps.toList.map fun c => .str ⟨#[c]⟩) H F where
  goes := fun i H' F' hi _ => by
    rw [List.length_map, Array.length_toList] at hi
    exact hi
  stops := fun H' F' _ => by
    rw [List.length_map, Array.length_toList]
    exact Nat.le_refl _
  yields := fun i H' F' x H2 hi _ l y => by
    obtain ⟨rfl, c, e, rfl⟩ := y
    exact ⟨F', _, by rw [List.getElem?_map, Array.getElem?_toList, e]; rfl, .str _, Later.refl, fun _ _ z => z, fun _ z => .inl z⟩
theorem walkD_range {lo : Int} {n : Nat} : WalkD K (Itr lo n) ((List.range n).map fun k => .int (lo + (k : Nat))) H F where
  goes := fun i H' F' hi _ => by
    rw [List.length_map, List.length_range] at hi
    exact hi
  stops := fun H' F' _ => by
    rw [List.length_map, List.length_range]
    exact Nat.le_refl _
  yields := fun i H' F' x H2 hi _ l y => by
    obtain ⟨rfl, rfl⟩ := y
    rw [List.length_map, List.length_range] at hi
    exact ⟨F', _, by rw [List.getElem?_map, List.getElem?_range hi]; rfl, .int _, Later.refl, fun _ _ z => z, fun _ z => .inl z⟩
end
section
variable (X : Cx) (W : WX)
structure DSrc (tg iter : Expr) (s : SX) : Prop where
  ex : ∃ wi, PI X tg iter wi ∧ ∀ (C : Ctx) (r : Env) (σ : L2.St) (H : Hp) (F : AP) (Q : List D → Env → Prop) (Xk : XW) (RV : It → Hp → Prop), C.K = X.K → Rep C r σ H F → Link X W Xk C σ → s Xk r Q →
    (∀ J H' F' ds r', Rep C r' σ H' F' → WalkD C.K J ds H' F' → Q ds r' → RV J H') → wi σ H RV
end
section
variable {X : Cx} {W : WX} {tg e a b c : Expr} {es : List Expr} {f h : TX} {pos : Pos} {st : Stmt} {rest : List Stmt} {p q : TS}
/-- what a list, a tuple, a text is walked by -/
def iAny (K : PySem.W.Frag) (tl : L2.TE) : TI := fun σ H R => tl σ H fun x H1 =>
  (∃ a xs, x = .ref a ∧ SqL K H1 a xs ∧ R (Itl K a) H1) ∨ (∃ a xs, x = .ref a ∧ SqT K H1 a xs ∧ R (Itt K a) H1) ∨ ∃ z, x = .str z ∧ R (Its z) H1
theorem pi_any {l : Expr} {tl : L2.TE} (hl : PE X l tl) : PI X tg l (iAny X.K tl) := by
  constructor
  intro pins s σ H R I h
  refine thn (hl.run pins s σ H _ I h) ?_
  rintro v s1 ⟨x, H1, I1, r1, q1⟩
  rcases q1 with ⟨a, xs, rfl, hq, q⟩ | ⟨a, xs, rfl, hq, q⟩ | ⟨z, rfl, q⟩
  · cases r1
    obtain ⟨its, rv, pl, hz⟩ := I1.list hq
    exact wpAny_pyIter_list pl.isList (pi_one (tk := s1.toks) I1 _ (turn_list a _) ⟨_, Heap.get?_push_size _ rfl, rfl, rfl⟩ q)
  · cases r1
    obtain ⟨its, rv, pl, hz⟩ := I1.tuple hq
    exact wpAny_pyIter_tuple (show s1.heap.IsTuple a its.toArray from pl) (pi_one (tk := s1.toks) I1 _ (turn_tuple a _) ⟨_, Heap.get?_push_size _ rfl, rfl, rfl⟩ q)
  · obtain ⟨t, rfl⟩ := r1
    cases hw : z.cps.all (· < 128)
    · exact wpAny_pyIter_wide hw (pi_one (tk := s1.toks) I1 _ (turn_str _ z t "str_iterator" (.inr rfl)) ⟨_, Heap.get?_push_size _ rfl, rfl, rfl⟩ q)
    · exact wpAny_pyIter_ascii hw (pi_one (tk := s1.toks) I1 _ (turn_str _ z t "str_ascii_iterator" (.inl rfl)) ⟨_, Heap.get?_push_size _ rfl, rfl, rfl⟩ q)
theorem src_x (d : DE X W e f) : DSrc X W tg e (wX f) := by
  obtain ⟨t, pe, ent⟩ := d.ex
  refine ⟨⟨_, pi_any pe, fun C r σ H F Q Xk RV hK R L hf k => ?_⟩⟩
  refine ent C r σ H F _ Xk _ hK R L hf fun v H1 F1 dv r1 R1 G1 q1 => ?_
  cases ed : dv.toD with
  | none => rw [ed] at q1; exact q1.elim
  | some d =>
    rw [ed] at q1
    obtain ⟨F2, R2, s2, _⟩ := G1.froz R1 ed
    cases s2 with
    | lst h1 h2 => exact .inl ⟨_, _, rfl, .inl (.inl h1.2), by rw [← hK]; exact k _ _ F2 _ r1 R2 (walkD_list h1 h2) q1⟩
    | tup h1 h2 => exact .inr (.inl ⟨_, _, rfl, by rw [← hK]; exact h1.elim (fun p => .inl p.2) fun p => p.sq _, by rw [← hK]; exact k _ _ F2 _ r1 R2 (walkD_tup h1 h2) q1⟩)
    | str z => exact .inr (.inr ⟨_, rfl, k _ _ F2 _ r1 R2 walkD_str q1⟩)
    | non => exact q1.elim
    | bl => exact q1.elim
    | int => exact q1.elim
theorem src_range1 {oa : OX} (mk : ∀ {ta : TA}, PA X [a] ta → PI X tg e (iRng1 ta)) (ha : DO X W a oa) (hs : starEach (a :: []) X.env = (false, eval a X.env) :: starEach [] X.env := by rfl) : DSrc X W tg e (wRange1 oa) := by
  obtain ⟨t, pa, ent⟩ := ha.ex
  refine ⟨⟨_, mk (pa_cons pa pa_nil hs), fun C r σ H F Q Xk RV hK R L hf k => ?_⟩⟩
  refine ent C r σ H F _ Xk _ hK R L hf fun v H1 F1 g r1 R1 G1 q1 => ?_
  split at q1
  · rename_i n eg
    have h1 := G1 _ _ _ _ R1 Later.refl eg
    cases h1.int
    refine ⟨n, rfl, q1.1.1, q1.1.2, ?_⟩
    have e0 : n.toNat = (n - 0).toNat := by rw [Int.sub_zero]
    rw [e0]
    exact k _ _ F1 _ r1 R1 walkD_range q1.2
  · exact q1.elim
theorem src_range2 {oa ob : OX} (mk : ∀ {ta : TA}, PA X [a, b] ta → PI X tg e (iRng2 ta)) (ha : DO X W a oa) (hb : DO X W b ob) (hs : starEach (a :: [b]) X.env = (false, eval a X.env) :: starEach [b] X.env := by rfl)
    (hs' : starEach (b :: []) X.env = (false, eval b X.env) :: starEach [] X.env := by rfl) : DSrc X W tg e (wRange2 oa ob) := by
  obtain ⟨t, pa, enta⟩ := ha.ex
  obtain ⟨u, pb, entb⟩ := hb.ex
  refine ⟨⟨_, mk (pa_cons pa (pa_cons pb pa_nil hs') hs), fun C r σ H F Q Xk RV hK R L hf k => ?_⟩⟩
  refine enta C r σ H F _ Xk _ hK R L hf fun v H1 F1 g r1 R1 G1 q1 => ?_
  refine entb (C.up H1 F1 noT) r1 σ H1 F1 _ Xk _ hK R1.up0 (L.up R1) q1 fun w H2 F2 g2 r2 R2' G2 q2 => ?_
  have R2 := R1.down R2'
  split at q2
  · rename_i n m en em
    have h1 := G1 _ _ _ _ R2 R2'.later en
    have h2 := G2 _ _ _ _ R2' Later.refl em
    cases h1.int
    cases h2.int
    exact ⟨n, m, rfl, q2.1, k _ _ F2 _ r2 R2 walkD_range q2.2⟩
  · exact q2.elim
/-! ### for -/
theorem ds_for {s : SX} {g : TG} {ws : List Nat} {body : List Stmt} {q : TS} (hp : PassesOwn (model X.prog X.w) X.A X.env X.xe) (hc : X.calm = true) (hi : DSrc X W tg e s) (hg : DG X tg ws g) (hb : DSs X W body q)
    (hs : ∀ x, foldedSetIterable e X.env x = pure x := by intro _; rfl) : DS X W (.For tg e body [] pos) (sFor s g q) := by
  obtain ⟨wi, pi, enti⟩ := hi.ex
  obtain ⟨tg', pg, entg⟩ := hg.ex
  obtain ⟨tb, pb, entb⟩ := hb.ex
  refine ⟨⟨_, ps_for hp hc pi pg pb hs, fun C r σ H F E D' hK R k hf => ?_⟩⟩
  refine enti C r σ H F _ E.ex _ hK R (k.ex σ) hf fun J H1 F1 ds r1 R1 w q1 => ?_
  -- the invariant: what is left of ds is still to be gone through
  refine ⟨fun i m σ2 H2 => m = ds.length - i ∧ i ≤ ds.length ∧ ∃ r2 F2, Rep C r2 σ2 H2 F2 ∧ Later H1 F1 H2 F2 ∧ forL g q E (ds.drop i) r2, ⟨_, rfl, Nat.zero_le _, r1, F1, R1, Later.refl, q1⟩, ?_⟩
  rintro i m σ2 H2 ⟨rfl, hi, r2, F2, R2, l2, q2⟩
  by_cases hlt : i < ds.length
  · refine .inr ⟨w.goes i H2 F2 hlt l2, fun σ3 H3 => ∃ r3 F3, Rep C r3 σ3 H3 F3 ∧ Later H1 F1 H3 F3 ∧ forL g q E (ds.drop (i + 1)) r3, fun σ3 H3 ⟨r3, F3, R3, l3, q3⟩ => ⟨ds.length - (i + 1), by omega, rfl, hlt, r3, F3, R3, l3, q3⟩, fun x H3 y => ?_⟩
    obtain ⟨F3, d, ed, hd, l3, s3, n3⟩ := w.yields i H2 F2 x H3 hlt R2.ftrk l2 y
    have R3 := R2.grow l3 s3 n3
    have ei : ds.drop i = d :: ds.drop (i + 1) := by
      rw [List.drop_eq_getElem_cons hlt]
      have := List.getElem?_eq_getElem hlt
      rw [ed] at this
      cases this
      rfl
    rw [ei] at q2
    refine entg C r2 σ2 H3 F3 x (.dat d) _ _ hK R3 (.dat hd) q2 fun σ4 r4 R4 _ q4 => ?_
    have l13 := l2.trans l3
    refine entb (C.up H3 F3 noT) r4 σ4 H3 F3 { E with nx := forL g q E (ds.drop (i + 1)), ct := forL g q E (ds.drop (i + 1)), bk := E.nx } _ hK R4.up0 ?_ q4
    exact ⟨fun σ5 H5 F5 r5 R5 q5 => ⟨r5, F5, R4.down R5, l13.trans R5.later, q5⟩, fun v H5 F5 dv fi rr qq => k.rt v H5 F5 dv (fi.down R4) rr.down qq,
      fun σ5 H5 F5 r5 R5 q5 => k.nx σ5 H5 F5 r5 (R4.down R5) q5, fun σ5 H5 F5 r5 R5 q5 => ⟨r5, F5, R4.down R5, l13.trans R5.later, q5⟩, fun σ5 => (k.ex σ5).up R4⟩
  · have ei : ds.length = i := by omega
    subst ei
    rw [List.drop_length] at q2
    exact .inl ⟨w.stops H2 F2 l2, k.nx σ2 H2 F2 r2 R2 q2⟩
theorem ds_while {t : TB} {body : List Stmt} {q : TS} (hp : PassesOwn (model X.prog X.w) X.A X.env X.xe) (hc : DT X W c t) (hb : DSs X W body q) : DS X W (.While c body [] pos) (sWhile t q) := by
  obtain ⟨tc, pc, entc⟩ := hc.ex
  obtain ⟨tb, pb, entb⟩ := hb.ex
  refine ⟨⟨_, ps_while hp pc pb, fun C r σ H F E D' hK R k hf => ?_⟩⟩
  obtain ⟨Wh, ⟨m0, w0⟩, turn⟩ := hf
  refine ⟨fun m σ2 H2 => ∃ r2 F2, Rep C r2 σ2 H2 F2 ∧ Wh m r2, ⟨m0, r, F, R, w0⟩, ?_⟩
  rintro m σ2 H2 ⟨r2, F2, R2, w2⟩
  refine entc C r2 σ2 H2 F2 _ E.ex _ hK R2 (k.ex σ2) (turn m r2 w2) fun v H3 F3 r3 R3 q3 => ?_
  cases v with
  | true =>
    refine ⟨fun σ4 H4 => ∃ r4 F4, Rep C r4 σ4 H4 F4 ∧ ∃ m', m' < m ∧ Wh m' r4, fun σ4 H4 ⟨r4, F4, R4, m', hm, w4⟩ => ⟨m', hm, r4, F4, R4, w4⟩, ?_⟩
    exact entb C r3 σ2 H3 F3 { E with nx := fun r' => ∃ m', m' < m ∧ Wh m' r', ct := fun r' => ∃ m', m' < m ∧ Wh m' r', bk := E.nx } _ hK R3 ⟨fun σ5 H5 F5 r5 R5 q5 => ⟨r5, F5, R5, q5⟩, k.rt, fun σ5 H5 F5 r5 R5 q5 => k.nx σ5 H5 F5 r5 R5 q5, fun σ5 H5 F5 r5 R5 q5 => ⟨r5, F5, R5, q5⟩, k.ex⟩ q3
  | false => exact k.nx σ2 H3 F3 r3 R3 q3
/-! ### the list in a slot grows -/
theorem Rep.lstUpd {C : Ctx} {r : Env} {σ : L2.St} {H : Hp} {F : AP} {i : Nat} {ds es : List D} {a : Addr} {ys : List V} (R : Rep C r σ H F) (e : sl r i = some (.own ds)) (e1 : σ[i]? = some (some (.ref a))) (hd : DpFs C.K H F ys es) :
    Rep C (put r i (.own es)) σ (upd H a (.lst ys)) F ∧ Later H F (upd H a (.lst ys)) F := by
  obtain ⟨nz, nb⟩ := R.ownz i _ a e rfl e1
  obtain ⟨v, e2, sr⟩ := R.slot i _ e
  rw [e1] at e2; cases e2
  cases sr with
  | own h1 h2 nf =>
    have l : Later H F (upd H a (.lst ys)) F := fun x z => ⟨z, upd_ne fun q => nf (q ▸ z)⟩
    refine ⟨⟨by rw [len_putO]; exact R.len, fun j dv ej => ?_, fun j k dj dk x ej ek oj ok sj sk => ?_, fun x z => ?_, R.fsub, R.fnew, R.fz, fun x z => ?_, fun j dj x ej oj sj => ?_, fun x ex => ?_, R.tb.upd (free_lst h1) fun _ z => (by cases z)⟩, l⟩
    · rcases sl_put_some ej with ⟨rfl, rfl⟩ | ⟨ne, ej'⟩
      · exact ⟨_, e1, .own upd_same (hd.mono l) nf⟩
      · obtain ⟨v, ev, sr⟩ := R.slot j dv ej'
        refine ⟨v, ev, ?_⟩
        cases sr with
        | dat s => exact .dat (s.mono l)
        | own g1 g2 g3 => exact .own ((upd_ne fun q => ne (R.dist j i _ _ _ ej' e rfl rfl (q ▸ ev) e1)).trans g1) (g2.mono l) g3
        | dct g1 g3 => exact .dct (g1.mono l (upd_ne fun q => ne (R.dist j i _ _ _ ej' e rfl rfl (q ▸ ev) e1))) g3
        | nd s n => exact .nd (s.mono l) (n.mono l)
        | bag s => exact .bag s
    · have aux : ∀ {j dj}, sl (put r i (.own es)) j = some dj → dj.hold = true → ∃ d', sl r j = some d' ∧ d'.hold = true := fun {j dj} ej oj => by
        rcases sl_put_some ej with ⟨rfl, _⟩ | ⟨_, ej'⟩
        · exact ⟨_, e, rfl⟩
        · exact ⟨_, ej', oj⟩
      obtain ⟨d1, e3, o3⟩ := aux ej oj
      obtain ⟨d2, e4, o4⟩ := aux ek ok
      exact R.dist j k d1 d2 x e3 e4 o3 o4 sj sk
    · obtain ⟨q, n⟩ := R.keep x z
      have hx : x ≠ a := fun w => nz (w ▸ z)
      rw [upd_ne hx]
      exact ⟨q, n⟩
    · rw [(l x z).2]; exact R.ftrk x z
    · rcases sl_put_some ej with ⟨rfl, _⟩ | ⟨_, ej'⟩
      · exact R.ownz j _ x e rfl sj
      · exact R.ownz j dj x ej' oj sj
    · obtain ⟨k, nf', nz'⟩ := R.bag x ex
      have hx : x ≠ a := fun w => nb (w ▸ ex)
      exact ⟨BagOk.mono (C := C) l (upd_ne hx) k, nf', nz'⟩
/-- a method that changes the list in slot i: p tells the new list and the answer from the old one and the arguments -/
def xMeth (i : Nat) (o : List D → List D → (List D → DV → Prop) → Prop) (t : OAX) : TX := fun X r Q => (∃ ds, sl r i = some (.own ds)) ∧ t X r fun gs r1 => match gets gs r1, sl r1 i with
  | some ds, some (.own es) => o es ds fun es' v => Q v (put r1 i (.own es'))
  | _, _ => False
def SemM (K : PySem.W.Frag) (p : V → List V → Hp → VK → Prop) (o : List D → List D → (List D → DV → Prop) → Prop) : Prop := ∀ (H : Hp) (F : AP) (a : Addr) (ys xs : List V) (es ds : List D) (Q : List D → DV → Prop) (QV : VK),
  (∀ x, F x → H x ≠ none) → ¬ F a → H a = some (.lst ys) → DpFs K H F ys es → DpTs K H F xs ds → o es ds Q →
  (∀ v ys' es' d, DpFs K H F ys' es' → DpF K H F v d → Q es' (.dat d) → QV v (upd H a (.lst ys'))) → p (.ref a) xs H QV
theorem de_meth {i : Nat} {pr : V → List V → Hp → VK → Prop} {o : List D → List D → (List D → DV → Prop) → Prop} {u : OAX} {ob : Expr} (po : PE X ob (tVar i)) (hs : SemM X.K pr o) (ha : DOA X W es u)
    (mk : ∀ {to : L2.TE} {t : TA}, PE X ob to → PA X es t → PE X e (tBM X.K "list" pr to t)) : DE X W e (xMeth i o u) := by
  obtain ⟨t, pa, ent⟩ := ha.ex
  refine ⟨⟨_, mk po pa, fun C r σ H F Q Xk QV hK R L hf k => ?_⟩⟩
  obtain ⟨⟨ds0, e0⟩, hf⟩ := hf
  obtain ⟨v0, s0, sr0⟩ := R.slot i _ e0
  refine ⟨v0, s0, ?_⟩
  cases sr0 with
  | own h1 h2 h3 =>
    refine ⟨.inl ⟨rfl, _, .inl (.inl h1)⟩, ?_⟩
    refine ent C r σ H F _ Xk _ hK R L hf fun vs H1 F1 gs r1 R1 G1 q1 => ?_
    split at q1
    · rename_i ds es' eg e1
      obtain ⟨v1, s1, sr1⟩ := R1.slot i _ e1
      rw [s0] at s1; cases s1
      cases sr1 with
      | own g1 g2 g3 =>
        refine hs H1 F1 _ _ vs es' ds _ QV R1.ftrk g3 g1 (hK ▸ g2) (hK ▸ gets_of R1 G1 eg) q1 fun v ys' es2 d hy hv q2 => ?_
        obtain ⟨R2, l2⟩ := R1.lstUpd e1 s0 (hK ▸ hy)
        exact k v _ F1 _ _ R2 (.dat ((hK ▸ hv : DpF C.K H1 F1 v d).mono l2)) q2
    · exact q1.elim
/-- x.append(e) -/
theorem de_app {i : Nat} {ob el : Expr} {u : TX} (po : PE X ob (tVar i)) (ha : DE X W el u) (hst : starEach (el :: []) X.env = (false, eval el X.env) :: starEach [] X.env := by rfl)
    (mk : ∀ {to : L2.TE} {t : TA}, PE X ob to → PA X [el] t → PE X e (tBM X.K "list" rAppend to t)) : DE X W e (xApp i u) := by
  obtain ⟨t, pa, ent⟩ := ha.ex
  refine ⟨⟨_, mk po (pa_cons pa pa_nil hst), fun C r σ H F Q Xk QV hK R L hf k => ?_⟩⟩
  obtain ⟨⟨ds0, e0⟩, hf⟩ := hf
  obtain ⟨v0, s0, sr0⟩ := R.slot i _ e0
  refine ⟨v0, s0, ?_⟩
  cases sr0 with
  | own h1 h2 h3 =>
    refine ⟨.inl ⟨rfl, _, .inl (.inl h1)⟩, ?_⟩
    refine ent C r σ H F _ Xk _ hK R L hf fun v H1 F1 dv r1 R1 G1 q1 => ?_
    split at q1
    · rename_i d es' ed e1
      obtain ⟨F2, R2, s2, l2⟩ := G1.froz R1 ed
      obtain ⟨v1, s1, sr1⟩ := R2.slot i _ e1
      rw [s0] at s1; cases s1
      cases sr1 with
      | own g1 g2 g3 =>
        refine ⟨_, _, v, rfl, rfl, g1, by rw [line_eq, g2.length]; exact q1.1, ?_⟩
        obtain ⟨R3, l3⟩ := R2.lstUpd e1 s0 (g2.app (.cons s2 .nil))
        exact k _ _ F2 _ _ R3 (.dat .non) q1.2
    · exact q1.elim
/-! ### a, b = e1, e2 -/
theorem Res.store2 {C : Ctx} {r : Env} {σ : L2.St} {H : Hp} {F : AP} {v w : V} {dv dw : DV} {i : Nat} (R : Rep C r σ H F) (q : Res C r σ H F w dw) (ne : ∀ a b, v = .ref a → dv.hold = true → w = .ref b → dw.hold = true → a ≠ b) :
    Res C (put r i dv) (σ.set i (some v)) H F w dw := by
  have key : ∀ a, w = .ref a → dw.hold = true → (∀ i es, sl r i = some es → es.hold = true → σ[i]? ≠ some (some (.ref a))) → ∀ j es, sl (put r i dv) j = some es → es.hold = true → (σ.set i (some v))[j]? ≠ some (some (.ref a)) := fun a ea oa h6 j es ej oj sj => by
    have hj : j < σ.length := by have := sl_lt ej; rw [len_putO] at this; rw [← R.len]; exact this
    rcases sl_put_some ej with ⟨rfl, ed⟩ | ⟨n, ej'⟩
    · rw [List.getElem?_set_self hj] at sj
      cases sj
      subst ed
      exact ne _ _ rfl oj ea oa rfl
    · rw [List.getElem?_set_ne (Ne.symm n)] at sj
      exact h6 j es ej' oj sj
  cases q with
  | dat s => exact .dat s
  | own h1 h2 h3 h4 h5 h6 => exact .own h1 h2 h3 h4 h5 (key _ rfl rfl h6)
  | dct h1 h3 h4 h5 h6 => exact .dct h1 h3 h4 h5 (key _ rfl rfl h6)
  | nd h n => exact .nd h n
  | bag s => exact .bag s
theorem ds_par {i j : Nat} {e1 e2 : Expr} (h1 : DE X W e1 f) (h2 : DE X W e2 h) (mk : ∀ {ta : TA}, PA X [e1, e2] ta → PS X st (tPar i j ta))
    (hs : starEach (e1 :: [e2]) X.env = (false, eval e1 X.env) :: starEach [e2] X.env := by rfl) (hs' : starEach (e2 :: []) X.env = (false, eval e2 X.env) :: starEach [] X.env := by rfl) : DS X W st (sPar i j f h) := by
  obtain ⟨t, pa, enta⟩ := h1.ex
  obtain ⟨u, pb, entb⟩ := h2.ex
  refine ⟨⟨_, mk (pa_cons pa (pa_cons pb pa_nil hs') hs), fun C r σ H F E D' hK R k hf => ?_⟩⟩
  refine enta C r σ H F _ E.ex _ hK R (k.ex σ) hf fun v H1 F1 dv r1 R1 G1 q1 => ?_
  -- the first value waits: it is not to change meanwhile
  have tmp : ∀ a, (v = .ref a ∧ dv.hold = true) → H1 a ≠ none ∧ C.b ≠ some a ∧ (∀ i es, sl r1 i = some es → es.hold = true → σ[i]? ≠ some (some (.ref a))) ∧ NT H1 a := fun a ⟨ev, ed⟩ => by
    subst ev
    cases G1 with
    | own g1 g2 g3 g4 g5 g6 => exact ⟨by rw [g1]; simp, g5, g6, nt_lst g1⟩
    | dct g1 g3 g4 g5 g6 => exact ⟨g1.ne.2, g5, g6, (free_dct g1).nt⟩
    | nd _ _ => cases ed
    | dat _ => cases ed
    | bag _ => cases ed
  refine entb (C.up H1 F1 fun a => v = .ref a ∧ dv.hold = true) r1 σ H1 F1 _ E.ex _ hK (R1.up tmp) ((k.ex σ).up R1) q1 fun w H2 F2 dw r2 R2' G2 q2 => ?_
  have R2 := R1.down R2'
  have G1' : Res C r2 σ H2 F2 v dv := by
    cases G1 with
    | dat s => exact .dat (s.mono R2'.later)
    | own g1 g2 g3 g4 g5 g6 =>
      obtain ⟨e, nf⟩ := R2'.still ⟨rfl, rfl⟩ g3
      exact .own (e.trans g1) (g2.mono R2'.later) nf g4 g5 fun i es ei oi si => (R2'.ownz i es _ ei oi si).1 (.inr (.inr ⟨rfl, rfl⟩))
    | dct g1 g3 g4 g5 g6 =>
      obtain ⟨e, nf⟩ := R2'.still ⟨rfl, rfl⟩ g3
      exact .dct (g1.mono R2'.later e) nf g4 g5 fun i es ei oi si => (R2'.ownz i es _ ei oi si).1 (.inr (.inr ⟨rfl, rfl⟩))
    | nd s n => exact .nd (s.mono R2'.later) (n.mono R2'.later)
    | bag s => exact .bag s
  refine ⟨v, w, rfl, ?_⟩
  have R3 := R2.store (i := i) G1'
  have G2' : Res C (put r2 i dv) (σ.set i (some v)) H2 F2 w dw := by
    refine Res.store2 R2 G2.down fun a b ev ed ew edw eab => ?_
    subst ew
    cases G2 with
    | own _ _ _ nz _ _ => exact nz (.inr (.inr ⟨by rw [ev, eab], ed⟩))
    | dct _ _ nz _ _ => exact nz (.inr (.inr ⟨by rw [ev, eab], ed⟩))
    | nd _ _ => cases edw
    | dat _ => cases edw
    | bag _ => cases edw
  exact k.nx _ H2 F2 _ (R3.store G2') q2
end
end DL

/-! DL, part 6: list comprehensions; defs; the law. -/
namespace DL
open PySem PySem.Spec L2
/-! ### one reading for all blocks -/
def tCan (K : PySem.W.Frag) (mg : Str → Option Value) (W : WX) (f : TX) : L2.TE := fun σ H QV => ∃ (C : Ctx) (r : Env) (F : AP) (Xk : XW) (Q : DV → Env → Prop), C.K = K ∧ Rep C r σ H F ∧
  (∀ er r' H' F' cls d, Rep C r' σ H' F' → ErrR mg C.K H' F' cls d er → Xk er r' → W cls d σ H') ∧ f Xk r Q ∧ ∀ v H' F' dv r', Rep C r' σ H' F' → Res C r' σ H' F' v dv → Q dv r' → QV v H'
theorem DE.can {X : Cx} {W : WX} {e : Expr} {f : TX} (h : DE X W e f) : PE X e (tCan X.K X.mg W f) := by
  obtain ⟨t, pe, ent⟩ := h.ex
  exact ⟨fun pins s σ H Q I ⟨C, r, F, Xk, Qd, hK, R, L, hf, k⟩ => pe.run pins s σ H Q I (ent C r σ H F Qd Xk Q hK R L hf k)⟩
def bCan (K : PySem.W.Frag) (mg : Str → Option Value) (W : WX) (f : TB) : L2.TT := fun σ H QV => ∃ (C : Ctx) (r : Env) (F : AP) (Xk : XW) (Q : Bool → Env → Prop), C.K = K ∧ Rep C r σ H F ∧
  (∀ er r' H' F' cls d, Rep C r' σ H' F' → ErrR mg C.K H' F' cls d er → Xk er r' → W cls d σ H') ∧ f Xk r Q ∧ ∀ b H' F' r', Rep C r' σ H' F' → Q b r' → QV b H'
theorem DT.can {X : Cx} {W : WX} {e : Expr} {f : TB} (h : DT X W e f) : PT X e (bCan X.K X.mg W f) := by
  obtain ⟨t, pe, ent⟩ := h.ex
  exact ⟨fun pins s σ H Q I ⟨C, r, F, Xk, Qd, hK, R, L, hf, k⟩ => pe.run pins s σ H Q I (ent C r σ H F Qd Xk Q hK R L hf k)⟩
def gCan (K : PySem.W.Frag) (ws : List Nat) (g : TG) : L2.TG := fun v σ H QV => ∃ (C : Ctx) (r : Env) (F : AP) (dv : DV) (Q : Env → Prop), C.K = K ∧ Rep C r σ H F ∧ Res C r σ H F v dv ∧ g dv r Q ∧ ∀ σ' r', Rep C r' σ' H F → Wr ws σ σ' → Q r' → QV σ' H
theorem DG.can {X : Cx} {ws : List Nat} {e : Expr} {g : TG} (h : DG X e ws g) : PG X e (gCan X.K ws g) := by
  obtain ⟨t, pe, ent⟩ := h.ex
  exact ⟨fun pins s σ H v u Q I rv ⟨C, r, F, dv, Qd, hK, R, G, hf, k⟩ => pe.run pins s σ H v u Q I rv (ent C r σ H F v dv Qd Q hK R G hf k)⟩
/-! ### the block's own names -/
theorem Rep.wipe1 {C : Ctx} {r : Env} {σ : L2.St} {H : Hp} {F : AP} {i : Nat} (R : Rep C r σ H F) : Rep C (putO r i none) (σ.set i none) H F where
  len := by rw [len_putO, List.length_set]; exact R.len
  slot := fun j d e => by
    obtain ⟨n, e'⟩ := sl_put_none e
    rw [List.getElem?_set_ne (Ne.symm n)]
    exact R.slot j d e'
  dist := fun j k dj dk a e1 e2 o1 o2 s1 s2 => by
    obtain ⟨n1, e1⟩ := sl_put_none e1
    obtain ⟨n2, e2⟩ := sl_put_none e2
    rw [List.getElem?_set_ne (Ne.symm n1)] at s1
    rw [List.getElem?_set_ne (Ne.symm n2)] at s2
    exact R.dist j k dj dk a e1 e2 o1 o2 s1 s2
  keep := R.keep
  fsub := R.fsub
  fnew := R.fnew
  fz := R.fz
  ftrk := R.ftrk
  ownz := fun j ds a e o1 s1 => by
    obtain ⟨n1, e1⟩ := sl_put_none e
    rw [List.getElem?_set_ne (Ne.symm n1)] at s1
    exact R.ownz j ds a e1 o1 s1
  bag := R.bag
  tb := R.tb
theorem Rep.wipe {C : Ctx} {r : Env} {σ : L2.St} {H : Hp} {F : AP} (R : Rep C r σ H F) : ∀ vs : List Nat, Rep C (clrs r vs) (L2.wipe σ vs) H F
  | [] => R
  | _ :: vs => (Rep.wipe R vs).wipe1
theorem wipe_at (σ : L2.St) : ∀ (vs : List Nat) (i : Nat), (L2.wipe σ vs)[i]? = if i ∈ vs ∧ i < σ.length then some none else σ[i]?
  | [], i => by simp [L2.wipe]
  | v :: vs, i => by
    unfold L2.wipe
    rw [List.getElem?_set, L2.wipe_length]
    by_cases h : v = i
    · subst h
      by_cases hl : v < σ.length
      · simp [hl]
      · simp [hl, List.getElem?_eq_none (Nat.le_of_not_lt hl)]
    · rw [if_neg h, wipe_at σ vs i]
      have h' : ¬ i = v := fun z => h z.symm
      simp only [List.mem_cons, h', false_or]
theorem wipe_wr {ws vs : List Nat} {σ σ' : L2.St} (hw : ∀ i ∈ ws, i ∈ vs) (w : Wr ws (L2.wipe σ vs) σ') : L2.wipe σ' vs = L2.wipe σ vs := by
  apply List.ext_getElem?
  intro i
  have hl : σ'.length = σ.length := by rw [w.1, L2.wipe_length]
  rw [wipe_at, wipe_at, hl]
  by_cases h : i ∈ vs ∧ i < σ.length
  · rw [if_pos h, if_pos h]
  · rw [if_neg h, if_neg h]
    by_cases hi : i ∈ ws
    · have hv := hw i hi
      have hn : ¬ i < σ.length := fun z => h ⟨hv, z⟩
      rw [List.getElem?_eq_none (by omega), List.getElem?_eq_none (by omega)]
    · rw [w.2 i hi, wipe_at, if_neg h]
theorem sl_back (r0 r : Env) : ∀ (is : List Nat) (j : Nat), sl (back r0 r is) j = if j ∈ is ∧ j < r.length then sl r0 j else sl r j
  | [], j => by simp [back]
  | i :: is, j => by
    have hl : ∀ is, (back r0 r is).length = r.length := fun is => by
      induction is with
      | nil => rfl
      | cons i is ih => unfold back; rw [len_putO, ih]
    unfold back
    rw [sl_putO, hl, sl_back r0 r is j]
    by_cases h : j = i
    · subst h
      by_cases hj : j < r.length
      · simp [hj]
      · have : sl r j = none := by
          cases q : sl r j with
          | none => rfl
          | some v => exact absurd (sl_lt q) hj
        simp [hj, this]
    · rw [if_neg h]
      simp only [List.mem_cons, h, false_or]
theorem len_back (r0 r : Env) (is : List Nat) : (back r0 r is).length = r.length := by
  induction is with
  | nil => rfl
  | cons i is ih => unfold back; rw [len_putO, ih]
/-- behind the block: its names are what they were -/
theorem Rep.back {C : Ctx} {r r0 : Env} {σ : L2.St} {H H0 : Hp} {F F0 : AP} {vs : List Nat} (R0 : Rep C r0 σ H0 F0) (R : Rep C r (L2.wipe σ vs) H F) (l : Later H0 F0 H F) (no : ∀ i ∈ vs, notOwn r0 i) : Rep C (back r0 r vs) σ H F := by
  have hlen : r.length = σ.length := by rw [R.len, L2.wipe_length]
  have own : ∀ {j ds}, sl (DL.back r0 r vs) j = some ds → ds.hold = true → sl r j = some ds ∧ (L2.wipe σ vs)[j]? = σ[j]? := fun {j ds} e o1 => by
    rw [sl_back] at e
    by_cases h : j ∈ vs ∧ j < r.length
    · rw [if_pos h] at e
      exact absurd (no j h.1 ds e) (by rw [o1]; simp)
    · rw [if_neg h] at e
      refine ⟨e, ?_⟩
      rw [wipe_at, if_neg (by rw [← hlen]; exact h)]
  refine ⟨by rw [len_back, hlen], fun j dv e => ?_, fun j k dj dk a e1 e2 o1 o2 s1 s2 => ?_, R.keep, R.fsub, R.fnew, R.fz, R.ftrk, fun j ds a e o1 s1 => ?_, R.bag, R.tb⟩
  · rw [sl_back] at e
    by_cases h : j ∈ vs ∧ j < r.length
    · rw [if_pos h] at e
      obtain ⟨v, ev, sr⟩ := R0.slot j dv e
      refine ⟨v, ev, ?_⟩
      cases sr with
      | dat s => exact .dat (s.mono l)
      | own => exact absurd (no j h.1 _ e) (by simp [DV.hold])
      | dct => exact absurd (no j h.1 _ e) (by simp [DV.hold])
      | nd s n => exact .nd (s.mono l) (n.mono l)
      | bag s => exact .bag s
    · rw [if_neg h] at e
      obtain ⟨v, ev, sr⟩ := R.slot j dv e
      rw [wipe_at, if_neg (by rw [← hlen]; exact h)] at ev
      exact ⟨v, ev, sr⟩
  · obtain ⟨q1, w1⟩ := own e1 o1
    obtain ⟨q2, w2⟩ := own e2 o2
    exact R.dist j k dj dk a q1 q2 o1 o2 (w1.trans s1) (w2.trans s2)
  · obtain ⟨q1, w1⟩ := own e o1
    exact R.ownz j ds a q1 o1 (w1.trans s1)
/-- a list that waits is changed -/
theorem Rep.updT {C : Ctx} {r : Env} {σ : L2.St} {H : Hp} {F : AP} {a : Addr} {o : HO} (R : Rep C r σ H F) (nf : ¬ F a) (nz : ¬ C.Z a) (nb : C.b ≠ some a) (no : ∀ i es, sl r i = some es → es.hold = true → σ[i]? ≠ some (some (.ref a))) (hfr : FreeAt H a) (ho : ∀ ps, o ≠ .tbl ps := by intro _ z; cases z) :
    Rep C r σ (upd H a o) F ∧ Later H F (upd H a o) F := by
  have l : Later H F (upd H a o) F := fun x z => ⟨z, upd_ne fun q => nf (q ▸ z)⟩
  refine ⟨⟨R.len, fun j dv e => ?_, R.dist, fun x z => ?_, R.fsub, R.fnew, R.fz, fun x z => ?_, R.ownz, fun x ex => ?_, R.tb.upd hfr ho⟩, l⟩
  · obtain ⟨v, ev, sr⟩ := R.slot j dv e
    refine ⟨v, ev, ?_⟩
    cases sr with
    | dat s => exact .dat (s.mono l)
    | own g1 g2 g3 =>
      rename_i a2 _ _
      have hx : a2 ≠ a := fun q => no j _ e rfl (by rw [← q]; exact ev)
      exact .own ((upd_ne hx).trans g1) (g2.mono l) g3
    | dct g1 g3 =>
      rename_i a2 _ _
      have hx : a2 ≠ a := fun q => no j _ e rfl (by rw [← q]; exact ev)
      exact .dct (g1.mono l (upd_ne hx)) g3
    | nd s n => exact .nd (s.mono l) (n.mono l)
    | bag s => exact .bag s
  · have hx : x ≠ a := fun w => nz (w ▸ z)
    rw [upd_ne hx]
    exact R.keep x z
  · rw [(l x z).2]; exact R.ftrk x z
  · obtain ⟨k, nf', nz'⟩ := R.bag x ex
    have hx : x ≠ a := fun w => nb (w ▸ ex)
    exact ⟨BagOk.mono (C := C) l (upd_ne hx) k, nf', nz'⟩
section
variable {X : Cx} {W : WX} {tg iter elt e a b c : Expr} {es : List Expr} {f h : TX} {pos : Pos} {st : Stmt}
/-- an iterator that gives the data ds while what the frame's floor holds stands -/
structure WalkZ (C : Ctx) (J : It) (ds : List D) (H : Hp) (F : AP) : Prop where
  goes : ∀ i H' F', i < ds.length → Later H F H' F' → (∀ z, C.Z z → H' z = C.HZ z) → J.go i H'
  stops : ∀ H' F', Later H F H' F' → (∀ z, C.Z z → H' z = C.HZ z) → J.stop ds.length H'
  yields : ∀ i H' F' x H2, i < ds.length → (∀ a, F' a → H' a ≠ none) → Later H F H' F' → (∀ z, C.Z z → H' z = C.HZ z) → J.yld i H' x H2 → ∃ F2 d, ds[i]? = some d ∧ DpF C.K H2 F2 x d ∧ Later H' F' H2 F2 ∧
    (∀ a o, H' a = some o → H2 a = some o) ∧ ∀ a, F2 a → F' a ∨ (H' a = none ∧ H2 a ≠ none ∧ NT H2 a)
theorem WalkD.z {C : Ctx} {J : It} {ds : List D} {H : Hp} {F : AP} (w : WalkD C.K J ds H F) : WalkZ C J ds H F :=
  ⟨fun i H' F' hi l _ => w.goes i H' F' hi l, fun H' F' l _ => w.stops H' F' l, fun i H' F' x H2 hi t l _ y => w.yields i H' F' x H2 hi t l y⟩
theorem lc_coreD {K : PySem.W.Frag} {mg : Str → Option Value} {vs ws : List Nat} {g : TG} {t : TB} {f : TX} (hw : ∀ i ∈ ws, i ∈ vs)
    {tt : L2.TT} (htt : ∀ (C : Ctx) (r : Env) (σ : L2.St) (H : Hp) (F : AP) (Q : Bool → Env → Prop) (QV : Bool → Hp → Prop), C.K = K → Rep C r σ H F → t noX r Q → (∀ b H' F' r', Rep C r' σ H' F' → Q b r' → QV b H') → tt σ H QV)
    (C : Ctx) (r1 : Env) (σ : L2.St) (H1 : Hp) (F1 : AP) (Q : DV → Env → Prop) (QV : VK) (J : It) (ds : List D) (hK : C.K = K) (R1 : Rep C r1 σ H1 F1) (w : WalkZ C J ds H1 F1) (no : ∀ i ∈ vs, notOwn r1 i)
    (q1 : lcL vs g t f ds [] (clrs r1 vs) fun acc r2 => Q (.own acc) (DL.back r1 r2 vs)) (k : ∀ v H' F' dv r', Rep C r' σ H' F' → Res C r' σ H' F' v dv → Q dv r' → QV v H') :
    tLc (fun _ _ R => R J H1) (gCan K ws g) tt (tCan K mg (fun _ _ _ _ => False) f) vs σ H1 QV := by
  intro Dl hD
  have nbag : C.b ≠ some Dl := fun z => by
    obtain ⟨⟨_, _, _, _, _, h1, _⟩, _, _⟩ := R1.bag Dl z
    rw [hD] at h1; cases h1
  have nzD : ¬ C.Z Dl := fun z => (R1.keep Dl z).2 hD
  have nfD : ¬ F1 Dl := fun z => R1.ftrk Dl z hD
  obtain ⟨R2, G2, l2⟩ := (R1.wipe vs).freshOwn (xs := []) (ds := []) hD .nil
  have noD : ∀ i es, sl (clrs r1 vs) i = some es → es.hold = true → (L2.wipe σ vs)[i]? ≠ some (some (.ref Dl)) := by
    cases G2 with
    | own _ _ _ _ _ h6 => exact h6
  refine ⟨fun i m H2 => m = ds.length - i ∧ i ≤ ds.length ∧ ∃ r2 F2 acc xs, Rep C r2 (L2.wipe σ vs) H2 F2 ∧ Later H1 F1 H2 F2 ∧ H2 Dl = some (.lst xs) ∧ DpFs C.K H2 F2 xs acc ∧ ¬ F2 Dl ∧
    (∀ i es, sl r2 i = some es → es.hold = true → (L2.wipe σ vs)[i]? ≠ some (some (.ref Dl))) ∧ lcL vs g t f (ds.drop i) acc r2 fun acc' r3 => Q (.own acc') (DL.back r1 r3 vs), ⟨_, rfl, Nat.zero_le _, _, F1, [], [], R2, l2, upd_same, .nil, nfD, noD, q1⟩, ?_⟩
  rintro i m H2 ⟨rfl, hi, r2, F2, acc, xs, R2, l2, hDl, hacc, nf2, no2, q2⟩
  by_cases hlt : i < ds.length
  · refine .inr ⟨w.goes i H2 F2 hlt l2 (fun z hz => (R2.keep z hz).1), fun H3 => ∃ r3 F3 acc3 xs3, Rep C r3 (L2.wipe σ vs) H3 F3 ∧ Later H1 F1 H3 F3 ∧ H3 Dl = some (.lst xs3) ∧ DpFs C.K H3 F3 xs3 acc3 ∧ ¬ F3 Dl ∧
      (∀ i es, sl r3 i = some es → es.hold = true → (L2.wipe σ vs)[i]? ≠ some (some (.ref Dl))) ∧ lcL vs g t f (ds.drop (i + 1)) acc3 r3 fun acc' r4 => Q (.own acc') (DL.back r1 r4 vs),
      fun H3 ⟨r3, F3, acc3, xs3, z⟩ => ⟨ds.length - (i + 1), by omega, rfl, hlt, r3, F3, acc3, xs3, z⟩, fun x H3 y => ?_⟩
    obtain ⟨F3, d, ed, hd, l3, s3, n3⟩ := w.yields i H2 F2 x H3 hlt R2.ftrk l2 (fun z hz => (R2.keep z hz).1) y
    have R3 := R2.grow l3 s3 n3
    have hDl3 := s3 _ _ hDl
    have nf3 : ¬ F3 Dl := fun z => (n3 Dl z).elim nf2 fun q => by rw [hDl] at q; cases q.1
    have ei : ds.drop i = d :: ds.drop (i + 1) := by
      rw [List.drop_eq_getElem_cons hlt]
      have := List.getElem?_eq_getElem hlt
      rw [ed] at this
      cases this
      rfl
    rw [ei] at q2
    -- Dl waits
    have R3u := R3.up (T := fun z => z = Dl) fun z e => by
      subst e
      exact ⟨by rw [hDl3]; simp, nbag, no2, nt_lst hDl3⟩
    refine ⟨C.up H3 F3 fun z => z = Dl, r2, F3, .dat d, _, hK, R3u, .dat hd, q2, fun σ4 r4 R4 w4 q4 => ?_⟩
    have hwp : L2.wipe σ4 vs = L2.wipe σ vs := wipe_wr hw w4
    refine ⟨hwp, ?_⟩
    refine htt (C.up H3 F3 fun z => z = Dl) r4 σ4 H3 F3 _ _ hK R4 q4 fun bb H5 F5 r5 R5 q5 => ?_
    have l35 : Later H3 F3 H5 F5 := R5.later
    have fin : ∀ {H6 : Hp} {F6 : AP} {r6 : Env} {xs6 : List V} {acc6 : List D}, Rep (C.up H3 F3 fun z => z = Dl) r6 σ4 H6 F6 → Rep C (clrs r6 vs) (L2.wipe σ vs) H6 F6 ∧ Later H1 F1 H6 F6 ∧ H6 Dl = some (.lst xs) ∧ DpFs C.K H6 F6 xs acc ∧ ¬ F6 Dl ∧
        (∀ i es, sl (clrs r6 vs) i = some es → es.hold = true → (L2.wipe σ vs)[i]? ≠ some (some (.ref Dl))) := fun {H6 F6 r6 _ _} R6 => by
      have R6w := (R3.down R6).wipe vs
      have R6w' := R6.wipe vs
      rw [hwp] at R6w R6w'
      obtain ⟨e6, n6⟩ := R6.still rfl nf3
      exact ⟨R6w, (l2.trans l3).trans R6.later, e6.trans hDl3, (hacc.mono l3).mono R6.later, n6, fun i es e1 o1 e2 => (R6w'.ownz i es Dl e1 o1 e2).1 (.inr (.inr rfl))⟩
    cases bb with
    | true =>
      refine ⟨C.up H3 F3 fun z => z = Dl, r5, F5, noX, _, hK, R5, fun _ _ _ _ _ _ _ _ z => z.elim, q5, fun v H6 F6 dv r6 R6 G6 q6 => ?_⟩
      split at q6
      · rename_i d' ed'
        obtain ⟨F7, R7, s7, l7⟩ := G6.froz R6 ed'
        obtain ⟨R8, l8, e8, h8, n8, o8⟩ := fin (xs6 := xs) (acc6 := acc) R7
        refine ⟨xs, e8, by rw [line_eq, h8.length]; exact q6.1, ?_⟩
        obtain ⟨R9, l9⟩ := R8.updT (o := .lst (xs ++ [v])) n8 nzD nbag o8 (free_lst e8)
        exact ⟨_, F7, _, _, R9, l8.trans l9, upd_same, (h8.mono l9).app (.cons (s7.mono l9) .nil), n8, o8, q6.2⟩
      · exact q6.elim
    | false =>
      obtain ⟨R8, l8, e8, h8, n8, o8⟩ := fin (xs6 := xs) (acc6 := acc) R5
      exact ⟨_, F5, _, _, R8, l8, e8, h8, n8, o8, q5⟩
  · have ei : ds.length = i := by omega
    subst ei
    rw [List.drop_length] at q2
    refine .inl ⟨w.stops H2 F2 l2 (fun z hz => (R2.keep z hz).1), ?_⟩
    have Rb := Rep.back R1 R2 l2 no
    refine k (.ref Dl) H2 F2 _ _ Rb (.own hDl hacc nf2 nzD nbag fun i es e1 o1 e2 => ?_) q2
    -- no slot holds Dl
    have hlen : r2.length = σ.length := by rw [R2.len, L2.wipe_length]
    rw [sl_back] at e1
    by_cases hh : i ∈ vs ∧ i < r2.length
    · rw [if_pos hh] at e1
      exact absurd (no i hh.1 es e1) (by rw [o1]; simp)
    · rw [if_neg hh] at e1
      refine no2 i es e1 o1 ?_
      rw [wipe_at, if_neg (by rw [← hlen]; exact hh)]
      exact e2
theorem lc_ent {K : PySem.W.Frag} {mg : Str → Option Value} {vs ws : List Nat} {s : SX} {g : TG} {t : TB} {f : TX} {wi : TI} {W : WX} (hw : ∀ i ∈ ws, i ∈ vs)
    (enti : ∀ (C : Ctx) (r : Env) (σ : L2.St) (H : Hp) (F : AP) (Q : List D → Env → Prop) (Xk : XW) (RV : It → Hp → Prop), C.K = X.K → Rep C r σ H F → Link X W Xk C σ → s Xk r Q →
      (∀ J H' F' ds r', Rep C r' σ H' F' → WalkD C.K J ds H' F' → Q ds r' → RV J H') → wi σ H RV)
    {tt : L2.TT} (htt : ∀ (C : Ctx) (r : Env) (σ : L2.St) (H : Hp) (F : AP) (Q : Bool → Env → Prop) (QV : Bool → Hp → Prop), C.K = X.K → Rep C r σ H F → t noX r Q → (∀ b H' F' r', Rep C r' σ H' F' → Q b r' → QV b H') → tt σ H QV) :
    ∀ (C : Ctx) (r : Env) (σ : L2.St) (H : Hp) (F : AP) (Q : DV → Env → Prop) (Xk : XW) (QV : VK), C.K = X.K → Rep C r σ H F → Link X W Xk C σ → xLc vs s g t f Xk r Q → (∀ v H' F' dv r', Rep C r' σ H' F' → Res C r' σ H' F' v dv → Q dv r' → QV v H') →
      tLc wi (gCan X.K ws g) tt (tCan X.K X.mg (fun _ _ _ _ => False) f) vs σ H QV := by
  intro C r σ H F Q Xk QV hK R L hf k
  refine enti C r σ H F _ Xk _ hK R L hf fun J H1 F1 ds r1 R1 w q1 => ?_
  exact lc_coreD (mg := X.mg) hw htt C r1 σ H1 F1 Q QV J ds hK R1 w.z q1.1 q1.2 k
theorem tYes_ent {K : PySem.W.Frag} : ∀ (C : Ctx) (r : Env) (σ : L2.St) (H : Hp) (F : AP) (Q : Bool → Env → Prop) (QV : Bool → Hp → Prop), C.K = K → Rep C r σ H F → bYes noX r Q → (∀ b H' F' r', Rep C r' σ H' F' → Q b r' → QV b H') → tYes σ H QV :=
  fun C r σ H F Q QV _ R hf k => k true H F r R hf
/-- [e for x in it] -/
theorem de_lc {scope : Scope} {own : List (Str × Nat)} {ws : List Nat} {s : SX} {g : TG} (hi : DSrc X W tg iter s) (hw : ∀ i ∈ ws, i ∈ own.map (·.2))
    (hg : ∀ (s : Shared) (H : Hp) (C : Addr) (cl : List (Str × Addr)) (fp : List Addr), DG (X.blk s H scope (compEnvC scope cl C X.env) fp) tg ws g)
    (he : ∀ (s : Shared) (H : Hp) (C : Addr) (cl : List (Str × Addr)) (fp : List Addr), DE (X.blk s H scope (compEnvC scope cl C X.env) fp) (fun _ _ _ _ => False) elt f)
    (mk : ∀ {wi : TI} {te : L2.TE} {tg' : L2.TG}, PI X tg iter wi → (∀ (s : Shared) (H : Hp) (C : Addr) (cl : List (Str × Addr)) (fp : List Addr), PG (X.blk s H scope (compEnvC scope cl C X.env) fp) tg tg') →
      (∀ (s : Shared) (H : Hp) (C : Addr) (cl : List (Str × Addr)) (fp : List Addr), PE (X.blk s H scope (compEnvC scope cl C X.env) fp) elt te) → PE X e (tLc wi tg' tYes te (own.map (·.2)))) :
    DE X W e (xLc (own.map (·.2)) s g bYes f) := by
  obtain ⟨wi, pi, enti⟩ := hi.ex
  exact ⟨⟨_, mk (te := tCan X.K X.mg (fun _ _ _ _ => False) f) (tg' := gCan X.K ws g) pi (fun s H C cl fp => (hg s H C cl fp).can) (fun s H C cl fp => (he s H C cl fp).can), lc_ent (K := X.K) (mg := X.mg) hw enti tYes_ent⟩⟩
theorem de_lcI {scope : Scope} {own : List (Str × Nat)} {ws : List Nat} {s : SX} {g : TG} {t : TB} {cond : Expr} (hi : DSrc X W tg iter s) (hw : ∀ i ∈ ws, i ∈ own.map (·.2))
    (hg : ∀ (s : Shared) (H : Hp) (C : Addr) (cl : List (Str × Addr)) (fp : List Addr), DG (X.blk s H scope (compEnvC scope cl C X.env) fp) tg ws g)
    (ht : ∀ (s : Shared) (H : Hp) (C : Addr) (cl : List (Str × Addr)) (fp : List Addr), DT (X.blk s H scope (compEnvC scope cl C X.env) fp) (fun _ _ _ _ => False) cond t)
    (he : ∀ (s : Shared) (H : Hp) (C : Addr) (cl : List (Str × Addr)) (fp : List Addr), DE (X.blk s H scope (compEnvC scope cl C X.env) fp) (fun _ _ _ _ => False) elt f)
    (mk : ∀ {wi : TI} {te : L2.TE} {tg' : L2.TG} {tt : L2.TT}, PI X tg iter wi → (∀ (s : Shared) (H : Hp) (C : Addr) (cl : List (Str × Addr)) (fp : List Addr), PG (X.blk s H scope (compEnvC scope cl C X.env) fp) tg tg') →
      (∀ (s : Shared) (H : Hp) (C : Addr) (cl : List (Str × Addr)) (fp : List Addr), PTs (X.blk s H scope (compEnvC scope cl C X.env) fp) [cond] tt) →
      (∀ (s : Shared) (H : Hp) (C : Addr) (cl : List (Str × Addr)) (fp : List Addr), PE (X.blk s H scope (compEnvC scope cl C X.env) fp) elt te) → PE X e (tLc wi tg' tt te (own.map (·.2)))) :
    DE X W e (xLc (own.map (·.2)) s g t f) := by
  obtain ⟨wi, pi, enti⟩ := hi.ex
  exact ⟨⟨_, mk (te := tCan X.K X.mg (fun _ _ _ _ => False) f) (tg' := gCan X.K ws g) (tt := bCan X.K X.mg (fun _ _ _ _ => False) t) pi (fun s H C cl fp => (hg s H C cl fp).can) (fun s H C cl fp => pts_one (ht s H C cl fp).can) (fun s H C cl fp => (he s H C cl fp).can),
    lc_ent (K := X.K) (mg := X.mg) hw enti fun C r σ H F Q QV hK R hf k => ⟨C, r, F, noX, Q, hK, R, fun _ _ _ _ _ _ _ _ z => z.elim, hf, k⟩⟩⟩
/-- y = [e for x in it] -/
theorem ds_setLc {i : Nat} {scope : Scope} {own : List (Str × Nat)} {ws : List Nat} {s : SX} {g : TG} (hi : DSrc X W tg iter s) (hw : ∀ i ∈ ws, i ∈ own.map (·.2))
    (hg : ∀ (s : Shared) (H : Hp) (C : Addr) (cl : List (Str × Addr)) (fp : List Addr), DG (X.blk s H scope (compEnvC scope cl C X.env) fp) tg ws g)
    (he : ∀ (s : Shared) (H : Hp) (C : Addr) (cl : List (Str × Addr)) (fp : List Addr), DE (X.blk s H scope (compEnvC scope cl C X.env) fp) (fun _ _ _ _ => False) elt f)
    (mk : ∀ {wi : TI} {te : L2.TE} {tg' : L2.TG}, PI X tg iter wi → (∀ (s : Shared) (H : Hp) (C : Addr) (cl : List (Str × Addr)) (fp : List Addr), PG (X.blk s H scope (compEnvC scope cl C X.env) fp) tg tg') →
      (∀ (s : Shared) (H : Hp) (C : Addr) (cl : List (Str × Addr)) (fp : List Addr), PE (X.blk s H scope (compEnvC scope cl C X.env) fp) elt te) → PS X st (tAsg (tLc wi tg' tYes te (own.map (·.2))) (gName i))) :
    DS X W st (sAsg (gN i) (xLc (own.map (·.2)) s g bYes f)) := by
  obtain ⟨wi, pi, enti⟩ := hi.ex
  refine ⟨⟨_, mk (te := tCan X.K X.mg (fun _ _ _ _ => False) f) (tg' := gCan X.K ws g) pi (fun s H C cl fp => (hg s H C cl fp).can) (fun s H C cl fp => (he s H C cl fp).can), fun C r σ H F E D' hK R k hf => ?_⟩⟩
  exact lc_ent (K := X.K) (mg := X.mg) hw enti tYes_ent C r σ H F _ E.ex _ hK R (k.ex σ) hf fun v H1 F1 dv r1 R1 G1 q1 => k.nx _ H1 F1 _ (R1.store G1) q1
theorem ds_setLcI {i : Nat} {scope : Scope} {own : List (Str × Nat)} {ws : List Nat} {s : SX} {g : TG} {t : TB} {cond : Expr} (hi : DSrc X W tg iter s) (hw : ∀ i ∈ ws, i ∈ own.map (·.2))
    (hg : ∀ (s : Shared) (H : Hp) (C : Addr) (cl : List (Str × Addr)) (fp : List Addr), DG (X.blk s H scope (compEnvC scope cl C X.env) fp) tg ws g)
    (ht : ∀ (s : Shared) (H : Hp) (C : Addr) (cl : List (Str × Addr)) (fp : List Addr), DT (X.blk s H scope (compEnvC scope cl C X.env) fp) (fun _ _ _ _ => False) cond t)
    (he : ∀ (s : Shared) (H : Hp) (C : Addr) (cl : List (Str × Addr)) (fp : List Addr), DE (X.blk s H scope (compEnvC scope cl C X.env) fp) (fun _ _ _ _ => False) elt f)
    (mk : ∀ {wi : TI} {te : L2.TE} {tg' : L2.TG} {tt : L2.TT}, PI X tg iter wi → (∀ (s : Shared) (H : Hp) (C : Addr) (cl : List (Str × Addr)) (fp : List Addr), PG (X.blk s H scope (compEnvC scope cl C X.env) fp) tg tg') →
      (∀ (s : Shared) (H : Hp) (C : Addr) (cl : List (Str × Addr)) (fp : List Addr), PTs (X.blk s H scope (compEnvC scope cl C X.env) fp) [cond] tt) →
      (∀ (s : Shared) (H : Hp) (C : Addr) (cl : List (Str × Addr)) (fp : List Addr), PE (X.blk s H scope (compEnvC scope cl C X.env) fp) elt te) → PS X st (tAsg (tLc wi tg' tt te (own.map (·.2))) (gName i))) :
    DS X W st (sAsg (gN i) (xLc (own.map (·.2)) s g t f)) := by
  obtain ⟨wi, pi, enti⟩ := hi.ex
  refine ⟨⟨_, mk (te := tCan X.K X.mg (fun _ _ _ _ => False) f) (tg' := gCan X.K ws g) (tt := bCan X.K X.mg (fun _ _ _ _ => False) t) pi (fun s H C cl fp => (hg s H C cl fp).can) (fun s H C cl fp => pts_one (ht s H C cl fp).can) (fun s H C cl fp => (he s H C cl fp).can), fun C r σ H F E D' hK R k hf => ?_⟩⟩
  exact lc_ent (K := X.K) (mg := X.mg) hw enti (fun C r σ H F Q QV hK R hf k => ⟨C, r, F, noX, Q, hK, R, fun _ _ _ _ _ _ _ _ z => z.elim, hf, k⟩) C r σ H F _ E.ex _ hK R (k.ex σ) hf
    fun v H1 F1 dv r1 R1 G1 q1 => k.nx _ H1 F1 _ (R1.store G1) q1
end
end DL

/-! DL, part 7: a def keeps what it means over data; calls; the law at its head. -/
namespace DL
open PySem PySem.Spec L2
/-- what a caller hands over -/
structure Given (K : PySem.W.Frag) (b : Option Addr) (H : Hp) (F : AP) (vs : List V) (ds : List DV) : Prop where
  arg : ArgR K H F b vs ds
  trk : ∀ a, F a → H a ≠ none
  bag : ∀ x, b = some x → BagOk K H F x ∧ ¬ F x
  tb : TBk K (fun _ => False) F H
/-- nothing stood here, or a table -/
def NewAt (H : Hp) (a : Addr) : Prop := ∀ o, H a = some o → ∃ ps, o = .tbl ps
theorem NewAt.no {H : Hp} {a : Addr} (h : NewAt H a) (n : H a ≠ none) : ¬ NT H a := fun nt => by
  cases q : H a with
  | none => exact n q
  | some o =>
    obtain ⟨ps, e⟩ := h o q
    exact nt ps (e ▸ q)
/-- what a callee does not change -/
def Zs (b : Option Addr) (H : Hp) : AP := fun a => H a ≠ none ∧ b ≠ some a ∧ NT H a
/-- what a caller finds: the heap has grown, but the bag nothing changed -/
structure After (K : PySem.W.Frag) (b : Option Addr) (H : Hp) (F : AP) (H' : Hp) (F' : AP) : Prop where
  keep : ∀ a o, H a = some o → b ≠ some a → (∀ ps, o ≠ .tbl ps) → H' a = some o
  sub : ∀ a, F a → F' a
  new : ∀ a, F' a → F a ∨ NewAt H a
  trk : ∀ a, F' a → H' a ≠ none
  bag : ∀ x, b = some x → BagOk K H' F' x ∧ ¬ F' x
  tb : TBk K (fun _ => False) F' H'
inductive BackR (K : PySem.W.Frag) (b : Option Addr) (H H' : Hp) (F' : AP) : V → DV → Prop
  | dat {v : V} {d : D} : DpF K H' F' v d → BackR K b H H' F' v (.dat d)
  | own {a : Addr} {xs : List V} {ds : List D} : H' a = some (.lst xs) → DpFs K H' F' xs ds → ¬ F' a → NewAt H a → BackR K b H H' F' (.ref a) (.own ds)
  | dct {a : Addr} {t : Bool} {kvs : List (D × D)} : DctR K H' F' a t kvs → ¬ F' a → NewAt H a → BackR K b H H' F' (.ref a) (.dct t kvs)
  | nd {v : V} {ds : List D} : DpF K H' F' v (.tuple ds) → NdR H' F' v → BackR K b H H' F' v (.nd ds)
  | bag {a : Addr} : b = some a → BackR K b H H' F' (.ref a) .bag
def spD (K : PySem.W.Frag) (mg : Str → Option Value) (n : Nat) (S : Spec) : Sp := fun vs H Q E => vs.length = n ∧ ∃ (b : Option Addr) (F : AP) (ds : List DV) (Q0 : DV → Prop) (E0 : Err → Prop), Given K b H F vs ds ∧ S ds Q0 E0 ∧
  (∀ dv, Q0 dv → ∀ v H' F', After K b H F H' F' → BackR K b H H' F' v dv → Q v H') ∧ ∀ er, E0 er → ∀ cls d H' F', After K b H F H' F' → ErrR mg K H' F' cls d er → E cls d H'
structure FnG (g : Bool) (P : Program) (w : World) (K : PySem.W.Frag) (mg : Str → Option Value) (base : Heap) (k : Nat) (f : Addr) (fd : FuncData) (ps : List Str) (S : Spec) : Prop where
  run : ∀ (A : Around) (outer : List PySem.Env) (s : Shared) (H : Hp) (args : Args) (us : List Value) (vs : List V) (Q : VK) (E : XK), (g = true → A.guards = some []) → Room k A → Env0 P w K mg base A outer s H → BindsTo s fd args (ps.zip us) → Vals vs us →
    spD K mg ps.length S vs H Q E → codeAny (model P w) A (.call (.ref f) args) (CR (L2.CX P w) outer P w H s Q E) s
theorem FnG.mono {g : Bool} {P : Program} {w : World} {K : PySem.W.Frag} {mg : Str → Option Value} {base : Heap} {j k : Nat} {f : Addr} {fd : FuncData} {ps : List Str} {S : Spec} (F : FnG g P w K mg base j f fd ps S) (h : j ≤ k) : FnG g P w K mg base k f fd ps S :=
  ⟨fun A outer s H args us vs Q E hg hr => F.run A outer s H args us vs Q E hg (hr.mono h)⟩
theorem FnG.imp {g : Bool} {P : Program} {w : World} {K : PySem.W.Frag} {mg : Str → Option Value} {base : Heap} {k : Nat} {f : Addr} {fd : FuncData} {ps : List Str} {S S' : Spec} (F : FnG g P w K mg base k f fd ps S) (h : ∀ ds Q E, S' ds Q E → S ds Q E) : FnG g P w K mg base k f fd ps S' :=
  ⟨fun A outer s H args us vs Q E hg hr he hb hv ⟨hl, b, F', ds, Q0, E0, hG, hS, z⟩ => F.run A outer s H args us vs Q E hg hr he hb hv ⟨hl, b, F', ds, Q0, E0, hG, h _ _ _ hS, z⟩⟩
/-- the code of the def at f -/
def CodeOf (K : PySem.W.Frag) (f : Addr) (cdv : Value) : Prop := ∃ (oc : Value) (od : Option Addr) (fd : FuncData) (osl : Array (Option Value)), K.lookup f = some ⟨oc, od, .func fd, osl⟩ ∧ fd.code = cdv
/-- any promise of the hand layer's kind, where A may be chosen -/
theorem fn_raw {P : Program} {w : World} {K : PySem.W.Frag} {mg : Str → Option Value} {base : Heap} {x qual : Str} {st : Stmt} {f : Addr} {fd : FuncData} {N ps : List Str} {k : Nat} (F : Fun K x qual st f fd) (Sc : FnScope N ps (defScope st))
    {A : Around} {outer : List PySem.Env} {s : Shared} {H : Hp} {args : Args} {us : List Value} {vs : List V} {Q : VK} {E : XK} (hr : Room (k + 1) A) (e0 : Env0 P w K mg base A outer s H) (hb : BindsTo s fd args (ps.zip us)) (rv : Vals vs us) (hl : vs.length = ps.length)
    (body : ∀ cdv, CodeOf K f cdv → ∃ t, PSs (cxOf (L2.CX P w) P w K mg base N qual (defScope st) f cdv A outer s H E) (defBody st) t ∧ t { nx := fun _ H' => Q .non H', rt := Q } (L2.start N vs) H) :
    codeAny (model P w) A (.call (.ref f) args) (CR (L2.CX P w) outer P w H s Q E) s := by
  obtain ⟨oc, od, kV, doc, pm, an, cdv, ct, osl, rfl, lk, hcd⟩ := F.ex
  have up : ∀ b o, base.get? b = some o → s.heap.get? b = some o := fun b o e => (e0.bs b o e).1
  have inK : K.In s.heap := e0.mod.kin.keeps up
  have free := e0.mod.nolimit.keeps up
  have kinds : ∀ y ∈ ps.zip us, (defScope st).names.lookup y.1 = some .local ∨ ((defScope st).names.lookup y.1 = some .cell ∧ ((cellsFrom (s.heap.objs.size + 1) (defScope st).names []).lookup y.1).isSome = true) := by
    rintro ⟨n, v⟩ hy
    exact (Sc.par n (List.of_mem_zip hy).1).imp id fun q => ⟨q, PySem.W.cellsFrom_some _ _ _ (.inl q)⟩
  refine codeAny_call_function hr.depth (inK _ _ lk) rfl Sc.co Sc.gen rfl (PySem.W.codeRec_of inK hcd) (hb _ _ _ _ (wpAny_newFunctionEnv_cells Sc.kind kinds ?_))
  rintro env rfl s1 ic
  refine ⟨free.keeps ic.toInCall.keep, codeAny_func ?_⟩
  obtain ⟨t, ht, hq⟩ := body cdv ⟨_, _, _, _, lk, rfl⟩
  have I0 := inv_start (CX := L2.CX P w) (E := E) Sc hr.hd e0 hl rv ic
  refine wpAny_mono (ht.run [] s1 (L2.start N vs) H _ I0 hq) ?_ fun _ _ z => z
  intro fl s2 h2
  cases fl with
  | ret u =>
    obtain ⟨v, σ2, H2, J, rv2, q2⟩ := h2
    exact ⟨v, H2, J.os, J.bare, J.base, J.hok, rv2, q2⟩
  | next =>
    obtain ⟨σ2, H2, J, q2⟩ := h2
    exact ⟨.non, H2, J.os, J.bare, J.base, J.hok, rfl, q2⟩
  | brk =>
    obtain ⟨_, _, _, z⟩ := h2
    exact z.elim
  | cont =>
    obtain ⟨_, _, _, z⟩ := h2
    exact z.elim
/-- the slots at the start -/
theorem sl_start : ∀ (ds : List DV) (n i : Nat) (dv : DV), sl (ds.map some ++ List.replicate n none) i = some dv → ds[i]? = some dv
  | [], n, i, dv, h => by
    exfalso
    induction n generalizing i with
    | zero => simp [sl] at h
    | succ n ih =>
      cases i with
      | zero => simp [List.replicate_succ, sl] at h
      | succ i => exact ih i (by simpa [List.replicate_succ, sl] using h)
  | d :: ds, n, 0, dv, h => by simpa [sl] using h
  | d :: ds, n, i + 1, dv, h => by
    have := sl_start ds n i dv (by simpa [sl] using h)
    simpa using this
theorem ArgR.at {K : PySem.W.Frag} {H : Hp} {F : AP} {b : Option Addr} : ∀ {vs : List V} {ds : List DV} {i : Nat} {dv : DV}, ArgR K H F b vs ds → ds[i]? = some dv → ∃ v, vs[i]? = some v ∧ ((∃ d, dv = .dat d ∧ DpF K H F v d) ∨ (∃ a, dv = .bag ∧ b = some a ∧ v = .ref a))
  | _, _, _, _, .nil, e => by simp at e
  | _, _, 0, _, .dat h _, e => by simp at e; subst e; exact ⟨_, rfl, .inl ⟨_, rfl, h⟩⟩
  | _, _, 0, _, .bag h _, e => by simp at e; subst e; exact ⟨_, rfl, .inr ⟨_, rfl, h, rfl⟩⟩
  | _, _, i + 1, dv, .dat _ hs, e => by
    obtain ⟨v, e1, q⟩ := ArgR.at (i := i) (dv := dv) hs (by simpa using e)
    exact ⟨v, by simpa using e1, q⟩
  | _, _, i + 1, dv, .bag _ hs, e => by
    obtain ⟨v, e1, q⟩ := ArgR.at (i := i) (dv := dv) hs (by simpa using e)
    exact ⟨v, by simpa using e1, q⟩
theorem rep_start {K : PySem.W.Frag} {b : Option Addr} {H : Hp} {F : AP} {vs : List V} {ds : List DV} {N : List Str} (g : Given K b H F vs ds) :
    Rep ⟨K, b, Zs b H, H, F⟩ (ds.map some ++ List.replicate (N.length - ds.length) none) (L2.start N vs) H F where
  len := by
    unfold L2.start
    have := g.arg.length
    simp [this]
  slot := fun i dv e => by
    obtain ⟨v, ev, q⟩ := g.arg.at (sl_start ds _ i dv e)
    have hi : i < vs.length := (List.getElem?_eq_some_iff.mp ev).1
    refine ⟨v, ?_, ?_⟩
    · unfold L2.start
      rw [List.getElem?_append_left (by simpa using hi), List.getElem?_map, ev]
      rfl
    · rcases q with ⟨d, rfl, h⟩ | ⟨a, rfl, h, rfl⟩
      · exact .dat h
      · exact .bag h
  dist := fun i j di dj a e1 _ o1 => by
    obtain ⟨v, _, q⟩ := g.arg.at (sl_start ds _ i _ e1)
    rcases q with ⟨d, z, _⟩ | ⟨a, z, _⟩ <;> (subst z; cases o1)
  keep := fun a z => ⟨rfl, z.1⟩
  fsub := fun _ z => z
  fnew := fun _ z => .inl z
  fz := fun a z => ⟨g.trk a z, fun e => (g.bag a e).2 z, g.tb.f a z⟩
  ftrk := g.trk
  ownz := fun i es a e1 o1 => by
    obtain ⟨v, _, q⟩ := g.arg.at (sl_start ds _ i _ e1)
    rcases q with ⟨d, z, _⟩ | ⟨a, z, _⟩ <;> (subst z; cases o1)
  bag := fun x e => ⟨(g.bag x e).1, (g.bag x e).2, fun z => z.2.1 e⟩
  tb := g.tb.imp (fun _ z => z.2.2) g.tb.f
theorem after_of {K : PySem.W.Frag} {b : Option Addr} {H H' : Hp} {F F' : AP} {vs : List V} {ds : List DV} (g : Given K b H F vs ds) (q : Fin ⟨K, b, Zs b H, H, F⟩ H' F') : After K b H F H' F' where
  keep := fun a o e nb nt => ((q.keep a ⟨by rw [e]; simp, nb, fun ps z => by rw [e] at z; exact nt ps (Option.some.inj z)⟩).1).trans e
  sub := q.fsub
  new := fun a z => by
    rcases q.fnew a z with w | w
    · exact .inl w
    · refine .inr fun o e => ?_
      by_cases nb : b = some a
      · exact absurd z (q.bag a nb).2.1
      · by_cases nt : ∃ ps, o = HO.tbl ps
        · exact nt
        · exact absurd ⟨by rw [e]; simp, nb, fun ps z2 => by rw [e] at z2; exact nt ⟨ps, Option.some.inj z2⟩⟩ w
  trk := q.ftrk
  bag := fun x e => ⟨(q.bag x e).1, (q.bag x e).2.1⟩
  tb := q.tb.imp (fun _ z => z.elim) q.tb.f
theorem backR_of {K : PySem.W.Frag} {b : Option Addr} {H H' : Hp} {F F' : AP} {v : V} {dv : DV} (q : RetR ⟨K, b, Zs b H, H, F⟩ H' F' v dv) : BackR K b H H' F' v dv := by
  cases q with
  | dat s => exact .dat s
  | own h1 h2 h3 h4 h5 =>
    rename_i a xs ds
    refine .own h1 h2 h3 ?_
    intro o e
    by_cases nt : ∃ ps, o = HO.tbl ps
    · exact nt
    · exact absurd ⟨by rw [e]; simp, h5, fun ps z2 => by rw [e] at z2; exact nt ⟨ps, Option.some.inj z2⟩⟩ h4
  | nd h n => exact .nd h n
  | dct h1 h3 h4 h5 =>
    rename_i a t kvs
    refine .dct h1 h3 ?_
    intro o e
    by_cases nt : ∃ ps, o = HO.tbl ps
    · exact nt
    · exact absurd ⟨by rw [e]; simp, h5, fun ps z2 => by rw [e] at z2; exact nt ⟨ps, Option.some.inj z2⟩⟩ h4
  | bag s => exact .bag s
/-- A DEF, by its body -/
theorem fn_mk {g : Bool} {P : Program} {w : World} {K : PySem.W.Frag} {mg : Str → Option Value} {base : Heap} {x qual : Str} {st : Stmt} {f : Addr} {fd : FuncData} {N ps : List Str} {k : Nat} {q : TS} (F : Fun K x qual st f fd) (Sc : FnScope N ps (defScope st))
    (body : ∀ (X : Cx) (cdv : Value) (A : Around) (outer : List PySem.Env) (s : Shared) (H : Hp) (E : XK), CodeOf K f cdv → X = cxOf (L2.CX P w) P w K mg base N qual (defScope st) f cdv A outer s H E → (g = true → X.A.guards = some []) → Room k X.A → Takes X (fun cls d _ H' => E cls d H') →
      PassesOwn (model X.prog X.w) X.A X.env X.xe → DSs X (fun cls d _ H' => E cls d H') (defBody st) q) :
    FnG g P w K mg base (k + 1) f fd ps (fnSpec N.length q) := by
  constructor
  rintro A outer s H args us vs Q E hg hr e0 hb rv ⟨hl, b, Fz, ds, Q0, E0, hG, hS, kQ, kE⟩
  refine fn_raw F Sc hr e0 hb rv hl fun cdv hcd => ?_
  have tk : Takes (cxOf (L2.CX P w) P w K mg base N qual (defScope st) f cdv A outer s H E) (fun cls d _ H' => E cls d H') := takes_of rfl rfl rfl rfl
  obtain ⟨t, pt, ent⟩ := (body _ cdv A outer s H E hcd rfl hg (hr.deeper _) tk (passes_of rfl)).ex
  refine ⟨t, pt, ?_⟩
  refine ent ⟨K, b, Zs b H, H, Fz⟩ _ _ H Fz _ _ rfl (rep_start hG) ⟨fun σ' H' F' r' R' q' => ?_, fun v H' F' dv fi rr q' => ?_, fun _ _ _ _ _ z => z, fun _ _ _ _ _ z => z, fun σ' er r' H' F' cls d R' he q' => ?_⟩ hS
  · exact kQ _ q' .non H' F' (after_of hG R'.fin) (.dat .non)
  · exact kQ _ q' v H' F' (after_of hG fi) (backR_of rr)
  · exact kE _ q' cls d H' F' (after_of hG R'.fin) he
section
variable {X : Cx} {W : WX} {e : Expr} {es : List Expr} {pos p : Pos} {x : Str}
theorem run_fnG {g : Bool} {k : Nat} {f : Addr} {fd : FuncData} {ps : List Str} {S : Spec} {dvs : List V} {dfs : List Value} {pins : List (Addr × Obj)} {σ : L2.St} {H : Hp} {s : Shared} {Q : VK} {us : List Value} {vs : List V}
    (F : FnG g X.prog X.w X.K X.mg X.base k f fd ps S) (hg : g = true → X.A.guards = some []) (hr : Room k X.A) (hb : Binds X.K fd ps dfs) (hd : Vals dvs dfs) (tk : Takes X W) (I : Inv X pins σ H s) (rv : Vals vs us) (h : spD X.K X.mg ps.length S (vs ++ dvs) H Q (WE W σ)) :
    wpAny (model X.prog X.w) X.A (call (.ref f) us) (EP X pins σ Q) X.xe s := by
  have rv2 := rv.append hd
  have hl : (us ++ dfs).length = ps.length := rv2.length.symm.trans h.1
  refine wpAny_call (codeAny_mono (F.run X.A X.stack s H ⟨us, []⟩ (us ++ dfs) (vs ++ dvs) Q (WE W σ) hg hr I.env0 (hb s us I.kIn hl) rv2 h) ?_)
  intro r s' hq
  cases r with
  | error u => exact passAt tk σ pins H s u s' I hq
  | ok fl =>
    cases fl with
    | ret u => exact I.after hq
    | next => exact hq.elim
    | brk => exact hq.elim
    | cont => exact hq.elim
def tCallG (K : PySem.W.Frag) (mg : Str → Option Value) (n : Nat) (S : Spec) (dvs : List V) (W : WX) (t : TA) : L2.TE := fun σ H Q => t σ H fun vs H1 => spD K mg n S (vs ++ dvs) H1 Q (WE W σ)
/-- what a call leaves of the caller's slots -/
theorem rep_after {C : Ctx} {r : Env} {σ : L2.St} {H H' : Hp} {F F' : AP} (R : Rep C r σ H F) (a : After C.K C.b H F H' F') : Rep C r σ H' F' ∧ Later H F H' F' := by
  have l : Later H F H' F' := fun x z => by
    have n := R.ftrk x z
    cases e : H x with
    | none => exact absurd e n
    | some o => exact ⟨a.sub x z, a.keep x o e (fun eb => (R.bag x eb).2.1 z) fun ps q => R.tb.f x z ps (q ▸ e)⟩
  refine ⟨⟨R.len, fun i dv e => ?_, R.dist, fun x z => ?_, fun x z => a.sub x (R.fsub x z), fun x z => ?_, R.fz, a.trk, R.ownz, fun x e => ⟨(a.bag x e).1, (a.bag x e).2, (R.bag x e).2.2⟩, ?_⟩, l⟩
  · obtain ⟨v, ev, sr⟩ := R.slot i dv e
    refine ⟨v, ev, ?_⟩
    cases sr with
    | dat s => exact .dat (s.mono l)
    | own h1 h2 h3 =>
      refine .own (a.keep _ _ h1 (R.ownz i _ _ e rfl ev).2 fun _ z => (by cases z)) (h2.mono l) fun z => ?_
      rcases a.new _ z with w | w
      · exact h3 w
      · obtain ⟨ps, e⟩ := w _ h1; cases e
    | nd s n => exact .nd (s.mono l) (n.mono l)
    | dct h1 h3 =>
      rename_i a2 t2 kvs2
      have nn := h1.ne.2
      have e6 : H' a2 = H a2 := by
        cases q : H a2 with
        | none => exact absurd q nn
        | some o => exact a.keep _ _ q (R.ownz i _ _ e rfl ev).2 (free_dct h1 o q).1
      refine .dct (h1.mono l e6) fun z => ?_
      rcases a.new _ z with w | w
      · exact h3 w
      · cases q : H a2 with
        | none => exact nn q
        | some o =>
          obtain ⟨ps, e⟩ := w _ q
          exact (free_dct h1 o q).1 ps e
    | bag s => exact .bag s
  · obtain ⟨e, n⟩ := R.keep x z
    cases q : H x with
    | none => exact absurd q n
    | some o =>
      have q' := a.keep x o q (fun eb => (R.bag x eb).2.2 z) fun ps w => R.tb.z x z ps (w ▸ q)
      exact ⟨q'.trans (q.symm.trans e), by rw [q']; simp⟩
  · rcases a.new x z with w | w
    · exact R.fnew x w
    · refine .inr fun q => ?_
      cases e : H x with
      | none => exact (R.keep x q).2 e
      | some o =>
        obtain ⟨ps, e2⟩ := w _ e
        exact R.tb.z x q ps (e2 ▸ e)
  · refine a.tb.imp (fun x z ps e => ?_) a.tb.f
    cases q : H x with
    | none => exact (R.keep x z).2 q
    | some o =>
      have nt : ∀ ps, o ≠ .tbl ps := fun ps w => R.tb.z x z ps (w ▸ q)
      have q' := a.keep x o q (fun eb => (R.bag x eb).2.2 z) nt
      rw [q'] at e
      exact nt ps (Option.some.inj e)
/-- f(e, ..) -/
theorem de_call {g : Bool} {k : Nat} {f : Addr} {fd : FuncData} {ps : List Str} {S : Spec} {dvs : List V} {dds : List D} {dfs : List Value} {u : AX} (F : FnG g X.prog X.w X.K X.mg X.base k f fd ps S) (hgd : g = true → X.A.guards = some []) (hr : Room k X.A) (tk : Takes X W)
    (hm : X.mg x = some (.ref f)) (hk : PySem.W.keepIn X.K (.ref f) = true) (hb : Binds X.K fd ps dfs) (hd : Vals dvs dfs) (hdd : ∀ K H F, DpFs K H F dvs dds) (hn : es.length + 1 + dds.length = ps.length) (ha : DA X W (e :: es) u) (hg : Gl X x := by rfl)
    (hdb : (x == ("__debug__" : Str)) = false := by decide) (he : starEach (e :: es) X.env = (false, eval e X.env) :: starEach es X.env := by rfl) (hpl : (backTo pos (starEach es X.env)).any (·.1) = false := by rfl) :
    DE X W (.Call (.Name x p) (e :: es) [] pos) (xCall (fun vs => S (vs ++ dds.map .dat)) u) := by
  obtain ⟨t, pa, ent⟩ := ha.ex
  refine ⟨⟨tCallG X.K X.mg ps.length S dvs W t, ⟨fun pins s σ H Q I h => ?_⟩, fun C r σ H F Q Xk QV hK R L hf k => ?_⟩⟩
  · refine wpAny_Call_Name_kw (ld_glob I hg hm ?_ hdb)
    exact PySem.W.callWith_K (h₀ := X.base) I.ok.mod.kin hk (thn (pa.run pos pins s σ H _ I h) fun us s1 ⟨vs, H1, I1, rv, q⟩ => ⟨I1.kIn, run_fnG F hgd hr hb hd tk I1 rv q⟩) he hpl
  · refine ent C r σ H F _ Xk _ hK R L hf fun vs H1 F1 ds r1 hl R1 A1 q1 => ?_
    have hlen1 : (vs ++ dvs).length = ps.length := by
      rw [List.length_append, hl, (hdd X.K H1 F1).length]
      exact hn
    have app : ∀ {vs : List V} {ds : List DV}, ArgR C.K H1 F1 C.b vs ds → ArgR C.K H1 F1 C.b (vs ++ dvs) (ds ++ dds.map .dat) := fun {vs ds} a => by
      induction a with
      | nil =>
        have h0 := hdd C.K H1 F1
        show ArgR C.K H1 F1 C.b dvs (dds.map .dat)
        clear hdd hn hlen1 hf q1 hd
        induction dvs generalizing dds with
        | nil => cases h0; exact .nil
        | cons v vs ih =>
          cases h0 with
          | cons h1 h2 => exact .dat h1 (ih h2)
      | dat h _ ih => exact .dat h ih
      | bag h _ ih => exact .bag h ih
    refine ⟨hlen1, C.b, F1, ds ++ dds.map .dat, _, _, ⟨hK ▸ app A1, R1.ftrk, fun y e => ⟨hK ▸ (R1.bag y e).1, (R1.bag y e).2.1⟩, hK ▸ R1.tb.imp (fun _ z => z.elim) R1.tb.f⟩, q1, fun dv q2 v H' F' af br => ?_, fun er q2 cls d H' F' af he' => ?_⟩
    · obtain ⟨R2, l2⟩ := rep_after R1 (hK ▸ af)
      refine k v H' F' dv r1 R2 ?_ q2
      cases br with
      | dat s => exact .dat (hK ▸ s)
      | own h1 h2 h3 h4 =>
        refine .own h1 (hK ▸ h2) h3 (fun z => h4.no (R1.keep _ z).2 (R1.tb.z _ z)) (fun z => ?_) fun i es e1 o1 e2 => ?_
        · obtain ⟨⟨_, _, _, _, _, g1, _⟩, _, _⟩ := R1.bag _ z
          obtain ⟨ps, e⟩ := h4 _ g1; cases e
        · obtain ⟨v, e3, sr⟩ := R1.slot i _ e1
          rw [e2] at e3; cases e3
          cases sr with
          | own g1 _ _ => obtain ⟨ps, e⟩ := h4 _ g1; cases e
          | dct g1 _ => exact h4.no g1.ne.2 (free_dct g1).nt
          | nd _ _ => cases o1
          | dat _ => cases o1
          | bag _ => cases o1
      | nd s n => exact .nd (hK ▸ s) n
      | dct h1 h3 h4 =>
        refine .dct (hK ▸ h1) h3 (fun z => h4.no (R1.keep _ z).2 (R1.tb.z _ z)) (fun z => ?_) fun i es e1 o1 e2 => ?_
        · obtain ⟨⟨_, _, _, _, _, g1, _⟩, _, _⟩ := R1.bag _ z
          obtain ⟨ps, e⟩ := h4 _ g1; cases e
        · obtain ⟨v, e3, sr⟩ := R1.slot i _ e1
          rw [e2] at e3; cases e3
          cases sr with
          | own g1 _ _ => obtain ⟨ps, e⟩ := h4 _ g1; cases e
          | dct g1 _ => exact h4.no g1.ne.2 (free_dct g1).nt
          | nd _ _ => cases o1
          | dat _ => cases o1
          | bag _ => cases o1
      | bag s => exact .bag s
    · exact L er r1 H' F' cls d (rep_after R1 (hK ▸ af)).1 (hK ▸ he') q2
end
end DL

/-! DL: what operators and built-ins do with data. -/
namespace DL
open PySem
abbrev LN : Nat := 16777216
def dInt (f : Int → Int → D) : Op2 := fun x y Q => match x, y with
  | .int a, .int b => Q (.dat (f a b))
  | _, _ => False
def dAdd : Op2 := fun x y Q => match x, y with
  | .int a, .int b => Q (.dat (.int (a + b)))
  | .str a, .str b => a.length + b.length ≤ LN ∧ Q (.dat (.str (a ++ b)))
  | .tuple a, .tuple b => a.length + b.length ≤ LN ∧ Q (.dat (.tuple (a ++ b)))
  | .list a, .list b => a.length + b.length ≤ LN ∧ Q (.own (a ++ b))
  | _, _ => False
def dSub : Op2 := dInt fun a b => .int (a - b)
def mulOk (a b : Int) : Prop := (-(2 ^ 64) < a ∧ a < 2 ^ 64) ∨ (-(2 ^ 64) < b ∧ b < 2 ^ 64) ∨ (a.natAbs < 2 ^ 200 ∧ b.natAbs < 2 ^ 200)
def dMul : Op2 := fun x y Q => match x, y with
  | .int a, .int b => mulOk a b ∧ Q (.dat (.int (a * b)))
  | .tuple xs, .int k => (0 ≤ k ∧ k ≤ 1000 ∧ 0 < xs.length ∧ xs.length ≤ 1000) ∧ Q (.dat (.tuple (List.replicate k.toNat xs).flatten))
  | .list xs, .int k => (-(2 ^ 63) ≤ k ∧ k < 2 ^ 63 ∧ xs.length * k.toNat ≤ LN) ∧ Q (.own (List.replicate k.toNat xs).flatten)
  | _, _ => False
def dDiv : Op2 := fun x y Q => match x, y with
  | .int a, .int b => (0 < b ∧ b < 2 ^ 200) ∧ Q (.dat (.int (a / b)))
  | _, _ => False
def dMod : Op2 := fun x y Q => match x, y with
  | .int a, .int b => 0 < b ∧ Q (.dat (.int (a % b)))
  | _, _ => False
def dPow : Op2 := fun x y Q => match x, y with
  | .int a, .int b => (0 ≤ b ∧ b ≤ 1000000 ∧ a.natAbs < 2 ^ 64) ∧ Q (.dat (.int (a ^ b.toNat)))
  | _, _ => False
def dNeg : D → (DV → Prop) → Prop := fun x Q => match x with
  | .int a => Q (.dat (.int (-a)))
  | _ => False
/-- what may be compared by == and shown -/
def okD (d : D) : Prop := SeqAt.shaped d = true
def dEq : Op2 := fun x y Q => okD x ∧ okD y ∧ Q (.dat (.bool (PyData.eqv x y)))
def dNe : Op2 := fun x y Q => okD x ∧ okD y ∧ Q (.dat (.bool (!PyData.eqv x y)))
def intsOf : List D → Option (List Int)
  | [] => some []
  | .int i :: r => (intsOf r).map (i :: ·)
  | _ => none
def cmpI (f : Int → Int → Bool) (g : List Nat → List Nat → Bool) : Op2 := fun x y Q => match x, y with
  | .int a, .int b => Q (.dat (.bool (f a b)))
  | .str a, .str b => Q (.dat (.bool (g a.cps.toList b.cps.toList)))
  | _, _ => False
def dLt : Op2 := fun x y Q => match x, y with
  | .int a, .int b => Q (.dat (.bool (decide (a < b))))
  | .str a, .str b => Q (.dat (.bool (decide (a.cps.toList < b.cps.toList))))
  | .tuple xs, .tuple ys => (match intsOf xs, intsOf ys with
    | some ns, some ms => Q (.dat (.bool (HT.lexLt ns ms)))
    | _, _ => False)
  | _, _ => False
def dLe : Op2 := fun x y Q => match x, y with
  | .int a, .int b => Q (.dat (.bool (decide (a ≤ b))))
  | _, _ => False
def dGt : Op2 := fun x y Q => match x, y with
  | .int a, .int b => Q (.dat (.bool (decide (b < a))))
  | _, _ => False
def dGe : Op2 := fun x y Q => match x, y with
  | .int a, .int b => Q (.dat (.bool (decide (b ≤ a))))
  | _, _ => False
def isNon : D → Bool
  | .none => true
  | _ => false
def dIs : Op2 := fun x y Q => match y with
  | .none => Q (.dat (.bool (isNon x)))
  | _ => False
def dIsNot : Op2 := fun x y Q => match y with
  | .none => Q (.dat (.bool (!isNon x)))
  | _ => False
def flatD : D → Bool
  | .none => true
  | .bool _ => true
  | .int _ => true
  | .str _ => true
  | _ => false
def isIn (x : D) (ds : List D) : Bool := ds.any fun z => PyData.eqv z x
def occurs (a b : Str) : Bool := !(Builtin.Str.occurrences b a 0 b.length 1).isEmpty
def dIn : Op2 := fun x y Q => match y with
  | .list ds => okD x ∧ okD (.list ds) ∧ Q (.dat (.bool (isIn x ds)))
  | .tuple ds => flatD x = true ∧ ds.all flatD = true ∧ Q (.dat (.bool (isIn x ds)))
  | .str b => (match x with
    | .str a => Q (.dat (.bool (occurs a b)))
    | _ => False)
  | _ => False
def dNotIn : Op2 := fun x y Q => match y with
  | .list ds => okD x ∧ okD (.list ds) ∧ Q (.dat (.bool (!isIn x ds)))
  | .tuple ds => flatD x = true ∧ ds.all flatD = true ∧ Q (.dat (.bool (!isIn x ds)))
  | .str b => (match x with
    | .str a => Q (.dat (.bool (!occurs a b)))
    | _ => False)
  | _ => False
def dIx : Op2 := fun x y Q => match x, y with
  | .list xs, .int i => (match L2.atI xs i with
    | some d => Q (.dat d)
    | none => False)
  | .tuple xs, .int i => (match L2.atI xs i with
    | some d => Q (.dat d)
    | none => False)
  | .str z, .int i => z.length ≤ LN ∧ (match L2.atI z.cps.toList i with
    | some c => Q (.dat (.str ⟨#[c]⟩))
    | none => False)
  | _, _ => False
def cutD (xs : List D) (lo hi : Option Int) : List D := (xs.drop (HT.sIx xs.length 0 lo)).take (HT.sIx xs.length xs.length hi - HT.sIx xs.length 0 lo)
def cutC (z : Str) (lo hi : Option Int) : Str := L2.cutS z lo hi
def optI : Option D → Option (Option Int)
  | none => some none
  | some (.int i) => some (some i)
  | some _ => none
def dCut : D → Option Int → Option Int → (DV → Prop) → Prop := fun x lo hi Q => match x with
  | .list xs => Q (.own (cutD xs lo hi))
  | .tuple xs => Q (.dat (.tuple (cutD xs lo hi)))
  | .str z => z.length ≤ LN ∧ Q (.dat (.str (cutC z lo hi)))
  | _ => False
/-! built-ins -/
def nLen : OpN := fun ds Q => match ds with
  | [.list xs] => Q (.dat (.int xs.length))
  | [.tuple xs] => Q (.dat (.int xs.length))
  | [.str z] => z.length ≤ LN ∧ Q (.dat (.int z.length))
  | _ => False
def nRepr : OpN := fun ds Q => match ds with
  | [d] => (d.showable = true ∧ d.hasDict = false ∧ d.depth ≤ 64 ∧ d.shown.length ≤ LN) ∧ Q (.dat (.str d.shown))
  | _ => False
def nTuple : OpN := fun ds Q => match ds with
  | [.list xs] => Q (.dat (.tuple xs))
  | [.tuple xs] => Q (.dat (.tuple xs))
  | _ => False
def nList : OpN := fun ds Q => match ds with
  | [.list xs] => Q (.own xs)
  | [.tuple xs] => Q (.own xs)
  | _ => False
def nInt : OpN := fun ds Q => match ds with
  | [.int i] => Q (.dat (.int i))
  | [.bool k] => Q (.dat (.int (if k then 1 else 0)))
  | _ => False
def nBool : OpN := fun ds Q => match ds with
  | [.int i] => Q (.dat (.bool (i != 0)))
  | [.bool k] => Q (.dat (.bool k))
  | _ => False
def nAbs : OpN := fun ds Q => match ds with
  | [.int i] => Q (.dat (.int (if i < 0 then -i else i)))
  | _ => False
def nMax : OpN := fun ds Q => match ds with
  | [.int i, .int j] => Q (.dat (.int (if j > i then j else i)))
  | [.list xs] => (match intsOf xs with
    | some ns => 0 < ns.length ∧ ∀ m, m ∈ ns → (∀ y, y ∈ ns → y ≤ m) → Q (.dat (.int m))
    | none => False)
  | _ => False
def nMin : OpN := fun ds Q => match ds with
  | [.int i, .int j] => Q (.dat (.int (if j < i then j else i)))
  | [.list xs] => (match intsOf xs with
    | some ns => 0 < ns.length ∧ ∀ m, m ∈ ns → (∀ y, y ∈ ns → m ≤ y) → Q (.dat (.int m))
    | none => False)
  | _ => False
def nSum : OpN := fun ds Q => match ds with
  | [.list xs] => (match intsOf xs with
    | some ns => Q (.dat (.int ns.sum))
    | none => False)
  | _ => False
def boolsOf : List D → Option (List Bool)
  | [] => some []
  | .bool i :: r => (boolsOf r).map (i :: ·)
  | _ => none
def nAll : OpN := fun ds Q => match ds with
  | [.list xs] => (match boolsOf xs with
    | some bs => Q (.dat (.bool (bs.all id)))
    | none => False)
  | _ => False
def nAny : OpN := fun ds Q => match ds with
  | [.list xs] => (match boolsOf xs with
    | some bs => Q (.dat (.bool (bs.any id)))
    | none => False)
  | _ => False
def nStr : OpN := fun ds Q => match ds with
  | [.int i] => i.natAbs.log2 < 1920 ∧ Q (.dat (.str (toString i)))
  | _ => False
/-! methods of lists that change them -/
abbrev OpM := List D → List D → (List D → DV → Prop) → Prop
def mExtend : OpM := fun es ds Q => match ds with
  | [.list xs] => es.length + xs.length ≤ LN ∧ Q (es ++ xs) (.dat .none)
  | _ => False
def mPop : OpM := fun es ds Q => match ds with
  | [.int i] => (-(2 ^ 63) ≤ i ∧ i < 2 ^ 63) ∧ (match seqIndex? i es.length with
    | some k => (match es[k]? with
      | some y => Q (es.eraseIdx k) (.dat y)
      | none => False)
    | none => False)
  | _ => False
def mPop0 : OpM := fun es ds Q => match ds with
  | [] => (match es[es.length - 1]? with
    | some y => Q es.dropLast (.dat y)
    | none => False)
  | _ => False
end DL

/-! DL, part 8: operators and built-ins by the hand layer's rules. -/
namespace DL
open PySem PySem.Spec L2
section
variable {C : Ctx} {r : Env} {σ : L2.St} {H : Hp} {F : AP} {X : Cx}
abbrev KQ (C : Ctx) (r : Env) (σ : L2.St) (H : Hp) (F : AP) (Q : DV → Prop) (QV : VK) : Prop := ∀ v H' F' dv, Rep C r σ H' F' → Later H F H' F' → Res C r σ H' F' v dv → Q dv → QV v H'
theorem kq_dat {Q : DV → Prop} {QV : VK} {v : V} {d : D} (k : KQ C r σ H F Q QV) (R : Rep C r σ H F) (h : DpF C.K H F v d) (q : Q (.dat d)) : QV v H := k v H F _ R Later.refl (.dat h) q
theorem kq_tup {Q : DV → Prop} {QV : VK} {xs : List V} {ds : List D} {p : Addr} (k : KQ C r σ H F Q QV) (R : Rep C r σ H F) (hp : H p = none) (h : DpFs C.K H F xs ds) (q : Q (.dat (.tuple ds))) : QV (.ref p) (upd H p (.tup xs)) := by
  obtain ⟨R2, G2, l2⟩ := R.freshTup hp h
  exact k _ _ _ _ R2 l2 G2 q
theorem kq_own {Q : DV → Prop} {QV : VK} {xs : List V} {ds : List D} {p : Addr} (k : KQ C r σ H F Q QV) (R : Rep C r σ H F) (hp : H p = none) (h : DpFs C.K H F xs ds) (q : Q (.own ds)) : QV (.ref p) (upd H p (.lst xs)) := by
  obtain ⟨R2, G2, l2⟩ := R.freshOwn hp h
  exact k _ _ _ _ R2 l2 G2 q
theorem dpf_tup {v : V} {ds : List D} (h : DpT C.K H F v (.tuple ds)) : DpF C.K H F v (.tuple ds) := by
  rcases h with h | ⟨a, xs, ds', rfl, e, _, _⟩
  · exact h
  · cases e
/-! ### arithmetic -/
def rAdd4 (K : PySem.W.Frag) : R2 := fun x y H Q => rI0 (fun i j => .int (i + j)) x y H Q ∨ ((∃ i j, x = .str i ∧ y = .str j ∧ i.length + j.length ≤ sizeLine ∧ Q (.str (i ++ j)) H) ∨ (rCatA K x y H Q ∨ rCat x y H Q))
theorem op_add4 : OpR X (binaryOp .Add) (rAdd4 X.K) := op_add.or (op_add_str.or (op_catA.or op_cat))
theorem sem_add {K : PySem.W.Frag} : Sem2 K (rAdd4 K) dAdd := by
  intro C r σ H F x y dx dy Q QV hK R hx hy hq k
  subst hK
  unfold dAdd at hq
  split at hq
  · cases hx.int; cases hy.int
    exact .inl ⟨_, _, rfl, rfl, kq_dat k R (.int _) hq⟩
  · cases hx.str; cases hy.str
    exact .inr (.inl ⟨_, _, rfl, rfl, by rw [line_eq]; exact hq.1, kq_dat k R (.str _) hq.2⟩)
  · rename_i a b
    obtain ⟨pa, xs, rfl, h1, h2, _⟩ := hx.tup
    obtain ⟨pb, ys, rfl, h3, h4, _⟩ := hy.tup
    refine .inr (.inr (.inl ⟨_, _, _, _, rfl, rfl, h1, h3, by rw [line_eq, h2.length, h4.length]; exact hq.1, fun e => ?_, fun _ e => ?_, fun _ _ p hp => kq_tup k R hp (h2.app h4) hq.2⟩))
    · subst e
      cases h2
      exact kq_dat k R (dpf_tup hy) (by simpa using hq.2)
    · subst e
      cases h4
      exact kq_dat k R (dpf_tup hx) (by simpa using hq.2)
  · obtain ⟨pa, xs, rfl, h1, h2⟩ := hx.lst
    obtain ⟨pb, ys, rfl, h3, h4⟩ := hy.lst
    exact .inr (.inr (.inr ⟨_, _, _, _, rfl, rfl, h1, h3, by rw [line_eq, h2.length, h4.length]; exact hq.1, fun p hp => kq_own k R hp (h2.app h4) hq.2⟩))
  · exact hq.elim
theorem sem_int {K : PySem.W.Frag} {f : Int → Int → V} {g : Int → Int → D} (h : ∀ K H F i j, DpF K H F (f i j) (g i j)) : Sem2 K (rI0 f) (dInt g) := by
  intro C r σ H F x y dx dy Q QV hK R hx hy hq k
  unfold dInt at hq
  split at hq
  · cases hx.int; cases hy.int
    exact ⟨_, _, rfl, rfl, kq_dat k R (h _ _ _ _ _) hq⟩
  · exact hq.elim
theorem sem_sub {K : PySem.W.Frag} : Sem2 K (rI0 fun i j => .int (i - j)) dSub := sem_int fun _ _ _ _ _ => .int _
def rMul2 : R2 := rI (fun i j => CMul i j ∨ CMulW i j) fun i j => .int (i * j)
theorem op_mul2 : OpR X (binaryOp .Mult) rMul2 := opI fun _ _ _ _ _ _ _ hc q => PyProof.Rows.mul_int q (hc.elim CMul.ok CMulW.ok)
theorem mulOk_of {a b : Int} (h : mulOk a b) : CMul a b ∨ CMulW a b := by
  rcases h with h | h | h
  · exact .inl (.inl h)
  · exact .inl (.inr h)
  · exact .inr (wide_mul (a := 200) (b := 200) h.1 h.2 (by decide) (by decide) (by decide))
theorem sem_div {K : PySem.W.Frag} : Sem2 K (rI CDivW fun i j => .int (i / j)) dDiv := by
  intro C r σ H F x y dx dy Q QV hK R hx hy hq k
  unfold dDiv at hq
  split at hq
  · rename_i a b
    cases hx.int; cases hy.int
    refine ⟨_, _, rfl, rfl, wide_div (b := 200) hq.1.1 ?_ (by decide) (by decide), kq_dat k R (.int _) hq.2⟩
    have h1 := hq.1.1
    have h2 : b < 2 ^ 200 := hq.1.2
    have h3 : (b.natAbs : Int) = b := Int.natAbs_of_nonneg (by omega)
    have h4 : ((b.natAbs : Nat) : Int) < ((2 ^ 200 : Nat) : Int) := by rw [h3]; exact_mod_cast h2
    exact_mod_cast h4
  · exact hq.elim
theorem sem_mod {K : PySem.W.Frag} : Sem2 K (rI (fun _ j => 0 < j) fun i j => .int (i % j)) dMod := by
  intro C r σ H F x y dx dy Q QV hK R hx hy hq k
  unfold dMod at hq
  split at hq
  · cases hx.int; cases hy.int
    exact ⟨_, _, rfl, rfl, hq.1, kq_dat k R (.int _) hq.2⟩
  · exact hq.elim
theorem sem_pow {K : PySem.W.Frag} : Sem2 K (rI CPow fun i j => .int (i ^ j.toNat)) dPow := by
  intro C r σ H F x y dx dy Q QV hK R hx hy hq k
  unfold dPow at hq
  split at hq
  · cases hx.int; cases hy.int
    exact ⟨_, _, rfl, rfl, hq.1, kq_dat k R (.int _) hq.2⟩
  · exact hq.elim
theorem sem_neg {K : PySem.W.Frag} : Sem1 K (rU fun i => .int (-i)) dNeg := by
  intro C r σ H F x dx Q QV hK R hx hq k
  unfold dNeg at hq
  split at hq
  · cases hx.int
    exact ⟨_, rfl, kq_dat k R (.int _) hq⟩
  · exact hq.elim
/-! ### comparisons -/
theorem sem_eq {K : PySem.W.Frag} : Sem2 K (rEqD K) dEq := by
  intro C r σ H F x y dx dy Q QV hK R hx hy hq k
  subst hK
  exact ⟨_, _, hx.dp, hy.dp, hq.1, hq.2.1, kq_dat k R (.bl _) hq.2.2⟩
theorem sem_ne {K : PySem.W.Frag} : Sem2 K (rNeD K) dNe := by
  intro C r σ H F x y dx dy Q QV hK R hx hy hq k
  subst hK
  exact ⟨_, _, hx.dp, hy.dp, hq.1, hq.2.1, kq_dat k R (.bl _) hq.2.2⟩
theorem intsOf_some : ∀ {ds : List D} {ns : List Int}, intsOf ds = some ns → ds = ns.map PyData.int
  | [], _, h => by cases h; rfl
  | .int i :: r, ns, h => by
    simp only [intsOf] at h
    cases q : intsOf r with
    | none => rw [q] at h; cases h
    | some ms => rw [q] at h; cases h; rw [intsOf_some q]; rfl
  | .none :: _, _, h => by cases h
  | .bool _ :: _, _, h => by cases h
  | .str _ :: _, _, h => by cases h
  | .list _ :: _, _, h => by cases h
  | .tuple _ :: _, _, h => by cases h
  | .dict _ :: _, _, h => by cases h
theorem boolsOf_some : ∀ {ds : List D} {ns : List Bool}, boolsOf ds = some ns → ds = ns.map PyData.bool
  | [], _, h => by cases h; rfl
  | .bool i :: r, ns, h => by
    simp only [boolsOf] at h
    cases q : boolsOf r with
    | none => rw [q] at h; cases h
    | some ms => rw [q] at h; cases h; rw [boolsOf_some q]; rfl
  | .none :: _, _, h => by cases h
  | .int _ :: _, _, h => by cases h
  | .str _ :: _, _, h => by cases h
  | .list _ :: _, _, h => by cases h
  | .tuple _ :: _, _, h => by cases h
  | .dict _ :: _, _, h => by cases h
def rLt3 (K : PySem.W.Frag) : R2 := fun x y H Q => rI0 (fun i j => .bl (decide (i < j))) x y H Q ∨ ((∃ i j, x = .str i ∧ y = .str j ∧ Q (.bl (decide (i.cps.toList < j.cps.toList))) H) ∨ rLtT K x y H Q)
theorem op_lt3 (hu : X.A.units < cLine) : OpR X (compareOp .Lt) (rLt3 X.K) := op_lt.or (op_lt_str.or (op_ltT hu))
theorem sem_lt {K : PySem.W.Frag} : Sem2 K (rLt3 K) dLt := by
  intro C r σ H F x y dx dy Q QV hK R hx hy hq k
  subst hK
  unfold dLt at hq
  split at hq
  · cases hx.int; cases hy.int
    exact .inl ⟨_, _, rfl, rfl, kq_dat k R (.bl _) hq⟩
  · cases hx.str; cases hy.str
    exact .inr (.inl ⟨_, _, rfl, rfl, kq_dat k R (.bl _) hq⟩)
  · split at hq
    · rename_i ns ms e1 e2
      have e1 := intsOf_some e1
      have e2 := intsOf_some e2
      subst e1 e2
      obtain ⟨pa, xs, rfl, h1, h2, _⟩ := hx.tup
      obtain ⟨pb, ys, rfl, h3, h4, _⟩ := hy.tup
      have := h2.vints
      subst this
      have := h4.vints
      subst this
      exact .inr (.inr ⟨_, _, _, _, rfl, rfl, h1, h3, kq_dat k R (.bl _) hq⟩)
    · exact hq.elim
  · exact hq.elim
theorem sem_le {K : PySem.W.Frag} : Sem2 K (rI0 fun i j => .bl (decide (i ≤ j))) dLe := by
  intro C r σ H F x y dx dy Q QV hK R hx hy hq k
  unfold dLe at hq
  split at hq
  · cases hx.int; cases hy.int
    exact ⟨_, _, rfl, rfl, kq_dat k R (.bl _) hq⟩
  · exact hq.elim
theorem sem_gt {K : PySem.W.Frag} : Sem2 K (rI0 fun i j => .bl (decide (j < i))) dGt := by
  intro C r σ H F x y dx dy Q QV hK R hx hy hq k
  unfold dGt at hq
  split at hq
  · cases hx.int; cases hy.int
    exact ⟨_, _, rfl, rfl, kq_dat k R (.bl _) hq⟩
  · exact hq.elim
theorem sem_ge {K : PySem.W.Frag} : Sem2 K (rI0 fun i j => .bl (decide (j ≤ i))) dGe := by
  intro C r σ H F x y dx dy Q QV hK R hx hy hq k
  unfold dGe at hq
  split at hq
  · cases hx.int; cases hy.int
    exact ⟨_, _, rfl, rfl, kq_dat k R (.bl _) hq⟩
  · exact hq.elim
theorem isNon_of {v : V} {d : D} (h : DpT C.K H F v d) : decide (v = .non) = isNon d := by
  cases d with
  | none => cases h.non; rfl
  | bool => cases h.bl; rfl
  | int => cases h.int; rfl
  | str => cases h.str; rfl
  | list => obtain ⟨_, _, rfl, _⟩ := h.lst; rfl
  | tuple => obtain ⟨_, _, rfl, _⟩ := h.tup; rfl
  | dict =>
    rcases h with h | ⟨_, _, _, _, e, _⟩
    · cases h
    · cases e
theorem sem_is {K : PySem.W.Frag} : Sem2 K (fun x y H Q => y = .non ∧ Q (.bl (decide (x = .non))) H) dIs := by
  intro C r σ H F x y dx dy Q QV hK R hx hy hq k
  unfold dIs at hq
  split at hq
  · cases hy.non
    rw [isNon_of hx]
    exact ⟨rfl, kq_dat k R (.bl _) hq⟩
  · exact hq.elim
theorem sem_isnot {K : PySem.W.Frag} : Sem2 K (fun x y H Q => y = .non ∧ Q (.bl (!decide (x = .non))) H) dIsNot := by
  intro C r σ H F x y dx dy Q QV hK R hx hy hq k
  unfold dIsNot at hq
  split at hq
  · cases hy.non
    rw [isNon_of hx]
    exact ⟨rfl, kq_dat k R (.bl _) hq⟩
  · exact hq.elim
theorem flat_of {v : V} {d : D} (h : DpT C.K H F v d) (f : flatD d = true) : flatV v = true := by
  cases d with
  | none => cases h.non; rfl
  | bool => cases h.bl; rfl
  | int => cases h.int; rfl
  | str => cases h.str; rfl
  | list => cases f
  | tuple => cases f
  | dict => cases f
theorem eqV_of {u v : V} {c d : D} (hu : DpT C.K H F u c) (hv : DpT C.K H F v d) (f : flatD c = true) (g : flatD d = true) : eqV u v = PyData.eqv c d := by
  cases c with
  | none => cases hu.non; cases d with
    | none => cases hv.non; rfl
    | bool => cases hv.bl; rfl
    | int => cases hv.int; rfl
    | str => cases hv.str; rfl
    | _ => cases g
  | bool => cases hu.bl; cases d with
    | none => cases hv.non; rfl
    | bool => cases hv.bl; rfl
    | int => cases hv.int; rfl
    | str => cases hv.str; rfl
    | _ => cases g
  | int => cases hu.int; cases d with
    | none => cases hv.non; rfl
    | bool => cases hv.bl; rfl
    | int => cases hv.int; rfl
    | str => cases hv.str; rfl
    | _ => cases g
  | str => cases hu.str; cases d with
    | none => cases hv.non; rfl
    | bool => cases hv.bl; rfl
    | int => cases hv.int; rfl
    | str => cases hv.str; rfl
    | _ => cases g
  | _ => cases f
theorem flats_of {xs : List V} {ds : List D} (h : DpFs C.K H F xs ds) (f : ds.all flatD = true) : xs.all flatV = true := by
  induction xs generalizing ds with
  | nil => rfl
  | cons x xs ih =>
    cases h with
    | cons h1 h2 =>
      rw [List.all_cons, Bool.and_eq_true] at f
      rw [List.all_cons, flat_of (.inl h1) f.1, ih h2 f.2]
      rfl
theorem inV_of {x : V} {d : D} {xs : List V} {ds : List D} (hx : DpT C.K H F x d) (h : DpFs C.K H F xs ds) (f : flatD d = true) (g : ds.all flatD = true) : inV x xs = isIn d ds := by
  unfold inV isIn
  induction xs generalizing ds with
  | nil => cases h; rfl
  | cons y ys ih =>
    cases h with
    | cons h1 h2 =>
      rw [List.all_cons, Bool.and_eq_true] at g
      rw [List.any_cons, List.any_cons, eqV_of (.inl h1) hx g.1 f, ih h2 g.2]
def rIn3 (K : PySem.W.Frag) : R2 := fun x y H Q => rInD K x y H Q ∨ (rIn K false x y H Q ∨ ∃ i j, x = .str i ∧ y = .str j ∧ Q (.bl (!(Builtin.Str.occurrences j i 0 j.length 1).isEmpty)) H)
theorem op_in3 (hu : X.A.units + 65 < cLine) : OpR X (compareOp .In) (rIn3 X.K) := (op_inD hu).or (op_in_seq.or op_in_str)
theorem sem_in {K : PySem.W.Frag} : Sem2 K (rIn3 K) dIn := by
  intro C r σ H F x y dx dy Q QV hK R hx hy hq k
  subst hK
  unfold dIn at hq
  split at hq
  · exact .inl ⟨_, _, hx.dp, hy.dp, hq.1, hq.2.1, kq_dat k R (.bl _) hq.2.2⟩
  · obtain ⟨pb, ys, rfl, h3, h4, _⟩ := hy.tup
    refine .inr (.inl ⟨_, _, rfl, .inr h3, flat_of hx hq.1, flats_of h4 hq.2.1, ?_⟩)
    rw [inV_of hx h4 hq.1 hq.2.1]
    exact kq_dat k R (.bl _) hq.2.2
  · split at hq
    · cases hx.str; cases hy.str
      exact .inr (.inr ⟨_, _, rfl, rfl, kq_dat k R (.bl _) hq⟩)
    · exact hq.elim
  · exact hq.elim
def rNotIn3 (K : PySem.W.Frag) : R2 := fun x y H Q => rNotInD K x y H Q ∨ (rIn K true x y H Q ∨ ∃ i j, x = .str i ∧ y = .str j ∧ Q (.bl (!(!(Builtin.Str.occurrences j i 0 j.length 1).isEmpty))) H)
theorem op_notin3 (hu : X.A.units + 65 < cLine) : OpR X (compareOp .NotIn) (rNotIn3 X.K) := (op_notInD hu).or (op_notIn_seq.or op_notIn_str)
theorem sem_notin {K : PySem.W.Frag} : Sem2 K (rNotIn3 K) dNotIn := by
  intro C r σ H F x y dx dy Q QV hK R hx hy hq k
  subst hK
  unfold dNotIn at hq
  split at hq
  · exact .inl ⟨_, _, hx.dp, hy.dp, hq.1, hq.2.1, kq_dat k R (.bl _) hq.2.2⟩
  · obtain ⟨pb, ys, rfl, h3, h4, _⟩ := hy.tup
    refine .inr (.inl ⟨_, _, rfl, .inr h3, flat_of hx hq.1, flats_of h4 hq.2.1, ?_⟩)
    rw [inV_of hx h4 hq.1 hq.2.1]
    exact kq_dat k R (.bl _) hq.2.2
  · split at hq
    · cases hx.str; cases hy.str
      exact .inr (.inr ⟨_, _, rfl, rfl, kq_dat k R (.bl _) hq⟩)
    · exact hq.elim
  · exact hq.elim
/-! ### items, slices -/
theorem atI_of {xs : List V} {ds : List D} {i : Int} {d : D} (h : DpFs C.K H F xs ds) (e : atI ds i = some d) : ∃ v, atI xs i = some v ∧ DpF C.K H F v d := by
  unfold atI at e ⊢
  rw [h.length]
  cases q : ixN ds.length i with
  | none => rw [q] at e; cases e
  | some j =>
    rw [q] at e
    exact h.get e
theorem sem_ix {K : PySem.W.Frag} : Sem2 K (rIx K) dIx := by
  intro C r σ H F x y dx dy Q QV hK R hx hy hq k
  subst hK
  unfold dIx at hq
  split at hq
  · split at hq
    · rename_i e
      obtain ⟨pa, xs, rfl, h1, h2⟩ := hx.lst
      cases hy.int
      obtain ⟨v, ev, hv⟩ := atI_of h2 e
      exact .inl ⟨_, _, _, _, rfl, rfl, .inl (.inl h1), ev, kq_dat k R hv hq⟩
    · exact hq.elim
  · split at hq
    · rename_i e
      obtain ⟨pa, xs, rfl, h1, h2, _⟩ := hx.tup
      cases hy.int
      obtain ⟨v, ev, hv⟩ := atI_of h2 e
      exact .inr (.inl ⟨_, _, _, _, rfl, rfl, h1, ev, kq_dat k R hv hq⟩)
    · exact hq.elim
  · obtain ⟨hz, hq⟩ := hq
    split at hq
    · rename_i e
      cases hx.str
      cases hy.int
      exact .inr (.inr ⟨_, _, _, rfl, rfl, by rw [line_eq]; exact hz, e, kq_dat k R (.str _) hq⟩)
    · exact hq.elim
  · exact hq.elim
theorem cut_of {xs : List V} {ds : List D} (h : DpFs C.K H F xs ds) (lo hi : Option Int) : DpFs C.K H F (cutV xs lo hi) (cutD ds lo hi) := by
  unfold cutV cutD
  rw [h.length]
  exact (h.drop _).take _
def rSl3 (K : PySem.W.Frag) : V → Option Int → Option Int → Hp → VK → Prop := fun x lo hi H Q => rSlL K x lo hi H Q ∨ (rSlA K x lo hi H Q ∨ rSlS x lo hi H Q)
theorem sl_3 : L2.SlR X (rSl3 X.K) := L2.SlR.or sl_list (L2.SlR.or sl_tupA sl_str)
end
/-- a bound of a slice -/
abbrev PX := XW → Env → ((Env → Option (Option Int)) → Env → Prop) → Prop
def pNo : PX := fun _ r Q => Q (fun _ => some none) r
def pSome (o : OX) : PX := fun X r Q => o X r fun g r1 => match g r1 with
  | some (.int i) => Q (fun _ => some (some i)) r1
  | _ => False
def xCut (a : OX) (lo hi : PX) : TX := fun X r Q => a X r fun g r1 => lo X r1 fun l r2 => hi X r2 fun h r3 => match g r3, l r3, h r3 with
  | some d, some i, some j => dCut d i j fun v => Q v r3
  | _, _, _ => False
section
variable {X : Cx} {W : WX} {a b e : Expr} {pos : Pos}
structure DP (X : Cx) (W : WX) (e : Option Expr) (f : PX) : Prop where
  ex : ∃ t, PO X e t ∧ ∀ (C : Ctx) (r : Env) (σ : L2.St) (H : Hp) (F : AP) (Q : (Env → Option (Option Int)) → Env → Prop) (Xk : XW) (QV : Option Int → Hp → Prop), C.K = X.K → Rep C r σ H F → Link X W Xk C σ → f Xk r Q →
    (∀ o H' F' r', Rep C r' σ H' F' → Q (fun _ => some o) r' → QV o H') → t σ H QV
theorem dp_no : DP X W none pNo := ⟨⟨_, po_none, fun C r σ H F Q Xk QV _ R _ hf k => k none H F r R hf⟩⟩
theorem dp_some {o : OX} (h : DO X W e o) : DP X W (some e) (pSome o) := by
  obtain ⟨t, pe, ent⟩ := h.ex
  refine ⟨⟨_, po_some pe, fun C r σ H F Q Xk QV hK R L hf k => ?_⟩⟩
  refine ent C r σ H F _ Xk _ hK R L hf fun v H1 F1 g r1 R1 G1 q1 => ?_
  split at q1
  · rename_i i ei
    cases (G1 _ _ _ _ R1 Later.refl ei).int
    exact ⟨i, rfl, k _ H1 F1 r1 R1 q1⟩
  · exact q1.elim
theorem de_cut {oa : OX} {lo hi : Option Expr} {pl ph : PX} {p2 : Pos} (ha : DO X W a oa) (hl : DP X W lo pl) (hh : DP X W hi ph) : DE X W (.Subscript a (.Slice lo hi none p2) pos) (xCut oa pl ph) := by
  obtain ⟨t, pa, enta⟩ := ha.ex
  obtain ⟨u, pl', entl⟩ := hl.ex
  obtain ⟨w, ph', enth⟩ := hh.ex
  refine ⟨⟨_, pe_slice sl_3 pa pl' ph', fun C r σ H F Q Xk QV hK R L hf k => ?_⟩⟩
  refine enta C r σ H F _ Xk _ hK R L hf fun v H1 F1 g r1 R1 G1 q1 => ?_
  refine entl (C.up H1 F1 noT) r1 σ H1 F1 _ Xk _ hK R1.up0 (L.up R1) q1 fun i H2 F2 r2 R2' q2 => ?_
  refine enth (C.up H1 F1 noT) r2 σ H2 F2 _ Xk _ hK R2' (L.up R1) q2 fun j H3 F3 r3 R3' q3 => ?_
  have R3 := R1.down R3'
  split at q3
  · rename_i d i' j' ed ei ej
    cases ei
    cases ej
    have hd := G1 _ _ _ _ R3 R3'.later ed
    have kk : KQ C r3 σ H3 F3 (fun v => Q v r3) QV := fun v H' F' dv R' _ G' q' => k v H' F' dv r3 R' G' q'
    unfold dCut at q3
    split at q3
    · obtain ⟨pa, xs, rfl, h1, h2⟩ := hd.lst
      exact .inl ⟨_, _, rfl, .inl (.inl h1), fun p hp => kq_own kk R3 hp (cut_of h2 _ _) q3⟩
    · obtain ⟨pa, xs, rfl, h1, h2, _⟩ := hd.tup
      refine .inr (.inl ⟨_, _, rfl, hK ▸ h1, fun e => ?_, fun _ p hp => kq_tup kk R3 hp (cut_of h2 _ _) q3⟩)
      refine kq_dat kk R3 (dpf_tup hd) ?_
      rename_i ds _
      have hl := h2.length
      have : cutD ds i j = ds := by
        unfold cutD
        rw [← hl, e.1, e.2]
        simp [hl]
      rw [this] at q3
      exact q3
    · cases hd.str
      exact .inr (.inr ⟨_, rfl, by rw [line_eq]; exact q3.1, kq_dat kk R3 (.str _) q3.2⟩)
    · exact q3.elim
  · exact q3.elim
end
/-! ### built-ins -/
section
variable {X : Cx} {C : Ctx} {r : Env} {σ : L2.St} {H : Hp} {F : AP}
theorem DpTs.one {xs : List V} {d : D} (h : DpTs C.K H F xs [d]) : ∃ v, xs = [v] ∧ DpT C.K H F v d := by
  cases h with
  | cons h1 h2 => cases h2; exact ⟨_, rfl, h1⟩
theorem DpTs.two {xs : List V} {d c : D} (h : DpTs C.K H F xs [d, c]) : ∃ v w, xs = [v, w] ∧ DpT C.K H F v d ∧ DpT C.K H F w c := by
  cases h with
  | cons h1 h2 => cases h2 with
    | cons h3 h4 => cases h4; exact ⟨_, _, rfl, h1, h3⟩
def rLen2 (K : PySem.W.Frag) : List V → Hp → VK → Prop := fun xs H Q => (∃ p ys, xs = [.ref p] ∧ (SqL K H p ys ∨ SqT K H p ys) ∧ Q (.int ys.length) H) ∨ ∃ z, xs = [.str z] ∧ z.length ≤ sizeLine ∧ Q (.int z.length) H
theorem call_len2 : CallR X (.builtin "len") (rLen2 X.K) := call_len_seq.or call_len_str
theorem sem_len {K : PySem.W.Frag} : SemN K (rLen2 K) nLen := by
  intro C r σ H F xs ds Q QV hK R hx hq k
  subst hK
  unfold nLen at hq
  split at hq
  · obtain ⟨v, rfl, hv⟩ := hx.one
    obtain ⟨a, ys, rfl, h1, h2⟩ := hv.lst
    exact .inl ⟨_, _, rfl, .inl (.inl (.inl h1)), by rw [h2.length]; exact kq_dat k R (.int _) hq⟩
  · obtain ⟨v, rfl, hv⟩ := hx.one
    obtain ⟨a, ys, rfl, h1, h2, _⟩ := hv.tup
    exact .inl ⟨_, _, rfl, .inr h1, by rw [h2.length]; exact kq_dat k R (.int _) hq⟩
  · obtain ⟨v, rfl, hv⟩ := hx.one
    cases hv.str
    exact .inr ⟨_, rfl, by rw [line_eq]; exact hq.1, kq_dat k R (.int _) hq.2⟩
  · exact hq.elim
def rReprD (K : PySem.W.Frag) : List V → Hp → VK → Prop := fun xs H Q => ∃ v d, xs = [v] ∧ Dp K H v d ∧ d.showable = true ∧ d.hasDict = false ∧ d.depth ≤ 64 ∧ d.shown.length ≤ sizeLine ∧ Q (.str d.shown) H
theorem call_reprD (hg : X.A.guards = some []) (hu : X.A.units + 100 < cLine) : CallR X (.builtin "repr") (rReprD X.K) := by
  intro pins s σ H xs us Q I rv h
  obtain ⟨v, d, rfl, hd, h1, h2, h3, h4, q⟩ := h
  obtain ⟨u, rfl, ru⟩ := vals1 rv
  obtain ⟨as, rd⟩ := Dp.reads I d v u hd ru
  have fin : ∀ {h' : Heap} {tk : Nat} {t : Tok}, (∀ b o, s.heap.get? b = some o → h'.get? b = some o) → EP X pins σ Q (.str d.shown t) { s with heap := h', toks := tk } := fun {h' tk t} kk =>
    ⟨.str d.shown, H, I.kept kk, ⟨t, rfl⟩, q⟩
  cases hd with
  | non => cases ru; exact PySem.P.repr_of_none (fin fun _ _ z => z)
  | bl b => cases ru; exact PySem.P.repr_of_bool (fin fun _ _ z => z)
  | int i =>
    obtain ⟨t, rfl⟩ := ru
    refine PySem.P.repr_of_int ?_ (fin fun _ _ z => z)
    simpa [PyData.showable] using h1
  | str x =>
    obtain ⟨t, rfl⟩ := ru
    exact PySem.P.repr_of_str (fin fun _ _ z => z) (by simpa [PyData.shown] using h4)
  | lst =>
    cases ru
    exact PySem.repr_of_reads' rd h1 (fun z => by rw [h2] at z; cases z) hg (by omega) (fun _ _ z => z) (fun h' u tk kk => fin kk) h4
  | tup =>
    cases ru
    exact PySem.repr_of_reads' rd h1 (fun z => by rw [h2] at z; cases z) hg (by omega) (fun _ _ z => z) (fun h' u tk kk => fin kk) h4
end
end DL

/-! DL, part 9: more built-ins; t * k of a tuple for any small k. -/
namespace DL
open PySem PySem.Spec PyProof.Rows L2
theorem tup_mul_one (l : Addr) (items : Array Value) (n : Nat) (dd : Option Addr) (sl : Array (Option Value)) (x : Int) (u : Tok) (c0 : (decide (x < -(2 ^ 63)) || decide (x ≥ 2 ^ 63)) = false) (c1 : (items.isEmpty || x == 1) = true) :
    Meets (Builtin.«tuple.__mul__» ⟨[.ref l, .int x u], []⟩) (fun _ R s => s.heap.get? l = some { cls := .type "tuple", dict := dd, data := .seq items n, slots := sl } ∧ R (.ok (.ret (Value.ref l))) { s with heap := s.heap, toks := s.toks }) :=
  .of_wp fun prog w A R s h => by
    obtain ⟨hp, g, d, tk, os⟩ := s
    obtain ⟨hl, h⟩ := h
    have f1 := AutoSeq1.idx_int
    wp_walk using wpAny_loadPart' hl
    repeat (first
      | (refine wpAny_ite_false (decide_eq_false (by rw [c0]; exact Bool.false_ne_true)) ?_; wp_walk using wpAny_loadPart' hl)
      | (refine wpAny_ite_true (decide_eq_true c1) ?_; wp_walk using wpAny_loadPart' hl))
    exact ⟨_, rfl, h⟩
theorem tup_mul_zero (l : Addr) (items : Array Value) (n : Nat) (dd : Option Addr) (sl : Array (Option Value)) (x : Int) (u : Tok) (c0 : (decide (x < -(2 ^ 63)) || decide (x ≥ 2 ^ 63)) = false) (c1 : (items.isEmpty || x == 1) = false) (c2 : (decide (x ≤ 0) || items.isEmpty) = true) :
    Meets (Builtin.«tuple.__mul__» ⟨[.ref l, .int x u], []⟩) (fun _ R s => s.heap.get? l = some { cls := .type "tuple", dict := dd, data := .seq items n, slots := sl } ∧
      R (.ok (.ret (Value.ref s.heap.objs.size))) { s with heap := s.heap.push { cls := Value.type "tuple", data := Data.seq #[] }, toks := s.toks }) :=
  .of_wp fun prog w A R s h => by
    obtain ⟨hp, g, d, tk, os⟩ := s
    obtain ⟨hl, h⟩ := h
    have f1 := AutoSeq1.idx_int
    wp_walk using wpAny_loadPart' hl
    repeat (first
      | (refine wpAny_ite_false (decide_eq_false (by rw [c0]; exact Bool.false_ne_true)) ?_; wp_walk using wpAny_loadPart' hl)
      | (refine wpAny_ite_false (decide_eq_false (by rw [c1]; exact Bool.false_ne_true)) ?_; wp_walk using wpAny_loadPart' hl)
      | (refine wpAny_ite_true (decide_eq_true c2) ?_; wp_walk using wpAny_loadPart' hl))
    exact ⟨_, rfl, h⟩
def rRepX (K : PySem.W.Frag) : R2 := fun x y H Q => ∃ l k xs, x = .ref l ∧ y = .int k ∧ SqT K H l xs ∧ xs ≠ [] ∧ 0 ≤ k ∧ k ≤ 1000 ∧ xs.length ≤ 1000 ∧ (k = 1 → Q (.ref l) H) ∧ (k ≠ 1 → ∀ p, H p = none → Q (.ref p) (upd H p (.tup (List.replicate k.toNat xs).flatten)))
section
variable {X : Cx}
theorem op_repX : OpR X (binaryOp .Mult) (rRepX X.K) := by
  intro pins s σ H x y v u Q I rx ry h
  obtain ⟨l, k, xs, rfl, rfl, hT, hne, h0, h2, hz, q1, q2⟩ := h
  by_cases h3 : 2 ≤ k
  · exact op_repT pins s σ H _ _ v u Q I rx ry ⟨l, k, xs, rfl, rfl, hT, hne, h3, h2, hz, q2 (by omega)⟩
  cases rx
  obtain ⟨t, rfl⟩ := ry
  obtain ⟨its, r, ⟨⟨cls, dd, data, sl⟩, ho, hc, n, hd⟩, hs⟩ := I.tuple hT
  simp only at hc hd
  subst hc hd
  have hi : its.toArray.isEmpty = false := by
    cases its with
    | nil => cases r; exact absurd rfl hne
    | cons a b => rfl
  have c0 : (decide (k < -(2 ^ 63)) || decide (k ≥ 2 ^ 63)) = false := by
    rw [decide_eq_false (by omega), decide_eq_false (by omega)] <;> rfl
  by_cases h1 : k = 1
  · subst h1
    refine wpAny_binaryOp_repeat_ref (T := "tuple") (U := "int") (by decide) ⟨_, ho, rfl⟩ (fun s' => typeIs_int s' 1 t) noFill_tuple_mul F.fills_int_mul F.slot_int_rmul repeat_tuple F.slot_int_index.lookup
      (call_meets F.slot_int_rmul (typeIs_int s 1 t) F.entry_int_rmul (F.args_int_rmul_2 _ _) (int_rmul_tuple 1 t l its.toArray n dd sl)
        ⟨ho, rfl, ⟨_, ho, rfl⟩, call_meets F.slot_tuple_mul ⟨_, ho, rfl⟩ F.entry_tuple_mul (F.args_tuple_mul_2 _ _) (tup_mul_one l its.toArray n dd sl 1 t c0 (by rw [hi]; rfl)) ⟨ho, ?_⟩⟩)
    exact ⟨.ref l, H, I.tok _, rfl, q1 rfl⟩
  · have hk : k = 0 := by omega
    subst hk
    have e : (List.replicate (0 : Int).toNat xs).flatten = [] := rfl
    refine wpAny_binaryOp_repeat_ref (T := "tuple") (U := "int") (by decide) ⟨_, ho, rfl⟩ (fun s' => typeIs_int s' 0 t) noFill_tuple_mul F.fills_int_mul F.slot_int_rmul repeat_tuple F.slot_int_index.lookup
      (call_meets F.slot_int_rmul (typeIs_int s 0 t) F.entry_int_rmul (F.args_int_rmul_2 _ _) (int_rmul_tuple 0 t l its.toArray n dd sl)
        ⟨ho, rfl, ⟨_, ho, rfl⟩, call_meets F.slot_tuple_mul ⟨_, ho, rfl⟩ F.entry_tuple_mul (F.args_tuple_mul_2 _ _) (tup_mul_zero l its.toArray n dd sl 0 t c0 (by rw [hi]; rfl) (by rfl)) ⟨ho, ?_⟩⟩)
    refine ⟨.ref s.heap.objs.size, _, I.laid (t' := s.toks) (o := .tup []) (fun b ob q => Heap.get?_push_of_some _ q) (Nat.le_refl _) ?_, rfl, ?_⟩
    · exact ⟨Nat.zero_le _, [], .nil, IsTup.new _ _⟩
    · have := q2 (by decide) s.heap.objs.size (I.hok.fresh (Nat.le_refl _))
      rw [e] at this
      exact this
def rMul4 (K : PySem.W.Frag) : R2 := fun x y H Q => rMul2 x y H Q ∨ (rRepX K x y H Q ∨ rRep x y H Q)
theorem op_mul4 : OpR X (binaryOp .Mult) (rMul4 X.K) := op_mul2.or (op_repX.or op_rep)
theorem sem_mul {K : PySem.W.Frag} : Sem2 K (rMul4 K) dMul := by
  intro C r σ H F x y dx dy Q QV hK R hx hy hq k
  subst hK
  unfold dMul at hq
  split at hq
  · cases hx.int; cases hy.int
    exact .inl ⟨_, _, rfl, rfl, mulOk_of hq.1, kq_dat k R (.int _) hq.2⟩
  · rename_i ds kk
    obtain ⟨pa, xs, rfl, h1, h2, _⟩ := hx.tup
    cases hy.int
    have hl := h2.length
    refine .inr (.inl ⟨_, _, _, rfl, rfl, h1, fun e => ?_, hq.1.1, hq.1.2.1, by rw [hl]; exact hq.1.2.2.2, fun e => ?_, fun _ p hp => kq_tup k R hp (h2.rep _) hq.2⟩)
    · subst e
      have := hq.1.2.2.1
      rw [← hl] at this
      exact absurd this (by simp)
    · subst e
      refine kq_dat k R (dpf_tup hx) ?_
      have := hq.2
      simpa using this
  · obtain ⟨pa, xs, rfl, h1, h2⟩ := hx.lst
    cases hy.int
    exact .inr (.inr ⟨_, _, _, rfl, rfl, h1, hq.1.1, hq.1.2.1, by rw [line_eq, h2.length]; exact hq.1.2.2, fun p hp => kq_own k R hp (h2.rep _) hq.2⟩)
  · exact hq.elim
variable {C : Ctx} {r : Env} {σ : L2.St} {H : Hp} {F : AP}
theorem sem_repr {K : PySem.W.Frag} : SemN K (rReprD K) nRepr := by
  intro C r σ H F xs ds Q QV hK R hx hq k
  subst hK
  unfold nRepr at hq
  split at hq
  · obtain ⟨v, rfl, hv⟩ := hx.one
    exact ⟨v, _, rfl, hv.dp, hq.1.1, hq.1.2.1, hq.1.2.2.1, by rw [line_eq]; exact hq.1.2.2.2, kq_dat k R (.str _) hq.2⟩
  · exact hq.elim
theorem sem_tuple {K : PySem.W.Frag} : SemN K (fun xs H Q => ∃ p ys, xs = [.ref p] ∧ ((SqL K H p ys ∧ ∀ l, H l = none → Q (.ref l) (upd H l (.tup ys))) ∨ (SqT K H p ys ∧ Q (.ref p) H))) nTuple := by
  intro C r σ H F xs ds Q QV hK R hx hq k
  subst hK
  unfold nTuple at hq
  split at hq
  · obtain ⟨v, rfl, hv⟩ := hx.one
    obtain ⟨a, ys, rfl, h1, h2⟩ := hv.lst
    exact ⟨_, _, rfl, .inl ⟨.inl (.inl h1), fun p hp => kq_tup k R hp h2 hq⟩⟩
  · obtain ⟨v, rfl, hv⟩ := hx.one
    have hf := dpf_tup hv
    obtain ⟨a, ys, rfl, h1, h2, _⟩ := hv.tup
    exact ⟨_, _, rfl, .inr ⟨h1, kq_dat k R hf hq⟩⟩
  · exact hq.elim
theorem sem_list {K : PySem.W.Frag} : SemN K (fun xs H Q => ∃ p ys, xs = [.ref p] ∧ (SqL K H p ys ∨ SqT K H p ys) ∧ ∀ l, H l = none → Q (.ref l) (upd H l (.lst ys))) nList := by
  intro C r σ H F xs ds Q QV hK R hx hq k
  subst hK
  unfold nList at hq
  split at hq
  · obtain ⟨v, rfl, hv⟩ := hx.one
    obtain ⟨a, ys, rfl, h1, h2⟩ := hv.lst
    exact ⟨_, _, rfl, .inl (.inl (.inl h1)), fun p hp => kq_own k R hp h2 hq⟩
  · obtain ⟨v, rfl, hv⟩ := hx.one
    obtain ⟨a, ys, rfl, h1, h2, _⟩ := hv.tup
    exact ⟨_, _, rfl, .inr h1, fun p hp => kq_own k R hp h2 hq⟩
  · exact hq.elim
theorem sem_intc {K : PySem.W.Frag} : SemN K (fun xs H Q => (∃ i, xs = [.int i] ∧ Q (.int i) H) ∨ ∃ k, xs = [.bl k] ∧ Q (.int (if k then 1 else 0)) H) nInt := by
  intro C r σ H F xs ds Q QV hK R hx hq k
  unfold nInt at hq
  split at hq
  · obtain ⟨v, rfl, hv⟩ := hx.one
    cases hv.int
    exact .inl ⟨_, rfl, kq_dat k R (.int _) hq⟩
  · obtain ⟨v, rfl, hv⟩ := hx.one
    cases hv.bl
    exact .inr ⟨_, rfl, kq_dat k R (.int _) hq⟩
  · exact hq.elim
theorem sem_boolc {K : PySem.W.Frag} : SemN K (fun xs H Q => (∃ i, xs = [.int i] ∧ Q (.bl (i != 0)) H) ∨ ∃ k, xs = [.bl k] ∧ Q (.bl k) H) nBool := by
  intro C r σ H F xs ds Q QV hK R hx hq k
  unfold nBool at hq
  split at hq
  · obtain ⟨v, rfl, hv⟩ := hx.one
    cases hv.int
    exact .inl ⟨_, rfl, kq_dat k R (.bl _) hq⟩
  · obtain ⟨v, rfl, hv⟩ := hx.one
    cases hv.bl
    exact .inr ⟨_, rfl, kq_dat k R (.bl _) hq⟩
  · exact hq.elim
theorem sem_abs {K : PySem.W.Frag} : SemN K (fun xs H Q => ∃ i, xs = [.int i] ∧ Q (.int (if i < 0 then -i else i)) H) nAbs := by
  intro C r σ H F xs ds Q QV hK R hx hq k
  unfold nAbs at hq
  split at hq
  · obtain ⟨v, rfl, hv⟩ := hx.one
    cases hv.int
    exact ⟨_, rfl, kq_dat k R (.int _) hq⟩
  · exact hq.elim
theorem sem_str {K : PySem.W.Frag} : SemN K (fun xs H Q => ∃ i, xs = [.int i] ∧ i.natAbs.log2 < 1920 ∧ Q (.str (toString i)) H) nStr := by
  intro C r σ H F xs ds Q QV hK R hx hq k
  unfold nStr at hq
  split at hq
  · obtain ⟨v, rfl, hv⟩ := hx.one
    cases hv.int
    exact ⟨_, rfl, hq.1, kq_dat k R (.str _) hq.2⟩
  · exact hq.elim
theorem ints_sq {v : V} {xs : List D} {ns : List Int} (hv : DpT C.K H F v (.list xs)) (e : intsOf xs = some ns) : ∃ a, v = .ref a ∧ SqL C.K H a (ns.map V.int) := by
  obtain ⟨a, ys, rfl, h1, h2⟩ := hv.lst
  have e := intsOf_some e
  subst e
  have := h2.vints
  subst this
  exact ⟨a, rfl, .inl (.inl h1)⟩
theorem bools_sq {v : V} {xs : List D} {ns : List Bool} (hv : DpT C.K H F v (.list xs)) (e : boolsOf xs = some ns) : ∃ a, v = .ref a ∧ SqL C.K H a (ns.map V.bl) := by
  obtain ⟨a, ys, rfl, h1, h2⟩ := hv.lst
  have e := boolsOf_some e
  subst e
  have := h2.vbools
  subst this
  exact ⟨a, rfl, .inl (.inl h1)⟩
def rMax3 (K : PySem.W.Frag) : List V → Hp → VK → Prop := fun xs H Q => (∃ i j, xs = [.int i, .int j] ∧ Q (.int (if j > i then j else i)) H) ∨ rMax K xs H Q
theorem call_max3 (hc : X.calm = true) : CallR X (.builtin "max") (rMax3 X.K) := (call_max2 hc).or (cr_max hc)
theorem sem_max {K : PySem.W.Frag} : SemN K (rMax3 K) nMax := by
  intro C r σ H F xs ds Q QV hK R hx hq k
  subst hK
  unfold nMax at hq
  split at hq
  · obtain ⟨v, w, rfl, hv, hw⟩ := hx.two
    cases hv.int; cases hw.int
    exact .inl ⟨_, _, rfl, kq_dat k R (.int _) hq⟩
  · split at hq
    · rename_i ns e
      obtain ⟨v, rfl, hv⟩ := hx.one
      obtain ⟨a, rfl, hs⟩ := ints_sq hv e
      exact .inr ⟨a, ns, rfl, hs, hq.1, fun m h1 h2 => kq_dat k R (.int _) (hq.2 m h1 h2)⟩
    · exact hq.elim
  · exact hq.elim
def rMin3 (K : PySem.W.Frag) : List V → Hp → VK → Prop := fun xs H Q => (∃ i j, xs = [.int i, .int j] ∧ Q (.int (if j < i then j else i)) H) ∨ rMin K xs H Q
theorem call_min3 (hc : X.calm = true) : CallR X (.builtin "min") (rMin3 X.K) := (call_min2 hc).or (cr_min hc)
theorem sem_min {K : PySem.W.Frag} : SemN K (rMin3 K) nMin := by
  intro C r σ H F xs ds Q QV hK R hx hq k
  subst hK
  unfold nMin at hq
  split at hq
  · obtain ⟨v, w, rfl, hv, hw⟩ := hx.two
    cases hv.int; cases hw.int
    exact .inl ⟨_, _, rfl, kq_dat k R (.int _) hq⟩
  · split at hq
    · rename_i ns e
      obtain ⟨v, rfl, hv⟩ := hx.one
      obtain ⟨a, rfl, hs⟩ := ints_sq hv e
      exact .inr ⟨a, ns, rfl, hs, hq.1, fun m h1 h2 => kq_dat k R (.int _) (hq.2 m h1 h2)⟩
    · exact hq.elim
  · exact hq.elim
theorem sem_sum {K : PySem.W.Frag} : SemN K (rSum K) nSum := by
  intro C r σ H F xs ds Q QV hK R hx hq k
  subst hK
  unfold nSum at hq
  split at hq
  · split at hq
    · rename_i ns e
      obtain ⟨v, rfl, hv⟩ := hx.one
      obtain ⟨a, rfl, hs⟩ := ints_sq hv e
      exact ⟨a, ns, rfl, hs, kq_dat k R (.int _) hq⟩
    · exact hq.elim
  · exact hq.elim
theorem sem_all {K : PySem.W.Frag} : SemN K (rAll K) nAll := by
  intro C r σ H F xs ds Q QV hK R hx hq k
  subst hK
  unfold nAll at hq
  split at hq
  · split at hq
    · rename_i ns e
      obtain ⟨v, rfl, hv⟩ := hx.one
      obtain ⟨a, rfl, hs⟩ := bools_sq hv e
      exact ⟨a, ns, rfl, hs, kq_dat k R (.bl _) hq⟩
    · exact hq.elim
  · exact hq.elim
theorem sem_any {K : PySem.W.Frag} : SemN K (rAny K) nAny := by
  intro C r σ H F xs ds Q QV hK R hx hq k
  subst hK
  unfold nAny at hq
  split at hq
  · split at hq
    · rename_i ns e
      obtain ⟨v, rfl, hv⟩ := hx.one
      obtain ⟨a, rfl, hs⟩ := bools_sq hv e
      exact ⟨a, ns, rfl, hs, kq_dat k R (.bl _) hq⟩
    · exact hq.elim
  · exact hq.elim
/-! ### methods of the list in a slot -/
theorem semM_extend {K : PySem.W.Frag} : SemM K rExtend mExtend := by
  intro H F a ys xs es ds Q QV htrk nf ha hy hx hq k
  unfold mExtend at hq
  split at hq
  · rename_i zs
    cases hx with
    | cons h1 h2 =>
      cases h2
      obtain ⟨b, ws, rfl, g1, g2⟩ := h1.lst
      exact ⟨_, _, _, _, rfl, rfl, ha, g1, by rw [line_eq, hy.length, g2.length]; exact hq.1, k .non _ _ _ (hy.app g2) .non hq.2⟩
  · exact hq.elim
theorem semM_pop {K : PySem.W.Frag} : SemM K rPopAt mPop := by
  intro H F a ys xs es ds Q QV htrk nf ha hy hx hq k
  unfold mPop at hq
  split at hq
  · rename_i i
    cases hx with
    | cons h1 h2 =>
      cases h2
      cases h1.int
      obtain ⟨hb, hq⟩ := hq
      split at hq
      · rename_i kk ek
        split at hq
        · rename_i y ey
          obtain ⟨v, ev, hv⟩ := hy.get ey
          exact ⟨_, _, _, _, _, rfl, rfl, ha, hb.1, hb.2, by rw [hy.length]; exact ek, ev, k _ _ _ _ (hy.erase _) hv hq⟩
        · exact hq.elim
      · exact hq.elim
  · exact hq.elim
end
end DL

/-! DL, part 10: the bag's own defs; the law at its head. -/
namespace DL
open PySem PySem.Spec L2
/-! ### o[i] of a list, by values -/
theorem get_list {X : Cx} : PGet X (rIxL X.K) := by
  intro pins s σ H x y v u Q I rx ry h
  obtain ⟨p, xs, i, z, rfl, rfl, hq, he, q⟩ := h
  cases rx
  obtain ⟨t, rfl⟩ := ry
  obtain ⟨its, r, pl, hz⟩ := I.list hq
  obtain ⟨j, h1, h2, h3, h4, h5⟩ := atI_get he
  obtain ⟨w, ew, rw'⟩ := r.get h2
  have hl := r.length
  have hn := line63
  have fin : EP X pins σ Q w s := ⟨z, H, I, rw', q⟩
  by_cases h0 : 0 ≤ i
  · have hj : i.toNat = j := by
      rw [PySem.seqIndex_of h0 h5] at h1
      exact Option.some.inj h1
    exact wpAny_getItem_list pl.isList h0 (by omega) (by rw [hj]; simpa using ew) fin
  · have hj : (i + (its.toArray.size : Int)).toNat = j := by
      rw [PySem.seqIndex_neg (by omega) h4] at h1
      rw [List.size_toArray, ← hl]
      exact Option.some.inj h1
    exact PySem.wpAny_getItem_list_neg pl.isList (by omega) (by rw [List.size_toArray] <;> omega) (by omega) (by rw [hj]; simpa using ew) fin
/-- _law_take(bag, many): some number from 0 to many less 1 -/
def takeS : Spec := fun ds Q _ => ∃ n : Int, ds = [.bag, .dat (.int n)] ∧ 0 < n ∧ n < 2 ^ 30 ∧ ∀ k : Int, 0 ≤ k → k < n → Q (.dat (.int k))
/-- the bag in H' is still one: H has grown, but at b nothing changed -/
def BagIn (H : Hp) (b c : Addr) (H' : Hp) : Prop := ∃ i j k : Int, H' b = some (.lst [.int i, .int j, .int k, .ref c]) ∧ ∀ a o, H a = some o → a ≠ b → H' a = some o
theorem BagIn.set {H H' : Hp} {b c : Addr} {i j k : Int} (h : BagIn H b c H') : BagIn H b c (upd H' b (.lst [.int i, .int j, .int k, .ref c])) := by
  obtain ⟨_, _, _, _, h2⟩ := h
  exact ⟨i, j, k, upd_same, fun a o e ne => by rw [upd_ne ne]; exact h2 a o e ne⟩
theorem BagIn.new {H H' : Hp} {b c p : Addr} {o : HO} (h : BagIn H b c H') (hp : H' p = none) (hb : H b ≠ none) : BagIn H b c (upd H' p o) := by
  obtain ⟨i, j, k, h1, h2⟩ := h
  refine ⟨i, j, k, by rw [upd_ne (ne_of_none h1 hp)]; exact h1, fun a u e ne => by rw [upd_ne (ne_of_none (h2 a u e ne) hp)]; exact h2 a u e ne⟩
/-! ### the law -/
/-- the code objects of the defs that make lambdas, with their tables -/
def cpOf (K : PySem.W.Frag) : List (Addr × Addr) := lamNames.filterMap fun x => PySem.W.tabIn K x
def Tbs (K : PySem.W.Frag) (mg : Str → Option Value) (base : Heap) : Prop := ∀ p ∈ cpOf K, LamX.TabB base mg p.1 p.2
theorem tabs_cp {K : PySem.W.Frag} {p : Addr × Str} (h : p ∈ tabsOf K) : ∃ c, (c, p.1) ∈ cpOf K := by
  unfold tabsOf at h
  obtain ⟨x, hx, e⟩ := List.mem_filterMap.mp h
  cases q : PySem.W.tabIn K x with
  | none => rw [q] at e; cases e
  | some cp =>
    rw [q] at e
    cases e
    exact ⟨cp.1, List.mem_filterMap.mpr ⟨x, hx, q⟩⟩
/-- the tables as they stand at the head -/
structure HeadTabs (K : PySem.W.Frag) (h : Heap) : Prop where
  at_ : ∀ p ∈ cpOf K, h.get? p.2 = some (PySem.W.tabObj #[])
  out : ∀ p ∈ cpOf K, K.lookup p.2 = none
  code : ∀ p ∈ cpOf K, PySem.W.codeHdIn K p.1 p.2 = true
open Classical in
/-- what is tracked at the head: the script, if it is not among what is known, and the tables -/
noncomputable def headH (K : PySem.W.Frag) (a : Addr) (u : HO) : Hp := fun b =>
  if b = a ∧ K.lookup a = none then some u else if ∃ p ∈ cpOf K, p.2 = b then some (.tbl #[]) else none
theorem headH_some {K : PySem.W.Frag} {a b : Addr} {u v : HO} (h : headH K a u b = some v) : (b = a ∧ K.lookup a = none ∧ v = u) ∨ ((∃ p ∈ cpOf K, p.2 = b) ∧ v = .tbl #[]) := by
  unfold headH at h
  split at h
  · rename_i q
    exact .inl ⟨q.1, q.2, (Option.some.inj h).symm⟩
  · split at h
    · rename_i q
      exact .inr ⟨q, (Option.some.inj h).symm⟩
    · cases h
theorem law_head {P : Program} {w : World} {K : PySem.W.Frag} {mg mb : Str → Option Value} {fa a : Addr} {s : Shared} {vs : List Value} {ns : List Int} (inK : K.In s.heap) (hns : s.heap.Ns mainGlobals mg) (hb : s.heap.Ns builtinsNs mb) (hbb : ∀ x : Str, x ≠ "__name__" → mb x = bootBuiltins x)
    (free : s.heap.NoLimit) (hg : s.gens = #[]) (hbm : ∃ bm o, mg "__builtins__" = some (.ref bm) ∧ bm ≠ builtinsNs ∧ s.heap.get? bm = some o ∧ o.cls = .type "module" ∧ o.dict = some builtinsNs ∧ o.data = .plain)
    (HT : HeadTabs K s.heap) (ha : s.heap.get? a = some { cls := .type "list", data := .seq vs.toArray }) (hi : PyProof.Rows.IntsAre vs ns) (hl : ns.length ≤ sizeLine)
    (run : ∀ (base : Heap) (H : Hp), K.In base → base.Ns mainGlobals mg → Tbs K mg base → LamX.Tabs (tabsOf K) H → Env0 P w K mg base callerA [] s H → SqL K H a (ns.map V.int) → codeAny (model P w) callerA (.call (.ref fa) ⟨[.ref a], []⟩) (CR (L2.CX P w) [] P w H s (fun v _ => v = .bl true) fun _ _ _ => False) s) :
    codeAny (model P w) callerA (.call (.ref fa) ⟨[.ref a], []⟩) (fun r s' => r = .ok (.ret (.bool true)) ∧ PySem.OldK s.heap s'.heap ∧ s'.os = s.os ∧ PyProof.Rows.AllBare s'.gens) s := by
  have rv := vals_ints hi
  let ob : Obj := { cls := .type "list", data := .seq vs.toArray }
  have ata : ∀ p ∈ cpOf K, p.2 ≠ a := fun p hp e => by
    have q := HT.at_ p hp
    rw [e, ha] at q
    cases (show Data.seq vs.toArray _ = Data.fields #[] from congrArg Obj.data (Option.some.inj q))
  generalize hH : headH K a (.frz ob (.lst (ns.map V.int))) = H
  have isT : ∀ p ∈ cpOf K, H p.2 = some (.tbl #[]) := fun p hp => by
    rw [← hH]
    unfold headH
    rw [if_neg fun z => ata p hp z.1, if_pos ⟨p, hp, rfl⟩]
  have cases_ : ∀ {b u}, H b = some u → (b = a ∧ K.lookup a = none ∧ u = .frz ob (.lst (ns.map V.int))) ∨ ((∃ p ∈ cpOf K, p.2 = b) ∧ u = .tbl #[]) := fun {b u} e => by
    rw [← hH] at e
    exact headH_some e
  have hok : HOk P w H s.heap := fun b u e => by
    rcases cases_ e with ⟨rfl, _, rfl⟩ | ⟨⟨p, hp, rfl⟩, rfl⟩
    · exact ⟨ha, by rw [List.length_map]; exact hl, vs, _, rv, ha⟩
    · exact HT.at_ p hp
  -- what is hidden is a list or an empty table
  have seen : ∀ {b : Addr} {o : Obj}, s.heap.get? b = some o → (∀ xs n, o.data ≠ .seq xs n) → o.data ≠ .fields #[] → (hidT s.heap H).get? b = some o := fun {b o} e n1 n2 => hidT_get e (by
    cases z : H b with
    | none => rfl
    | some u =>
      exfalso
      rcases cases_ z with ⟨rfl, _, _⟩ | ⟨⟨p, hp, rfl⟩, _⟩
      · rw [ha] at e
        cases e
        exact n1 _ _ rfl
      · rw [HT.at_ p hp] at e
        cases e
        exact n2 rfl)
  have hid : ∀ {b : Addr} {m : Str → Option Value}, s.heap.Ns b m → (hidT s.heap H).Ns b m := by
    rintro b m ⟨o, es, ep, e, d, q⟩
    exact ⟨o, es, ep, seen e (fun xs n z => by rw [d] at z; cases z) (fun z => by rw [d] at z; cases z), d, q⟩
  have inB : K.In (hidT s.heap H) := fun b o e => hidT_get (inK b o e) (by
    cases z : H b with
    | none => rfl
    | some u =>
      exfalso
      rcases cases_ z with ⟨rfl, n, _⟩ | ⟨⟨p, hp, rfl⟩, _⟩
      · rw [n] at e; cases e
      · rw [HT.out p hp] at e; cases e)
  have tbs : Tbs K mg (hidT s.heap H) := fun p hp => by
    refine ⟨PySem.W.codeHd_of_K inB (HT.code p hp), ?_, fun z => ?_⟩
    · obtain ⟨bm, o, b1, b2, b3, b4, b5, b6⟩ := hbm
      refine ⟨bm, o, b1, b2, fun q => ?_, fun q => ?_, seen b3 (fun xs n z => by rw [b6] at z; cases z) (fun z => by rw [b6] at z; cases z), b4, b5, b6⟩
      · obtain ⟨o2, es, ep, e2, d2, _⟩ := hns
        rw [q, e2] at b3
        cases b3
        rw [d2] at b6
        cases b6
      · rw [q, HT.at_ p hp] at b3
        cases b3
        cases b6
    · obtain ⟨o2, es, ep, e2, d2, _⟩ := hns
      rw [z, HT.at_ p hp] at e2
      cases e2
      cases d2
  have tab : LamX.Tabs (tabsOf K) H := fun p hp => by
    obtain ⟨c, hc⟩ := tabs_cp hp
    exact LamX.TabS.nil (isT _ hc)
  have hS : SqL K H a (ns.map V.int) := by
    cases hk : K.lookup a with
    | some o =>
      have e := inK a o hk
      rw [ha] at e
      cases e
      exact .inr ⟨_, vs.toArray, _, hk, rfl, rfl, rfl, by rw [List.size_toArray, hi.length]; exact hl, by simpa using rv⟩
    | none =>
      refine .inl (.inr ⟨ob, ?_⟩)
      rw [← hH]
      exact if_pos ⟨rfl, hk⟩
  obtain ⟨mc, l1, l2⟩ := free
  have e0 : Env0 P w K mg (hidT s.heap H) callerA [] s H := ⟨rfl, ⟨inB, hid hns, ⟨mb, hid hb, hbb⟩, ⟨mc, hid l1, l2⟩⟩, fun b o e => of_hidT e, Nat.le_of_eq (hidT_size _ _), trivial, fun b z => absurd (show b ∈ ([] : List Addr) from z) (by simp), hok, .of_eq hg⟩
  refine codeAny_mono (run _ H inB (hid hns) tbs tab e0 hS) ?_
  intro r s' h
  cases r with
  | error e =>
    obtain ⟨_, _, _, _, _, _, _, _, _, _, _, _, z⟩ := h
    exact z.elim
  | ok fl =>
    cases fl with
    | next => exact h.elim
    | brk => exact h.elim
    | cont => exact h.elim
    | ret u =>
      obtain ⟨v, H', os, bare, un, hok', ru, qv⟩ := h
      subst qv
      obtain rfl : u = Value.bool true := ru
      have same : ∀ b o, s.heap.get? b = some o → (¬ ∃ p ∈ cpOf K, p.2 = b) → s'.heap.get? b = some o := fun b o e nb => by
        cases z : H b with
        | none => exact un.keep b o e z (fun y => absurd (show b ∈ ([] : List Addr) from y) (by simp)) (by simp)
        | some u =>
          rcases cases_ z with ⟨rfl, _, rfl⟩ | ⟨y, _⟩
          · obtain ⟨e1, _⟩ := hok b _ z
            obtain ⟨e2, _⟩ := hok' b _ (un.frzs b ob _ z)
            rw [e] at e1
            cases e1
            exact e2
          · exact absurd y nb
      refine ⟨rfl, ⟨fun b o e => ?_, fun b o e => ?_⟩, os, bare⟩
      · by_cases y : ∃ p ∈ cpOf K, p.2 = b
        · obtain ⟨p, hp, rfl⟩ := y
          obtain ⟨more, hm⟩ := un.tbls p.2 #[] (isT p hp)
          have e1 := HT.at_ p hp
          rw [e] at e1
          cases e1
          refine .inr (.inl ⟨((PySem.W.codeHd_of_K inK (HT.code p hp)).tab (HT.at_ p hp)).isCodeTable, rfl, #[], more, rfl, ?_⟩)
          have hm2 : s'.heap.get? p.2 = some { cls := .none, data := .fields (#[] ++ more) } := hok' _ _ hm
          exact hm2
        · exact .inl (same b o e y)
      · by_cases y : ∃ p ∈ cpOf K, p.2 = b
        · obtain ⟨p, hp, rfl⟩ := y
          obtain ⟨more, hm⟩ := un.tbls p.2 #[] (isT p hp)
          exact ⟨_, hok' _ _ hm⟩
        · exact ⟨o, same b o e y⟩
/-- the law's def over a bag: behind its first statement, bag = _law_bag(script), the rest means q -/
theorem rep_law {K : PySem.W.Frag} {H : Hp} {b c : Addr} {i j k : Int} {cells : List Int} {σ : L2.St} {m : Nat} (h1 : H b = some (.lst [.int i, .int j, .int k, .ref c])) (h2 : H c = some (.lst (cells.map V.int))) (ht : LamX.Tabs (tabsOf K) H) (hl : cells.length ≤ 63) (hm : σ.length = m) (p : Nat) (hp : p < m) (hs : σ[p]? = some (some (.ref b))) :
    Rep ⟨K, some b, fun a => a = c, H, fun a => a = c⟩ (putO (List.replicate m none) p (some .bag)) σ H (fun a => a = c) := by
  have nbc : c ≠ b := fun e => by
    subst e
    rw [h1] at h2
    have := Option.some.inj h2
    have e2 : ([V.int i, V.int j, V.int k, V.ref c] : List V) = cells.map V.int := by injection this
    have : V.ref c ∈ cells.map V.int := by rw [← e2]; simp
    simp at this
  have none_ : ∀ j, sl (List.replicate m (none : Option DV)) j = none := fun j => by
    induction m generalizing j with
    | zero => rfl
    | succ m ih =>
      rw [List.replicate_succ]
      cases j with
      | zero => rfl
      | succ j =>
        clear hm hp hs
        have : ∀ (n j : Nat), sl (List.replicate n (none : Option DV)) j = none := fun n => by
          induction n with
          | zero => intro j; rfl
          | succ n ih2 =>
            intro j
            rw [List.replicate_succ]
            cases j with
            | zero => rfl
            | succ j => exact ih2 j
        exact this m j
  have only : ∀ {j dv}, sl (putO (List.replicate m none) p (some DV.bag)) j = some dv → j = p ∧ dv = .bag := fun {j dv} e => by
    rcases sl_put_some e with ⟨a, b⟩ | ⟨_, e'⟩
    · exact ⟨a, b⟩
    · rw [none_] at e'; cases e'
  refine ⟨by rw [len_putO, List.length_replicate, hm], fun j dv e => ?_, fun j j2 d1 d2 a e1 _ o1 => ?_, fun a z => ?_, fun _ z => z, fun _ z => .inl z, fun _ z => z, fun a z => ?_, fun j ds a e1 o1 => ?_, fun x e => ?_, ⟨ht, fun a z => z ▸ nt_lst h2, fun a z => z ▸ nt_lst h2⟩⟩
  · obtain ⟨rfl, rfl⟩ := only e
    exact ⟨_, hs, .bag rfl⟩
  · obtain ⟨_, z⟩ := only e1
    subst z
    cases o1
  · subst z
    exact ⟨rfl, by rw [h2]; simp⟩
  · subst z
    rw [h2]; simp
  · obtain ⟨_, z⟩ := only e1
    subst z
    cases o1
  · have e' : b = x := Option.some.inj e
    subst e'
    exact ⟨⟨c, i, j, k, cells, h1, .lst ⟨rfl, h2⟩ (.ints cells), hl⟩, fun z => nbc z.symm, fun z => nbc z.symm⟩
end DL

/-! DL, part 11: _law_take, _law_bag; the law's def. -/
namespace DL
open PySem PySem.Spec L2
abbrev rGeI : R2 := rI0 fun i j => .bl (decide (j ≤ i))
abbrev rGtI : R2 := rI0 fun i j => .bl (decide (j < i))
abbrev rAddI : R2 := rI0 fun i j => .int (i + j)
abbrev rMulI : R2 := rI CMul fun i j => .int (i * j)
abbrev rModI : R2 := rI (fun _ j => 0 < j) fun i j => .int (i % j)
abbrev rDivI : R2 := rI CDiv fun i j => .int (i / j)
abbrev rPowI : R2 := rI CPow fun i j => .int (i ^ j.toNat)
abbrev rIntI : List V → Hp → VK → Prop := fun xs H Q => (∃ i, xs = [.int i] ∧ Q (.int i) H) ∨ ∃ k, xs = [.bl k] ∧ Q (.int (if k then 1 else 0)) H
section
variable (K : PySem.W.Frag)
abbrev bagAt (i : Int) : L2.TE := tOp (rIxL K) (tVar 0) (tC (.int i))
abbrev intOf (t : L2.TE) : L2.TE := tCB rIntI (tCons t tNil)
def takeIn : L2.TS :=
  tSeq (tAsg (tOp (rIxL K) (tOp rCat (tSl (rSlL K) (bagAt K 3) (tPart (bagAt K 2)) tNoPart) (tLst (tCons (tC (.int 0)) tNil))) (tC (.int 0))) (gName 2))
  (tSeq (tAugS (tVar 0) (tC (.int 2)) (tC (.int 1)) (rIxL K) (ipI fun i j => i + j) rSetL)
  (tSeq (tIfS (tTest (tOp rGeI (tVar 2) (tOp rPowI (tC (.int 10)) (tC (.int 18))))) (tAsg (tVar 2) (gSub (tVar 0) (tC (.int 0)) rSetL)) tNext)
  (tSeq (tAsg (tOp rAddI (tOp rAddI (tOp rMulI (bagAt K 1) (tC (.int 48271))) (tOp rModI (intOf (tVar 2)) (tC (.int 2147483647)))) (tOp rMulI (tC (.int 7919)) (bagAt K 2))) (gName 3))
  (tAsg (tOp rModI (intOf (tVar 3)) (tC (.int 2147483647))) (gSub (tVar 0) (tC (.int 1)) rSetL)))))
def takeOut : L2.TS :=
  tSeq (tIfS (tTest (tOp rGtI (bagAt K 0) (tC (.int 0))))
    (tSeq (tAsg (tOp rModI (intOf (bagAt K 0)) (tVar 1)) (gName 4)) (tSeq (tAsg (tOp rDivI (intOf (bagAt K 0)) (tVar 1)) (gSub (tVar 0) (tC (.int 0)) rSetL)) (tRet (tVar 4)))) tNext)
  (tSeq (tAsg (tOp rModI (intOf (tOp rMulI (tOp rAddI (bagAt K 1) (tC (.int 1))) (tC (.int 39373)))) (tC (.int 1000000007))) (gName 5))
  (tSeq (tAsg (tOp rModI (intOf (tOp rMulI (tOp rModI (intOf (tOp rMulI (tVar 5) (tVar 5))) (tC (.int 998244353))) (tC (.int 30011)))) (tC (.int 998244353))) (gName 6))
  (tRet (tOp rModI (intOf (tOp rDivI (tVar 6) (tC (.int 7)))) (tVar 1)))))
def takeT : L2.TS := Evl.tCut (tIfS (tTest (tOp rEq (bagAt K 0) (tC (.int 0)))) (takeIn K) tNext) (takeOut K)
end
theorem atI4 {x0 x1 x2 x3 : V} : atI [x0, x1, x2, x3] 0 = some x0 ∧ atI [x0, x1, x2, x3] 1 = some x1 ∧ atI [x0, x1, x2, x3] 2 = some x2 ∧ atI [x0, x1, x2, x3] 3 = some x3 := ⟨rfl, rfl, rfl, rfl⟩
section
variable {K : PySem.W.Frag} {H0 : Hp} {b c : Addr} {n : Int} {cells : List Int}
def TakeMid (H0 : Hp) (b c : Addr) (n : Int) (σ : L2.St) (H : Hp) : Prop := BagIn H0 b c H ∧ ∃ x2 x3 x4 x5 x6, σ = [some (.ref b), some (.int n), x2, x3, x4, x5, x6]
theorem bag_at {σ : L2.St} {H : Hp} {i j k : Int} {Q : VK} (h0 : σ[0]? = some (some (.ref b))) (h : H b = some (.lst [.int i, .int j, .int k, .ref c])) (m : Int) (v : V) (hm : atI [V.int i, V.int j, V.int k, V.ref c] m = some v) (q : Q v H) : bagAt K m σ H Q :=
  ⟨.ref b, h0, b, _, m, v, rfl, rfl, .inl (.inl h), hm, q⟩
theorem take_in (hc : H0 c = some (.lst (cells.map V.int))) (nbc : c ≠ b) (hb0 : H0 b ≠ none) (hl : cells.length ≤ 1000) {D : L2.Ends} (k : ∀ σ H, TakeMid H0 b c n σ H → D.nx σ H) {σ : L2.St} {H : Hp} (M : TakeMid H0 b c n σ H) : takeIn K D σ H := by
  obtain ⟨B, x2, x3, x4, x5, x6, rfl⟩ := M
  obtain ⟨i, j, kk, h1, h2⟩ := id B
  have hcH := h2 c _ hc nbc
  -- cell
  refine bag_at rfl h1 3 _ rfl ?_
  refine bag_at rfl h1 2 _ rfl ⟨kk, rfl, ?_⟩
  refine ⟨c, cells.map V.int, rfl, .inl (.inl hcH), fun p hp => ?_⟩
  have B1 := B.new (o := .lst (cutV (cells.map V.int) (some kk) none)) hp hb0
  refine ⟨by show 1 ≤ sizeLine; rw [line_eq]; decide, fun p2 hp2 => ?_⟩
  have B2 := B1.new (o := .lst [V.int 0]) hp2 hb0
  have e1 : upd (upd H p (.lst (cutV (cells.map V.int) (some kk) none))) p2 (.lst [V.int 0]) p = some (.lst (cutV (cells.map V.int) (some kk) none)) := by
    rw [upd_ne (ne_of_none upd_same hp2)]
    exact upd_same
  obtain ⟨rest, hrest⟩ : ∃ rest : List Int, cutV (cells.map V.int) (some kk) none = rest.map V.int := ⟨(cells.drop (HT.sIx cells.length 0 (some kk))).take (HT.sIx cells.length cells.length none - HT.sIx cells.length 0 (some kk)), by
    unfold cutV
    rw [List.length_map, List.map_take, List.map_drop]⟩
  have hlr := cutV_length (cells.map V.int) (some kk) none
  rw [List.length_map] at hlr
  refine ⟨p, p2, _, _, rfl, rfl, e1, upd_same, by rw [line_eq]; show _ + 1 ≤ _; omega, fun p3 hp3 => ?_⟩
  have B3 := B2.new (o := .lst (cutV (cells.map V.int) (some kk) none ++ [V.int 0])) hp3 hb0
  obtain ⟨z, hz⟩ : ∃ z : Int, atI (cutV (cells.map V.int) (some kk) none ++ [V.int 0]) 0 = some (.int z) := by
    rw [hrest]
    cases rest with
    | nil => exact ⟨0, rfl⟩
    | cons y r => exact ⟨y, atI_nat (j := 0) rfl⟩
  refine ⟨p3, _, 0, _, rfl, rfl, .inl (.inl upd_same), hz, ?_⟩
  generalize upd (upd (upd H p (.lst (cutV (cells.map V.int) (some kk) none))) p2 (.lst [V.int 0])) p3 (.lst (cutV (cells.map V.int) (some kk) none ++ [V.int 0])) = H3 at B3
  clear h1 h2 hcH e1 hp hp2 hp3 B1 B2 B
  -- bag[2] += 1
  obtain ⟨i3, j3, k3, g1, g2⟩ := id B3
  refine ⟨.ref b, rfl, b, _, 2, _, rfl, rfl, .inl (.inl g1), rfl, ?_⟩
  refine ⟨k3, 1, rfl, rfl, b, _, 2, 2, rfl, rfl, g1, rfl, ?_⟩
  have B4 : BagIn H0 b c (upd H3 b (.lst [.int i3, .int j3, .int (k3 + 1), .ref c])) := B3.set
  show (tSeq (tIfS (tTest (tOp rGeI (tVar 2) (tOp rPowI (tC (.int 10)) (tC (.int 18))))) (tAsg (tVar 2) (gSub (tVar 0) (tC (.int 0)) rSetL)) tNext) _) D _ (upd H3 b (.lst [.int i3, .int j3, .int (k3 + 1), .ref c]))
  generalize upd H3 b (.lst [.int i3, .int j3, .int (k3 + 1), .ref c]) = H4 at B4
  -- if cell >= 10 ** 18
  have rest5 : ∀ H5, BagIn H0 b c H5 → (tSeq (tAsg (tOp rAddI (tOp rAddI (tOp rMulI (bagAt K 1) (tC (.int 48271))) (tOp rModI (intOf (tVar 2)) (tC (.int 2147483647)))) (tOp rMulI (tC (.int 7919)) (bagAt K 2))) (gName 3))
      (tAsg (tOp rModI (intOf (tVar 3)) (tC (.int 2147483647))) (gSub (tVar 0) (tC (.int 1)) rSetL))) D [some (.ref b), some (.int n), some (.int z), x3, x4, x5, x6] H5 := by
    intro H5 B5
    obtain ⟨i5, j5, k5, f1, f2⟩ := id B5
    refine bag_at rfl f1 1 _ rfl ⟨_, _, rfl, rfl, .inr ⟨by decide, by decide⟩, ?_⟩
    refine ⟨_, rfl, .inl ⟨z, rfl, _, _, rfl, rfl, (by show (0 : Int) < 2147483647; decide), _, _, rfl, rfl, ?_⟩⟩
    refine bag_at rfl f1 2 _ rfl ⟨_, _, rfl, rfl, .inl ⟨by decide, by decide⟩, _, _, rfl, rfl, ?_⟩
    refine ⟨_, rfl, .inl ⟨_, rfl, _, _, rfl, rfl, (by show (0 : Int) < 2147483647; decide), .ref b, rfl, b, _, 1, 1, rfl, rfl, f1, rfl, ?_⟩⟩
    exact k _ _ ⟨B5.set, _, _, _, _, _, rfl⟩
  refine ⟨_, rfl, _, _, rfl, rfl, ⟨by decide, by decide, by decide⟩, _, _, rfl, rfl, _, rfl, ite2 (fun _ => ?_) fun _ => rest5 H4 B4⟩
  obtain ⟨i4, j4, k4, f1, f2⟩ := id B4
  exact ⟨_, rfl, .ref b, rfl, b, _, 0, 0, rfl, rfl, f1, rfl, rest5 _ B4.set⟩
theorem take_out (hn : 0 < n) (hn2 : n < 2 ^ 30) {D : L2.Ends} (k : ∀ z H, 0 ≤ z → z < n → BagIn H0 b c H → D.rt (.int z) H) {σ : L2.St} {H : Hp} (M : TakeMid H0 b c n σ H) : takeOut K D σ H := by
  obtain ⟨B, x2, x3, x4, x5, x6, rfl⟩ := M
  obtain ⟨i, j, kk, h1, h2⟩ := id B
  have cd : CDiv i n := ⟨hn, by omega⟩
  refine bag_at rfl h1 0 _ rfl ⟨_, _, rfl, rfl, _, rfl, ite2 (fun _ => ?_) fun _ => ?_⟩
  · refine bag_at rfl h1 0 _ rfl (.inl ⟨_, rfl, _, rfl, _, _, rfl, rfl, hn, ?_⟩)
    refine bag_at rfl h1 0 _ rfl (.inl ⟨_, rfl, _, rfl, _, _, rfl, rfl, cd, .ref b, rfl, b, _, 0, 0, rfl, rfl, h1, rfl, ?_⟩)
    exact ⟨_, rfl, k _ _ (Int.emod_nonneg _ (by omega)) (Int.emod_lt_of_pos _ hn) B.set⟩
  · refine bag_at rfl h1 1 _ rfl ⟨_, _, rfl, rfl, _, _, rfl, rfl, .inr ⟨by decide, by decide⟩, ?_⟩
    refine .inl ⟨_, rfl, _, _, rfl, rfl, (by show (0 : Int) < 1000000007; decide), ?_⟩
    have a1 := Int.emod_nonneg ((j + 1) * 39373) (show (1000000007 : Int) ≠ 0 by decide)
    have a2 := Int.emod_lt_of_pos ((j + 1) * 39373) (show (0 : Int) < 1000000007 by decide)
    refine ⟨_, rfl, _, rfl, _, _, rfl, rfl, .inl ⟨by omega, by omega⟩, .inl ⟨_, rfl, _, _, rfl, rfl, (by show (0 : Int) < 998244353; decide), ?_⟩⟩
    refine ⟨_, _, rfl, rfl, .inr ⟨by decide, by decide⟩, .inl ⟨_, rfl, _, _, rfl, rfl, (by show (0 : Int) < 998244353; decide), ?_⟩⟩
    refine ⟨_, rfl, _, _, rfl, rfl, ⟨by decide, by decide⟩, .inl ⟨_, rfl, _, rfl, _, _, rfl, rfl, hn, ?_⟩⟩
    exact k _ _ (Int.emod_nonneg _ (by omega)) (Int.emod_lt_of_pos _ hn) B
end
theorem pure_take {K : PySem.W.Frag} {mg : Str → Option Value} {vs : List V} {H : Hp} {Q : VK} {E : XK} (h : spD K mg 2 takeS vs H Q E) :
    takeT K { nx := fun _ H' => Q .non H', rt := Q } (L2.start ["bag", "many", "cell", "stirred", "value", "begin", "second"] vs) H := by
  obtain ⟨hl, ob, F, ds, Q0, E0, g, ⟨n, rfl, hn, hn2, hq⟩, kQ, _⟩ := h
  obtain ⟨ga, gt, gb, gtb⟩ := g
  cases ga with
  | bag eb g2 =>
    rename_i b vs'
    cases g2 with
    | dat h2 g3 =>
      cases g3
      cases h2
      obtain ⟨⟨c, i, j, k, cells, h1, h3, hlc⟩, nf⟩ := gb b eb
      have hc : H c = some (.lst (cells.map V.int)) ∧ F c := by
        cases h3 with
        | lst p q =>
          have := q.vints
          subst this
          exact ⟨p.2, p.1⟩
      have nbc : c ≠ b := fun z => nf (z ▸ hc.2)
      have B0 : BagIn H b c H := ⟨i, j, k, h1, fun _ _ e _ => e⟩
      have hb0 : H b ≠ none := by rw [h1]; simp
      have M0 : TakeMid H b c n (L2.start ["bag", "many", "cell", "stirred", "value", "begin", "second"] [.ref b, .int n]) H := ⟨B0, none, none, none, none, none, rfl⟩
      refine ⟨TakeMid H b c n, ?_, fun σ' H' M => ?_⟩
      · refine bag_at rfl h1 0 _ rfl ⟨rfl, _, rfl, ite2 (fun _ => ?_) fun _ => M0⟩
        exact take_in (K := K) (cells := cells) hc.1 nbc hb0 (by omega) (fun _ _ M => M) M0
      · refine take_out hn hn2 (fun z H2 h0 hlt B2 => ?_) M
        obtain ⟨i2, j2, k2, f1, f2⟩ := B2
        have l : Later H F H2 F := fun a z => by
          have na : a ≠ b := fun e => nf (e ▸ z)
          cases e : H a with
          | none => exact absurd e (gt a z)
          | some o => exact ⟨z, f2 a o e na⟩
        have tb2 : TBk K (fun _ => False) F H2 := by
          refine ⟨fun p hp => ?_, fun _ z => z.elim, fun x fx ps e => ?_⟩
          · obtain ⟨ps, t1, t2, t3⟩ := gtb.tab p hp
            refine ⟨ps, f2 _ _ t1 fun q => ?_, t2, fun pos cv hc => ?_⟩
            · rw [q, h1] at t1; cases t1
            · obtain ⟨c0, e1, e2⟩ := t3 pos cv hc
              exact ⟨c0, e1, f2 _ _ e2 fun q => by rw [q, h1] at e2; cases e2⟩
          · rw [(l x fx).2] at e
            exact gtb.f x fx ps e
        refine kQ _ (hq z h0 hlt) _ _ F ⟨fun a o e nb _ => f2 a o e fun q => nb (q ▸ eb), fun _ z => z, fun _ z => .inl z, fun a z => by rw [(l a z).2]; exact gt a z, fun x ex => ?_, tb2⟩ (.dat (.int z))
        have : b = x := Option.some.inj (eb.symm.trans ex)
        subst this
        exact ⟨⟨c, i2, j2, k2, cells, f1, h3.mono l, hlc⟩, nf⟩
/-! ### the bag's making, the law's def -/
/-- _law_bag(script) -/
def spBag (K : PySem.W.Frag) : Sp := fun vs H Q _ => ∃ (a : Addr) (ns : List Int), vs = [.ref a] ∧ SqL K H a (ns.map V.int) ∧ ns.length ≤ 63 ∧
  ∀ (H' : Hp) (b c : Addr) (i j k : Int) (cells : List Int), (∀ x o, H x = some o → H' x = some o) → cells.length ≤ 63 → H' b = some (.lst [.int i, .int j, .int k, .ref c]) → H' c = some (.lst (cells.map V.int)) → Q (.ref b) H'
abbrev rAbsI : List V → Hp → VK → Prop := fun xs H Q => ∃ i, xs = [.int i] ∧ Q (.int (if i < 0 then -i else i)) H
def bagT (K : PySem.W.Frag) : L2.TS := tRet (tLst (tCons (tC (.int 0)) (tCons (tC (.int 1234567891)) (tCons (tC (.int 0)) (tCons
  (tLc (iList K (tSl (rSlL K) (tVar 0) tNoPart (tPart (tC (.int 63))))) (gName 1) tYes (tCB rAbsI (tCons (tVar 1) tNil)) [1]) tNil)))))
theorem pure_bag {K : PySem.W.Frag} {vs : List V} {H : Hp} {Q : VK} {E : XK} (h : spBag K vs H Q E) : bagT K { nx := fun _ H' => Q .non H', rt := Q } (L2.start ["script", "cell"] vs) H := by
  obtain ⟨a, ns, rfl, hS, hl, k⟩ := h
  refine ⟨.ref a, rfl, 63, rfl, a, _, rfl, hS, fun p hp => ?_⟩
  obtain ⟨ms, hms, hml⟩ : ∃ ms : List Int, cutV (ns.map V.int) none (some 63) = ms.map V.int ∧ ms.length ≤ 63 := by
    refine ⟨(ns.drop (HT.sIx ns.length 0 none)).take (HT.sIx ns.length ns.length (some 63) - HT.sIx ns.length 0 none), ?_, ?_⟩
    · unfold cutV
      rw [List.length_map, List.map_take, List.map_drop]
    · rw [List.length_take, List.length_drop]
      omega
  refine ⟨p, rfl, ⟨_, .inl (.inl upd_same)⟩, fun Dl hD => ?_⟩
  have npD : p ≠ Dl := ne_of_none upd_same hD
  refine lc_list (K := K) (a := p) (xs := cutV (ns.map V.int) none (some 63)) (fun i H' => (∀ x o, H x = some o → H' x = some o) ∧ H' p = some (.lst (cutV (ns.map V.int) none (some 63))) ∧ ∃ acc : List Int, acc.length = i ∧ H' Dl = some (.lst (acc.map V.int))) ?_ (fun i H' _ q => .inl (.inl q.2.1)) ?_ ?_
  · exact ⟨fun x o e => by rw [upd_ne (ne_of_none (show (upd H p _) x = some o by rw [upd_ne (ne_of_none e hp)]; exact e) hD), upd_ne (ne_of_none e hp)]; exact e, by rw [upd_ne npD]; exact upd_same, [], rfl, upd_same⟩
  · rintro i x H' hx ⟨q0, q1, acc, qa, q2⟩
    have hi : i < 63 := by
      have := (List.getElem?_eq_some_iff.mp hx).1
      rw [hms, List.length_map] at this
      omega
    obtain ⟨z, rfl⟩ : ∃ z, x = V.int z := by
      rw [hms, List.getElem?_map] at hx
      cases e : ms[i]? with
      | none => rw [e] at hx; cases hx
      | some z => rw [e] at hx; exact ⟨z, (Option.some.inj hx).symm⟩
    refine ⟨rfl, ?_⟩
    simp only [tYes, if_true]
    exact ⟨.int z, rfl, z, rfl, acc.map V.int, q2, by rw [List.length_map, line_eq]; omega, fun x o e => by rw [upd_ne (ne_of_none (show (upd H p _) x = some o by rw [upd_ne (ne_of_none e hp)]; exact e) hD)]; exact q0 x o e, by rw [upd_ne npD]; exact q1, acc ++ [if z < 0 then -z else z], by rw [List.length_append, qa]; rfl, by rw [upd_same, List.map_append]; rfl⟩
  · rintro H' ⟨q0, _, acc, qa, q2⟩
    have hacc : acc.length ≤ 63 := by rw [qa, hms, List.length_map]; exact hml
    refine ⟨by show 4 ≤ sizeLine; rw [line_eq]; decide, fun b hb => ?_⟩
    exact k _ b Dl _ _ _ acc (fun x o e => by rw [upd_ne (ne_of_none (q0 x o e) hb)]; exact q0 x o e) hacc upd_same (by rw [upd_ne (ne_of_none q2 hb)]; exact q2)
def RunOk (P : Program) (w : World) (K : PySem.W.Frag) (mg : Str → Option Value) (fa : Addr) : Prop := ∀ (base : Heap) (s : Shared) (H : Hp) (a : Addr) (ns : List Int), K.In base → base.Ns mainGlobals mg → Tbs K mg base → LamX.Tabs (tabsOf K) H → Env0 P w K mg base callerA [] s H → SqL K H a (ns.map V.int) → ns.length ≤ 63 →
  codeAny (model P w) callerA (.call (.ref fa) ⟨[.ref a], []⟩) (CR (L2.CX P w) [] P w H s (fun v _ => v = .bl true) fun _ _ _ => False) s
theorem walk_run {l : PySem.W.OpenLaw} {q : Program} {loose : List Str} {XP : (Str → Option Value) → Heap → Prop} {YP : World → Heap → Prop} {d : DefRec} {K : Params → PySem.W.Frag} (hn : l.most = some 63) (hdf : d.params.defaults = []) (hY : ∀ (w : World) (h : Heap), YP w h → (K w.params).In h)
    (HT : ∀ (w : World) (h : Heap), YP w h → HeadTabs (K w.params) h)
    (F : ∀ (w : World) (mg : Str → Option Value) (fa : Addr) (h : Heap), (K w.params).In h → h.Ns mainGlobals mg → mg d.name = some (.ref fa) → RunOk l.prog w (K w.params) mg fa) :
    PySem.W.WalkO q loose XP YP l.row.toRowW d [] (fun f vs => PySem.call f vs) := by
  refine Att.attach_call hn hdf ?_
  intro w s₀ s₁ mg mb fa o pm cd doc a vs ns G Y ho hd hcd hmg hobj hints hlen hg
  have inK := hY w _ Y
  have R := F w mg fa _ inK G.T.g hmg
  exact law_head inK G.T.g G.T.b G.T.builtins G.T.nolimit hg G.T.bmain (HT w _ Y) hobj hints (by rw [line_eq]; omega) fun base H h1 h2 tb ta e0 hS => R base s₁ H a ns h1 h2 tb ta e0 hS hlen
/-- what is to be shown of a law over data: it hands back True, whatever is drawn -/
def LawVC (m p : Nat) (q : TS) : Prop := q { nx := fun _ => False, rt := fun dv => dv = .dat (.bool true) } (putO (List.replicate m none) p (some .bag))
theorem law_mk {P : Program} {w : World} {K : PySem.W.Frag} {mg : Str → Option Value} {st : Stmt} {rest : List Stmt} {f : Addr} {fd : FuncData} {N : List Str} {k : Nat} {q : TS} {p : Nat} (F : Fun K "law" "law" st f fd) (Sc : FnScope N ["script"] (defScope st)) (hr : Room (k + 1) callerA)
    (hb : ∀ (s : Shared) (u : Value), BindsTo s fd ⟨[u], []⟩ [("script", u)]) (hp : 0 < p ∧ p < N.length)
    (body : ∀ (base : Heap), Tbs K mg base → ∀ (X : Cx) (cdv : Value) (s : Shared) (H : Hp), CodeOf K f cdv → X = cxOf (L2.CX P w) P w K mg base N "law" (defScope st) f cdv callerA [] s H (fun _ _ _ => False) → (true = true → X.A.guards = some []) → Room k X.A → Takes X (fun _ _ _ _ => False) → PassesOwn (model X.prog X.w) X.A X.env X.xe →
      (∀ {u : L2.TS}, PSs X rest u → PSs X (defBody st) (tSeq (tAsg (tCall (spBag K) [] E0 (tCons (tVar 0) tNil)) (gName p)) u)) ∧ DSs X (fun _ _ _ _ => False) rest q)
    (vc : LawVC N.length p q) : RunOk P w K mg f := by
  intro base s H a ns inB hns tbs tab e0 hS hl
  refine fn_raw F Sc hr e0 (us := [.ref a]) (vs := [.ref a]) (ps := ["script"]) (hb s _) (.cons rfl .nil) rfl fun cdv hcd => ?_
  have tk : Takes (cxOf (L2.CX P w) P w K mg base N "law" (defScope st) f cdv callerA [] s H (fun _ _ _ => False)) (fun _ _ _ _ => False) := takes0
  obtain ⟨mk, ds⟩ := body base tbs _ cdv s H hcd rfl (fun _ => rfl) (hr.deeper _) tk (passes_of rfl)
  obtain ⟨t, pt, ent⟩ := ds.ex
  refine ⟨_, mk pt, ?_⟩
  have s0 : (L2.start N [V.ref a])[0]? = some (some (V.ref a)) := by
    unfold L2.start
    rfl
  refine ⟨.ref a, s0, a, ns, rfl, hS, hl, fun H' b c i j kk cells grown hc h1 h2 => ?_⟩
  have hlen : ((L2.start N [V.ref a]).set p (some (V.ref b))).length = N.length := by
    rw [List.length_set]
    unfold L2.start
    simp
    omega
  have R := rep_law (K := K) (σ := (L2.start N [V.ref a]).set p (some (V.ref b))) h1 h2 (tab.ext grown) hc hlen p hp.2 (List.getElem?_set_self (by rw [List.length_set] at hlen; omega))
  exact ent _ _ _ _ _ { nx := fun _ => False, rt := fun dv => dv = .dat (.bool true) } _ rfl R ⟨fun _ _ _ _ _ z => z.elim, fun v H2 F2 dv _ rr e => by
    subst e
    cases rr with
    | dat s => cases s; rfl, fun _ _ _ _ _ z => z.elim, fun _ _ _ _ _ z => z.elim, fun _ _ _ _ _ _ _ _ _ z => z.elim⟩ vc
end DL

/-! DL, part 12: chains as tests, calls without defaults, three targets. -/
namespace DL
open PySem PySem.Spec L2
section
variable {X : Cx} {W : WX} {e a b c : Expr} {es : List Expr} {f h : TX} {pos p : Pos} {st : Stmt} {x : Str}
theorem dt_of {t : L2.TE} (pt : PT X e (tTest t)) (ent : ∀ (C : Ctx) (r : Env) (σ : L2.St) (H : Hp) (F : AP) (Q : DV → Env → Prop) (Xk : XW) (QV : VK), C.K = X.K → Rep C r σ H F → Link X W Xk C σ → f Xk r Q →
    (∀ v H' F' dv r', Rep C r' σ H' F' → Res C r' σ H' F' v dv → Q dv r' → QV v H') → t σ H QV) : DT X W e (bX f) := by
  refine ⟨⟨_, pt, fun C r σ H F Q Xk QV hK R L hf k => ?_⟩⟩
  refine ent C r σ H F _ Xk _ hK R L hf fun v H' F' dv r' R' G' q' => ?_
  split at q'
  · rename_i bb
    cases G' with
    | dat s =>
      cases s
      exact ⟨_, rfl, k bb H' F' r' R' q'⟩
  · exact q'.elim
theorem dt_chain {op op' : CmpOp} {p p' : R2} {o o' : Op2} {oa ob oc : OX} (ho : OpR X (compareOp op) p) (ho' : OpR X (compareOp op') p') (hs : Sem2 X.K p o) (hs' : Sem2 X.K p' o') (ha : DO X W a oa) (hb : DO X W b ob) (hc : DO X W c oc)
    (hm : lastMarks [op, op'] [b, c] = false := by with_unfolding_all rfl) : DT X W (.Compare a [op, op'] [b, c] pos) (bX (xCh o o' oa ob oc)) := by
  obtain ⟨ta, pa, ea⟩ := ha.ex
  obtain ⟨tb, pb, eb⟩ := hb.ex
  obtain ⟨tc, pc, ec⟩ := hc.ex
  exact dt_of (pt_chain ho ho' pa pb pc hm) (chain_ent hs hs' ea eb ec)
/-- f(e, ..), no defaults -/
theorem de_call0 {g : Bool} {k : Nat} {f : Addr} {fd : FuncData} {ps : List Str} {S : Spec} {u : AX} (F : FnG g X.prog X.w X.K X.mg X.base k f fd ps S) (hgd : g = true → X.A.guards = some []) (hr : Room k X.A) (tk : Takes X W)
    (hm : X.mg x = some (.ref f)) (hk : PySem.W.keepIn X.K (.ref f) = true) (hb : Binds X.K fd ps []) (hn : es.length + 1 = ps.length) (ha : DA X W (e :: es) u) (hg : Gl X x := by rfl)
    (hdb : (x == ("__debug__" : Str)) = false := by decide) (he : starEach (e :: es) X.env = (false, eval e X.env) :: starEach es X.env := by rfl) (hpl : (backTo pos (starEach es X.env)).any (·.1) = false := by rfl) :
    DE X W (.Call (.Name x p) (e :: es) [] pos) (xCall S u) := by
  have h := de_call (dvs := []) (dds := []) F hgd hr tk hm hk hb .nil (fun _ _ _ => .nil) hn ha hg hdb he hpl (p := p)
  have e1 : (fun vs => S (vs ++ List.map DV.dat [])) = S := by funext vs; simp
  rw [e1] at h
  exact h
/-- a, b, c = e1, e2, e3: data (lists are frozen) -/
theorem sem_ip {K : PySem.W.Frag} {g : Int → Int → Int} : Sem2 K (ipI g) (dInt fun i j => .int (g i j)) := by
  intro C r σ H F x y dx dy Q QV hK R hx hy hq k
  unfold dInt at hq
  split at hq
  · cases hx.int; cases hy.int
    exact ⟨_, _, rfl, rfl, kq_dat k R (.int _) hq⟩
  · exact hq.elim
theorem hu1 {k : Nat} {A : Around} (hr : Room k A) : A.units + 1 < cLine := by have := hr.un; omega
theorem hu65 {k : Nat} {A : Around} (hr : Room k A) : A.units + 65 < cLine := by have := hr.un; omega
theorem hu100 {k : Nat} {A : Around} (hr : Room k A) : A.units + 100 < cLine := by have := hr.un; omega
end
def sPar3 (i j l : Nat) (t : AX) : TS := fun E r => t E.ex r fun vs r1 => match vs with
  | [u, v, w] => E.nx (put (put (put r1 i u) j v) l w)
  | _ => False
section
variable {X : Cx} {W : WX} {es : List Expr} {st : Stmt}
theorem ds_par3 {i j l : Nat} {u : AX} (ha : DA X W es u) (mk : ∀ {ta : TA}, PA X es ta → PS X st (tPar3 i j l ta)) : DS X W st (sPar3 i j l u) := by
  obtain ⟨t, pa, ent⟩ := ha.ex
  refine ⟨⟨_, mk pa, fun C r σ H F E D' hK R k hf => ?_⟩⟩
  refine ent C r σ H F _ E.ex _ hK R (k.ex σ) hf fun vs H1 F1 ds r1 _ R1 A1 q1 => ?_
  split at q1
  · have res : ∀ {v : V} {dv : DV} {vs : List V} {ds : List DV}, ArgR C.K H1 F1 C.b (v :: vs) (dv :: ds) → (∀ r σ, Res C r σ H1 F1 v dv) ∧ ArgR C.K H1 F1 C.b vs ds := fun {v dv vs ds} a => by
      cases a with
      | dat h hs => exact ⟨fun _ _ => .dat h, hs⟩
      | bag h hs => exact ⟨fun _ _ => .bag h, hs⟩
    obtain ⟨v1, v2, v3, rfl⟩ : ∃ a b c, vs = [a, b, c] := by
      have hl := A1.length
      match vs, hl with
      | [a, b, c], _ => exact ⟨a, b, c, rfl⟩
    obtain ⟨g1, A2⟩ := res A1
    obtain ⟨g2, A3⟩ := res A2
    obtain ⟨g3, _⟩ := res A3
    exact ⟨_, _, _, rfl, k.nx _ H1 F1 _ (((R1.store (g1 _ _)).store (g2 _ _)).store (g3 _ _)) q1⟩
  · exact q1.elim
end
end DL

/-! DL, part 13: enumerate over tuples and texts too; zip. -/
namespace DL
open PySem PySem.Spec PyProof.Rows L2
/-! ### enumerate(v) -/
set_option maxHeartbeats 1000000 in
theorem enum_new1 {v : Value} {ob : Obj} {H : Heap → Prop} (B : Begins v ob H) :
    Meets (Builtin.«enumerate.__new__» ⟨[.type "enumerate", v], []⟩) (fun _ R s => H s.heap ∧
      R (.ok (.ret (.ref (s.heap.push ob).objs.size))) { s with heap := (s.heap.push ob).push { cls := .type "enumerate", data := .fields #[.none, .bool false, .ref s.heap.objs.size, rawInt 0, .none, .none] } }) :=
  .of_wp fun pr wo AA RR st hh => by
    obtain ⟨h0, g0, d0, t0, o0⟩ := st
    obtain ⟨a1, a2⟩ := hh
    have f1 := sub_enumerate
    have go : ∀ {A2 : Around} {E2 : Value → Shared → Prop} {Q2 : Value → Shared → Prop}, Q2 (.ref h0.objs.size) ⟨h0.push ob, g0, d0, t0, o0⟩ → wpAny (model pr wo) A2 (pyIter v) Q2 E2 ⟨h0, g0, d0, t0, o0⟩ := fun q => B.iter pr wo _ _ ⟨h0, g0, d0, t0, o0⟩ _ a1 q
    wp_walk using go
    refine wpAny_stack_any fun sk => wpAny_pure ?_
    split
    · rename_i cc _ _ _ _ _
      cases (cc == Value.type "enumerate")
      all_goals (wp_walk using go; exact ⟨_, rfl, a2⟩)
    · wp_walk using go; exact ⟨_, rfl, a2⟩
theorem enum_call1 {prog : Program} {w : World} {A : Around} {E : Value → Shared → Prop} {s : Shared} {v : Value} {ob : Obj} {H : Heap → Prop} {Q : Value → Shared → Prop} (B : Begins v ob H) (h1 : H s.heap)
    (h : ∀ h', IsEnum h' (s.heap.objs.size + 1) s.heap.objs.size 0 .none → h'.get? s.heap.objs.size = some ob → (∀ b o, s.heap.get? b = some o → h'.get? b = some o) → Q (.ref (s.heap.objs.size + 1)) { s with heap := h' }) : wpAny (model prog w) A (call (.type "enumerate") [v]) Q E s := by
  refine callType_new F.called_enumerate (by decide) (F.typeCall_enumerate_1 _) (F.newCall_enumerate_1 _) (fun x => F.args_object_init_2 x _) F.entry_enumerate_new (enum_new1 B) ⟨h1, ?_⟩
  have z : (s.heap.push ob).objs.size = s.heap.objs.size + 1 := Heap.size_push ..
  show _ ∧ _
  rw [z]
  have en : IsEnum ((s.heap.push ob).push { cls := .type "enumerate", data := .fields #[.none, .bool false, .ref s.heap.objs.size, rawInt 0, .none, .none] }) (s.heap.objs.size + 1) s.heap.objs.size 0 .none := by
    have q := Heap.get?_push_size (s.heap.push ob) (o := { cls := .type "enumerate", data := .fields #[.none, .bool false, .ref s.heap.objs.size, rawInt 0, .none, .none] }) rfl
    rw [z] at q; exact q
  exact ⟨⟨_, en, rfl⟩, h _ en (Heap.get?_push_of_some _ (Heap.get?_push_size _ B.free)) fun b o x => Heap.get?_push_of_some _ (Heap.get?_push_of_some _ x)⟩
/-- the tuple at a, each item in a new pair with its place -/
def IteT (K : PySem.W.Frag) (a : Addr) : It :=
  ⟨fun i H => ∃ (xs : List V) (x : V), SqT K H a xs ∧ xs[i]? = some x, fun i H v H' => ∃ T x, v = .ref T ∧ H T = none ∧ H' = upd H T (.tup [.int (i : Nat), x]) ∧ ∀ xs, SqT K H a xs → xs[i]? = some x, fun i H => ∃ xs : List V, SqT K H a xs ∧ xs.length ≤ i⟩
theorem two_apart {b e it : Addr} (h : b ∈ [e, it]) : b = e ∨ b = it := by simpa using h
theorem turn_enumT {P : Program} {w : World} {K : PySem.W.Frag} {els : List Expr} {kk : Nat} {tpos : Pos} (a en it : Addr) :
    Turn P w K (.Tuple els kk tpos) (IteT K a) [en, it] en (fun i h => (∃ old, IsEnum h en it ((i : Nat) : Int) old) ∧ h.IsTupleIter it a i ∧ en ≠ it ∧ en ≠ a ∧ a ≠ it) where
  mem := by simp
  self := fun _ _ _ _ _ st q => let ⟨⟨_, g⟩, _⟩ := st; wpAny_pyIter_enum g q
  keep := fun i h1 h2 st q => let ⟨⟨old, g⟩, gi, rest⟩ := st; ⟨⟨old, q en (by simp) _ g⟩, gi.at (fun o z => q it (by simp) o z), rest⟩
  obj := fun i h st b hb => by
    obtain ⟨⟨old, g⟩, ⟨ob, e1, _, e3⟩, _⟩ := st
    rcases two_apart hb with rfl | rfl
    · exact ⟨_, g, fun _ z => nomatch z⟩
    · exact ⟨ob, e1, fun _ z => by rw [e3] at z; cases z⟩
  item := by
    intro X eP ew eK hcalm i pins s σ H E I hfp st hgo
    subst eP ew eK
    obtain ⟨⟨old, g⟩, gi, n1, n2, n3⟩ := st
    obtain ⟨xs, x, hq, hx⟩ := hgo
    obtain ⟨its, rv, pl, _⟩ := I.tuple hq
    obtain ⟨u, hu, ru⟩ := rv.get hx
    have lt1 : en < s.heap.objs.size := Heap.lt_size g
    have lt2 : it < s.heap.objs.size := by obtain ⟨_, z, _⟩ := gi; exact Heap.lt_size z
    have hh : (X.A.in1).handled = none := I.ok.hd hcalm
    have hi : i < its.toArray.size := by
      have := (List.getElem?_eq_some_iff.mp hu).1
      simpa using this
    refine wpAny_pyNext_enum_itemC (Draws.tuple hh it a n3 its.toArray) g ⟨gi, pl⟩ hi n1 (by simp [n1, n2]) fun u2 h' tk hp ho ht hT hsz hk => ?_
    obtain rfl : u = u2 := by
      have q : its.toArray[i]? = some u := by simpa using hu
      rw [q] at hp
      exact Option.some.inj hp
    refine ⟨_, rfl, wpAny_letOwnedTupleGo_enum (s := { s with heap := h', toks := tk + 1 }) ho fun h2 he2 sb => ?_⟩
    have hT2 : h2.get? s.heap.objs.size = some { cls := .type "tuple", data := .seq #[.int i tk, u] } := (sb.2 _ (Nat.ne_of_gt lt1)).trans hT
    have new : ObjOk X.prog X.w (upd H s.heap.objs.size (.tup [.int (i : Nat), x])) h2 s.heap.objs.size (.tup [.int (i : Nat), x]) := by
      refine ⟨by show 2 ≤ sizeLine; decide, [.int i tk, u], .cons ⟨_, rfl⟩ (.cons ru .nil), ⟨_, hT2, rfl, _, rfl⟩⟩
    have I1 : Inv X pins σ (upd H s.heap.objs.size (.tup [.int (i : Nat), x])) { s with heap := h2, toks := tk + 1 } := by
      refine I.turnedNew (ch := [en, it]) (fun b ob hb q => ?_) hfp (Nat.le_refl _) new
      have nb1 : b ≠ en := fun z => hb (by simp [z])
      have nb2 : b ≠ it := fun z => hb (by simp [z])
      exact (sb.2 b nb1).trans (hk b ob nb1 nb2 q)
    refine ⟨.ref s.heap.objs.size, _, I1, rfl, ⟨_, x, rfl, I.hok.fresh (Nat.le_refl _), rfl, fun ys hy => ?_⟩, ⟨⟨u, ?_⟩, ht.1.at (fun o q => (sb.2 it (Ne.symm n1)).trans q), n1, n2, n3⟩, fun b hb => ?_⟩
    · rw [I.tuple_inj hy hq]; exact hx
    · have e1 : ((i + 1 : Nat) : Int) = (i : Int) + 1 := by omega
      rw [e1]; exact he2
    · have hb2 : b < s.heap.objs.size := by
        rcases two_apart hb with rfl | rfl
        · exact lt1
        · exact lt2
      rw [upd_ne (Nat.ne_of_lt hb2)]
      exact (hfp b hb).1
  done := by
    intro X eP ew eK hcalm i pins s σ H E I hfp st hgo
    subst eP ew eK
    obtain ⟨⟨old, g⟩, gi, n1, n2, n3⟩ := st
    obtain ⟨xs, hq, hx⟩ := hgo
    obtain ⟨its, rv, pl, _⟩ := I.tuple hq
    have hl := rv.length
    have hh : (X.A.in1).handled = none := I.ok.hd hcalm
    obtain ⟨f0, f1, f2, f3, f4, f5⟩ := hfp it (by simp)
    have pre : ∃ m, m = i ∧ its.toArray.size ≤ m := ⟨i, rfl, by simp; omega⟩
    refine wpAny_pyNext_enum_endD (n := i) (P := fun _ _ => True) (St := fun k h => k = i ∧ h.IsTupleIter it a i ∧ h.IsTuple a its.toArray) (fp := [it, a]) ⟨fun _ _ z => let ⟨o, q, _⟩ := z.2.1; ⟨o, q⟩, fun k h1 h2 z q => ⟨z.1, z.2.1.at fun o y => q it (by simp) o y, z.2.2.at fun o y => q a (by simp) o y⟩, fun k s2 _ _ lt z _ => absurd z.1 (by omega), fun s2 Q2 E2 z q => ?_⟩ g ⟨rfl, gi, pl⟩ fun h' eb => ⟨rfl, I.turned (t' := s.toks) (fun b o hb q => eb b o hb q) f0 f1 f3 f4 f5⟩
    exact PySem.wpAny_nextOf_tuple_end hh z.2.1 z.2.2 (by simp; omega) q
def iEnumT (K : PySem.W.Frag) (ta : TA) : TI := fun σ H R => ta σ H fun vs H1 => ∃ a xs, vs = [.ref a] ∧ ((SqL K H1 a xs ∧ R (Ite K a) H1) ∨ (SqT K H1 a xs ∧ R (IteT K a) H1))
theorem pi_enumT {X : Cx} {e : Expr} {ta : TA} {p pos tpos : Pos} {els : List Expr} {kk : Nat} (hg : Gl X "enumerate") (hm : X.mg "enumerate" = none) (ha : PA X [e] ta) (hs : starEach [e] X.env = [(false, eval e X.env)] := by rfl) :
    PI X (.Tuple els kk tpos) (.Call (.Name "enumerate" p) [e] [] pos) (iEnumT X.K ta) := by
  constructor
  intro pins s σ H R I h
  refine Call_ (ld_blt I hg hm boot_enumerate (PyProof.Rows.callWith_type1 (thn (ha.run pos pins s σ H _ I h) ?_) hs rfl))
  rintro us s1 ⟨vs, H1, I1, r1, a, xs, rfl, q⟩
  cases r1 with
  | cons r rr =>
    cases rr
    cases r
    have fresh : ∀ b, b ∈ [s1.heap.objs.size + 1, s1.heap.objs.size] → FpOk X pins H1 b := fun b hb => by
      have le : s1.heap.objs.size ≤ b := by rcases two_apart hb with rfl | rfl <;> omega
      exact I1.fpOk le (I1.hok.fresh le)
    rcases q with ⟨hq, q⟩ | ⟨hq, q⟩
    · obtain ⟨its, rv, pl, _⟩ := I1.list hq
      refine enum_call1 (begins_list a its.toArray) pl.isList fun h' he hit hk => wpAny_pyIter_enum he ?_
      have I2 : Inv X pins σ H1 { s1 with heap := h' } := I1.kept (t' := s1.toks) hk
      exact ⟨_, _, _, _, H1, rfl, I2, turn_enum a (s1.heap.objs.size + 1) s1.heap.objs.size, ⟨⟨.none, he⟩, ⟨_, hit, rfl, rfl⟩, Nat.succ_ne_self _⟩, fresh, q⟩
    · obtain ⟨its, rv, pl, _⟩ := I1.tuple hq
      have la : a < s1.heap.objs.size := by obtain ⟨_, z, _⟩ := id pl; exact Heap.lt_size z
      refine enum_call1 (begins_tuple a its.toArray) pl fun h' he hit hk => wpAny_pyIter_enum he ?_
      have I2 : Inv X pins σ H1 { s1 with heap := h' } := I1.kept (t' := s1.toks) hk
      exact ⟨_, _, _, _, H1, rfl, I2, turn_enumT a (s1.heap.objs.size + 1) s1.heap.objs.size, ⟨⟨.none, he⟩, ⟨_, hit, rfl, rfl⟩, Nat.succ_ne_self _, Nat.ne_of_gt (Nat.lt_succ_of_lt la), Nat.ne_of_lt la⟩, fresh, q⟩
end DL

/-! DL, part 14: zip; tuple(..) with its object known, its index; list.index; sorted texts; dicts. -/
namespace DL
open PySem PySem.Spec PyProof.Rows L2
/-! ### tuple(list), the object known -/
theorem call_tupF {X : Cx} : CallR X (.type "tuple") (fun vs H Q => ∃ p ys, vs = [.ref p] ∧ SqL X.K H p ys ∧ ∀ (l : Addr) (o : Obj), H l = none → o.dict = none → o.cls = .type "tuple" → Q (.ref l) (upd H l (.frz o (.tup ys)))) := by
  intro pins s σ H vs us Q I r h
  obtain ⟨p, ys, rfl, hq, q⟩ := h
  cases Vals.ref1 r
  obtain ⟨its, rv, pl, hz⟩ := I.list hq
  have hlen := rv.length
  refine call_tuple_list pl.isList (fun h' kp => ?_) (by simp only [List.size_toArray] <;> omega)
  have I1 : Inv X pins σ H { s with heap := h' } := I.kept (t' := s.toks) kp
  let o : Obj := { cls := .type "tuple", data := .seq its.toArray }
  have e1 : (h'.push o).get? h'.objs.size = some o := Heap.get?_push_size _ rfl
  have I2 : Inv X pins σ (upd H h'.objs.size (.frz o (.tup ys))) { s with heap := h'.push o } :=
    I1.laid (t' := s.toks) (fun b u z => Heap.get?_push_of_some _ z) (Nat.le_refl _) (show ObjOk X.prog X.w _ _ _ (.frz o (.tup ys)) from ⟨e1, hz, its, rv, IsTup.new _ _⟩)
  exact ⟨.ref h'.objs.size, _, I2, rfl, q _ o (I1.hok.fresh (Nat.le_refl _)) rfl rfl⟩
def nTupN : OpN := fun ds Q => match ds with
  | [.list xs] => Q (.nd xs)
  | _ => False
theorem sem_tupN {K : PySem.W.Frag} : SemN K (fun vs H Q => ∃ p ys, vs = [.ref p] ∧ SqL K H p ys ∧ ∀ (l : Addr) (o : Obj), H l = none → o.dict = none → o.cls = .type "tuple" → Q (.ref l) (upd H l (.frz o (.tup ys)))) nTupN := by
  intro C r σ H F xs ds Q QV hK R hx hq k
  subst hK
  unfold nTupN at hq
  split at hq
  · obtain ⟨v, rfl, hv⟩ := hx.one
    obtain ⟨a, ys, rfl, h1, h2⟩ := hv.lst
    refine ⟨_, _, rfl, .inl (.inl h1), fun p o hp od oc => ?_⟩
    refine k _ _ _ _ (R.newF hp) (later_new R hp) (.nd (.tup (.inl ⟨.inr rfl, .inr ⟨o, upd_same⟩⟩) (h2.mono (later_new R hp))) ⟨p, o, _, rfl, .inr rfl, od, oc, upd_same⟩) hq
  · exact hq.elim
/-! ### t.index(x) of such a tuple -/
def tTIdx (K : PySem.W.Frag) (i : Nat) (te : L2.TE) : L2.TE := fun σ H Q => ∃ (p : Addr) (o : Obj) (u : HO), σ[i]? = some (some (.ref p)) ∧ H p = some (.frz o u) ∧ o.dict = none ∧ o.cls = .type "tuple" ∧
  te σ H fun y H2 => ∃ (ys : List Str) (z : Str) (j : Nat), y = .str z ∧ SqT K H2 p (ys.map V.str) ∧ ys[j]? = some z ∧ (∀ m, m < j → ys[m]? ≠ some z) ∧ Q (.int (j : Nat)) H2
theorem pe_tidx {X : Cx} {ob e : Expr} {i : Nat} {te : L2.TE} {apos cpos : Pos} (po : PE X ob (tVar i)) (he : PE X e te) (hbase : attributeBase ob "index" X.env (eval ob X.env) = eval ob X.env := by rfl)
    (hfew : ((backTo cpos (starEach [e] X.env)).all (fun x => !x.1) && (backToKw cpos (keywordEach [] X.env)).all (fun x => x.1.isSome) && decide ([e].length + ([] : List Keyword).length + (if ([] : List Keyword).isEmpty then 0 else 1) < 30)) = true := by rfl)
    (hline : (apos.endLine == cpos.line) = true := by rfl) (hs : starEach [e] X.env = (false, eval e X.env) :: starEach [] X.env := by rfl) (hplain : (backTo cpos (starEach [] X.env)).any (·.1) = false := by rfl) :
    PE X (.Call (.Attribute ob "index" apos) [e] [] cpos) (tTIdx X.K i te) := by
  constructor
  intro pins s σ H Q I h
  obtain ⟨p, o, u, e1, e2, od, oc, h⟩ := h
  refine wpAny_Call_method_late hbase hfew hline rfl (thn (po.run pins s σ H (fun x H1 => x = .ref p ∧ H1 = H) I ⟨_, e1, rfl, rfl⟩) ?_)
  rintro v s1 ⟨x, H1, I1, r1, rfl, rfl⟩
  obtain rfl : v = Value.ref p := r1
  have ho : s1.heap.get? p = some o := (I1.hok p _ e2).1
  refine ⟨"tuple", "tuple.index", PySem.F.plainAttrs_tuple, PySem.F.slot_tuple_index, PySem.F.type_tuple_index, ⟨o, ho, oc⟩, fun a z => ?_, ?_⟩
  · cases z; exact ⟨o, ho, od⟩
  have hA := (pa_cons he pa_nil hs).run cpos pins s1 σ H1 (fun vs H2 => match vs with
    | [y] => ∃ (ys : List Str) (z : Str) (j : Nat), y = .str z ∧ SqT X.K H2 p (ys.map V.str) ∧ ys[j]? = some z ∧ (∀ m, m < j → ys[m]? ≠ some z) ∧ Q (.int (j : Nat)) H2
    | _ => False) I1 h
  rw [hs] at hA ⊢
  refine Calls.callWith_builtin (by show (false || (backTo cpos (starEach [] X.env)).any (·.1)) = false; rw [hplain]; rfl) (Calls.evalArgs_plain ?_)
  refine thn hA ?_
  rintro us s2 ⟨vs, H2, I2, r2, q⟩
  split at q
  · obtain ⟨ys, z, j, rfl, a1, a2, a3, q⟩ := q
    exact mt_tup_index pins s2 σ H2 (.ref p) [.str z] _ us Q I2 rfl r2 ⟨p, ys, z, j, rfl, rfl, a1, a2, a3, q⟩
  · exact q.elim
def strsOf : List D → Option (List Str)
  | [] => some []
  | .str i :: r => (strsOf r).map (i :: ·)
  | _ => none
theorem strsOf_map : ∀ {ds : List D} {ss : List Str}, strsOf ds = some ss → ds = ss.map .str
  | [], ss, e => by cases e; rfl
  | .str x :: r, ss, e => by
    have e' : (strsOf r).map (x :: ·) = some ss := e
    cases q : strsOf r with
    | none => rw [q] at e'; cases e'
    | some t =>
      rw [q] at e'
      have := Option.some.inj e'
      subst this
      rw [strsOf_map q]; rfl
  | .none :: _, _, e => by cases e
  | .bool _ :: _, _, e => by cases e
  | .int _ :: _, _, e => by cases e
  | .list _ :: _, _, e => by cases e
  | .tuple _ :: _, _, e => by cases e
  | .dict _ :: _, _, e => by cases e
theorem strsOf_of : ∀ (ss : List Str), strsOf (ss.map .str) = some ss
  | [] => rfl
  | x :: r => by
    show (strsOf (r.map .str)).map (x :: ·) = _
    rw [strsOf_of r]; rfl
def xTIdx (i : Nat) (b : OX) : TX := fun X r Q => (∃ ds, sl r i = some (.nd ds)) ∧ b X r fun g r1 => match g r1, sl r1 i with
  | some (.str z), some (.nd ds) => (match strsOf ds with
    | some zs => ∃ j, zs[j]? = some z ∧ (∀ m, m < j → zs[m]? ≠ some z) ∧ Q (.dat (.int (j : Nat))) r1
    | none => False)
  | _, _ => False
section
variable {X : Cx} {W : WX} {e a b ob : Expr} {es : List Expr} {pos : Pos}
theorem de_tidx {i : Nat} {apos cpos : Pos} {o : OX} (po : PE X ob (tVar i)) (hb : DO X W b o) (hbase : attributeBase ob "index" X.env (eval ob X.env) = eval ob X.env := by rfl)
    (hfew : ((backTo cpos (starEach [b] X.env)).all (fun x => !x.1) && (backToKw cpos (keywordEach [] X.env)).all (fun x => x.1.isSome) && decide ([b].length + ([] : List Keyword).length + (if ([] : List Keyword).isEmpty then 0 else 1) < 30)) = true := by rfl)
    (hline : (apos.endLine == cpos.line) = true := by rfl) (hs : starEach [b] X.env = (false, eval b X.env) :: starEach [] X.env := by rfl) (hplain : (backTo cpos (starEach [] X.env)).any (·.1) = false := by rfl) :
    DE X W (.Call (.Attribute ob "index" apos) [b] [] cpos) (xTIdx i o) := by
  obtain ⟨t, pe, ent⟩ := hb.ex
  refine ⟨⟨_, pe_tidx po pe hbase hfew hline hs hplain, fun C r σ H F Q Xk QV hK R L hf k => ?_⟩⟩
  obtain ⟨⟨ds0, e0⟩, hf⟩ := hf
  obtain ⟨v0, s0, sr0⟩ := R.slot i _ e0
  cases sr0 with
  | nd hd hn =>
    obtain ⟨p, ob0, u, rfl, fp, od, oc, hp⟩ := hn
    refine ⟨p, ob0, u, s0, hp, od, oc, ?_⟩
    refine ent C r σ H F _ Xk _ hK R L hf fun v H1 F1 g r1 R1 G1 q1 => ?_
    split at q1
    · rename_i z ds eg es
      split at q1
      · rename_i zs ez
        obtain ⟨j, h1, h2, h3⟩ := q1
        have hv := G1 _ _ _ _ R1 Later.refl eg
        obtain ⟨v1, s1, sr1⟩ := R1.slot i _ es
        rw [s0] at s1; cases s1
        cases sr1 with
        | nd hd1 _ =>
          have e2 := strsOf_map ez
          subst e2
          cases hd1 with
          | tup g1 g2 =>
            have := g2.vstrs
            subst this
            cases hv.str
            exact ⟨zs, z, j, rfl, by rw [← hK]; exact g1.elim (fun q => .inl q.2) fun q => q.sq _, h1, h2, k _ H1 F1 _ r1 R1 (.dat (.int _)) h3⟩
      · exact q1.elim
    · exact q1.elim
/-! ### xs.index(y) of a list -/
def xLIdx (a b : OX) : TX := fun X r Q => a X r fun g r1 => (∃ ds, g r1 = some (.list ds)) ∧ b X r1 fun h r2 => match g r2, h r2 with
  | some (.list xs), some y => okD (.list xs) ∧ okD y ∧ ∃ (j : Nat) (z : D), xs[j]? = some z ∧ PyData.eqv z y = true ∧ (∀ (m : Nat) (z' : D), m < j → xs[m]? = some z' → PyData.eqv z' y = false) ∧ Q (.dat (.int (j : Nat))) r2
  | _, _ => False
theorem de_lidx {oa o : OX} (ha : DO X W a oa) (hb : DO X W b o) (hs : starEach [b] X.env = (false, eval b X.env) :: starEach [] X.env := by rfl) (mk : ∀ {to : L2.TE} {t : TA}, PE X a to → PA X [b] t → PE X e (tBM X.K "list" (rIndexD X.K) to t)) : DE X W e (xLIdx oa o) := by
  obtain ⟨ta, pa, enta⟩ := ha.ex
  obtain ⟨tb, pb, entb⟩ := hb.ex
  refine ⟨⟨_, mk pa (pa_cons pb pa_nil hs), fun C r σ H F Q Xk QV hK R L hf k => ?_⟩⟩
  refine enta C r σ H F _ Xk _ hK R L hf fun v H1 F1 g r1 R1 G1 q1 => ?_
  obtain ⟨⟨ds0, e0⟩, q1⟩ := q1
  obtain ⟨p, xs, rfl, h1, h2⟩ := (G1 _ _ _ _ R1 Later.refl e0).lst
  refine ⟨.inl ⟨rfl, _, .inl (.inl h1)⟩, ?_⟩
  refine entb (C.up H1 F1 noT) r1 σ H1 F1 _ Xk _ hK R1.up0 (L.up R1) q1 fun w H2 F2 g2 r2 R2' G2 q2 => ?_
  have R2 := R1.down R2'
  split at q2
  · rename_i ys y ex ey
    obtain ⟨k1, k2, j, z, k3, k4, k5, q⟩ := q2
    have hx := G1 _ _ _ _ R2 R2'.later ex
    have hy := G2 _ _ _ _ R2' Later.refl ey
    exact ⟨p, w, y, ys, j, z, rfl, rfl, hK ▸ hx.dp, hK ▸ hy.dp, k1, k2, k3, k4, k5, k _ H2 F2 _ r2 R2 (.dat (.int _)) q⟩
  · exact q2.elim
/-! ### sorted(xs) of fewer than 64 texts -/
def nSortS : OpN := fun ds Q => match ds with
  | [.list xs] => (match strsOf xs with
    | some zs => zs.length < 64 ∧ ∀ ys : List Str, ys.Perm zs → sortedS ys = true → Q (.own (ys.map .str))
    | none => False)
  | _ => False
theorem dpfs_strs {K : PySem.W.Frag} {H : Hp} {F : AP} : ∀ (ss : List Str), DpFs K H F (ss.map V.str) (ss.map .str)
  | [] => .nil
  | x :: r => .cons (.str x) (dpfs_strs r)
theorem sem_sortS {K : PySem.W.Frag} : SemN K (rSortedS K) nSortS := by
  intro C r σ H F xs ds Q QV hK R hx hq k
  subst hK
  unfold nSortS at hq
  split at hq
  · split at hq
    · rename_i zs ez
      obtain ⟨v, rfl, hv⟩ := hx.one
      obtain ⟨a, vs, rfl, h1, h2⟩ := hv.lst
      have e2 := strsOf_map ez
      subst e2
      have := h2.vstrs
      subst this
      exact ⟨a, zs, rfl, .inl (.inl h1), hq.1, fun ys p hp hs hn => kq_own k R hn (dpfs_strs ys) (hq.2 ys hp hs)⟩
    · exact hq.elim
  · exact hq.elim
/-! ### zip -/
def zipD (xs ys : List D) : List D := (xs.zip ys).map fun p => .tuple [p.1, p.2]
theorem zipD_get {xs ys : List D} {i : Nat} {x y : D} (h1 : xs[i]? = some x) (h2 : ys[i]? = some y) : (zipD xs ys)[i]? = some (.tuple [x, y]) := by
  unfold zipD
  rw [List.getElem?_map, (List.getElem?_zip_eq_some (z := (x, y))).mpr ⟨h1, h2⟩]
  rfl
theorem walkD_zipT {K : PySem.W.Frag} {H : Hp} {F : AP} {a b : Addr} {xs ys : List V} {ds es : List D} (ha : (F a ∧ Rd H a (.tup xs)) ∨ KT K a xs) (hb : (F b ∧ Rd H b (.tup ys)) ∨ KT K b ys) (hx : DpFs K H F xs ds) (hy : DpFs K H F ys es) : WalkD K (RZ.ItzT K a b) (zipD ds es) H F := by
  have sq : ∀ {c : Addr} {zs : List V} {H' : Hp} {F' : AP}, ((F c ∧ Rd H c (.tup zs)) ∨ KT K c zs) → Later H F H' F' → SqT K H' c zs := fun {c zs H' F'} h l => by
    rcases h with h | h
    · exact .inl (rd_later (l c h.1).2 h.2)
    · exact h.sq _
  have len : (zipD ds es).length = min xs.length ys.length := by
    unfold zipD
    rw [List.length_map, List.length_zip, hx.length, hy.length]
  refine ⟨fun i H' F' hi l => ?_, fun H' F' l => ?_, fun i H' F' x H2 hi trk l y => ?_⟩
  · rw [len] at hi
    exact ⟨xs, ys, xs[i], ys[i], sq ha l, sq hb l, List.getElem?_eq_getElem (by omega), List.getElem?_eq_getElem (by omega)⟩
  · refine ⟨xs, ys, sq ha l, sq hb l, ?_⟩
    rw [len]; omega
  · rw [len] at hi
    obtain ⟨T, u, w, rfl, hT, rfl, g1, g2⟩ := y
    obtain ⟨d1, e1, q1⟩ := hx.getV (g1 xs (sq ha l))
    obtain ⟨d2, e2, q2⟩ := hy.getV (g2 ys (sq hb l))
    have l2 : Later H' F' (upd H' T (.tup [u, w])) (fun c => F' c ∨ c = T) := fun c z => ⟨.inl z, upd_ne fun q => trk c z (q ▸ hT)⟩
    refine ⟨fun c => F' c ∨ c = T, _, zipD_get e1 e2, .tup (.inl ⟨.inr rfl, .inl upd_same⟩) (.cons ((q1.mono l).mono l2) (.cons ((q2.mono l).mono l2) .nil)), l2, fun c o q => ?_, fun c z => ?_⟩
    · rw [upd_ne (ne_of_none q hT)]; exact q
    · rcases z with z | rfl
      · exact .inl z
      · exact .inr ⟨hT, by rw [upd_same]; simp, nt_tup upd_same⟩
theorem walkD_zipL {K : PySem.W.Frag} {H : Hp} {F : AP} {a b : Addr} {xs ys : List V} {ds es : List D} (ha : F a ∧ H a = some (.lst xs)) (hb : F b ∧ H b = some (.lst ys)) (hx : DpFs K H F xs ds) (hy : DpFs K H F ys es) : WalkD K (L2.Itz K a b) (zipD ds es) H F := by
  have sq : ∀ {c : Addr} {zs : List V} {H' : Hp} {F' : AP}, (F c ∧ H c = some (.lst zs)) → Later H F H' F' → SqL K H' c zs := fun {c zs H' F'} h l => .inl (.inl ((l c h.1).2.trans h.2))
  have len : (zipD ds es).length = min xs.length ys.length := by
    unfold zipD
    rw [List.length_map, List.length_zip, hx.length, hy.length]
  refine ⟨fun i H' F' hi l => ?_, fun H' F' l => ?_, fun i H' F' x H2 hi trk l y => ?_⟩
  · rw [len] at hi
    exact ⟨xs, ys, xs[i], ys[i], sq ha l, sq hb l, List.getElem?_eq_getElem (by omega), List.getElem?_eq_getElem (by omega)⟩
  · refine ⟨xs, ys, sq ha l, sq hb l, ?_⟩
    rw [len]; omega
  · rw [len] at hi
    obtain ⟨T, u, w, rfl, hT, rfl, g1, g2⟩ := y
    obtain ⟨d1, e1, q1⟩ := hx.getV (g1 xs (sq ha l))
    obtain ⟨d2, e2, q2⟩ := hy.getV (g2 ys (sq hb l))
    have l2 : Later H' F' (upd H' T (.tup [u, w])) (fun c => F' c ∨ c = T) := fun c z => ⟨.inl z, upd_ne fun q => trk c z (q ▸ hT)⟩
    refine ⟨fun c => F' c ∨ c = T, _, zipD_get e1 e2, .tup (.inl ⟨.inr rfl, .inl upd_same⟩) (.cons ((q1.mono l).mono l2) (.cons ((q2.mono l).mono l2) .nil)), l2, fun c o q => ?_, fun c z => ?_⟩
    · rw [upd_ne (ne_of_none q hT)]; exact q
    · rcases z with z | rfl
      · exact .inl z
      · exact .inr ⟨hT, by rw [upd_same]; simp, nt_tup upd_same⟩
def wZip (t : AX) : SX := fun X r Q => t X r fun vs r1 => match allD vs with
  | some [.tuple xs, .tuple ys] => Q (zipD xs ys) r1
  | some [.list xs, .list ys] => Q (zipD xs ys) r1
  | _ => False
theorem src_zip {tg : Expr} {u : AX} (ha : DA X W es u) (mk : ∀ {ta : TA}, PA X es ta → PI X tg e (RZ.iZipA X.K ta)) : DSrc X W tg e (wZip u) := by
  obtain ⟨t, pa, ent⟩ := ha.ex
  refine ⟨⟨_, mk pa, fun C r σ H F Q Xk RV hK R L hf k => ?_⟩⟩
  refine ent C r σ H F _ Xk _ hK R L hf fun vs H1 F1 ds r1 _ R1 A1 q1 => ?_
  split at q1
  · rename_i xs ys e1
    have h := A1.all e1
    cases h with
    | cons h1 h2 => cases h2 with
      | cons h3 h4 =>
        cases h4
        cases h1 with
        | tup g1 g2 => cases h3 with
          | tup g3 g4 =>
            have w := walkD_zipT g1 g3 g2 g4
            have s1 := g1.elim (fun p => (.inl p.2 : SqT C.K H1 _ _)) fun p => p.sq _
            have s2 := g3.elim (fun p => (.inl p.2 : SqT C.K H1 _ _)) fun p => p.sq _
            have s3 := k _ H1 F1 _ r1 R1 w q1
            rw [hK] at s1 s2 s3
            exact ⟨_, _, _, _, rfl, .inr ⟨s1, s2, s3⟩⟩
  · rename_i xs ys e1
    have h := A1.all e1
    cases h with
    | cons h1 h2 => cases h2 with
      | cons h3 h4 =>
        cases h4
        cases h1 with
        | lst g1 g2 => cases h3 with
          | lst g3 g4 =>
            have w := walkD_zipL g1 g3 g2 g4
            have s1 : SqL C.K H1 _ _ := .inl (.inl g1.2)
            have s2 : SqL C.K H1 _ _ := .inl (.inl g3.2)
            have s3 := k _ H1 F1 _ r1 R1 w q1
            rw [hK] at s1 s2 s3
            exact ⟨_, _, _, _, rfl, .inl ⟨s1, s2, s3⟩⟩
  · exact q1.elim
end
end DL

/-! DL, part 15: dicts whose keys are numbers or texts. -/
namespace DL
open PySem PySem.Spec PyProof.Rows L2
def lookD (kvs : List (D × D)) (k : D) : Option D := (kvs.find? fun p => decide (keyD p.1 = keyD k)).map (·.2)
def putD (kvs : List (D × D)) (k d : D) : List (D × D) :=
  if (kvs.any fun p => decide (keyD p.1 = keyD k)) = true then kvs.map (fun p => if keyD p.1 = keyD k then (p.1, d) else p) else kvs ++ [(k, d)]
section
variable {K : PySem.W.Frag} {H : Hp} {F : AP}
theorem KvR.look : ∀ {ps : List (Key × V)} {kvs : List (D × D)} {k : D} {kk : Key}, KvR K H F keyD ps kvs → keyD k = some kk → (match valV ps kk with
    | some v => ∃ d, lookD kvs k = some d ∧ DpF K H F v d
    | none => lookD kvs k = none)
  | _, _, k, kk, .nil, _ => rfl
  | _, _, k, kk, .cons (k := k0) (v := v0) (kd := kd0) (d := d0) (r := r) (s := s) e h hs, ek => by
    have ih := KvR.look hs ek
    by_cases q : k0 = kk
    · rw [valV_pos (p := (k0, v0)) q]
      refine ⟨d0, ?_, h⟩
      unfold lookD
      rw [List.find?_cons_of_pos (by rw [e, ek, q]; exact decide_eq_true rfl)]
      rfl
    · rw [valV_neg (p := (k0, v0)) q]
      have e2 : lookD ((kd0, d0) :: s) k = lookD s k := by
        unfold lookD
        rw [List.find?_cons_of_neg (by rw [e, ek]; simpa using q)]
      rw [e2]
      exact ih
theorem KvR.any : ∀ {ps : List (Key × V)} {kvs : List (D × D)} {k : D} {kk : Key}, KvR K H F keyD ps kvs → keyD k = some kk → (ps.any fun p => decide (p.1 = kk)) = (kvs.any fun p => decide (keyD p.1 = keyD k))
  | _, _, _, _, .nil, _ => rfl
  | _, _, k, kk, .cons e h hs, ek => by
    rw [List.any_cons, List.any_cons, KvR.any hs ek]
    congr 1
    simp [e, ek]
theorem KvR.app : ∀ {ps qs : List (Key × V)} {kvs ls : List (D × D)}, KvR K H F keyD ps kvs → KvR K H F keyD qs ls → KvR K H F keyD (ps ++ qs) (kvs ++ ls)
  | _, _, _, _, .nil, k => k
  | _, _, _, _, .cons e h hs, k => .cons e h (KvR.app hs k)
theorem KvR.set : ∀ {ps : List (Key × V)} {kvs : List (D × D)} {k d : D} {kk : Key} {v : V}, KvR K H F keyD ps kvs → keyD k = some kk → DpF K H F v d →
    KvR K H F keyD (ps.map fun p => if p.1 = kk then (p.1, v) else p) (kvs.map fun p => if keyD p.1 = keyD k then (p.1, d) else p)
  | _, _, _, _, _, _, .nil, _, _ => .nil
  | _, _, k, d, kk, v, .cons (k := k0) (kd := kd0) e h hs, ek, hv => by
    rw [List.map_cons, List.map_cons]
    by_cases q : k0 = kk
    · rw [if_pos q, if_pos (by rw [e, ek, q])]
      exact .cons e hv (KvR.set hs ek hv)
    · rw [if_neg q, if_neg (by rw [e, ek]; intro z; exact q (Option.some.inj z))]
      exact .cons e h (KvR.set hs ek hv)
theorem KvR.put {ps : List (Key × V)} {kvs : List (D × D)} {k d : D} {kk : Key} {v : V} (h : KvR K H F keyD ps kvs) (ek : keyD k = some kk) (hv : DpF K H F v d) : KvR K H F keyD (putK ps kk v) (putD kvs k d) := by
  unfold putK putD
  rw [h.any ek]
  split
  · exact h.set ek hv
  · exact h.app (.cons ek hv .nil)
theorem KvR.len : ∀ {ps : List (Key × V)} {kvs : List (D × D)}, KvR K H F keyD ps kvs → ps.length = kvs.length
  | _, _, .nil => rfl
  | _, _, .cons _ _ hs => congrArg (· + 1) (KvR.len hs)
theorem key_v {v : V} {d : D} {kk : Key} (h : DpT K H F v d) (e : keyD d = some kk) : v = kV kk := by
  cases d with
  | int i => cases e; exact h.int
  | str x => cases e; exact h.str
  | _ => cases e
end
/-- the object that a slot holds alone, changed -/
theorem Rep.objUpd {C : Ctx} {r : Env} {σ : L2.St} {H : Hp} {F : AP} {i : Nat} {d0 dv : DV} {a : Addr} {o : HO} (R : Rep C r σ H F) (e : sl r i = some d0) (h0 : d0.hold = true) (e1 : σ[i]? = some (some (.ref a))) (hd : dv.hold = true)
    (nf : ¬ F a) (new : SltR C.K (upd H a o) F C.b (.ref a) dv) : Rep C (put r i dv) σ (upd H a o) F ∧ Later H F (upd H a o) F := by
  obtain ⟨nz, nb⟩ := R.ownz i _ a e h0 e1
  have l : Later H F (upd H a o) F := fun x z => ⟨z, upd_ne fun q => nf (q ▸ z)⟩
  have aux : ∀ {j dj}, sl (put r i dv) j = some dj → dj.hold = true → ∃ d', sl r j = some d' ∧ d'.hold = true := fun {j dj} ej oj => by
    rcases sl_put_some ej with ⟨rfl, _⟩ | ⟨_, ej'⟩
    · exact ⟨_, e, h0⟩
    · exact ⟨_, ej', oj⟩
  refine ⟨⟨by rw [len_putO]; exact R.len, fun j dj ej => ?_, fun j k dj dk x ej ek oj ok sj sk => ?_, fun x z => ?_, R.fsub, R.fnew, R.fz, fun x z => ?_, fun j dj x ej oj sj => ?_, fun x ex => ?_, R.tb.upd ?_ ?_⟩, l⟩
  · rcases sl_put_some ej with ⟨rfl, rfl⟩ | ⟨ne, ej'⟩
    · exact ⟨_, e1, new⟩
    · obtain ⟨v, ev, sr⟩ := R.slot j dj ej'
      refine ⟨v, ev, ?_⟩
      cases sr with
      | dat s => exact .dat (s.mono l)
      | own g1 g2 g3 => exact .own ((upd_ne fun q => ne (R.dist j i _ _ _ ej' e rfl h0 (q ▸ ev) e1)).trans g1) (g2.mono l) g3
      | dct g1 g3 => exact .dct (g1.mono l (upd_ne fun q => ne (R.dist j i _ _ _ ej' e rfl h0 (q ▸ ev) e1))) g3
      | nd s n => exact .nd (s.mono l) (n.mono l)
      | bag s => exact .bag s
  · obtain ⟨d1, e3, o3⟩ := aux ej oj
    obtain ⟨d2, e4, o4⟩ := aux ek ok
    exact R.dist j k d1 d2 x e3 e4 o3 o4 sj sk
  · rw [upd_ne (fun w : x = a => nz (w ▸ z))]; exact R.keep x z
  · rw [(l x z).2]; exact R.ftrk x z
  · rcases sl_put_some ej with ⟨rfl, _⟩ | ⟨_, ej'⟩
    · exact R.ownz j _ x e h0 sj
    · exact R.ownz j dj x ej' oj sj
  · obtain ⟨k, nf', nz'⟩ := R.bag x ex
    exact ⟨BagOk.mono (C := C) l (upd_ne (fun w : x = a => nb (w ▸ ex))) k, nf', nz'⟩
  · obtain ⟨v, ev, sr⟩ := R.slot i _ e
    rw [e1] at ev; cases ev
    cases sr with
    | own g1 _ _ => exact free_lst g1
    | dct g1 _ => exact free_dct g1
    | dat _ => cases h0
    | nd _ _ => cases h0
    | bag _ => cases h0
  · intro ps z
    have n : NT (upd H a o) a := by
      cases new with
      | own g1 _ _ => exact nt_lst g1
      | dct g1 _ => exact (free_dct g1).nt
      | dat _ => cases hd
      | nd _ _ => cases hd
      | bag _ => cases hd
    exact n ps (by rw [upd_same, z])
def xDGet (i : Nat) (b : OX) : TX := fun X r Q => (∃ kvs, sl r i = some (.dct false kvs)) ∧ b X r fun g r1 => match g r1, sl r1 i with
  | some k, some (.dct false kvs) => keyD k ≠ none ∧ (match lookD kvs k with
    | some d => Q (.dat d) r1
    | none => False)
  | _, _ => False
/-- k in d -/
def xDIn (neg : Bool) (i : Nat) (b : OX) : TX := fun X r Q => b X r fun g r1 => match g r1, sl r1 i with
  | some k, some (.dct false kvs) => keyD k ≠ none ∧ Q (.dat (.bool (neg != (lookD kvs k).isSome))) r1
  | _, _ => False
/-- d[k] = e -/
def sDPut (i : Nat) (b : OX) (f : TX) : TS := fun E r => f E.ex r fun dv r1 => match dv.toD with
  | some d => (∃ kvs, sl r1 i = some (.dct false kvs)) ∧ b E.ex r1 fun g r2 => (match g r2, sl r2 i with
    | some k, some (.dct false kvs) => keyD k ≠ none ∧ kvs.length < 16777216 ∧ E.nx (put r2 i (.dct false (putD kvs k d)))
    | _, _ => False)
  | none => False
def xDNew : TX := fun _ r Q => Q (.dct false []) r
/-- {k: v}, k written -/
def xDOne (k : D) (f : TX) : TX := fun X r Q => keyD k ≠ none ∧ f X r fun dv r1 => match dv.toD with
  | some d => Q (.dct false [(k, d)]) r1
  | none => False
section
variable {X : Cx} {W : WX} {e a b ob : Expr} {es : List Expr} {pos : Pos}
theorem dctR_new {K : PySem.W.Frag} {H : Hp} {F : AP} {a : Addr} {ps : List (Key × V)} {kvs : List (D × D)} (e : H a = some (.dK ps)) (h : KvR K H F keyD ps kvs) : DctR K H F a false kvs := .inl ⟨rfl, ps, e, h⟩
theorem DctR.k {K : PySem.W.Frag} {H : Hp} {F : AP} {a : Addr} {kvs : List (D × D)} (h : DctR K H F a false kvs) : ∃ ps, H a = some (.dK ps) ∧ KvR K H F keyD ps kvs := by
  rcases h with ⟨_, ps, h1, h2⟩ | ⟨z, _⟩
  · exact ⟨ps, h1, h2⟩
  · cases z
theorem ne_some {α : Type} {o : Option α} (h : o ≠ none) : ∃ x, o = some x := by
  cases o with
  | none => exact absurd rfl h
  | some x => exact ⟨x, rfl⟩
theorem de_dget {i : Nat} {o : OX} (hu : X.A.units + 1 < cLine) (po : PE X ob (tVar i)) (hb : DO X W b o) (hs : NoSl b) : DE X W (.Subscript ob b pos) (xDGet i o) := by
  obtain ⟨t, pe, ent⟩ := hb.ex
  refine ⟨⟨_, pe_dget hu po pe hs, fun C r σ H F Q Xk QV hK R L hf k => ?_⟩⟩
  obtain ⟨⟨kvs0, e0⟩, hf⟩ := hf
  obtain ⟨v0, s0, sr0⟩ := R.slot i _ e0
  refine ⟨v0, s0, ?_⟩
  refine ent C r σ H F _ Xk _ hK R L hf fun y H1 F1 g r1 R1 G1 q1 => ?_
  split at q1
  · rename_i kd kvs eg e1
    obtain ⟨hk, q1⟩ := q1
    obtain ⟨kk, ek⟩ := ne_some hk
    have hy := key_v (G1 _ _ _ _ R1 Later.refl eg) ek
    obtain ⟨v1, s1, sr1⟩ := R1.slot i _ e1
    rw [s0] at s1; cases s1
    cases sr1 with
    | dct g1 g3 =>
      obtain ⟨ps, h1, h2⟩ := g1.k
      have hl := h2.look ek
      split at q1
      · rename_i d ed
        cases ev : valV ps kk with
        | none => rw [ev] at hl; rw [hl] at ed; cases ed
        | some v =>
          rw [ev] at hl
          obtain ⟨d', e', hd⟩ := hl
          rw [ed] at e'; cases e'
          subst hy
          refine ⟨_, v, rfl, ?_, k v H1 F1 _ r1 R1 (.dat hd) q1⟩
          rw [← ev]
          exact DGet.k h1
      · exact q1.elim
  · exact q1.elim
theorem dgf {X : Cx} {W : WX} {b ob : Expr} {i : Nat} {o : OX} {t : L2.TE} (neg : Bool) (ent : ∀ (C : Ctx) (r : Env) (σ : L2.St) (H : Hp) (F : AP) (Q : Get → Env → Prop) (Xk : XW) (QV : VK), C.K = X.K → Rep C r σ H F → Link X W Xk C σ → o Xk r Q →
    (∀ v H' F' g r', Rep C r' σ H' F' → Gd C σ v g H' F' → Q g r' → QV v H') → t σ H QV) : ∀ (C : Ctx) (r : Env) (σ : L2.St) (H : Hp) (F : AP) (Q : DV → Env → Prop) (Xk : XW) (QV : VK), C.K = X.K → Rep C r σ H F → Link X W Xk C σ → xDIn neg i o Xk r Q →
    (∀ v H' F' dv r', Rep C r' σ H' F' → Res C r' σ H' F' v dv → Q dv r' → QV v H') → t σ H fun y H1 => tVar i σ H1 fun x H2 => ∃ a o', x = .ref a ∧ DGet H2 a y o' ∧ QV (.bl (neg != o'.isSome)) H2 := by
  intro C r σ H F Q Xk QV hK R L hf k
  refine ent C r σ H F _ Xk _ hK R L hf fun y H1 F1 g r1 R1 G1 q1 => ?_
  split at q1
  · rename_i kd kvs eg e1
    obtain ⟨hk, q1⟩ := q1
    obtain ⟨kk, ek⟩ := ne_some hk
    have hy := key_v (G1 _ _ _ _ R1 Later.refl eg) ek
    obtain ⟨v1, s1, sr1⟩ := R1.slot i _ e1
    cases sr1 with
    | dct g1 g3 =>
      obtain ⟨ps, h1, h2⟩ := g1.k
      have hl := h2.look ek
      subst hy
      refine ⟨_, s1, _, valV ps kk, rfl, DGet.k h1, k _ H1 F1 _ r1 R1 (.dat (.bl _)) ?_⟩
      cases ev : valV ps kk with
      | none => rw [ev] at hl; rw [hl] at q1; exact q1
      | some v =>
        rw [ev] at hl
        obtain ⟨d', e', _⟩ := hl
        rw [e'] at q1; exact q1
  · exact q1.elim
theorem de_din {i : Nat} {o : OX} (hu : X.A.units + 1 < cLine) (po : PE X ob (tVar i)) (hb : DO X W b o) (hm : behindInMarks .In ob = false := by rfl) : DE X W (.Compare b [.In] [ob] pos) (xDIn false i o) := by
  obtain ⟨t, pe, ent⟩ := hb.ex
  refine ⟨⟨_, pe_cmp (pc_din hu pe po) hm, fun C r σ H F Q Xk QV hK R L hf k => ?_⟩⟩
  have q := dgf (X := X) (W := W) (b := b) (ob := ob) (i := i) false ent C r σ H F Q Xk QV hK R L hf k
  simp only [Bool.false_bne] at q
  exact q
theorem de_dnin {i : Nat} {o : OX} (hu : X.A.units + 1 < cLine) (po : PE X ob (tVar i)) (hb : DO X W b o) (hm : behindInMarks .NotIn ob = false := by rfl) : DE X W (.Compare b [.NotIn] [ob] pos) (xDIn true i o) := by
  obtain ⟨t, pe, ent⟩ := hb.ex
  refine ⟨⟨_, pe_cmp (pc_dnotin hu pe po) hm, fun C r σ H F Q Xk QV hK R L hf k => ?_⟩⟩
  have q := dgf (X := X) (W := W) (b := b) (ob := ob) (i := i) true ent C r σ H F Q Xk QV hK R L hf k
  simp only [Bool.true_bne] at q
  exact q
/-- d[k] = e -/
theorem ds_dput {i : Nat} {o : OX} {f : TX} {pos' : Pos} (hu : X.A.units + 1 < cLine) (po : PE X ob (tVar i)) (hb : DO X W b o) (hv : DE X W a f) (hs : swapsWith a (some (.Subscript ob b pos')) pos.line X.env = pure false := by rfl) : DS X W (.Assign [.Subscript ob b pos'] a pos) (sDPut i o f) := by
  obtain ⟨tb, pb, entb⟩ := hb.ex
  obtain ⟨tv, pv, entv⟩ := hv.ex
  refine ⟨⟨_, ps_dput hu po pb pv hs, fun C r σ H F E D' hK R k hf => ?_⟩⟩
  refine entv C r σ H F _ E.ex _ hK R (k.ex σ) hf fun v H1 F1 dv r1 R1 G1 q1 => ?_
  cases ed : dv.toD with
  | none => rw [ed] at q1; exact q1.elim
  | some d =>
    rw [ed] at q1
    obtain ⟨⟨kvs0, e0⟩, q1⟩ := q1
    obtain ⟨F2, R2, hd, _⟩ := G1.froz R1 ed
    obtain ⟨v0, s0, sr0⟩ := R2.slot i _ e0
    refine ⟨v0, s0, ?_⟩
    refine entb (C.up H1 F2 noT) r1 σ H1 F2 _ E.ex _ hK R2.up0 ((k.ex σ).up R2) q1 fun y H3 F3 g r3 R3' G3 q3 => ?_
    have R3 := R2.down R3'
    split at q3
    · rename_i kd kvs eg e3
      obtain ⟨hk, hl, q3⟩ := q3
      obtain ⟨kk, ek⟩ := ne_some hk
      have hy := key_v (G3 _ _ _ _ R3' Later.refl eg) ek
      obtain ⟨v1, s1, sr1⟩ := R3.slot i _ e3
      rw [s0] at s1; cases s1
      cases sr1 with
      | dct g1 g3 =>
        rename_i p
        obtain ⟨ps, h1, h2⟩ := g1.k
        subst hy
        have l : Later H3 F3 (upd H3 p (.dK (putK ps kk v))) F3 := fun x z => ⟨z, upd_ne fun q => g3 (q ▸ z)⟩
        have hd3 : DpF C.K H3 F3 v d := hd.mono R3'.later
        have new : SltR C.K (upd H3 p (.dK (putK ps kk v))) F3 C.b (.ref p) (.dct false (putD kvs kd d)) := .dct (dctR_new upd_same ((h2.put ek hd3).mono l)) g3
        obtain ⟨R4, _⟩ := R3.objUpd (dv := .dct false (putD kvs kd d)) e3 rfl s0 rfl g3 new
        exact ⟨p, _, rfl, DPut.k h1 (by rw [line_eq, h2.len]; exact hl), k.nx σ _ F3 _ R4 q3⟩
    · exact q3.elim
theorem Rep.freshD {C : Ctx} {r : Env} {σ : L2.St} {H : Hp} {F : AP} {p : Addr} {ps : List (Key × V)} {kvs : List (D × D)} (R : Rep C r σ H F) (hp : H p = none) (hd : KvR C.K H F keyD ps kvs) :
    Rep C r σ (upd H p (.dK ps)) F ∧ Res C r σ (upd H p (.dK ps)) F (.ref p) (.dct false kvs) ∧ Later H F (upd H p (.dK ps)) F := by
  refine ⟨R.new hp, .dct (dctR_new upd_same (hd.mono (later_new0 R hp))) (fun z => R.ftrk p z hp) (fun z => (R.keep p z).2 hp) (fun z => ?_) (fun i es e o1 e1 => ?_), later_new0 R hp⟩
  · obtain ⟨⟨_, _, _, _, _, h1, _⟩, _, _⟩ := R.bag p z
    rw [hp] at h1; cases h1
  · obtain ⟨v, e2, sr⟩ := R.slot i _ e
    rw [e1] at e2; cases e2
    cases sr with
    | own h1 _ _ => rw [hp] at h1; cases h1
    | dct h1 _ => exact h1.ne.2 hp
    | nd _ _ => cases o1
    | dat _ => cases o1
    | bag _ => cases o1
theorem de_dnew : DE X W (.Dict [] [] pos) xDNew := ⟨⟨_, pe_dnewK, fun C r σ H F Q Xk QV hK R L hf k p hp => by
  obtain ⟨R2, G2, _⟩ := R.freshD hp .nil
  exact k _ _ F _ r R2 G2 hf⟩⟩
theorem de_done {kd : D} {f : TX} {tk : V} {kx : Expr} (pk : PE X kx (tC tk)) (hkv : ∀ kk, keyD kd = some kk → tk = kV kk) (hv : DE X W a f) (hall : [some kx].all (·.isSome) = true := by rfl) (hl : [some kx].length = [a].length := by rfl) (h0 : [some kx] ≠ [] := by intro z; cases z)
    (h15 : [some kx].length ≤ 15 := by decide) : DE X W (.Dict [some kx] [a] pos) (xDOne kd f) := by
  obtain ⟨tv, pv, entv⟩ := hv.ex
  refine ⟨⟨_, pe_disp (pps_cons pk pv pps_nil) hall hl h0 h15, fun C r σ H F Q Xk QV hK R L hf k p hp => ?_⟩⟩
  obtain ⟨hk, hf⟩ := hf
  obtain ⟨kk, ek⟩ := ne_some hk
  have R0 := R.new (o := .dK []) hp
  have nfp : ¬ F p := fun z => R.ftrk p z hp
  obtain ⟨_, g0, _⟩ := R.freshD (ps := []) (kvs := []) hp .nil
  have held : C.b ≠ some p ∧ ∀ i es, sl r i = some es → es.hold = true → σ[i]? ≠ some (some (.ref p)) := by
    cases g0 with
    | dct _ _ _ h5 h6 => exact ⟨h5, h6⟩
  have R1 := R0.up (T := fun x => x = p) fun x e => by
    subst e
    exact ⟨by rw [upd_same]; simp, held.1, held.2, fun ps z => by rw [upd_same] at z; cases z⟩
  refine entv (C.up (upd H p (.dK [])) F fun x => x = p) r σ _ F _ Xk _ hK R1 (L.up R0) hf fun v H2 F2 dv r2 R2' G2 q2 => ?_
  cases ed : dv.toD with
  | none => rw [ed] at q2; exact q2.elim
  | some d =>
    rw [ed] at q2
    obtain ⟨F3, R3', hd, _⟩ := G2.froz R2' ed
    have R3 := R0.down R3'
    obtain ⟨e3, nf3⟩ := R3'.still (a := p) rfl nfp
    rw [upd_same] at e3
    have noo : ∀ i es, sl r2 i = some es → es.hold = true → σ[i]? ≠ some (some (.ref p)) := fun i es e1 o1 s1 => (R3'.ownz i es p e1 o1 s1).1 (.inr (.inr rfl))
    have nz : ¬ C.Z p := fun z => (R.keep p z).2 hp
    have hkv' := hkv kk ek
    subst hkv'
    refine ⟨e3, [(kk, v)], rfl, (show 1 ≤ 15 by decide), ?_⟩
    obtain ⟨R4, l4⟩ := R3.updT (o := .dK (mergeK [] [(kk, v)])) nf3 nz held.1 noo (fun u z => by rw [e3] at z; cases z; exact ⟨fun _ z => (by cases z), fun _ z => (by cases z)⟩)
    refine k _ _ F3 _ r2 R4 (.dct (dctR_new upd_same ?_) nf3 nz held.1 noo) q2
    exact .cons ek (hd.mono l4) .nil
/-! ### several values at once, lists and dicts of one's own among them -/
inductive Apart : List (V × DV) → Prop
  | nil : Apart []
  | cons {v : V} {dv : DV} {r : List (V × DV)} : (∀ a w dw, (w, dw) ∈ r → v = .ref a → dv.hold = true → w = .ref a → dw.hold = true → False) → Apart r → Apart ((v, dv) :: r)
def AllRes (C : Ctx) (r : Env) (σ : L2.St) (H : Hp) (F : AP) (ps : List (V × DV)) : Prop := (∀ p ∈ ps, Res C r σ H F p.1 p.2) ∧ Apart ps
theorem Res.hnone {C : Ctx} {r : Env} {σ : L2.St} {H : Hp} {F : AP} {a : Addr} {dv : DV} (q : Res C r σ H F (.ref a) dv) (h : dv.hold = true) : H a ≠ none ∧ C.b ≠ some a ∧ ¬ F a ∧ ¬ C.Z a ∧ ∀ i es, sl r i = some es → es.hold = true → σ[i]? ≠ some (some (.ref a)) := by
  cases q with
  | own g1 g2 g3 g4 g5 g6 => exact ⟨by rw [g1]; simp, g5, g3, g4, g6⟩
  | dct g1 g3 g4 g5 g6 => exact ⟨g1.ne.2, g5, g3, g4, g6⟩
  | nd _ _ => cases h
  | dat _ => cases h
  | bag _ => cases h
theorem Res.hnt {C : Ctx} {r : Env} {σ : L2.St} {H : Hp} {F : AP} {a : Addr} {dv : DV} (q : Res C r σ H F (.ref a) dv) (h : dv.hold = true) : NT H a := by
  cases q with
  | own g1 g2 g3 g4 g5 g6 => exact nt_lst g1
  | dct g1 g3 g4 g5 g6 => exact (free_dct g1).nt
  | nd _ _ => cases h
  | dat _ => cases h
  | bag _ => cases h
/-- what waited while nothing of it could change -/
theorem Res.wait {C : Ctx} {r r' : Env} {σ σ' : L2.St} {H H' : Hp} {F F' T : AP} {v : V} {dv : DV} (q : Res C r σ H F v dv) (R' : Rep (C.up H F T) r' σ' H' F') (ht : ∀ a, v = .ref a → dv.hold = true → T a) : Res C r' σ' H' F' v dv := by
  cases q with
  | dat s => exact .dat (s.mono R'.later)
  | nd s n => exact .nd (s.mono R'.later) (n.mono R'.later)
  | bag s => exact .bag s
  | own g1 g2 g3 g4 g5 g6 =>
    have t := ht _ rfl rfl
    obtain ⟨e, nf⟩ := R'.still t g3
    exact .own (e.trans g1) (g2.mono R'.later) nf g4 g5 fun i es ei oi si => (R'.ownz i es _ ei oi si).1 (.inr (.inr t))
  | dct g1 g3 g4 g5 g6 =>
    have t := ht _ rfl rfl
    obtain ⟨e, nf⟩ := R'.still t g3
    exact .dct (g1.mono R'.later e) nf g4 g5 fun i es ei oi si => (R'.ownz i es _ ei oi si).1 (.inr (.inr t))
/-- a list of values, evaluated from the left -/
def avL : List TX → XW → Env → (List DV → Env → Prop) → Prop
  | [], _, r, Q => Q [] r
  | f :: fs, X, r, Q => f X r fun u r1 => avL fs X r1 fun us r2 => Q (u :: us) r2
structure DAV (X : Cx) (W : WX) (es : List Expr) (fs : List TX) : Prop where
  ex : ∃ t, PA X es t ∧ ∀ (C : Ctx) (r : Env) (σ : L2.St) (H : Hp) (F : AP) (Q : List DV → Env → Prop) (Xk : XW) (QV : List V → Hp → Prop), C.K = X.K → Rep C r σ H F → Link X W Xk C σ → avL fs Xk r Q →
    (∀ vs H' F' dvs r', Rep C r' σ H' F' → vs.length = es.length → vs.length = dvs.length → AllRes C r' σ H' F' (vs.zip dvs) → Q dvs r' → QV vs H') → t σ H QV
theorem dav_nil : DAV X W [] [] := ⟨⟨_, pa_nil, fun C r σ H F Q Xk QV _ R _ hf k => k [] H F [] r R rfl rfl ⟨(fun _ h => by cases h), .nil⟩ hf⟩⟩
theorem dav_cons {f : TX} {fs : List TX} (p : DE X W e f) (q : DAV X W es fs) (hs : starEach (e :: es) X.env = (false, eval e X.env) :: starEach es X.env := by rfl) : DAV X W (e :: es) (f :: fs) := by
  obtain ⟨u, pe, ent⟩ := p.ex
  obtain ⟨w, pa, ena⟩ := q.ex
  refine ⟨⟨_, pa_cons pe pa hs, fun C r σ H F Q Xk QV hK R L hf k => ?_⟩⟩
  refine ent C r σ H F _ Xk _ hK R L hf fun v H1 F1 dv r1 R1 G1 q1 => ?_
  have R1u := R1.up (T := fun a => v = .ref a ∧ dv.hold = true) fun a ⟨ev, ed⟩ => by
    subst ev
    obtain ⟨h1, h2, _, _, h5⟩ := G1.hnone ed
    exact ⟨h1, h2, h5, G1.hnt ed⟩
  refine ena (C.up H1 F1 fun a => v = .ref a ∧ dv.hold = true) r1 σ H1 F1 _ Xk _ hK R1u (L.up R1) q1 fun vs H2 F2 dvs r2 R2' he hl A2 q2 => ?_
  have G1' : Res C r2 σ H2 F2 v dv := G1.wait R2' fun a ev ed => ⟨ev, ed⟩
  refine k (v :: vs) H2 F2 (dv :: dvs) r2 (R1.down R2') (congrArg (· + 1) he) (congrArg (· + 1) hl) ⟨fun p hp => ?_, .cons (fun a w dw hm ev ed ew edw => ?_) A2.2⟩ q2
  · rcases List.mem_cons.mp hp with rfl | hp
    · exact G1'
    · exact (A2.1 p hp).down
  · have g := A2.1 _ hm
    rw [show (w, dw).1 = w from rfl, ew] at g
    exact (g.hnone edw).2.2.2.1 (.inr (.inr ⟨ev, ed⟩))
/-- names take values -/
def putAll : Env → List Nat → List DV → Env
  | r, i :: is, u :: us => putAll (put r i u) is us
  | r, _, _ => r
theorem Res.storeN {C : Ctx} {r : Env} {σ : L2.St} {H : Hp} {F : AP} {v w : V} {dv dw : DV} {i : Nat} (R : Rep C r σ H F) (q : Res C r σ H F w dw) (ne : ∀ a, v = .ref a → dv.hold = true → w = .ref a → dw.hold = true → False) : Res C (put r i dv) (σ.set i (some v)) H F w dw :=
  Res.store2 R q fun a b e1 e2 e3 e4 z => ne a e1 e2 (z ▸ e3) e4
def setAll : L2.St → List Nat → List V → L2.St
  | σ, i :: is, v :: vs => setAll (σ.set i (some v)) is vs
  | σ, _, _ => σ
theorem Rep.storeAll {C : Ctx} {H : Hp} {F : AP} : ∀ (is : List Nat) (vs : List V) (dvs : List DV) {r : Env} {σ : L2.St}, Rep C r σ H F → vs.length = dvs.length → AllRes C r σ H F (vs.zip dvs) → Rep C (putAll r is dvs) (setAll σ is vs) H F
  | [], vs, dvs, r, σ, R, _, _ => by cases dvs <;> cases vs <;> exact R
  | i :: is, [], [], r, σ, R, _, _ => R
  | i :: is, v :: vs, [], r, σ, R, h, _ => by cases h
  | i :: is, [], u :: us, r, σ, R, h, _ => by cases h
  | i :: is, v :: vs, u :: us, r, σ, R, h, A => by
    obtain ⟨A1, A2⟩ := A
    have g := A1 (v, u) (by simp)
    have hz : Apart ((v, u) :: vs.zip us) := A2
    cases hz with
    | cons n1 n2 =>
      refine Rep.storeAll is vs us (R.store (i := i) g) (Nat.succ.inj h) ⟨fun p hp => ?_, n2⟩
      exact Res.storeN R (A1 p (List.mem_cons_of_mem _ hp)) fun a e1 e2 e3 e4 => n1 a p.1 p.2 hp e1 e2 e3 e4
/-- a, b, c = e1, e2, e3 -/
def sMul (is : List Nat) (fs : List TX) : TS := fun E r => avL fs E.ex r fun us r1 => E.nx (putAll r1 is us)
theorem ds_mul2 {st : Stmt} {i j : Nat} {fs : List TX} (ha : DAV X W [a, b] fs) (mk : ∀ {ta : TA}, PA X [a, b] ta → PS X st (tPar i j ta)) : DS X W st (sMul [i, j] fs) := by
  obtain ⟨t, pa, ent⟩ := ha.ex
  refine ⟨⟨_, mk pa, fun C r σ H F E D' hK R k hf => ?_⟩⟩
  refine ent C r σ H F _ E.ex _ hK R (k.ex σ) hf fun vs H1 F1 us r1 R1 he hl A1 q1 => ?_
  match vs, us, hl, he with
  | [v1, v2], [u1, u2], _, _ => exact ⟨v1, v2, rfl, k.nx _ H1 F1 _ (Rep.storeAll [i, j] [v1, v2] [u1, u2] R1 rfl A1) q1⟩
theorem ds_mul3 {st : Stmt} {i j l : Nat} {fs : List TX} (ha : DAV X W [a, b, e] fs) (mk : ∀ {ta : TA}, PA X [a, b, e] ta → PS X st (tPar3 i j l ta)) : DS X W st (sMul [i, j, l] fs) := by
  obtain ⟨t, pa, ent⟩ := ha.ex
  refine ⟨⟨_, mk pa, fun C r σ H F E D' hK R k hf => ?_⟩⟩
  refine ent C r σ H F _ E.ex _ hK R (k.ex σ) hf fun vs H1 F1 us r1 R1 he hl A1 q1 => ?_
  match vs, us, hl, he with
  | [v1, v2, v3], [u1, u2, u3], _, _ => exact ⟨v1, v2, v3, rfl, k.nx _ H1 F1 _ (Rep.storeAll [i, j, l] [v1, v2, v3] [u1, u2, u3] R1 rfl A1) q1⟩
/-! by way of a tuple, where a name is a comprehension's too -/
theorem Res.newO {C : Ctx} {r : Env} {σ : L2.St} {H : Hp} {F : AP} {p : Addr} {o : HO} {v : V} {dv : DV} (R : Rep C r σ H F) (hp : H p = none) (q : Res C r σ H F v dv) : Res C r σ (upd H p o) F v dv := by
  have l := later_new0 (o := o) R hp
  cases q with
  | dat s => exact .dat (s.mono l)
  | nd s n => exact .nd (s.mono l) (n.mono l)
  | bag s => exact .bag s
  | own g1 g2 g3 g4 g5 g6 => exact .own (by rw [upd_ne (ne_of_none g1 hp)]; exact g1) (g2.mono l) g3 g4 g5 g6
  | dct g1 g3 g4 g5 g6 =>
    rename_i x t kvs
    exact .dct (g1.mono l (upd_ne fun z => g1.ne.2 (z ▸ hp))) g3 g4 g5 g6
def gNames : List Nat → TGs
  | [] => gNil
  | i :: is => gCons (gName i) (gNames is)
theorem gNames_go : ∀ (is : List Nat) (vs : List V) (σ : L2.St) (H : Hp) (Q : L2.St → Hp → Prop), vs.length = is.length → Q (setAll σ is vs) H → gNames is vs σ H Q
  | [], [], σ, H, Q, _, q => ⟨rfl, q⟩
  | i :: is, v :: vs, σ, H, Q, h, q => ⟨v, vs, rfl, gNames_go is vs (σ.set i (some v)) H Q (Nat.succ.inj h) q⟩
  | [], _ :: _, _, _, _, h, _ => by cases h
  | _ :: _, [], _, _, _, h, _ => by cases h
theorem ds_mult {st : Stmt} {is : List Nat} {fs : List TX} {n : Nat} (ha : DAV X W es fs) (hn : es.length = is.length) (hz : es.length ≤ 1000) (he : n = is.length) (mk : ∀ {ta : TA}, PA X es ta → PS X st (tAsg (tTup ta) (gTup X.K n (gNames is)))) : DS X W st (sMul is fs) := by
  obtain ⟨t, pa, ent⟩ := ha.ex
  refine ⟨⟨_, mk pa, fun C r σ H F E D' hK R k hf => ?_⟩⟩
  refine ent C r σ H F _ E.ex _ hK R (k.ex σ) hf fun vs H1 F1 us r1 R1 he1 hl A1 q1 => ?_
  refine ⟨by rw [line_eq]; omega, fun p hp => ⟨p, vs, rfl, .inl (.inl upd_same), by rw [he1, he, hn], ?_⟩⟩
  refine gNames_go is vs σ _ _ (by rw [he1, hn]) ?_
  exact k.nx _ _ F1 _ (Rep.storeAll is vs us (R1.new (o := .tup vs) hp) hl ⟨fun z hz => (A1.1 z hz).newO R1 hp, A1.2⟩) q1
end
end DL

/-! DL, part 16: enumerate. -/
namespace DL
open PySem PySem.Spec PyProof.Rows L2
def enumD (ds : List D) : List D := ds.zipIdx.map fun p => .tuple [.int (p.2 : Nat), p.1]
theorem enumD_len (ds : List D) : (enumD ds).length = ds.length := by
  unfold enumD
  rw [List.length_map, List.length_zipIdx]
theorem enumD_get {ds : List D} {i : Nat} {x : D} (h : ds[i]? = some x) : (enumD ds)[i]? = some (.tuple [.int (i : Nat), x]) := by
  unfold enumD
  rw [List.getElem?_map, List.getElem?_zipIdx, h]
  simp
theorem walkD_en {K : PySem.W.Frag} {H : Hp} {F : AP} {J : It} {xs : List V} {ds : List D} (hx : DpFs K H F xs ds) (go : ∀ i H' F', i < ds.length → Later H F H' F' → J.go i H') (stop : ∀ H' F', Later H F H' F' → J.stop ds.length H')
    (yld : ∀ i H' F' x H2, Later H F H' F' → J.yld i H' x H2 → ∃ T v, x = .ref T ∧ H' T = none ∧ H2 = upd H' T (.tup [.int (i : Nat), v]) ∧ xs[i]? = some v) : WalkD K J (enumD ds) H F := by
  refine ⟨fun i H' F' hi l => go i H' F' (by rw [enumD_len] at hi; exact hi) l, fun H' F' l => by rw [enumD_len]; exact stop H' F' l, fun i H' F' x H2 hi trk l y => ?_⟩
  obtain ⟨T, v, rfl, hT, rfl, e⟩ := yld i H' F' x H2 l y
  obtain ⟨d, e1, q1⟩ := hx.getV e
  have l2 : Later H' F' (upd H' T (.tup [.int (i : Nat), v])) (fun c => F' c ∨ c = T) := fun c z => ⟨.inl z, upd_ne fun q => trk c z (q ▸ hT)⟩
  refine ⟨fun c => F' c ∨ c = T, _, enumD_get e1, .tup (.inl ⟨.inr rfl, .inl upd_same⟩) (.cons (.int _) (.cons ((q1.mono l).mono l2) .nil)), l2, fun c o q => ?_, fun c z => ?_⟩
  · rw [upd_ne (ne_of_none q hT)]; exact q
  · rcases z with z | rfl
    · exact .inl z
    · exact .inr ⟨hT, by rw [upd_same]; simp, nt_tup upd_same⟩
theorem walkD_enT {K : PySem.W.Frag} {H : Hp} {F : AP} {a : Addr} {xs : List V} {ds : List D} (ha : (F a ∧ Rd H a (.tup xs)) ∨ KT K a xs) (hx : DpFs K H F xs ds) : WalkD K (IteT K a) (enumD ds) H F := by
  have sq : ∀ {H' : Hp} {F' : AP}, Later H F H' F' → SqT K H' a xs := fun {H' F'} l => by
    rcases ha with h | h
    · exact .inl (rd_later (l a h.1).2 h.2)
    · exact h.sq _
  refine walkD_en hx (fun i H' F' hi l => ?_) (fun H' F' l => ⟨xs, sq l, by rw [hx.length]; exact Nat.le_refl _⟩) fun i H' F' x H2 l y => ?_
  · rw [← hx.length] at hi
    exact ⟨xs, xs[i], sq l, List.getElem?_eq_getElem hi⟩
  · obtain ⟨T, v, e1, e2, e3, e4⟩ := y
    exact ⟨T, v, e1, e2, e3, e4 xs (sq l)⟩
theorem walkD_enL {K : PySem.W.Frag} {H : Hp} {F : AP} {a : Addr} {xs : List V} {ds : List D} (ha : F a ∧ H a = some (.lst xs)) (hx : DpFs K H F xs ds) : WalkD K (Ite K a) (enumD ds) H F := by
  have sq : ∀ {H' : Hp} {F' : AP}, Later H F H' F' → SqL K H' a xs := fun {H' F'} l => .inl (.inl ((l a ha.1).2.trans ha.2))
  refine walkD_en hx (fun i H' F' hi l => ?_) (fun H' F' l => ⟨xs, sq l, by rw [hx.length]; exact Nat.le_refl _⟩) fun i H' F' x H2 l y => ?_
  · rw [← hx.length] at hi
    exact ⟨xs, xs[i], sq l, List.getElem?_eq_getElem hi⟩
  · obtain ⟨T, v, e1, e2, e3, e4⟩ := y
    exact ⟨T, v, e1, e2, e3, e4 xs (sq l)⟩
def wEnum (f : TX) : SX := fun X r Q => f X r fun dv r1 => match dv.toD with
  | some (.tuple xs) => Q (enumD xs) r1
  | some (.list xs) => Q (enumD xs) r1
  | _ => False
section
variable {X : Cx} {W : WX} {e a : Expr}
theorem src_enum {tg : Expr} {f : TX} (ha : DE X W a f) (hs : starEach (a :: []) X.env = (false, eval a X.env) :: starEach [] X.env := by rfl) (mk : ∀ {ta : TA}, PA X [a] ta → PI X tg e (iEnumT X.K ta)) : DSrc X W tg e (wEnum f) := by
  obtain ⟨t, pa, ent⟩ := ha.ex
  refine ⟨⟨_, mk (pa_cons pa pa_nil hs), fun C r σ H F Q Xk RV hK R L hf k => ?_⟩⟩
  refine ent C r σ H F _ Xk _ hK R L hf fun v H1 F1 dv r1 R1 G1 q1 => ?_
  split at q1
  · rename_i xs ed
    obtain ⟨F2, R2, hd, _⟩ := G1.froz R1 ed
    cases hd with
    | tup g1 g2 =>
      have s1 := g1.elim (fun p => (.inl p.2 : SqT C.K H1 _ _)) fun p => p.sq _
      have s3 := k _ H1 F2 _ r1 R2 (walkD_enT g1 g2) q1
      rw [hK] at s1 s3
      exact ⟨_, _, rfl, .inr ⟨s1, s3⟩⟩
  · rename_i xs ed
    obtain ⟨F2, R2, hd, _⟩ := G1.froz R1 ed
    cases hd with
    | lst g1 g2 =>
      have s3 := k _ H1 F2 _ r1 R2 (walkD_enL g1 g2) q1
      rw [hK] at s3
      exact ⟨_, _, rfl, .inl ⟨.inl (.inl g1.2), s3⟩⟩
  · exact q1.elim
end
end DL

/-! DL, part 17: a comprehension over a list that the frame goes on to hold alone. -/
namespace DL
open PySem PySem.Spec PyProof.Rows L2
def xLcO (vs : List Nat) (i0 : Nat) (g : TG) (t : TB) (f : TX) : TX := fun X r Q => ∃ ds, sl r i0 = some (.own ds) ∧ (∀ i ∈ vs, notOwn (putO r i0 none) i) ∧
  lcL vs g t f ds [] (clrs (putO r i0 none) vs) fun acc r2 => Q (.own acc) (put (DL.back (putO r i0 none) r2 vs) i0 (.own ds))
section
variable {X : Cx} {W : WX} {tg iter elt e : Expr} {f : TX} {pos : Pos}
theorem set_same {σ : L2.St} {i : Nat} {x : Option V} (h : σ[i]? = some x) : σ.set i x = σ := by
  apply List.ext_getElem?
  intro j
  by_cases q : i = j
  · subst q
    rw [List.getElem?_set_self (List.getElem?_eq_some_iff.mp h).1, h]
  · rw [List.getElem?_set_ne q]
theorem lcO_ent {K : PySem.W.Frag} {mg : Str → Option Value} {vs ws : List Nat} {i0 : Nat} {g : TG} {t : TB} {f : TX} (hw : ∀ i ∈ ws, i ∈ vs)
    {tt : L2.TT} (htt : ∀ (C : Ctx) (r : Env) (σ : L2.St) (H : Hp) (F : AP) (Q : Bool → Env → Prop) (QV : Bool → Hp → Prop), C.K = K → Rep C r σ H F → t noX r Q → (∀ b H' F' r', Rep C r' σ H' F' → Q b r' → QV b H') → tt σ H QV)
    (C : Ctx) (r : Env) (σ : L2.St) (H : Hp) (F : AP) (Q : DV → Env → Prop) (Xk : XW) (QV : VK) (hK : C.K = K) (R : Rep C r σ H F) (hf : xLcO vs i0 g t f Xk r Q) (k : ∀ v H' F' dv r', Rep C r' σ H' F' → Res C r' σ H' F' v dv → Q dv r' → QV v H') :
    tLc (iList K (tVar i0)) (gCan K ws g) tt (tCan K mg (fun _ _ _ _ => False) f) vs σ H QV := by
  obtain ⟨ds, e0, no, q1⟩ := hf
  obtain ⟨v0, s0, sr⟩ := R.slot i0 _ e0
  cases sr with
  | own h1 h2 h3 =>
    rename_i a xs
    obtain ⟨nz, nb⟩ := R.ownz i0 _ a e0 rfl s0
    have R0 := R.drop (i := i0)
    have held : ∀ i es, sl (putO r i0 none) i = some es → es.hold = true → σ[i]? ≠ some (some (.ref a)) := fun i es e1 o1 s1 => by
      obtain ⟨n, e2⟩ := sl_put_none e1
      exact n (R.dist i i0 _ _ a e2 e0 o1 rfl s1 s0)
    have R0' := R0.up (T := fun z => z = a) fun z ez => by
      subst ez
      exact ⟨by rw [h1]; simp, nb, held, nt_lst h1⟩
    have zA : (C.up H F fun z => z = a).Z a := .inr (.inr rfl)
    have at' : ∀ {H' : Hp}, (∀ z, (C.up H F fun z => z = a).Z z → H' z = (C.up H F fun z => z = a).HZ z) → H' a = some (.lst xs) := fun {H'} hz => (hz a zA).trans h1
    have w : WalkZ (C.up H F fun z => z = a) (Itl K a) ds H F := by
      refine ⟨fun i H' F' hi _ hz => ?_, fun H' F' _ hz => ⟨xs, .inl (.inl (at' hz)), by rw [h2.length]; exact Nat.le_refl _⟩, fun i H' F' x H2 hi _ l hz y => ?_⟩
      · rw [← h2.length] at hi
        exact ⟨xs, xs[i], .inl (.inl (at' hz)), List.getElem?_eq_getElem hi⟩
      · obtain ⟨rfl, y2⟩ := y
        obtain ⟨d, e1, q⟩ := h2.getV (y2 xs (.inl (.inl (at' hz))))
        exact ⟨F', d, e1, q.mono l, Later.refl, fun _ _ z => z, fun _ z => .inl z⟩
    refine ⟨_, s0, a, rfl, ⟨xs, .inl (.inl h1)⟩, ?_⟩
    refine lc_coreD (K := K) (mg := mg) hw htt (C.up H F fun z => z = a) (putO r i0 none) σ H F (fun dv r' => Q dv (put r' i0 (.own ds))) QV (Itl K a) ds hK R0' w no q1 fun v H' F' dv r' R' G' q' => ?_
    obtain ⟨ea, nfa⟩ := R'.still (a := a) rfl h3
    have Rd := R0.down R'
    have noa : ∀ i es, sl r' i = some es → es.hold = true → σ[i]? ≠ some (some (.ref a)) := fun i es e1 o1 s1 => (R'.ownz i es a e1 o1 s1).1 zA
    have ga : Res C r' σ H' F' (.ref a) (.own ds) := .own (ea.trans h1) (h2.mono R'.later) nfa nz nb noa
    have R2 := Rd.store (i := i0) ga
    rw [set_same s0] at R2
    refine k v H' F' dv _ R2 ?_ q'
    have G2 := Res.storeN (i := i0) (v := .ref a) (dv := .own ds) Rd G'.down fun x e1 _ e3 o3 => by
      cases e1
      subst e3
      exact (G'.hnone o3).2.2.2.1 zA
    rw [set_same s0] at G2
    exact G2
theorem de_lcO {scope : Scope} {own : List (Str × Nat)} {ws : List Nat} {i0 : Nat} {g : TG} (po : PE X iter (tVar i0)) (hw : ∀ i ∈ ws, i ∈ own.map (·.2))
    (hg : ∀ (s : Shared) (H : Hp) (C : Addr) (cl : List (Str × Addr)) (fp : List Addr), DG (X.blk s H scope (compEnvC scope cl C X.env) fp) tg ws g)
    (he : ∀ (s : Shared) (H : Hp) (C : Addr) (cl : List (Str × Addr)) (fp : List Addr), DE (X.blk s H scope (compEnvC scope cl C X.env) fp) (fun _ _ _ _ => False) elt f)
    (mk : ∀ {wi : TI} {te : L2.TE} {tg' : L2.TG}, PI X tg iter wi → (∀ (s : Shared) (H : Hp) (C : Addr) (cl : List (Str × Addr)) (fp : List Addr), PG (X.blk s H scope (compEnvC scope cl C X.env) fp) tg tg') →
      (∀ (s : Shared) (H : Hp) (C : Addr) (cl : List (Str × Addr)) (fp : List Addr), PE (X.blk s H scope (compEnvC scope cl C X.env) fp) elt te) → PE X e (tLc wi tg' tYes te (own.map (·.2)))) :
    DE X W e (xLcO (own.map (·.2)) i0 g bYes f) :=
  ⟨⟨_, mk (te := tCan X.K X.mg (fun _ _ _ _ => False) f) (tg' := gCan X.K ws g) (pi_list po) (fun s H C cl fp => (hg s H C cl fp).can) (fun s H C cl fp => (he s H C cl fp).can), fun C r σ H F Q Xk QV hK R _ hf k => lcO_ent (K := X.K) (mg := X.mg) hw tYes_ent C r σ H F Q Xk QV hK R hf k⟩⟩
theorem de_lcIO {scope : Scope} {own : List (Str × Nat)} {ws : List Nat} {i0 : Nat} {g : TG} {t : TB} {cond : Expr} (po : PE X iter (tVar i0)) (hw : ∀ i ∈ ws, i ∈ own.map (·.2))
    (hg : ∀ (s : Shared) (H : Hp) (C : Addr) (cl : List (Str × Addr)) (fp : List Addr), DG (X.blk s H scope (compEnvC scope cl C X.env) fp) tg ws g)
    (ht : ∀ (s : Shared) (H : Hp) (C : Addr) (cl : List (Str × Addr)) (fp : List Addr), DT (X.blk s H scope (compEnvC scope cl C X.env) fp) (fun _ _ _ _ => False) cond t)
    (he : ∀ (s : Shared) (H : Hp) (C : Addr) (cl : List (Str × Addr)) (fp : List Addr), DE (X.blk s H scope (compEnvC scope cl C X.env) fp) (fun _ _ _ _ => False) elt f)
    (mk : ∀ {wi : TI} {te : L2.TE} {tg' : L2.TG} {tt : L2.TT}, PI X tg iter wi → (∀ (s : Shared) (H : Hp) (C : Addr) (cl : List (Str × Addr)) (fp : List Addr), PG (X.blk s H scope (compEnvC scope cl C X.env) fp) tg tg') →
      (∀ (s : Shared) (H : Hp) (C : Addr) (cl : List (Str × Addr)) (fp : List Addr), PTs (X.blk s H scope (compEnvC scope cl C X.env) fp) [cond] tt) →
      (∀ (s : Shared) (H : Hp) (C : Addr) (cl : List (Str × Addr)) (fp : List Addr), PE (X.blk s H scope (compEnvC scope cl C X.env) fp) elt te) → PE X e (tLc wi tg' tt te (own.map (·.2)))) :
    DE X W e (xLcO (own.map (·.2)) i0 g t f) :=
  ⟨⟨_, mk (te := tCan X.K X.mg (fun _ _ _ _ => False) f) (tg' := gCan X.K ws g) (tt := bCan X.K X.mg (fun _ _ _ _ => False) t) (pi_list po) (fun s H C cl fp => (hg s H C cl fp).can) (fun s H C cl fp => pts_one (ht s H C cl fp).can) (fun s H C cl fp => (he s H C cl fp).can),
    fun C r σ H F Q Xk QV hK R _ hf k => lcO_ent (K := X.K) (mg := X.mg) hw (fun C r σ H F Q QV hK R hf k => ⟨C, r, F, noX, Q, hK, R, fun _ _ _ _ _ _ _ _ z => z.elim, hf, k⟩) C r σ H F Q Xk QV hK R hf k⟩⟩
end
end DL

/-! DL, part 18: x[i] = e and x[i] += e of a list; d.get(k, e), d.setdefault(k, e). -/
namespace DL
open PySem PySem.Spec PyProof.Rows L2
def sSetI (i : Nat) (b : OX) (f : TX) : TS := fun E r => f E.ex r fun dv r1 => match dv.toD with
  | some d => (∃ ds, sl r1 i = some (.own ds)) ∧ b E.ex r1 fun g r2 => (match g r2, sl r2 i with
    | some (.int k), some (.own ds) => ∃ j, ixN ds.length k = some j ∧ E.nx (put r2 i (.own (ds.set j d)))
    | _, _ => False)
  | none => False
def sAugI (i : Nat) (op : Int → Int → Int) (b c : OX) : TS := fun E r => (∃ ds, sl r i = some (.own ds)) ∧ b E.ex r fun g r1 => match g r1, sl r1 i with
  | some (.int k), some (.own ds) => (match L2.atI ds k with
    | some (.int x) => c E.ex r1 fun h r2 => (match h r2, sl r2 i with
      | some (.int y), some (.own es) => ∃ j, ixN es.length k = some j ∧ E.nx (put r2 i (.own (es.set j (.int (op x y)))))
      | _, _ => False)
    | _ => False)
  | _, _ => False
def xDGet2 (i : Nat) (b : OX) (f : TX) : TX := fun X r Q => (∃ kvs, sl r i = some (.dct false kvs)) ∧ b X r fun g r1 => f X r1 fun dv r2 => match g r2, dv.toD, sl r2 i with
  | some k, some d, some (.dct false kvs) => keyD k ≠ none ∧ Q (.dat ((lookD kvs k).getD d)) r2
  | _, _, _ => False
def xDSetd (i : Nat) (b : OX) (f : TX) : TX := fun X r Q => (∃ kvs, sl r i = some (.dct false kvs)) ∧ b X r fun g r1 => f X r1 fun dv r2 => match g r2, dv.toD, sl r2 i with
  | some k, some d, some (.dct false kvs) => keyD k ≠ none ∧ kvs.length < 16777216 ∧ (match lookD kvs k with
    | some e => Q (.dat e) r2
    | none => Q (.dat d) (put r2 i (.dct false (putD kvs k d))))
  | _, _, _ => False
section
variable {X : Cx} {W : WX} {e a b c ob : Expr} {pos : Pos} {st : Stmt}
theorem ds_setI {i : Nat} {o : OX} {f : TX} (po : PE X ob (tVar i)) (hb : DO X W b o) (hv : DE X W a f) (mk : ∀ {to ti tv : L2.TE}, PE X ob to → PE X b ti → PE X a tv → PS X st (tAsg tv (gSub to ti rSetL))) : DS X W st (sSetI i o f) := by
  obtain ⟨tb, pb, entb⟩ := hb.ex
  obtain ⟨tv, pv, entv⟩ := hv.ex
  refine ⟨⟨_, mk po pb pv, fun C r σ H F E D' hK R k hf => ?_⟩⟩
  refine entv C r σ H F _ E.ex _ hK R (k.ex σ) hf fun v H1 F1 dv r1 R1 G1 q1 => ?_
  cases ed : dv.toD with
  | none => rw [ed] at q1; exact q1.elim
  | some d =>
    rw [ed] at q1
    obtain ⟨⟨ds0, e0⟩, q1⟩ := q1
    obtain ⟨F2, R2, hd, _⟩ := G1.froz R1 ed
    obtain ⟨v0, s0, sr0⟩ := R2.slot i _ e0
    refine ⟨v0, s0, ?_⟩
    refine entb (C.up H1 F2 noT) r1 σ H1 F2 _ E.ex _ hK R2.up0 ((k.ex σ).up R2) q1 fun y H3 F3 g r3 R3' G3 q3 => ?_
    have R3 := R2.down R3'
    split at q3
    · rename_i kk ds eg e3
      obtain ⟨j, hj, q3⟩ := q3
      have hy := (G3 _ _ _ _ R3' Later.refl eg).int
      obtain ⟨v1, s1, sr1⟩ := R3.slot i _ e3
      rw [s0] at s1; cases s1
      cases sr1 with
      | own g1 g2 g3 =>
        rename_i p xs
        subst hy
        have hd3 : DpF C.K H3 F3 v d := hd.mono R3'.later
        obtain ⟨R4, _⟩ := R3.lstUpd e3 s0 (g2.set j hd3)
        exact ⟨p, xs, kk, j, rfl, rfl, g1, by rw [g2.length]; exact hj, k.nx σ _ F3 _ R4 q3⟩
    · exact q3.elim
theorem ds_augI {i : Nat} {op : Int → Int → Int} {o o2 : OX} (po : PE X ob (tVar i)) (hb : DO X W b o) (hc : DO X W c o2) (mk : ∀ {to ti te : L2.TE}, PE X ob to → PE X b ti → PE X c te → PS X st (tAugS to ti te (rIxL X.K) (ipI op) rSetL)) : DS X W st (sAugI i op o o2) := by
  obtain ⟨tb, pb, entb⟩ := hb.ex
  obtain ⟨tc, pc, entc⟩ := hc.ex
  refine ⟨⟨_, mk po pb pc, fun C r σ H F E D' hK R k hf => ?_⟩⟩
  obtain ⟨⟨ds0, e0⟩, hf⟩ := hf
  obtain ⟨v0, s0, sr0⟩ := R.slot i _ e0
  refine ⟨v0, s0, ?_⟩
  refine entb C r σ H F _ E.ex _ hK R (k.ex σ) hf fun y H1 F1 g r1 R1 G1 q1 => ?_
  split at q1
  · rename_i kk ds eg e1
    have hy := (G1 _ _ _ _ R1 Later.refl eg).int
    subst hy
    obtain ⟨v1, s1, sr1⟩ := R1.slot i _ e1
    rw [s0] at s1; cases s1
    cases sr1 with
    | own g1 g2 g3 =>
      rename_i p xs
      split at q1
      · rename_i x ex
        obtain ⟨vx, ev, hvx⟩ := atI_of g2 ex
        cases hvx
        refine ⟨p, xs, kk, _, rfl, rfl, .inl (.inl g1), ev, ?_⟩
        refine entc C r1 σ H1 F1 _ E.ex _ hK R1 (k.ex σ) q1 fun z H3 F3 h r3 R3 G3 q3 => ?_
        split at q3
        · rename_i y2 es eh e3
          obtain ⟨j, hj, q3⟩ := q3
          have hz := (G3 _ _ _ _ R3 Later.refl eh).int
          subst hz
          obtain ⟨v3, s3, sr3⟩ := R3.slot i _ e3
          rw [s0] at s3; cases s3
          cases sr3 with
          | own k1 k2 k3 =>
            rename_i xs3
            obtain ⟨R4, _⟩ := R3.lstUpd e3 s0 (k2.set j (.int (op x y2)))
            exact ⟨x, y2, rfl, rfl, p, xs3, kk, j, rfl, rfl, k1, by rw [k2.length]; exact hj, k.nx σ _ F3 _ R4 q3⟩
        · exact q3.elim
      · exact q1.elim
  · exact q1.elim
theorem de_dget2 {i : Nat} {o : OX} {f : TX} {apos cpos : Pos} (hu : X.A.units + 1 < cLine) (po : PE X ob (tVar i)) (hb : DO X W b o) (hf : DE X W c f) (m : M2 X ob "get" apos b c cpos) : DE X W (.Call (.Attribute ob "get" apos) [b, c] [] cpos) (xDGet2 i o f) := by
  obtain ⟨tb, pb, entb⟩ := hb.ex
  obtain ⟨tc, pc, entc⟩ := hf.ex
  refine ⟨⟨_, pe_dget2 hu po pb pc m, fun C r σ H F Q Xk QV hK R L hq k => ?_⟩⟩
  obtain ⟨⟨kvs0, e0⟩, hq⟩ := hq
  obtain ⟨v0, s0, sr0⟩ := R.slot i _ e0
  cases sr0 with
  | dct g0 g0x =>
    rename_i p
    obtain ⟨ps0, h0, _⟩ := g0.k
    refine ⟨_, s0, p, rfl, .inl ⟨ps0, .inl h0⟩, ?_⟩
    refine entb C r σ H F _ Xk _ hK R L hq fun y H1 F1 g r1 R1 G1 q1 => ?_
    refine entc (C.up H1 F1 noT) r1 σ H1 F1 _ Xk _ hK R1.up0 (L.up R1) q1 fun z H2 F2 dv r2 R2' Gz q2 => ?_
    have R2 := R1.down R2'
    split at q2
    · rename_i kd d kvs eg ed e2
      obtain ⟨hk, q2⟩ := q2
      obtain ⟨kk, ek⟩ := ne_some hk
      obtain ⟨F3, R3', hd, l3⟩ := Gz.froz R2' ed
      have R3 := R1.down R3'
      have hy := key_v (G1 _ _ _ _ R2 R2'.later eg) ek
      subst hy
      obtain ⟨v2, s2, sr2⟩ := R3.slot i _ e2
      rw [s0] at s2; cases s2
      cases sr2 with
      | dct k1 _ =>
        obtain ⟨ps, h1, h2⟩ := k1.k
        have hl := h2.look ek
        refine ⟨valV ps kk, DGet.k h1, ?_⟩
        cases ev : valV ps kk with
        | none =>
          rw [ev] at hl
          rw [hl] at q2
          exact k _ H2 F3 _ r2 R3 (.dat hd) q2
        | some v =>
          rw [ev] at hl
          obtain ⟨d', e', hd'⟩ := hl
          rw [e'] at q2
          exact k _ H2 F3 _ r2 R3 (.dat hd') q2
    · exact q2.elim
theorem de_dsetd {i : Nat} {o : OX} {f : TX} {apos cpos : Pos} (po : PE X ob (tVar i)) (hb : DO X W b o) (hf : DE X W c f) (m : M2 X ob "setdefault" apos b c cpos) : DE X W (.Call (.Attribute ob "setdefault" apos) [b, c] [] cpos) (xDSetd i o f) := by
  obtain ⟨tb, pb, entb⟩ := hb.ex
  obtain ⟨tc, pc, entc⟩ := hf.ex
  refine ⟨⟨_, pe_dsetd po pb pc m, fun C r σ H F Q Xk QV hK R L hq k => ?_⟩⟩
  obtain ⟨⟨kvs0, e0⟩, hq⟩ := hq
  obtain ⟨v0, s0, sr0⟩ := R.slot i _ e0
  cases sr0 with
  | dct g0 g0x =>
    rename_i p
    obtain ⟨ps0, h0, _⟩ := g0.k
    refine ⟨_, s0, p, rfl, .inl ⟨ps0, .inl h0⟩, ?_⟩
    refine entb C r σ H F _ Xk _ hK R L hq fun y H1 F1 g r1 R1 G1 q1 => ?_
    refine entc (C.up H1 F1 noT) r1 σ H1 F1 _ Xk _ hK R1.up0 (L.up R1) q1 fun z H2 F2 dv r2 R2' Gz q2 => ?_
    have R2 := R1.down R2'
    split at q2
    · rename_i kd d kvs eg ed e2
      obtain ⟨hk, hl0, q2⟩ := q2
      obtain ⟨kk, ek⟩ := ne_some hk
      obtain ⟨F3, R3', hd, l3⟩ := Gz.froz R2' ed
      have R3 := R1.down R3'
      have hy := key_v (G1 _ _ _ _ R2 R2'.later eg) ek
      subst hy
      obtain ⟨v2, s2, sr2⟩ := R3.slot i _ e2
      rw [s0] at s2; cases s2
      cases sr2 with
      | dct k1 k3 =>
        obtain ⟨ps, h1, h2⟩ := k1.k
        have hl := h2.look ek
        refine ⟨ps, kk, h1, rfl, by rw [line_eq, h2.len]; exact hl0, fun v ev => ?_, fun ev => ?_⟩
        · rw [ev] at hl
          obtain ⟨d', e', hd'⟩ := hl
          rw [e'] at q2
          exact k _ H2 F3 _ r2 R3 (.dat hd') q2
        · rw [ev] at hl
          rw [hl] at q2
          have l : Later H2 F3 (upd H2 p (.dK (putK ps kk z))) F3 := fun x w => ⟨w, upd_ne fun q => k3 (q ▸ w)⟩
          have new : SltR C.K (upd H2 p (.dK (putK ps kk z))) F3 C.b (.ref p) (.dct false (putD kvs kd d)) := .dct (dctR_new upd_same ((h2.put ek hd).mono l)) k3
          obtain ⟨R4, _⟩ := R3.objUpd (dv := .dct false (putD kvs kd d)) e2 rfl s0 rfl k3 new
          exact k _ _ F3 _ _ R4 (.dat (hd.mono l)) q2
    · exact q2.elim
end
end DL

/-! DL, part 19: isinstance of data. -/
namespace DL
open PySem PySem.Spec PyProof.Rows L2
def tyD : D → String
  | .none => "NoneType"
  | .bool _ => "bool"
  | .int _ => "int"
  | .str _ => "str"
  | .list _ => "list"
  | .tuple _ => "tuple"
  | .dict _ => "dict"
def isTy (tn : String) (d : D) : Bool := match d with
  | .none => tn == "NoneType"
  | .bool _ => tn == "bool" || tn == "int"
  | .int _ => tn == "int"
  | .str _ => tn == "str"
  | .list _ => tn == "list"
  | .tuple _ => tn == "tuple"
  | .dict _ => tn == "dict"
def tyName (tn : String) : Prop := tn = "int" ∨ tn = "bool" ∨ tn = "str" ∨ tn = "tuple" ∨ tn = "list" ∨ tn = "dict"
theorem kit_tab : ∀ a ∈ ["NoneType", "bool", "int", "str", "list", "tuple", "dict"], ∀ b ∈ ["int", "bool", "str", "tuple", "list", "dict"], L2.kitB a b = some (a == b || (a == "bool" && b == "int")) := by decide +kernel
theorem kit_isTy {tn : String} (h : tyName tn) (d : D) : L2.kitB (tyD d) tn = some (isTy tn d) := by
  have hb : tn ∈ ["int", "bool", "str", "tuple", "list", "dict"] := by
    rcases h with rfl | rfl | rfl | rfl | rfl | rfl <;> simp
  have ha : tyD d ∈ ["NoneType", "bool", "int", "str", "list", "tuple", "dict"] := by cases d <;> simp [tyD]
  rw [kit_tab _ ha _ hb]
  rcases h with rfl | rfl | rfl | rfl | rfl | rfl <;> cases d <;> rfl
theorem tyX_of {K : PySem.W.Frag} {H : Hp} {F : AP} {v : V} {d : D} (h : DpT K H F v d) : TyX K H v (.type (tyD d)) := by
  rcases h with h | ⟨a, xs, ds, rfl, rfl, h1, h2⟩
  · cases h with
    | non => exact .base .non
    | bl b => exact .base (.bl b)
    | int i => exact .base (.int i)
    | str x => exact .base (.str x)
    | lst h _ => exact .base (.lst h.2)
    | tup h _ =>
      rcases h with ⟨_, h | ⟨o, h⟩⟩ | h
      · exact .base (.tup h)
      · exact .fTuple h
      · rcases h with (h | ⟨o, h⟩) | ⟨o, its, n, e, c, _⟩
        · cases h
        · cases h
        · exact .kTuple e c
  · exact .base (.lst h1)
def dIsTy (tn : String) : D → (DV → Prop) → Prop := fun d Q => Q (.dat (.bool (isTy tn d)))
section
variable {X : Cx} {W : WX} {e a b : Expr} {pos : Pos}
theorem de_isi {tn : String} {o : OX} (ht : tyName tn) (ho : DO X W a o) (pt : PE X b (tC (.ty tn))) (hs : starEach [a, b] X.env = (false, eval a X.env) :: starEach [b] X.env := by rfl) (hs' : starEach [b] X.env = (false, eval b X.env) :: starEach [] X.env := by rfl)
    (mk : ∀ {t : TA}, PA X [a, b] t → PE X e (tCB (rIsi X.K) t)) : DE X W e (xU (dIsTy tn) o) := by
  obtain ⟨t, pe, ent⟩ := ho.ex
  refine ⟨⟨_, mk (pa_cons pe (pa_cons pt pa_nil hs') hs), fun C r σ H F Q Xk QV hK R L hf k => ?_⟩⟩
  refine ent C r σ H F _ Xk _ hK R L hf fun v H1 F1 g r1 R1 G1 q1 => ?_
  split at q1
  · rename_i d eg
    have hd := G1 _ _ _ _ R1 Later.refl eg
    refine ⟨v, .ty tn, _, _, isTy tn d, rfl, .ty tn, hK ▸ tyX_of hd, kit_ty (kit_isTy ht d), k _ H1 F1 _ r1 R1 (.dat (.bl _)) q1⟩
  · exact q1.elim
end
end DL

/-! DL: own errors whose __init__ says super().__init__(..): the statement, and the def. -/
namespace DL
open PySem PySem.Spec L2 PyProof.Rows
open NdefX (NF ncx envF NScope CellsAt inv_startN startF)

/-- what the written part says of an own error's __init__ at F (its class at C, over ValueError) -/
structure SupC (P : Program) (K : PySem.W.Frag) (mg : Str → Option Value) (F : NF) (f C cc : Addr) (slf : Str) : Prop where
  cl : F.cl = [(("__class__" : Str), cc)]
  fn : ∃ (oc : Value) (od : Option Addr) (fd : FuncData) (osl : Array (Option Value)) (ar : Arg), K.lookup f = some ⟨oc, od, .func fd, osl⟩ ∧ (fd.params.posonlyargs ++ fd.params.args).head? = some ar ∧ ar.arg = slf
  code : ∃ (c1 : Value) (c2 : Option Addr) (vs : Array Value) (c3 : Array (Option Value)) (file : Str) (tf : Tok), K.lookup F.c = some ⟨c1, c2, .fields vs, c3⟩ ∧ vs[2]? = some (.str file tf) ∧ ((P.main.file : Str) == file) = true
  cell : ∃ (c1 : Value) (c2 : Option Addr) (c3 : Array (Option Value)), K.lookup cc = some ⟨c1, c2, .cell (some (.ref C)), c3⟩
  cls : ∃ cd, PySem.W.clsIn K C = some cd
  sub : PySem.W.mroIn K C (.ref C) = some true
  noS : mg "super" = none
  kS : F.scope.names.lookup ("super" : Str) = some .globalImplicit
  kC : F.scope.names.lookup ("__class__" : Str) = some .free
  kL : F.scope.names.lookup slf = some .local
  top : (P.main.scope.names.lookup ("super" : Str)).isSome = false
  any : PySem.W.nsIn K cStatics "thirdparty.any" = some none
  ini : PySem.W.ks_superIn K C C "__init__" = some (some (.builtin "ValueError.__init__"))
  isV : PySem.W.subIn K (.ref C) (.type "ValueError") = some true
  oex : OexC K C
theorem boot_super : bootBuiltins "super" = some (.type "super") := by first | rfl | kernel_rfl | decide +kernel

theorem data_cell {v : Option Value} {a b : Obj} (h : a = b) (e : a.data = .cell v) : b.data = .cell v := h ▸ e

section
variable {CX : CXT} {P : Program} {w : World} {K : PySem.W.Frag} {mg : Str → Option Value} {base : Heap} {N : List Str} {F : NF} {f C cc a : Addr} {slf : Str} {A : Around} {outer : List PySem.Env} {s0 s : Shared} {H0 H : Hp} {E : XK} {σ : L2.St} {e : Expr} {es : List Expr} {ta : TA}
  {body : List Stmt} {p0 p1 p2 p3 p4 : Pos} {Dn : L2.Ends}
theorem sup_stmt (T : SupC P K mg F f C cc slf) (h0 : N[0]? = some slf) (I : Inv (ncx CX P w K mg base N F f A outer s0 H0 E) [] σ H s) (e0 : σ[0]? = some (some (.ref a))) (ea : H a = some (exo a C none))
    (ha : PA (ncx CX P w K mg base N F f A outer s0 H0 E) (e :: es) ta) (q : ta σ H fun vs H1 => vs.length ≤ 1000 ∧ H1 a = some (exo a C none) ∧ Dn.nx σ H1)
    (he : starEach (e :: es) (ncx CX P w K mg base N F f A outer s0 H0 E).env = (false, eval e (ncx CX P w K mg base N F f A outer s0 H0 E).env) :: starEach es (ncx CX P w K mg base N F f A outer s0 H0 E).env := by rfl)
    (hpl : (backTo p3 (starEach es (ncx CX P w K mg base N F f A outer s0 H0 E).env)).any (·.1) = false := by rfl)
    (hin : interactive (ncx CX P w K mg base N F f A outer s0 H0 E).env = false := by rfl) {pl : Sem Bool} (hev : eval (.Call (.Attribute (.Call (.Name "super" p0) [] [] p1) "__init__" p2) (e :: es) [] p3) (ncx CX P w K mg base N F f A outer s0 H0 E).env = (do
      let ov ← attributeBase (.Call (.Name "super" p0) [] [] p1) "__init__" (ncx CX P w K mg base N F f A outer s0 H0 E).env (eval (.Call (.Name "super" p0) [] [] p1) (ncx CX P w K mg base N F f A outer s0 H0 E).env)
      standAt p2.atName
      let (fx, first) ← holding [ov] (getMethod ov "__init__" pl)
      callWith p3 fx first (backTo p3 (starEach (e :: es) (ncx CX P w K mg base N F f A outer s0 H0 E).env)) []) := by rfl) (hsw : swapsWith (.Call (.Attribute (.Call (.Name "super" p0) [] [] p1) "__init__" p2) (e :: es) [] p3) none p4.line (ncx CX P w K mg base N F f A outer s0 H0 E).env = pure false := by rfl) :
    _root_.PySem.wpAt (model P w) (ncx CX P w K mg base N F f A outer s0 H0 E).A (.func body (ncx CX P w K mg base N F f A outer s0 H0 E).env)
      (exec (.Expr (.Call (.Attribute (.Call (.Name "super" p0) [] [] p1) "__init__" p2) (e :: es) [] p3) p4) (ncx CX P w K mg base N F f A outer s0 H0 E).env)
      (SP (ncx CX P w K mg base N F f A outer s0 H0 E) [] Dn) (ncx CX P w K mg base N F f A outer s0 H0 E).xe s := by
  obtain ⟨oc, od, fd, osl, ar, hf, hp, har⟩ := T.fn
  obtain ⟨c1, c2, vs, c3, file, tf, hcode, hvs, hfile⟩ := T.code
  obtain ⟨g1, g2, g3, hcell⟩ := T.cell
  obtain ⟨cdD, hD⟩ := T.cls
  have X := I.kIn
  have hcl : (ncx CX P w K mg base N F f A outer s0 H0 E).env.cells.lookup ("__class__" : Str) = some cc := by
    show F.cl.lookup _ = _
    rw [T.cl] <;> rfl
  have kk : (ncx CX P w K mg base N F f A outer s0 H0 E).env.scope.kind = .function := I.ok.kind
  obtain ⟨oD, hD1, hD2⟩ : ∃ oD, s.heap.get? C = some oD ∧ oD.data = .cls cdD := by
    unfold PySem.W.clsIn at hD
    split at hD
    · rename_i c d cd' sl ho
      cases hD
      exact ⟨_, X _ _ ho, rfl⟩
    · cases hD
  obtain ⟨t1, hoe⟩ := exo_at I.hok ea
  refine PySem.ks_wpAt_Expr_any ?_ hin hsw
  refine PySem.ks_wpAt_MethodCall (pl := pl) ?_ hev
  refine PySem.ks_wpAt_super_base (env := (ncx CX P w K mg base N F f A outer s0 H0 E).env) T.kS T.kC (by decide) rfl (X _ _ hf) rfl hp rfl (X _ _ hcode) rfl hvs hfile T.top ?_
  obtain ⟨mb, hb1, hb2⟩ := I.mod.blt
  refine PySem.W.ks_loadName_global kk T.kS (Calls.loadGlobal_builtin (I.mod.glob.keeps I.bk) T.noS (hb1.keeps I.bk) ((hb2 _ (by decide +kernel)).trans boot_super) ⟨rfl, ?_⟩)
  refine wpAny_loadName_free kk T.kC hcl ⟨_, X _ _ hcell, rfl⟩ ?_
  obtain ⟨m, hns, hlk⟩ := id I.loc
  have hself : m ar.arg = some (.ref a) := by
    rw [har]
    obtain ⟨u, ru, l⟩ := hlk 0 slf _ h0 e0 (.inl T.kL)
    obtain rfl : u = Value.ref a := ru
    rcases l with ⟨_, hm⟩ | ⟨hk, _⟩
    · exact hm
    · have hk : F.scope.names.lookup slf = some .cell ∨ F.scope.names.lookup slf = some .free := hk
      rw [T.kL] at hk
      rcases hk with z | z <;> cases z
  refine wpAny_loadName_local kk (har ▸ T.kL) hns hself ?_
  refine PySem.ks_wpAny_isType_cls hD1 hD2 ⟨rfl, ?_⟩
  obtain ⟨hp1, g, d, t, os⟩ := s
  refine PySem.ks_wpAny_call_super hD1 hD2 hoe rfl (fun c z => by cases z) (PySem.W.looks_mroIn X T.sub) (fun h' hso k => ?_)
  have I1 := I.kept (t' := t) k
  have na : a < hp1.objs.size := Heap.lt_size hoe
  -- the method
  have X1 := I1.kIn
  have ho1 : h'.get? a = some ({ cls := .ref C, dict := none, data := .fields #[.ref t1, .none, .none, .none, .bool false, .none] } : Obj) := k _ _ hoe
  have J1 : PySem.W.InstAt h' a _ C none := ⟨ho1, rfl, rfl, trivial⟩
  have hm := T.ini
  unfold PySem.W.ks_superIn at hm
  rw [hD] at hm
  refine PySem.W.kxs_getMethod PySem.W.kxs_ValueError hso (PySem.W.looks_opaque X1 T.any) (l₀ := cdD.mro) (fun A Q E s k q => wpAny_bind ((PySem.W.looks_clsIn X1 hD) A _ E s k (wpAny_pure q))) rfl X1 hm (J1.type.andThen (PySem.W.looks_subIn X1 T.isV)) (PySem.W.ks_ne X1 J1 hD) (by decide) ?_
  have k2 : ∀ b o, h'.get? b = some o → (h'.push (PySem.W.kxs_mw "ValueError.__init__" a)).get? b = some o := fun b o z => Heap.get?_push_of_some _ z
  have I2 := I1.kept (t' := t + 1) k2
  have hu : (h'.push (PySem.W.kxs_mw "ValueError.__init__" a)).get? h'.objs.size = some (PySem.W.kxs_mw "ValueError.__init__" a) := Heap.get?_push_at rfl rfl
  have I3 : Inv (ncx CX P w K mg base N F f A outer s0 H0 E) [(h'.objs.size, PySem.W.kxs_mw "ValueError.__init__" a)] σ H ⟨h'.push (PySem.W.kxs_mw "ValueError.__init__" a), g, d, t + 1, os⟩ := I2.pins_of fun p hp => by
    have hp : p = (h'.objs.size, PySem.W.kxs_mw "ValueError.__init__" a) := by simpa using hp
    subst hp
    refine ⟨hu, I1.hok.fresh (Nat.le_refl _), fun z => ?_, I1.nofs (Nat.le_refl _), fun v z => by cases z⟩
    have := I1.lt
    rw [← z] at this
    exact Nat.lt_irrefl _ this
  show wpAny _ _ (callWith p3 (.ref h'.objs.size) [] (backTo p3 (starEach (e :: es) _)) []) _ _ _
  rw [he]
  refine PySem.W.kxs_callWith (i := "ValueError.__init__") (x := a) (by show (false || (backTo p3 (starEach es _)).any (·.1)) = false; rw [hpl]; rfl) ?_
  have hr := ha.run p3 _ _ σ H _ I3 q
  rw [he] at hr
  refine Calls.evalArgs_plain (wpAny_mono hr (fun us s1 hh => ?_) fun _ _ z => z)
  obtain ⟨ws, H1, I4, r1, hl, ea1, q1⟩ := hh
  have hw : s1.heap.get? h'.objs.size = some (PySem.W.kxs_mw "ValueError.__init__" a) := (I4.pin _ (List.mem_append_right _ (List.mem_cons_self ..))).1
  refine ⟨hw, ?_⟩
  obtain ⟨nm, qn, N', bs, bm, sn, sub, ab, col, dd, k0, k1, k2', k3, k5, hC, hbm⟩ := T.oex.cls
  obtain ⟨t2, hoe2⟩ := exo_at I4.hok ea1
  have hlen : us.length ≤ sizeLine := by
    rw [← Paired.length r1, sizeLine_eq]
    omega
  obtain ⟨hp2, g2', d2, tk2, os2⟩ := s1
  have FB := PySem.F.excBase_ValueError
  show wpAny _ _ (call (.ref h'.objs.size) ([] ++ us)) _ _ _
  rw [List.nil_append]
  refine wpAny_call (codeAny_of_tree ?_)
  show wpAny _ _ (callAny (.ref h'.objs.size) ⟨us, []⟩) _ _ _
  simp only [callAny]
  refine wpAny_bind (wpAny_load hw ?_)
  simp only [PySem.W.kxs_mw, show (Value.type "method-wrapper" == Value.type "method" || Value.type "method-wrapper" == Value.type "builtin_function_or_method" || Value.type "method-wrapper" == Value.type "method-wrapper") = true by decide, if_true]
  refine PySem.W.KFB.if_so (by decide) ?_
  refine wpAny_bind (PySem.W.check_bound_init FB.toExcCallFacts (I4.kIn _ _ hC) hoe2 rfl ?_)
  refine wpAny_bind (wpAny_pure (wpAny_pure ?_))
  refine ⟨plainId_quiet FB.init.plain _, codeAny_builtin FB.initEntry ?_⟩
  refine PySem.W.exc_init_tree (cls := .ref C) (t0 := t2) (dv := none) (c2 := .none) (c3 := .none) (b4 := .bool false) hoe2 hlen fun h3 k3' hx ht => ?_
  have J := I4.write (t' := tk2) (x := a) (e := a) (o := exo a C none) (by rw [ea1]; exact True.intro) (.inl rfl) k3' ⟨_, hx⟩ (exo_ok hx)
  have eu : upd H1 a (exo a C none) = H1 := by
    funext b
    by_cases hb : b = a
    · rw [hb, upd_same, ea1]
    · rw [upd_ne hb]
  rw [eu] at J
  exact ⟨σ, H1, J.pins_of fun p hp => absurd hp (by simp), q1⟩

/-- the def's own text, and what is plain of its first statement -/
structure SupB (F : NF) (f : Addr) (e : Expr) (es : List Expr) (p0 p1 p2 p3 p4 : Pos) (pl : PySem.Env → Sem Bool) : Prop where
  he : ∀ L : Addr, starEach (e :: es) (envF F f L) = (false, eval e (envF F f L)) :: starEach es (envF F f L)
  hpl : ∀ L : Addr, (backTo p3 (starEach es (envF F f L))).any (·.1) = false
  hin : ∀ L : Addr, interactive (envF F f L) = false
  hsw : ∀ L : Addr, swapsWith (.Call (.Attribute (.Call (.Name "super" p0) [] [] p1) "__init__" p2) (e :: es) [] p3) none p4.line (envF F f L) = pure false
  hev : ∀ L : Addr, eval (.Call (.Attribute (.Call (.Name "super" p0) [] [] p1) "__init__" p2) (e :: es) [] p3) (envF F f L) = (do
      let ov ← attributeBase (.Call (.Name "super" p0) [] [] p1) "__init__" (envF F f L) (eval (.Call (.Name "super" p0) [] [] p1) (envF F f L))
      standAt p2.atName
      let (fx, first) ← holding [ov] (getMethod ov "__init__" (pl (envF F f L)))
      callWith p3 fx first (backTo p3 (starEach (e :: es) (envF F f L))) [])
structure SupFn (K : PySem.W.Frag) (F : NF) (f : Addr) (fd : FuncData) : Prop where
  ex : ∃ (oc : Value) (od : Option Addr) (kV doc pm ct : Value) (an : Option Addr) (osl : Array (Option Value)),
    fd = PySem.W.fnX F.name F.qual F.params F.body F.scope F.cl .none kV doc pm an (.ref F.c) ct ∧ K.lookup f = some ⟨oc, od, .func fd, osl⟩ ∧ PySem.W.codeIn K (.ref F.c) F.qual = true
theorem fn_sup {CX : CXT} {fd : FuncData} {ps : List Str} {k : Nat} {sp : Sp} {rest : List Stmt} {pl : PySem.Env → Sem Bool} (T : SupC P K mg F f C cc slf) (G : SupFn K F f fd) (S : NScope N ps [("__class__" : Str)] F.scope) (h0 : N[0]? = some slf)
    (hB : F.body = .Expr (.Call (.Attribute (.Call (.Name "super" p0) [] [] p1) "__init__" p2) (e :: es) [] p3) p4 :: rest) (B : SupB F f e es p0 p1 p2 p3 p4 pl) (len : ∀ vs H Q E, sp vs H Q E → vs.length = ps.length)
    (hbody : ∀ (A : Around) (outer : List PySem.Env) (s : Shared) (H : Hp) (vs : List V) (Q : VK) (E : XK), Room k (A.deeper (envF F f s.heap.objs.size)) → sp vs H Q E → ∃ (a : Addr) (ta : TA) (t : L2.TS), (startF N vs [none])[0]? = some (some (.ref a)) ∧ H a = some (exo a C none) ∧
      PA (ncx CX P w K mg base N F f A outer s H E) (e :: es) ta ∧ PSs (ncx CX P w K mg base N F f A outer s H E) rest t ∧
      ta (startF N vs [none]) H fun ws H1 => ws.length ≤ 1000 ∧ H1 a = some (exo a C none) ∧ t { nx := fun _ H' => Q .non H', rt := Q } (startF N vs [none]) H1) :
    FnOk P w K mg base CX (k + 1) f fd ps sp := by
  refine ⟨len, fun A outer s H args us vs Q E hr ev hb r hsp => ?_⟩
  obtain ⟨oc, od, kV, doc, pm, ct, an, osl, rfl, lk, hcd⟩ := G.ex
  have hl := len _ _ _ _ hsp
  have up : ∀ b o, base.get? b = some o → s.heap.get? b = some o := fun b o z => (ev.bs b o z).1
  have inK : K.In s.heap := ev.mod.kin.keeps up
  have free := ev.mod.nolimit.keeps up
  obtain ⟨g1, g2, g3, hcell⟩ := T.cell
  have lk1 : ∀ y c, F.cl.lookup y = some c → y = "__class__" ∧ c = cc := fun y c z => by
    rw [T.cl] at z
    by_cases q : y = ("__class__" : Str)
    · subst q
      simp [List.lookup] at z
      exact ⟨rfl, z.symm⟩
    · have qq : (y == ("__class__" : Str)) = false := by simpa using q
      simp [List.lookup, qq] at z
  have CA : CellsAt F.cl [("__class__" : Str)] [none] s.heap H := {
    len := rfl
    all := fun y c z => by
      obtain ⟨_, rfl⟩ := lk1 y c z
      exact ⟨(ev.bs _ _ (ev.mod.kin _ _ hcell)).2, _, ⟨_, inK _ _ hcell, rfl⟩⟩
    inj := fun x y c z1 z2 => ((lk1 x c z1).1).trans ((lk1 y c z2).1).symm
    has := fun i y z => by
      cases i with
      | zero =>
        have z : ("__class__" : Str) = y := by simpa using z
        subst z
        exact ⟨cc, by rw [T.cl] <;> rfl, fun v q => by simp at q⟩
      | succ i => simp at z }
  refine PySem.ks_codeAny_call_defAt hr.depth (inK _ _ lk) rfl free (PySem.W.codeRec_of inK hcd) rfl hb S.nocell (fun ⟨n, _⟩ hy => S.par n (List.of_mem_zip hy).1) (fun h₁ hns kp => ?_) S.co S.gen S.kind
  have I : Inv (ncx CX P w K mg base N F f A outer s H E) [] (startF N vs [none]) H { s with heap := h₁, toks := s.toks + (ps.zip us).length } := inv_startN S hr.hd ev hl r CA hns kp
  obtain ⟨a, ta, t, e0, ea, pa, pt, q⟩ := hbody A outer s H vs Q E (hr.deeper _) hsp
  show _root_.PySem.wpAt (model P w) (ncx CX P w K mg base N F f A outer s H E).A (.func F.body (ncx CX P w K mg base N F f A outer s H E).env) (execs F.body (ncx CX P w K mg base N F f A outer s H E).env) _ (ncx CX P w K mg base N F f A outer s H E).xe _
  rw [hB]
  refine PySem.ks_wpAt_execs_cons (PySem.wpAt_mono (sup_stmt (pl := pl (envF F f s.heap.objs.size)) (Dn := { nx := fun σ' H' => t { nx := fun _ H' => Q .non H', rt := Q } σ' H', rt := fun _ _ => False }) T h0 I e0 ea pa ?_ (B.he _) (B.hpl _) (B.hin _) (B.hev _) (B.hsw _)) (fun fl s' hs => ?_) fun _ _ z => z)
  · exact q
  · cases fl with
    | next =>
      obtain ⟨σ', H', J, q'⟩ := hs
      refine PySem.wpAt_of_wpAny (wpAny_mono (pt.run [] s' σ' H' _ J q') (fun fl2 s2 hs2 => ?_) fun _ _ z => z)
      cases fl2 with
      | ret u =>
        obtain ⟨v, σ2, H2, J2, rv2, q2⟩ := hs2
        exact ⟨v, H2, J2.os, J2.bare, J2.base, J2.hok, rv2, q2⟩
      | next =>
        obtain ⟨σ2, H2, J2, q2⟩ := hs2
        exact ⟨.non, H2, J2.os, J2.bare, J2.base, J2.hok, rfl, q2⟩
      | brk =>
        obtain ⟨_, _, _, z⟩ := hs2
        exact z.elim
      | cont =>
        obtain ⟨_, _, _, z⟩ := hs2
        exact z.elim
    | ret u =>
      obtain ⟨_, _, _, _, _, z⟩ := hs
      exact z.elim
    | brk =>
      obtain ⟨_, _, _, z⟩ := hs
      exact z.elim
    | cont =>
      obtain ⟨_, _, _, z⟩ := hs
      exact z.elim
end
end DL

/-! DL: own errors raised. -/
namespace DL
open PySem PySem.Spec L2
open NdefX (NF ncx envF NScope CellsAt inv_startN startF)
/-- what an own error's __init__ keeps: it stores its arguments under the names -/
def spI (C : Addr) (names : List Str) : Sp := fun vs H Q _ => ∃ (a : Addr) (ws : List V), vs = .ref a :: ws ∧ ws.length = names.length ∧ H a = some (exo a C none) ∧
  ∀ (dx : Addr) (H2 : Hp), H dx = none → dx ≠ a → H2 a = some (exo a C (some dx)) → H2 dx = some (exd dx (names.zip ws).reverse) → (∀ b, b ≠ a → b ≠ dx → H2 b = H b) → Q .non H2
section
variable {CX : CXT} {P : Program} {w : World} {K : PySem.W.Frag} {mg : Str → Option Value} {base : Heap} {F : NF} {f C cc : Addr} {slf n1 n2 : Str} {fd : FuncData} {k : Nat} {pl : PySem.Env → Sem Bool}
  {p0 p1 p2 p3 p4 q1 q2 q3 q4 q5 q6 q7 q8 q9 q10 : Pos}
/-- one field -/
theorem init1 (T : SupC P K mg F f C cc slf) (G : SupFn K F f fd) (S : NScope [slf, n1, "__class__"] [slf, n1] [("__class__" : Str)] F.scope)
    (hB : F.body = [.Expr (.Call (.Attribute (.Call (.Name "super" p0) [] [] p1) "__init__" p2) [.Name n1 q1] [] p3) p4, .Assign [.Attribute (.Name slf q2) n1 q3] (.Name n1 q4) q5]) (B : SupB F f (.Name n1 q1) [] p0 p1 p2 p3 p4 pl)
    (no1 : PySem.W.findIn K (.ref C) n1 = some none) (d0 : (slf == ("__debug__" : Str)) = false) (c0 : (slf == ("__classdict__" : Str)) = false) (d1 : (n1 == ("__debug__" : Str)) = false) (c1 : (n1 == ("__classdict__" : Str)) = false) :
    FnOk P w K mg base CX (k + 1) f fd [slf, n1] (spI C [n1]) := by
  refine fn_sup T G S rfl hB B (fun vs H Q E ⟨a, ws, e, l, _⟩ => by rw [e]; simp [l]) fun A outer s H vs Q E hr ⟨a, ws, ev, l, ea, q⟩ => ?_
  subst ev
  match ws, l with
  | [v1], _ =>
    have v0 : Vis F.scope slf := .inl (S.par slf (List.mem_cons_self ..))
    have v1' : Vis F.scope n1 := .inl (S.par n1 (List.mem_cons_of_mem _ (List.mem_cons_self ..)))
    refine ⟨a, tCons (tVar 1) tNil, _, rfl, ea, pa_cons (pe_var rfl v1' d1 c1) pa_nil, pss_one (ps_ost (pe_var (i := 0) rfl v0 d0 c0) (pe_var (i := 1) rfl v1' d1 c1)), ?_⟩
    refine ⟨v1, rfl, by simp, ea, v1, rfl, .ref a, rfl, a, C, rfl, T.oex, no1, .inl ⟨ea, fun dx hdx hne => ?_⟩⟩
    refine q dx _ hdx hne upd_same ?_ fun b h1 h2 => ?_
    · rw [upd_ne hne, upd_same] <;> rfl
    · rw [upd_ne h1, upd_ne h2]
/-- two fields -/
theorem init2 (T : SupC P K mg F f C cc slf) (G : SupFn K F f fd) (S : NScope [slf, n1, n2, "__class__"] [slf, n1, n2] [("__class__" : Str)] F.scope)
    (hB : F.body = [.Expr (.Call (.Attribute (.Call (.Name "super" p0) [] [] p1) "__init__" p2) [.Name n1 q1, .Name n2 q10] [] p3) p4, .Assign [.Attribute (.Name slf q2) n1 q3] (.Name n1 q4) q5, .Assign [.Attribute (.Name slf q6) n2 q7] (.Name n2 q8) q9]) (B : SupB F f (.Name n1 q1) [.Name n2 q10] p0 p1 p2 p3 p4 pl)
    (no1 : PySem.W.findIn K (.ref C) n1 = some none) (no2 : PySem.W.findIn K (.ref C) n2 = some none) (d0 : (slf == ("__debug__" : Str)) = false) (c0 : (slf == ("__classdict__" : Str)) = false) (d1 : (n1 == ("__debug__" : Str)) = false) (c1 : (n1 == ("__classdict__" : Str)) = false)
    (d2 : (n2 == ("__debug__" : Str)) = false) (c2 : (n2 == ("__classdict__" : Str)) = false) :
    FnOk P w K mg base CX (k + 1) f fd [slf, n1, n2] (spI C [n1, n2]) := by
  refine fn_sup T G S rfl hB B (fun vs H Q E ⟨a, ws, e, l, _⟩ => by rw [e]; simp [l]) fun A outer s H vs Q E hr ⟨a, ws, ev, l, ea, q⟩ => ?_
  subst ev
  match ws, l with
  | [v1, v2], _ =>
    have v0 : Vis F.scope slf := .inl (S.par slf (List.mem_cons_self ..))
    have v1' : Vis F.scope n1 := .inl (S.par n1 (List.mem_cons_of_mem _ (List.mem_cons_self ..)))
    have v2' : Vis F.scope n2 := .inl (S.par n2 (List.mem_cons_of_mem _ (List.mem_cons_of_mem _ (List.mem_cons_self ..))))
    refine ⟨a, tCons (tVar 1) (tCons (tVar 2) tNil), _, rfl, ea, pa_cons (pe_var rfl v1' d1 c1) (pa_cons (pe_var rfl v2' d2 c2) pa_nil),
      pss_cons (ps_ost (pe_var (i := 0) rfl v0 d0 c0) (pe_var (i := 1) rfl v1' d1 c1)) (pss_one (ps_ost (pe_var (i := 0) rfl v0 d0 c0) (pe_var (i := 2) rfl v2' d2 c2))), ?_⟩
    refine ⟨v1, rfl, v2, rfl, by simp, ea, v1, rfl, .ref a, rfl, a, C, rfl, T.oex, no1, .inl ⟨ea, fun dx hdx hne => ?_⟩⟩
    refine ⟨v2, rfl, .ref a, rfl, a, C, rfl, T.oex, no2, .inr ⟨dx, [(n1, v1)], upd_same, ?_, by simp, ?_⟩⟩
    · rw [upd_ne hne, upd_same] <;> rfl
    · refine q dx _ hdx hne ?_ upd_same fun b h1 h2 => ?_
      · rw [upd_ne (Ne.symm hne), upd_same]
      · rw [upd_ne h2, upd_ne h1, upd_ne h2]
end
/-! the statement -/
/-- raise X(e, ..) -/
def sRaise (x : Str) (names : List Str) (t : AX) : TS := fun E r => t E.ex r fun vs r1 => match allD vs with
  | some ds => ds.length = names.length ∧ E.ex ⟨x, (names.zip ds).reverse⟩ r1
  | none => False
theorem zip_fst : ∀ (names : List Str) (ds : List D), ds.length = names.length → (names.zip ds).map (·.1) = names
  | [], _, _ => by simp
  | n :: ns, [], h => by simp at h
  | n :: ns, d :: ds, h => by simp [zip_fst ns ds (by simpa using h)]
theorem zip_snd : ∀ (names : List Str) (ds : List D), ds.length = names.length → (names.zip ds).map (·.2) = ds
  | [], [], _ => by simp
  | [], _ :: _, h => by simp at h
  | n :: ns, [], h => by simp at h
  | n :: ns, d :: ds, h => by simp [zip_snd ns ds (by simpa using h)]
theorem zip_rev : ∀ (names : List Str) (vs : List V), vs.length = names.length → (names.zip vs).reverse = names.reverse.zip vs.reverse := fun names vs h => by
  rw [List.zip_eq_zipWith, List.zip_eq_zipWith, List.reverse_zipWith h.symm]
section
variable {X : Cx} {W : WX} {e : Expr} {es : List Expr} {p pos pos' : Pos} {x : Str} {C : Addr} {names : List Str} {u : AX}
theorem ds_raise (hc : X.calm = true) (tk : Takes X W) (hm : X.mg x = some (.ref C)) (ha : DA X W (e :: es) u) (mk : ∀ ta, PA X (e :: es) ta → PMk X (.Call (.Name x p) (e :: es) [] pos) (tMkO C (spI C names) [] ta)) (hn : (e :: es).length = names.length) (hs : names.length ≤ 1000 := by decide) :
    DS X W (.Raise (some (.Call (.Name x p) (e :: es) [] pos)) none pos') (sRaise x names u) := by
  obtain ⟨t, pa, ent⟩ := ha.ex
  refine ⟨⟨_, ps_raise hc tk (mk t pa), fun Cc r σ H F E D' hK R L hf => ?_⟩⟩
  refine ent Cc r σ H F _ E.ex _ hK R (L.ex σ) hf fun vs H1 F1 ds r1 hl R1 A1 q1 => ?_
  cases hd : allD ds with
  | none => rw [hd] at q1; exact q1.elim
  | some dd =>
    rw [hd] at q1
    obtain ⟨hlen, q1⟩ := q1
    have hv : vs.length = names.length := hl.trans hn
    refine ⟨by omega, fun a hna => ⟨a, vs ++ [], rfl, by simpa using hv, upd_same, fun dx H2 hdx hne e1 e2 e3 => ⟨rfl, dx, _, e1, e2, ?_, ?_⟩⟩⟩
    · rw [← hdx, upd_ne hne]
    · rw [List.append_nil] at e2 ⊢
      have hdx1 : H1 dx = none := by rw [← hdx, upd_ne hne]
      have eH : upd (del H2 a) dx (.xd (names.zip vs).reverse) = upd H1 dx (.xd (names.zip vs).reverse) := by
        funext b
        by_cases hb : b = dx
        · rw [hb, upd_same, upd_same]
        · rw [upd_ne hb, upd_ne hb]
          by_cases hba : b = a
          · rw [hba, del_same, hna]
          · rw [del_ne hba, e3 b hba hb, upd_ne hba]
      rw [eH]
      have R2 := R1.new (o := .xd (names.zip vs).reverse) hdx1
      have Lt : Later H1 F1 (upd H1 dx (.xd (names.zip vs).reverse)) F1 := fun y z => ⟨z, upd_ne fun q => R1.ftrk y z (q ▸ hdx1)⟩
      refine L.ex σ _ r1 _ F1 _ _ R2 ⟨C, hm, rfl, .inr ⟨dx, vs.reverse, rfl, ?_, ?_⟩⟩ q1
      · rw [upd_same, zip_rev _ _ hv]
        show some (HO.xd _) = some (HO.xd (List.zip ((names.zip dd).reverse.map (·.1)) vs.reverse))
        rw [List.map_reverse, zip_fst _ _ hlen]
      · show DpFs Cc.K _ F1 vs.reverse ((names.zip dd).reverse.map (·.2))
        rw [List.map_reverse, zip_snd _ _ hlen]
        exact ((ArgR.all A1 hd).mono Lt).rev
end
end DL

/-! DL: try: .. except X as e: return (.., e.f, ..) -/
namespace DL
open PySem PySem.Spec L2
/-- one reading for a row of statements -/
def sCan (X : Cx) (W : WX) (f : TS) : L2.TS := fun D σ H => ∃ (C : Ctx) (r : Env) (F : AP) (E : Ends), C.K = X.K ∧ Rep C r σ H F ∧ EndsR X W C D E ∧ f E r
theorem EndsR.turn {X Y : Cx} {W : WX} {C : Ctx} {D : L2.Ends} {E : Ends} (q : EndsR X W C D E) (h : X.mg = Y.mg) : EndsR Y W C D E :=
  ⟨q.nx, q.rt, q.bk, q.ct, fun σ er r' H' F' cls d R e w => q.ex σ er r' H' F' cls d R (h ▸ e) w⟩
theorem DSs.can {X Y : Cx} {W : WX} {st : List Stmt} {f : TS} (h : DSs Y W st f) (hm : X.mg = Y.mg) (hk : X.K = Y.K) : PSs Y st (sCan X W f) := by
  obtain ⟨t, ps, ent⟩ := h.ex
  exact ⟨fun pins s σ H D I ⟨C, r, F, E, hK, R, q, hf⟩ => ps.run pins s σ H D I (ent C r σ H F E D (hK.trans hk) R (q.turn hm) hf)⟩
theorem Rep.any1 {C : Ctx} {r : Env} {σ : L2.St} {H : Hp} {F : AP} {i : Nat} {u : Option V} (R : Rep C r σ H F) : Rep C (putO r i none) (σ.set i u) H F where
  len := by rw [len_putO, List.length_set]; exact R.len
  slot := fun j d e => by
    obtain ⟨n, e'⟩ := sl_put_none e
    rw [List.getElem?_set_ne (Ne.symm n)]
    exact R.slot j d e'
  dist := fun j k dj dk a e1 e2 o1 o2 s1 s2 => by
    obtain ⟨n1, e1⟩ := sl_put_none e1
    obtain ⟨n2, e2⟩ := sl_put_none e2
    rw [List.getElem?_set_ne (Ne.symm n1)] at s1
    rw [List.getElem?_set_ne (Ne.symm n2)] at s2
    exact R.dist j k dj dk a e1 e2 o1 o2 s1 s2
  keep := R.keep
  fsub := R.fsub
  fnew := R.fnew
  fz := R.fz
  ftrk := R.ftrk
  ownz := fun j ds a e o1 s1 => by
    obtain ⟨n1, e1⟩ := sl_put_none e
    rw [List.getElem?_set_ne (Ne.symm n1)] at s1
    exact R.ownz j ds a e1 o1 s1
  bag := R.bag
  tb := R.tb
/-! ### the suite -/
abbrev GH := Err → (D → Prop) → Prop
abbrev GHs := Err → (List D → Prop) → Prop
abbrev SH := Err → (DV → Prop) → Prop
/-- a part of what is handed back: nothing is made -/
structure DHA (X : Cx) (i : Nat) (e : Expr) (g : GH) : Prop where
  ex : ∀ (a : Addr) (oe : Obj) (cls : Value) (d : Option Addr) (pn : List (Addr × Obj)), Zc cls d oe → (∃ vs, oe.data = .fields vs) → ∃ t, PE (X.suite a ((a, oe) :: pn)) e t ∧
    ∀ (σ : L2.St) (H : Hp) (F : AP) (er : Err) (Q : D → Prop) (QV : VK), σ[i]? = some (some (.ref a)) → ErrR X.mg X.K H F cls d er → g er Q → (∀ v x, DpF X.K H F v x → Q x → QV v H) → t σ H QV
structure DHS (X : Cx) (i : Nat) (es : List Expr) (g : GHs) : Prop where
  ex : ∀ (a : Addr) (oe : Obj) (cls : Value) (d : Option Addr) (pn : List (Addr × Obj)), Zc cls d oe → (∃ vs, oe.data = .fields vs) → ∃ t, PA (X.suite a ((a, oe) :: pn)) es t ∧
    ∀ (σ : L2.St) (H : Hp) (F : AP) (er : Err) (Q : List D → Prop) (QV : List V → Hp → Prop), σ[i]? = some (some (.ref a)) → ErrR X.mg X.K H F cls d er → g er Q → (∀ vs xs, DpFs X.K H F vs xs → Q xs → QV vs H) → t σ H QV
/-- a suite that hands back -/
structure DH (X : Cx) (i : Nat) (st : List Stmt) (g : SH) : Prop where
  ex : ∀ (a : Addr) (oe : Obj) (cls : Value) (d : Option Addr) (pn : List (Addr × Obj)), Zc cls d oe → (∃ vs, oe.data = .fields vs) → ∃ t, PSs (X.suite a ((a, oe) :: pn)) st t ∧
    ∀ (C : Ctx) (r : Env) (σ : L2.St) (H : Hp) (F : AP) (er : Err) (Q : DV → Prop) (D' : L2.Ends), C.K = X.K → Rep C r σ H F → σ[i]? = some (some (.ref a)) → ErrR X.mg X.K H F cls d er → g er Q →
      (∀ v H' F' dv, Fin C H' F' → RetR C H' F' v dv → Q dv → D'.rt v H') → t D' σ H
section
variable {X : Cx} {i j : Nat} {e : Expr} {es : List Expr} {pos p : Pos} {x f n : Str} {C : Addr}
def hC (d : D) : GH := fun _ Q => Q d
/-- e.f, e of the class x -/
def hF (x f : Str) : GH := fun er Q => er.cls = x ∧ ∃ d, er.fs.lookup f = some d ∧ Q d
def hNil : GHs := fun _ Q => Q []
def hCons (g : GH) (t : GHs) : GHs := fun er Q => g er fun d => t er fun ds => Q (d :: ds)
def hRetT (t : GHs) : SH := fun er Q => t er fun ds => ds.length ≤ 16777216 ∧ Q (.dat (.tuple ds))
theorem dh_str : DHA X i (.Constant (.str f) j pos) (hC (.str f)) := ⟨fun a oe cls d pn _ _ => ⟨_, pe_str, fun σ H F er Q QV _ _ q k => k _ _ (.str f) q⟩⟩
theorem dh_int {m : Int} : DHA X i (.Constant (.int m) j pos) (hC (.int m)) := ⟨fun a oe cls d pn _ _ => ⟨_, pe_int, fun σ H F er Q QV _ _ q k => k _ _ (.int m) q⟩⟩
theorem dh_none : DHA X i (.Constant .none j pos) (hC .none) := ⟨fun a oe cls d pn _ _ => ⟨_, pe_non, fun σ H F er Q QV _ _ q k => k _ _ .non q⟩⟩
theorem zip_look {K : PySem.W.Frag} {H : Hp} {F : AP} {f : Str} : ∀ {fs : List (Str × D)} {vs : List V} {d : D}, DpFs K H F vs (fs.map (·.2)) → fs.lookup f = some d → ∃ v, (List.zip (fs.map (·.1)) vs).lookup f = some v ∧ DpF K H F v d
  | [], _, _, _, h => by cases h
  | (g, y) :: fs, vs, d, h, e => by
    cases h with
    | cons h1 hs =>
      by_cases q : f = g
      · subst q
        simp [List.lookup] at e
        subst e
        exact ⟨_, by simp [List.lookup], h1⟩
      · have qq : (f == g) = false := by simpa using q
        simp [List.lookup, qq] at e
        obtain ⟨v, e1, e2⟩ := zip_look hs e
        exact ⟨v, by simpa [List.lookup, qq] using e1, e2⟩
theorem dh_fld (T : XfC X.K C) (hno : PySem.W.findIn X.K (.ref C) f = some none) (hm : X.mg x = some (.ref C)) (hN : X.N[i]? = some n) (hv : Vis X.env.scope n)
    (hb : attributeBase (.Name n p) f X.env (eval (.Name n p) X.env) = eval (.Name n p) X.env := by rfl) (hd : (n == ("__debug__" : Str)) = false := by decide) (hcd : (n == ("__classdict__" : Str)) = false := by decide) :
    DHA X i (.Attribute (.Name n p) f pos) (hF x f) := ⟨fun a oe cls d pn hz hf => by
  refine ⟨_, pe_xf T hno hz hf (pe_var (X := X.suite a ((a, oe) :: pn)) hN hv hd hcd) hb, fun σ H F er Q QV hσ hE ⟨hx, y, hl, q⟩ k => ?_⟩
  obtain ⟨Cc, m1, rfl, hE⟩ := hE
  rcases hE with ⟨ef, _⟩ | ⟨dd, vs, rfl, hH, hD⟩
  · rw [ef] at hl; cases hl
  rw [hx, hm] at m1
  cases m1
  obtain ⟨v, e1, e2⟩ := zip_look hD hl
  exact ⟨_, hσ, rfl, rfl, dd, _, v, rfl, hH, e1, k v y e2 q⟩⟩
theorem dhs_nil : DHS X i [] hNil := ⟨fun a oe cls d pn _ _ => ⟨_, pa_nil, fun σ H F er Q QV _ _ q k => k _ _ .nil q⟩⟩
theorem dhs_cons {g : GH} {t : GHs} (h : DHA X i e g) (hs : DHS X i es t) (he : starEach (e :: es) X.env = (false, eval e X.env) :: starEach es X.env := by rfl) : DHS X i (e :: es) (hCons g t) := ⟨fun a oe cls d pn hz hf => by
  obtain ⟨t1, p1, k1⟩ := h.ex a oe cls d pn hz hf
  obtain ⟨t2, p2, k2⟩ := hs.ex a oe cls d pn hz hf
  exact ⟨_, pa_cons p1 p2 he, fun σ H F er Q QV hσ hE q k => k1 σ H F er _ _ hσ hE q fun v y hv q1 => k2 σ H F er _ _ hσ hE q1 fun vs ys hvs q2 => k _ _ (.cons hv hvs) q2⟩⟩
theorem dh_ret {t : GHs} (h : DHS X i es t) : DH X i [.Return (some (.Tuple es j p)) pos] (hRetT t) := ⟨fun a oe cls d pn hz hf => by
  obtain ⟨t1, p1, k1⟩ := h.ex a oe cls d pn hz hf
  refine ⟨_, pss_one (ps_ret (pe_tup p1)), fun C r σ H F er Q D' hK R hσ hE q k => ?_⟩
  refine k1 σ H F er _ _ hσ hE q fun vs ys hvs q1 => ⟨by rw [line_eq, hvs.length]; exact q1.1, fun pa hp => ?_⟩
  obtain ⟨R2, G2, _⟩ := R.freshTup hp (hK ▸ hvs)
  exact k _ _ _ _ R2.fin G2.ret q1.2⟩
end
/-! ### try -/
/-- try: p / except X as e: h; cs: which errors X takes -/
def sTry (cs : List (Str × Bool)) (i : Nat) (p : TS) (h : SH) : TS := fun E r => p { E with ex := fun er r1 => match cs.lookup er.cls with
  | some true => i < r1.length ∧ h er E.rt
  | some false => E.ex er r1
  | none => False } r
section
variable {X : Cx} {W : WX} {x n : Str} {cv : Value} {i : Nat} {body suite : List Stmt} {b₀ : Stmt} {np pos pos' : Pos} {p : TS} {h : SH} {cs : List (Str × Bool)}
theorem ds_try (hs : X.stack = X.env :: X.outer) (hf : X.env.frame = some X.env.locals) (hN : X.N.Nodup) (hi : X.N[i]? = some n) (hln : X.env.kindOf n = some .local) (hc : Names X x cv) (tk : Takes X W)
    (hcs : ∀ y b, cs.lookup y = some b → ∀ Cc, X.mg y = some (.ref Cc) → PySem.W.exmOne X.K (.ref Cc) cv = some b)
    (hb : ∀ (W' : WX) (pn : List (Addr × Obj)) (xe : Value → Shared → Prop), Takes (X.tr pn xe) W' → PassesOwn (model X.prog X.w) X.A X.env xe → DSs (X.tr pn xe) W' body p)
    (hsu : DH X i (b₀ :: suite) h) : DS X W (.Try body [.ExceptHandler (some (.Name x np)) (some n) (b₀ :: suite) pos'] [] [] pos) (sTry cs i p h) := by
  refine ⟨⟨_, ps_try_as (tb := fun W' => sCan X W' p)
    (ts := fun a cls d D σ H => ∃ (C : Ctx) (r : Env) (F : AP) (er : Err) (Q : DV → Prop), C.K = X.K ∧ Rep C r σ H F ∧ σ[i]? = some (some (.ref a)) ∧ ErrR X.mg X.K H F cls d er ∧ h er Q ∧ ∀ v H' F' dv, Fin C H' F' → RetR C H' F' v dv → Q dv → D.rt v H')
    hs hf hN hi hln hc tk (fun W' pn xe t1 p1 => (hb W' pn xe t1 p1).can rfl rfl) (fun a oe cls d pn hz hfl => ?_), fun C r σ H F E D' hK R k hq => ?_⟩⟩
  · obtain ⟨t, ps, ent⟩ := hsu.ex a oe cls d pn hz hfl
    exact ⟨fun pins s σ H D I ⟨C, r, F, er, Q, hK, R, hσ, hE, hh, k⟩ => ps.run pins s σ H D I (ent C r σ H F er Q D hK R hσ hE hh k)⟩
  · refine ⟨C, r, F, { E with ex := fun er r1 => match cs.lookup er.cls with
      | some true => i < r1.length ∧ h er E.rt
      | some false => E.ex er r1
      | none => False }, hK, R, ⟨k.nx, k.rt, k.bk, k.ct, fun σ' er r' H' F' cls d R' hE q => ?_⟩, hq⟩
    obtain ⟨Cc, m1, rfl, _⟩ := id hE
    cases hl : cs.lookup er.cls with
    | none => simp only [hl] at q
    | some b =>
      simp only [hl] at q
      refine ⟨b, hcs _ _ hl _ m1, fun hb a na => ?_, fun hb => ?_⟩
      · subst hb
        have hlt : i < σ'.length := R'.len ▸ q.1
        exact ⟨C, putO r' i none, F', er, E.rt, hK, R'.any1, by rw [List.getElem?_set_self hlt], hK ▸ hE, q.2, fun v H2 F2 dv f2 r2 q2 => k.rt v H2 F2 dv f2 r2 q2⟩
      · subst hb
        exact k.ex σ' er r' H' F' _ _ R' hE q
end
end DL

/-! DL: i *= j -/
namespace DL
open PySem PySem.Spec L2 PyProof.Rows
def dMulI : Op2 := fun x y Q => match x, y with
  | .int a, .int b => mulOk a b ∧ Q (.dat (.int (a * b)))
  | _, _ => False
def ipM : TIp := fun x y H Q => ∃ i j, x = .int i ∧ y = .int j ∧ mulOk i j ∧ Q (.int (i * j)) H
theorem ip_mul {X : Cx} : PIp X .Mult ipM := by
  intro pins s σ H x y v u Q I r1 r2 h
  obtain ⟨i, j, e1, e2, hm, q⟩ := h
  subst e1; subst e2
  obtain ⟨t, rfl⟩ := r1
  obtain ⟨t', rfl⟩ := r2
  exact imul_int ⟨.int _, H, I.tok _, ⟨_, rfl⟩, q⟩ ((mulOk_of hm).elim CMul.ok CMulW.ok)
theorem sem_ipM {K : PySem.W.Frag} : Sem2 K ipM dMulI := by
  intro C r σ H F x y dx dy Q QV hK R hx hy hq k
  unfold dMulI at hq
  split at hq
  · cases hx.int; cases hy.int
    exact ⟨_, _, rfl, rfl, hq.1, kq_dat k R (.int _) hq.2⟩
  · exact hq.elim
end DL

/-! DL: what is shown of an own error's class. -/
namespace DL
open PySem PySem.Spec L2 PyProof.Rows
open NdefX (NF)
def clsBody : Stmt → List Stmt
  | .ClassDef _ _ _ body _ _ _ _ _ _ _ => body
  | _ => []
def initOf (q : Str) (st : Stmt) (cc cda : Addr) : NF := ⟨"__init__", q, defArgs st, defBody st, defScope st, [(("__class__" : Str), cc)], cda⟩
/-- an own error: its class at C, st its __init__ -/
structure ErrT (P : Program) (K : PySem.W.Frag) (mg : Str → Option Value) (x q : Str) (st : Stmt) (C : Addr) : Prop where
  g : mg x = some (.ref C)
  ex : ∃ (f cc cda : Addr) (kV dc pm ct : Value) (an : Option Addr), SupC P K mg (initOf q st cc cda) f C cc "self" ∧
    SupFn K (initOf q st cc cda) f (PySem.W.fnX "__init__" q (defArgs st) (defBody st) (defScope st) [(("__class__" : Str), cc)] .none kV dc pm an (.ref cda) ct) ∧
    PySem.W.findIn K (.ref C) "__init__" = some (some (.ref f)) ∧ PySem.W.typeIn K (.ref f) = some (.type "function")
  xf : XfC K C
theorem errT_mk {P : Program} {K : PySem.W.Frag} {mg : Str → Option Value} {h : Heap} {x q : Str} {st : Stmt} {C f cc cda : Addr} {oc kV dc pm ct c1 g1 : Value} {od an c2 g2 dd : Option Addr} {osl c3 g3 : Array (Option Value)} {vs : Array Value} {file : Str} {tf : Tok} {ar : Arg} {cd : ClassData}
    {nm qn : Str} {N : Addr} {bs bm sub : List Value} {sn : List Str} {ab : Bool} {col : Option Bool} {k0 k1 k2 k3 k5 : Option Value}
    (X : K.In h) (G : h.Ns mainGlobals mg)
    (a : PySem.W.nsIn K mainGlobals x = some (some (.ref C))) (b : PySem.W.findIn K (.ref C) "__init__" = some (some (.ref f))) (tI : PySem.W.typeIn K (.ref f) = some (.type "function"))
    (l : K.lookup f = some ⟨oc, od, .func (PySem.W.fnX "__init__" q (defArgs st) (defBody st) (defScope st) [(("__class__" : Str), cc)] .none kV dc pm an (.ref cda) ct), osl⟩)
    (cI : PySem.W.codeIn K (.ref cda) q = true) (lc : K.lookup cda = some ⟨c1, c2, .fields vs, c3⟩) (hv : vs[2]? = some (.str file tf)) (hf : ((P.main.file : Str) == file) = true)
    (lg : K.lookup cc = some ⟨g1, g2, .cell (some (.ref C)), g3⟩) (hcl : PySem.W.clsIn K C = some cd) (hs : PySem.W.mroIn K C (.ref C) = some true) (noS : PySem.W.nsIn K mainGlobals "super" = some none) (any : PySem.W.nsIn K cStatics "thirdparty.any" = some none)
    (ini : PySem.W.ks_superIn K C C "__init__" = some (some (.builtin "ValueError.__init__"))) (isV : PySem.W.subIn K (.ref C) (.type "ValueError") = some true)
    (lC : K.lookup C = some (excClassObj nm qn C N bs bm true sn sub ab col dd k0 k1 k2 k3 k5 "ValueError.__new__")) (rv : PySem.HandSPX.refsVE bm = true) (sa : PySem.W.findIn K (.ref C) "__setattr__" = some (some (.builtin "object.__setattr__")))
    (exC : PySem.W.subIn K (.ref C) (.type "BaseException") = some true) (tyC : PySem.W.typeIn K (.ref C) = some (.type "type")) (kC : PySem.W.keepIn K (.ref C) = true)
    (ga : PySem.W.findIn K (.ref C) "__getattribute__" = some (some (.builtin "BaseException.__getattribute__"))) (gg : PySem.W.findIn K (.ref C) "__getattr__" = some none) (hd : PySem.W.hasDictIn K C = true)
    (har : ((defArgs st).posonlyargs ++ (defArgs st).args).head? = some ar) (hself : ar.arg = "self") (kS : (defScope st).names.lookup ("super" : Str) = some .globalImplicit) (kCl : (defScope st).names.lookup ("__class__" : Str) = some .free)
    (kL : (defScope st).names.lookup ("self" : Str) = some .local) (top : (P.main.scope.names.lookup ("super" : Str)).isSome = false) : ErrT P K mg x q st C where
  g := PySem.W.mg_of X G a
  ex := ⟨f, cc, cda, kV, dc, pm, ct, an, ⟨rfl, ⟨_, _, _, _, ar, l, har, hself⟩, ⟨_, _, _, _, _, _, lc, hv, hf⟩, ⟨_, _, _, lg⟩, ⟨_, hcl⟩, hs, PySem.W.mg_none_of X G noS, kS, kCl, kL, top, any, ini, isV,
    ⟨⟨nm, qn, N, bs, bm, sn, sub, ab, col, dd, k0, k1, k2, k3, k5, lC, rv⟩, sa, exC, tyC, kC⟩⟩, ⟨_, _, _, _, _, _, _, _, rfl, l, cI⟩, b, tI⟩
  xf := ⟨ga, gg, exC, hd⟩

open NdefX (NScope)
/-- X(e, f) of an own error with two fields -/
theorem mk2 {X : Cx} {x q n1 n2 : Str} {st : Stmt} {C : Addr} {e : Expr} {es : List Expr} {p pos p0 p1 p2 p3 p4 q1 q2 q3 q4 q5 q6 q7 q8 q9 q10 : Pos} {pl : PySem.Env → Sem Bool} (T : ErrT X.prog X.K X.mg x q st C)
    (S : NScope ["self", n1, n2, "__class__"] ["self", n1, n2] [("__class__" : Str)] (defScope st))
    (hB : defBody st = [.Expr (.Call (.Attribute (.Call (.Name "super" p0) [] [] p1) "__init__" p2) [.Name n1 q1, .Name n2 q10] [] p3) p4, .Assign [.Attribute (.Name "self" q2) n1 q3] (.Name n1 q4) q5, .Assign [.Attribute (.Name "self" q6) n2 q7] (.Name n2 q8) q9])
    (B : ∀ cc cda f, SupB (initOf q st cc cda) f (.Name n1 q1) [.Name n2 q10] p0 p1 p2 p3 p4 pl)
    (no1 : PySem.W.findIn X.K (.ref C) n1 = some none) (no2 : PySem.W.findIn X.K (.ref C) n2 = some none)
    (hb : ∀ (cc : Addr) (kV dc pm ct cdv : Value) (an : Option Addr) (us : List Value), us.length = 3 → bindArgs (PySem.W.fnX "__init__" q (defArgs st) (defBody st) (defScope st) [(("__class__" : Str), cc)] .none kV dc pm an cdv ct) ⟨us, []⟩ = pure ([("self" : Str), n1, n2].zip us))
    (hr : Room 2 X.A) (hg : Gl X x)
    (d1 : (n1 == ("__debug__" : Str)) = false := by decide) (c1 : (n1 == ("__classdict__" : Str)) = false := by decide) (d2 : (n2 == ("__debug__" : Str)) = false := by decide) (c2 : (n2 == ("__classdict__" : Str)) = false := by decide) (hdb : (x == ("__debug__" : Str)) = false := by decide)
    (he : starEach (e :: es) X.env = (false, eval e X.env) :: starEach es X.env := by rfl) (hpl : (backTo pos (starEach es X.env)).any (·.1) = false := by rfl) :
    ∀ ta, PA X (e :: es) ta → PMk X (.Call (.Name x p) (e :: es) [] pos) (tMkO C (spI C [n1, n2]) [] ta) := fun ta ha => by
  obtain ⟨f, cc, cda, kV, dc, pm, ct, an, Sc, Sf, iC, tI⟩ := T.ex
  have F1 : FnOk X.prog X.w X.K X.mg X.base (L2.CX X.prog X.w) 1 f _ ["self", n1, n2] (spI C [n1, n2]) :=
    init2 (k := 0) Sc Sf S hB (B cc cda f) no1 no2 (by decide) (by decide) d1 c1 d2 c2
  exact pmk_oex Sc.oex iC tI F1 hr (.all (fun us hl => hb cc kV dc pm ct (.ref cda) an us hl)) .nil passL hg T.g ha hdb he hpl
/-- X(e) of an own error with one field -/
theorem mk1 {X : Cx} {x q n1 : Str} {st : Stmt} {C : Addr} {e : Expr} {es : List Expr} {p pos p0 p1 p2 p3 p4 q1 q2 q3 q4 q5 : Pos} {pl : PySem.Env → Sem Bool} (T : ErrT X.prog X.K X.mg x q st C)
    (S : NScope ["self", n1, "__class__"] ["self", n1] [("__class__" : Str)] (defScope st))
    (hB : defBody st = [.Expr (.Call (.Attribute (.Call (.Name "super" p0) [] [] p1) "__init__" p2) [.Name n1 q1] [] p3) p4, .Assign [.Attribute (.Name "self" q2) n1 q3] (.Name n1 q4) q5])
    (B : ∀ cc cda f, SupB (initOf q st cc cda) f (.Name n1 q1) [] p0 p1 p2 p3 p4 pl) (no1 : PySem.W.findIn X.K (.ref C) n1 = some none)
    (hb : ∀ (cc : Addr) (kV dc pm ct cdv : Value) (an : Option Addr) (us : List Value), us.length = 2 → bindArgs (PySem.W.fnX "__init__" q (defArgs st) (defBody st) (defScope st) [(("__class__" : Str), cc)] .none kV dc pm an cdv ct) ⟨us, []⟩ = pure ([("self" : Str), n1].zip us))
    (hr : Room 2 X.A) (hg : Gl X x)
    (d1 : (n1 == ("__debug__" : Str)) = false := by decide) (c1 : (n1 == ("__classdict__" : Str)) = false := by decide) (hdb : (x == ("__debug__" : Str)) = false := by decide)
    (he : starEach (e :: es) X.env = (false, eval e X.env) :: starEach es X.env := by rfl) (hpl : (backTo pos (starEach es X.env)).any (·.1) = false := by rfl) :
    ∀ ta, PA X (e :: es) ta → PMk X (.Call (.Name x p) (e :: es) [] pos) (tMkO C (spI C [n1]) [] ta) := fun ta ha => by
  obtain ⟨f, cc, cda, kV, dc, pm, ct, an, Sc, Sf, iC, tI⟩ := T.ex
  have F1 : FnOk X.prog X.w X.K X.mg X.base (L2.CX X.prog X.w) 1 f _ ["self", n1] (spI C [n1]) :=
    init1 (k := 0) Sc Sf S hB (B cc cda f) no1 (by decide) (by decide) d1 c1
  exact pmk_oex Sc.oex iC tI F1 hr (.all (fun us hl => hb cc kV dc pm ct (.ref cda) an us hl)) .nil passL hg T.g ha hdb he hpl
theorem tr_gd {g : Bool} {X : Cx} {W : WX} {pn : List (Addr × Obj)} {xe : Value → Shared → Prop} (_ : Takes (X.tr pn xe) W) (h : g = true → X.A.guards = some []) : g = true → (X.tr pn xe).A.guards = some [] := h
theorem tr_room {X : Cx} {W : WX} {k : Nat} {pn : List (Addr × Obj)} {xe : Value → Shared → Prop} (_ : Takes (X.tr pn xe) W) (h : Room k X.A) : Room k (X.tr pn xe).A := h
/-- which errors a clause takes -/
def Takn (K : PySem.W.Frag) (mg : Str → Option Value) (cv : Value) (cs : List (Str × Bool)) : Prop := ∀ y b, cs.lookup y = some b → ∀ Cc, mg y = some (.ref Cc) → PySem.W.exmOne K (.ref Cc) cv = some b
theorem tk_nil {K : PySem.W.Frag} {mg : Str → Option Value} {cv : Value} : Takn K mg cv [] := fun _ _ h => by cases h
theorem tk_cons {K : PySem.W.Frag} {mg : Str → Option Value} {cv : Value} {cs : List (Str × Bool)} {x : Str} {b : Bool} {C : Addr} (g : mg x = some (.ref C)) (e : PySem.W.exmOne K (.ref C) cv = some b) (h : Takn K mg cv cs) : Takn K mg cv ((x, b) :: cs) := fun y c hl Cc m => by
  by_cases q : y = x
  · subst q
    simp [List.lookup] at hl
    subst hl
    have m' := m.symm.trans g
    cases m'
    exact e
  · have qq : (y == x) = false := by simpa using q
    simp [List.lookup, qq] at hl
    exact h y c hl Cc m
end DL

/-! DL: comprehensions with two fors; starred parts of a display. -/
namespace DL
open PySem PySem.Spec PyProof.Rows L2
/-! ### (*e, ..) -/
/-- the items of e ahead of the others -/
def aStar (f : TX) (t : AX) : AX := fun X r Q => f X r fun dv r1 => match dv.toD with
  | some (.tuple ds) => t X r1 fun vs r2 => Q (ds.map .dat ++ vs) r2
  | some (.list ds) => t X r1 fun vs r2 => Q (ds.map .dat ++ vs) r2
  | _ => False
section
variable (X : Cx) (W : WX)
structure DAs (es : List Expr) (f : AX) : Prop where
  ex : ∃ t, PA X es t ∧ ∀ (C : Ctx) (r : Env) (σ : L2.St) (H : Hp) (F : AP) (Q : List DV → Env → Prop) (Xk : XW) (QV : List V → Hp → Prop), C.K = X.K → Rep C r σ H F → Link X W Xk C σ → f Xk r Q →
    (∀ vs H' F' ds r', Rep C r' σ H' F' → ArgR C.K H' F' C.b vs ds → Q ds r' → QV vs H') → t σ H QV
end
theorem ArgR.dats {K : PySem.W.Frag} {H : Hp} {F : AP} {b : Option Addr} {vs : List V} {gs : List DV} : ∀ {xs : List V} {ds : List D}, DpFs K H F xs ds → ArgR K H F b vs gs → ArgR K H F b (xs ++ vs) (ds.map .dat ++ gs)
  | _, _, .nil, h => h
  | _, _, .cons h hs, k => .dat h (ArgR.dats hs k)
section
variable {X : Cx} {W : WX} {e a b c : Expr} {es : List Expr} {f h k : TX} {pos : Pos}
theorem DA.s {u : AX} (h : DA X W es u) : DAs X W es u := by
  obtain ⟨t, pa, ent⟩ := h.ex
  exact ⟨⟨t, pa, fun C r σ H F Q Xk QV hK R L hf k => ent C r σ H F Q Xk QV hK R L hf fun vs H' F' ds r' _ => k vs H' F' ds r'⟩⟩
theorem das_cons {t : AX} (p : DE X W e f) (q : DAs X W es t) (hs : starEach (e :: es) X.env = (false, eval e X.env) :: starEach es X.env := by rfl) : DAs X W (e :: es) (aCons f t) := by
  obtain ⟨u, pe, ent⟩ := p.ex
  obtain ⟨w, pa, ena⟩ := q.ex
  refine ⟨⟨_, pa_cons pe pa hs, fun C r σ H F Q Xk QV hK R L hf k => ?_⟩⟩
  refine ent C r σ H F _ Xk _ hK R L hf fun v H1 F1 dv r1 R1 G1 q1 => ?_
  cases G1 with
  | dat s =>
    refine ena (C.up H1 F1 noT) r1 σ H1 F1 _ Xk _ hK R1.up0 (L.up R1) q1 fun vs H2 F2 ds r2 R2' A2 q2 => ?_
    exact k _ H2 F2 _ r2 (R1.down R2') (.dat (s.mono R2'.later) A2) q2
  | own h1 h2 h3 h4 h5 h6 =>
    have R1f := R1.freezeT h1 h3 h4 h5 h6
    have s : DpF C.K H1 (fun x => F1 x ∨ x = _) (.ref _) (.list _) := .lst ⟨.inr rfl, h1⟩ (h2.mono later_fr)
    refine ena (C.up H1 _ noT) r1 σ H1 _ _ Xk _ hK R1f.up0 (L.up R1f) q1 fun vs H2 F2 ds r2 R2' A2 q2 => ?_
    exact k _ H2 F2 _ r2 (R1f.down R2') (.dat (s.mono R2'.later) A2) q2
  | bag s =>
    refine ena (C.up H1 F1 noT) r1 σ H1 F1 _ Xk _ hK R1.up0 (L.up R1) q1 fun vs H2 F2 ds r2 R2' A2 q2 => ?_
    exact k _ H2 F2 _ r2 (R1.down R2') (.bag s A2) q2
  | dct _ _ _ _ _ => exact q1.elim
  | nd s n =>
    refine ena (C.up H1 F1 noT) r1 σ H1 F1 _ Xk _ hK R1.up0 (L.up R1) q1 fun vs H2 F2 ds r2 R2' A2 q2 => ?_
    exact k _ H2 F2 _ r2 (R1.down R2') (.dat (s.mono R2'.later) A2) q2
theorem das_star {t : AX} {p2 : Pos} (p : DE X W e f) (q : DAs X W es t) (hs : starEach (.Starred e p2 :: es) X.env = (true, eval e X.env) :: starEach es X.env := by rfl) : DAs X W (.Starred e p2 :: es) (aStar f t) := by
  obtain ⟨u, pe, ent⟩ := p.ex
  obtain ⟨w, pa, ena⟩ := q.ex
  refine ⟨⟨_, StX.pa_star pe pa hs, fun C r σ H F Q Xk QV hK R L hf k => ?_⟩⟩
  refine ent C r σ H F _ Xk _ hK R L hf fun v H1 F1 dv r1 R1 G1 q1 => ?_
  have key : ∀ (a : Addr) (xs : List V) (ds : List D), v = .ref a → (SqT X.K H1 a xs ∨ SqL X.K H1 a xs) → DpFs C.K H1 F1 xs ds → (t Xk r1 fun vs r2 => Q (ds.map .dat ++ vs) r2) → ∃ p xs, v = V.ref p ∧ (SqT X.K H1 p xs ∨ SqL X.K H1 p xs) ∧ w σ H1 fun ys H2 => QV (xs ++ ys) H2 := by
    intro a xs ds ev hx hd q
    refine ⟨a, xs, ev, hx, ?_⟩
    refine ena (C.up H1 F1 noT) r1 σ H1 F1 _ Xk _ hK R1.up0 (L.up R1) q fun vs H2 F2 ds2 r2 R2' A2 q2 => ?_
    exact k _ H2 F2 _ r2 (R1.down R2') (ArgR.dats (hd.mono R2'.later) A2) q2
  have tup : ∀ (ds : List D), DpF C.K H1 F1 v (.tuple ds) → (t Xk r1 fun vs r2 => Q (ds.map .dat ++ vs) r2) → ∃ p xs, v = V.ref p ∧ (SqT X.K H1 p xs ∨ SqL X.K H1 p xs) ∧ w σ H1 fun ys H2 => QV (xs ++ ys) H2 := by
    intro ds s q
    cases s with
    | tup g gs => exact key _ _ _ rfl (.inl (hK ▸ g.elim (fun p => .inl p.2) fun p => p.sq H1)) gs q
  cases G1 with
  | dat s =>
    rename_i d
    cases d with
    | tuple ds => exact tup ds s q1
    | list ds =>
      cases s with
      | lst g gs => exact key _ _ _ rfl (.inr (.inl (.inl g.2))) gs q1
    | none => exact q1.elim
    | bool _ => exact q1.elim
    | int _ => exact q1.elim
    | str _ => exact q1.elim
    | dict _ => exact q1.elim
  | own h1 h2 h3 h4 h5 h6 => exact key _ _ _ rfl (.inr (.inl (.inl h1))) h2 q1
  | bag s => exact q1.elim
  | dct _ _ _ _ _ => exact q1.elim
  | nd s n => exact tup _ s q1
theorem de_tupS {t : AX} {x1} (p : DAs X W es t) : DE X W (.Tuple es x1 pos) (xTup t) := by
  obtain ⟨u, pa, ent⟩ := p.ex
  refine ⟨⟨_, pe_tup pa, fun C r σ H F Q Xk QV hK R L hf k => ?_⟩⟩
  refine ent C r σ H F _ Xk _ hK R L hf fun vs H1 F1 ds r1 R1 A1 q1 => ?_
  split at q1
  · rename_i es' ee
    have hd := A1.all ee
    refine ⟨by rw [line_eq, hd.length]; exact q1.1, fun p hp => ?_⟩
    exact k _ _ _ _ r1 (R1.newF hp) (.dat (.tup (.inl ⟨.inr rfl, .inl upd_same⟩) (hd.mono (later_new R1 hp)))) q1.2
  · exact q1.elim
theorem de_lstS {t : AX} (p : DAs X W es t) : DE X W (.List es pos) (xLst t) := by
  obtain ⟨u, pa, ent⟩ := p.ex
  refine ⟨⟨_, pe_lst pa, fun C r σ H F Q Xk QV hK R L hf k => ?_⟩⟩
  refine ent C r σ H F _ Xk _ hK R L hf fun vs H1 F1 ds r1 R1 A1 q1 => ?_
  split at q1
  · rename_i es' ee
    have hd := A1.all ee
    refine ⟨by rw [line_eq, hd.length]; exact q1.1, fun p hp => ?_⟩
    obtain ⟨R2, G2, _⟩ := R1.freshOwn hp hd
    exact k _ _ _ _ r1 R2 G2 q1.2
  · exact q1.elim
end
/-! ### two fors -/
/-- the second for, within a turn of the first -/
def lcL2 (vs vs1 : List Nat) (g : TG) (t : TB) (s1 : SX) (g1 : TG) (t1 : TB) (f : TX) : List D → List D → Env → (List D → Env → Prop) → Prop
  | [], acc, r, Q => Q acc r
  | x :: xs, acc, r, Q => g (.dat x) r fun r1 => t noX r1 fun b r2 => if b = true then
      s1 noX r2 fun ds r3 => (∀ i ∈ vs1, notOwn r3 i) ∧ lcL vs1 g1 t1 f ds acc (clrs r3 vs1) fun acc2 r4 => lcL2 vs vs1 g t s1 g1 t1 f xs acc2 (clrs r4 vs) Q
    else lcL2 vs vs1 g t s1 g1 t1 f xs acc (clrs r2 vs) Q
def xLc2 (vs vs1 : List Nat) (s : SX) (g : TG) (t : TB) (s1 : SX) (g1 : TG) (t1 : TB) (f : TX) : TX := fun X r Q => s X r fun ds r1 =>
  (∀ i ∈ vs, notOwn r1 i) ∧ lcL2 vs vs1 g t s1 g1 t1 f ds [] (clrs r1 vs) fun acc r2 => Q (.own acc) (back r1 r2 vs)
section
variable {X : Cx} {W : WX} {tg iter elt e a b c : Expr} {es : List Expr} {f h : TX} {pos : Pos} {st : Stmt}
/-- what no slot holds is held by no slot behind the wiping -/
theorem no_wiped {C : Ctx} {r : Env} {σ : L2.St} {H : Hp} {F : AP} {Dl : Addr} {o : List V} (R : Rep C r σ H F) (hD : H Dl = some (.lst o)) (nb : C.b ≠ some Dl) (no : ∀ i es, sl r i = some es → es.hold = true → σ[i]? ≠ some (some (.ref Dl))) (vs : List Nat) :
    ∀ i es, sl (clrs r vs) i = some es → es.hold = true → (L2.wipe σ vs)[i]? ≠ some (some (.ref Dl)) := by
  have Ru := R.up (T := fun z => z = Dl) fun z e => by
    subst e
    exact ⟨by rw [hD]; simp, nb, no, nt_lst hD⟩
  exact fun i es e1 o1 e2 => ((Ru.wipe vs).ownz i es Dl e1 o1 e2).1 (.inr (.inr rfl))
/-- the inner loop, from any state in which the new list waits -/
theorem lc_in {K : PySem.W.Frag} {mg : Str → Option Value} {vs ws : List Nat} {g : TG} {t : TB} {f : TX} (hw : ∀ i ∈ ws, i ∈ vs)
    {tt : L2.TT} (htt : ∀ (C : Ctx) (r : Env) (σ : L2.St) (H : Hp) (F : AP) (Q : Bool → Env → Prop) (QV : Bool → Hp → Prop), C.K = K → Rep C r σ H F → t noX r Q → (∀ b H' F' r', Rep C r' σ H' F' → Q b r' → QV b H') → tt σ H QV)
    (C : Ctx) (r1 : Env) (σ : L2.St) (H1 : Hp) (F1 : AP) (Q : List D → Env → Prop) (Nx : Hp → Prop) (J : It) (ds : List D) (Dl : Addr) (xs0 : List V) (acc0 : List D) (hK : C.K = K) (R1 : Rep C r1 σ H1 F1) (w : WalkZ C J ds H1 F1)
    (hD : H1 Dl = some (.lst xs0)) (hacc0 : DpFs C.K H1 F1 xs0 acc0) (nfD : ¬ F1 Dl) (nzD : ¬ C.Z Dl) (nbag : C.b ≠ some Dl) (no : ∀ i es, sl r1 i = some es → es.hold = true → σ[i]? ≠ some (some (.ref Dl)))
    (q1 : lcL vs g t f ds acc0 (clrs r1 vs) Q)
    (k : ∀ H' F' r' acc' xs', Rep C r' (L2.wipe σ vs) H' F' → Later H1 F1 H' F' → H' Dl = some (.lst xs') → DpFs C.K H' F' xs' acc' → ¬ F' Dl → (∀ i es, sl r' i = some es → es.hold = true → (L2.wipe σ vs)[i]? ≠ some (some (.ref Dl))) → Q acc' r' → Nx H') :
    ∃ W1 : Nat → Nat → Hp → Prop, (∃ m, W1 0 m H1) ∧ ∀ i m H, W1 i m H →
      (J.stop i H ∧ Nx H) ∨ (J.go i H ∧ ∃ Nx1 : Hp → Prop, (∀ H', Nx1 H' → ∃ k', k' < m ∧ W1 (i + 1) k' H') ∧ ∀ x H', J.yld i H x H' → gCan K ws g x (L2.wipe σ vs) H' fun σ3 H5 => L2.wipe σ3 vs = L2.wipe σ vs ∧ tt σ3 H5 fun b H6 =>
        if b = true then tCan K mg (fun _ _ _ _ => False) f σ3 H6 fun y H7 => ∃ acc, H7 Dl = some (.lst acc) ∧ acc.length < sizeLine ∧ Nx1 (upd H7 Dl (.lst (acc ++ [y]))) else Nx1 H6) := by
  refine ⟨fun i m H2 => m = ds.length - i ∧ i ≤ ds.length ∧ ∃ r2 F2 acc xs, Rep C r2 (L2.wipe σ vs) H2 F2 ∧ Later H1 F1 H2 F2 ∧ H2 Dl = some (.lst xs) ∧ DpFs C.K H2 F2 xs acc ∧ ¬ F2 Dl ∧
    (∀ i es, sl r2 i = some es → es.hold = true → (L2.wipe σ vs)[i]? ≠ some (some (.ref Dl))) ∧ lcL vs g t f (ds.drop i) acc r2 Q, ⟨_, rfl, Nat.zero_le _, _, F1, acc0, xs0, R1.wipe vs, Later.refl, hD, hacc0, nfD, no_wiped R1 hD nbag no vs, q1⟩, ?_⟩
  rintro i m H2 ⟨rfl, hi, r2, F2, acc, xs, R2, l2, hDl, hacc, nf2, no2, q2⟩
  by_cases hlt : i < ds.length
  · refine .inr ⟨w.goes i H2 F2 hlt l2 (fun z hz => (R2.keep z hz).1), fun H3 => ∃ r3 F3 acc3 xs3, Rep C r3 (L2.wipe σ vs) H3 F3 ∧ Later H1 F1 H3 F3 ∧ H3 Dl = some (.lst xs3) ∧ DpFs C.K H3 F3 xs3 acc3 ∧ ¬ F3 Dl ∧
      (∀ i es, sl r3 i = some es → es.hold = true → (L2.wipe σ vs)[i]? ≠ some (some (.ref Dl))) ∧ lcL vs g t f (ds.drop (i + 1)) acc3 r3 Q,
      fun H3 ⟨r3, F3, acc3, xs3, z⟩ => ⟨ds.length - (i + 1), by omega, rfl, hlt, r3, F3, acc3, xs3, z⟩, fun x H3 y => ?_⟩
    obtain ⟨F3, d, ed, hd, l3, s3, n3⟩ := w.yields i H2 F2 x H3 hlt R2.ftrk l2 (fun z hz => (R2.keep z hz).1) y
    have R3 := R2.grow l3 s3 n3
    have hDl3 := s3 _ _ hDl
    have nf3 : ¬ F3 Dl := fun z => (n3 Dl z).elim nf2 fun q => by rw [hDl] at q; cases q.1
    have ei : ds.drop i = d :: ds.drop (i + 1) := by
      rw [List.drop_eq_getElem_cons hlt]
      have := List.getElem?_eq_getElem hlt
      rw [ed] at this
      cases this
      rfl
    rw [ei] at q2
    have R3u := R3.up (T := fun z => z = Dl) fun z e => by
      subst e
      exact ⟨by rw [hDl3]; simp, nbag, no2, nt_lst hDl3⟩
    refine ⟨C.up H3 F3 fun z => z = Dl, r2, F3, .dat d, _, hK, R3u, .dat hd, q2, fun σ4 r4 R4 w4 q4 => ?_⟩
    have hwp : L2.wipe σ4 vs = L2.wipe σ vs := wipe_wr hw w4
    refine ⟨hwp, ?_⟩
    refine htt (C.up H3 F3 fun z => z = Dl) r4 σ4 H3 F3 _ _ hK R4 q4 fun bb H5 F5 r5 R5 q5 => ?_
    have fin : ∀ {H6 : Hp} {F6 : AP} {r6 : Env} {xs6 : List V} {acc6 : List D}, Rep (C.up H3 F3 fun z => z = Dl) r6 σ4 H6 F6 → Rep C (clrs r6 vs) (L2.wipe σ vs) H6 F6 ∧ Later H1 F1 H6 F6 ∧ H6 Dl = some (.lst xs) ∧ DpFs C.K H6 F6 xs acc ∧ ¬ F6 Dl ∧
        (∀ i es, sl (clrs r6 vs) i = some es → es.hold = true → (L2.wipe σ vs)[i]? ≠ some (some (.ref Dl))) := fun {H6 F6 r6 _ _} R6 => by
      have R6w := (R3.down R6).wipe vs
      have R6w' := R6.wipe vs
      rw [hwp] at R6w R6w'
      obtain ⟨e6, n6⟩ := R6.still rfl nf3
      exact ⟨R6w, (l2.trans l3).trans R6.later, e6.trans hDl3, (hacc.mono l3).mono R6.later, n6, fun i es e1 o1 e2 => (R6w'.ownz i es Dl e1 o1 e2).1 (.inr (.inr rfl))⟩
    cases bb with
    | true =>
      refine ⟨C.up H3 F3 fun z => z = Dl, r5, F5, noX, _, hK, R5, fun _ _ _ _ _ _ _ _ z => z.elim, q5, fun v H6 F6 dv r6 R6 G6 q6 => ?_⟩
      split at q6
      · rename_i d' ed'
        obtain ⟨F7, R7, s7, l7⟩ := G6.froz R6 ed'
        obtain ⟨R8, l8, e8, h8, n8, o8⟩ := fin (xs6 := xs) (acc6 := acc) R7
        refine ⟨xs, e8, by rw [line_eq, h8.length]; exact q6.1, ?_⟩
        obtain ⟨R9, l9⟩ := R8.updT (o := .lst (xs ++ [v])) n8 nzD nbag o8 (free_lst e8)
        exact ⟨_, F7, _, _, R9, l8.trans l9, upd_same, (h8.mono l9).app (.cons (s7.mono l9) .nil), n8, o8, q6.2⟩
      · exact q6.elim
    | false =>
      obtain ⟨R8, l8, e8, h8, n8, o8⟩ := fin (xs6 := xs) (acc6 := acc) R5
      exact ⟨_, F5, _, _, R8, l8, e8, h8, n8, o8, q5⟩
  · have ei : ds.length = i := by omega
    subst ei
    rw [List.drop_length] at q2
    exact .inl ⟨w.stops H2 F2 l2 (fun z hz => (R2.keep z hz).1), k H2 F2 r2 acc xs R2 l2 hDl hacc nf2 no2 q2⟩
theorem wipe_sub {σ σ4 : L2.St} {vs vs1 : List Nat} (hv : ∀ i ∈ vs1, i ∈ vs) (h : L2.wipe σ4 vs = L2.wipe σ vs) : L2.wipe (L2.wipe σ4 vs1) vs = L2.wipe σ vs := by
  rw [← h]
  apply List.ext_getElem?
  intro i
  rw [wipe_at, wipe_at, wipe_at, L2.wipe_length]
  by_cases h1 : i ∈ vs ∧ i < σ4.length
  · rw [if_pos h1, if_pos h1]
  · rw [if_neg h1, if_neg h1]
    by_cases h2 : i ∈ vs1 ∧ i < σ4.length
    · exact absurd ⟨hv i h2.1, h2.2⟩ h1
    · rw [if_neg h2]
theorem lc2_ent {vs vs1 ws ws1 : List Nat} {s s1 : SX} {g g1 : TG} {t t1 : TB} {f : TX} {wi wi1 : TI} {W : WX} (hw : ∀ i ∈ ws, i ∈ vs) (hw1 : ∀ i ∈ ws1, i ∈ vs1) (hv : ∀ i ∈ vs1, i ∈ vs)
    (enti : ∀ (C : Ctx) (r : Env) (σ : L2.St) (H : Hp) (F : AP) (Q : List D → Env → Prop) (Xk : XW) (RV : It → Hp → Prop), C.K = X.K → Rep C r σ H F → Link X W Xk C σ → s Xk r Q →
      (∀ J H' F' ds r', Rep C r' σ H' F' → WalkD C.K J ds H' F' → Q ds r' → RV J H') → wi σ H RV)
    {tt tt1 : L2.TT} (htt : ∀ (C : Ctx) (r : Env) (σ : L2.St) (H : Hp) (F : AP) (Q : Bool → Env → Prop) (QV : Bool → Hp → Prop), C.K = X.K → Rep C r σ H F → t noX r Q → (∀ b H' F' r', Rep C r' σ H' F' → Q b r' → QV b H') → tt σ H QV)
    (htt1 : ∀ (C : Ctx) (r : Env) (σ : L2.St) (H : Hp) (F : AP) (Q : Bool → Env → Prop) (QV : Bool → Hp → Prop), C.K = X.K → Rep C r σ H F → t1 noX r Q → (∀ b H' F' r', Rep C r' σ H' F' → Q b r' → QV b H') → tt1 σ H QV)
    (enti1 : ∀ (C : Ctx) (r : Env) (σ : L2.St) (H : Hp) (F : AP) (Q : List D → Env → Prop) (RV : It → Hp → Prop), C.K = X.K → Rep C r σ H F → s1 noX r Q →
      (∀ J H' F' ds r', Rep C r' σ H' F' → WalkD C.K J ds H' F' → Q ds r' → RV J H') → wi1 σ H RV) :
    ∀ (C : Ctx) (r : Env) (σ : L2.St) (H : Hp) (F : AP) (Q : DV → Env → Prop) (Xk : XW) (QV : VK), C.K = X.K → Rep C r σ H F → Link X W Xk C σ → xLc2 vs vs1 s g t s1 g1 t1 f Xk r Q → (∀ v H' F' dv r', Rep C r' σ H' F' → Res C r' σ H' F' v dv → Q dv r' → QV v H') →
      tLc2 wi (gCan X.K ws g) tt wi1 (gCan X.K ws1 g1) tt1 (tCan X.K X.mg (fun _ _ _ _ => False) f) vs vs1 σ H QV := by
  intro C r σ H F Q Xk QV hK R L hf k
  refine enti C r σ H F _ Xk _ hK R L hf fun J H1 F1 ds r1 R1 w0 ⟨no, q1⟩ => ?_
  have w := w0.z
  intro Dl hD
  have nbag : C.b ≠ some Dl := fun z => by
    obtain ⟨⟨_, _, _, _, _, h1, _⟩, _, _⟩ := R1.bag Dl z
    rw [hD] at h1; cases h1
  have nzD : ¬ C.Z Dl := fun z => (R1.keep Dl z).2 hD
  have nfD : ¬ F1 Dl := fun z => R1.ftrk Dl z hD
  obtain ⟨R2, G2, l2⟩ := (R1.wipe vs).freshOwn (xs := []) (ds := []) hD .nil
  have noD : ∀ i es, sl (clrs r1 vs) i = some es → es.hold = true → (L2.wipe σ vs)[i]? ≠ some (some (.ref Dl)) := by
    cases G2 with
    | own _ _ _ _ _ h6 => exact h6
  refine ⟨fun i m H2 => m = ds.length - i ∧ i ≤ ds.length ∧ ∃ r2 F2 acc xs, Rep C r2 (L2.wipe σ vs) H2 F2 ∧ Later H1 F1 H2 F2 ∧ H2 Dl = some (.lst xs) ∧ DpFs C.K H2 F2 xs acc ∧ ¬ F2 Dl ∧
    (∀ i es, sl r2 i = some es → es.hold = true → (L2.wipe σ vs)[i]? ≠ some (some (.ref Dl))) ∧ lcL2 vs vs1 g t s1 g1 t1 f (ds.drop i) acc r2 fun acc' r3 => Q (.own acc') (DL.back r1 r3 vs), ⟨_, rfl, Nat.zero_le _, _, F1, [], [], R2, l2, upd_same, .nil, nfD, noD, q1⟩, ?_⟩
  rintro i m H2 ⟨rfl, hi, r2, F2, acc, xs, R2, l2, hDl, hacc, nf2, no2, q2⟩
  by_cases hlt : i < ds.length
  · refine .inr ⟨w.goes i H2 F2 hlt l2 (fun z hz => (R2.keep z hz).1), fun H3 => ∃ r3 F3 acc3 xs3, Rep C r3 (L2.wipe σ vs) H3 F3 ∧ Later H1 F1 H3 F3 ∧ H3 Dl = some (.lst xs3) ∧ DpFs C.K H3 F3 xs3 acc3 ∧ ¬ F3 Dl ∧
      (∀ i es, sl r3 i = some es → es.hold = true → (L2.wipe σ vs)[i]? ≠ some (some (.ref Dl))) ∧ lcL2 vs vs1 g t s1 g1 t1 f (ds.drop (i + 1)) acc3 r3 fun acc' r4 => Q (.own acc') (DL.back r1 r4 vs),
      fun H3 ⟨r3, F3, acc3, xs3, z⟩ => ⟨ds.length - (i + 1), by omega, rfl, hlt, r3, F3, acc3, xs3, z⟩, fun x H3 y => ?_⟩
    obtain ⟨F3, d, ed, hd, l3, s3, n3⟩ := w.yields i H2 F2 x H3 hlt R2.ftrk l2 (fun z hz => (R2.keep z hz).1) y
    have R3 := R2.grow l3 s3 n3
    have hDl3 := s3 _ _ hDl
    have nf3 : ¬ F3 Dl := fun z => (n3 Dl z).elim nf2 fun q => by rw [hDl] at q; cases q.1
    have ei : ds.drop i = d :: ds.drop (i + 1) := by
      rw [List.drop_eq_getElem_cons hlt]
      have := List.getElem?_eq_getElem hlt
      rw [ed] at this
      cases this
      rfl
    rw [ei] at q2
    have R3u := R3.up (T := fun z => z = Dl) fun z e => by
      subst e
      exact ⟨by rw [hDl3]; simp, nbag, no2, nt_lst hDl3⟩
    refine ⟨C.up H3 F3 fun z => z = Dl, r2, F3, .dat d, _, hK, R3u, .dat hd, q2, fun σ4 r4 R4 w4 q4 => ?_⟩
    have hwp : L2.wipe σ4 vs = L2.wipe σ vs := wipe_wr hw w4
    refine ⟨hwp, ?_⟩
    refine htt (C.up H3 F3 fun z => z = Dl) r4 σ4 H3 F3 _ _ hK R4 q4 fun bb H5 F5 r5 R5 q5 => ?_
    -- behind whatever changed nothing of the new list
    have fin : ∀ {H6 : Hp} {F6 : AP} {r6 : Env}, Rep (C.up H3 F3 fun z => z = Dl) r6 σ4 H6 F6 → Rep C r6 σ4 H6 F6 ∧ Later H1 F1 H6 F6 ∧ H6 Dl = some (.lst xs) ∧ DpFs C.K H6 F6 xs acc ∧ ¬ F6 Dl ∧
        (∀ i es, sl r6 i = some es → es.hold = true → σ4[i]? ≠ some (some (.ref Dl))) := fun {H6 F6 r6} R6 => by
      obtain ⟨e6, n6⟩ := R6.still rfl nf3
      exact ⟨R3.down R6, (l2.trans l3).trans R6.later, e6.trans hDl3, (hacc.mono l3).mono R6.later, n6, fun i es e1 o1 e2 => (R6.ownz i es Dl e1 o1 e2).1 (.inr (.inr rfl))⟩
    cases bb with
    | true =>
      refine enti1 (C.up H3 F3 fun z => z = Dl) r5 σ4 H5 F5 _ _ hK R5 q5 fun J1 H6 F6 ds1 r6 R6 w1 ⟨no1, q6⟩ => ?_
      obtain ⟨R7, l7, e7, h7, n7, o7⟩ := fin R6
      refine lc_in (mg := X.mg) hw1 htt1 C r6 σ4 H6 F6 _ _ J1 ds1 Dl xs acc hK R7 (WalkD.z (C := C) w1) e7 h7 n7 nzD nbag o7 q6 fun H8 F8 r8 acc8 xs8 R8 l8 e8 h8 n8 o8 q8 => ?_
      have R9 := R8.wipe vs
      rw [wipe_sub hv hwp] at R9
      have o9 := no_wiped R8 e8 nbag o8 vs
      rw [wipe_sub hv hwp] at o9
      exact ⟨_, F8, acc8, xs8, R9, l7.trans l8, e8, h8, n8, o9, q8⟩
    | false =>
      obtain ⟨R7, l7, e7, h7, n7, o7⟩ := fin R5
      have R9 := R7.wipe vs
      rw [hwp] at R9
      have o9 := no_wiped R7 e7 nbag o7 vs
      rw [hwp] at o9
      exact ⟨_, F5, acc, xs, R9, l7, e7, h7, n7, o9, q5⟩
  · have ei : ds.length = i := by omega
    subst ei
    rw [List.drop_length] at q2
    refine .inl ⟨w.stops H2 F2 l2 (fun z hz => (R2.keep z hz).1), ?_⟩
    have Rb := Rep.back R1 R2 l2 no
    refine k (.ref Dl) H2 F2 _ _ Rb (.own hDl hacc nf2 nzD nbag fun i es e1 o1 e2 => ?_) q2
    have hlen : r2.length = σ.length := by rw [R2.len, L2.wipe_length]
    rw [sl_back] at e1
    by_cases hh : i ∈ vs ∧ i < r2.length
    · rw [if_pos hh] at e1
      exact absurd (no i hh.1 es e1) (by rw [o1]; simp)
    · rw [if_neg hh] at e1
      refine no2 i es e1 o1 ?_
      rw [wipe_at, if_neg (by rw [← hlen]; exact hh)]
      exact e2
/-- one reading for what is walked within a block -/
def iCan (K : PySem.W.Frag) (s : SX) : TI := fun σ H RV => ∃ (C : Ctx) (r : Env) (F : AP) (Q : List D → Env → Prop), C.K = K ∧ Rep C r σ H F ∧ s noX r Q ∧ ∀ J H' F' ds r', Rep C r' σ H' F' → WalkD C.K J ds H' F' → Q ds r' → RV J H'
theorem DSrc.can {X : Cx} {tg iter : Expr} {s : SX} (h : DSrc X (fun _ _ _ _ => False) tg iter s) : PI X tg iter (iCan X.K s) := by
  obtain ⟨wi, pi, enti⟩ := h.ex
  exact ⟨fun pins s' σ H Q I ⟨C, r, F, Qd, hK, R, hf, k⟩ => pi.run pins s' σ H Q I (enti C r σ H F Qd noX Q hK R (fun _ _ _ _ _ _ _ _ z => z.elim) hf k)⟩
theorem iCan_ent {K : PySem.W.Frag} {s1 : SX} : ∀ (C : Ctx) (r : Env) (σ : L2.St) (H : Hp) (F : AP) (Q : List D → Env → Prop) (RV : It → Hp → Prop), C.K = K → Rep C r σ H F → s1 noX r Q →
      (∀ J H' F' ds r', Rep C r' σ H' F' → WalkD C.K J ds H' F' → Q ds r' → RV J H') → iCan K s1 σ H RV := fun C r σ H F Q RV hK R hf k => ⟨C, r, F, Q, hK, R, hf, k⟩
theorem bCan_ent {K : PySem.W.Frag} {mg : Str → Option Value} {t : TB} : ∀ (C : Ctx) (r : Env) (σ : L2.St) (H : Hp) (F : AP) (Q : Bool → Env → Prop) (QV : Bool → Hp → Prop), C.K = K → Rep C r σ H F → t noX r Q → (∀ b H' F' r', Rep C r' σ H' F' → Q b r' → QV b H') → bCan K mg (fun _ _ _ _ => False) t σ H QV :=
  fun C r σ H F Q QV hK R hf k => ⟨C, r, F, noX, Q, hK, R, fun _ _ _ _ _ _ _ _ z => z.elim, hf, k⟩
variable {tg1 iter1 : Expr}
/-- a test in a block: none, or one -/
inductive DTs (X : Cx) (scope : Scope) : List Expr → TB → Prop
  | nil : DTs X scope [] bYes
  | one {cond : Expr} {t : TB} : (∀ (s : Shared) (H : Hp) (C : Addr) (cl : List (Str × Addr)) (fp : List Addr), DT (X.blk s H scope (compEnvC scope cl C X.env) fp) (fun _ _ _ _ => False) cond t) → DTs X scope [cond] t
theorem DTs.can {scope : Scope} {ifs : List Expr} {t : TB} (h : DTs X scope ifs t) :
    ∃ tt : L2.TT, (∀ (s : Shared) (H : Hp) (C : Addr) (cl : List (Str × Addr)) (fp : List Addr), PTs (X.blk s H scope (compEnvC scope cl C X.env) fp) ifs tt) ∧ ∀ (C : Ctx) (r : Env) (σ : L2.St) (H : Hp) (F : AP) (Q : Bool → Env → Prop) (QV : Bool → Hp → Prop), C.K = X.K → Rep C r σ H F → t noX r Q → (∀ b H' F' r', Rep C r' σ H' F' → Q b r' → QV b H') → tt σ H QV := by
  cases h with
  | nil => exact ⟨_, fun _ _ _ _ _ => pts_nil, tYes_ent⟩
  | one h => exact ⟨bCan X.K X.mg (fun _ _ _ _ => False) t, fun s H C cl fp => pts_one (h s H C cl fp).can, bCan_ent⟩
theorem de_lc2 {scope : Scope} {own : List (Str × Nat)} {vs1 ws ws1 : List Nat} {s s1 : SX} {g g1 : TG} {t t1 : TB} {ifs ifs1 : List Expr} (hi : DSrc X W tg iter s) (hw : ∀ i ∈ ws, i ∈ own.map (·.2)) (hw1 : ∀ i ∈ ws1, i ∈ vs1) (hv : ∀ i ∈ vs1, i ∈ own.map (·.2))
    (hg : ∀ (s : Shared) (H : Hp) (C : Addr) (cl : List (Str × Addr)) (fp : List Addr), DG (X.blk s H scope (compEnvC scope cl C X.env) fp) tg ws g)
    (ht : DTs X scope ifs t)
    (hi1 : ∀ (s : Shared) (H : Hp) (C : Addr) (cl : List (Str × Addr)) (fp : List Addr), DSrc (X.blk s H scope (compEnvC scope cl C X.env) fp) (fun _ _ _ _ => False) tg1 iter1 s1)
    (hg1 : ∀ (s : Shared) (H : Hp) (C : Addr) (cl : List (Str × Addr)) (fp : List Addr), DG (X.blk s H scope (compEnvC scope cl C X.env) fp) tg1 ws1 g1)
    (ht1 : DTs X scope ifs1 t1)
    (he : ∀ (s : Shared) (H : Hp) (C : Addr) (cl : List (Str × Addr)) (fp : List Addr), DE (X.blk s H scope (compEnvC scope cl C X.env) fp) (fun _ _ _ _ => False) elt f)
    (mk : ∀ {wi wi1 : TI} {te : L2.TE} {tg' tg1' : L2.TG} {tt tt1 : L2.TT}, PI X tg iter wi → (∀ (s : Shared) (H : Hp) (C : Addr) (cl : List (Str × Addr)) (fp : List Addr), PG (X.blk s H scope (compEnvC scope cl C X.env) fp) tg tg') →
      (∀ (s : Shared) (H : Hp) (C : Addr) (cl : List (Str × Addr)) (fp : List Addr), PTs (X.blk s H scope (compEnvC scope cl C X.env) fp) ifs tt) →
      (∀ (s : Shared) (H : Hp) (C : Addr) (cl : List (Str × Addr)) (fp : List Addr), PI (X.blk s H scope (compEnvC scope cl C X.env) fp) tg1 iter1 wi1) →
      (∀ (s : Shared) (H : Hp) (C : Addr) (cl : List (Str × Addr)) (fp : List Addr), PG (X.blk s H scope (compEnvC scope cl C X.env) fp) tg1 tg1') →
      (∀ (s : Shared) (H : Hp) (C : Addr) (cl : List (Str × Addr)) (fp : List Addr), PTs (X.blk s H scope (compEnvC scope cl C X.env) fp) ifs1 tt1) →
      (∀ (s : Shared) (H : Hp) (C : Addr) (cl : List (Str × Addr)) (fp : List Addr), PE (X.blk s H scope (compEnvC scope cl C X.env) fp) elt te) → PE X e (tLc2 wi tg' tt wi1 tg1' tt1 te (own.map (·.2)) vs1)) :
    DE X W e (xLc2 (own.map (·.2)) vs1 s g t s1 g1 t1 f) := by
  obtain ⟨wi, pi, enti⟩ := hi.ex
  obtain ⟨tt, pt, ett⟩ := ht.can
  obtain ⟨tt1, pt1, ett1⟩ := ht1.can
  exact ⟨⟨_, mk (te := tCan X.K X.mg (fun _ _ _ _ => False) f) (tg' := gCan X.K ws g) (tg1' := gCan X.K ws1 g1) (wi1 := iCan X.K s1) pi (fun s H C cl fp => (hg s H C cl fp).can) pt (fun s H C cl fp => (hi1 s H C cl fp).can) (fun s H C cl fp => (hg1 s H C cl fp).can) pt1 (fun s H C cl fp => (he s H C cl fp).can),
    lc2_ent hw hw1 hv enti ett ett1 iCan_ent⟩⟩
/-- y = [.. for .. for ..] -/
theorem ds_setLc2 {i : Nat} {scope : Scope} {own : List (Str × Nat)} {vs1 ws ws1 : List Nat} {s s1 : SX} {g g1 : TG} {t t1 : TB} {ifs ifs1 : List Expr} (hi : DSrc X W tg iter s) (hw : ∀ i ∈ ws, i ∈ own.map (·.2)) (hw1 : ∀ i ∈ ws1, i ∈ vs1) (hv : ∀ i ∈ vs1, i ∈ own.map (·.2))
    (hg : ∀ (s : Shared) (H : Hp) (C : Addr) (cl : List (Str × Addr)) (fp : List Addr), DG (X.blk s H scope (compEnvC scope cl C X.env) fp) tg ws g)
    (ht : DTs X scope ifs t)
    (hi1 : ∀ (s : Shared) (H : Hp) (C : Addr) (cl : List (Str × Addr)) (fp : List Addr), DSrc (X.blk s H scope (compEnvC scope cl C X.env) fp) (fun _ _ _ _ => False) tg1 iter1 s1)
    (hg1 : ∀ (s : Shared) (H : Hp) (C : Addr) (cl : List (Str × Addr)) (fp : List Addr), DG (X.blk s H scope (compEnvC scope cl C X.env) fp) tg1 ws1 g1)
    (ht1 : DTs X scope ifs1 t1)
    (he : ∀ (s : Shared) (H : Hp) (C : Addr) (cl : List (Str × Addr)) (fp : List Addr), DE (X.blk s H scope (compEnvC scope cl C X.env) fp) (fun _ _ _ _ => False) elt f)
    (mk : ∀ {wi wi1 : TI} {te : L2.TE} {tg' tg1' : L2.TG} {tt tt1 : L2.TT}, PI X tg iter wi → (∀ (s : Shared) (H : Hp) (C : Addr) (cl : List (Str × Addr)) (fp : List Addr), PG (X.blk s H scope (compEnvC scope cl C X.env) fp) tg tg') →
      (∀ (s : Shared) (H : Hp) (C : Addr) (cl : List (Str × Addr)) (fp : List Addr), PTs (X.blk s H scope (compEnvC scope cl C X.env) fp) ifs tt) →
      (∀ (s : Shared) (H : Hp) (C : Addr) (cl : List (Str × Addr)) (fp : List Addr), PI (X.blk s H scope (compEnvC scope cl C X.env) fp) tg1 iter1 wi1) →
      (∀ (s : Shared) (H : Hp) (C : Addr) (cl : List (Str × Addr)) (fp : List Addr), PG (X.blk s H scope (compEnvC scope cl C X.env) fp) tg1 tg1') →
      (∀ (s : Shared) (H : Hp) (C : Addr) (cl : List (Str × Addr)) (fp : List Addr), PTs (X.blk s H scope (compEnvC scope cl C X.env) fp) ifs1 tt1) →
      (∀ (s : Shared) (H : Hp) (C : Addr) (cl : List (Str × Addr)) (fp : List Addr), PE (X.blk s H scope (compEnvC scope cl C X.env) fp) elt te) → PS X st (tAsg (tLc2 wi tg' tt wi1 tg1' tt1 te (own.map (·.2)) vs1) (gName i))) :
    DS X W st (sAsg (gN i) (xLc2 (own.map (·.2)) vs1 s g t s1 g1 t1 f)) := by
  obtain ⟨wi, pi, enti⟩ := hi.ex
  obtain ⟨tt, pt, ett⟩ := ht.can
  obtain ⟨tt1, pt1, ett1⟩ := ht1.can
  refine ⟨⟨_, mk (te := tCan X.K X.mg (fun _ _ _ _ => False) f) (tg' := gCan X.K ws g) (tg1' := gCan X.K ws1 g1) (wi1 := iCan X.K s1) pi (fun s H C cl fp => (hg s H C cl fp).can) pt (fun s H C cl fp => (hi1 s H C cl fp).can) (fun s H C cl fp => (hg1 s H C cl fp).can) pt1 (fun s H C cl fp => (he s H C cl fp).can), fun C r σ H F E D' hK R k hf => ?_⟩⟩
  exact lc2_ent hw hw1 hv enti ett ett1 iCan_ent C r σ H F _ E.ex _ hK R (k.ex σ) hf fun v H1 F1 dv r1 R1 G1 q1 => k.nx _ H1 F1 _ (R1.store G1) q1
end
end DL

/-! DM, part 1: errors without fields; several clauses, with names and without. -/
namespace DL
open PySem PySem.Spec PyProof.Rows L2
/-- X(), an own error class without own __init__ -/
theorem pmk_own0 {X : Cx} {C : Addr} {bmB : List Value} {B newId initId : String} {x : Str} {p pos : Pos} (F : ExcBaseFacts B newId initId bmB) (q : PySem.W.excIn X.K C bmB newId = true) (gC : X.mg x = some (.ref C)) (kC : PySem.W.keepIn X.K (.ref C) = true) (r : Raises X (.ref C)) (hg : Gl X x)
    (hdb : (x == ("__debug__" : Str)) = false := by decide) : PMk X (.Call (.Name x p) [] [] pos) (fun _ H Q => Q (.ref C) none H) := by
  intro pins s σ H Q I h
  refine wpAny_Call_Name_kw (ld_glob I hg gC (PySem.W.callWith_K0 I.kIn kC ?_) hdb)
  obtain ⟨bm, N, nm, qn, bs, d0, sn, sb, ab, col, d1, k0, k1, k2, k3, k5, mN, a1, a2, a3, a4⟩ := exc_obj I.kIn q
  exact wpAny_call_exc_subT F a4 a1 a2 a3 (fun h' e hm => mk_of I hm r h (I.hok.gone hm.new)) (Nat.zero_le _)
/-- an own error without fields -/
structure ErrN (P : Program) (K : PySem.W.Frag) (mg : Str → Option Value) (x : Str) (C : Addr) : Prop where
  g : mg x = some (.ref C)
  q : PySem.W.excIn K C [.type "ValueError", .type "Exception", .type "BaseException", .type "object"] "ValueError.__new__" = true
  kp : PySem.W.keepIn K (.ref C) = true
  ex : PySem.W.subIn K (.ref C) (.type "BaseException") = some true
  ty : PySem.W.typeIn K (.ref C) = some (.type "type")
def sRaise0 (x : Str) : TS := fun E r => E.ex ⟨x, []⟩ r
theorem ds_raise0 {X : Cx} {W : WX} {x : Str} {C : Addr} {p pos pos' : Pos} {P : Program} (hc : X.calm = true) (tk : Takes X W) (T : ErrN P X.K X.mg x C) (hg : Gl X x := by rfl) (hdb : (x == ("__debug__" : Str)) = false := by decide) :
    DS X W (.Raise (some (.Call (.Name x p) [] [] pos)) none pos') (sRaise0 x) :=
  ⟨⟨_, ps_raise hc tk (pmk_own0 PySem.F.excBase_ValueError T.q T.g T.kp (raises_own T.ex T.ty) hg hdb), fun Cc r σ H F E D' hK R L hf => L.ex σ _ r H F _ _ R ⟨C, T.g, rfl, .inl ⟨rfl, rfl⟩⟩ hf⟩⟩
/-! ### clauses -/
abbrev Cl := Value × Option Nat × (Addr → Value → Option Addr → L2.TS)
/-- the ends of a suite whose name is gone behind it -/
def unset (D : L2.Ends) (i : Nat) : L2.Ends := { nx := fun σ' H' => D.nx (σ'.set i none) H', rt := D.rt, bk := fun σ' H' => D.bk (σ'.set i none) H', ct := fun σ' H' => D.ct (σ'.set i none) H' }
def runCl (cl : Cl) (a : Addr) (cls : Value) (d : Option Addr) (D : L2.Ends) (σ : L2.St) (H : Hp) : Prop := match cl.2.1 with
  | none => cl.2.2 a cls d D σ H
  | some i => cl.2.2 a cls d (unset D i) (σ.set i (some (.ref a))) H
/-- what the clauses wish of an error of the body, one behind the other -/
def wMix (K : PySem.W.Frag) (Wout : WX) (D : L2.Ends) : List Cl → WX
  | [] => Wout
  | cl :: r => fun cls d σ H => ∃ b, PySem.W.exmOne K cls cl.1 = some b ∧ (b = true → ∀ a, H a = none → runCl cl a cls d D σ H) ∧ (b = false → wMix K Wout D r cls d σ H)
def nmOk (X : Cx) : Option Nat → Option Str → Prop
  | none, none => True
  | some i, some y => X.N[i]? = some y ∧ X.env.kindOf y = some .local
  | _, _ => False
inductive MixOk (X : Cx) : List ExceptHandler → List Cl → Prop
  | nil : MixOk X [] []
  | cons {x : Str} {c : Value} {o : Option Nat} {y : Option Str} {ts : Addr → Value → Option Addr → L2.TS} {b₀ : Stmt} {su : List Stmt} {np pe : Pos} {hs : List ExceptHandler} {l : List Cl} (hc : Names X x c) (hy : nmOk X o y)
      (hsu : ∀ (a : Addr) (oe : Obj) (cls : Value) (d : Option Addr) (pn : List (Addr × Obj)), Zc cls d oe → (∃ vs, oe.data = .fields vs) → PSs (X.suite a ((a, oe) :: pn)) (b₀ :: su) (ts a cls d)) (r : MixOk X hs l) :
      MixOk X (.ExceptHandler (some (.Name x np)) y (b₀ :: su) pe :: hs) ((c, o, ts) :: l)
section
variable {X : Cx} {body : List Stmt} {hd : ExceptHandler} {hs : List ExceptHandler} {l : List Cl} {pos : Pos} {tb : WX → L2.TS} {Wout : WX}
theorem ps_try_mix (hst : X.stack = X.env :: X.outer) (hfl : X.env.frame = some X.env.locals) (hN : X.N.Nodup) (tk : Takes X Wout)
    (hb : ∀ (W : WX) (pn : List (Addr × Obj)) (xe : Value → Shared → Prop), Takes (X.tr pn xe) W → PassesOwn (model X.prog X.w) X.A X.env xe → PSs (X.tr pn xe) body (tb W))
    (hh : MixOk X (hd :: hs) l) : PS X (.Try body (hd :: hs) [] [] pos) (fun D σ H => tb (wMix X.K Wout D l) D σ H) := by
  refine ⟨fun pins s σ H D I h => ?_⟩
  have okX := I.ok
  have frs_ : X.A.frames = some (X.env :: X.outer) := by rw [okX.frames, hst]
  let catchE : Value → Shared → Prop := fun e s₁ => wpAny (model X.prog X.w) X.A (noteFrame e X.env) (fun _ s₂ => wpAny (model X.prog X.w) X.A (setFlight e none) (fun _ s₃ =>
    wpAny (model X.prog X.w) X.A (handleBy e X.env (hd :: hs)) (SP X pins D) X.xe s₃) X.xe s₂) X.xe s₁
  have caught : Takes (X.tr (X.pn ++ pins) catchE) (wMix X.K Wout D l) := by
    intro u s' xx
    obtain ⟨a, B, sI, pins', σ1, H1, cls, d, rfl, J0, nb, up, sky, na, os, ag, w⟩ := xx
    have J : Inv X pins σ1 H1 sI := J0.ofTry okX
    have sky1 : Sky B (X.env :: X.outer) a (Zc cls d) X.env.locals s'.heap := hst ▸ sky
    refine Sky.land Zc.steady frs_ hfl sky1 fun g1 fl1 up1 => ?_
    have J1 : Inv X pins σ1 H1 { s' with heap := g1 } := J.landed nb fl1.1 (up.trans up1) os ag
    obtain ⟨oe1, vs1, he1, hz1, hd1⟩ := fl1.there
    have apart : ∀ {h : Heap} {o : Obj} {vs : Array Value}, h.FunFrames B (X.env :: X.outer) → h.get? a = some o → o.data = .fields vs → a ∉ frs (X.env :: X.outer) := by
      intro h o vs ff ho hv hm
      obtain ⟨_, o1, e1, hnf⟩ := ff.mem hm
      rw [ho] at e1
      cases e1
      exact hnf _ hv
    have nfr := apart fl1.2.2.1 he1 hd1
    have nL : a ≠ X.env.locals := fun z => nfr (List.mem_filterMap.mpr ⟨X.env, List.mem_cons_self, by rw [hfl, z]⟩)
    have nF : a ∉ X.fs := fun hm => by
      obtain ⟨e, he, q⟩ := List.mem_filterMap.mp hm
      exact nfr (List.mem_filterMap.mpr ⟨e, List.mem_cons_of_mem _ he, q⟩)
    have S1 := J1.suite he1 hd1 na nL nF
    have go : ∀ {hs' : List ExceptHandler} {l' : List Cl}, MixOk X hs' l' → wMix X.K Wout D l' cls d σ1 H1 →
        wpAny (model X.prog X.w) X.A (handleBy (.ref a) X.env hs') (SP X pins D) X.xe { s' with heap := g1 } := by
      intro hs' l' hk
      induction hk with
      | nil =>
        intro w1
        refine wpAny_handleBy_nil ?_
        obtain ⟨k1, k2, k3, oe, vs, T, oT, ts', he, hz, hdd, h1, hr⟩ := id fl1
        unfold PySem.passOn
        refine wpAny_bind (wpAny_field he hdd h1 ?_)
        rw [if_neg (show ¬ ((Value.ref T == Value.none) = true) from by simp)]
        have thrown : wpAny (model X.prog X.w) X.A (setFlight (.ref a) X.env.frame) (fun _ s4 => wpAny (model X.prog X.w) X.A (throw (.ref a) : Sem Flow) (SP X pins D) X.xe s4) X.xe { s' with heap := g1 } := by
          rw [hfl]
          refine HandSPX.setFlight_upZ fl1 fun g2 hh2 up2 => wpAny_throw (tk _ _ ?_)
          exact ⟨a, B, sI, pins, σ1, H1, cls, d, rfl, J, nb, (up.trans up1).trans up2, .inr (.inr (by rw [hst]; exact hh2)), na, os, ag, w1⟩
        first
          | exact wpAny_bind (wpAny_pure (wpAny_bind thrown))
          | exact wpAny_bind thrown
      | @cons x c o y ts b₀ su np pe hs2 l2 hc hy hsu r ih =>
        intro w1
        obtain ⟨b, hb1, yes, no⟩ := w1
        refine wpAny_handleBy_cons (codeAny_handlers_test ?_) (by intro q; cases q)
        have LT : PySem.W.Looks (model X.prog X.w) g1 (typeOf (.ref a)) cls := fun A' Q' E' s2 k q => wpAny_typeOf_ref (k _ _ he1) (by rw [hz1.1]; exact q)
        have LM := PySem.W.exm_one (M := model X.prog X.w) J1.kIn LT hb1
        have test : ∀ {Q : Value → Shared → Prop} {E : Value → Shared → Prop}, Q c { s' with heap := g1 } → wpAny (model X.prog X.w) (X.A.mark (some (.ref a))) (eval (.Name x np) X.env) Q E { s' with heap := g1 } := fun {Q E} q => by
          obtain ⟨hg, hdbg, hm | ⟨hm, hv, hnn⟩⟩ := hc
          · exact ld_glob (X := X.suite a ((a, oe1) :: (X.pn ++ pins))) S1 hg hm q hdbg
          · exact ld_blt (X := X.suite a ((a, oe1) :: (X.pn ++ pins))) S1 hg hm hv q hnn hdbg
        refine test (LM.here ?_)
        cases b with
        | false => exact ih (no rfl)
        | true =>
          have run := yes rfl a na
          cases y with
          | none =>
            cases o with
            | some i => exact hy.elim
            | none =>
              refine codeAny_handlers_suite (HandSPX.lands_againZ fl1 fun g2 fl2 up2 => ?_)
              have J2 : Inv X pins σ1 H1 { s' with heap := g2 } := J.landed nb fl2.1 ((up.trans up1).trans up2) os ag
              obtain ⟨oe2, vs2, he2, hz2, hd2⟩ := fl2.there
              have S2 := J2.suite he2 hd2 na nL nF
              refine wpAny_mono ((hsu a oe2 cls d (X.pn ++ pins) hz2 ⟨_, hd2⟩).run [] _ _ H1 _ S2 run) (fun f s6 hsp => ?_) (fun _ _ z => False.elim z)
              cases f with
              | ret u =>
                obtain ⟨v6, σ6, H6, S6, r6, q6⟩ := hsp
                exact ⟨_, _, _, S6.unsuite okX, r6, q6⟩
              | next =>
                obtain ⟨σ6, H6, S6, q6⟩ := hsp
                exact ⟨_, _, S6.unsuite okX, q6⟩
              | brk =>
                obtain ⟨σ6, H6, S6, q6⟩ := hsp
                exact ⟨_, _, S6.unsuite okX, q6⟩
              | cont =>
                obtain ⟨σ6, H6, S6, q6⟩ := hsp
                exact ⟨_, _, S6.unsuite okX, q6⟩
          | some n =>
            cases o with
            | none => exact hy.elim
            | some i =>
              obtain ⟨hi, hln⟩ := hy
              have hloc : Loc X.env.scope n := .inl hln
              refine codeAny_handlers_suite_as (HandSPX.lands_againZ fl1 fun g2 fl2 up2 => ?_)
              have J2 : Inv X pins σ1 H1 { s' with heap := g2 } := J.landed nb fl2.1 ((up.trans up1).trans up2) os ag
              obtain ⟨oe2, vs2, he2, hz2, hd2⟩ := fl2.there
              have S2 := J2.suite he2 hd2 na nL nF
              refine store_ok (X := X.suite a ((a, oe2) :: (X.pn ++ pins))) (v := .ref a) S2 hN hi hloc rfl (fun s5 S5 => ?_) (.inr hln)
              refine wpAny_mono ((hsu a oe2 cls d (X.pn ++ pins) hz2 ⟨_, hd2⟩).run [] s5 _ H1 _ S5 run) (fun f s6 hsp => ?_) (fun _ _ z => False.elim z)
              have gone : ∀ {σ6 : L2.St} {H6 : Hp} {Q : Shared → Prop}, Inv (X.suite a ((a, oe2) :: (X.pn ++ pins))) [] σ6 H6 s6 → (∀ s7, Inv X pins (σ6.set i none) H6 s7 → Q s7) →
                  wpAny (model X.prog X.w) X.A (do bindName X.env n .none; unbindBehindTheSuite X.env n pe) (fun _ s7 => Q s7) X.xe s6 := fun {σ6 H6 Q} S6 hq => gone_ok (S6.unsuite okX) hN hi hln hq
              cases f with
              | ret u =>
                obtain ⟨v6, σ6, H6, S6, r6, q6⟩ := hsp
                exact gone S6 fun s7 J7 => ⟨_, _, _, J7, r6, q6⟩
              | next =>
                obtain ⟨σ6, H6, S6, q6⟩ := hsp
                exact gone S6 fun s7 J7 => ⟨_, _, J7, q6⟩
              | brk =>
                obtain ⟨σ6, H6, S6, q6⟩ := hsp
                exact gone S6 fun s7 J7 => ⟨_, _, J7, q6⟩
              | cont =>
                obtain ⟨σ6, H6, S6, q6⟩ := hsp
                exact gone S6 fun s7 J7 => ⟨_, _, J7, q6⟩
    exact go hh w
  refine wpAny_Try_except (wpAny_mono ((hb _ _ _ caught PassesOwn.looking).run [] s σ H D (I.toTry _) h) (fun f s1 hsp => ?_) (fun e s1 he => he))
  cases f with
  | ret u =>
    obtain ⟨v, σ', H', J', r, q⟩ := hsp
    exact ⟨v, σ', H', J'.ofTry okX, r, q⟩
  | next =>
    obtain ⟨σ', H', J', q⟩ := hsp
    exact wpAny_execs_nil ⟨σ', H', J'.ofTry okX, q⟩
  | brk =>
    obtain ⟨σ', H', J', q⟩ := hsp
    exact ⟨σ', H', J'.ofTry okX, q⟩
  | cont =>
    obtain ⟨σ', H', J', q⟩ := hsp
    exact ⟨σ', H', J'.ofTry okX, q⟩
end
end DL

/-! DM, part 2: try: .. except X as e: return .. except Y: return .. -/
namespace DL
open PySem PySem.Spec PyProof.Rows L2
def hAt (o : Option Nat) (σ : L2.St) (a : Addr) : Prop := ∀ i, o = some i → σ[i]? = some (some (.ref a))
/-- a suite that hands back, with its name or without -/
structure DH2 (X : Cx) (o : Option Nat) (st : List Stmt) (g : SH) : Prop where
  ex : ∀ (a : Addr) (oe : Obj) (cls : Value) (d : Option Addr) (pn : List (Addr × Obj)), Zc cls d oe → (∃ vs, oe.data = .fields vs) → ∃ t, PSs (X.suite a ((a, oe) :: pn)) st t ∧
    ∀ (C : Ctx) (r : Env) (σ : L2.St) (H : Hp) (F : AP) (er : Err) (Q : DV → Prop) (D' : L2.Ends), C.K = X.K → Rep C r σ H F → hAt o σ a → ErrR X.mg X.K H F cls d er → g er Q →
      (∀ v H' F' dv, Fin C H' F' → RetR C H' F' v dv → Q dv → D'.rt v H') → t D' σ H
theorem DH.two {X : Cx} {i : Nat} {st : List Stmt} {g : SH} (h : DH X i st g) : DH2 X (some i) st g := ⟨fun a oe cls d pn hz hf => by
  obtain ⟨t, ps, ent⟩ := h.ex a oe cls d pn hz hf
  exact ⟨t, ps, fun C r σ H F er Q D' hK R hσ hE q k => ent C r σ H F er Q D' hK R (hσ i rfl) hE q k⟩⟩
/-- parts that are written -/
inductive Konst : List Expr → List D → Prop
  | nil : Konst [] []
  | str {x : Str} {j : Nat} {p : Pos} {es : List Expr} {ds : List D} : Konst es ds → Konst (.Constant (.str x) j p :: es) (.str x :: ds)
  | int {n : Int} {j : Nat} {p : Pos} {es : List Expr} {ds : List D} : Konst es ds → Konst (.Constant (.int n) j p :: es) (.int n :: ds)
theorem Konst.pa {Y : Cx} : ∀ {es : List Expr} {ds : List D}, Konst es ds → ∃ t, PA Y es t ∧ ∀ (K : PySem.W.Frag) (σ : L2.St) (H : Hp) (F : AP) (QV : List V → Hp → Prop), (∀ vs, DpFs K H F vs ds → QV vs H) → t σ H QV
  | _, _, .nil => ⟨_, pa_nil, fun _ σ H F QV k => k _ .nil⟩
  | _, _, .str h => by
    obtain ⟨t, pa, k1⟩ := h.pa (Y := Y)
    exact ⟨_, pa_cons pe_str pa, fun K σ H F QV k => k1 K σ H F _ fun vs hv => k _ (.cons (.str _) hv)⟩
  | _, _, .int h => by
    obtain ⟨t, pa, k1⟩ := h.pa (Y := Y)
    exact ⟨_, pa_cons pe_int pa, fun K σ H F QV k => k1 K σ H F _ fun vs hv => k _ (.cons (.int _) hv)⟩
def hRetC (ds : List D) : SH := fun _ Q => ds.length ≤ 16777216 ∧ Q (.dat (.tuple ds))
theorem dh_retC {X : Cx} {o : Option Nat} {es : List Expr} {ds : List D} {j : Nat} {p pos : Pos} (h : Konst es ds) : DH2 X o [.Return (some (.Tuple es j p)) pos] (hRetC ds) := ⟨fun a oe cls d pn hz hf => by
  obtain ⟨t1, p1, k1⟩ := h.pa (Y := X.suite a ((a, oe) :: pn))
  refine ⟨_, pss_one (ps_ret (pe_tup p1)), fun C r σ H F er Q D' hK R _ _ q k => ?_⟩
  refine k1 C.K σ H F _ fun vs hvs => ⟨by rw [line_eq, hvs.length]; exact q.1, fun pa hp => ?_⟩
  obtain ⟨R2, G2, _⟩ := R.freshTup hp hvs
  exact k _ _ _ _ R2.fin G2.ret q.2⟩
/-! ### clauses -/
structure CM where
  cs : List (Str × Bool)
  o : Option Nat
  h : SH
/-- the clause that takes an error -/
def hsel : List CM → Err → (DV → Prop) → (Err → Prop) → Prop
  | [], er, _, E => E er
  | m :: r, er, Q, E => match m.cs.lookup er.cls with
    | some true => m.h er Q
    | some false => hsel r er Q E
    | none => False
def slotsIn (ms : List CM) (r : Env) : Prop := ∀ m ∈ ms, ∀ i, m.o = some i → i < r.length
inductive DCls (X : Cx) : List ExceptHandler → List CM → Prop
  | nil : DCls X [] []
  | cons {x : Str} {cv : Value} {o : Option Nat} {y : Option Str} {b₀ : Stmt} {su : List Stmt} {np pe : Pos} {hs : List ExceptHandler} {ms : List CM} {cs : List (Str × Bool)} {h : SH} (hc : Names X x cv) (hy : nmOk X o y) (hcs : Takn X.K X.mg cv cs)
      (hsu : DH2 X o (b₀ :: su) h) (r : DCls X hs ms) : DCls X (.ExceptHandler (some (.Name x np)) y (b₀ :: su) pe :: hs) (⟨cs, o, h⟩ :: ms)
theorem Rep.anyAt {C : Ctx} {r : Env} {σ : L2.St} {H : Hp} {F : AP} {i : Nat} {v : Option V} (R : Rep C r σ H F) : Rep C (putO r i none) (σ.set i v) H F := R.any1
theorem DCls.mix {X : Cx} {W : WX} : ∀ {hs : List ExceptHandler} {ms : List CM}, DCls X hs ms → ∃ l, MixOk X hs l ∧ ∀ (C : Ctx) (r : Env) (σ : L2.St) (H : Hp) (F : AP) (cls : Value) (d : Option Addr) (er : Err) (D' : L2.Ends) (Q0 : DV → Prop) (E0 : Err → Prop),
    C.K = X.K → Rep C r σ H F → ErrR X.mg X.K H F cls d er → slotsIn ms r → (∀ v H' F' dv, Fin C H' F' → RetR C H' F' v dv → Q0 dv → D'.rt v H') → (E0 er → W cls d σ H) → hsel ms er Q0 E0 → wMix X.K W D' l cls d σ H
  | _, _, .nil => ⟨[], .nil, fun C r σ H F cls d er D' Q0 E0 _ _ _ _ _ kE q => kE q⟩
  | _, _, .cons (cv := cv) (o := o) (cs := cs) (h := h) hc hy hcs hsu r => by
    obtain ⟨l, ok, ent⟩ := r.mix (W := W)
    refine ⟨(cv, o, fun a cls d D σ H => ∃ (C : Ctx) (r : Env) (F : AP) (er : Err) (Q : DV → Prop), C.K = X.K ∧ Rep C r σ H F ∧ hAt o σ a ∧ ErrR X.mg X.K H F cls d er ∧ h er Q ∧ ∀ v H' F' dv, Fin C H' F' → RetR C H' F' v dv → Q dv → D.rt v H') :: l,
      .cons hc hy (fun a oe cls d pn hz hf => ?_) ok, fun C r σ H F cls d er D' Q0 E0 hK R hE hsl kQ kE q => ?_⟩
    · obtain ⟨t, ps, enu⟩ := hsu.ex a oe cls d pn hz hf
      exact ⟨fun pins s σ H D I ⟨C, r, F, er, Q, hK, R, hσ, hE, hh, k⟩ => ps.run pins s σ H D I (enu C r σ H F er Q D hK R hσ hE hh k)⟩
    · obtain ⟨Cc, m1, rfl, _⟩ := id hE
      unfold hsel at q
      cases hl : cs.lookup er.cls with
      | none => simp only [hl] at q
      | some b =>
        simp only [hl] at q
        refine ⟨b, hcs _ _ hl _ m1, fun hb a na => ?_, fun hb => ?_⟩
        · subst hb
          unfold runCl
          cases o with
          | none => exact ⟨C, r, F, er, Q0, hK, R, fun i z => (by cases z), hE, q, kQ⟩
          | some i =>
            have hlt : i < σ.length := R.len ▸ hsl _ (List.mem_cons_self ..) i rfl
            exact ⟨C, putO r i none, F, er, Q0, hK, R.anyAt, fun j z => (by cases z; rw [List.getElem?_set_self hlt]), hE, q, kQ⟩
        · subst hb
          exact ent C r σ H F _ d er D' Q0 E0 hK R hE (fun m hm => hsl m (List.mem_cons_of_mem _ hm)) kQ kE q
def sTryM (ms : List CM) (p : TS) : TS := fun E r => p { E with ex := fun er r1 => slotsIn ms r1 ∧ hsel ms er E.rt fun e => E.ex e r1 } r
theorem ds_tryM {X : Cx} {W : WX} {body : List Stmt} {hd : ExceptHandler} {hs : List ExceptHandler} {pos : Pos} {p : TS} {ms : List CM} (hst : X.stack = X.env :: X.outer) (hfl : X.env.frame = some X.env.locals) (hN : X.N.Nodup) (tk : Takes X W)
    (hb : ∀ (W' : WX) (pn : List (Addr × Obj)) (xe : Value → Shared → Prop), Takes (X.tr pn xe) W' → PassesOwn (model X.prog X.w) X.A X.env xe → DSs (X.tr pn xe) W' body p) (hcl : DCls X (hd :: hs) ms) : DS X W (.Try body (hd :: hs) [] [] pos) (sTryM ms p) := by
  obtain ⟨l, ok, ent⟩ := hcl.mix (W := W)
  refine ⟨⟨_, ps_try_mix (tb := fun W' => sCan X W' p) hst hfl hN tk (fun W' pn xe t1 p1 => (hb W' pn xe t1 p1).can rfl rfl) ok, fun C r σ H F E D' hK R k hq => ?_⟩⟩
  refine ⟨C, r, F, { E with ex := fun er r1 => slotsIn ms r1 ∧ hsel ms er E.rt fun e => E.ex e r1 }, hK, R, ⟨k.nx, k.rt, k.bk, k.ct, fun σ' er r' H' F' cls d R' hE q => ?_⟩, hq⟩
  exact ent C r' σ' H' F' cls d er D' E.rt (fun e => E.ex e r') hK R' (hK ▸ hE) q.1 k.rt (fun q2 => k.ex σ' er r' H' F' cls d R' hE q2) q.2
end DL

/-! DM, part 3: x(lambda: e), x a def that calls what it got within a try. -/
namespace DL
open PySem PySem.Spec PyProof.Rows L2
/-! ### slots that a lambda may look at -/
def bareO : Option DV → Option DV
  | some (.own _) => none
  | some (.dct _ _) => none
  | o => o
def bare (r : Env) : Env := r.map bareO
def frz1 (r : Env) (i : Nat) : Env := match sl r i with
  | some (.own ds) => put r i (.dat (.list ds))
  | _ => r
def frz (r : Env) : List Nat → Env
  | [] => r
  | i :: is => frz1 (frz r is) i
theorem sl_bare : ∀ (r : Env) (i : Nat), sl (bare r) i = bareO (sl r i)
  | [], i => rfl
  | x :: r, 0 => rfl
  | x :: r, i + 1 => sl_bare r i
theorem bareO_some {o : Option DV} {dv : DV} (h : bareO o = some dv) : o = some dv ∧ dv.hold = false := by
  cases o with
  | none => cases h
  | some d => cases d <;> first | (cases h; done) | (cases h; exact ⟨rfl, rfl⟩)
theorem rep_frz1 {C : Ctx} {r : Env} {σ : L2.St} {H : Hp} {F : AP} (R : Rep C r σ H F) (i : Nat) : ∃ F', Rep C (frz1 r i) σ H F' ∧ ∀ a, F a → F' a := by
  unfold frz1
  split
  · rename_i ds e
    obtain ⟨v, e1, sr⟩ := R.slot i _ e
    cases sr with
    | own h1 h2 h3 =>
      obtain ⟨R2, _⟩ := R.freeze e e1 h1 h2 h3
      exact ⟨_, R2, fun a z => .inl z⟩
  · exact ⟨F, R, fun _ z => z⟩
theorem rep_frz {C : Ctx} {r : Env} {σ : L2.St} {H : Hp} {F : AP} (R : Rep C r σ H F) : ∀ is : List Nat, ∃ F', Rep C (frz r is) σ H F' ∧ ∀ a, F a → F' a
  | [] => ⟨F, R, fun _ z => z⟩
  | i :: is => by
    obtain ⟨F1, R1, h1⟩ := rep_frz R is
    obtain ⟨F2, R2, h2⟩ := rep_frz1 R1 i
    exact ⟨F2, R2, fun a z => h2 a (h1 a z)⟩
theorem given_of {C : Ctx} {r : Env} {σ : L2.St} {H : Hp} {F : AP} (R : Rep C r σ H F) : Given C.K C.b H F [] [] :=
  ⟨.nil, R.ftrk, fun x e => ⟨(R.bag x e).1, (R.bag x e).2.1⟩, R.tb.imp (fun _ z => z.elim) R.tb.f⟩
/-- the lambda's body: the slots as they are, nothing that is tracked may change -/
theorem rep_bare {C : Ctx} {r : Env} {σ : L2.St} {H : Hp} {F : AP} (R : Rep C r σ H F) : Rep ⟨C.K, C.b, Zs C.b H, H, F⟩ (bare r) σ H F where
  len := by unfold bare; rw [List.length_map]; exact R.len
  slot := fun i dv e => by
    rw [sl_bare] at e
    exact R.slot i dv (bareO_some e).1
  dist := fun i j di dj a e1 _ o1 => by
    rw [sl_bare] at e1
    rw [(bareO_some e1).2] at o1
    cases o1
  keep := fun a z => ⟨rfl, z.1⟩
  fsub := fun _ z => z
  fnew := fun _ z => .inl z
  fz := fun a z => ⟨R.ftrk a z, fun e => (R.bag a e).2.1 z, R.tb.f a z⟩
  ftrk := R.ftrk
  ownz := fun i ds a e o1 => by
    rw [sl_bare] at e
    rw [(bareO_some e).2] at o1
    cases o1
  bag := fun b e => ⟨(R.bag b e).1, (R.bag b e).2.1, fun z => z.2.1 e⟩
  tb := R.tb.imp (fun _ z => z.2.2) R.tb.f
/-- a frame of which nothing is known -/
theorem rep_empty {K : PySem.W.Frag} {b : Option Addr} {H H' : Hp} {F F' : AP} (g : Given K b H F [] []) (a : After K b H F H' F') (σ : L2.St) : Rep ⟨K, b, Zs b H, H, F⟩ (List.replicate σ.length none) σ H' F' := by
  have no : ∀ (n i : Nat) (dv : DV), sl (List.replicate n (none : Option DV)) i ≠ some dv := by
    intro n
    induction n with
    | zero => intro i dv z; cases z
    | succ n ih =>
      intro i dv
      rw [List.replicate_succ]
      cases i with
      | zero => intro z; cases z
      | succ i => exact ih i dv
  have kept : ∀ x, Zs b H x → H' x = H x := fun x z => by
    cases q : H x with
    | none => exact absurd q z.1
    | some o => exact a.keep x o q z.2.1 fun ps w => z.2.2 ps (w ▸ q)
  refine ⟨by rw [List.length_replicate], fun i dv e => absurd e (no _ _ _), fun i j di dj x e1 => absurd e1 (no _ _ _), fun x z => ⟨kept x z, by rw [kept x z]; exact z.1⟩, a.sub, fun x z => ?_, fun x z => ⟨g.trk x z, fun e => (g.bag x e).2 z, g.tb.f x z⟩, a.trk, fun i ds x e => absurd e (no _ _ _), fun x e => ⟨(a.bag x e).1, (a.bag x e).2, fun z => z.2.1 e⟩, a.tb.imp (fun x z ps e => ?_) a.tb.f⟩
  · rcases a.new x z with w | w
    · exact .inl w
    · exact .inr fun q => w.no q.1 q.2.2
  · rw [kept x z] at e
    exact z.2.2 ps e
/-- the tables have grown, all else stands -/
theorem rep_ext {C : Ctx} {r : Env} {σ : L2.St} {H H1 : Hp} {F : AP} (R : Rep C r σ H F) (x : LamX.ExtN H H1) (t : LamX.Tabs (tabsOf C.K) H1) : Rep C r σ H1 F := by
  have at_ : ∀ a, H a ≠ none → NT H a → H1 a = H a := fun a n nt => by
    cases q : H a with
    | none => exact absurd q n
    | some o => exact x a o q fun ps w => nt ps (w ▸ q)
  have l : Later H F H1 F := fun a z => ⟨z, at_ a (R.ftrk a z) (R.tb.f a z)⟩
  refine ⟨R.len, fun i dv e => ?_, R.dist, fun a z => ?_, R.fsub, R.fnew, R.fz, fun a z => by rw [(l a z).2]; exact R.ftrk a z, R.ownz, fun b e => ?_, t, fun a z ps e => ?_, fun a z ps e => ?_⟩
  · obtain ⟨v, ev, sr⟩ := R.slot i dv e
    refine ⟨v, ev, ?_⟩
    cases sr with
    | dat s => exact .dat (s.mono l)
    | own g1 g2 g3 => exact .own ((at_ _ (by rw [g1]; simp) (nt_lst g1)).trans g1) (g2.mono l) g3
    | dct g1 g3 => exact .dct (g1.mono l (at_ _ g1.ne.2 (free_dct g1).nt)) g3
    | nd s n => exact .nd (s.mono l) (n.mono l)
    | bag s => exact .bag s
  · obtain ⟨e, n⟩ := R.keep a z
    have q := at_ a n (R.tb.z a z)
    exact ⟨q.trans e, by rw [q]; exact n⟩
  · obtain ⟨k, nf, nz⟩ := R.bag b e
    obtain ⟨c, i, j, k', cells, h1, _⟩ := id k
    exact ⟨BagOk.mono (C := C) l (at_ b (by rw [h1]; simp) (nt_lst h1)) k, nf, nz⟩
  · rw [at_ a (R.keep a z).2 (R.tb.z a z)] at e
    exact R.tb.z a z ps e
  · rw [(l a z).2] at e
    exact R.tb.f a z ps e
/-- what a callee hands back is a value just made -/
theorem res_back {C : Ctx} {r : Env} {σ : L2.St} {H H' : Hp} {F F' : AP} {v : V} {dv : DV} (R : Rep C r σ H F) (br : BackR C.K C.b H H' F' v dv) : Res C r σ H' F' v dv := by
  have held : ∀ {a : Addr}, NewAt H a → (C.b ≠ some a) ∧ ∀ i es, sl r i = some es → es.hold = true → σ[i]? ≠ some (some (.ref a)) := fun {a} n => by
    refine ⟨fun z => ?_, fun i es e1 o1 e2 => ?_⟩
    · obtain ⟨⟨_, _, _, _, _, g1, _⟩, _, _⟩ := R.bag _ z
      obtain ⟨ps, e⟩ := n _ g1
      cases e
    · obtain ⟨v, e3, sr⟩ := R.slot i _ e1
      rw [e2] at e3; cases e3
      cases sr with
      | own g1 _ _ => obtain ⟨ps, e⟩ := n _ g1; cases e
      | dct g1 _ => exact n.no g1.ne.2 (free_dct g1).nt
      | nd _ _ => cases o1
      | dat _ => cases o1
      | bag _ => cases o1
  cases br with
  | dat s => exact .dat s
  | own h1 h2 h3 h4 => exact .own h1 h2 h3 (fun z => h4.no (R.keep _ z).2 (R.tb.z _ z)) (held h4).1 (held h4).2
  | dct h1 h3 h4 => exact .dct h1 h3 (fun z => h4.no (R.keep _ z).2 (R.tb.z _ z)) (held h4).1 (held h4).2
  | nd s n => exact .nd s n
  | bag s => exact .bag s
/-! ### the meaning -/
/-- x(lambda: f): (told, what comes), or what the clauses make of an error -/
def xLam (told : Str) (ms : List CM) (vs : List Nat) (f : TX) : TX := fun _ r Q =>
  f (fun er _ => hsel ms er (fun dv => Q dv (frz r vs)) fun _ => False) (bare (frz r vs)) fun dv _ => match dv.toD with
    | some d => Q (.dat (.tuple [.str told, d])) (frz r vs)
    | none => False
/-- the text of a def that makes lambdas: its code object, its table -/
structure LamT (K : PySem.W.Frag) (x : Str) (f c P : Addr) : Prop where
  mem : x ∈ lamNames
  ns : PySem.W.nsIn K mainGlobals x = some (some (.ref f))
  at_ : PySem.W.tabIn K x = some (c, P)
  un : ∀ p ∈ tabsOf K, p.1 = P → p.2 = lamQ x
theorem un_of {K : PySem.W.Frag} {x : Str} {P : Addr} (h : ∀ y ∈ lamNames, ∀ c' P', PySem.W.tabIn K y = some (c', P') → P' = P → y = x) : ∀ p ∈ tabsOf K, p.1 = P → p.2 = lamQ x := fun p hp e => by
  obtain ⟨y, hy, q⟩ := List.mem_filterMap.mp hp
  cases z : PySem.W.tabIn K y with
  | none => rw [z] at q; cases q
  | some cp =>
    rw [z] at q
    cases q
    rw [h y hy cp.1 cp.2 z e]
theorem headTabs_of {K : PySem.W.Frag} {h : Heap} (a : ∀ y ∈ lamNames, ∀ c P, PySem.W.tabIn K y = some (c, P) → h.get? P = some (PySem.W.tabObj #[]) ∧ K.lookup P = none ∧ PySem.W.codeHdIn K c P = true) : HeadTabs K h := by
  have key : ∀ p ∈ cpOf K, h.get? p.2 = some (PySem.W.tabObj #[]) ∧ K.lookup p.2 = none ∧ PySem.W.codeHdIn K p.1 p.2 = true := fun p hp => by
    obtain ⟨y, hy, q⟩ := List.mem_filterMap.mp hp
    exact a y hy p.1 p.2 q
  exact ⟨fun p hp => (key p hp).1, fun p hp => (key p hp).2.1, fun p hp => (key p hp).2.2⟩
theorem LamT.code {K : PySem.W.Frag} {x : Str} {f c P : Addr} {cdv : Value} (T : LamT K x f c P) (h : CodeOf K f cdv) : cdv = .ref c := by
  obtain ⟨oc, od, fd, osl, lk, rfl⟩ := h
  have t := T.at_
  unfold PySem.W.tabIn at t
  rw [T.ns] at t
  dsimp only at t
  rw [lk] at t
  dsimp only at t
  cases q : fd.code with
  | ref c0 =>
    rw [q] at t
    dsimp only at t
    split at t
    · split at t
      · cases t; rfl
      · cases t
    · cases t
  | _ => rw [q] at t; cases t
theorem LamT.tab {K : PySem.W.Frag} {x : Str} {f c P : Addr} (T : LamT K x f c P) : (P, lamQ x) ∈ tabsOf K := by
  unfold tabsOf
  exact List.mem_filterMap.mpr ⟨x, T.mem, by rw [T.at_]; rfl⟩
theorem LamT.tb {K : PySem.W.Frag} {mg : Str → Option Value} {base : Heap} {x : Str} {f c P : Addr} (T : LamT K x f c P) (h : Tbs K mg base) : LamX.TabB base mg c P := h (c, P) (List.mem_filterMap.mpr ⟨x, T.mem, T.at_⟩)
theorem takes_len {X : Cx} {W : WX} (tk : Takes X W) : Takes X (fun cls d σ H => σ.length = X.N.length → W cls d σ H) := fun u s' ⟨a, B, sI, pins, σ, H, cls, d, e, I, nb, up, sky, na, os, ag, w⟩ =>
  tk u s' ⟨a, B, sI, pins, σ, H, cls, d, e, I, nb, up, sky, na, os, ag, w (by first | exact I.len | exact I.len.symm)⟩
/-- what the def makes of the lambda's reading -/
def TH (K : PySem.W.Frag) (mg : Str → Option Value) (told : Str) (ms : List CM) : (XK → Hp → VK → Prop) → Hp → VK → Prop := fun tl H Q => ∃ (b : Option Addr) (F : AP) (Q0 : DV → Prop), Given K b H F [] [] ∧
  (∀ dv, Q0 dv → ∀ v H' F', After K b H F H' F' → BackR K b H H' F' v dv → Q v H') ∧
  tl (fun cls d H' => ∃ er F', After K b H F H' F' ∧ ErrR mg K H' F' cls d er ∧ hsel ms er Q0 fun _ => False) H (fun v H' => 2 ≤ sizeLine ∧ ∀ p, H' p = none → Q (.ref p) (upd H' p (.tup [.str told, v])))
theorem after_new {K : PySem.W.Frag} {b : Option Addr} {H H' : Hp} {F F' : AP} {p : Addr} {xs : List V} (a : After K b H F H' F') (hp : H' p = none) : After K b H F (upd H' p (.tup xs)) (fun x => F' x ∨ x = p) where
  keep := fun x o e nb nt => by
    have q := a.keep x o e nb nt
    rw [upd_ne (ne_of_none q hp)]; exact q
  sub := fun x z => .inl (a.sub x z)
  new := fun x z => by
    rcases z with z | rfl
    · exact a.new x z
    · refine .inr fun o e => ?_
      by_cases nt : ∃ ps, o = HO.tbl ps
      · exact nt
      · by_cases nb : b = some x
        · obtain ⟨⟨_, _, _, _, _, g1, _⟩, _⟩ := a.bag x nb
          rw [hp] at g1; cases g1
        · have q := a.keep x o e nb fun ps w => nt ⟨ps, w⟩
          rw [hp] at q; cases q
  trk := fun x z => by
    rcases z with z | rfl
    · rw [upd_ne (show x ≠ p from fun q => a.trk x z (by rw [q]; exact hp))]; exact a.trk x z
    · rw [upd_same]; simp
  bag := fun x e => by
    obtain ⟨k, nf⟩ := a.bag x e
    obtain ⟨c, i, j, k', cells, h1, h2, h3⟩ := k
    have l : Later H' F' (upd H' p (.tup xs)) (fun x => F' x ∨ x = p) := fun y z => ⟨.inl z, upd_ne fun q => a.trk y z (q ▸ hp)⟩
    refine ⟨⟨c, i, j, k', cells, by rw [upd_ne (ne_of_none h1 hp)]; exact h1, h2.mono l, h3⟩, fun z => ?_⟩
    rcases z with z | rfl
    · exact nf z
    · rw [hp] at h1; cases h1
  tb := a.tb.grow (fun x o e => by rw [upd_ne (ne_of_none e hp)]; exact e) (fun _ z => z.elim) fun x z => by
    rcases z with z | rfl
    · exact .inl ⟨z, a.trk x z⟩
    · exact .inr (nt_tup upd_same)
/-- the slots of the clauses' names are among n -/
def okSlots (ms : List CM) (n : Nat) : Bool := ms.all fun m => match m.o with
  | some i => decide (i < n)
  | none => true
theorem slots_of {ms : List CM} {n : Nat} (h : okSlots ms n = true) : ∀ m ∈ ms, ∀ i, m.o = some i → i < n := fun m hm i e => by
  have z := List.all_eq_true.mp h m hm
  rw [e] at z
  exact of_decide_eq_true z
theorem heard_gives {X : Cx} {Ng : List Str} {x a q told : Str} {sg : Scope} {g : Addr} {cdg : Value} {hd : ExceptHandler} {hs : List ExceptHandler} {ms : List CM} {j k : Nat} {p0 p1 p2 p3 p4 p5 : Pos} (hN : Ng.Nodup) (hms : okSlots ms Ng.length = true) (h0 : ∀ f : Addr, (L2.start Ng [V.ref f])[0]? = some (some (V.ref f)))
    (hcl : ∀ (s : Shared) (H : Hp), DCls (cxOf C8.CX0 X.prog X.w X.K X.mg X.base Ng x sg g cdg X.A X.stack s H C8.E0).nox (hd :: hs) ms) :
    LamX.GivesTo X Ng x sg g cdg [.Try [.Return (some (.Tuple [.Constant (.str told) j p0, .Call (.Name a p1) [] [] p2] k p3)) p4] (hd :: hs) [] [] p5] a q (TH X.K X.mg told ms) := by
  intro f c' s H Q tl act hc ⟨b, F, Q0, g0, kQ, ht⟩
  obtain ⟨l, ok, ent⟩ := (hcl s H).mix (W := fun _ _ _ _ => False)
  refine ⟨_, pss_one (ps_try_mix (X := (cxOf C8.CX0 X.prog X.w X.K X.mg X.base Ng x sg g cdg X.A X.stack s H C8.E0).nox)
      (tb := fun W D σ H => ∃ Ech : XK, (∀ cls d σ' H', Ech cls d H' → σ'.length = Ng.length → W cls d σ' H') ∧ σ[0]? = some (some (.ref f)) ∧ H c' = some (LamX.CodeO c' q) ∧ tl Ech H fun v H' => 2 ≤ sizeLine ∧ ∀ p, H' p = none → D.rt (.ref p) (upd H' p (.tup [.str told, v])))
      rfl rfl hN takes0 (fun W pn xe tk _ => ?_) ok), ?_⟩
  · refine ⟨fun pins s' σ H' D I h' => ?_⟩
    obtain ⟨Ech, hW, h1, h2, h3⟩ := h'
    have hp := act (fun cls d σ H => σ.length = Ng.length → W cls d σ H) pn xe Ech p1 p2 (takes_len tk) hW
    have hq := pss_one (ps_ret (pos := p4) (pe_tup (x1 := k) (pos := p3) (pa_cons (pe_str (pos := p0) (j := j) (x := told)) (pa_cons hp pa_nil))))
    exact hq.run pins s' σ H' D I ⟨h1, h2, h3⟩
  · refine ⟨fun cls d H' => ∃ er F', After X.K b H F H' F' ∧ ErrR X.mg X.K H' F' cls d er ∧ hsel ms er Q0 fun _ => False, fun cls d σ' H' ⟨er, F', af, hE, hh⟩ hlen => ?_, h0 f, hc, ht⟩
    exact ent ⟨X.K, b, Zs b H, H, F⟩ (List.replicate σ'.length none) σ' H' F' cls d er _ Q0 (fun _ => False) rfl (rep_empty g0 af σ') hE (fun m hm i e => by rw [List.length_replicate, hlen]; exact slots_of hms m hm i e)
      (fun v H2 F2 dv fi rr q0 => kQ dv q0 v H2 F2 (after_of g0 fi) (backR_of rr)) (fun z => z) hh
/-- x(lambda: e) -/
theorem de_lam {X : Cx} {W : WX} {x a xq told : Str} {g c P fq : Addr} {k : Nat} {st : Stmt} {fd : FuncData} {Ng : List Str} {params : Arguments} {body : Expr} {scope : Scope} {p lpos pos : Pos} {f : TX} {ms : List CM} (vs : List Nat) (F : Fun X.K x x st g fd) (hm : X.mg x = some (.ref g)) (hb : Binds X.K fd [a] [])
    (Sg : FnScope Ng [a] (defScope st)) (hNg : Ng[0]? = some a) (hva : Vis (defScope st) a) (hG : ∀ cdg, LamX.GivesTo X Ng x (defScope st) g cdg (defBody st) a (X.env.qual ++ "<lambda>") (TH X.K X.mg told ms))
    (L : LamT X.K xq fq c P) (tbs : Tbs X.K X.mg X.base) (hq : X.env.qual ++ "<lambda>" = lamQ xq) (hcode : X.env.code = .ref c) (hr : Room (k + 2) X.A) (hls : LamX.LamS X.env.scope scope) (hdef : defaultsOf params X.env = ([], []))
    (hbind : ∀ (q : Str) (cl : List (Str × Addr)) (pm cv ctv : Value), bindArgs (PySem.W.kla_fn "<lambda>" q params body scope cl pm cv ctv) ⟨[], []⟩ = pure [])
    (hbody : ∀ (Y : Cx) (W' : WX), Takes Y W' → Room k Y.A → (∃ (A : Around) (outer : List PySem.Env) (s : Shared) (H : Hp) (E : XK) (f c' : Addr), Y = LamX.lamCx X A outer s H E scope f c' ∧ W' = fun cls d _ H' => E cls d H') → DE Y W' body f)
    (hg : Gl X x := by rfl) (hdb : (x == ("__debug__" : Str)) = false := by decide) (hd : (a == ("__debug__" : Str)) = false := by decide) (hcd : (a == ("__classdict__" : Str)) = false := by decide) : DE X W (.Call (.Name x p) [.Lambda params body scope lpos] [] pos) (xLam told ms vs f) := by
  have hk := F.kp
  obtain ⟨oc, od, kV, doc, pm, an, cdv, ct, osl, rfl, lk, hcg⟩ := F.ex
  refine ⟨⟨_, LamX.pe_lamcall (k := k) (T := tabsOf X.K) (t := fun E => tCan X.K X.mg (fun cls d _ H' => E cls d H') f) hg hm hk lk hcg hb Sg hNg hva (hG cdv) (L.tb tbs) hcode (by rw [hq]; exact L.tab) (fun p hp e => by rw [hq]; exact L.un p hp e) hr hls hdef hbind
    (fun A outer s H E f c' hr2 => (hbody _ _ (takes_of rfl rfl rfl rfl) hr2 ⟨A, outer, s, H, E, f, c', rfl, rfl⟩).can) hdb hd hcd, fun C r σ H F0 Q Xk QV hK R Lk hf kk => ?_⟩⟩
  refine ⟨hK ▸ R.tb.tab, fun H1 ext tab1 => ?_⟩
  obtain ⟨F1, R1, _⟩ := rep_frz R vs
  have R2 := rep_ext R1 ext (hK ▸ tab1)
  have g2 := given_of R2
  refine ⟨C.b, F1, fun dv => Q dv (frz r vs), hK ▸ g2, fun dv q v H' F' af br => ?_, ?_⟩
  · obtain ⟨R3, _⟩ := rep_after R2 (hK ▸ af)
    exact kk v H' F' dv _ R3 (res_back R2 (hK ▸ br) |> fun z => by
      cases z with
      | dat s => exact .dat s
      | own h1 h2 h3 h4 h5 h6 => exact .own h1 h2 h3 h4 h5 h6
      | dct h1 h3 h4 h5 h6 => exact .dct h1 h3 h4 h5 h6
      | nd s n => exact .nd s n
      | bag s => exact .bag s) q
  · refine ⟨⟨C.K, C.b, Zs C.b H1, H1, F1⟩, bare (frz r vs), F1, _, _, hK, rep_bare R2, fun er r' H' F' cls d R' hE q => ⟨er, F', hK ▸ after_of g2 R'.fin, hK ▸ hE, q⟩, hf, fun v H' F' dv r' R' G' q => ?_⟩
    split at q
    · rename_i d ed
      obtain ⟨F2, R3, hd2, _⟩ := G'.froz R' ed
      have af := after_of g2 R3.fin
      refine ⟨by rw [line_eq]; decide, fun p hp => ?_⟩
      have af2 := after_new (xs := [.str told, v]) af hp
      obtain ⟨R4, _⟩ := rep_after R2 af2
      have l : Later H' F2 (upd H' p (.tup [.str told, v])) (fun x => F2 x ∨ x = p) := fun y z => ⟨.inl z, upd_ne fun q => R3.ftrk y z (q ▸ hp)⟩
      exact kk _ _ _ _ _ R4 (.dat (.tup (.inl ⟨.inr rfl, .inl upd_same⟩) (.cons (.str _) (.cons (hd2.mono l) .nil)))) q
    · exact q.elim
end DL

/-! DL: isinstance(error, X) in the suite of an except clause; chains of ifs there. -/
namespace DL
open PySem PySem.Spec PyProof.Rows L2
/-- what a class must say so that isinstance asks its instances rightly -/
structure ExcD (K : PySem.W.Frag) (D : Addr) : Prop where
  cl : (PySem.W.clsIn K D).isSome = true
  hg : PySem.W.findIn K (.ref D) "__getattribute__" = some (some (.builtin "BaseException.__getattribute__"))
  hk : PySem.W.findIn K (.ref D) "__getattr__" = some none
  hs : PySem.W.subIn K (.ref D) (.type "BaseException") = some true
  ha : PySem.W.findIn K (.ref D) "__class__" = some (some (.builtin "object.__class__"))
  hn : PySem.W.specialIn K (.builtin "object.__class__") "__get__" = some (some (.builtin "getset_descriptor.__get__"))
  ht : PySem.W.takesIn K (.builtin "object.__class__") = some true
  hm : PySem.W.mroIn K D (.type "object") = some true
def rIsX (K : PySem.W.Frag) (cls : Value) (d : Option Addr) (a : Addr) : List V → Hp → VK → Prop := fun xs H Q => ∃ (D : Addr) (c : V) (cv : Value) (b : Bool), cls = .ref D ∧ ExcD K D ∧ (d = none ∨ ∃ dd fs, d = some dd ∧ H dd = some (.xd fs)) ∧
  xs = [.ref a, c] ∧ (∀ u, RelV c u → u = cv) ∧ PySem.W.kitOne K (.ref D) cv = some b ∧ Q (.bl b) H
theorem call_isX {X : Cx} {a : Addr} {cls : Value} {d : Option Addr} {oe : Obj} {pn : List (Addr × Obj)} (hz : Zc cls d oe) (hf : ∃ vs, oe.data = .fields vs) : CallR (X.suite a ((a, oe) :: pn)) (.builtin "isinstance") (rIsX X.K cls d a) := by
  intro pins s σ H xs us Q I r h
  obtain ⟨D, c, cv, b, rfl, C, hd, rfl, hcv, e, q⟩ := h
  cases r with
  | cons rx rr =>
    cases rr with
    | cons rt rr =>
      cases rr
      cases rx
      have ec := hcv _ rt
      subst ec
      obtain ⟨hget, _⟩ := I.pin (a, oe) (List.mem_append.mpr (.inl List.mem_cons_self))
      obtain ⟨vs, hv⟩ := hf
      have J : ∃ od, PySem.W.InstAt s.heap a oe D od := by
        rcases hd with rfl | ⟨dd, fs, rfl, ea⟩
        · exact ⟨none, hget, hz.1, by unfold PySem.W.notCls; rw [hv] <;> rfl, by rw [hz.2]; trivial⟩
        · have hx : ObjOk X.prog X.w H s.heap dd (.xd fs) := I.hok dd _ ea
          obtain ⟨mA, hns, hr⟩ := hx
          obtain ⟨od, ho, hl⟩ := lookIn_ns hns
          exact ⟨some od, hget, hz.1, by unfold PySem.W.notCls; rw [hv] <;> rfl, by rw [hz.2]; exact ho⟩
      obtain ⟨od, J⟩ := J
      exact PySem.W.kia_one (PySem.W.kitx_exc C.cl C.hg C.hk C.hs C.ha C.hn C.ht C.hm) I.kIn J e (fun z => nomatch z) fun tk => ⟨.bl b, H, I.kept (t' := tk) fun _ _ z => z, rfl, q⟩
/-- which errors are of the class cv -/
def Isn (K : PySem.W.Frag) (mg : Str → Option Value) (cv : Value) (cs : List (Str × Bool)) : Prop := ∀ y b, cs.lookup y = some b → ∀ Cc, mg y = some (.ref Cc) → ExcD K Cc ∧ PySem.W.kitOne K (.ref Cc) cv = some b
theorem isn_nil {K : PySem.W.Frag} {mg : Str → Option Value} {cv : Value} : Isn K mg cv [] := fun _ _ h => by cases h
theorem isn_cons {K : PySem.W.Frag} {mg : Str → Option Value} {cv : Value} {cs : List (Str × Bool)} {x : Str} {b : Bool} {C : Addr} (g : mg x = some (.ref C)) (e1 : ExcD K C) (e2 : PySem.W.kitOne K (.ref C) cv = some b) (h : Isn K mg cv cs) : Isn K mg cv ((x, b) :: cs) := fun y c hl Cc m => by
  by_cases q : y = x
  · subst q
    simp [List.lookup] at hl
    subst hl
    rw [g] at m
    cases m
    exact ⟨e1, e2⟩
  · have qq : (y == x) = false := by simpa using q
    simp [List.lookup, qq] at hl
    exact h y c hl Cc m
/-- a test in a suite -/
structure DHT (X : Cx) (i : Nat) (e : Expr) (cs : List (Str × Bool)) : Prop where
  ex : ∀ (a : Addr) (oe : Obj) (cls : Value) (d : Option Addr) (pn : List (Addr × Obj)), Zc cls d oe → (∃ vs, oe.data = .fields vs) → ∃ t, PT (X.suite a ((a, oe) :: pn)) e t ∧
    ∀ (σ : L2.St) (H : Hp) (F : AP) (er : Err) (Q : Bool → Hp → Prop), σ[i]? = some (some (.ref a)) → ErrR X.mg X.K H F cls d er → (∃ b, cs.lookup er.cls = some b ∧ Q b H) → t σ H Q
def hIf (cs : List (Str × Bool)) (h1 h2 : SH) : SH := fun er Q => match cs.lookup er.cls with
  | some true => h1 er Q
  | some false => h2 er Q
  | none => False
section
variable {X : Cx} {i j k : Nat} {e : Expr} {es es' : List Expr} {st rest : List Stmt} {p p1 p2 pos pos' : Pos} {n x : Str} {C : Addr} {cs : List (Str × Bool)} {g1 g2 : SH} {t1 t2 : GHs}
theorem dt_is (hm : X.mg "isinstance" = none) (hN : X.N[i]? = some n) (hv : Vis X.env.scope n) (hc : X.mg x = some (.ref C)) (hcs : Isn X.K X.mg (.ref C) cs) (hg : Gl X "isinstance" := by rfl) (hg2 : Gl X x := by rfl)
    (hd : (n == ("__debug__" : Str)) = false := by decide) (hcd : (n == ("__classdict__" : Str)) = false := by decide) (hd2 : (x == ("__debug__" : Str)) = false := by decide) :
    DHT X i (.Call (.Name "isinstance" p) [.Name n p1, .Name x p2] [] pos) cs := ⟨fun a oe cls d pn hz hf => by
  refine ⟨_, pt_val (pe_callB (call_isX hz hf) hg hm rfl (pa_cons (pe_var (X := X.suite a ((a, oe) :: pn)) hN hv hd hcd) (pa_cons (pe_glob (v := .ref C) hg2 hc rfl hd2) pa_nil))), fun σ H F er Q hσ hE ⟨b, hl, q⟩ => ?_⟩
  obtain ⟨Cc, m1, rfl, hE⟩ := hE
  obtain ⟨z1, z2⟩ := hcs _ _ hl _ m1
  refine ⟨_, hσ, Cc, .ref C, .ref C, b, rfl, z1, ?_, rfl, fun u h => h, z2, b, rfl, q⟩
  rcases hE with ⟨_, h⟩ | ⟨dd, vs, h, hH, _⟩
  · exact .inl h
  · exact .inr ⟨dd, _, h, hH⟩⟩
theorem dh_if (ht : DHT X i e cs) (h1 : DH X i st g1) (h2 : DH X i rest g2) : DH X i (.If e st [] pos :: rest) (hIf cs g1 g2) := ⟨fun a oe cls d pn hz hf => by
  obtain ⟨t, pt, kt⟩ := ht.ex a oe cls d pn hz hf
  obtain ⟨t1, ps1, k1⟩ := h1.ex a oe cls d pn hz hf
  obtain ⟨t2, ps2, k2⟩ := h2.ex a oe cls d pn hz hf
  refine ⟨_, pss_cons (ps_if pt ps1 pss_nil) ps2, fun C r σ H F er Q D' hK R hσ hE q k => ?_⟩
  refine kt σ H F er _ hσ (hK ▸ hE) ?_
  unfold hIf at q
  split at q
  · rename_i hl
    exact ⟨true, hl, k1 C r σ H F er Q _ hK R hσ hE q k⟩
  · rename_i hl
    exact ⟨false, hl, k2 C r σ H F er Q D' hK R hσ hE q k⟩
  · exact q.elim⟩
theorem dh_retIf (ht : DHT X i e cs) (h1 : DHS X i es t1) (h2 : DHS X i es' t2) : DH X i [.Return (some (.IfExp e (.Tuple es j p) (.Tuple es' k p1) p2)) pos] (hIf cs (hRetT t1) (hRetT t2)) := ⟨fun a oe cls d pn hz hf => by
  obtain ⟨t, pt, kt⟩ := ht.ex a oe cls d pn hz hf
  obtain ⟨u1, ps1, k1⟩ := h1.ex a oe cls d pn hz hf
  obtain ⟨u2, ps2, k2⟩ := h2.ex a oe cls d pn hz hf
  refine ⟨_, pss_one (ps_ret (pe_ifExp pt (pe_tup ps1) (pe_tup ps2))), fun C r σ H F er Q D' hK R hσ hE q k => ?_⟩
  refine kt σ H F er _ hσ (hK ▸ hE) ?_
  unfold hIf at q
  split at q
  · rename_i hl
    refine ⟨true, hl, k1 σ H F er _ _ hσ hE q fun vs ys hvs q1 => ⟨by rw [line_eq, hvs.length]; exact q1.1, fun pa hp => ?_⟩⟩
    obtain ⟨R2, G2, _⟩ := R.freshTup hp (hK ▸ hvs)
    exact k _ _ _ _ R2.fin G2.ret q1.2
  · rename_i hl
    refine ⟨false, hl, k2 σ H F er _ _ hσ hE q fun vs ys hvs q1 => ⟨by rw [line_eq, hvs.length]; exact q1.1, fun pa hp => ?_⟩⟩
    obtain ⟨R2, G2, _⟩ := R.freshTup hp (hK ▸ hvs)
    exact k _ _ _ _ R2.fin G2.ret q1.2
  · exact q.elim⟩
end
end DL

/-! DL: sorted(d.items()), the keys texts or numbers, the values texts or numbers. -/
namespace DL.SI
open PySem PySem.Spec PyProof.Rows PyProof.Rows.G L2 L2.DX
/-- whether a key is a text -/
def isS : Key → Bool
  | .inl _ => false
  | .inr _ => true
/-- what is compared of it -/
def ik : Key → Int ⊕ List Nat
  | .inl i => .inl i
  | .inr x => .inr x.cps.toList
def sh (b0 b1 : Bool) (i : Nat) : Bool := if i = 0 then b0 else b1
theorem items_cons {f : Nat → Bool} {i : Nat} {k : Key} {v : Value} {r : List Value} {l : List (Int ⊕ List Nat)} (hk : keyIs k v = true) (hs : f i = isS k) (hr : tupItems f (i + 1) r = some l) : tupItems f i (v :: r) = some (ik k :: l) := by
  rcases keyIs_shape hk with ⟨j, t, rfl, rfl⟩ | ⟨x, t, rfl, rfl⟩
  · simp only [tupItems]
    rw [hs, hr]
    rfl
  · simp only [tupItems]
    rw [hs, hr]
    rfl
theorem items_two {k m : Key} {u v : Value} (hu : keyIs k u = true) (hv : keyIs m v = true) : tupItems (sh (isS k) (isS m)) 0 (#[u, v] : Array Value).toList = some [ik k, ik m] :=
  items_cons hu rfl (items_cons hv rfl rfl)
theorem first_is {k m : Key} {u : Value} (hu : keyIs k u = true) : (sh (isS k) (isS m) 0 = false → ∃ i t, u = .int i t) ∧ (sh (isS k) (isS m) 0 = true → ∃ x t, u = .str x t) := by
  rcases keyIs_shape hu with ⟨j, t, rfl, rfl⟩ | ⟨x, t, rfl, rfl⟩
  · exact ⟨fun _ => ⟨_, _, rfl⟩, fun e => (by cases e)⟩
  · exact ⟨fun e => (by cases e), fun _ => ⟨_, _, rfl⟩⟩
theorem keyIs_of {k : Key} {u : Value} (r : RelV (kV k) u) : keyIs k u = true := by
  cases k with
  | inl i =>
    obtain ⟨t, rfl⟩ := (show ∃ t, u = Value.int i t from r)
    exact keyIs_int i t
  | inr x =>
    obtain ⟨t, rfl⟩ := (show ∃ t, u = Value.str x t from r)
    exact keyIs_str x t
theorem tups_of {h : Heap} {f : Nat → Bool} : ∀ as : List Addr, (∀ b ∈ as, ∃ g, TupOf h f (.ref b) g) → ∃ fs, TupsOf h f (as.map Value.ref) fs
  | [], _ => ⟨[], .nil⟩
  | b :: as, x => by
    obtain ⟨g, hg⟩ := x b (List.mem_cons_self ..)
    obtain ⟨fs, hf⟩ := tups_of as fun c hc => x c (List.mem_cons_of_mem _ hc)
    exact ⟨g :: fs, .cons hg hf⟩
theorem pairs_get {prog : Program} {w : World} {κ : Type} [DecidableEq κ] {knd : PySem.KeyKind prog w κ} : ∀ {es : List DictEntry} {kvs : List (κ × Value)} {j : Nat} {e : DictEntry}, Pairs knd es kvs → es[j]? = some e → ∃ kv, kvs[j]? = some kv ∧ knd.is kv.1 e.key = true ∧ e.val = kv.2
  | _, _, 0, e, .cons h1 h2 h3, q => by
    cases q
    exact ⟨_, rfl, h1, h2⟩
  | _, _, j + 1, e, .cons h1 h2 h3, q => by
    obtain ⟨kv, a, b⟩ := pairs_get (j := j) h3 (by simpa using q)
    exact ⟨kv, by simpa using a, b⟩
def rSortItK : List V → Hp → VK → Prop := fun vs H Q => ∃ (p a : Addr) (ks : List (Key × Key)) (b0 b1 : Bool), vs = [.ref p] ∧ H p = some (itemsO p a) ∧ H a = some (.dK (ks.map fun e => (e.1, kV e.2))) ∧ (∀ e ∈ ks, isS e.1 = b0 ∧ isS e.2 = b1) ∧
  ∀ (H' : Hp) (l : Addr) (zs : List (Addr × Key × Key)), (∀ b o, H b = some o → H' b = some o) → H l = none → (zs.map (·.2)).Perm ks → (zs.map (·.2)).Pairwise (fun e f => (listOrd itemOrd).blt [ik f.1, ik f.2] [ik e.1, ik e.2] = false) → (ks.map (·.1)).Nodup →
    H' l = some (.lst (zs.map fun z => V.ref z.1)) → (∀ z ∈ zs, H z.1 = none ∧ H' z.1 = some (.tup [kV z.2.1, kV z.2.2])) → Q (.ref l) H'
theorem cr_sortItK {X : Cx} (hc : X.calm = true) : CallR X (.builtin "sorted") rSortItK := by
  intro pins s σ H xs us Q I r h
  obtain ⟨p, a, ks, b0, b1, rfl, hp, ha, hsh, q⟩ := h
  obtain rfl := Vals.ref1 r
  have vw := (show ObjOk X.prog X.w H s.heap p (itemsO p a) from I.hok p _ hp).1
  obtain ⟨hz, hd, vs, kv, o, es, ep, ho, hx, hdat, hks, hpr, hnd⟩ := dk_of I.hok ha
  have n1 : vs.length = ks.length := by
    have e := Paired.length kv
    rw [List.length_map] at e
    exact e.symm
  have n2 : es.size = ks.length := by rw [← n1, ← hpr.length, Array.length_toList]
  rw [List.length_map] at hz
  refine DT.sortedI (es := es) (ep := ep) (I.ok.hd hc) vw ⟨o, ho, hx, hdat⟩ (by omega) fun h1 tk as old big len made => ?_
  have nas : as.length = ks.length := by omega
  have ndas : as.Nodup := made.rise.imp fun h => Nat.ne_of_lt h
  have pr : ∀ (j : Nat) (b : Addr), as[j]? = some b → ∃ (e : Key × Key) (u v : Value), ks[j]? = some e ∧ h1.get? b = some { cls := .type "tuple", data := .seq #[u, v] } ∧ keyIs e.1 u = true ∧ RelV (kV e.2) v := by
    intro j b hj
    obtain ⟨en, he, hg⟩ := made.pairs j b hj
    obtain ⟨y, hy, y1, y2⟩ := pairs_get (j := j) (e := en) hpr (by rw [Array.getElem?_toList]; exact he)
    obtain ⟨k, hk, k1, k2⟩ := pget kv hy
    rw [List.getElem?_map] at hk
    cases hkj : ks[j]? with
    | none => rw [hkj] at hk; cases hk
    | some e =>
      rw [hkj] at hk
      cases hk
      exact ⟨e, en.key, en.val, rfl, hg, by rw [show e.1 = y.1 from k1]; exact y1, by rw [y2]; exact k2⟩
  have low : ∀ (b : Addr) (ob : Obj), h1.get? b = some ob → b ≠ h1.objs.size := fun b ob e => Nat.ne_of_lt (Heap.lt_size e)
  generalize eh : h1.push { cls := .type "list", data := .seq (as.map Value.ref).toArray } = h2
  have hob : h2.get? h1.objs.size = some (seqObj "list" (as.map Value.ref).toArray 0) := by rw [← eh]; exact Heap.get?_push_size _ rfl
  have k12 : ∀ (b : Addr) (ob : Obj), h1.get? b = some ob → h2.get? b = some ob := fun b ob e => by rw [← eh]; exact Heap.get?_push_of_some _ e
  have key : ∀ (j : Nat) (b : Addr) (e : Key × Key), as[j]? = some b → ks[j]? = some e → tupKeyC h2 (sh b0 b1) (.ref b) = some [ik e.1, ik e.2] ∧ ∃ g, TupOf h2 (sh b0 b1) (.ref b) g := by
    intro j b e hj he
    obtain ⟨e', u, v, he', hg, hu, hv⟩ := pr j b hj
    cases he.symm.trans he'
    obtain ⟨rfl, rfl⟩ := hsh e (List.mem_of_getElem? he)
    exact ⟨tupKeyC_of (k12 _ _ hg) rfl rfl (items_two hu (keyIs_of hv)), u, b, _, #[u, v], 0, rfl, k12 _ _ hg, rfl, rfl, rfl, first_is hu⟩
  have at1 : ∀ b ∈ as, ∃ (j : Nat) (e : Key × Key), as[j]? = some b ∧ ks[j]? = some e := fun b hb => by
    obtain ⟨j, hj⟩ := List.mem_iff_getElem?.mp hb
    obtain ⟨e, _, _, he, _⟩ := pr j b hj
    exact ⟨j, e, hj, he⟩
  obtain ⟨fs, hfs⟩ := tups_of (h := h2) (f := sh b0 b1) as fun b hb => by
    obtain ⟨j, e, hj, he⟩ := at1 b hb
    exact (key j b e hj he).2
  refine wpAny_call_entry (T := "list") PyProof.Rows.slot_list_sort ⟨_, hob, rfl⟩ PyProof.Rows.entry_list_sort
    (list_sort_tups (s := { s with heap := h2, toks := tk }) hob hfs (fun v hv => ?_) (by rw [List.length_map]; omega) fun st' a1 a2 _ => ⟨.none, rfl, ?_⟩) (PyProof.Rows.args_list_sort _)
  · obtain ⟨b, hb, rfl⟩ := List.mem_map.mp hv
    obtain ⟨j, e, hj, he⟩ := at1 b hb
    exact ⟨_, (key j b e hj he).1⟩
  show EP X pins σ Q (.ref h1.objs.size) { s with heap := sortedHeap h2 h1.objs.size (as.map Value.ref) ((arrOf st').map (·.2)), toks := tk }
  have a3 : (arrOf st').toList.Perm ((as.map Value.ref).zip (as.map Value.ref)) := by
    rw [← pairsOf_toList]
    exact Array.perm_iff_toList_perm.mp a1
  obtain ⟨zs, pz, ez⟩ := perm_lift (fun z : Addr × Key × Key => (Value.ref z.1, Value.ref z.1)) a3 (as.zip ks) (zip_self Value.ref as ks nas)
  have idx : ∀ z ∈ zs, ∃ j : Nat, as[j]? = some z.1 ∧ ks[j]? = some z.2 := fun z hz => by
    obtain ⟨j, hj⟩ := List.mem_iff_getElem?.mp (pz.mem_iff.mp hz)
    exact ⟨j, List.getElem?_zip_eq_some.mp hj⟩
  have outs : ((arrOf st').map (·.2)).toList = zs.map fun z => Value.ref z.1 := by
    rw [Array.toList_map, ← ez, List.map_map]
    rfl
  have perm2 : (zs.map (·.2)).Perm ks := by
    have e := pz.map (·.2)
    rw [List.map_snd_zip (by omega)] at e
    exact e
  have nz : zs.length = ks.length := by
    have e := perm2.length_eq
    rw [List.length_map] at e
    exact e
  have srt : (zs.map (·.2)).Pairwise (fun e f => (listOrd itemOrd).blt [ik f.1, ik f.2] [ik e.1, ik e.2] = false) := by
    rw [List.pairwise_map, List.pairwise_iff_getElem]
    intro i j hi hj hij
    have g : ∀ (m : Nat) (hm : m < zs.length), KK (tupKindC h2 (sh b0 b1)) (arrOf st') m = [ik zs[m].2.1, ik zs[m].2.2] := by
      intro m hm
      obtain ⟨c, c1, c2⟩ := idx zs[m] (List.getElem_mem hm)
      have e : (arrOf st')[m]? = some (Value.ref zs[m].1, Value.ref zs[m].1) := by
        rw [← Array.getElem?_toList, ← ez, List.getElem?_map, List.getElem?_eq_getElem hm]
        rfl
      unfold KK
      rw [e]
      show (tupKeyC h2 (sh b0 b1) (.ref zs[m].1)).getD [] = _
      rw [(key c _ _ c1 c2).1]
      rfl
    have d := a2 i j (Nat.le_of_lt hij) (by rw [pairsOf_size, List.length_map]; omega)
    rw [g i hi, g j hj] at d
    exact d
  have kF : ∀ (b : Addr) (ob : Obj), h1.get? b = some ob → (sortedHeap h2 h1.objs.size (as.map Value.ref) ((arrOf st').map (·.2))).get? b = some ob := fun b ob e =>
    (sortedHeap_old (low b ob e) (Heap.lt_size (k12 b ob e))).trans (k12 b ob e)
  obtain ⟨eF, hF⟩ := sortedHeap_at (vs := as.map Value.ref) (out := (arrOf st').map (·.2)) hob
  have I1 : Inv X pins σ H { s with heap := sortedHeap h2 h1.objs.size (as.map Value.ref) ((arrOf st').map (·.2)), toks := tk } := I.kept (t' := tk) fun b ob e => kF b ob (old b ob e)
  have fresh : H h1.objs.size = none := I.hok.fresh (Nat.le_of_lt big)
  have I2 : Inv X pins σ (upd H h1.objs.size (.lst (zs.map fun z => V.ref z.1))) { s with heap := sortedHeap h2 h1.objs.size (as.map Value.ref) ((arrOf st').map (·.2)), toks := tk } := by
    refine I1.take (t' := tk) (fun b ob _ e => e) (I.fpOk (Nat.le_of_lt big) fresh) ⟨?_, ((arrOf st').map (·.2)).toList, eF, ?_, hF⟩
    · rw [List.length_map, nz]
      exact hz
    · rw [outs]
      exact vals_maps (fun z : Addr × Key × Key => V.ref z.1) (fun z => Value.ref z.1) zs fun _ _ => rfl
  obtain ⟨H2, I3, g, qt⟩ := L2.DX.takeT (P := fun b vs => ∃ (j : Nat) (e : Key × Key), as[j]? = some b ∧ ks[j]? = some e ∧ vs = [kV e.1, kV e.2]) I as _ I2 ndas fun b hb => by
    obtain ⟨j, hj⟩ := List.mem_iff_getElem?.mp hb
    obtain ⟨e, u, v, he, hg, hu, hv⟩ := pr j b hj
    have hbl := Nat.le_of_lt (made.above b hb)
    refine ⟨hbl, ?_, [kV e.1, kV e.2], ⟨j, e, hj, he, rfl⟩, fun H3 => ⟨(by rw [sizeLine_eq]; show 2 ≤ 16777216; omega), [u, v], .cons (keyIs_rel hu) (.cons hv .nil), ⟨_, kF _ _ hg, rfl, 0, rfl⟩⟩⟩
    rw [upd_ne (low _ _ hg)]
    exact I.hok.fresh hbl
  have gr : ∀ (b : Addr) (ob : HO), H b = some ob → H2 b = some ob := fun b ob e => g b ob (by rw [upd_ne (ne_of_none e fresh)]; exact e)
  have ndk : (ks.map (·.1)).Nodup := by
    have e : vs.map (·.1) = ks.map (·.1) := by
      refine List.ext_getElem? fun j => ?_
      rw [List.getElem?_map, List.getElem?_map]
      cases ej : vs[j]? with
      | none =>
        rw [List.getElem?_eq_none_iff] at ej
        rw [List.getElem?_eq_none (by omega)]
        rfl
      | some y =>
        obtain ⟨k, hk, k1, _⟩ := pget kv ej
        rw [List.getElem?_map] at hk
        cases hkj : ks[j]? with
        | none => rw [hkj] at hk; cases hk
        | some e =>
          rw [hkj] at hk
          cases hk
          exact congrArg some k1.symm
    rw [← e]
    exact hnd
  refine ⟨.ref h1.objs.size, H2, I3, rfl, q H2 h1.objs.size zs gr fresh perm2 srt ndk (g _ _ upd_same) fun z hz' => ?_⟩
  obtain ⟨i, i1, i2⟩ := idx z hz'
  have hb : z.1 ∈ as := List.mem_of_getElem? i1
  obtain ⟨vs', ⟨j, e, j1, j2, ev⟩, hH⟩ := qt z.1 hb
  have eij : i = j := (List.getElem?_inj (List.getElem?_eq_some_iff.mp i1).1 ndas).mp (i1.trans j1.symm)
  subst eij
  cases i2.symm.trans j2
  subst ev
  exact ⟨I.hok.fresh (Nat.le_of_lt (made.above _ hb)), hH⟩
end DL.SI

/-! DL: sorted(d.items()) as an expression; constant tuples of texts; x in a tuple of data of any depth; sorted(xs) of numbers. -/
namespace DL
open PySem PySem.Spec PyProof.Rows L2
/-! ### sorted(d.items()) -/
def shapeD : Bool → D → Prop
  | true, d => ∃ x, d = .str x
  | false, d => ∃ i, d = .int i
abbrev prD (p : Str × D) : D := .tuple [.str p.1, p.2]
abbrev kvD (p : Str × D) : D × D := (.str p.1, p.2)
def xSortIt (i : Nat) : TX := fun _ r Q => ∃ (ss : List (Str × D)) (b : Bool), sl r i = some (.dct false (ss.map kvD)) ∧ (∀ p ∈ ss, shapeD b p.2) ∧
  ∀ ys : List (Str × D), ys.Perm ss → ys.Pairwise (fun e f => ¬ f.1.cps.toList < e.1.cps.toList) → (ss.map (·.1)).Nodup → Q (.own (ys.map prD)) r
section
variable {X : Cx}
def rItemsK : V → List V → Hp → VK → Prop := fun x xs H Q => ∃ (a : Addr) (kvs : List (Key × V)), x = .ref a ∧ xs = [] ∧ H a = some (.dK kvs) ∧ ∀ p, H p = none → Q (.ref p) (upd H p (L2.DX.itemsO p a))
theorem mt_itemsK : MtR X "dict.items" rItemsK := by
  intro pins s σ H x xs v us Q I rx rxs h
  obtain ⟨a, kvs, rfl, rfl, ha, q⟩ := h
  cases rx
  cases rxs
  obtain ⟨_, hd, vs, kv, o, es, ep, ho, hx, hdat, _⟩ := dk_of I.hok ha
  refine DT.callItems (es := es) (ep := ep) hd ⟨o, ho, hx, hdat⟩ ?_
  refine ⟨.ref s.heap.objs.size, upd H s.heap.objs.size (L2.DX.itemsO s.heap.objs.size a), ?_, rfl, q _ (I.hok.fresh (Nat.le_refl _))⟩
  exact I.laid (t' := s.toks) (fun b u e => Heap.get?_push_of_some _ e) (Nat.le_refl _) (L2.DX.itemsO_ok (Heap.get?_push_size _ rfl))
theorem key_str {K : PySem.W.Frag} {H : Hp} {F : AP} : ∀ {ps : List (Key × V)} {ss : List (Str × D)} {b : Bool}, KvR K H F keyD ps (ss.map kvD) → (∀ p ∈ ss, shapeD b p.2) →
    ∃ ks : List (Key × Key), ps = ks.map (fun e => (e.1, kV e.2)) ∧ ks.length = ss.length ∧ (∀ e ∈ ks, SI.isS e.1 = true ∧ SI.isS e.2 = b) ∧ ∀ z ∈ ks.zip ss, z.1.1 = .inr z.2.1 ∧ DpF K H F (kV z.1.2) z.2.2
  | _, [], b, .nil, _ => ⟨[], rfl, rfl, fun _ h => (by cases h), fun _ h => (by cases h)⟩
  | _, p :: ss, b, .cons (v := v) ek hv hs, hsh => by
    obtain ⟨ks, rfl, e2, e3, e4⟩ := key_str hs fun q hq => hsh q (List.mem_cons_of_mem _ hq)
    cases ek
    have h0 := hsh p (List.mem_cons_self ..)
    obtain ⟨kk, rfl, hb⟩ : ∃ kk : Key, v = kV kk ∧ SI.isS kk = b := by
      cases b with
      | true =>
        obtain ⟨x, ex⟩ := h0
        rw [show (kvD p).2 = p.2 from rfl, ex] at hv
        cases hv
        exact ⟨.inr x, rfl, rfl⟩
      | false =>
        obtain ⟨x, ex⟩ := h0
        rw [show (kvD p).2 = p.2 from rfl, ex] at hv
        cases hv
        exact ⟨.inl x, rfl, rfl⟩
    refine ⟨(.inr p.1, kk) :: ks, rfl, congrArg (· + 1) e2, fun e he => ?_, fun z hz => ?_⟩
    · rcases List.mem_cons.mp he with rfl | he
      · exact ⟨rfl, hb⟩
      · exact e3 e he
    · rw [List.zip_cons_cons] at hz
      rcases List.mem_cons.mp hz with rfl | hz
      · exact ⟨rfl, hv⟩
      · exact e4 z hz
theorem rows_dp {K : PySem.W.Frag} {H : Hp} {F : AP} : ∀ (zs : List (Addr × Key × Key)) (ws : List ((Key × Key) × (Str × D))), ws.map (·.1) = zs.map (·.2) → (∀ z ∈ zs, F z.1 ∧ H z.1 = some (.tup [kV z.2.1, kV z.2.2])) → (∀ w ∈ ws, w.1.1 = .inr w.2.1 ∧ DpF K H F (kV w.1.2) w.2.2) →
    DpFs K H F (zs.map fun z => V.ref z.1) (ws.map fun w => prD w.2)
  | [], [], _, _, _ => .nil
  | [], _ :: _, e, _, _ => by cases e
  | _ :: _, [], e, _, _ => by cases e
  | z :: zs, w :: ws, e, hz, hw => by
    rw [List.map_cons, List.map_cons] at e
    injection e with e1 e2
    obtain ⟨f1, f2⟩ := hz z (List.mem_cons_self ..)
    obtain ⟨g1, g2⟩ := hw w (List.mem_cons_self ..)
    refine .cons (.tup (.inl ⟨f1, .inl f2⟩) ?_) (rows_dp zs ws e2 (fun y hy => hz y (List.mem_cons_of_mem _ hy)) fun y hy => hw y (List.mem_cons_of_mem _ hy))
    rw [← e1]
    rw [g1]
    exact .cons (.str _) (.cons g2 .nil)
end
section
variable {X : Cx} {W : WX} {e ob : Expr} {pos : Pos}
theorem de_sortIt {i : Nat} (hc : X.calm = true) (po : PE X ob (tVar i)) (mk : ∀ {t : TE} {r : List V → Hp → VK → Prop}, CallR X (.builtin "sorted") r → (PE X ob (tVar i) → MtR X "dict.items" rItemsK → PE X e (tCB r (tCons (tBM0 X.K "dict" rItemsK (tVar i)) tNil)))) : DE X W e (xSortIt i) := by
  refine ⟨⟨_, mk (t := tVar i) (SI.cr_sortItK hc) po mt_itemsK, fun C r σ H F Q Xk QV hK R L hf k => ?_⟩⟩
  obtain ⟨ss, b, e0, hsh, hq⟩ := hf
  obtain ⟨v0, s0, sr0⟩ := R.slot i _ e0
  refine ⟨v0, s0, ?_⟩
  cases sr0 with
  | dct g1 g3 =>
    rename_i a
    obtain ⟨ps, h1, h2⟩ := g1.k
    refine ⟨.inr (.inr (.inl ⟨rfl, .inl ⟨_, h1⟩⟩)), a, ps, rfl, rfl, h1, fun p hp => ?_⟩
    obtain ⟨ks, rfl, n1, hks, hz⟩ := key_str h2 hsh
    have H1a : ∀ b o, H b = some o → upd H p (L2.DX.itemsO p a) b = some o := fun b o e => by rw [upd_ne (ne_of_none e hp)]; exact e
    refine ⟨p, a, ks, true, b, rfl, upd_same, H1a _ _ h1, hks, fun H' l zs ext hl perm srt nd hH' hzs => ?_⟩
    have ext2 : ∀ b o, H b = some o → H' b = some o := fun b o e => ext b o (H1a b o e)
    -- the texts that belong to the rows
    have nd1 : ks.map (·.1) = (ss.map (·.1)).map Sum.inr := by
      refine List.ext_getElem? fun j => ?_
      rw [List.getElem?_map, List.map_map, List.getElem?_map]
      by_cases hj : j < ks.length
      · have hj2 : j < ss.length := by omega
        rw [List.getElem?_eq_getElem hj, List.getElem?_eq_getElem hj2]
        have := (hz (ks[j], ss[j]) (List.mem_iff_getElem?.mpr ⟨j, by rw [List.getElem?_zip_eq_some]; exact ⟨List.getElem?_eq_getElem hj, List.getElem?_eq_getElem hj2⟩⟩)).1
        exact congrArg some this
      · rw [List.getElem?_eq_none (by omega), List.getElem?_eq_none (by omega)]
        rfl
    have ndS : (ss.map (·.1)).Nodup := by
      rw [nd1] at nd
      exact (List.pairwise_map.mp nd).imp fun h e => h (congrArg Sum.inr e)
    obtain ⟨ws, pw, ew⟩ := perm_lift (fun z : (Key × Key) × (Str × D) => z.1) perm (ks.zip ss) (List.map_fst_zip (by omega))
    have hw : ∀ w ∈ ws, w.1.1 = .inr w.2.1 ∧ DpF C.K H F (kV w.1.2) w.2.2 := fun w hw => hz w (pw.mem_iff.mp hw)
    have py : (ws.map (·.2)).Perm ss := by
      have e := pw.map (·.2)
      rw [List.map_snd_zip (by omega)] at e
      exact e
    have sy : (ws.map (·.2)).Pairwise (fun e f => ¬ f.1.cps.toList < e.1.cps.toList) := by
      rw [← ew, List.pairwise_map] at srt
      rw [List.pairwise_map]
      refine List.Pairwise.imp_of_mem (fun {x y} hx hy h => ?_) srt
      rw [(hw x hx).1, (hw y hy).1] at h
      have h2 := (PyProof.Rows.lex_false.mp h).1
      exact of_decide_eq_false h2
    have R1 : Rep C r σ H' (fun x => F x ∨ ∃ z ∈ zs, x = z.1) := R.grow (fun x fx => ⟨.inl fx, by
      cases q : H x with
      | none => exact absurd q (R.ftrk x fx)
      | some o => rw [ext2 x o q]⟩) ext2 fun x fx => by
        rcases fx with fx | ⟨z, hz1, rfl⟩
        · exact .inl fx
        · obtain ⟨z1, z2⟩ := hzs z hz1
          refine .inr ⟨?_, by rw [z2]; simp, nt_tup z2⟩
          cases q : H z.1 with
          | none => rfl
          | some o => rw [H1a _ o q] at z1; cases z1
    have l1 : Later H F H' (fun x => F x ∨ ∃ z ∈ zs, x = z.1) := fun x fx => ⟨.inl fx, by
      cases q : H x with
      | none => exact absurd q (R.ftrk x fx)
      | some o => rw [ext2 x o q]⟩
    have hl0 : H l = none := by
      cases q : H l with
      | none => rfl
      | some o => rw [H1a _ o q] at hl; cases hl
    have D1 := rows_dp zs ws ew (fun z hz1 => ⟨.inr ⟨z, hz1, rfl⟩, (hzs z hz1).2⟩) fun w hw1 => ⟨(hw w hw1).1, (hw w hw1).2.mono l1⟩
    refine k _ _ _ _ _ R1 (.own hH' D1 ?_ (fun z => (R.keep l z).2 hl0) (fun z => ?_) fun i es e o1 e1 => ?_) (by
      have h := hq (ws.map (·.2)) py sy ndS
      rw [List.map_map] at h
      exact h)
    · rintro (z | ⟨z, z1, rfl⟩)
      · exact R.ftrk l z hl0
      · rw [(hzs z z1).2] at hH'; cases hH'
    · obtain ⟨⟨_, _, _, _, _, h1, _⟩, _, _⟩ := R.bag l z
      rw [hl0] at h1; cases h1
    · obtain ⟨v, e2, sr⟩ := R.slot i _ e
      rw [e1] at e2; cases e2
      cases sr with
      | own h1 _ _ => rw [hl0] at h1; cases h1
      | dct h1 _ => exact h1.ne.2 hl0
      | nd _ _ => cases o1
      | dat _ => cases o1
      | bag _ => cases o1
end
/-! ### x in a tuple of data -/
section
variable {X : Cx}
def rInT (K : PySem.W.Frag) : R2 := fun x y H Q => ∃ d ds, Dp K H x d ∧ Dp K H y (.tuple ds) ∧ okD d ∧ okD (.tuple ds) ∧ Q (.bl (isIn d ds)) H
def rNotInT (K : PySem.W.Frag) : R2 := fun x y H Q => ∃ d ds, Dp K H x d ∧ Dp K H y (.tuple ds) ∧ okD d ∧ okD (.tuple ds) ∧ Q (.bl (!isIn d ds)) H
theorem op_inT (hu : X.A.units + 65 < cLine) : OpR X (compareOp .In) (rInT X.K) := by
  rintro pins s σ H x y v u Q I rx ry ⟨d, ds, g1, g2, g3, g4, q⟩
  obtain ⟨_, r1⟩ := Dp.reads I d x v g1 rx
  obtain ⟨_, r2⟩ := Dp.reads I (.tuple ds) y u g2 ry
  exact SeqAt.in_tuple_reads r2 r1 (SeqAt.canLay_of_shaped g4) (SeqAt.canLay_of_shaped g3) (room_in_shaped g3 hu) ⟨.bl (isIn d ds), H, I, rfl, q⟩
theorem op_notInT (hu : X.A.units + 65 < cLine) : OpR X (compareOp .NotIn) (rNotInT X.K) := by
  rintro pins s σ H x y v u Q I rx ry ⟨d, ds, g1, g2, g3, g4, q⟩
  obtain ⟨_, r1⟩ := Dp.reads I d x v g1 rx
  obtain ⟨_, r2⟩ := Dp.reads I (.tuple ds) y u g2 ry
  exact SeqAt.notIn_tuple_reads r2 r1 (SeqAt.canLay_of_shaped g4) (SeqAt.canLay_of_shaped g3) (room_in_shaped g3 hu) ⟨.bl (!isIn d ds), H, I, rfl, q⟩
def rIn4 (K : PySem.W.Frag) : R2 := fun x y H Q => rInT K x y H Q ∨ rIn3 K x y H Q
def rNotIn4 (K : PySem.W.Frag) : R2 := fun x y H Q => rNotInT K x y H Q ∨ rNotIn3 K x y H Q
theorem op_in4 (hu : X.A.units + 65 < cLine) : OpR X (compareOp .In) (rIn4 X.K) := (op_inT hu).or (op_in3 hu)
theorem op_notin4 (hu : X.A.units + 65 < cLine) : OpR X (compareOp .NotIn) (rNotIn4 X.K) := (op_notInT hu).or (op_notin3 hu)
end
def dIn4 : Op2 := fun x y Q => (∃ ds, y = .tuple ds ∧ okD x ∧ okD (.tuple ds) ∧ Q (.dat (.bool (isIn x ds)))) ∨ dIn x y Q
def dNotIn4 : Op2 := fun x y Q => (∃ ds, y = .tuple ds ∧ okD x ∧ okD (.tuple ds) ∧ Q (.dat (.bool (!isIn x ds)))) ∨ dNotIn x y Q
theorem sem_in4 {K : PySem.W.Frag} : Sem2 K (rIn4 K) dIn4 := by
  intro C r σ H F x y dx dy Q QV hK R hx hy hq k
  rcases hq with ⟨ds, rfl, g3, g4, hq⟩ | hq
  · subst hK
    exact .inl ⟨dx, ds, hx.dp, hy.dp, g3, g4, kq_dat k R (.bl _) hq⟩
  · exact .inr (sem_in C r σ H F x y dx dy Q QV hK R hx hy hq k)
theorem sem_notin4 {K : PySem.W.Frag} : Sem2 K (rNotIn4 K) dNotIn4 := by
  intro C r σ H F x y dx dy Q QV hK R hx hy hq k
  rcases hq with ⟨ds, rfl, g3, g4, hq⟩ | hq
  · subst hK
    exact .inl ⟨dx, ds, hx.dp, hy.dp, g3, g4, kq_dat k R (.bl _) hq⟩
  · exact .inr (sem_notin C r σ H F x y dx dy Q QV hK R hx hy hq k)
/-! ### sorted(xs), numbers or texts -/
def nSortA : OpN := fun ds Q => (∃ ns : List Int, ds = [.list (ns.map .int)] ∧ ∀ ys : List Int, ys.Perm ns → ys.Pairwise (· ≤ ·) → Q (.own (ys.map .int))) ∨ nSortS ds Q
def rSortA (K : PySem.W.Frag) : List V → Hp → VK → Prop := fun vs H Q => rSortedI K vs H Q ∨ rSortedS K vs H Q
theorem cr_sortA {X : Cx} : CallR X (.builtin "sorted") (rSortA X.K) := by
  intro pins s σ H vs us Q I r h
  rcases h with h | h
  · exact cr_sortedI pins s σ H vs us Q I r h
  · exact cr_sortedS pins s σ H vs us Q I r h
theorem dpfs_ints {K : PySem.W.Frag} {H : Hp} {F : AP} : ∀ (ns : List Int), DpFs K H F (ns.map V.int) (ns.map .int)
  | [] => .nil
  | i :: r => .cons (.int i) (dpfs_ints r)
theorem sem_sortA {K : PySem.W.Frag} : SemN K (rSortA K) nSortA := by
  intro C r σ H F xs ds Q QV hK R hx hq k
  rcases hq with ⟨ns, rfl, hq⟩ | hq
  · subst hK
    obtain ⟨v, rfl, hv⟩ := hx.one
    obtain ⟨a, vs, rfl, h1, h2⟩ := hv.lst
    have := h2.vints
    subst this
    exact .inl ⟨a, ns, rfl, .inl (.inl h1), fun ys p hp hs hn => kq_own k R hn (dpfs_ints ys) (hq ys hp hs)⟩
  · exact .inr (sem_sortS C r σ H F xs ds Q QV hK R hx hq k)
/-! ### constant tuples of texts -/
def strV : Value → Option Str
  | .str x _ => some x
  | _ => none
def strsV : List Value → Option (List Str)
  | [] => some []
  | v :: r => match strV v, strsV r with
    | some x, some xs => some (x :: xs)
    | _, _ => none
theorem vals_strs : ∀ {us : List Value} {ss : List Str}, strsV us = some ss → Vals (ss.map V.str) us
  | [], _, e => by cases e; exact .nil
  | u :: us, ss, e => by
    unfold strsV at e
    split at e
    · rename_i x xs e1 e2
      cases e
      refine .cons ?_ (vals_strs e2)
      cases u with
      | str y t => cases e1; exact ⟨t, rfl⟩
      | _ => cases e1
    · cases e
/-- a name of the text stands for a tuple of texts -/
def KTup (K : PySem.W.Frag) (mg : Str → Option Value) (x : Str) (ss : List Str) : Prop := ∃ a, mg x = some (.ref a) ∧ KT K a (ss.map V.str)
theorem ktup_mk {K : PySem.W.Frag} {mg : Str → Option Value} {x : Str} {ss : List Str} {a : Addr} {od : Option Addr} {its : Array Value} {n : Nat} {sl : Array (Option Value)} (g : mg x = some (.ref a)) (l : K.lookup a = some ⟨.type "tuple", od, .seq its n, sl⟩)
    (e : strsV its.toList = some ss) (h : its.size ≤ 1000) : KTup K mg x ss :=
  ⟨a, g, .inr ⟨_, its, n, l, rfl, rfl, by rw [sizeLine_eq]; omega, vals_strs e⟩⟩
theorem de_ktup {X : Cx} {W : WX} {x : Str} {ss : List Str} {pos : Pos} (hg : Gl X x) (t : KTup X.K X.mg x ss) (hd : (x == ("__debug__" : Str)) = false := by decide) : DE X W (.Name x pos) (xC (.tuple (ss.map .str))) := by
  obtain ⟨a, g, kt⟩ := t
  exact ⟨⟨_, pe_glob (v := .ref a) hg g rfl hd, fun C r σ H F Q Xk QV hK R _ hf k => k _ H F _ r R (.dat (.tup (.inr (by rw [hK]; exact kt)) (dpfs_strs ss))) hf⟩⟩
/-! ### k in d, as a test -/
section
variable {X : Cx} {W : WX} {b ob : Expr} {pos : Pos}
theorem dt_din {i : Nat} {o : OX} (hu : X.A.units + 1 < cLine) (po : PE X ob (tVar i)) (hb : DO X W b o) (hm : behindInMarks .In ob = false := by rfl) : DT X W (.Compare b [.In] [ob] pos) (bX (xDIn false i o)) := by
  obtain ⟨t, pe, ent⟩ := hb.ex
  refine ⟨⟨_, pt_cmp (pc_din hu pe po) hm, fun C r σ H F Q Xk QV hK R L hf k => ?_⟩⟩
  have q := dgf (X := X) (W := W) (b := b) (ob := ob) (i := i) false ent C r σ H F _ Xk (fun v H' => ∃ c, v = .bl c ∧ QV c H') hK R L hf fun v H1 F1 dv r1 R1 G1 q1 => by
    split at q1
    · cases G1 with
      | dat s =>
        cases s
        exact ⟨_, rfl, k _ H1 F1 r1 R1 q1⟩
    · exact q1.elim
  simp only [Bool.false_bne] at q
  exact q
theorem dt_dnin {i : Nat} {o : OX} (hu : X.A.units + 1 < cLine) (po : PE X ob (tVar i)) (hb : DO X W b o) (hm : behindInMarks .NotIn ob = false := by rfl) : DT X W (.Compare b [.NotIn] [ob] pos) (bX (xDIn true i o)) := by
  obtain ⟨t, pe, ent⟩ := hb.ex
  refine ⟨⟨_, pt_cmp (pc_dnotin hu pe po) hm, fun C r σ H F Q Xk QV hK R L hf k => ?_⟩⟩
  have q := dgf (X := X) (W := W) (b := b) (ob := ob) (i := i) true ent C r σ H F _ Xk (fun v H' => ∃ c, v = .bl c ∧ QV c H') hK R L hf fun v H1 F1 dv r1 R1 G1 q1 => by
    split at q1
    · cases G1 with
      | dat s =>
        cases s
        exact ⟨_, rfl, k _ H1 F1 r1 R1 q1⟩
    · exact q1.elim
  simp only [Bool.true_bne] at q
  exact q
end
end DL

/-! DL: plain facts, for the laws: data that may be shown and compared; loops. -/
namespace DL
open PySem
structure Fine (k w : Nat) (d : D) : Prop where
  lay : d.canLay0 = true
  dep : d.depth ≤ k
  wt : d.weight ≤ w
  sh : d.intsShort 50 = true
  sw : d.showable = true
theorem fin_none {k w : Nat} : Fine k w .none := ⟨rfl, Nat.zero_le _, Nat.zero_le _, rfl, rfl⟩
theorem fin_bool {k w : Nat} {b : Bool} : Fine k w (.bool b) := ⟨rfl, Nat.zero_le _, Nat.zero_le _, rfl, rfl⟩
theorem log_small {i : Int} (h : i.natAbs < 10 ^ 12) : i.natAbs.log2 < 40 := by
  by_cases z : i.natAbs = 0
  · rw [z]; decide
  · rw [Nat.log2_lt z]
    exact Nat.lt_trans h (by decide)
theorem fin_int {k w : Nat} {i : Int} (h : i.natAbs < 10 ^ 12) (hw : 40 ≤ w) : Fine k w (.int i) := by
  have hl := log_small h
  refine ⟨rfl, Nat.zero_le _, ?_, ?_, ?_⟩
  · show (if i == 0 then 0 else i.natAbs.log2 + 1) ≤ w
    split <;> omega
  · show decide ((PyData.shown (.int i)).length ≤ 50) = true
    exact decide_eq_true (Nat.le_trans (PyData.shown_int_le h) (by decide))
  · show decide (i.natAbs.log2 < 1920) = true
    exact decide_eq_true (by omega)
theorem fin_big {k w : Nat} {i : Int} (n : Nat) (h : i.natAbs < 2 ^ n) (hn : n ≤ 160) (hw : n ≤ w) : Fine k w (.int i) := by
  have h49 : i.natAbs < 10 ^ 49 := Nat.lt_of_lt_of_le h (Nat.le_trans (Nat.pow_le_pow_right (by decide) hn) (by decide +kernel))
  have hl : i.natAbs.log2 < 160 := by
    by_cases z : i.natAbs = 0
    · rw [z]; decide
    · rw [Nat.log2_lt z]
      exact Nat.lt_of_lt_of_le h (Nat.pow_le_pow_right (by decide) hn)
  refine ⟨rfl, Nat.zero_le _, ?_, ?_, ?_⟩
  · show (if i == 0 then 0 else i.natAbs.log2 + 1) ≤ w
    split
    · omega
    · rename_i hz
      have hz' : i.natAbs ≠ 0 := by
        intro e
        apply hz
        have : i = 0 := by omega
        rw [this]; rfl
      have := (Nat.log2_lt hz').mpr h
      omega
  · show decide ((PyData.shown (.int i)).length ≤ 50) = true
    refine decide_eq_true ?_
    have e := int_text_length_le10 (k := 49) (by decide) h49
    show (Str.ofString (toString i)).length ≤ 50
    rw [ofString_length]; exact e
  · show decide (i.natAbs.log2 < 1920) = true
    exact decide_eq_true (by omega)
theorem fin_str {k w : Nat} {x : Str} (h : PyData.strOk x = true) (hw : x.length ≤ w) : Fine k w (.str x) := ⟨h, Nat.zero_le _, hw, rfl, rfl⟩
theorem fin_all {k w : Nat} : ∀ {xs : List D}, (∀ x ∈ xs, Fine k w x) → PyData.canLayAll0 xs = true ∧ PyData.depthAll xs ≤ k ∧ PyData.weightAll xs ≤ xs.length * (w + 1) ∧ PyData.intsShortAll 50 xs = true ∧ PyData.showableAll xs = true
  | [], _ => ⟨rfl, Nat.zero_le _, Nat.zero_le _, rfl, rfl⟩
  | x :: xs, h => by
    obtain ⟨a1, a2, a3, a4, a5⟩ := fin_all (xs := xs) fun y hy => h y (List.mem_cons_of_mem _ hy)
    have b := h x (List.mem_cons_self ..)
    refine ⟨?_, ?_, ?_, ?_, ?_⟩
    · simp only [PyData.canLayAll0, b.lay, a1, Bool.and_self]
    · have := b.dep
      simp only [PyData.depthAll]
      omega
    · have := b.wt
      simp only [PyData.weightAll, List.length_cons, Nat.add_mul, Nat.one_mul]
      omega
    · simp only [PyData.intsShortAll, b.sh, a4, Bool.and_self]
    · simp only [PyData.showableAll, b.sw, a5, Bool.and_self]
theorem fin_tuple {k w n m : Nat} {xs : List D} (h : ∀ x ∈ xs, Fine k w x) (hn : xs.length ≤ n) (hm : n * (w + 1) ≤ m) : Fine (k + 1) m (.tuple xs) := by
  obtain ⟨a1, a2, a3, a4, a5⟩ := fin_all h
  have := Nat.mul_le_mul_right (w + 1) hn
  exact ⟨a1, by show _ + 1 ≤ _; omega, by show PyData.weightAll xs ≤ _; omega, a4, a5⟩
theorem fin_list {k w n m : Nat} {xs : List D} (h : ∀ x ∈ xs, Fine k w x) (hn : xs.length ≤ n) (hm : n * (w + 1) ≤ m) : Fine (k + 1) m (.list xs) := by
  obtain ⟨a1, a2, a3, a4, a5⟩ := fin_all h
  have := Nat.mul_le_mul_right (w + 1) hn
  exact ⟨a1, by show _ + 1 ≤ _; omega, by show PyData.weightAll xs ≤ _; omega, a4, a5⟩
theorem Fine.ok {k w : Nat} {d : D} (h : Fine k w d) (hk : k ≤ 64) : okD d := by
  show (d.canLay0 && decide (d.depth ≤ 64)) = true
  rw [h.lay, decide_eq_true (Nat.le_trans h.dep hk)]
  rfl
theorem Fine.repr {k w : Nat} {d : D} (h : Fine k w d) (hk : k ≤ 64) (hw : w ≤ 300000) : d.showable = true ∧ d.hasDict = false ∧ d.depth ≤ 64 ∧ d.shown.length ≤ LN := by
  have e := PyData.shown_le 50 (by decide) d (PyData.leavesShort_of_canLay0 50 d h.lay h.sh)
  have e2 : (50 + 2) * d.weight ≤ 52 * 300000 := Nat.mul_le_mul_left _ (Nat.le_trans h.wt hw)
  exact ⟨h.sw, PyData.hasDict_of_canLay d h.lay, Nat.le_trans h.dep hk, by show _ ≤ 16777216; omega⟩
theorem Fine.refl {k w : Nat} {d : D} (h : Fine k w d) : PyData.eqv d d = true := SeqAt.eqv_refl d h.lay
theorem Fine.mono {k w k' w' : Nat} {d : D} (h : Fine k w d) (hk : k ≤ k') (hw : w ≤ w') : Fine k' w' d := ⟨h.lay, Nat.le_trans h.dep hk, Nat.le_trans h.wt hw, h.sh, h.sw⟩
/-! shown texts have signs of Unicode alone -/
theorem strOk_mem {x : Str} : PyData.strOk x = true ↔ ∀ c ∈ x.cps.toList, c < 0x110000 := by
  show x.cps.all (fun c => decide (c < 0x110000)) = true ↔ _
  rw [← Array.all_toList, List.all_eq_true]
  simp only [decide_eq_true_eq]
theorem strOk_app {a b : Str} (ha : PyData.strOk a = true) (hb : PyData.strOk b = true) : PyData.strOk (a ++ b) = true := by
  rw [strOk_mem] at ha hb ⊢
  intro c hc
  have e : (a ++ b).cps = a.cps ++ b.cps := rfl
  rw [e, Array.toList_append, List.mem_append] at hc
  exact hc.elim (ha c) (hb c)
theorem char_lt (c : Char) : c.toNat < 0x110000 := by
  have := c.valid
  rcases this with h | ⟨_, h⟩
  · exact Nat.lt_trans h (by decide)
  · exact h
theorem strOk_of (s : String) : PyData.strOk (Str.ofString s) = true := by
  rw [strOk_mem]
  intro c hc
  have e : (Str.ofString s).cps.toList = s.toList.map Char.toNat := by
    rw [Str.ofString_eq_toList]
  rw [e, List.mem_map] at hc
  obtain ⟨ch, _, rfl⟩ := hc
  exact char_lt ch
theorem hex_lt (w c : Nat) : ∀ x ∈ (List.replicate (w - ((Nat.toDigits 16 c).map Char.toNat).length) 48 ++ (Nat.toDigits 16 c).map Char.toNat), x < 0x110000 := by
  intro x hx
  rw [List.mem_append] at hx
  rcases hx with h | h
  · rw [List.eq_of_mem_replicate h]; decide
  · rw [List.mem_map] at h
    obtain ⟨ch, _, rfl⟩ := h
    exact char_lt ch
theorem reprChar_lt (q c : Nat) (hc : c < 0x110000) : ∀ x ∈ PySem.Builtin.Str.reprChar q c, x < 0x110000 := by
  intro x hx
  unfold PySem.Builtin.Str.reprChar at hx
  dsimp only at hx
  have two : ∀ (k m : Nat), k < 0x110000 → m < 0x110000 → x ∈ [k, m] → x < 0x110000 := fun k m hk hm hx => by
    simp only [List.mem_cons, List.not_mem_nil, or_false] at hx
    rcases hx with rfl | rfl
    · exact hk
    · exact hm
  split at hx
  · exact two _ _ (by decide) hc hx
  split at hx
  · exact two _ _ (by decide) (by decide) hx
  split at hx
  · exact two _ _ (by decide) (by decide) hx
  split at hx
  · exact two _ _ (by decide) (by decide) hx
  split at hx
  · rw [List.mem_singleton] at hx; rw [hx]; exact hc
  split at hx
  · rw [List.mem_append] at hx
    rcases hx with h | h
    · exact two _ _ (by decide) (by decide) h
    · exact hex_lt _ _ x h
  split at hx
  · rw [List.mem_append] at hx
    rcases hx with h | h
    · exact two _ _ (by decide) (by decide) h
    · exact hex_lt _ _ x h
  · rw [List.mem_append] at hx
    rcases hx with h | h
    · exact two _ _ (by decide) (by decide) h
    · exact hex_lt _ _ x h
theorem quote_lt (x : Str) : PySem.reprQuote x < 0x110000 := by
  unfold PySem.reprQuote
  split <;> decide
theorem foldl_repr_lt (q : Nat) : ∀ (l : List Nat) (acc : Array Nat), (∀ c ∈ l, c < 0x110000) → (∀ c ∈ acc.toList, c < 0x110000) → ∀ c ∈ (l.foldl (fun out c => out ++ (PySem.Builtin.Str.reprChar q c).toArray) acc).toList, c < 0x110000
  | [], acc, _, h => h
  | c :: r, acc, hl, h => by
    rw [List.foldl_cons]
    refine foldl_repr_lt q r _ (fun d hd => hl d (List.mem_cons_of_mem _ hd)) fun d hd => ?_
    rw [Array.toList_append, List.mem_append] at hd
    rcases hd with g | g
    · exact h d g
    · exact reprChar_lt q c (hl c (List.mem_cons_self ..)) d (by simpa using g)
theorem strOk_repr {x : Str} (h : PyData.strOk x = true) : PyData.strOk (PySem.reprText x) = true := by
  rw [strOk_mem] at h ⊢
  intro c hc
  unfold PySem.reprText at hc
  rw [Array.toList_push, List.mem_append] at hc
  rcases hc with g | g
  · rw [← Array.foldl_toList] at g
    exact foldl_repr_lt _ _ _ h (fun d hd => by rw [List.mem_singleton.mp hd]; exact quote_lt x) c g
  · rw [List.mem_singleton.mp g]; exact quote_lt x
theorem strOk_textFrom : ∀ (ts : List Str) (k : Nat) (acc : Str), PyData.strOk acc = true → (∀ t ∈ ts, PyData.strOk t = true) → PyData.strOk (PySem.textFrom k acc ts) = true
  | [], _, _, h, _ => h
  | t :: r, k, acc, h, ht => by
    refine strOk_textFrom r (k + 1) _ ?_ fun u hu => ht u (List.mem_cons_of_mem _ hu)
    exact strOk_app (strOk_app h (strOk_of _)) (ht t (List.mem_cons_self ..))
theorem strOk_join : ∀ (ts : List Str) (sep : Str), PyData.strOk sep = true → (∀ t ∈ ts, PyData.strOk t = true) → PyData.strOk (Str.join sep ts) = true
  | [], _, _, _ => strOk_of ""
  | [x], _, _, ht => ht x (List.mem_cons_self ..)
  | x :: y :: r, sep, hs, ht => by
    show PyData.strOk (x ++ sep ++ Str.join sep (y :: r)) = true
    exact strOk_app (strOk_app (ht x (List.mem_cons_self ..)) hs) (strOk_join (y :: r) sep hs fun u hu => ht u (List.mem_cons_of_mem _ hu))
theorem strOk_tuple {ts : List Str} (h : ∀ t ∈ ts, PyData.strOk t = true) : PyData.strOk (PySem.tupleText ts) = true := strOk_app (strOk_app (strOk_of _) (strOk_join ts _ (strOk_of _) h)) (strOk_of _)
theorem strOk_list {ts : List Str} (h : ∀ t ∈ ts, PyData.strOk t = true) : PyData.strOk (PySem.listText ts) = true := strOk_app (strOk_textFrom ts 0 _ (strOk_of _) h) (strOk_of _)
mutual
theorem strOk_shown : ∀ d : D, d.canLay0 = true → PyData.strOk d.shown = true
  | .none, _ => strOk_of _
  | .bool b, _ => by cases b <;> exact strOk_of _
  | .int i, _ => strOk_of _
  | .str x, h => strOk_repr h
  | .list xs, h => strOk_list (strOk_shownAll xs h)
  | .tuple xs, h => strOk_tuple (strOk_shownAll xs h)
  | .dict _, h => by cases h
theorem strOk_shownAll : ∀ xs : List D, PyData.canLayAll0 xs = true → ∀ t ∈ PyData.shownAll xs, PyData.strOk t = true
  | [], _, t, ht => by cases ht
  | x :: xs, h, t, ht => by
    have h' : (x.canLay0 && PyData.canLayAll0 xs) = true := h
    rw [Bool.and_eq_true] at h'
    have ht' : t ∈ x.shown :: PyData.shownAll xs := ht
    rcases List.mem_cons.mp ht' with rfl | g
    · exact strOk_shown x h'.1
    · exact strOk_shownAll xs h'.2 t g
end
theorem okD_str {x : Str} (h : PyData.strOk x = true) : okD (.str x) := by
  show ((PyData.str x).canLay0 && decide ((PyData.str x).depth ≤ 64)) = true
  have e : (PyData.str x).canLay0 = true := h
  rw [e, decide_eq_true (show (PyData.str x).depth ≤ 64 from Nat.zero_le _)]
  rfl
theorem Fine.okS {k w : Nat} {d : D} (h : Fine k w d) : okD (.str d.shown) := okD_str (strOk_shown d h.lay)
/-! loops -/
theorem forL_inv {g : TG} {b : TS} {E : Ends} : ∀ (ds : List D) (r : Env) (I : Nat → Env → Prop), I 0 r → (∀ i x r (nx : Env → Prop), ds[i]? = some x → I i r → (∀ r', I (i + 1) r' → nx r') → g (.dat x) r fun r1 => b { E with nx := nx, ct := nx, bk := E.nx } r1) → (∀ r, I ds.length r → E.nx r) → forL g b E ds r
  | [], r, I, h, _, f => f r h
  | x :: xs, r, I, h, s, f => by
    refine s 0 x r _ rfl h fun r' h' => ?_
    exact forL_inv xs r' (fun i => I (i + 1)) h' (fun i y r nx e => s (i + 1) y r nx e) f
theorem lcL_inv {own : List Nat} {g : TG} {t : TB} {f : TX} {Q : List D → Env → Prop} : ∀ (ds : List D) (acc : List D) (r : Env) (I : Nat → List D → Env → Prop), I 0 acc r → (∀ i x acc r (K : List D → Env → Prop), ds[i]? = some x → I i acc r → (∀ a r', I (i + 1) a r' → K a r') → g (.dat x) r fun r1 => t noX r1 fun b r2 => if b = true then
      f noX r2 fun dv r3 => match dv.toD with
        | some d => acc.length < 16777216 ∧ K (acc ++ [d]) (clrs r3 own)
        | none => False
    else K acc (clrs r2 own)) → (∀ acc r, I ds.length acc r → Q acc r) → lcL own g t f ds acc r Q
  | [], acc, r, I, h, _, q => q acc r h
  | x :: xs, acc, r, I, h, s, q => by
    refine s 0 x acc r (fun a r' => lcL own g t f xs a r' Q) rfl h fun a r' h' => ?_
    exact lcL_inv xs a r' (fun i => I (i + 1)) h' (fun i y acc r K e => s (i + 1) y acc r K e) q
theorem lcL_gen {own : List Nat} {g : TG} {t : TB} {f : TX} {r : Env} (F : D → Option D) : ∀ (ds acc : List D) (Q : List D → Env → Prop), acc.length + ds.length ≤ 16777216 → (∀ x ∈ ds, ∀ (acc : List D) (K : List D → Env → Prop), acc.length < 16777216 → K (acc ++ (F x).toList) r → g (.dat x) r fun r1 => t noX r1 fun b r2 => if b = true then
      f noX r2 fun dv r3 => match dv.toD with
        | some d => acc.length < 16777216 ∧ K (acc ++ [d]) (clrs r3 own)
        | none => False
    else K acc (clrs r2 own)) → Q (acc ++ ds.filterMap F) r → lcL own g t f ds acc r Q
  | [], acc, Q, _, _, q => by rw [List.filterMap_nil, List.append_nil] at q; exact q
  | x :: xs, acc, Q, hl, s, q => by
    rw [List.length_cons] at hl
    refine s x (List.mem_cons_self ..) acc (fun a r' => lcL own g t f xs a r' Q) (by omega) ?_
    refine lcL_gen F xs _ Q ?_ (fun y hy => s y (List.mem_cons_of_mem _ hy)) ?_
    · rw [List.length_append]
      have : (F x).toList.length ≤ 1 := by cases F x <;> simp
      omega
    · rw [List.append_assoc]
      have e : (F x).toList ++ xs.filterMap F = (x :: xs).filterMap F := by
        rw [List.filterMap_cons]
        cases F x <;> rfl
      rw [e]; exact q
theorem rangeL_len (lo hi : Int) : (rangeL lo hi).length = (hi - lo).toNat := by
  unfold rangeL
  rw [List.length_map, List.length_range]
theorem rangeL_get {lo hi : Int} {i : Nat} {x : D} (h : (rangeL lo hi)[i]? = some x) : x = .int (lo + (i : Nat)) ∧ lo + (i : Nat) < hi := by
  unfold rangeL at h
  rw [List.getElem?_map] at h
  cases e : (List.range (hi - lo).toNat)[i]? with
  | none => rw [e] at h; cases h
  | some k =>
    rw [e] at h
    obtain ⟨h1, h2⟩ := List.getElem?_eq_some_iff.mp e
    rw [List.length_range] at h1
    rw [List.getElem_range] at h2
    subst h2
    exact ⟨(Option.some.inj h).symm, by omega⟩
theorem rangeL_mem {lo hi : Int} {x : D} (h : x ∈ rangeL lo hi) : ∃ i : Int, x = .int i ∧ lo ≤ i ∧ i < hi := by
  obtain ⟨i, hi'⟩ := List.getElem?_of_mem h
  obtain ⟨a, b⟩ := rangeL_get hi'
  exact ⟨_, a, by omega, b⟩
end DL

/-! DL: the helpers that many laws share. -/
namespace DL
open PySem
section
local macro_rules | `(tactic| walk_at "dl") => `(tactic| simp only [sSeq, sFor, sIf, sRet, sNext, sAsg, sPar, sDrop, sAug, wRange1, wRange2, wX, oE, oV, oCons, oNil, xCB, xCall, xB, xC, xVar, xMv, xU, xAnd, xOr, xNot, xTup, xLst, xIf, xCh, xLc, xCut, xApp, xMeth, aCons, aNil, bX, bO, bAnd, bOr, bNot, bYes,
   gets, sl, put, putO, gN, gT, gsAll, onArg, DV.toD, allD, Option.bind_some, fnSpec, List.map_cons, List.map_nil, List.length_cons, List.length_nil, List.replicate, List.cons_append, List.nil_append, pNo, pSome, nLen, nMax, dAdd, dSub, dInt, dGt, dCut, clrs, back, itemsOf, nRepr, nTuple, dNe, dEq, dIs, dIsNot, dLt, dLe, dGe, dIx, dMul, mulOk])
theorem take_ok {n : Int} (h0 : 0 < n) (h1 : n < 2 ^ 30) {Q : DV → Prop} {E : Err → Prop} (q : ∀ k : Int, 0 ≤ k → k < n → Q (.dat (.int k))) : takeS [.bag, .dat (.int n)] Q E := ⟨n, rfl, h0, h1, q⟩
theorem some_ok {xs : List D} (h0 : 0 < xs.length) (h1 : xs.length < 2 ^ 30) {Q : DV → Prop} {E : Err → Prop} (q : ∀ x ∈ xs, Q (.dat x)) :
    fnSpec 2 (sRet (xB dIx (oV 1) (oE (xCall takeS (aCons (xVar 0) (aCons (xCB nLen (oCons (oV 1) oNil)) aNil)))))) [.bag, .dat (.list xs)] Q E := by
  walk_at "dl"
  refine take_ok (by omega) (by omega) fun k hk0 hk1 => ?_
  obtain ⟨j, rfl⟩ := Int.eq_ofNat_of_zero_le hk0
  have hj : j < xs.length := by omega
  have e : L2.atI xs (j : Int) = some xs[j] := L2.atI_nat (List.getElem?_eq_getElem hj)
  simp only [Int.ofNat_eq_natCast] at *
  rw [e]
  exact q _ (List.getElem_mem hj)
theorem alike_ok {k w : Nat} {d : D} (h : Fine k w d) (hk : k ≤ 64) (hw : w ≤ 300000) {Q : DV → Prop} {E : Err → Prop} (q : Q (.dat (.bool true))) :
    fnSpec 2 (sRet (xAnd (xB dEq (oE (xCB nRepr (oCons (oV 0) oNil))) (oE (xCB nRepr (oCons (oV 1) oNil)))) (xB dEq (oV 0) (oV 1)))) [.dat d, .dat d] Q E := by
  walk_at "dl"
  have r := h.repr hk hw
  have e : PyData.eqv (.str d.shown) (.str d.shown) = true := SeqAt.eqv_refl _ (strOk_shown d h.lay)
  refine ⟨r, r, h.okS, h.okS, ?_⟩
  rw [e]
  refine ⟨h.ok hk, h.ok hk, ?_⟩
  rw [h.refl]
  exact q
end
end DL

/-! DL: meanings, one step at a time. -/
namespace DL
open PySem
section
variable {X : XW} {r : Env} {E : Ends} {E0 : Err → Prop}
def on1 (o : Option D) (k : D → Prop) : Prop := match o with
  | some d => k d
  | none => False
def on2 (o p : Option D) (k : D → D → Prop) : Prop := match o, p with
  | some x, some y => k x y
  | _, _ => False
def onL (o : Option (List D)) (k : List D → Prop) : Prop := match o with
  | some ds => k ds
  | none => False
def onB (dv : DV) (k : Bool → Prop) : Prop := match dv with
  | .dat (.bool b) => k b
  | _ => False
def onT (o : Option Bool) (k : Bool → Prop) : Prop := match o with
  | some b => k b
  | none => False
def onI (o : Option D) (k : Int → Prop) : Prop := match o with
  | some (.int i) => k i
  | _ => False
def on3 (d : Option D) (l h : Option (Option Int)) (k : D → Option Int → Option Int → Prop) : Prop := match d, l, h with
  | some x, some y, some z => k x y z
  | _, _, _ => False
theorem v_on1 {o d} {k : D → Prop} (e : o = some d) (h : k d) : on1 o k := by rw [e]; exact h
theorem v_on2 {o p x y} {k : D → D → Prop} (e : o = some x) (f : p = some y) (h : k x y) : on2 o p k := by rw [e, f]; exact h
theorem v_on3 {d l hh x y z} {k : D → Option Int → Option Int → Prop} (e : d = some x) (f : l = some y) (g : hh = some z) (h : k x y z) : on3 d l hh k := by rw [e, f, g]; exact h
theorem v_onL {o ds} {k : List D → Prop} (e : o = some ds) (h : k ds) : onL o k := by rw [e]; exact h
theorem v_onB {b} {k : Bool → Prop} (h : k b) : onB (.dat (.bool b)) k := h
theorem v_onT {o b} {k : Bool → Prop} (e : o = some b) (h : k b) : onT o k := by rw [e]; exact h
theorem v_onI {o i} {k : Int → Prop} (e : o = some (.int i)) (h : k i) : onI o k := by rw [e]; exact h
theorem v_xC {d} {Q : DV → Env → Prop} (h : Q (.dat d) r) : xC d X r Q := h
theorem v_xVarD {i d} {Q : DV → Env → Prop} (e : sl r i = some (.dat d)) (h : Q (.dat d) r) : xVar i X r Q := by unfold xVar; rw [e]; exact h
theorem v_xVarB {i} {Q : DV → Env → Prop} (e : sl r i = some .bag) (h : Q .bag r) : xVar i X r Q := by unfold xVar; rw [e]; exact h
theorem v_xVarO {i ds r'} {Q : DV → Env → Prop} (e : sl r i = some (.own ds)) (e2 : put r i (.dat (.list ds)) = r') (h : Q (.dat (.list ds)) r') : xVar i X r Q := by unfold xVar; rw [e]; show Q _ (put r i (.dat (.list ds))); rw [e2]; exact h
theorem v_xMv {i dv r'} {Q : DV → Env → Prop} (e : sl r i = some dv) (e2 : putO r i none = r') (h : Q dv r') : xMv i X r Q := by unfold xMv; rw [e]; show Q _ (putO r i none); rw [e2]; exact h
theorem v_oV {i dv} {Q : Get → Env → Prop} (e : sl r i = some dv) (h : Q (fun r' => (sl r' i).bind DV.toD) r) : oV i X r Q := by unfold oV; rw [e]; exact h
theorem v_oE {f} {Q : Get → Env → Prop} (h : f X r fun dv r1 => on1 dv.toD fun d => Q (fun _ => some d) r1) : oE f X r Q := h
theorem v_xB {o a b} {Q : DV → Env → Prop} (h : a X r fun g r1 => b X r1 fun h r2 => on2 (g r2) (h r2) fun x y => o x y fun v => Q v r2) : xB o a b X r Q := h
theorem v_xU {o a} {Q : DV → Env → Prop} (h : a X r fun g r1 => on1 (g r1) fun x => o x fun v => Q v r1) : xU o a X r Q := h
def onCmp (dv : DV) (k l : Prop) : Prop := match dv with
  | .dat (.bool true) => k
  | .dat (.bool false) => l
  | _ => False
theorem v_onCmp {b : Bool} {k l : Prop} (h : if b = true then k else l) : onCmp (.dat (.bool b)) k l := by
  cases b with
  | true => rw [if_pos rfl] at h; exact h
  | false => rw [if_neg (by decide)] at h; exact h
theorem v_xCh {o o' a b c} {Q : DV → Env → Prop} (h : a X r fun g r1 => b X r1 fun h r2 => on2 (g r2) (h r2) fun x y => o x y fun v => onCmp v (c X r2 fun k r3 => on2 (h r3) (k r3) fun y' z => o' y' z fun w => onB w fun q => Q (.dat (.bool q)) r3) (Q (.dat (.bool false)) r2)) : xCh o o' a b c X r Q := h
theorem v_oNil {Q : List Get → Env → Prop} (h : Q [] r) : oNil X r Q := h
theorem v_oCons {a t} {Q : List Get → Env → Prop} (h : a X r fun g r1 => t X r1 fun gs r2 => Q (g :: gs) r2) : oCons a t X r Q := h
theorem v_xCB {o t} {Q : DV → Env → Prop} (h : t X r fun gs r1 => onL (gets gs r1) fun ds => o ds fun v => Q v r1) : xCB o t X r Q := h
theorem v_aNil {Q : List DV → Env → Prop} (h : Q [] r) : aNil X r Q := h
theorem v_aCons {f t} {Q : List DV → Env → Prop} (h : f X r fun dv r1 => onArg dv fun w => t X r1 fun vs r2 => Q (w :: vs) r2) : aCons f t X r Q := h
theorem v_argD {d} {k : DV → Prop} (h : k (.dat d)) : onArg (.dat d) k := h
theorem v_argO {ds} {k : DV → Prop} (h : k (.dat (.list ds))) : onArg (.own ds) k := h
theorem v_argB {k : DV → Prop} (h : k .bag) : onArg .bag k := h
theorem v_xCall {S : Spec} {t} {Q : DV → Env → Prop} (h : t X r fun vs r1 => S vs (fun v => Q v r1) fun e => X e r1) : xCall S t X r Q := h
theorem v_xTup {t} {Q : DV → Env → Prop} (h : t X r fun vs r1 => onL (allD vs) fun ds => ds.length ≤ 16777216 ∧ Q (.dat (.tuple ds)) r1) : xTup t X r Q := h
theorem v_xLst {t} {Q : DV → Env → Prop} (h : t X r fun vs r1 => onL (allD vs) fun ds => ds.length ≤ 16777216 ∧ Q (.own ds) r1) : xLst t X r Q := h
theorem v_bX {f} {Q : Bool → Env → Prop} (h : f X r fun dv r1 => onB dv fun b => Q b r1) : bX f X r Q := h
def onTB (o : Option D) (k : Bool → Prop) : Prop := match o.bind truth with
  | some b => (∀ x, o = some (.str x) → x.length ≤ 16777216) ∧ k b
  | none => False
theorem v_bO {a} {Q : Bool → Env → Prop} (h : a X r fun g r1 => onTB (g r1) fun b => Q b r1) : bO a X r Q := h
theorem v_tB {o b} {k : Bool → Prop} (e : o = some (.bool b)) (h : k b) : onTB o k := by subst e; exact ⟨(fun _ z => nomatch z), h⟩
theorem v_tI {o} {i : Int} {k : Bool → Prop} (e : o = some (.int i)) (h : k (i != 0)) : onTB o k := by subst e; exact ⟨(fun _ z => nomatch z), h⟩
theorem v_tL {o} {xs : List D} {k : Bool → Prop} (e : o = some (.list xs)) (h : k (!xs.isEmpty)) : onTB o k := by subst e; exact ⟨(fun _ z => nomatch z), h⟩
theorem v_tT {o} {xs : List D} {k : Bool → Prop} (e : o = some (.tuple xs)) (h : k (!xs.isEmpty)) : onTB o k := by subst e; exact ⟨(fun _ z => nomatch z), h⟩
theorem v_tN {o} {k : Bool → Prop} (e : o = some .none) (h : k false) : onTB o k := by subst e; exact ⟨(fun _ z => nomatch z), h⟩
theorem v_tS {o} {x : Str} {k : Bool → Prop} (e : o = some (.str x)) (h : x.length ≤ 16777216 ∧ k ((x.length : Int) != 0)) : onTB o k := by subst e; exact ⟨(fun _ z => by cases z; exact h.1), h.2⟩
theorem v_ifN {b : Bool} {p q : Prop} {s : Decidable ((!b) = true)} (h : if b = true then q else p) : @ite Prop ((!b) = true) s p q := by
  cases b
  · rw [if_pos (show (!false) = true from rfl)]; exact h
  · rw [if_neg (show ¬ (!true) = true from fun z => by cases z)]; exact h
theorem v_bAnd {a b} {Q : Bool → Env → Prop} (h : a X r fun c r1 => if c = true then b X r1 Q else Q false r1) : bAnd a b X r Q := h
theorem v_bOr {a b} {Q : Bool → Env → Prop} (h : a X r fun c r1 => if c = true then Q true r1 else b X r1 Q) : bOr a b X r Q := h
theorem v_bNot {a} {Q : Bool → Env → Prop} (h : a X r fun c r1 => Q (!c) r1) : bNot a X r Q := h
theorem v_bYes {Q : Bool → Env → Prop} (h : Q true r) : bYes X r Q := h
theorem v_xAnd {a b} {Q : DV → Env → Prop} (h : a X r fun dv r1 => onB dv fun c => if c = true then b X r1 Q else Q (.dat (.bool false)) r1) : xAnd a b X r Q := h
theorem v_xOr {a b} {Q : DV → Env → Prop} (h : a X r fun dv r1 => onB dv fun c => if c = true then Q (.dat (.bool true)) r1 else b X r1 Q) : xOr a b X r Q := h
theorem v_xNot {a} {Q : DV → Env → Prop} (h : a X r fun c r1 => Q (.dat (.bool (!c))) r1) : xNot a X r Q := h
theorem v_xIf {t a b} {Q : DV → Env → Prop} (h : t X r fun c r1 => if c = true then a X r1 Q else b X r1 Q) : xIf t a b X r Q := h
theorem v_wX {f} {Q : List D → Env → Prop} (h : f X r fun dv r1 => on1 dv.toD fun d => onL (itemsOf d) fun ds => Q ds r1) : wX f X r Q := h
theorem v_wRange1 {a} {Q : List D → Env → Prop} (h : a X r fun g r1 => onI (g r1) fun n => (-(2 ^ 62) ≤ n ∧ n < 2 ^ 62) ∧ Q (rangeL 0 n) r1) : wRange1 a X r Q := h
def onII (o p : Option D) (k : Int → Int → Prop) : Prop := match o, p with
  | some (.int i), some (.int j) => k i j
  | _, _ => False
theorem v_onII {o p i j} {k : Int → Int → Prop} (e : o = some (.int i)) (f : p = some (.int j)) (h : k i j) : onII o p k := by rw [e, f]; exact h
theorem v_wRange2 {a b} {Q : List D → Env → Prop} (h : a X r fun g r1 => b X r1 fun h r2 => onII (g r2) (h r2) fun n m => (-(2 ^ 62) ≤ n ∧ n < 2 ^ 62 ∧ -(2 ^ 62) ≤ m ∧ m < 2 ^ 62) ∧ Q (rangeL n m) r2) : wRange2 a b X r Q := h
theorem v_gN {i v r'} {Q : Env → Prop} (e : put r i v = r') (h : Q r') : gN i v r Q := by subst e; exact h
theorem v_gT {gs ds} {Q : Env → Prop} (e : ds.length = gs.length) (h : gsAll gs ds r Q) : gT gs (.dat (.tuple ds)) r Q := ⟨e, h⟩
theorem v_gsN {Q : Env → Prop} (h : Q r) : gsAll [] [] r Q := ⟨rfl, h⟩
theorem v_gsC {g gs d ds} {Q : Env → Prop} (h : g (.dat d) r fun r1 => gsAll gs ds r1 Q) : gsAll (g :: gs) (d :: ds) r Q := h
theorem v_pNo {Q : (Env → Option (Option Int)) → Env → Prop} (h : Q (fun _ => some none) r) : pNo X r Q := h
theorem v_pSome {o} {Q : (Env → Option (Option Int)) → Env → Prop} (h : o X r fun g r1 => onI (g r1) fun i => Q (fun _ => some (some i)) r1) : pSome o X r Q := h
theorem v_xCut {a lo hi} {Q : DV → Env → Prop} (h : a X r fun g r1 => lo X r1 fun l r2 => hi X r2 fun h r3 => on3 (g r3) (l r3) (h r3) fun d i j => dCut d i j fun v => Q v r3) : xCut a lo hi X r Q := h
def bk2 (r1 r2 : Env) (own : List Nat) (k : Env → Prop) : Prop := k (back r1 r2 own)
theorem v_bk2 {r1 r2 own r'} {k : Env → Prop} (e : back r1 r2 own = r') (h : k r') : bk2 r1 r2 own k := by subst e; exact h
theorem v_xLc {own s g t f} {Q : DV → Env → Prop} (h : s X r fun ds r1 => (∀ i ∈ own, notOwn r1 i) ∧ lcL own g t f ds [] (clrs r1 own) fun acc r2 => bk2 r1 r2 own fun r3 => Q (.own acc) r3) : xLc own s g t f X r Q := h
theorem p_z {x v : Option DV} {r : Env} : putO (x :: r) 0 v = v :: r := rfl
theorem p_s {x v : Option DV} {r r' : Env} {i : Nat} (h : putO r i v = r') : putO (x :: r) (i + 1) v = x :: r' := by subst h; rfl
theorem v_own1 {i k} (e : notOwn r i) (h : k) : (∀ j ∈ [i], notOwn r j) ∧ k := ⟨fun j hj ds => by rw [List.mem_singleton.mp hj]; exact e ds, h⟩
theorem v_own2 {i i' k} (e : notOwn r i) (e' : notOwn r i') (h : k) : (∀ j ∈ [i, i'], notOwn r j) ∧ k := ⟨fun j hj ds => by
  rcases List.mem_cons.mp hj with rfl | hj
  · exact e ds
  · rw [List.mem_singleton.mp hj]; exact e' ds, h⟩
theorem v_lc {own g t f ds r'} {Q : List D → Env → Prop} (e : clrs r own = r') (h : lcL own g t f ds [] r' Q) : lcL own g t f ds [] (clrs r own) Q := by rw [e]; exact h
/-! statements -/
section
variable {nx : Env → Prop} {rt : DV → Prop} {bk ct : Env → Prop} {ex : XW}
theorem v_sNext (h : nx r) : sNext ⟨nx, rt, bk, ct, ex⟩ r := h
theorem v_sSeq {a b} (h : a ⟨b ⟨nx, rt, bk, ct, ex⟩, rt, bk, ct, ex⟩ r) : sSeq a b ⟨nx, rt, bk, ct, ex⟩ r := h
theorem v_sAsg {g f} (h : f ex r fun v r1 => g v r1 nx) : sAsg g f ⟨nx, rt, bk, ct, ex⟩ r := h
theorem v_sPar {i j f k} (h : f ex r fun v r1 => k ex r1 fun w r2 => gN i v r2 fun r3 => gN j w r3 nx) : sPar i j f k ⟨nx, rt, bk, ct, ex⟩ r := h
theorem v_sDrop {f} (h : f ex r fun _ r1 => nx r1) : sDrop f ⟨nx, rt, bk, ct, ex⟩ r := h
theorem v_sRet {f} (h : f ex r fun v _ => rt v) : sRet f ⟨nx, rt, bk, ct, ex⟩ r := h
theorem v_sRetN (h : rt (.dat .none)) : sRetN ⟨nx, rt, bk, ct, ex⟩ r := h
theorem v_sIf {t a b} (h : t ex r fun c r1 => if c = true then a ⟨nx, rt, bk, ct, ex⟩ r1 else b ⟨nx, rt, bk, ct, ex⟩ r1) : sIf t a b ⟨nx, rt, bk, ct, ex⟩ r := h
theorem v_sBrk (h : bk r) : sBrk ⟨nx, rt, bk, ct, ex⟩ r := h
theorem v_sCnt (h : ct r) : sCnt ⟨nx, rt, bk, ct, ex⟩ r := h
theorem v_sAug {i o b x} (e : sl r i = some (.dat x)) (h : b ex r fun g r1 => on1 (g r1) fun y => o x y fun v => gN i v r1 nx) : sAug i o b ⟨nx, rt, bk, ct, ex⟩ r := by unfold sAug; rw [e]; exact h
theorem v_sFor {s g b} (h : s ex r fun ds r1 => forL g b ⟨nx, rt, bk, ct, ex⟩ ds r1) : sFor s g b ⟨nx, rt, bk, ct, ex⟩ r := h
/-- a loop's invariant -/
theorem forL_iv {g : TG} {b : TS} {ds : List D} (I : Nat → Env → Prop) (h0 : I 0 r) (s : ∀ i x r (k : Env → Prop), ds[i]? = some x → I i r → (∀ r', I (i + 1) r' → k r') → g (.dat x) r fun r1 => b ⟨k, rt, nx, k, ex⟩ r1) (f : ∀ r, I ds.length r → nx r) : forL g b ⟨nx, rt, bk, ct, ex⟩ ds r :=
  forL_inv ds r I h0 (fun i x r k => s i x r k) f
theorem forL_nil {g : TG} {b : TS} (h : nx r) : forL g b ⟨nx, rt, bk, ct, ex⟩ [] r := h
theorem forL_cons {g : TG} {b : TS} {x : D} {xs : List D} (h : g (.dat x) r fun r1 => b ⟨forL g b ⟨nx, rt, bk, ct, ex⟩ xs, rt, nx, forL g b ⟨nx, rt, bk, ct, ex⟩ xs, ex⟩ r1) : forL g b ⟨nx, rt, bk, ct, ex⟩ (x :: xs) r := h
end
theorem v_ifT {a b : Prop} {s : Decidable ((true : Bool) = true)} (h : a) : @ite Prop ((true : Bool) = true) s a b := by rw [if_pos rfl]; exact h
theorem v_ifF {a b : Prop} {s : Decidable ((false : Bool) = true)} (h : b) : @ite Prop ((false : Bool) = true) s a b := by rw [if_neg (show ¬ (false = true) from fun z => by cases z)]; exact h
theorem v_ifNonT {a b : Prop} {s : Decidable (isNon .none = true)} (h : a) : @ite Prop (isNon .none = true) s a b := by rw [if_pos (show isNon .none = true from rfl)]; exact h
theorem v_ifNonI {a b : Prop} {i : Int} {s : Decidable (isNon (.int i) = true)} (h : b) : @ite Prop (isNon (.int i) = true) s a b := by rw [if_neg (by intro z; cases z)]; exact h
theorem v_ifNonT' {a b : Prop} {xs : List D} {s : Decidable (isNon (.tuple xs) = true)} (h : b) : @ite Prop (isNon (.tuple xs) = true) s a b := by rw [if_neg (by intro z; cases z)]; exact h
def onO (dv : Option DV) (k : List D → Prop) : Prop := match dv with
  | some (.own ds) => k ds
  | _ => False
theorem v_onO {o ds} {k : List D → Prop} (e : o = some (.own ds)) (h : k ds) : onO o k := by rw [e]; exact h
def onDO (o : Option D) (p : Option DV) (k : D → List D → Prop) : Prop := match o, p with
  | some d, some (.own ds) => k d ds
  | _, _ => False
theorem v_onDO {o p d ds} {k : D → List D → Prop} (e : o = some d) (f : p = some (.own ds)) (h : k d ds) : onDO o p k := by rw [e, f]; exact h
theorem v_xApp {i f ds} {Q : DV → Env → Prop} (e : sl r i = some (.own ds)) (h : f X r fun dv r1 => onDO dv.toD (sl r1 i) fun d ds => ds.length < 16777216 ∧ gN i (.own (ds ++ [d])) r1 fun r2 => Q (.dat .none) r2) : xApp i f X r Q := ⟨⟨ds, e⟩, h⟩
theorem v_xMeth {i o t ds} {Q : DV → Env → Prop} (e : sl r i = some (.own ds)) (h : t X r fun gs r1 => match gets gs r1, sl r1 i with
  | some ds, some (.own es) => o es ds fun es' v => Q v (put r1 i (.own es'))
  | _, _ => False) : xMeth i o t X r Q := ⟨⟨ds, e⟩, h⟩
def cl2 (r : Env) (own : List Nat) (k : Env → Prop) : Prop := k (clrs r own)
theorem v_cl2 {own r'} {k : Env → Prop} (e : clrs r own = r') (h : k r') : cl2 r own k := by subst e; exact h
theorem lcL_iv {own : List Nat} {g : TG} {t : TB} {f : TX} {Q : List D → Env → Prop} {ds : List D} (I : Nat → List D → Env → Prop) (h0 : I 0 [] r) (s : ∀ i x acc r (K : List D → Env → Prop), ds[i]? = some x → I i acc r → (∀ a r', I (i + 1) a r' → K a r') → g (.dat x) r fun r1 => t noX r1 fun b r2 => if b = true then
      f noX r2 fun dv r3 => on1 dv.toD fun d => acc.length < 16777216 ∧ cl2 r3 own fun r4 => K (acc ++ [d]) r4
    else cl2 r2 own fun r4 => K acc r4) (fin : ∀ acc r, I ds.length acc r → Q acc r) : lcL own g t f ds [] r Q := lcL_inv ds [] r I h0 (fun i x acc r K => s i x acc r K) fin
theorem lcL_fm {own : List Nat} {g : TG} {t : TB} {f : TX} {Q : List D → Env → Prop} {ds : List D} (F : D → Option D) (hl : ds.length ≤ 16777216) (s : ∀ x ∈ ds, ∀ (acc : List D) (K : List D → Env → Prop), acc.length < 16777216 → K (acc ++ (F x).toList) r → g (.dat x) r fun r1 => t noX r1 fun b r2 => if b = true then
      f noX r2 fun dv r3 => on1 dv.toD fun d => acc.length < 16777216 ∧ cl2 r3 own fun r4 => K (acc ++ [d]) r4
    else cl2 r2 own fun r4 => K acc r4) (q : Q (ds.filterMap F) r) : lcL own g t f ds [] r Q := lcL_gen F ds [] Q (by rw [List.length_nil]; omega) (fun x hx acc K => s x hx acc K) q
theorem lcL_mp {own : List Nat} {g : TG} {t : TB} {f : TX} {Q : List D → Env → Prop} {ds : List D} (F : D → D) (hl : ds.length ≤ 16777216) (s : ∀ x ∈ ds, ∀ (acc : List D) (K : List D → Env → Prop), acc.length < 16777216 → K (acc ++ [F x]) r → g (.dat x) r fun r1 => t noX r1 fun b r2 => if b = true then
      f noX r2 fun dv r3 => on1 dv.toD fun d => acc.length < 16777216 ∧ cl2 r3 own fun r4 => K (acc ++ [d]) r4
    else cl2 r2 own fun r4 => K acc r4) (q : Q (ds.map F) r) : lcL own g t f ds [] r Q := lcL_fm (fun x => some (F x)) hl (fun x hx acc K ha hK => s x hx acc K ha hK) (by rw [List.filterMap_eq_map']; exact q)
theorem lcL_each0 {own : List Nat} {g : TG} {t : TB} {f : TX} {Q : List D → Env → Prop} (P : D → Prop) : ∀ (ds acc : List D) (n : Nat), acc.length + ds.length ≤ 16777216 → n = acc.length + ds.length → (∀ y ∈ acc, P y) → (∀ x ∈ ds, ∀ (acc : List D) (K : List D → Env → Prop), acc.length < 16777216 → (∀ d, P d → K (acc ++ [d]) r) → g (.dat x) r fun r1 => t noX r1 fun b r2 => if b = true then
      f noX r2 fun dv r3 => on1 dv.toD fun d => acc.length < 16777216 ∧ cl2 r3 own fun r4 => K (acc ++ [d]) r4
    else cl2 r2 own fun r4 => K acc r4) → (∀ ys, ys.length = n → (∀ y ∈ ys, P y) → Q ys r) → lcL own g t f ds acc r Q
  | [], acc, n, hl, hn, ha, s, q => q acc (by rw [hn]; rfl) ha
  | x :: xs, acc, n, hl, hn, ha, s, q => by
    rw [List.length_cons] at hl hn
    refine s x (List.mem_cons_self ..) acc (fun a r' => lcL own g t f xs a r' Q) (by omega) fun d hd => ?_
    refine lcL_each0 P xs _ n ?_ ?_ ?_ (fun y hy => s y (List.mem_cons_of_mem _ hy)) q
    · rw [List.length_append, List.length_singleton]; omega
    · rw [List.length_append, List.length_singleton]; omega
    · intro y hy
      rcases List.mem_append.mp hy with h | h
      · exact ha y h
      · rw [List.mem_singleton.mp h]; exact hd
theorem lcL_each {own : List Nat} {g : TG} {t : TB} {f : TX} {Q : List D → Env → Prop} (P : D → Prop) {ds : List D} (hl : ds.length ≤ 16777216) (s : ∀ x ∈ ds, ∀ (acc : List D) (K : List D → Env → Prop), acc.length < 16777216 → (∀ d, P d → K (acc ++ [d]) r) → g (.dat x) r fun r1 => t noX r1 fun b r2 => if b = true then
      f noX r2 fun dv r3 => on1 dv.toD fun d => acc.length < 16777216 ∧ cl2 r3 own fun r4 => K (acc ++ [d]) r4
    else cl2 r2 own fun r4 => K acc r4) (q : ∀ ys, ys.length = ds.length → (∀ y ∈ ys, P y) → Q ys r) : lcL own g t f ds [] r Q :=
  lcL_each0 P ds [] ds.length (by rw [List.length_nil]; omega) (by rw [List.length_nil]; omega) (fun _ h => by cases h) s q
def onAcc (o : Option D) (k : D → Prop) : Prop := match o with
  | some d => k d
  | none => False
theorem bools_of : ∀ {ys : List D}, (∀ y ∈ ys, ∃ b, y = .bool b) → ∃ bs : List Bool, ys = bs.map .bool
  | [], _ => ⟨[], rfl⟩
  | y :: r, h => by
    obtain ⟨b, rfl⟩ := h y (List.mem_cons_self ..)
    obtain ⟨bs, rfl⟩ := bools_of (ys := r) fun z hz => h z (List.mem_cons_of_mem _ hz)
    exact ⟨b :: bs, rfl⟩
theorem ints_of : ∀ {ys : List D}, (∀ y ∈ ys, ∃ i, y = .int i) → ∃ is : List Int, ys = is.map .int
  | [], _ => ⟨[], rfl⟩
  | y :: r, h => by
    obtain ⟨b, rfl⟩ := h y (List.mem_cons_self ..)
    obtain ⟨bs, rfl⟩ := ints_of (ys := r) fun z hz => h z (List.mem_cons_of_mem _ hz)
    exact ⟨b :: bs, rfl⟩
/-! operators -/
variable {Q : DV → Prop} {a b : Int} {xs ys : List D} {x y : Str} {d e : D}
theorem v_dInt {f : Int → Int → D} (h : Q (.dat (f a b))) : dInt f (.int a) (.int b) Q := h
theorem v_addI (h : Q (.dat (.int (a + b)))) : dAdd (.int a) (.int b) Q := h
theorem v_addS (h : x.length + y.length ≤ 16777216 ∧ Q (.dat (.str (x ++ y)))) : dAdd (.str x) (.str y) Q := h
theorem v_addT (h : xs.length + ys.length ≤ 16777216 ∧ Q (.dat (.tuple (xs ++ ys)))) : dAdd (.tuple xs) (.tuple ys) Q := h
theorem v_addL (h : xs.length + ys.length ≤ 16777216 ∧ Q (.own (xs ++ ys))) : dAdd (.list xs) (.list ys) Q := h
theorem v_subI (h : Q (.dat (.int (a - b)))) : dSub (.int a) (.int b) Q := h
theorem v_mulI (h : mulOk a b ∧ Q (.dat (.int (a * b)))) : dMul (.int a) (.int b) Q := h
theorem v_mulT (h : (0 ≤ a ∧ a ≤ 1000 ∧ 0 < xs.length ∧ xs.length ≤ 1000) ∧ Q (.dat (.tuple (List.replicate a.toNat xs).flatten))) : dMul (.tuple xs) (.int a) Q := h
theorem v_mulL (h : (-(2 ^ 63) ≤ a ∧ a < 2 ^ 63 ∧ xs.length * a.toNat ≤ 16777216) ∧ Q (.own (List.replicate a.toNat xs).flatten)) : dMul (.list xs) (.int a) Q := h
theorem v_div (h : (0 < b ∧ b < 2 ^ 200) ∧ Q (.dat (.int (a / b)))) : dDiv (.int a) (.int b) Q := h
theorem v_mod (h : 0 < b ∧ Q (.dat (.int (a % b)))) : dMod (.int a) (.int b) Q := h
theorem v_pow (h : (0 ≤ b ∧ b ≤ 1000000 ∧ a.natAbs < 2 ^ 64) ∧ Q (.dat (.int (a ^ b.toNat)))) : dPow (.int a) (.int b) Q := h
theorem v_neg (h : Q (.dat (.int (-a)))) : dNeg (.int a) Q := h
theorem v_eqI (h : Q (.dat (.bool (a == b)))) : dEq (.int a) (.int b) Q := ⟨rfl, rfl, h⟩
theorem v_neI (h : Q (.dat (.bool (!(a == b))))) : dNe (.int a) (.int b) Q := ⟨rfl, rfl, h⟩
theorem v_eq (h : okD d ∧ okD e ∧ Q (.dat (.bool (PyData.eqv d e)))) : dEq d e Q := h
theorem v_ne (h : okD d ∧ okD e ∧ Q (.dat (.bool (!PyData.eqv d e)))) : dNe d e Q := h
theorem v_ltI (h : Q (.dat (.bool (decide (a < b))))) : dLt (.int a) (.int b) Q := h
theorem v_leI (h : Q (.dat (.bool (decide (a ≤ b))))) : dLe (.int a) (.int b) Q := h
theorem v_gtI (h : Q (.dat (.bool (decide (b < a))))) : dGt (.int a) (.int b) Q := h
theorem v_geI (h : Q (.dat (.bool (decide (b ≤ a))))) : dGe (.int a) (.int b) Q := h
theorem v_is (h : Q (.dat (.bool (isNon d)))) : dIs d .none Q := h
theorem v_isNot (h : Q (.dat (.bool (!isNon d)))) : dIsNot d .none Q := h
def onX (o : Option D) (k : D → Prop) : Prop := match o with
  | some d => k d
  | none => False
theorem v_onX {o d} {k : D → Prop} (e : o = some d) (h : k d) : onX o k := by rw [e]; exact h
theorem v_ixL (h : onX (L2.atI xs a) fun d => Q (.dat d)) : dIx (.list xs) (.int a) Q := h
theorem v_ixT (h : onX (L2.atI xs a) fun d => Q (.dat d)) : dIx (.tuple xs) (.int a) Q := h
theorem v_cutL {lo hi} (h : Q (.own (cutD xs lo hi))) : dCut (.list xs) lo hi Q := h
theorem v_cutT {lo hi} (h : Q (.dat (.tuple (cutD xs lo hi)))) : dCut (.tuple xs) lo hi Q := h
theorem v_cutS {lo hi} (h : x.length ≤ 16777216 ∧ Q (.dat (.str (cutC x lo hi)))) : dCut (.str x) lo hi Q := h
theorem v_lenL (h : Q (.dat (.int xs.length))) : nLen [.list xs] Q := h
theorem v_lenT (h : Q (.dat (.int xs.length))) : nLen [.tuple xs] Q := h
theorem v_lenS (h : x.length ≤ 16777216 ∧ Q (.dat (.int x.length))) : nLen [.str x] Q := h
theorem v_repr (h : (d.showable = true ∧ d.hasDict = false ∧ d.depth ≤ 64 ∧ d.shown.length ≤ 16777216) ∧ Q (.dat (.str d.shown))) : nRepr [d] Q := h
theorem v_tupL (h : Q (.dat (.tuple xs))) : nTuple [.list xs] Q := h
theorem v_tupT (h : Q (.dat (.tuple xs))) : nTuple [.tuple xs] Q := h
theorem v_lstL (h : Q (.own xs)) : nList [.list xs] Q := h
theorem v_lstT (h : Q (.own xs)) : nList [.tuple xs] Q := h
theorem v_intI (h : Q (.dat (.int a))) : nInt [.int a] Q := h
theorem v_abs (h : Q (.dat (.int (if a < 0 then -a else a)))) : nAbs [.int a] Q := h
theorem v_maxI (h : Q (.dat (.int (if b > a then b else a)))) : nMax [.int a, .int b] Q := h
theorem v_minI (h : Q (.dat (.int (if b < a then b else a)))) : nMin [.int a, .int b] Q := h
theorem v_fn {n b vs r'} {Q : DV → Prop} {E : Err → Prop} (e : vs.map some ++ List.replicate (n - vs.length) none = r') (h : b { nx := fun _ => Q (.dat .none), rt := Q, ex := fun e _ => E e } r') : fnSpec n b vs Q E := by subst e; exact h
end
end DL

/-! DL: steps for dicts, index, zip, several values; comprehensions over mapped lists. -/
namespace DL
open PySem
section
variable {X : XW} {r : Env}
def onDc (o : Option D) (p : Option DV) (k : D → List (D × D) → Prop) : Prop := match o, p with
  | some d, some (.dct false kvs) => k d kvs
  | _, _ => False
theorem v_onDc {o p d kvs} {k : D → List (D × D) → Prop} (e : o = some d) (f : p = some (.dct false kvs)) (h : k d kvs) : onDc o p k := by rw [e, f]; exact h
theorem v_xDGet {i b kvs} {Q : DV → Env → Prop} (e : sl r i = some (.dct false kvs)) (h : b X r fun g r1 => onDc (g r1) (sl r1 i) fun k kvs => keyD k ≠ none ∧ onX (lookD kvs k) fun d => Q (.dat d) r1) : xDGet i b X r Q := ⟨⟨kvs, e⟩, h⟩
theorem v_xDIn {neg i b} {Q : DV → Env → Prop} (h : b X r fun g r1 => onDc (g r1) (sl r1 i) fun k kvs => keyD k ≠ none ∧ Q (.dat (.bool (neg != (lookD kvs k).isSome))) r1) : xDIn neg i b X r Q := h
def exD (r : Env) (i : Nat) (k : Prop) : Prop := (∃ kvs, sl r i = some (.dct false kvs)) ∧ k
theorem v_exD {i kvs} {k : Prop} (e : sl r i = some (.dct false kvs)) (h : k) : exD r i k := ⟨⟨kvs, e⟩, h⟩
theorem v_sDPut {i b f nx rt bk ct ex} (h : f ex r fun dv r1 => on1 dv.toD fun d => exD r1 i (b ex r1 fun g r2 => onDc (g r2) (sl r2 i) fun k kvs => keyD k ≠ none ∧ kvs.length < 16777216 ∧ gN i (.dct false (putD kvs k d)) r2 nx)) : sDPut i b f ⟨nx, rt, bk, ct, ex⟩ r := h
theorem v_xDNew {Q : DV → Env → Prop} (h : Q (.dct false []) r) : xDNew X r Q := h
theorem v_xDOne {k f} {Q : DV → Env → Prop} (e : keyD k ≠ none) (h : f X r fun dv r1 => on1 dv.toD fun d => Q (.dct false [(k, d)]) r1) : xDOne k f X r Q := ⟨e, h⟩
def onSN (o : Option D) (p : Option DV) (k : Str → List D → Prop) : Prop := match o, p with
  | some (.str z), some (.nd ds) => k z ds
  | _, _ => False
theorem v_onSN {o p z ds} {k : Str → List D → Prop} (e : o = some (.str z)) (f : p = some (.nd ds)) (h : k z ds) : onSN o p k := by rw [e, f]; exact h
def onSs (o : Option (List Str)) (k : List Str → Prop) : Prop := match o with
  | some zs => k zs
  | none => False
theorem v_onSs {ss : List Str} {k : List Str → Prop} (h : k ss) : onSs (strsOf (ss.map .str)) k := by rw [strsOf_of]; exact h
theorem v_xTIdx {i b ds} {Q : DV → Env → Prop} (e : sl r i = some (.nd ds)) (h : b X r fun g r1 => onSN (g r1) (sl r1 i) fun z ds => onSs (strsOf ds) fun zs => ∃ j, zs[j]? = some z ∧ (∀ m, m < j → zs[m]? ≠ some z) ∧ Q (.dat (.int (j : Nat))) r1) : xTIdx i b X r Q := ⟨⟨ds, e⟩, h⟩
def onLD (o p : Option D) (k : List D → D → Prop) : Prop := match o, p with
  | some (.list xs), some y => k xs y
  | _, _ => False
theorem v_onLD {o p xs y} {k : List D → D → Prop} (e : o = some (.list xs)) (f : p = some y) (h : k xs y) : onLD o p k := by rw [e, f]; exact h
def exL (o : Option D) (k : Prop) : Prop := (∃ ds, o = some (.list ds)) ∧ k
theorem v_exL {o ds} {k : Prop} (e : o = some (.list ds)) (h : k) : exL o k := ⟨⟨ds, e⟩, h⟩
theorem v_xLIdx {a b} {Q : DV → Env → Prop} (h : a X r fun g r1 => exL (g r1) (b X r1 fun h r2 => onLD (g r2) (h r2) fun xs y => okD (.list xs) ∧ okD y ∧ ∃ (j : Nat) (z : D), xs[j]? = some z ∧ PyData.eqv z y = true ∧ (∀ (m : Nat) (z' : D), m < j → xs[m]? = some z' → PyData.eqv z' y = false) ∧ Q (.dat (.int (j : Nat))) r2)) : xLIdx a b X r Q := h
theorem v_xVarN {i ds} {Q : DV → Env → Prop} (e : sl r i = some (.nd ds)) (h : Q (.nd ds) r) : xVar i X r Q := by unfold xVar; rw [e]; exact h
theorem v_argN {ds} {k : DV → Prop} (h : k (.dat (.tuple ds))) : onArg (.nd ds) k := h
theorem v_tupN {xs} {Q : DV → Prop} (h : Q (.nd xs)) : nTupN [.list xs] Q := h
theorem v_sortS {ss : List Str} {Q : DV → Prop} (hl : ss.length < 64) (h : ∀ ys : List Str, ys.Perm ss → PyProof.Rows.sortedS ys = true → Q (.own (ys.map .str))) : nSortS [.list (ss.map .str)] Q := by
  unfold nSortS
  dsimp only
  rw [strsOf_of]
  exact ⟨hl, h⟩
def onTT (o : Option (List D)) (k : List D → List D → Prop) : Prop := match o with
  | some [.tuple xs, .tuple ys] => k xs ys
  | some [.list xs, .list ys] => k xs ys
  | _ => False
theorem v_onTTl {o xs ys} {k : List D → List D → Prop} (e : o = some [.list xs, .list ys]) (h : k xs ys) : onTT o k := by rw [e]; exact h
theorem v_onTT {o xs ys} {k : List D → List D → Prop} (e : o = some [.tuple xs, .tuple ys]) (h : k xs ys) : onTT o k := by rw [e]; exact h
theorem v_wZip {t} {Q : List D → Env → Prop} (h : t X r fun vs r1 => onTT (allD vs) fun xs ys => Q (zipD xs ys) r1) : wZip t X r Q := h
theorem v_avN {Q : List DV → Env → Prop} (h : Q [] r) : avL [] X r Q := h
theorem v_avC {f fs} {Q : List DV → Env → Prop} (h : f X r fun u r1 => avL fs X r1 fun us r2 => Q (u :: us) r2) : avL (f :: fs) X r Q := h
def gAll (is : List Nat) (us : List DV) (r : Env) (k : Env → Prop) : Prop := k (putAll r is us)
theorem v_sMul {is fs nx rt bk ct ex} (h : avL fs ex r fun us r1 => gAll is us r1 nx) : sMul is fs ⟨nx, rt, bk, ct, ex⟩ r := h
theorem v_gAllN {us : List DV} {k : Env → Prop} (h : k r) : gAll [] us r k := by cases us <;> exact h
theorem v_gAllC {i is} {u : DV} {us : List DV} {k : Env → Prop} (h : gN i u r fun r1 => gAll is us r1 k) : gAll (i :: is) (u :: us) r k := h
def onLO (o : Option (List D)) (p : Option DV) (k : List D → List D → Prop) : Prop := match o, p with
  | some ds, some (.own es) => k ds es
  | _, _ => False
theorem v_onLO {o p ds es} {k : List D → List D → Prop} (e : o = some ds) (f : p = some (.own es)) (h : k ds es) : onLO o p k := by rw [e, f]; exact h
theorem v_xMt {i o t ds} {Q : DV → Env → Prop} (e : sl r i = some (.own ds)) (h : t X r fun gs r1 => onLO (gets gs r1) (sl r1 i) fun ds es => o es ds fun es' v => gN i (.own es') r1 fun r2 => Q v r2) : xMeth i o t X r Q := ⟨⟨ds, e⟩, h⟩
theorem v_mExt {es xs : List D} {Q : List D → DV → Prop} (h : es.length + xs.length ≤ 16777216 ∧ Q (es ++ xs) (.dat .none)) : mExtend es [.list xs] Q := h
theorem v_mPop {es : List D} {i : Int} {j : Nat} {y : D} {Q : List D → DV → Prop} (e : i = (j : Nat)) (hy : es[j]? = some y) (hl : es.length ≤ 16777216) (h : Q (es.eraseIdx j) (.dat y)) : mPop es [.int i] Q := by
  subst e
  have hj := (List.getElem?_eq_some_iff.mp hy).1
  refine ⟨⟨by omega, by omega⟩, ?_⟩
  rw [PySem.seqIndex_of (by omega) (by omega), Int.toNat_natCast]
  dsimp only
  rw [hy]
  exact h
def bk3 (r0 r2 : Env) (vs : List Nat) (i0 : Nat) (ds : List D) (k : Env → Prop) : Prop := k (put (DL.back r0 r2 vs) i0 (.own ds))
theorem v_bk3 {r0 r2 vs i0 ds r'} {k : Env → Prop} (e : put (DL.back r0 r2 vs) i0 (.own ds) = r') (h : k r') : bk3 r0 r2 vs i0 ds k := by subst e; exact h
theorem v_xLcO {vs i0 g t f ds r0} {Q : DV → Env → Prop} (e : sl r i0 = some (.own ds)) (e2 : putO r i0 none = r0) (h : (∀ i ∈ vs, notOwn r0 i) ∧ lcL vs g t f ds [] (clrs r0 vs) fun acc r2 => bk3 r0 r2 vs i0 ds fun r3 => Q (.own acc) r3) : xLcO vs i0 g t f X r Q := by
  subst e2
  exact ⟨ds, e, h.1, h.2⟩
/-! comprehensions over what comes of a list -/
variable {own : List Nat} {g : TG} {t : TB} {f : TX} {Q : List D → Env → Prop}
theorem lcL_map {α : Type} {xs : List α} (F : α → D) (G : α → D) (hl : xs.length ≤ 16777216) (s : ∀ x ∈ xs, ∀ (acc : List D) (K : List D → Env → Prop), acc.length < 16777216 → K (acc ++ [G x]) r → g (.dat (F x)) r fun r1 => t noX r1 fun b r2 => if b = true then
      f noX r2 fun dv r3 => on1 dv.toD fun d => acc.length < 16777216 ∧ cl2 r3 own fun r4 => K (acc ++ [d]) r4
    else cl2 r2 own fun r4 => K acc r4) (q : Q (xs.map G) r) : lcL own g t f (xs.map F) [] r Q := by
  have key : ∀ (xs : List α) (acc : List D), acc.length + xs.length ≤ 16777216 → (∀ x ∈ xs, ∀ (acc : List D) (K : List D → Env → Prop), acc.length < 16777216 → K (acc ++ [G x]) r → g (.dat (F x)) r fun r1 => t noX r1 fun b r2 => if b = true then
      f noX r2 fun dv r3 => on1 dv.toD fun d => acc.length < 16777216 ∧ cl2 r3 own fun r4 => K (acc ++ [d]) r4
    else cl2 r2 own fun r4 => K acc r4) → Q (acc ++ xs.map G) r → lcL own g t f (xs.map F) acc r Q := by
    intro xs
    induction xs with
    | nil => intro acc _ _ q; rw [List.map_nil, List.append_nil] at q; exact q
    | cons x xs ih =>
      intro acc hl s q
      rw [List.length_cons] at hl
      refine s x (List.mem_cons_self ..) acc (fun a r' => lcL own g t f (xs.map F) a r' Q) (by omega) ?_
      refine ih _ (by rw [List.length_append, List.length_singleton]; omega) (fun y hy => s y (List.mem_cons_of_mem _ hy)) ?_
      rw [List.append_assoc]
      exact q
  exact key xs [] (by rw [List.length_nil]; omega) s q
theorem lcL_flt {α : Type} {xs : List α} (F : α → D) (p : α → Bool) (G : α → D) (hl : xs.length ≤ 16777216) (s : ∀ x ∈ xs, ∀ (acc : List D) (K : List D → Env → Prop), acc.length < 16777216 → K (if p x = true then acc ++ [G x] else acc) r → g (.dat (F x)) r fun r1 => t noX r1 fun b r2 => if b = true then
      f noX r2 fun dv r3 => on1 dv.toD fun d => acc.length < 16777216 ∧ cl2 r3 own fun r4 => K (acc ++ [d]) r4
    else cl2 r2 own fun r4 => K acc r4) (q : Q ((xs.filter p).map G) r) : lcL own g t f (xs.map F) [] r Q := by
  have key : ∀ (xs : List α) (acc : List D), acc.length + xs.length ≤ 16777216 → (∀ x ∈ xs, ∀ (acc : List D) (K : List D → Env → Prop), acc.length < 16777216 → K (if p x = true then acc ++ [G x] else acc) r → g (.dat (F x)) r fun r1 => t noX r1 fun b r2 => if b = true then
      f noX r2 fun dv r3 => on1 dv.toD fun d => acc.length < 16777216 ∧ cl2 r3 own fun r4 => K (acc ++ [d]) r4
    else cl2 r2 own fun r4 => K acc r4) → Q (acc ++ (xs.filter p).map G) r → lcL own g t f (xs.map F) acc r Q := by
    intro xs
    induction xs with
    | nil => intro acc _ _ q; rw [List.filter_nil, List.map_nil, List.append_nil] at q; exact q
    | cons x xs ih =>
      intro acc hl s q
      rw [List.length_cons] at hl
      refine s x (List.mem_cons_self ..) acc (fun a r' => lcL own g t f (xs.map F) a r' Q) (by omega) ?_
      by_cases h : p x = true
      · rw [if_pos h]
        rw [List.filter_cons_of_pos h, List.map_cons] at q
        refine ih _ (by rw [List.length_append, List.length_singleton]; omega) (fun y hy => s y (List.mem_cons_of_mem _ hy)) ?_
        rw [List.append_assoc]
        exact q
      · rw [if_neg h]
        rw [List.filter_cons_of_neg h] at q
        exact ih _ (by omega) (fun y hy => s y (List.mem_cons_of_mem _ hy)) q
  exact key xs [] (by rw [List.length_nil]; omega) s q
end
section
variable {r : Env} {nx : Env → Prop} {rt : DV → Prop} {bk ct : Env → Prop} {ex : XW} {g : TG} {b : TS}
theorem forL_map {α : Type} {xs : List α} (F : α → D) (I : List α → Env → Prop) (h0 : I [] r) (s : ∀ pre x post r (k : Env → Prop), xs = pre ++ x :: post → I pre r → (∀ r', I (pre ++ [x]) r' → k r') → g (.dat (F x)) r fun r1 => b ⟨k, rt, nx, k, ex⟩ r1) (f : ∀ r, I xs r → nx r) : forL g b ⟨nx, rt, bk, ct, ex⟩ (xs.map F) r := by
  have key : ∀ (post pre : List α) (r : Env), xs = pre ++ post → I pre r → forL g b ⟨nx, rt, bk, ct, ex⟩ (post.map F) r := by
    intro post
    induction post with
    | nil => intro pre r e h; rw [List.append_nil] at e; subst e; exact f r h
    | cons x post ih =>
      intro pre r e h
      exact s pre x post r _ e h fun r' h' => ih (pre ++ [x]) r' (by rw [e, List.append_assoc]; rfl) h'
  exact key xs [] r rfl h0
theorem v_sWhile {t : TB} (W : Nat → Env → Prop) (m : Nat) (h0 : W m r) (h : ∀ m r, W m r → t ex r fun c r1 => if c = true then b ⟨fun r' => ∃ m', m' < m ∧ W m' r', rt, nx, fun r' => ∃ m', m' < m ∧ W m' r', ex⟩ r1 else nx r1) : sWhile t b ⟨nx, rt, bk, ct, ex⟩ r := ⟨W, ⟨m, h0⟩, h⟩
end
end DL

/-! DL: steps for raise, try, two fors, stars, x[i] = e, isinstance; data shown to be fine by their form. -/
namespace DL
open PySem
section
variable {X : XW} {r : Env} {nx : Env → Prop} {rt : DV → Prop} {bk ct : Env → Prop} {ex : XW}
/-! raise, try -/
theorem v_sRaise {x ns t} (h : t ex r fun vs r1 => onL (allD vs) fun ds => ds.length = ns.length ∧ ex ⟨x, (ns.zip ds).reverse⟩ r1) : sRaise x ns t ⟨nx, rt, bk, ct, ex⟩ r := h
def onEx (cs : List (Str × Bool)) (i : Nat) (h : SH) (rt : DV → Prop) (ex : XW) : XW := fun er r1 => match cs.lookup er.cls with
  | some true => i < r1.length ∧ h er rt
  | some false => ex er r1
  | none => False
theorem v_sTry {cs i p h} (q : p ⟨nx, rt, bk, ct, onEx cs i h rt ex⟩ r) : sTry cs i p h ⟨nx, rt, bk, ct, ex⟩ r := q
theorem v_onEx {cs : List (Str × Bool)} {i h er} (e : cs.lookup er.cls = some true) (hi : i < r.length) (q : h er rt) : onEx cs i h rt ex er r := by
  unfold onEx; rw [e]; exact ⟨hi, q⟩
theorem v_onExF {cs : List (Str × Bool)} {i h er} (e : cs.lookup er.cls = some false) (q : ex er r) : onEx cs i h rt ex er r := by
  unfold onEx; rw [e]; exact q
theorem v_hRetT {t er} (h : t er fun ds => ds.length ≤ 16777216 ∧ rt (.dat (.tuple ds))) : hRetT t er rt := h
theorem v_hNil {er} {Q : List D → Prop} (h : Q []) : hNil er Q := h
theorem v_hCons {g t er} {Q : List D → Prop} (h : g er fun d => t er fun ds => Q (d :: ds)) : hCons g t er Q := h
theorem v_hC {d er} {Q : D → Prop} (h : Q d) : hC d er Q := h
theorem v_hF {x f er d} {Q : D → Prop} (e : er.cls = x) (e2 : er.fs.lookup f = some d) (h : Q d) : hF x f er Q := ⟨e, d, e2, h⟩
/-! stars, two fors -/
def onTL (o : Option D) (k : List D → Prop) : Prop := match o with
  | some (.tuple ds) => k ds
  | some (.list ds) => k ds
  | _ => False
theorem v_onTLt {o ds} {k : List D → Prop} (e : o = some (.tuple ds)) (h : k ds) : onTL o k := by subst e; exact h
theorem v_onTLl {o ds} {k : List D → Prop} (e : o = some (.list ds)) (h : k ds) : onTL o k := by subst e; exact h
theorem v_aStar {f t} {Q : List DV → Env → Prop} (h : f X r fun dv r1 => onTL dv.toD fun ds => t X r1 fun vs r2 => Q (ds.map .dat ++ vs) r2) : aStar f t X r Q := h
theorem allD_dat : ∀ (ds : List D) (vs : List DV) (es : List D), allD vs = some es → allD (ds.map .dat ++ vs) = some (ds ++ es)
  | [], _, _, h => h
  | d :: ds, vs, es, h => by
    show (match allD (ds.map .dat ++ vs) with | some x => some (d :: x) | none => none) = _
    rw [allD_dat ds vs es h]
    rfl
theorem v_onLA {ds : List D} {vs : List DV} {es : List D} {k : List D → Prop} (e : allD vs = some es) (h : k (ds ++ es)) : onL (allD (ds.map .dat ++ vs)) k := by rw [allD_dat ds vs es e]; exact h
theorem v_xLc2 {vs vs1 s g t s1 g1 t1 f} {Q : DV → Env → Prop} (h : s X r fun ds r1 => (∀ i ∈ vs, notOwn r1 i) ∧ cl2 r1 vs fun r0 => lcL2 vs vs1 g t s1 g1 t1 f ds [] r0 fun acc r2 => bk2 r1 r2 vs fun r3 => Q (.own acc) r3) : xLc2 vs vs1 s g t s1 g1 t1 f X r Q := h
section
variable {vs vs1 : List Nat} {g g1 : TG} {t t1 : TB} {s1 : SX} {f : TX} {Q : List D → Env → Prop}
/-- a comprehension's loop from any list on -/
theorem lcL_acc {α : Type} {own : List Nat} {xs : List α} {acc : List D} (F : α → D) (G : α → List D) (hG : ∀ x ∈ xs, (G x).length ≤ 1) (hl : acc.length + xs.length ≤ 16777216) (s : ∀ x ∈ xs, ∀ (acc : List D) (K : List D → Env → Prop), acc.length < 16777216 → K (acc ++ G x) r → g (.dat (F x)) r fun r1 => t noX r1 fun b r2 => if b = true then
      f noX r2 fun dv r3 => on1 dv.toD fun d => acc.length < 16777216 ∧ cl2 r3 own fun r4 => K (acc ++ [d]) r4
    else cl2 r2 own fun r4 => K acc r4) (q : Q (acc ++ xs.flatMap G) r) : lcL own g t f (xs.map F) acc r Q := by
  induction xs generalizing acc with
  | nil => rw [List.flatMap_nil, List.append_nil] at q; exact q
  | cons x xs ih =>
    rw [List.length_cons] at hl
    have h1 := hG x (List.mem_cons_self ..)
    refine s x (List.mem_cons_self ..) acc (fun a r' => lcL own g t f (xs.map F) a r' Q) (by omega) ?_
    refine ih (fun y hy => hG y (List.mem_cons_of_mem _ hy)) (by rw [List.length_append]; omega) (fun y hy => s y (List.mem_cons_of_mem _ hy)) ?_
    rw [List.append_assoc]
    exact q
/-- two fors over what comes of a list: in each turn of the first a list of data comes -/
theorem lcL2_map {α : Type} {xs : List α} (F : α → D) (G : α → List D) (s : ∀ pre x post, xs = pre ++ x :: post → ∀ (K : List D → Env → Prop), K (pre.flatMap G ++ G x) r → g (.dat (F x)) r fun r1 => t noX r1 fun b r2 => if b = true then
      s1 noX r2 fun ds r3 => (∀ i ∈ vs1, notOwn r3 i) ∧ cl2 r3 vs1 fun r0 => lcL vs1 g1 t1 f ds (pre.flatMap G) r0 fun acc2 r4 => cl2 r4 vs fun r5 => K acc2 r5
    else cl2 r2 vs fun r5 => K (pre.flatMap G) r5) (q : Q (xs.flatMap G) r) : lcL2 vs vs1 g t s1 g1 t1 f (xs.map F) [] r Q := by
  have key : ∀ (post pre : List α), xs = pre ++ post → lcL2 vs vs1 g t s1 g1 t1 f (post.map F) (pre.flatMap G) r Q := by
    intro post
    induction post with
    | nil => intro pre e; rw [List.append_nil] at e; subst e; exact q
    | cons x post ih =>
      intro pre e
      refine s pre x post e (fun a r' => lcL2 vs vs1 g t s1 g1 t1 f (post.map F) a r' Q) ?_
      have := ih (pre ++ [x]) (by rw [e]; simp)
      rw [List.flatMap_append, List.flatMap_singleton] at this
      exact this
  exact key xs [] rfl
end
/-! x[i] = e, x[i] += e, d.get(k, e), d.setdefault(k, e) -/
def onIO (o : Option D) (p : Option DV) (k : Int → List D → Prop) : Prop := match o, p with
  | some (.int i), some (.own ds) => k i ds
  | _, _ => False
theorem v_onIO {o p i ds} {k : Int → List D → Prop} (e : o = some (.int i)) (f : p = some (.own ds)) (h : k i ds) : onIO o p k := by rw [e, f]; exact h
def exO (r : Env) (i : Nat) (k : Prop) : Prop := (∃ ds, sl r i = some (.own ds)) ∧ k
theorem v_exO {i ds} {k : Prop} (e : sl r i = some (.own ds)) (h : k) : exO r i k := ⟨⟨ds, e⟩, h⟩
theorem v_sSetI {i b f} (h : f ex r fun dv r1 => on1 dv.toD fun d => exO r1 i (b ex r1 fun g r2 => onIO (g r2) (sl r2 i) fun k ds => ∃ j, L2.ixN ds.length k = some j ∧ gN i (.own (ds.set j d)) r2 nx)) : sSetI i b f ⟨nx, rt, bk, ct, ex⟩ r := h
theorem v_sAugI {i op b c} (h : exO r i (b ex r fun g r1 => onIO (g r1) (sl r1 i) fun k ds => onI (L2.atI ds k) fun x => c ex r1 fun h r2 => onIO (h r2) (sl r2 i) fun y es => ∃ j, L2.ixN es.length k = some j ∧ gN i (.own (es.set j (.int (op x y)))) r2 nx)) : sAugI i op b c ⟨nx, rt, bk, ct, ex⟩ r := h
def onDD (o p : Option D) (q : Option DV) (k : D → D → List (D × D) → Prop) : Prop := match o, p, q with
  | some x, some y, some (.dct false kvs) => k x y kvs
  | _, _, _ => False
theorem v_onDD {o p q x y kvs} {k : D → D → List (D × D) → Prop} (e : o = some x) (f : p = some y) (g : q = some (.dct false kvs)) (h : k x y kvs) : onDD o p q k := by rw [e, f, g]; exact h
theorem v_xDGet2 {i b f kvs} {Q : DV → Env → Prop} (e : sl r i = some (.dct false kvs)) (h : b X r fun g r1 => f X r1 fun dv r2 => onDD (g r2) dv.toD (sl r2 i) fun k d kvs => keyD k ≠ none ∧ Q (.dat ((lookD kvs k).getD d)) r2) : xDGet2 i b f X r Q := ⟨⟨kvs, e⟩, h⟩
def onLk (o : Option D) (k : D → Prop) (l : Prop) : Prop := match o with
  | some e => k e
  | none => l
theorem v_onLkS {o e} {k : D → Prop} {l : Prop} (q : o = some e) (h : k e) : onLk o k l := by rw [q]; exact h
theorem v_onLkN {o} {k : D → Prop} {l : Prop} (q : o = none) (h : l) : onLk o k l := by rw [q]; exact h
theorem v_xDSetd {i b f kvs} {Q : DV → Env → Prop} (e : sl r i = some (.dct false kvs)) (h : b X r fun g r1 => f X r1 fun dv r2 => onDD (g r2) dv.toD (sl r2 i) fun k d kvs => keyD k ≠ none ∧ kvs.length < 16777216 ∧ onLk (lookD kvs k) (fun e => Q (.dat e) r2) (gN i (.dct false (putD kvs k d)) r2 fun r3 => Q (.dat d) r3)) : xDSetd i b f X r Q := ⟨⟨kvs, e⟩, h⟩
theorem v_mulII {a b : Int} {Q : DV → Prop} (h : mulOk a b ∧ Q (.dat (.int (a * b)))) : dMulI (.int a) (.int b) Q := h
theorem v_isTy {tn d} {Q : DV → Prop} (h : Q (.dat (.bool (isTy tn d)))) : dIsTy tn d Q := h
end
/-! all(..), any(..), sum(..), max(..) of what comes of a list -/
theorem boolsOf_of {α : Type} (p : α → Bool) : ∀ xs : List α, boolsOf (xs.map fun x => .bool (p x)) = some (xs.map p)
  | [] => rfl
  | x :: xs => by
    show (boolsOf (xs.map fun x => .bool (p x))).map (p x :: ·) = _
    rw [boolsOf_of p xs]
    rfl
theorem intsOf_of {α : Type} (p : α → Int) : ∀ xs : List α, intsOf (xs.map fun x => .int (p x)) = some (xs.map p)
  | [] => rfl
  | x :: xs => by
    show (intsOf (xs.map fun x => .int (p x))).map (p x :: ·) = _
    rw [intsOf_of p xs]
    rfl
theorem v_all {α : Type} {xs : List α} {p : α → Bool} {Q : DV → Prop} (h : Q (.dat (.bool (xs.all p)))) : nAll [.list (xs.map fun x => .bool (p x))] Q := by
  unfold nAll; simp only [boolsOf_of p xs]; rw [List.all_map]; exact h
theorem v_any {α : Type} {xs : List α} {p : α → Bool} {Q : DV → Prop} (h : Q (.dat (.bool (xs.any p)))) : nAny [.list (xs.map fun x => .bool (p x))] Q := by
  unfold nAny; simp only [boolsOf_of p xs]; rw [List.any_map]; exact h
theorem v_sum {α : Type} {xs : List α} {p : α → Int} {Q : DV → Prop} (h : Q (.dat (.int (xs.map p).sum))) : nSum [.list (xs.map fun x => .int (p x))] Q := by
  unfold nSum; simp only [intsOf_of p xs]; exact h
/-! fine by form -/
structure Fines (k w : Nat) (ds : List D) : Prop where
  lay : PyData.canLayAll0 ds = true
  dep : PyData.depthAll ds ≤ k
  wt : PyData.weightAll ds ≤ w
  sh : PyData.intsShortAll 50 ds = true
  sw : PyData.showableAll ds = true
theorem fins_nil : Fines 0 0 [] := ⟨rfl, Nat.le_refl _, Nat.le_refl _, rfl, rfl⟩
theorem fins_cons {k w k' w' : Nat} {d : D} {ds : List D} (h : Fine k w d) (hs : Fines k' w' ds) : Fines (max k k') (w + 1 + w') (d :: ds) := by
  refine ⟨?_, ?_, ?_, ?_, ?_⟩
  · simp only [PyData.canLayAll0, h.lay, hs.lay, Bool.and_self]
  · have a := h.dep; have b := hs.dep
    simp only [PyData.depthAll]
    omega
  · have a := h.wt; have b := hs.wt
    simp only [PyData.weightAll]
    omega
  · simp only [PyData.intsShortAll, h.sh, hs.sh, Bool.and_self]
  · simp only [PyData.showableAll, h.sw, hs.sw, Bool.and_self]
theorem fins_all {k w n : Nat} {xs : List D} (h : ∀ x ∈ xs, Fine k w x) (hn : xs.length ≤ n) : Fines k (n * (w + 1)) xs := by
  obtain ⟨a1, a2, a3, a4, a5⟩ := fin_all h
  have := Nat.mul_le_mul_right (w + 1) hn
  exact ⟨a1, a2, by omega, a4, a5⟩
theorem fins_map {α : Type} {k w n : Nat} {xs : List α} {F : α → D} (hn : xs.length ≤ n) (h : ∀ x ∈ xs, Fine k w (F x)) : Fines k (n * (w + 1)) (xs.map F) :=
  fins_all (fun y hy => by obtain ⟨x, hx, rfl⟩ := List.mem_map.mp hy; exact h x hx) (by rw [List.length_map]; exact hn)
theorem fins_app {k w k' w' : Nat} {ds es : List D} (h : Fines k w ds) (hs : Fines k' w' es) : Fines (max k k') (w + w') (ds ++ es) := by
  induction ds with
  | nil => exact ⟨hs.lay, by have := hs.dep; simp only [List.nil_append]; omega, by have := hs.wt; simp only [List.nil_append]; omega, hs.sh, hs.sw⟩
  | cons d ds ih =>
    have h1 : (d.canLay0 && PyData.canLayAll0 ds) = true := h.lay
    have h2 : max d.depth (PyData.depthAll ds) ≤ k := h.dep
    have h3 : d.weight + 1 + PyData.weightAll ds ≤ w := h.wt
    have h4 : (d.intsShort 50 && PyData.intsShortAll 50 ds) = true := h.sh
    have h5 : (d.showable && PyData.showableAll ds) = true := h.sw
    rw [Bool.and_eq_true] at h1 h4 h5
    have i := fun w0 (e : PyData.weightAll ds ≤ w0) => (show Fines k w0 ds from ⟨h1.2, by omega, e, h4.2, h5.2⟩)
    have key : ∀ ds : List D, PyData.canLayAll0 ds = true → PyData.depthAll ds ≤ k → PyData.intsShortAll 50 ds = true → PyData.showableAll ds = true → PyData.canLayAll0 (ds ++ es) = true ∧ PyData.depthAll (ds ++ es) ≤ max k k' ∧ PyData.weightAll (ds ++ es) = PyData.weightAll ds + PyData.weightAll es ∧ PyData.intsShortAll 50 (ds ++ es) = true ∧ PyData.showableAll (ds ++ es) = true := by
      intro ds
      induction ds with
      | nil =>
        intro _ _ _ _
        exact ⟨hs.lay, by have := hs.dep; simp only [List.nil_append]; omega, by simp [PyData.weightAll], hs.sh, hs.sw⟩
      | cons d ds ih =>
        intro a b c e
        simp only [PyData.canLayAll0, PyData.depthAll, PyData.intsShortAll, PyData.showableAll, Bool.and_eq_true] at a b c e
        obtain ⟨j1, j2, j3, j4, j5⟩ := ih a.2 (by omega) c.2 e.2
        simp only [List.cons_append, PyData.canLayAll0, PyData.depthAll, PyData.weightAll, PyData.intsShortAll, PyData.showableAll, Bool.and_eq_true]
        exact ⟨⟨a.1, j1⟩, by omega, by omega, ⟨c.1, j4⟩, e.1, j5⟩
    obtain ⟨j1, j2, j3, j4, j5⟩ := key (d :: ds) h.lay h.dep h.sh h.sw
    exact ⟨j1, j2, by have a := h.wt; have b := hs.wt; omega, j4, j5⟩
theorem fin_tup {k w : Nat} {ds : List D} (h : Fines k w ds) : Fine (k + 1) w (.tuple ds) := ⟨h.lay, by have := h.dep; show _ + 1 ≤ _; omega, h.wt, h.sh, h.sw⟩
theorem fin_lst {k w : Nat} {ds : List D} (h : Fines k w ds) : Fine (k + 1) w (.list ds) := ⟨h.lay, by have := h.dep; show _ + 1 ≤ _; omega, h.wt, h.sh, h.sw⟩
theorem fin_none0 : Fine 0 0 .none := fin_none
theorem fin_bool0 {b : Bool} : Fine 0 0 (.bool b) := fin_bool
theorem fin_int0 {i : Int} (h : i.natAbs < 10 ^ 12) : Fine 0 40 (.int i) := fin_int h (by decide)
/-- a small number -/
theorem fin_intw {i : Int} (n : Nat) (h : i.natAbs < 2 ^ n) (hn : n ≤ 160) : Fine 0 n (.int i) := fin_big n h hn (Nat.le_refl _)
theorem fin_lit (x : Str) (h : PyData.strOk x = true := by decide +kernel) : Fine 0 x.length (.str x) := fin_str h (Nat.le_refl _)
theorem rangeL0 (n : Int) : rangeL 0 n = (List.range n.toNat).map fun k => PyData.int ((k : Nat) : Int) := by
  unfold rangeL
  rw [Int.sub_zero]
  refine List.map_congr_left fun k _ => ?_
  rw [Int.zero_add]
theorem zipD_map {α β : Type} (F : α → D) (G : β → D) (xs : List α) (ys : List β) : zipD (xs.map F) (ys.map G) = (xs.zip ys).map fun p => .tuple [F p.1, G p.2] := by
  unfold zipD
  rw [List.zip_map, List.map_map]
  rfl
theorem snoc_ind {α : Type} {P : List α → Prop} (h0 : P []) (h1 : ∀ xs x, P xs → P (xs ++ [x])) (xs : List α) : P xs := by
  have : ∀ ys : List α, P ys.reverse := by
    intro ys
    induction ys with
    | nil => exact h0
    | cons y ys ih => rw [List.reverse_cons]; exact h1 _ _ ih
  have := this xs.reverse
  rwa [List.reverse_reverse] at this
theorem v_neShown {k w : Nat} {d : D} {Q : DV → Prop} (f : Fine k w d) (h : Q (.dat (.bool false))) : dNe (.str d.shown) (.str d.shown) Q := by
  refine ⟨f.okS, f.okS, ?_⟩
  rw [show PyData.eqv (.str d.shown) (.str d.shown) = true from SeqAt.eqv_refl _ (strOk_shown _ f.lay)]
  exact h
theorem v_eqShown {k w : Nat} {d : D} {Q : DV → Prop} (f : Fine k w d) (h : Q (.dat (.bool true))) : dEq (.str d.shown) (.str d.shown) Q := by
  refine ⟨f.okS, f.okS, ?_⟩
  rw [show PyData.eqv (.str d.shown) (.str d.shown) = true from SeqAt.eqv_refl _ (strOk_shown _ f.lay)]
  exact h
theorem atI_last {α : Type} (pre : List α) (x : α) : L2.atI (pre ++ [x]) (-1) = some x := by
  unfold L2.atI L2.ixN
  rw [if_neg (by decide), if_pos (by rw [List.length_append, List.length_singleton]; omega)]
  show (pre ++ [x])[((-1 : Int) + ((pre ++ [x]).length : Nat)).toNat]? = some x
  have e : ((-1 : Int) + ((pre ++ [x]).length : Nat)).toNat = pre.length := by rw [List.length_append, List.length_singleton]; omega
  rw [e]
  simp
end DL

/-! Pools as the laws draw them, apart from any law: what a kind is made of, who asks whom, whole lines, positions. -/
namespace DL
open PySem
theorem eqv_str {a b : Str} : PyData.eqv (.str a) (.str b) = decide (a = b) := by
  show (a == b) = _
  by_cases h : a = b
  · subst h; simp
  · simp [h]
structure Kd where
  name : Str
  line : List (Str × Int)
  ask : Str
abbrev claimD (c : Str × Int) : D := .tuple [.str c.1, .int c.2]
abbrev kindD (k : Kd) : D := .tuple [.str k.name, .tuple (k.line.map claimD), .str k.ask]
abbrev roomD (r : Str × Int × Bool) : D := .tuple [.str r.1, .int r.2.1, .bool r.2.2]
abbrev poolD (rs : List (Str × Int × Bool)) (ks : List Kd) : D := .tuple [.tuple (rs.map roomD), .tuple (ks.map kindD)]
section
variable {rs : List (Str × Int × Bool)} {ks : List Kd} {Q : DV → Prop} {E : Err → Prop}
def Nth (l : List Str) (z : Str) (i : Nat) : Prop := l[i]? = some z ∧ ∀ m, m < i → l[m]? ≠ some z
theorem nth_fn {l : List Str} {z : Str} {i j : Nat} (h1 : Nth l z i) (h2 : Nth l z j) : i = j := by
  by_cases h : i < j
  · exact absurd h1.1 (h2.2 i h)
  · by_cases h' : j < i
    · exact absurd h2.1 (h1.2 j h')
    · omega
theorem nth_mem {l : List Str} {z : Str} (h : z ∈ l) : ∃ i, Nth l z i := by
  induction l with
  | nil => cases h
  | cons x l ih =>
    by_cases e : x = z
    · subst e
      exact ⟨0, rfl, fun m hm => by omega⟩
    · rcases List.mem_cons.mp h with rfl | h
      · exact absurd rfl e
      · obtain ⟨i, a, b⟩ := ih h
        refine ⟨i + 1, a, fun m hm => ?_⟩
        cases m with
        | zero => intro z'; exact e (Option.some.inj z')
        | succ m => exact b m (by omega)
theorem isIn_str {z : Str} : ∀ {l : List Str}, isIn (.str z) (l.map .str) = decide (z ∈ l)
  | [] => rfl
  | x :: l => by
    show (PyData.eqv (.str x) (.str z) || isIn (.str z) (l.map .str)) = _
    rw [isIn_str (l := l)]
    have e : PyData.eqv (.str x) (.str z) = decide (x = z) := by
      show (x == z) = _
      by_cases h : x = z
      · subst h; simp
      · simp [h]
    rw [e]
    by_cases h : x = z
    · subst h; simp
    · have h' : ¬ z = x := fun q => h q.symm
      simp [h, h']
theorem all_flat_str : ∀ (l : List Str), (l.map PyData.str).all flatD = true
  | [] => rfl
  | x :: l => by rw [List.map_cons, List.all_cons, all_flat_str l]; rfl
theorem v_notIn {z : Str} {l : List Str} {Q : DV → Prop} (h : Q (.dat (.bool (!decide (z ∈ l))))) : dNotIn4 (.str z) (.tuple (l.map .str)) Q := by
  refine .inr ⟨rfl, all_flat_str l, ?_⟩
  rw [isIn_str]
  exact h
structure KdOk (k : Kd) : Prop where
  nm : PyData.strOk k.name = true ∧ k.name.length ≤ 20
  nz : k.name ≠ ""
  ak : PyData.strOk k.ask = true ∧ k.ask.length ≤ 20
  ll : k.line.length ≤ 3
  cl : ∀ c ∈ k.line, PyData.strOk c.1 = true ∧ c.1.length ≤ 20 ∧ c.2.natAbs < 10 ^ 12
theorem kind_fine {k : Kd} (h : KdOk k) : Fine 3 800 (kindD k) := by
  have hc : ∀ x ∈ k.line.map claimD, Fine 1 82 x := fun x hx => by
    obtain ⟨c, hc, rfl⟩ := List.mem_map.mp hx
    obtain ⟨h1, h2, h3⟩ := h.cl c hc
    refine fin_tuple (k := 0) (w := 40) (n := 2) (fun y hy => ?_) (Nat.le_refl _) (by decide)
    simp only [List.mem_cons, List.not_mem_nil, or_false] at hy
    rcases hy with rfl | rfl
    · exact fin_str h1 (by omega)
    · exact fin_int h3 (by decide)
  have hl : Fine 2 249 (.tuple (k.line.map claimD)) := fin_tuple (n := 3) hc (by rw [List.length_map]; exact h.ll) (by decide)
  refine fin_tuple (k := 2) (w := 249) (n := 3) (fun y hy => ?_) (Nat.le_refl _) (by decide)
  simp only [List.mem_cons, List.not_mem_nil, or_false] at hy
  rcases hy with rfl | rfl | rfl
  · exact fin_str h.nm.1 (by have := h.nm.2; omega)
  · exact hl
  · exact fin_str h.ak.1 (by have := h.ak.2; omega)
theorem kinds_fine {l : List Kd} (h : ∀ k ∈ l, KdOk k) (hl : l.length ≤ 100) : Fine 4 80100 (.list (l.map kindD)) :=
  fin_list (n := 100) (fun x hx => by
    obtain ⟨k, hk, rfl⟩ := List.mem_map.mp hx
    exact kind_fine (h k hk)) (by rw [List.length_map]; exact hl) (by decide)
theorem eqv_kind {k k' : Kd} (h : k.name ≠ k'.name) : PyData.eqv (kindD k) (kindD k') = false := by
  show (PyData.eqv (.str k.name) (.str k'.name) && _) = false
  rw [eqv_str, decide_eq_false h]
  rfl
theorem isIn_kind {k : Kd} : ∀ {l : List Kd}, k.name ∉ l.map (·.name) → isIn (kindD k) (l.map kindD) = false
  | [], _ => rfl
  | x :: l, h => by
    rw [List.map_cons, List.mem_cons, not_or] at h
    show (PyData.eqv (kindD x) (kindD k) || isIn (kindD k) (l.map kindD)) = false
    rw [isIn_kind h.2, eqv_kind (fun z => h.1 z.symm)]
    rfl
inductive Chain (ks : List Kd) : Kd → List Kd → Prop
  | last {k : Kd} : k.ask = "" → Chain ks k [k]
  | more {k k' : Kd} {i : Nat} {l : List Kd} : k.ask ≠ "" → Nth (ks.map (·.name)) k.ask i → ks[i]? = some k' → Chain ks k' l → Chain ks k (k :: l)
theorem Chain.head {ks : List Kd} {k : Kd} {l : List Kd} (h : Chain ks k l) : ∃ t, l = k :: t := by
  cases h with
  | last => exact ⟨_, rfl⟩
  | more => exact ⟨_, rfl⟩
def ixOf (l : List Str) (z : Str) : Nat := l.findIdx fun x => decide (x = z)
theorem nth_ix {z : Str} : ∀ {l : List Str}, z ∈ l → Nth l z (ixOf l z)
  | x :: l, h => by
    by_cases e : x = z
    · subst e
      have : ixOf (x :: l) x = 0 := by unfold ixOf; rw [List.findIdx_cons]; simp
      rw [this]
      exact ⟨rfl, fun m hm => by omega⟩
    · have e2 : ixOf (x :: l) z = ixOf l z + 1 := by unfold ixOf; rw [List.findIdx_cons]; simp [e]
      rw [e2]
      rcases List.mem_cons.mp h with rfl | h
      · exact absurd rfl e
      obtain ⟨a, b⟩ := nth_ix h
      refine ⟨a, fun m hm => ?_⟩
      cases m with
      | zero => intro q; exact e (Option.some.inj q)
      | succ m => exact b m (by omega)
  | [], h => by cases h
theorem nodup_ix {l : List Str} (hn : l.Nodup) {i j : Nat} {z : Str} (h1 : l[i]? = some z) (h2 : l[j]? = some z) : i = j := by
  obtain ⟨a, b⟩ := List.getElem?_eq_some_iff.mp h1
  exact (List.getElem?_inj a hn).mp (h1.trans h2.symm)
theorem nth_of {l : List Str} (hn : l.Nodup) {i : Nat} {z : Str} (h : l[i]? = some z) : Nth l z i := ⟨h, fun m hm q => by
  have := nodup_ix hn h q
  omega⟩
structure PoolOk (rs : List (Str × Int × Bool)) (ks : List Kd) : Prop where
  rl : rs.length ≤ 12
  kl : ks.length ≤ 12
  rn : (rs.map (·.1)).Nodup
  kn : (ks.map (·.name)).Nodup
  ok : ∀ k ∈ ks, KdOk k
  ll : ∀ k ∈ ks, k.line.length ≤ 3
  rooms : ∀ k ∈ ks, ∀ c ∈ k.line, c.1 ∈ rs.map (·.1) ∧ 1 ≤ c.2 ∧ c.2 ≤ 9
  acyc : ∀ (i : Nat) (k : Kd), ks[i]? = some k → k.ask = "" ∨ ∃ j, j < i ∧ (ks.map (·.name))[j]? = some k.ask
  rok : ∀ r ∈ rs, PyData.strOk r.1 = true ∧ r.1.length ≤ 20 ∧ 0 ≤ r.2.1 ∧ r.2.1 ≤ 1000
  l1 : ∀ k ∈ ks, 1 ≤ k.line.length
def chainF (ks : List Kd) : Nat → Kd → List Kd
  | 0, k => [k]
  | n + 1, k => if k.ask = "" then [k] else match ks.find? (fun x => decide (x.name = k.ask)) with
    | some k' => k :: chainF ks n k'
    | none => [k]
theorem find_name {ks : List Kd} (hn : (ks.map (·.name)).Nodup) {j : Nat} {k' : Kd} {z : Str} (hk : ks[j]? = some k') (hz : k'.name = z) : ks.find? (fun x => decide (x.name = z)) = some k' := by
  cases e : ks.find? (fun x => decide (x.name = z)) with
  | none =>
    rw [List.find?_eq_none] at e
    exact absurd (decide_eq_true hz) (e k' (List.mem_of_getElem? hk))
  | some y =>
    have h1 := List.find?_some e
    have h2 := List.mem_of_find?_eq_some e
    obtain ⟨m, hm⟩ := List.getElem?_of_mem h2
    have h3 : y.name = z := of_decide_eq_true h1
    have : m = j := nodup_ix hn (z := z) (by rw [List.getElem?_map, hm, ← h3]; rfl) (by rw [List.getElem?_map, hk, ← hz]; rfl)
    subst this
    rw [hm] at hk
    exact hk
theorem chainF_ok {rs : List (Str × Int × Bool)} {ks : List Kd} (P : PoolOk rs ks) : ∀ (n i : Nat) (k : Kd), ks[i]? = some k → i ≤ n → Chain ks k (chainF ks n k) ∧ (∀ x ∈ chainF ks n k, ∃ j, j ≤ i ∧ ks[j]? = some x) ∧ ((chainF ks n k).map (·.name)).Nodup ∧ (chainF ks n k).length ≤ i + 1 := by
  have one : ∀ (i : Nat) (k : Kd), ks[i]? = some k → k.ask = "" → Chain ks k [k] ∧ (∀ x ∈ [k], ∃ j, j ≤ i ∧ ks[j]? = some x) ∧ (([k] : List Kd).map (·.name)).Nodup ∧ ([k] : List Kd).length ≤ i + 1 := fun i k hk ha =>
    ⟨.last ha, fun x hx => ⟨i, Nat.le_refl _, by rw [List.mem_singleton.mp hx]; exact hk⟩, by simp, by simp⟩
  intro n
  induction n with
  | zero =>
    intro i k hk hi
    rcases P.acyc i k hk with ha | ⟨j, hj, _⟩
    · exact one i k hk ha
    · omega
  | succ n ih =>
    intro i k hk hi
    by_cases ha : k.ask = ""
    · have e : chainF ks (n + 1) k = [k] := by show (if k.ask = "" then _ else _) = _; rw [if_pos ha]
      rw [e]
      exact one i k hk ha
    · rcases P.acyc i k hk with ha' | ⟨j, hj, hn⟩
      · exact absurd ha' ha
      rw [List.getElem?_map] at hn
      cases hkj : ks[j]? with
      | none => rw [hkj] at hn; cases hn
      | some k' =>
        rw [hkj] at hn
        have hz : k'.name = k.ask := Option.some.inj hn
        have e : chainF ks (n + 1) k = k :: chainF ks n k' := by
          show (if k.ask = "" then _ else _) = _
          rw [if_neg ha, find_name P.kn hkj hz]
        rw [e]
        obtain ⟨c1, c2, c3, c4⟩ := ih j k' hkj (by omega)
        have hnth : Nth (ks.map (·.name)) k.ask j := nth_of P.kn (by rw [List.getElem?_map, hkj]; exact congrArg some hz)
        refine ⟨.more ha hnth hkj c1, fun x hx => ?_, ?_, by rw [List.length_cons]; omega⟩
        · rcases List.mem_cons.mp hx with rfl | hx
          · exact ⟨i, Nat.le_refl _, hk⟩
          · obtain ⟨m, hm, e⟩ := c2 x hx
            exact ⟨m, by omega, e⟩
        · rw [List.map_cons, List.nodup_cons]
          refine ⟨fun hm => ?_, c3⟩
          obtain ⟨x, hx, ex⟩ := List.mem_map.mp hm
          obtain ⟨m, hm, e⟩ := c2 x hx
          have : m = i := nodup_ix P.kn (z := k.name) (by rw [List.getElem?_map, e, ← ex]; rfl) (by rw [List.getElem?_map, hk]; rfl)
          omega
def ch (ks : List Kd) (k : Kd) : List Kd := chainF ks ks.length k
def flat (ks : List Kd) (k : Kd) : List (Str × Int) := (ch ks k).flatMap Kd.line
abbrev ixD (rs : List (Str × Int × Bool)) (c : Str × Int) : D := .tuple [.int ((ixOf (rs.map (·.1)) c.1 : Nat) : Int), .int c.2]
theorem ch_ok (P : PoolOk rs ks) {i : Nat} {k : Kd} (hk : ks[i]? = some k) : Chain ks k (ch ks k) ∧ (∀ x ∈ ch ks k, x ∈ ks) ∧ ((ch ks k).map (·.name)).Nodup ∧ (ch ks k).length ≤ ks.length := by
  have hi := (List.getElem?_eq_some_iff.mp hk).1
  obtain ⟨a, b, c, d⟩ := chainF_ok P ks.length i k hk (by omega)
  exact ⟨a, fun x hx => let ⟨j, _, e⟩ := b x hx; List.mem_of_getElem? e, c, by show (chainF ks ks.length k).length ≤ _; omega⟩
theorem flat_len (P : PoolOk rs ks) {l : List Kd} (h : ∀ x ∈ l, x ∈ ks) : (l.flatMap Kd.line).length ≤ 3 * l.length := by
  induction l with
  | nil => simp
  | cons x l ih =>
    have h1 := P.ll x (h x (List.mem_cons_self ..))
    have h2 := ih fun y hy => h y (List.mem_cons_of_mem _ hy)
    rw [List.flatMap_cons, List.length_append, List.length_cons]
    omega
theorem flat_mem (P : PoolOk rs ks) {i : Nat} {k : Kd} (hk : ks[i]? = some k) {c : Str × Int} (hc : c ∈ flat ks k) : c.1 ∈ rs.map (·.1) ∧ 1 ≤ c.2 ∧ c.2 ≤ 9 := by
  obtain ⟨x, hx, hc⟩ := List.mem_flatMap.mp hc
  exact P.rooms x ((ch_ok P hk).2.1 x hx) c hc
theorem kind_at (P : PoolOk rs ks) {i : Nat} {k : Kd} (hk : ks[i]? = some k) : Nth (ks.map (·.name)) k.name i := nth_of P.kn (by rw [List.getElem?_map, hk]; rfl)
abbrev posD (p : Kd × Nat) : D := .tuple [.str p.1.name, .int ((p.2 : Nat) : Int)]
def posOf (ks : List Kd) (k : Kd) : List (Kd × Nat) := (List.range (flat ks k).length).map fun q => (k, q)
def posL (ks l : List Kd) : List (Kd × Nat) := l.flatMap (posOf ks)
theorem pos_mem {ks l : List Kd} {p : Kd × Nat} (h : p ∈ posL ks l) : p.1 ∈ l ∧ p.2 < (flat ks p.1).length := by
  obtain ⟨k, hk, hp⟩ := List.mem_flatMap.mp h
  unfold posOf at hp
  obtain ⟨q, hq, rfl⟩ := List.mem_map.mp hp
  exact ⟨hk, List.mem_range.mp hq⟩
theorem posOf_len {ks : List Kd} {k : Kd} : (posOf ks k).length = (flat ks k).length := by
  unfold posOf
  rw [List.length_map, List.length_range]
theorem flat_le (P : PoolOk rs ks) {i : Nat} {k : Kd} (hk : ks[i]? = some k) : (flat ks k).length ≤ 36 := by
  obtain ⟨_, c2, _, c4⟩ := ch_ok P hk
  have := flat_len P c2
  have := P.kl
  show ((ch ks k).flatMap Kd.line).length ≤ 36
  omega
theorem posL_le (P : PoolOk rs ks) : ∀ {l : List Kd}, (∀ x ∈ l, x ∈ ks) → (posL ks l).length ≤ 36 * l.length
  | [], _ => by simp [posL]
  | x :: l, h => by
    have ih := posL_le P (l := l) fun y hy => h y (List.mem_cons_of_mem _ hy)
    obtain ⟨i, hi⟩ := List.getElem?_of_mem (h x (List.mem_cons_self ..))
    have := flat_le P hi
    show ((posOf ks x) ++ posL ks l).length ≤ _
    rw [List.length_append, posOf_len, List.length_cons]
    omega
theorem posD_range (k : Kd) (n : Nat) : (rangeL 0 ((n : Nat) : Int)) = (List.range n).map fun q => PyData.int ((q : Nat) : Int) := by
  unfold rangeL
  rw [Int.sub_zero, Int.toNat_natCast]
  refine List.map_congr_left fun q _ => ?_
  rw [Int.zero_add]
def clm (ks : List Kd) (p : Kd × Nat) : Str × Int := ((flat ks p.1)[p.2]?).getD ("", 0)
theorem clm_at {ks : List Kd} {p : Kd × Nat} (h : p.2 < (flat ks p.1).length) : (flat ks p.1)[p.2]? = some (clm ks p) := by
  unfold clm
  rw [List.getElem?_eq_getElem h]
  rfl
def rowAt (row : List Int) (i : Nat) : Int := (row[i]?).getD 0
theorem row_get {rs : List (Str × Int × Bool)} {row : List Int} (hr : row.length = rs.length) {z : Str} (hz : z ∈ rs.map (·.1)) : L2.atI (row.map PyData.int) ((ixOf (rs.map (·.1)) z : Nat) : Int) = some (.int (rowAt row (ixOf (rs.map (·.1)) z))) := by
  have h := (nth_ix hz).1
  have hl := (List.getElem?_eq_some_iff.mp h).1
  rw [List.length_map] at hl
  refine L2.atI_nat ?_
  rw [List.getElem?_map]
  unfold rowAt
  rw [List.getElem?_eq_getElem (by omega)]
  rfl
theorem clm_ok (P : PoolOk rs ks) {p : Kd × Nat} (hp : p.1 ∈ ks) (h : p.2 < (flat ks p.1).length) : (clm ks p).1 ∈ rs.map (·.1) ∧ 1 ≤ (clm ks p).2 ∧ (clm ks p).2 ≤ 9 := by
  obtain ⟨i, hi⟩ := List.getElem?_of_mem hp
  exact flat_mem P hi (List.mem_of_getElem? (clm_at h))
theorem erase_perm {α : Type} : ∀ (l : List α) (j : Nat) (h : j < l.length), (l[j] :: l.eraseIdx j).Perm l
  | x :: l, 0, _ => .refl _
  | x :: l, j + 1, h => by
    have h' : j < l.length := Nat.lt_of_succ_lt_succ h
    exact (List.Perm.swap x l[j] (l.eraseIdx j)).trans (.cons x (erase_perm l j h'))
theorem erase_map {α β : Type} (f : α → β) : ∀ (l : List α) (j : Nat), (l.map f).eraseIdx j = (l.eraseIdx j).map f
  | [], _ => rfl
  | _ :: _, 0 => rfl
  | x :: l, j + 1 => congrArg (f x :: ·) (erase_map f l j)
def names12 : List Str := ["a", "b", "c", "d", "q", "zz", "ab", "abcdefgh", "pipe", "disks", "asks", "go"]
theorem n12 : ∀ z ∈ names12, PyData.strOk z = true ∧ z.length ≤ 20 ∧ z ≠ "" := by decide +kernel
theorem n12n : names12.Nodup := by decide +kernel
theorem claims_of {R : Str × Int → Prop} : ∀ {ys : List D}, (∀ y ∈ ys, ∃ c, y = claimD c ∧ R c) → ∃ cs : List (Str × Int), ys = cs.map claimD ∧ ∀ c ∈ cs, R c
  | [], _ => ⟨[], rfl, fun _ h => by cases h⟩
  | y :: r, h => by
    obtain ⟨c, rfl, hc⟩ := h y (List.mem_cons_self ..)
    obtain ⟨cs, rfl, hcs⟩ := claims_of (ys := r) fun z hz => h z (List.mem_cons_of_mem _ hz)
    refine ⟨c :: cs, rfl, fun d hd => ?_⟩
    rcases List.mem_cons.mp hd with rfl | hd
    · exact hc
    · exact hcs d hd
theorem look_put {kvs : List (D × D)} {k d : D} {k' : D} (hk : keyD k ≠ none) : lookD (putD kvs k d) k' = if keyD k = keyD k' then some d else lookD kvs k' := by
  have setL : ∀ kvs : List (D × D), lookD (kvs.map fun p => if keyD p.1 = keyD k then (p.1, d) else p) k' = if (keyD k = keyD k' ∧ (kvs.any fun p => decide (keyD p.1 = keyD k)) = true) then some d else lookD kvs k' := by
    intro kvs
    induction kvs with
    | nil => simp [lookD]
    | cons p r ih =>
      unfold lookD at ih ⊢
      rw [List.map_cons, List.any_cons]
      by_cases h1 : keyD p.1 = keyD k
      · rw [if_pos h1]
        by_cases h2 : keyD k = keyD k'
        · rw [List.find?_cons_of_pos (by simp [h1, h2])]
          simp [h1, h2]
        · rw [List.find?_cons_of_neg (by simp [h1, h2]), ih, List.find?_cons_of_neg (by simp [h1, h2])]
          simp [h2]
      · rw [if_neg h1]
        by_cases h3 : keyD p.1 = keyD k'
        · have h2 : ¬ keyD k = keyD k' := fun q => h1 (h3.trans q.symm)
          rw [List.find?_cons_of_pos (by simp [h3]), List.find?_cons_of_pos (by simp [h3])]
          simp [h2]
        · rw [List.find?_cons_of_neg (by simp [h3]), ih, List.find?_cons_of_neg (by simp [h3]), decide_eq_false h1, Bool.false_or]
  unfold putD
  by_cases h : (kvs.any fun p => decide (keyD p.1 = keyD k)) = true
  · rw [if_pos h, setL]
    simp [h]
  · rw [if_neg h]
    have h' : ∀ p ∈ kvs, ¬ keyD p.1 = keyD k := fun p hp q => h (List.any_eq_true.mpr ⟨p, hp, decide_eq_true q⟩)
    unfold lookD
    rw [List.find?_append]
    by_cases h2 : keyD k = keyD k'
    · have e : kvs.find? (fun p => decide (keyD p.1 = keyD k')) = none := by
        rw [List.find?_eq_none]
        intro p hp
        rw [← h2]
        simpa using h' p hp
      rw [e, if_pos h2]
      simp [List.find?, h2]
    · rw [if_neg h2]
      simp [List.find?, h2]
theorem put_len {kvs : List (D × D)} {k d : D} : (putD kvs k d).length ≤ kvs.length + 1 := by
  unfold putD
  split
  · rw [List.length_map]; omega
  · rw [List.length_append, List.length_singleton]; omega
structure Made (rn : List Str) (ks : List Kd) (kvs : List (D × D)) : Prop where
  ok : ∀ k ∈ ks, KdOk k
  ll : ∀ k ∈ ks, k.line.length ≤ 3
  rooms : ∀ k ∈ ks, ∀ c ∈ k.line, c.1 ∈ rn ∧ 1 ≤ c.2 ∧ c.2 ≤ 9
  acyc : ∀ (i : Nat) (k : Kd), ks[i]? = some k → k.ask = "" ∨ ∃ j, j < i ∧ (ks.map (·.name))[j]? = some k.ask
  look : ∀ z : Str, z = "" ∨ z ∈ ks.map (·.name) → ∃ n : Int, lookD kvs (.str z) = some (.int n)
  vl : kvs.length ≤ ks.length + 1
  l1 : ∀ k ∈ ks, 1 ≤ k.line.length
def lenOf (kvs : List (D × D)) (z : Str) : Int := match lookD kvs (.str z) with
  | some (.int n) => n
  | _ => 0
theorem Made.at {rn : List Str} {ks : List Kd} {kvs : List (D × D)} (M : Made rn ks kvs) {z : Str} (h : z = "" ∨ z ∈ ks.map (·.name)) : lookD kvs (.str z) = some (.int (lenOf kvs z)) := by
  obtain ⟨n, e⟩ := M.look z h
  unfold lenOf
  rw [e]
theorem Made.more {rn : List Str} {ks : List Kd} {kvs : List (D × D)} (M : Made rn ks kvs) {z a : Str} {cs : List (Str × Int)} {n : Int} (hz : PyData.strOk z = true ∧ z.length ≤ 20 ∧ z ≠ "") (hr : ∀ y ∈ rn, PyData.strOk y = true ∧ y.length ≤ 20)
    (hc0 : 1 ≤ cs.length) (hc : cs.length ≤ 3) (hcs : ∀ c ∈ cs, c.1 ∈ rn ∧ 1 ≤ c.2 ∧ c.2 ≤ 9) (ha : a = "" ∨ a ∈ ks.map (·.name)) : Made rn (ks ++ [⟨z, cs, a⟩]) (putD kvs (.str z) (.int n)) := by
  have hao : PyData.strOk a = true ∧ a.length ≤ 20 := by
    rcases ha with rfl | ha
    · exact ⟨strOk_of "", by decide +kernel⟩
    · obtain ⟨k, hk, rfl⟩ := List.mem_map.mp ha
      exact (M.ok k hk).nm
  have mem : ∀ {k : Kd}, k ∈ ks ++ [⟨z, cs, a⟩] → k ∈ ks ∨ k = ⟨z, cs, a⟩ := fun {k} h => by simpa using h
  refine ⟨fun k hk => ?_, fun k hk => ?_, fun k hk => ?_, fun i k hk => ?_, fun y hy => ?_, by have := M.vl; have := put_len (kvs := kvs) (k := .str z) (d := .int n); rw [List.length_append, List.length_singleton]; omega, fun k hk => ?_⟩
  · rcases mem hk with h | rfl
    · exact M.ok k h
    · exact ⟨⟨hz.1, hz.2.1⟩, hz.2.2, hao, hc, fun c hc' => by
        obtain ⟨h1, h2, h3⟩ := hcs c hc'
        exact ⟨(hr _ h1).1, (hr _ h1).2, by omega⟩⟩
  · rcases mem hk with h | rfl
    · exact M.ll k h
    · exact hc
  · rcases mem hk with h | rfl
    · exact M.rooms k h
    · exact hcs
  · by_cases hi : i < ks.length
    · rw [List.getElem?_append_left hi] at hk
      rcases M.acyc i k hk with h | ⟨j, hj, e⟩
      · exact .inl h
      · refine .inr ⟨j, hj, ?_⟩
        rw [List.map_append, List.getElem?_append_left (by rw [List.length_map]; omega)]
        exact e
    · have hil := (List.getElem?_eq_some_iff.mp hk).1
      rw [List.length_append, List.length_singleton] at hil
      have : i = ks.length := by omega
      subst this
      rw [List.getElem?_append_right (Nat.le_refl _), Nat.sub_self] at hk
      have hk' : (⟨z, cs, a⟩ : Kd) = k := Option.some.inj hk
      subst hk'
      rcases ha with ha | ha
      · exact .inl ha
      · obtain ⟨j, hj⟩ := List.getElem?_of_mem ha
        have hjl := (List.getElem?_eq_some_iff.mp hj).1
        rw [List.length_map] at hjl
        refine .inr ⟨j, hjl, ?_⟩
        rw [List.map_append, List.getElem?_append_left (by rw [List.length_map]; omega)]
        exact hj
  · rw [look_put (by intro q; cases q)]
    by_cases h : z = y
    · subst h
      exact ⟨n, if_pos rfl⟩
    · rw [if_neg (by intro q; exact h (by have := Option.some.inj q; exact Sum.inr.inj this))]
      refine M.look y ?_
      rcases hy with hy | hy
      · exact .inl hy
      · rw [List.map_append] at hy
        rcases List.mem_append.mp hy with hy | hy
        · exact .inr hy
        · exact absurd (List.mem_singleton.mp hy).symm h
  · rcases mem hk with h | rfl
    · exact M.l1 k h
    · exact hc0
theorem lcL_prj {r : Env} {own : List Nat} {g : TG} {t : TB} {f : TX} {Q : List D → Env → Prop} {α β : Type} {xs : List α} (F : α → D) (G : β → D) (p : β → α) (P : β → Prop) (hl : xs.length ≤ 16777216) (s : ∀ x ∈ xs, ∀ (acc : List D) (K : List D → Env → Prop), acc.length < 16777216 → (∀ b, p b = x → P b → K (acc ++ [G b]) r) → g (.dat (F x)) r fun r1 => t noX r1 fun b r2 => if b = true then
      f noX r2 fun dv r3 => on1 dv.toD fun d => acc.length < 16777216 ∧ cl2 r3 own fun r4 => K (acc ++ [d]) r4
    else cl2 r2 own fun r4 => K acc r4) (q : ∀ bs : List β, bs.map p = xs → (∀ b ∈ bs, P b) → Q (bs.map G) r) : lcL own g t f (xs.map F) [] r Q := by
  have key : ∀ (post pre : List α) (bs : List β), xs = pre ++ post → bs.map p = pre → (∀ b ∈ bs, P b) → lcL own g t f (post.map F) (bs.map G) r Q := by
    intro post
    induction post with
    | nil =>
      intro pre bs e hb hP
      rw [List.append_nil] at e
      exact q bs (hb.trans e.symm) hP
    | cons x post ih =>
      intro pre bs e hb hP
      have hbl : bs.length = pre.length := by rw [← hb, List.length_map]
      have hxl := congrArg List.length e
      rw [List.length_append, List.length_cons] at hxl
      refine s x (by rw [e]; simp) (bs.map G) (fun a r' => lcL own g t f (post.map F) a r' Q) (by rw [List.length_map]; omega) fun b h1 h2 => ?_
      have := ih (pre ++ [x]) (bs ++ [b]) (by rw [e]; simp) (by rw [List.map_append, hb, List.map_singleton, h1]) (fun c hc => by
        rcases List.mem_append.mp hc with h | h
        · exact hP c h
        · rw [List.mem_singleton.mp h]; exact h2)
      rw [List.map_append, List.map_singleton] at this
      exact this
  exact key xs [] [] rfl rfl fun _ h => by cases h
theorem strs_fine {l : List Str} (h : ∀ z ∈ l, PyData.strOk z = true ∧ z.length ≤ 20) (hl : l.length ≤ 100) : Fine 1 4100 (.list (l.map .str)) :=
  fin_list (k := 0) (w := 40) (n := 100) (fun x hx => by
    obtain ⟨z, hz, rfl⟩ := List.mem_map.mp hx
    exact fin_str (h z hz).1 (by have := (h z hz).2; omega)) (by rw [List.length_map]; exact hl) (by decide)
theorem room_fine {r : Str × Int × Bool} (h : PyData.strOk r.1 = true ∧ r.1.length ≤ 20 ∧ 0 ≤ r.2.1 ∧ r.2.1 ≤ 1000) : Fine 1 126 (roomD r) :=
  fin_tuple (k := 0) (w := 41) (n := 3) (fun y hy => by
    simp only [List.mem_cons, List.not_mem_nil, or_false] at hy
    rcases hy with rfl | rfl | rfl
    · exact fin_str h.1 (by omega)
    · exact fin_int (by omega) (by decide)
    · exact fin_bool.mono (Nat.zero_le _) (Nat.zero_le _)) (Nat.le_refl _) (by decide)
theorem pool_fine (P : PoolOk rs ks) : Fine 5 20000 (poolD rs ks) := by
  have h1 : Fine 2 1600 (.tuple (rs.map roomD)) := fin_tuple (n := 12) (fun x hx => by
    obtain ⟨r, hr, rfl⟩ := List.mem_map.mp hx
    exact room_fine (P.rok r hr)) (by rw [List.length_map]; exact P.rl) (by decide)
  have h2 : Fine 4 9700 (.tuple (ks.map kindD)) := fin_tuple (n := 12) (fun x hx => by
    obtain ⟨k, hk, rfl⟩ := List.mem_map.mp hx
    exact kind_fine (P.ok k hk)) (by rw [List.length_map]; exact P.kl) (by decide)
  refine fin_tuple (k := 4) (w := 9700) (n := 2) (fun y hy => ?_) (Nat.le_refl _) (by decide)
  simp only [List.mem_cons, List.not_mem_nil, or_false] at hy
  rcases hy with rfl | rfl
  · exact h1.mono (by decide) (by decide)
  · exact h2
end
end DL

/-! vectors; what is held of a line -/
namespace DL
open PySem
abbrev vecD (v : List Int) : D := .tuple (v.map .int)
def plusL (a b : List Int) : List Int := (a.zip b).map fun p => p.1 + p.2
def minusL (a b : List Int) : List Int := (a.zip b).map fun p => p.1 - p.2
def withinL (a b : List Int) : Bool := (a.zip b).all fun p => decide (p.1 ≤ p.2)
theorem flt_none {α : Type} {xs : List α} {p q : α → Bool} (h : ∀ x ∈ xs, p x = !q x) : PyData.eqv (.list ((xs.filter p).map fun _ => PyData.int 1)) (.list []) = xs.all q := by
  induction xs with
  | nil => rfl
  | cons x xs ih =>
    have hx := h x (List.mem_cons_self ..)
    have ih := ih fun y hy => h y (List.mem_cons_of_mem _ hy)
    cases e : q x with
    | true =>
      rw [e] at hx
      rw [List.filter_cons_of_neg (by rw [hx]; decide), ih, List.all_cons, e, Bool.true_and]
    | false =>
      rw [e] at hx
      rw [List.filter_cons_of_pos (by rw [hx]; decide), List.all_cons, e, Bool.false_and]
      rfl
theorem ints_ofR {R : Int → Prop} : ∀ {ys : List D}, (∀ y ∈ ys, ∃ i, y = .int i ∧ R i) → ∃ is : List Int, ys = is.map .int ∧ ∀ i ∈ is, R i
  | [], _ => ⟨[], rfl, fun _ h => by cases h⟩
  | y :: r, h => by
    obtain ⟨c, rfl, hc⟩ := h y (List.mem_cons_self ..)
    obtain ⟨cs, rfl, hcs⟩ := ints_ofR (ys := r) fun z hz => h z (List.mem_cons_of_mem _ hz)
    refine ⟨c :: cs, rfl, fun d hd => ?_⟩
    rcases List.mem_cons.mp hd with rfl | hd
    · exact hc
    · exact hcs d hd
theorem vec_fine {v : List Int} {n w : Nat} (hw : w ≤ 160) (h : ∀ i ∈ v, i.natAbs < 2 ^ w) (hl : v.length ≤ n) : Fine 1 (n * (w + 1)) (vecD v) := fin_tup (fins_map hl fun i hi => fin_intw w (h i hi) hw)
theorem within_self (a : List Int) : withinL a a = true := by
  unfold withinL
  rw [List.all_eq_true]
  intro p hp
  have : ∀ (a : List Int), ∀ p ∈ a.zip a, p.1 = p.2 := by
    intro a
    induction a with
    | nil => intro p hp; simp at hp
    | cons x a ih =>
      intro p hp
      rw [List.zip_cons_cons] at hp
      rcases List.mem_cons.mp hp with rfl | hp
      · rfl
      · exact ih p hp
  rw [decide_eq_true_eq, this a p hp]
  exact Int.le_refl _

theorem ixN_at {n j : Nat} (hj : j < n) : L2.ixN n ((j : Nat) : Int) = some j := by
  unfold L2.ixN
  rw [if_pos (by omega), if_pos (by omega)]
  simp
theorem cut_drop {α : Type} {xs : List α} {F : α → PyData} (m : Nat) : cutD (xs.map F) (some ((m : Nat) : Int)) none = (xs.drop m).map F := by
  unfold cutD
  rw [HT.sIx_nat, HT.sIx_none, List.take_of_length_le (by rw [List.length_drop]; omega), List.length_map, ← List.map_drop]
  by_cases h : m ≤ xs.length
  · rw [Nat.min_eq_left h]
  · rw [Nat.min_eq_right (by omega), List.drop_of_length_le (Nat.le_refl _), List.drop_of_length_le (by omega)]
theorem zip_same {α β γ : Type} (f : α → β) (g : α → γ) : ∀ l : List α, (l.map f).zip (l.map g) = l.map fun a => (f a, g a)
  | [] => rfl
  | x :: l => by rw [List.map_cons, List.map_cons, List.zip_cons_cons, zip_same f g l, List.map_cons]
def cellSum (cs : List (Nat × Int)) (k : Nat) : Int := ((cs.filter fun c => decide (c.1 = k)).map (·.2)).sum
def heldL (n : Nat) (cs : List (Nat × Int)) : List Int := (List.range n).map (cellSum cs)
abbrev icD (c : Nat × Int) : D := .tuple [.int ((c.1 : Nat) : Int), .int c.2]
theorem cellSum_app (a b : List (Nat × Int)) (k : Nat) : cellSum (a ++ b) k = cellSum a k + cellSum b k := by
  unfold cellSum
  rw [List.filter_append, List.map_append, List.sum_append]
theorem cellSum_one (i : Nat) (u : Int) (k : Nat) : cellSum [(i, u)] k = if k = i then u else 0 := by
  unfold cellSum
  by_cases h : k = i
  · subst h; simp
  · have h' : ¬ i = k := fun q => h q.symm
    simp [h, h']
theorem heldL_len (n : Nat) (cs : List (Nat × Int)) : (heldL n cs).length = n := by unfold heldL; rw [List.length_map, List.length_range]
theorem heldL_zero (n : Nat) : (List.replicate n [PyData.int 0]).flatten = (heldL n []).map .int := by
  rw [List.flatten_replicate_singleton]
  unfold heldL
  rw [List.map_map, show (PyData.int ∘ cellSum []) = fun _ => PyData.int 0 from rfl, List.map_const', List.length_range]
theorem heldL_app (n : Nat) (a b : List (Nat × Int)) : plusL (heldL n a) (heldL n b) = heldL n (a ++ b) := by
  unfold plusL heldL
  rw [zip_same, List.map_map]
  exact List.map_congr_left fun k _ => (cellSum_app a b k).symm
theorem heldL_sub (n : Nat) (a b : List (Nat × Int)) : minusL (heldL n (a ++ b)) (heldL n a) = heldL n b := by
  unfold minusL heldL
  rw [zip_same, List.map_map]
  refine List.map_congr_left fun k _ => ?_
  show cellSum (a ++ b) k - cellSum a k = _
  rw [cellSum_app]; omega
theorem heldL_one (n i : Nat) (u : Int) : ((List.range n).map fun k => if k = i then u else 0) = heldL n [(i, u)] := List.map_congr_left fun k _ => (cellSum_one i u k).symm
theorem heldL_get {n i : Nat} (a : List (Nat × Int)) (h : i < n) : L2.atI ((heldL n a).map PyData.int) ((i : Nat) : Int) = some (.int (cellSum a i)) := by
  refine L2.atI_nat ?_
  unfold heldL
  rw [List.map_map, List.getElem?_map, List.getElem?_range h]
  rfl
theorem heldL_set {n i : Nat} {u : Int} (a : List (Nat × Int)) (h : i < n) : ((heldL n a).map PyData.int).set i (.int (cellSum a i + u)) = (heldL n (a ++ [(i, u)])).map .int := by
  refine List.ext_getElem (by rw [List.length_set, List.length_map, List.length_map, heldL_len, heldL_len]) fun j h1 h2 => ?_
  have g : ∀ (cs : List (Nat × Int)) (hj : j < ((heldL n cs).map PyData.int).length), ((heldL n cs).map PyData.int)[j] = .int (cellSum cs j) := fun cs hj => by simp [heldL]
  rw [List.getElem_set, g, g, cellSum_app, cellSum_one]
  by_cases e : i = j
  · subst e; rw [if_pos rfl, if_pos rfl]
  · rw [if_neg e, if_neg fun q => e q.symm]; simp
theorem cellSum_le {cs : List (Nat × Int)} {b : Int} (h : ∀ c ∈ cs, 0 ≤ c.2 ∧ c.2 ≤ b) (hb : 0 ≤ b) (k : Nat) : 0 ≤ cellSum cs k ∧ cellSum cs k ≤ b * cs.length := by
  induction cs with
  | nil => exact ⟨Int.le_refl _, by show (0 : Int) ≤ b * 0; omega⟩
  | cons c r ih =>
    have ih := ih fun d hd => h d (List.mem_cons_of_mem _ hd)
    have hc := h c (List.mem_cons_self ..)
    have e : cellSum (c :: r) k = cellSum [c] k + cellSum r k := cellSum_app [c] r k
    have e1 := cellSum_one c.1 c.2 k
    rw [e, show [c] = [(c.1, c.2)] from rfl, e1, List.length_cons]
    have : b * ((r.length + 1 : Nat) : Int) = b * (r.length : Int) + b := by rw [Int.natCast_add, Int.mul_add]; simp
    split <;> omega
theorem heldL_le {n : Nat} {cs : List (Nat × Int)} {b : Int} (h : ∀ c ∈ cs, 0 ≤ c.2 ∧ c.2 ≤ b) (hb : 0 ≤ b) : ∀ x ∈ heldL n cs, 0 ≤ x ∧ x ≤ b * cs.length := fun x hx => by
  obtain ⟨k, _, rfl⟩ := List.mem_map.mp hx
  exact cellSum_le h hb k
section
variable {rs : List (Str × Int × Bool)} {ks : List Kd}
/-- a claim, its room by number -/
def ic (rs : List (Str × Int × Bool)) (c : Str × Int) : Nat × Int := (ixOf (rs.map (·.1)) c.1, c.2)
abbrev heldF (rs : List (Str × Int × Bool)) (cs : List (Str × Int)) : List Int := heldL rs.length (cs.map (ic rs))
theorem ixD_ic (cs : List (Str × Int)) : cs.map (ixD rs) = (cs.map (ic rs)).map icD := by rw [List.map_map]; rfl
theorem ix_lt (h : (z : Str) ∈ rs.map (·.1)) : ixOf (rs.map (·.1)) z < rs.length := by
  have := (List.getElem?_eq_some_iff.mp (nth_ix h).1).1
  rw [List.length_map] at this
  exact this
theorem names_fine (P : PoolOk rs ks) : Fine 1 4100 (.list (rs.map fun r => .str r.1)) := by
  have hs : ∀ z ∈ rs.map (·.1), PyData.strOk z = true ∧ z.length ≤ 20 := fun z hz => by
    obtain ⟨r, hr, rfl⟩ := List.mem_map.mp hz
    exact ⟨(P.rok r hr).1, (P.rok r hr).2.1⟩
  have := strs_fine hs (by rw [List.length_map]; have := P.rl; omega)
  rw [List.map_map] at this
  exact this
theorem name_fine (P : PoolOk rs ks) {z : Str} (h : z ∈ rs.map (·.1)) : Fine 0 40 (.str z) := by
  obtain ⟨r, hr, rfl⟩ := List.mem_map.mp h
  exact fin_str (P.rok r hr).1 (by have := (P.rok r hr).2.1; omega)
theorem idx_ex {z : Str} (h : z ∈ rs.map (·.1)) {R : Nat → Prop} (q : R (ixOf (rs.map (·.1)) z)) : ∃ (j : Nat) (d : PyData), (rs.map fun r => PyData.str r.1)[j]? = some d ∧ PyData.eqv d (.str z) = true ∧
    (∀ (m : Nat) (z' : PyData), m < j → (rs.map fun r => PyData.str r.1)[m]? = some z' → PyData.eqv z' (.str z) = false) ∧ R j := by
  obtain ⟨n1, n2⟩ := nth_ix h
  refine ⟨ixOf (rs.map (·.1)) z, .str z, ?_, by rw [eqv_str]; simp, fun m z' hm hz' => ?_, q⟩
  · rw [show (rs.map fun r => PyData.str r.1) = (rs.map (·.1)).map .str from (List.map_map ..).symm, List.getElem?_map, n1]; rfl
  · rw [show (rs.map fun r => PyData.str r.1) = (rs.map (·.1)).map .str from (List.map_map ..).symm, List.getElem?_map] at hz'
    cases e : (rs.map (·.1))[m]? with
    | none => rw [e] at hz'; cases hz'
    | some y =>
      rw [e] at hz'
      obtain rfl : PyData.str y = z' := Option.some.inj hz'
      rw [eqv_str, decide_eq_false fun q => n2 m hm (by rw [e, q])]
theorem held_bd {cs : List (Str × Int)} (h : ∀ c ∈ cs, 1 ≤ c.2 ∧ c.2 ≤ 9) (hl : cs.length ≤ 100) : ∀ x ∈ heldF rs cs, 0 ≤ x ∧ x ≤ 900 := fun x hx => by
  have := heldL_le (b := 9) (cs := cs.map (ic rs)) (fun c hc => by
    obtain ⟨d, hd, rfl⟩ := List.mem_map.mp hc
    have := h d hd
    show 0 ≤ d.2 ∧ d.2 ≤ 9
    omega) (by decide) x hx
  rw [List.length_map] at this
  omega
theorem vec_fine' {v : List Int} (h : ∀ x ∈ v, -2000 ≤ x ∧ x ≤ 2000) (hl : v.length ≤ 12) : Fine 1 156 (vecD v) :=
  vec_fine (n := 12) (w := 12) (by decide) (fun i hi => by have := h i hi; show i.natAbs < 4096; omega) hl
theorem held_fine (P : PoolOk rs ks) {cs : List (Str × Int)} (h : ∀ c ∈ cs, 1 ≤ c.2 ∧ c.2 ≤ 9) (hl : cs.length ≤ 100) : Fine 1 156 (vecD (heldF rs cs)) :=
  vec_fine' (fun x hx => by have := held_bd h hl x hx; omega) (by rw [heldL_len]; exact P.rl)
end
end DL

/-! DL: steps for errors without fields, several clauses, lambdas handed over. -/
namespace DL
open PySem
section
variable {X : XW} {r : Env} {nx : Env → Prop} {rt : DV → Prop} {bk ct : Env → Prop} {ex : XW}
theorem v_sRaise0 {x} (h : ex ⟨x, []⟩ r) : sRaise0 x ⟨nx, rt, bk, ct, ex⟩ r := h
def onMx (ms : List CM) (rt : DV → Prop) (ex : XW) : XW := fun er r1 => slotsIn ms r1 ∧ hsel ms er rt fun e => ex e r1
theorem v_sTryM {ms p} (q : p ⟨nx, rt, bk, ct, onMx ms rt ex⟩ r) : sTryM ms p ⟨nx, rt, bk, ct, ex⟩ r := q
def onLx (ms : List CM) (Q : DV → Env → Prop) (r2 : Env) : XW := fun er _ => hsel ms er (fun dv => Q dv r2) fun _ => False
def onLv (told : Str) (Q : DV → Env → Prop) (r2 : Env) : DV → Env → Prop := fun dv _ => match dv.toD with
  | some d => Q (.dat (.tuple [.str told, d])) r2
  | none => False
theorem v_xLam {told ms vs} {f : TX} {r2 r3 : Env} {Q : DV → Env → Prop} (e1 : frz r vs = r2) (e2 : bare r2 = r3) (h : f (onLx ms Q r2) r3 (onLv told Q r2)) : xLam told ms vs f X r Q := by
  subst e1 e2; exact h
theorem v_onLv {told r2 r' dv d} {Q : DV → Env → Prop} (e : dv.toD = some d) (h : Q (.dat (.tuple [.str told, d])) r2) : onLv told Q r2 dv r' := by
  unfold onLv; rw [e]; exact h
theorem v_onLx {ms er r2 r'} {Q : DV → Env → Prop} (h : hsel ms er (fun dv => Q dv r2) fun _ => False) : onLx ms Q r2 er r' := h
theorem v_hselT {m : CM} {ms er} {Q : DV → Prop} {E : Err → Prop} (e : m.cs.lookup er.cls = some true) (h : m.h er Q) : hsel (m :: ms) er Q E := by
  unfold hsel; rw [e]; exact h
theorem v_hselF {m : CM} {ms er} {Q : DV → Prop} {E : Err → Prop} (e : m.cs.lookup er.cls = some false) (h : hsel ms er Q E) : hsel (m :: ms) er Q E := by
  unfold hsel; rw [e]; exact h
theorem v_intB {b : Bool} {Q : DV → Prop} (h : Q (.dat (.int (if b then 1 else 0)))) : nInt [.bool b] Q := h
theorem v_hIfT {cs : List (Str × Bool)} {h1 h2 : SH} {er : Err} {Q : DV → Prop} (e : cs.lookup er.cls = some true) (h : h1 er Q) : hIf cs h1 h2 er Q := by unfold hIf; rw [e]; exact h
theorem v_hIfF {cs : List (Str × Bool)} {h1 h2 : SH} {er : Err} {Q : DV → Prop} (e : cs.lookup er.cls = some false) (h : h2 er Q) : hIf cs h1 h2 er Q := by unfold hIf; rw [e]; exact h
theorem v_hRetC {ds er} {Q : DV → Prop} (h : ds.length ≤ 16777216 ∧ Q (.dat (.tuple ds))) : hRetC ds er Q := h
end
end DL

/-! DL: one of a tuple's parts; a list left empty by a test. -/
namespace DL
open PySem
section
variable {r : Env} {nx : Env → Prop} {rt : DV → Prop} {bk ct : Env → Prop} {ex : XW}
/-- loops whose body never breaks: what stands behind the loop is out of sight in the body's goal -/
theorem forL_mapN {g : TG} {b : TS} {α : Type} {xs : List α} (F : α → PyData) (I : List α → Env → Prop) (h0 : I [] r) (s : ∀ pre x post r (k bk' : Env → Prop), xs = pre ++ x :: post → I pre r → (∀ r', I (pre ++ [x]) r' → k r') → g (.dat (F x)) r fun r1 => b ⟨k, rt, bk', k, ex⟩ r1) (f : ∀ r, I xs r → nx r) : forL g b ⟨nx, rt, bk, ct, ex⟩ (xs.map F) r :=
  forL_map F I h0 (fun pre x post r k e hI hk => s pre x post r k nx e hI hk) f
theorem forL_ivN {g : TG} {b : TS} {ds : List PyData} (I : Nat → Env → Prop) (h0 : I 0 r) (s : ∀ i x r (k bk' : Env → Prop), ds[i]? = some x → I i r → (∀ r', I (i + 1) r' → k r') → g (.dat x) r fun r1 => b ⟨k, rt, bk', k, ex⟩ r1) (f : ∀ r, I ds.length r → nx r) : forL g b ⟨nx, rt, bk, ct, ex⟩ ds r :=
  forL_iv I h0 (fun i x r k e hI hk => s i x r k nx e hI hk) f
end
section
local macro_rules | `(tactic| walk_at "dl1") => `(tactic| first
  | ((with_reducible refine v_oE ?_))
  | ((with_reducible apply v_on1); (focus exact rfl))
  | ((with_reducible refine v_xB ?_))
  | ((with_reducible apply v_oV); (focus exact rfl))
  | ((with_reducible apply v_on2); (focus exact rfl); (focus exact rfl))
  | ((with_reducible apply v_gN); (focus ((repeat (first | exact p_z | apply p_s)))))
  | ((with_reducible refine v_xC ?_))
  | ((with_reducible apply v_xVarD); (focus exact rfl))
  | ((with_reducible refine v_sSeq ?_))
  | ((with_reducible refine v_sAsg ?_))
  | ((with_reducible refine v_sIf ?_))
  | ((with_reducible refine v_bX ?_))
  | ((with_reducible refine v_onB ?_))
  | ((with_reducible refine v_oCons ?_))
  | ((with_reducible refine v_oNil ?_))
  | ((with_reducible refine v_aCons ?_))
  | ((with_reducible refine v_argD ?_))
  | ((with_reducible refine v_argB ?_))
  | ((with_reducible refine v_argO ?_))
  | ((with_reducible refine v_aNil ?_))
  | ((with_reducible refine v_xCB ?_))
  | ((with_reducible apply v_onL); (focus exact rfl))
  | ((with_reducible refine v_xCall ?_))
  | ((with_reducible refine v_xU ?_))
  | ((with_reducible refine v_xAnd ?_))
  | ((with_reducible refine v_xOr ?_))
  | ((with_reducible refine v_xNot ?_))
  | ((with_reducible refine v_xTup ?_))
  | ((with_reducible refine v_xLst ?_))
  | ((with_reducible refine v_xIf ?_))
  | ((with_reducible refine v_bO ?_))
  | ((with_reducible refine v_bAnd ?_))
  | ((with_reducible refine v_bOr ?_))
  | ((with_reducible refine v_bNot ?_))
  | ((with_reducible refine v_bYes ?_))
  | ((with_reducible refine v_wX ?_))
  | ((with_reducible refine v_wRange1 ?_))
  | ((with_reducible refine v_wRange2 ?_))
  | ((with_reducible refine v_gsN ?_))
  | ((with_reducible refine v_gsC ?_))
  | ((with_reducible refine v_pNo ?_))
  | ((with_reducible refine v_pSome ?_))
  | ((with_reducible refine v_xCut ?_))
  | ((with_reducible refine v_xLc ?_))
  | ((with_reducible refine v_sNext ?_))
  | ((with_reducible refine v_sPar ?_))
  | ((with_reducible refine v_sDrop ?_))
  | ((with_reducible refine v_sRet ?_))
  | ((with_reducible refine v_sRetN ?_))
  | ((with_reducible refine v_sBrk ?_))
  | ((with_reducible refine v_sCnt ?_))
  | ((with_reducible refine v_sFor ?_))
  | ((with_reducible refine v_ifT ?_))
  | ((with_reducible refine v_ifF ?_))
  | ((with_reducible refine v_onCmp ?_))
  | ((with_reducible refine v_xCh ?_))
  | ((with_reducible refine v_addI ?_))
  | ((with_reducible refine v_subI ?_))
  | ((with_reducible refine v_eqI ?_))
  | ((with_reducible refine v_neShown (by assumption) ?_))
  | ((with_reducible refine v_eqShown (by assumption) ?_))
  | ((with_reducible refine v_neI ?_))
  | ((with_reducible refine v_is ?_))
  | ((with_reducible refine v_isNot ?_))
  | ((with_reducible refine v_ltI ?_))
  | ((with_reducible refine v_leI ?_))
  | ((with_reducible refine v_gtI ?_))
  | ((with_reducible refine v_geI ?_))
  | ((with_reducible refine v_addT ?_))
  | ((with_reducible refine v_addL ?_))
  | ((with_reducible refine v_addS ?_))
  | ((with_reducible refine v_mulI ?_))
  | ((with_reducible refine v_mulT ?_))
  | ((with_reducible refine v_mulL ?_))
  | ((with_reducible refine v_div ?_))
  | ((with_reducible refine v_mod ?_))
  | ((with_reducible refine v_pow ?_))
  | ((with_reducible refine v_neg ?_))
  | ((with_reducible refine v_eq ?_))
  | ((with_reducible refine v_ne ?_))
  | ((with_reducible refine v_ixL ?_))
  | ((with_reducible refine v_ixT ?_))
  | ((with_reducible refine v_cutL ?_))
  | ((with_reducible refine v_cutT ?_))
  | ((with_reducible refine v_cutS ?_))
  | ((with_reducible refine v_lenL ?_))
  | ((with_reducible refine v_lenT ?_))
  | ((with_reducible refine v_lenS ?_))
  | ((with_reducible refine v_repr ?_))
  | ((with_reducible refine v_tupL ?_))
  | ((with_reducible refine v_tupT ?_))
  | ((with_reducible refine v_lstL ?_))
  | ((with_reducible refine v_lstT ?_))
  | ((with_reducible refine v_intI ?_))
  | ((with_reducible refine v_abs ?_))
  | ((with_reducible refine v_maxI ?_))
  | ((with_reducible refine v_minI ?_))
  | ((with_reducible refine v_dInt ?_))
  | ((with_reducible apply v_tB); (focus exact rfl))
  | ((with_reducible apply v_tI); (focus exact rfl))
  | ((with_reducible apply v_tL); (focus exact rfl))
  | ((with_reducible apply v_tT); (focus exact rfl))
  | ((with_reducible apply v_tN); (focus exact rfl))
  | ((with_reducible apply v_tS); (focus exact rfl))
  | (with_reducible refine v_ifN ?_)
  | (with_reducible refine v_ifNonT ?_)
  | (with_reducible refine v_ifNonI ?_)
  | (with_reducible refine v_ifNonT' ?_)
  | ((with_reducible apply v_onI); (focus exact rfl))
  | ((with_reducible apply v_onX); (focus exact rfl))
  | ((with_reducible apply v_xVarB); (focus exact rfl))
  | ((with_reducible apply v_gT); (focus exact rfl))
  | ((with_reducible apply v_sAug); (focus exact rfl))
  | ((with_reducible apply v_lc); (focus ((try simp only [clrs, putO, put]); exact rfl)))
  | ((with_reducible apply v_cl2); (focus ((try simp only [clrs, putO, put]); exact rfl)))
  | ((with_reducible apply v_bk2); (focus ((try simp only [back, putO, put, sl]); exact rfl)))
  | ((with_reducible apply v_xApp); (focus exact rfl))
  | ((with_reducible apply v_xMt); (focus exact rfl))
  | ((with_reducible apply v_onLO); (focus exact rfl); (focus exact rfl))
  | ((with_reducible refine v_mExt ?_))
  | ((with_reducible apply v_onO); (focus exact rfl))
  | ((with_reducible apply v_xVarO); (focus exact rfl); (focus ((repeat (first | exact p_z | apply p_s)))))
  | ((with_reducible apply v_xMv); (focus exact rfl); (focus ((repeat (first | exact p_z | apply p_s)))))
  | ((with_reducible apply v_onII); (focus exact rfl); (focus exact rfl))
  | ((with_reducible apply v_onDO); (focus exact rfl); (focus exact rfl))
  | ((with_reducible apply v_on3); (focus exact rfl); (focus exact rfl); (focus exact rfl))
  | ((with_reducible refine v_argN ?_))
  | ((with_reducible refine v_tupN ?_))
  | ((with_reducible refine v_wZip ?_))
  | ((with_reducible refine v_avN ?_))
  | ((with_reducible refine v_avC ?_))
  | ((with_reducible refine v_sMul ?_))
  | ((with_reducible refine v_gAllN ?_))
  | ((with_reducible refine v_gAllC ?_))
  | ((with_reducible refine v_xDIn ?_))
  | ((with_reducible refine v_xDNew ?_))
  | ((with_reducible refine v_sDPut ?_))
  | ((with_reducible refine v_xLIdx ?_))
  | ((with_reducible refine v_onSs ?_))
  | ((with_reducible apply v_xDGet); (focus exact rfl))
  | ((with_reducible apply v_exD); (focus exact rfl))
  | ((with_reducible apply v_exL); (focus exact rfl))
  | ((with_reducible apply v_xVarN); (focus exact rfl))
  | ((with_reducible apply v_xTIdx); (focus exact rfl))
  | ((with_reducible apply v_onTT); (focus exact rfl))
  | ((with_reducible apply v_onTTl); (focus exact rfl))
  | ((with_reducible apply v_onDc); (focus exact rfl); (focus exact rfl))
  | ((with_reducible apply v_onSN); (focus exact rfl); (focus exact rfl))
  | ((with_reducible apply v_onLD); (focus exact rfl); (focus exact rfl))
  | ((with_reducible refine v_xDOne ?_ ?_); (focus (intro z; cases z)))
  | ((with_reducible apply v_xLcO); (focus exact rfl); (focus ((repeat (first | exact p_z | apply p_s)))))
  | ((with_reducible apply v_bk3); (focus ((try simp only [back, putO, put, sl]); exact rfl)))
  | ((with_reducible refine v_own1 ?_ ?_); (focus (intro _ e; first | (cases e; done) | (cases e; rfl))))
  | ((with_reducible refine v_own2 ?_ ?_ ?_); (focus (intro _ e; first | (cases e; done) | (cases e; rfl))); (focus (intro _ e; first | (cases e; done) | (cases e; rfl))))
  | ((with_reducible refine v_sRaise ?_))
  | ((with_reducible refine v_sTry ?_))
  | ((with_reducible apply v_onEx); (focus exact rfl); (focus (simp only [List.length_cons, List.length_nil]; omega)))
  | ((with_reducible apply v_onExF); (focus exact rfl))
  | ((with_reducible refine v_hRetT ?_))
  | ((with_reducible refine v_hNil ?_))
  | ((with_reducible refine v_hCons ?_))
  | ((with_reducible refine v_hC ?_))
  | ((with_reducible apply v_hF); (focus exact rfl); (focus exact rfl))
  | ((with_reducible apply v_onTLt); (focus exact rfl))
  | ((with_reducible apply v_onTLl); (focus exact rfl))
  | ((with_reducible refine v_aStar ?_))
  | ((with_reducible apply v_onLA); (focus exact rfl))
  | ((with_reducible refine v_xLc2 ?_))
  | ((with_reducible refine v_sSetI ?_))
  | ((with_reducible refine v_sAugI ?_))
  | ((with_reducible apply v_exO); (focus exact rfl))
  | ((with_reducible apply v_onIO); (focus exact rfl); (focus exact rfl))
  | ((with_reducible apply v_xDGet2); (focus exact rfl))
  | ((with_reducible apply v_onDD); (focus exact rfl); (focus exact rfl); (focus exact rfl))
  | ((with_reducible apply v_xDSetd); (focus exact rfl))
  | ((with_reducible refine v_mulII ?_))
  | ((with_reducible refine v_isTy ?_))
  | ((with_reducible refine v_inL ?_))
  | ((with_reducible refine v_notInL ?_))
  | ((with_reducible refine v_inS ?_))
  | ((with_reducible refine v_notInS ?_))
  | ((with_reducible refine v_sRaise0 ?_))
  | ((with_reducible refine v_sTryM ?_))
  | ((with_reducible apply v_xLam); (focus ((try simp only [frz, frz1, sl, put]); exact rfl)); (focus ((try simp only [bare, List.map_cons, List.map_nil, bareO]); exact rfl)))
  | ((with_reducible apply v_onLv); (focus exact rfl))
  | ((with_reducible refine v_onLx ?_))
  | ((with_reducible refine v_hRetC ?_))
  | ((with_reducible refine v_intB ?_))
  | ((with_reducible apply v_hIfT); (focus exact rfl))
  | ((with_reducible apply v_hIfF); (focus exact rfl))
  | (with_reducible refine And.intro (Fine.repr (by assumption) (by decide) (by decide)) ?_)
  | (with_reducible refine And.intro (Fine.ok (by assumption) (by decide)) ?_)
  | (with_reducible refine And.intro (Fine.okS (by assumption)) ?_)
  | ((with_reducible refine And.intro ?_ ?_); (focus (first | omega | exact (by decide) | (simp only [List.length_cons, List.length_nil, List.length_map, List.length_range, rangeL_len] <;> omega) | (simp only [List.length_cons, List.length_nil, List.length_append, List.length_map, List.length_range, rangeL_len] <;> omega) | exact Or.inl ⟨by omega, by omega⟩ | exact Or.inr (Or.inl ⟨by omega, by omega⟩)))))
local macro_rules | `(tactic| walk_at "dl") => `(tactic| repeat (walk_at "dl1"))
local macro_rules | `(tactic| walk_at "fn") => `(tactic| simp only [fnSpec, List.map_cons, List.map_nil, List.length_cons, List.length_nil, List.replicate, List.cons_append, List.nil_append, Nat.reduceAdd, Nat.reduceSub, List.replicate_succ, List.replicate_zero])
local macro_rules | `(tactic| walk_at "fine") => `(tactic| repeat (first | assumption | exact fin_none0 | exact fin_bool0 | exact fins_nil | (with_reducible refine fins_cons ?_ ?_) | (with_reducible refine fin_tup ?_) | (with_reducible refine fin_lst ?_) | exact fin_int0 (by omega) | exact fin_lit _))
theorem some_okT {xs : List PyData} (h0 : 0 < xs.length) (h1 : xs.length < 2 ^ 30) {Q : DV → Prop} {E : Err → Prop} (q : ∀ x ∈ xs, Q (.dat x)) :
    fnSpec 2 (sRet (xB dIx (oV 1) (oE (xCall takeS (aCons (xVar 0) (aCons (xCB nLen (oCons (oV 1) oNil)) aNil)))))) [.bag, .dat (.tuple xs)] Q E := by
  walk_at "fn"
  walk_at "dl"
  refine take_ok (by omega) (by omega) fun k hk0 hk1 => ?_
  walk_at "dl"
  obtain ⟨j, rfl⟩ := Int.eq_ofNat_of_zero_le hk0
  have hj : j < xs.length := by omega
  rw [L2.atI_nat (List.getElem?_eq_getElem hj)]
  exact q _ (List.getElem_mem hj)
theorem zip_next {F : Nat → PyData} (n : Nat) : zipD ((List.range n).map F) (((List.range n).drop 1).map F) = (List.range (n - 1)).map fun i => .tuple [F i, F (i + 1)] := by
  cases n with
  | zero => rfl
  | succ n =>
    rw [List.range_succ_eq_map, List.drop_succ_cons, List.drop_zero, ← List.range_succ_eq_map, List.range_succ]
    unfold zipD
    rw [List.map_append, List.map_map, ← List.append_nil ((List.range n).map (F ∘ Nat.succ)), List.zip_append (by simp), List.zip_map', List.map_append, List.zip_nil_right, List.map_nil, List.append_nil, Nat.add_sub_cancel, List.map_map]
    rfl
theorem flt_noneG {α : Type} {xs : List α} {p q : α → Bool} {G : α → PyData} (h : ∀ x ∈ xs, p x = !q x) : PyData.eqv (.list ((xs.filter p).map G)) (.list []) = xs.all q := by
  induction xs with
  | nil => rfl
  | cons x xs ih =>
    have hx := h x (List.mem_cons_self ..)
    have ih := ih fun y hy => h y (List.mem_cons_of_mem _ hy)
    cases e : q x with
    | true =>
      rw [e] at hx
      rw [List.filter_cons_of_neg (by rw [hx]; decide), ih, List.all_cons, e, Bool.true_and]
    | false =>
      rw [e] at hx
      rw [List.filter_cons_of_pos (by rw [hx]; decide), List.all_cons, e, Bool.false_and]
      rfl
end
end DL

/-! DL: steps for `in` over data, sorted; dicts that grow by first values. -/
namespace DL
open PySem
section
variable {X : XW} {r : Env} {x : D} {ds : List D} {Q : DV → Prop}
theorem v_inL (h : okD x ∧ okD (.list ds) ∧ Q (.dat (.bool (isIn x ds)))) : dIn4 x (.list ds) Q := .inr h
theorem v_notInL (h : okD x ∧ okD (.list ds) ∧ Q (.dat (.bool (!isIn x ds)))) : dNotIn4 x (.list ds) Q := .inr h
theorem v_inT (h : okD x ∧ okD (.tuple ds) ∧ Q (.dat (.bool (isIn x ds)))) : dIn4 x (.tuple ds) Q := .inl ⟨ds, rfl, h.1, h.2.1, h.2.2⟩
theorem v_notInT (h : okD x ∧ okD (.tuple ds) ∧ Q (.dat (.bool (!isIn x ds)))) : dNotIn4 x (.tuple ds) Q := .inl ⟨ds, rfl, h.1, h.2.1, h.2.2⟩
theorem v_inF (h1 : flatD x = true) (h2 : ds.all flatD = true) (h : Q (.dat (.bool (isIn x ds)))) : dIn4 x (.tuple ds) Q := .inr ⟨h1, h2, h⟩
theorem v_notInF (h1 : flatD x = true) (h2 : ds.all flatD = true) (h : Q (.dat (.bool (!isIn x ds)))) : dNotIn4 x (.tuple ds) Q := .inr ⟨h1, h2, h⟩
theorem v_wEnum {f : TX} {Q : List D → Env → Prop} (h : f X r fun dv r1 => onTL dv.toD fun xs => Q (enumD xs) r1) : wEnum f X r Q := h
theorem v_inS {a b : Str} (h : Q (.dat (.bool (occurs a b)))) : dIn4 (.str a) (.str b) Q := .inr h
theorem v_notInS {a b : Str} (h : Q (.dat (.bool (!occurs a b)))) : dNotIn4 (.str a) (.str b) Q := .inr h
theorem v_sortA {ss : List Str} (hl : ss.length < 64) (h : ∀ ys : List Str, ys.Perm ss → PyProof.Rows.sortedS ys = true → Q (.own (ys.map .str))) : nSortA [.list (ss.map .str)] Q := .inr (v_sortS hl h)
theorem v_sortI {ns : List Int} (h : ∀ ys : List Int, ys.Perm ns → ys.Pairwise (· ≤ ·) → Q (.own (ys.map .int))) : nSortA [.list (ns.map .int)] Q := .inl ⟨ns, rfl, h⟩
theorem v_sortIt {i : Nat} {ss : List (Str × D)} {Q : DV → Env → Prop} (b : Bool) (e : sl r i = some (.dct false (ss.map kvD))) (hs : ∀ p ∈ ss, shapeD b p.2) (h : ∀ ys : List (Str × D), ys.Perm ss → ys.Pairwise (fun e f => ¬ f.1.cps.toList < e.1.cps.toList) → (ss.map (·.1)).Nodup → Q (.own (ys.map prD)) r) : xSortIt i X r Q := ⟨ss, b, e, hs, h⟩
/-- two sorted lists of the same pairs, no key twice, are one -/
theorem sort_one {ss ys zs : List (Str × D)} (hn : (ss.map (·.1)).Nodup) (p1 : ys.Perm ss) (s1 : ys.Pairwise (fun e f => ¬ f.1.cps.toList < e.1.cps.toList)) (p2 : zs.Perm ss) (s2 : zs.Pairwise (fun e f => ¬ f.1.cps.toList < e.1.cps.toList)) : ys = zs := by
  refine List.Perm.eq_of_pairwise (le := fun e f : Str × D => ¬ f.1.cps.toList < e.1.cps.toList) ?_ s1 s2 (p1.trans p2.symm)
  intro a b ha hb h1 h2
  have e : a.1 = b.1 := PyProof.Rows.ext_toList (List.le_antisymm (List.not_lt.mp h1) (List.not_lt.mp h2))
  have ma := p1.mem_iff.mp ha
  have mb := p2.mem_iff.mp hb
  obtain ⟨i, hi, ei⟩ := List.getElem_of_mem ma
  obtain ⟨j, hj, ej⟩ := List.getElem_of_mem mb
  have : i = j := by
    refine (List.getElem?_inj (l := ss.map (·.1)) (by rw [List.length_map]; exact hi) hn).mp ?_
    rw [List.getElem?_map, List.getElem?_map, List.getElem?_eq_getElem hi, List.getElem?_eq_getElem hj, ei, ej]
    exact congrArg some e
  subst this
  rw [← ei, ← ej]
end
/-! ### dicts that keep what came first -/
def put1 (m : List (Str × D)) (p : Str × D) : List (Str × D) := if (m.any fun q => decide (q.1 = p.1)) = true then m else m ++ [p]
def firsts (l : List (Str × D)) : List (Str × D) := l.foldl put1 []
def look1 (m : List (Str × D)) (t : Str) : Option D := (m.find? fun q => decide (q.1 = t)).map (·.2)
theorem firsts_snoc (l : List (Str × D)) (p : Str × D) : firsts (l ++ [p]) = put1 (firsts l) p := by unfold firsts; rw [List.foldl_append]; rfl
theorem key_dec (a b : Str) : decide (keyD (.str a) = keyD (.str b)) = decide (a = b) := by
  by_cases h : a = b
  · subst h; simp
  · rw [decide_eq_false h, decide_eq_false]
    intro e
    exact h (Sum.inr.inj (Option.some.inj e))
theorem lookD_kv : ∀ (m : List (Str × D)) (t : Str), lookD (m.map kvD) (.str t) = look1 m t
  | [], _ => rfl
  | p :: m, t => by
    unfold lookD look1
    rw [List.map_cons, List.find?_cons, List.find?_cons, show decide (keyD (kvD p).1 = keyD (.str t)) = decide (p.1 = t) from key_dec _ _]
    by_cases h : p.1 = t
    · rw [decide_eq_true h]; rfl
    · rw [decide_eq_false h]; exact lookD_kv m t
theorem look1_none {m : List (Str × D)} {t : Str} : look1 m t = none ↔ (m.any fun q => decide (q.1 = t)) = false := by
  induction m with
  | nil => exact ⟨fun _ => rfl, fun _ => rfl⟩
  | cons p m ih =>
    unfold look1 at ih ⊢
    rw [List.find?_cons, List.any_cons]
    by_cases h : p.1 = t
    · rw [decide_eq_true h]; simp
    · rw [decide_eq_false h, Bool.false_or]; exact ih
theorem any_kv (m : List (Str × D)) (t : Str) : ((m.map kvD).any fun p => decide (keyD p.1 = keyD (.str t))) = m.any fun q => decide (q.1 = t) := by
  induction m with
  | nil => rfl
  | cons p m ih => rw [List.map_cons, List.any_cons, List.any_cons, ih, show decide (keyD (kvD p).1 = keyD (.str t)) = decide (p.1 = t) from key_dec _ _]
theorem putD_new {m : List (Str × D)} {t : Str} {d : D} (h : look1 m t = none) : putD (m.map kvD) (.str t) d = (put1 m (t, d)).map kvD := by
  have h2 := look1_none.mp h
  unfold putD put1
  rw [any_kv, h2, if_neg (by decide), if_neg (by decide), List.map_append]
  rfl
theorem putD_same : ∀ {m : List (Str × D)} {t : Str} {d : D}, (m.map (·.1)).Nodup → look1 m t = some d → (m.map kvD).map (fun p => if keyD p.1 = keyD (.str t) then (p.1, d) else p) = m.map kvD
  | [], _, _, _, _ => rfl
  | p :: m, t, d, hn, h => by
    rw [List.map_cons, List.nodup_cons] at hn
    rw [List.map_cons, List.map_cons]
    unfold look1 at h
    rw [List.find?_cons] at h
    by_cases e : p.1 = t
    · rw [decide_eq_true e] at h
      cases h
      rw [if_pos (by rw [show (kvD p).1 = .str p.1 from rfl, e])]
      congr 1
      rw [List.map_map]
      refine List.map_congr_left fun q hq => ?_
      refine if_neg fun z => hn.1 ?_
      have : q.1 = t := Sum.inr.inj (Option.some.inj z)
      rw [e, ← this]
      exact List.mem_map.mpr ⟨q, hq, rfl⟩
    · rw [decide_eq_false e] at h
      rw [if_neg (fun z : keyD (kvD p).1 = keyD (.str t) => e (Sum.inr.inj (Option.some.inj z))), putD_same hn.2 h]
theorem putD_old {m : List (Str × D)} {t : Str} {d d' : D} (hn : (m.map (·.1)).Nodup) (h : look1 m t = some d) : putD (m.map kvD) (.str t) d = (put1 m (t, d')).map kvD := by
  have h2 : (m.any fun q => decide (q.1 = t)) = true := by
    cases e : m.any fun q => decide (q.1 = t) with
    | true => rfl
    | false => rw [look1_none.mpr e] at h; cases h
  unfold putD put1
  rw [any_kv, h2, if_pos rfl, if_pos rfl]
  exact putD_same hn h
theorem put1_old {m : List (Str × D)} {t : Str} {d d' : D} (h : look1 m t = some d) : put1 m (t, d') = m := by
  unfold put1
  refine if_pos ?_
  cases e : m.any fun q => decide (q.1 = t) with
  | true => rfl
  | false => rw [look1_none.mpr e] at h; cases h
theorem put1_nodup {m : List (Str × D)} {p : Str × D} (h : (m.map (·.1)).Nodup) : ((put1 m p).map (·.1)).Nodup := by
  unfold put1
  split
  · exact h
  · rename_i hn
    rw [List.map_append, List.nodup_append]
    refine ⟨h, by simp, fun a ha b hb => ?_⟩
    rw [List.map_singleton, List.mem_singleton] at hb
    subst hb
    intro e
    subst e
    apply hn
    obtain ⟨q, hq, e⟩ := List.mem_map.mp ha
    exact List.any_eq_true.mpr ⟨q, hq, decide_eq_true e⟩
theorem firsts_nodup (l : List (Str × D)) : ((firsts l).map (·.1)).Nodup := by
  induction l using snoc_ind with
  | h0 => exact .nil
  | h1 l p ih => rw [firsts_snoc]; exact put1_nodup ih
theorem firsts_sub (l : List (Str × D)) : ∀ p ∈ firsts l, p ∈ l := by
  induction l using snoc_ind with
  | h0 => intro p h; cases h
  | h1 l p ih =>
    intro q hq
    rw [firsts_snoc] at hq
    unfold put1 at hq
    split at hq
    · exact List.mem_append_left _ (ih q hq)
    · rcases List.mem_append.mp hq with h | h
      · exact List.mem_append_left _ (ih q h)
      · exact List.mem_append_right _ h
theorem firsts_len (l : List (Str × D)) : (firsts l).length ≤ l.length := by
  induction l using snoc_ind with
  | h0 => exact Nat.le_refl _
  | h1 l p ih =>
    rw [firsts_snoc, List.length_append]
    unfold put1
    split
    · omega
    · rw [List.length_append]; simp; omega
theorem firsts_pre (l : List (Str × D)) (m : List (Str × D)) : ∀ p ∈ firsts l, p ∈ firsts (l ++ m) := by
  induction m using snoc_ind with
  | h0 => intro p h; rw [List.append_nil]; exact h
  | h1 m q ih =>
    intro p h
    rw [← List.append_assoc, firsts_snoc]
    unfold put1
    split
    · exact ih p h
    · exact List.mem_append_left _ (ih p h)
end DL

namespace DL.LW
open PySem DL
def m_decided : TS :=
  (sSeq (sAsg (gN 1) xDNew)
  (sSeq (sFor (wX (xVar 0)) (gT [(gN 2), (gN 3)]) (sDrop (xDSetd 1 (oV 2) (xVar 3))))
  (sRet (xCB nTuple (oCons (oE (xSortIt 1)) oNil)))))
def p_decided : Spec := fnSpec 4 m_decided
def m_answers : TS :=
  (sSeq (sPar 1 2 xDNew (xLst aNil))
  (sSeq (sFor (wEnum (xVar 0)) (gT [(gN 3), (gT [(gN 4), (gN 5)])]) (sSeq (sDrop (xApp 2 (xIf (bX (xDIn false 1 (oV 4))) (xTup (aCons (xC (.str "late")) (aCons (xDGet 1 (oV 4)) aNil))) (xTup (aCons (xC (.str "decides")) aNil)))))
  (sDrop (xDSetd 1 (oV 4) (xVar 3)))))
  (sRet (xCB nTuple (oCons (oV 2) oNil)))))
def p_answers : Spec := fnSpec 6 m_answers
def m_log_by : TS :=
  (sSeq (sPar 2 3 (xB dMul (oE (xLst (aCons (xC (.int 0)) aNil))) (oE (xCB nLen (oCons (oV 0) oNil)))) (xLst aNil))
  (sSeq (sFor (wX (xVar 1)) (gN 4) (sSeq (sDrop (xApp 3 (xB dIx (oE (xB dIx (oV 0) (oV 4))) (oE (xB dIx (oV 2) (oV 4))))))
  (sAugI 2 (fun i j => i + j) (oV 4) (oE (xC (.int 1))))))
  (sRet (xCB nTuple (oCons (oV 3) oNil)))))
def p_log_by : Spec := fnSpec 5 m_log_by
abbrev p__law_take : Spec := takeS
def m__law_alike : TS :=
  (sRet (xAnd (xB dEq (oE (xCB nRepr (oCons (oV 0) oNil))) (oE (xCB nRepr (oCons (oV 1) oNil)))) (xB dEq (oV 0) (oV 1))))
def p__law_alike : Spec := fnSpec 2 m__law_alike
def m__law_decided : TS :=
  (sSeq (sAsg (gN 1) xDNew)
  (sSeq (sFor (wX (xVar 0)) (gT [(gN 2), (gN 3)]) (sIf (bX (xDIn true 1 (oV 2))) (sDPut 1 (oV 2) (xVar 3)) sNext))
  (sRet (xSortIt 1))))
def p__law_decided : Spec := fnSpec 4 m__law_decided
def m__law_answers : TS :=
  (sSeq (sPar 1 2 (xLst aNil) xDNew)
  (sSeq (sFor (wEnum (xVar 0)) (gT [(gN 3), (gT [(gN 4), (gN 5)])]) (sSeq (sDrop (xApp 1 (xIf (bX (xDIn false 2 (oV 4))) (xTup (aCons (xC (.str "late")) (aCons (xDGet 2 (oV 4)) aNil))) (xTup (aCons (xC (.str "decides")) aNil)))))
  (sDPut 2 (oV 4) (xDGet2 2 (oV 4) (xVar 3)))))
  (sRet (xCB nTuple (oCons (oV 1) oNil)))))
def p__law_answers : Spec := fnSpec 6 m__law_answers
def m_choice_of : TS :=
  (sSeq (sAsg (gN 2) xDNew)
  (sSeq (sFor (wZip (aCons (xVar 1) (aCons (xCall p_log_by (aCons (xVar 0) (aCons (xVar 1) aNil))) aNil))) (gT [(gN 3), (gT [(gN 4), (gN 5)])]) (sDrop (xDSetd 2 (oV 4) (xVar 3))))
  (sRet (xCB nTuple (oCons (oE (xSortIt 2)) oNil)))))
def p_choice_of : Spec := fnSpec 6 m_choice_of
def m__law_some : TS :=
  (sRet (xB dIx (oV 1) (oE (xCall p__law_take (aCons (xVar 0) (aCons (xCB nLen (oCons (oV 1) oNil)) aNil))))))
def p__law_some : Spec := fnSpec 2 m__law_some
def m__law_mixed : TS :=
  (sSeq (sPar 2 3 (xCB nList (oCons (oV 1) oNil)) (xLst aNil))
  (sSeq (sWhile (bX (xB dNe (oV 2) (oE (xLst aNil)))) (sDrop (xApp 3 (xMeth 2 mPop (oCons (oE (xCall p__law_take (aCons (xVar 0) (aCons (xCB nLen (oCons (oV 2) oNil)) aNil)))) oNil)))))
  (sRet (xMv 3))))
def p__law_mixed : Spec := fnSpec 4 m__law_mixed
def m__law_is_log_right : TS :=
  (sSeq (sMul [2, 3] [(xCB nRepr (oCons (oV 1) oNil)), (xCB nTuple (oCons (oE (xCall p__law_decided (aCons (xVar 1) aNil))) oNil))])
  (sSeq (sIf (bOr (bNot (bO (oE (xCall p__law_alike (aCons (xLst (aCons (xCall p_decided (aCons (xVar 1) aNil)) (aCons (xCall p_answers (aCons (xVar 1) aNil)) aNil))) (aCons (xLst (aCons (xVar 3) (aCons (xCall p__law_answers (aCons (xVar 1) aNil)) aNil))) aNil)))))) (bX (xB dNe (oE (xCB nRepr (oCons (oV 1) oNil))) (oV 2)))) (sRet (xC (.bool false))) sNext)
  (sSeq (sFor (wX (xTup (aCons (xC (.int 0)) (aCons (xCall p__law_take (aCons (xVar 0) (aCons (xB dAdd (oE (xCB nLen (oCons (oV 1) oNil))) (oE (xC (.int 1)))) aNil))) (aCons (xCall p__law_take (aCons (xVar 0) (aCons (xB dAdd (oE (xCB nLen (oCons (oV 1) oNil))) (oE (xC (.int 1)))) aNil))) aNil))))) (gN 4) (sSeq (sAsg (gN 5) (xCut (oV 1) pNo (pSome (oV 4))))
  (sIf (bOr (bX (xB dNe (oE (xLc [6] (wX (xCall p_decided (aCons (xVar 5) aNil))) (gN 6) (bX (xB dNotIn4 (oV 6) (oV 3))) (xVar 6))) (oE (xLst aNil)))) (bX (xB dNe (oE (xCall p_answers (aCons (xVar 5) aNil))) (oE (xCut (oE (xCall p_answers (aCons (xVar 1) aNil))) pNo (pSome (oV 4))))))) (sRet (xC (.bool false))) sNext)))
  (sRet (xC (.bool true))))))
def p__law_is_log_right : Spec := fnSpec 7 m__law_is_log_right
def m__law_names : TS :=
  (sSeq (sAsg (gN 2) (xLst (aCons (xC (.str "a")) (aCons (xC (.str "b")) (aCons (xC (.str "c")) (aCons (xC (.str "d")) (aCons (xC (.str "q")) (aCons (xC (.str "zz")) (aCons (xC (.str "ab")) (aCons (xC (.str "abcdefgh")) (aCons (xC (.str "pipe")) (aCons (xC (.str "disks")) (aCons (xC (.str "asks")) (aCons (xC (.str "go")) aNil))))))))))))))
  (sRet (xCB nSortA (oCons (oE (xCut (oE (xCall p__law_mixed (aCons (xVar 0) (aCons (xVar 2) aNil)))) pNo (pSome (oV 1)))) oNil))))
def p__law_names : Spec := fnSpec 3 m__law_names
def m__law_word_log : TS :=
  (sSeq (sAsg (gN 3) (xLst (aCons (xC (.str "result")) (aCons (xC (.str "cancel")) (aCons (xC (.str "timeout")) (aCons (xC (.str "loss")) aNil))))))
  (sRet (xCB nTuple (oCons (oE (xLc [4] (wRange1 (oE (xCall p__law_take (aCons (xVar 0) (aCons (xB dAdd (oV 2) (oE (xC (.int 1)))) aNil))))) (gN 4) bYes (xTup (aCons (xCall p__law_some (aCons (xVar 0) (aCons (xVar 1) aNil))) (aCons (xCall p__law_some (aCons (xVar 0) (aCons (xVar 3) aNil))) aNil))))) oNil))))
def p__law_word_log : Spec := fnSpec 5 m__law_word_log
def m_law : TS :=
  (sSeq (sFor (wRange1 (oE (xC (.int 5)))) (gN 2) (sSeq (sAsg (gN 3) (xCall p__law_names (aCons (xVar 1) (aCons (xB dAdd (oE (xC (.int 1))) (oE (xCall p__law_take (aCons (xVar 1) (aCons (xC (.int 5)) aNil))))) aNil))))
  (sSeq (sIf (bNot (bO (oE (xCall p__law_is_log_right (aCons (xVar 1) (aCons (xCall p__law_word_log (aCons (xVar 1) (aCons (xVar 3) (aCons (xCall p__law_some (aCons (xVar 1) (aCons (xLst (aCons (xC (.int 8)) (aCons (xC (.int 30)) (aCons (xC (.int 2)) aNil)))) aNil))) aNil)))) aNil)))))) (sRet (xC (.bool false))) sNext)
  (sSeq (sAsg (gN 4) (xCB nTuple (oCons (oE (xLc [5] (wRange1 (oE (xB dAdd (oE (xC (.int 1))) (oE (xCall p__law_take (aCons (xVar 1) (aCons (xC (.int 4)) aNil))))))) (gN 5) bYes (xCall p__law_word_log (aCons (xVar 1) (aCons (xVar 3) (aCons (xC (.int 6)) aNil)))))) oNil)))
  (sSeq (sAsg (gN 6) (xLst aNil))
  (sSeq (sFor (wEnum (xVar 4)) (gT [(gN 5), (gN 7)]) (sAsg (gN 6) (xB dAdd (oV 6) (oE (xB dMul (oE (xLst (aCons (xVar 5) aNil))) (oE (xCB nLen (oCons (oV 7) oNil))))))))
  (sSeq (sAsg (gN 6) (xCB nTuple (oCons (oE (xCall p__law_mixed (aCons (xVar 1) (aCons (xVar 6) aNil)))) oNil)))
  (sSeq (sMul [7, 8, 9] [(xLst aNil), (xB dMul (oE (xLst (aCons (xC (.int 0)) aNil))) (oE (xCB nLen (oCons (oV 4) oNil)))), (xLst aNil)])
  (sSeq (sFor (wX (xVar 6)) (gN 5) (sSeq (sDrop (xApp 7 (xB dIx (oE (xB dIx (oV 4) (oV 5))) (oE (xB dIx (oV 8) (oV 5))))))
  (sSeq (sAugI 8 (fun i j => i + j) (oV 5) (oE (xC (.int 1))))
  (sDrop (xApp 9 (xVar 5))))))
  (sSeq (sAsg (gN 10) xDNew)
  (sSeq (sFor (wZip (aCons (xVar 7) (aCons (xVar 9) aNil))) (gT [(gT [(gN 11), (gN 12)]), (gN 5)]) (sDPut 10 (oV 11) (xDGet2 10 (oV 11) (xVar 5))))
  (sSeq (sAsg (gN 13) (xCB nRepr (oCons (oE (xLst (aCons (xVar 4) (aCons (xVar 6) aNil)))) oNil)))
  (sSeq (sIf (bNot (bO (oE (xCall p__law_alike (aCons (xLst (aCons (xCall p_log_by (aCons (xVar 4) (aCons (xVar 6) aNil))) (aCons (xCall p_choice_of (aCons (xVar 4) (aCons (xVar 6) aNil))) aNil))) (aCons (xLst (aCons (xCB nTuple (oCons (oV 7) oNil)) (aCons (xCB nTuple (oCons (oE (xSortIt 10)) oNil)) aNil))) aNil)))))) (sRet (xC (.bool false))) sNext)
  (sIf (bOr (bX (xB dNe (oE (xCB nRepr (oCons (oE (xLst (aCons (xVar 4) (aCons (xVar 6) aNil)))) oNil))) (oV 13))) (bNot (bO (oE (xCall p__law_is_log_right (aCons (xVar 1) (aCons (xCB nTuple (oCons (oV 7) oNil)) aNil))))))) (sRet (xC (.bool false))) sNext))))))))))))))
  (sRet (xCall p__law_alike (aCons (xLst (aCons (xCall p_decided (aCons (xTup aNil) aNil)) (aCons (xCall p_answers (aCons (xTup aNil) aNil)) (aCons (xCall p_log_by (aCons (xTup (aCons (xTup aNil) aNil)) (aCons (xTup aNil) aNil))) (aCons (xCall p_choice_of (aCons (xTup (aCons (xTup aNil) aNil)) (aCons (xTup aNil) aNil))) aNil))))) (aCons (xLst (aCons (xTup aNil) (aCons (xTup aNil) (aCons (xTup aNil) (aCons (xTup aNil) aNil))))) aNil)))))
end DL.LW

namespace DL.LW
open PySem DL
section
local macro_rules | `(tactic| walk_at "dl1") => `(tactic| first
  | ((with_reducible refine v_oE ?_))
  | ((with_reducible apply v_on1); (focus exact rfl))
  | ((with_reducible refine v_xB ?_))
  | ((with_reducible apply v_oV); (focus exact rfl))
  | ((with_reducible apply v_on2); (focus exact rfl); (focus exact rfl))
  | ((with_reducible apply v_gN); (focus ((repeat (first | exact p_z | apply p_s)))))
  | ((with_reducible refine v_xC ?_))
  | ((with_reducible apply v_xVarD); (focus exact rfl))
  | ((with_reducible refine v_sSeq ?_))
  | ((with_reducible refine v_sAsg ?_))
  | ((with_reducible refine v_sIf ?_))
  | ((with_reducible refine v_bX ?_))
  | ((with_reducible refine v_onB ?_))
  | ((with_reducible refine v_oCons ?_))
  | ((with_reducible refine v_oNil ?_))
  | ((with_reducible refine v_aCons ?_))
  | ((with_reducible refine v_argD ?_))
  | ((with_reducible refine v_argB ?_))
  | ((with_reducible refine v_argO ?_))
  | ((with_reducible refine v_aNil ?_))
  | ((with_reducible refine v_xCB ?_))
  | ((with_reducible apply v_onL); (focus exact rfl))
  | ((with_reducible refine v_xCall ?_))
  | ((with_reducible refine v_xU ?_))
  | ((with_reducible refine v_xAnd ?_))
  | ((with_reducible refine v_xOr ?_))
  | ((with_reducible refine v_xNot ?_))
  | ((with_reducible refine v_xTup ?_))
  | ((with_reducible refine v_xLst ?_))
  | ((with_reducible refine v_xIf ?_))
  | ((with_reducible refine v_bO ?_))
  | ((with_reducible refine v_bAnd ?_))
  | ((with_reducible refine v_bOr ?_))
  | ((with_reducible refine v_bNot ?_))
  | ((with_reducible refine v_bYes ?_))
  | ((with_reducible refine v_wX ?_))
  | ((with_reducible refine v_wRange1 ?_))
  | ((with_reducible refine v_wRange2 ?_))
  | ((with_reducible refine v_gsN ?_))
  | ((with_reducible refine v_gsC ?_))
  | ((with_reducible refine v_pNo ?_))
  | ((with_reducible refine v_pSome ?_))
  | ((with_reducible refine v_xCut ?_))
  | ((with_reducible refine v_xLc ?_))
  | ((with_reducible refine v_sNext ?_))
  | ((with_reducible refine v_sPar ?_))
  | ((with_reducible refine v_sDrop ?_))
  | ((with_reducible refine v_sRet ?_))
  | ((with_reducible refine v_sRetN ?_))
  | ((with_reducible refine v_sBrk ?_))
  | ((with_reducible refine v_sCnt ?_))
  | ((with_reducible refine v_sFor ?_))
  | ((with_reducible refine v_ifT ?_))
  | ((with_reducible refine v_ifF ?_))
  | ((with_reducible refine v_onCmp ?_))
  | ((with_reducible refine v_xCh ?_))
  | ((with_reducible refine v_addI ?_))
  | ((with_reducible refine v_subI ?_))
  | ((with_reducible refine v_eqI ?_))
  | ((with_reducible refine v_neShown (by assumption) ?_))
  | ((with_reducible refine v_eqShown (by assumption) ?_))
  | ((with_reducible refine v_neI ?_))
  | ((with_reducible refine v_is ?_))
  | ((with_reducible refine v_isNot ?_))
  | ((with_reducible refine v_ltI ?_))
  | ((with_reducible refine v_leI ?_))
  | ((with_reducible refine v_gtI ?_))
  | ((with_reducible refine v_geI ?_))
  | ((with_reducible refine v_addT ?_))
  | ((with_reducible refine v_addL ?_))
  | ((with_reducible refine v_addS ?_))
  | ((with_reducible refine v_mulI ?_))
  | ((with_reducible refine v_mulT ?_))
  | ((with_reducible refine v_mulL ?_))
  | ((with_reducible refine v_div ?_))
  | ((with_reducible refine v_mod ?_))
  | ((with_reducible refine v_pow ?_))
  | ((with_reducible refine v_neg ?_))
  | ((with_reducible refine v_eq ?_))
  | ((with_reducible refine v_ne ?_))
  | ((with_reducible refine v_ixL ?_))
  | ((with_reducible refine v_ixT ?_))
  | ((with_reducible refine v_cutL ?_))
  | ((with_reducible refine v_cutT ?_))
  | ((with_reducible refine v_cutS ?_))
  | ((with_reducible refine v_lenL ?_))
  | ((with_reducible refine v_lenT ?_))
  | ((with_reducible refine v_lenS ?_))
  | ((with_reducible refine v_repr ?_))
  | ((with_reducible refine v_tupL ?_))
  | ((with_reducible refine v_tupT ?_))
  | ((with_reducible refine v_lstL ?_))
  | ((with_reducible refine v_lstT ?_))
  | ((with_reducible refine v_intI ?_))
  | ((with_reducible refine v_abs ?_))
  | ((with_reducible refine v_maxI ?_))
  | ((with_reducible refine v_minI ?_))
  | ((with_reducible refine v_dInt ?_))
  | ((with_reducible apply v_tB); (focus exact rfl))
  | ((with_reducible apply v_tI); (focus exact rfl))
  | ((with_reducible apply v_tL); (focus exact rfl))
  | ((with_reducible apply v_tT); (focus exact rfl))
  | ((with_reducible apply v_tN); (focus exact rfl))
  | ((with_reducible apply v_tS); (focus exact rfl))
  | (with_reducible refine v_ifN ?_)
  | (with_reducible refine v_ifNonT ?_)
  | (with_reducible refine v_ifNonI ?_)
  | (with_reducible refine v_ifNonT' ?_)
  | ((with_reducible apply v_onI); (focus exact rfl))
  | ((with_reducible apply v_onX); (focus exact rfl))
  | ((with_reducible apply v_xVarB); (focus exact rfl))
  | ((with_reducible apply v_gT); (focus exact rfl))
  | ((with_reducible apply v_sAug); (focus exact rfl))
  | ((with_reducible apply v_lc); (focus ((try simp only [clrs, putO, put]); exact rfl)))
  | ((with_reducible apply v_cl2); (focus ((try simp only [clrs, putO, put]); exact rfl)))
  | ((with_reducible apply v_bk2); (focus ((try simp only [back, putO, put, sl]); exact rfl)))
  | ((with_reducible apply v_xApp); (focus exact rfl))
  | ((with_reducible apply v_xMt); (focus exact rfl))
  | ((with_reducible apply v_onLO); (focus exact rfl); (focus exact rfl))
  | ((with_reducible refine v_mExt ?_))
  | ((with_reducible apply v_onO); (focus exact rfl))
  | ((with_reducible apply v_xVarO); (focus exact rfl); (focus ((repeat (first | exact p_z | apply p_s)))))
  | ((with_reducible apply v_xMv); (focus exact rfl); (focus ((repeat (first | exact p_z | apply p_s)))))
  | ((with_reducible apply v_onII); (focus exact rfl); (focus exact rfl))
  | ((with_reducible apply v_onDO); (focus exact rfl); (focus exact rfl))
  | ((with_reducible apply v_on3); (focus exact rfl); (focus exact rfl); (focus exact rfl))
  | ((with_reducible refine v_argN ?_))
  | ((with_reducible refine v_tupN ?_))
  | ((with_reducible refine v_wZip ?_))
  | ((with_reducible refine v_avN ?_))
  | ((with_reducible refine v_avC ?_))
  | ((with_reducible refine v_sMul ?_))
  | ((with_reducible refine v_gAllN ?_))
  | ((with_reducible refine v_gAllC ?_))
  | ((with_reducible refine v_xDIn ?_))
  | ((with_reducible refine v_xDNew ?_))
  | ((with_reducible refine v_sDPut ?_))
  | ((with_reducible refine v_xLIdx ?_))
  | ((with_reducible refine v_onSs ?_))
  | ((with_reducible apply v_xDGet); (focus exact rfl))
  | ((with_reducible apply v_exD); (focus exact rfl))
  | ((with_reducible apply v_exL); (focus exact rfl))
  | ((with_reducible apply v_xVarN); (focus exact rfl))
  | ((with_reducible apply v_xTIdx); (focus exact rfl))
  | ((with_reducible apply v_onTT); (focus exact rfl))
  | ((with_reducible apply v_onTTl); (focus exact rfl))
  | ((with_reducible apply v_onDc); (focus exact rfl); (focus exact rfl))
  | ((with_reducible apply v_onSN); (focus exact rfl); (focus exact rfl))
  | ((with_reducible apply v_onLD); (focus exact rfl); (focus exact rfl))
  | ((with_reducible refine v_xDOne ?_ ?_); (focus (intro z; cases z)))
  | ((with_reducible apply v_xLcO); (focus exact rfl); (focus ((repeat (first | exact p_z | apply p_s)))))
  | ((with_reducible apply v_bk3); (focus ((try simp only [back, putO, put, sl]); exact rfl)))
  | ((with_reducible refine v_own1 ?_ ?_); (focus (intro _ e; first | (cases e; done) | (cases e; rfl))))
  | ((with_reducible refine v_own2 ?_ ?_ ?_); (focus (intro _ e; first | (cases e; done) | (cases e; rfl))); (focus (intro _ e; first | (cases e; done) | (cases e; rfl))))
  | ((with_reducible refine v_sRaise ?_))
  | ((with_reducible refine v_sTry ?_))
  | ((with_reducible apply v_onEx); (focus exact rfl); (focus (simp only [List.length_cons, List.length_nil]; omega)))
  | ((with_reducible apply v_onExF); (focus exact rfl))
  | ((with_reducible refine v_hRetT ?_))
  | ((with_reducible refine v_hNil ?_))
  | ((with_reducible refine v_hCons ?_))
  | ((with_reducible refine v_hC ?_))
  | ((with_reducible apply v_hF); (focus exact rfl); (focus exact rfl))
  | ((with_reducible apply v_onTLt); (focus exact rfl))
  | ((with_reducible apply v_onTLl); (focus exact rfl))
  | ((with_reducible refine v_aStar ?_))
  | ((with_reducible apply v_onLA); (focus exact rfl))
  | ((with_reducible refine v_xLc2 ?_))
  | ((with_reducible refine v_sSetI ?_))
  | ((with_reducible refine v_sAugI ?_))
  | ((with_reducible apply v_exO); (focus exact rfl))
  | ((with_reducible apply v_onIO); (focus exact rfl); (focus exact rfl))
  | ((with_reducible apply v_xDGet2); (focus exact rfl))
  | ((with_reducible apply v_onDD); (focus exact rfl); (focus exact rfl); (focus exact rfl))
  | ((with_reducible apply v_xDSetd); (focus exact rfl))
  | ((with_reducible refine v_mulII ?_))
  | ((with_reducible refine v_isTy ?_))
  | ((with_reducible refine v_wEnum ?_))
  | ((with_reducible refine v_inL ?_))
  | ((with_reducible refine v_notInL ?_))
  | ((with_reducible refine v_inS ?_))
  | ((with_reducible refine v_notInS ?_))
  | ((with_reducible refine v_sRaise0 ?_))
  | ((with_reducible refine v_sTryM ?_))
  | ((with_reducible apply v_xLam); (focus ((try simp only [frz, frz1, sl, put]); exact rfl)); (focus ((try simp only [bare, List.map_cons, List.map_nil, bareO]); exact rfl)))
  | ((with_reducible apply v_onLv); (focus exact rfl))
  | ((with_reducible refine v_onLx ?_))
  | ((with_reducible refine v_hRetC ?_))
  | ((with_reducible refine v_intB ?_))
  | ((with_reducible apply v_hIfT); (focus exact rfl))
  | ((with_reducible apply v_hIfF); (focus exact rfl))
  | (with_reducible refine And.intro (Fine.repr (by assumption) (by decide) (by decide)) ?_)
  | (with_reducible refine And.intro (Fine.ok (by assumption) (by decide)) ?_)
  | (with_reducible refine And.intro (Fine.okS (by assumption)) ?_)
  | ((with_reducible refine And.intro ?_ ?_); (focus (first | omega | exact (by decide) | (simp only [List.length_cons, List.length_nil, List.length_map, List.length_range, rangeL_len] <;> omega) | (simp only [List.length_cons, List.length_nil, List.length_append, List.length_map, List.length_range, rangeL_len] <;> omega) | exact Or.inl ⟨by omega, by omega⟩ | exact Or.inr (Or.inl ⟨by omega, by omega⟩)))))
local macro_rules | `(tactic| walk_at "dl") => `(tactic| repeat (walk_at "dl1"))
local macro_rules | `(tactic| walk_at "fn") => `(tactic| simp only [fnSpec, List.map_cons, List.map_nil, List.length_cons, List.length_nil, List.replicate, List.cons_append, List.nil_append, Nat.reduceAdd, Nat.reduceSub, List.replicate_succ, List.replicate_zero])
local macro_rules | `(tactic| walk_at "fine") => `(tactic| repeat (first | assumption | exact fin_none0 | exact fin_bool0 | exact fins_nil | (with_reducible refine fins_cons ?_ ?_) | (with_reducible refine fin_tup ?_) | (with_reducible refine fin_lst ?_) | exact fin_int0 (by omega) | exact fin_lit _))
section
variable {rs : List (Str × Int × Bool)} {ks : List Kd} {Q : DV → Prop} {E : Err → Prop}
theorem mixed_ok {ss : List Str} (hs : ∀ z ∈ ss, PyData.strOk z = true ∧ z.length ≤ 20) (hl : ss.length ≤ 100) (q : ∀ ys : List Str, ys.Perm ss → Q (.own (ys.map .str))) : p__law_mixed [.bag, .dat (.list (ss.map .str))] Q E := by
  unfold p__law_mixed
  walk_at "fn"
  unfold m__law_mixed
  walk_at "dl"
  refine v_sWhile (fun m r => ∃ left found : List Str, m = left.length ∧ (found ++ left).Perm ss ∧ r = [some .bag, some (.dat (.list (ss.map .str))), some (.own (left.map .str)), some (.own (found.map .str))]) ss.length ⟨ss, [], rfl, .refl _, rfl⟩ ?_
  rintro m r ⟨left, found, rfl, hp, rfl⟩
  have hlen := hp.length_eq
  rw [List.length_append] at hlen
  have f1 := strs_fine (l := left) (fun z hz => hs z (hp.mem_iff.mp (List.mem_append_right _ hz))) (by omega)
  have f2 : Fine 1 4100 (.list []) := fin_list (k := 0) (w := 40) (n := 100) (fun _ h => by cases h) (by decide) (by decide)
  walk_at "dl"
  cases left with
  | nil =>
    rw [show PyData.eqv (.list (List.map PyData.str [])) (.list []) = true from rfl]
    walk_at "dl"
    exact q found (by rw [List.append_nil] at hp; exact hp)
  | cons z t =>
    rw [show PyData.eqv (.list (List.map PyData.str (z :: t))) (.list []) = false from rfl]
    walk_at "dl"
    rw [List.length_map]
    refine take_ok (by rw [List.length_cons]; omega) (by omega) fun k hk0 hk1 => ?_
    obtain ⟨j, rfl⟩ := Int.eq_ofNat_of_zero_le hk0
    have hj : j < (z :: t).length := by omega
    walk_at "dl"
    refine v_mPop (j := j) (y := .str (z :: t)[j]) rfl (by rw [List.getElem?_map, List.getElem?_eq_getElem hj]; rfl) (by rw [List.length_map]; omega) ?_
    walk_at "dl"
    refine ⟨((z :: t).eraseIdx j).length, by rw [List.length_eraseIdx_of_lt hj, List.length_cons]; omega, (z :: t).eraseIdx j, found ++ [(z :: t)[j]], rfl, ?_, ?_⟩
    · refine List.Perm.trans ?_ hp
      rw [List.append_assoc]
      exact List.Perm.append_left _ (erase_perm _ j hj)
    · rw [List.map_append, erase_map]
      rfl
theorem names_ok {n0 : Int} (hn1 : 0 ≤ n0) (hn2 : n0 ≤ 12) (q : ∀ zs : List Str, zs.Nodup → ((zs.length : Nat) : Int) = n0 → (∀ z ∈ zs, z ∈ names12) → Q (.own (zs.map .str))) : p__law_names [.bag, .dat (.int n0)] Q E := by
  obtain ⟨n, rfl⟩ := Int.eq_ofNat_of_zero_le hn1
  unfold p__law_names
  walk_at "fn"
  unfold m__law_names
  walk_at "dl"
  refine mixed_ok (ss := names12) (fun z hz => ⟨(n12 z hz).1, (n12 z hz).2.1⟩) (by decide) fun ys hp => ?_
  walk_at "dl"
  have hl : ys.length = 12 := hp.length_eq
  have e : cutD (ys.map PyData.str) none (some ((n : Nat) : Int)) = (ys.take n).map .str := by
    unfold cutD
    rw [HT.sIx_nat, HT.sIx_none, List.length_map, Nat.min_eq_left (by omega), List.map_take]
    rfl
  rw [e]
  refine v_sortA (by rw [List.length_take]; omega) fun zs hz _ => ?_
  walk_at "dl"
  refine q zs ?_ (by rw [hz.length_eq, List.length_take]; omega) fun z hz' => hp.mem_iff.mp (List.mem_of_mem_take (hz.mem_iff.mp hz'))
  exact hz.nodup_iff.mpr ((hp.nodup_iff.mpr n12n).sublist (List.take_sublist ..))
end
end
end DL.LW

namespace DL.LW
open PySem DL
section
local macro_rules | `(tactic| walk_at "dl1") => `(tactic| first
  | ((with_reducible refine v_oE ?_))
  | ((with_reducible apply v_on1); (focus exact rfl))
  | ((with_reducible refine v_xB ?_))
  | ((with_reducible apply v_oV); (focus exact rfl))
  | ((with_reducible apply v_on2); (focus exact rfl); (focus exact rfl))
  | ((with_reducible apply v_gN); (focus ((repeat (first | exact p_z | apply p_s)))))
  | ((with_reducible refine v_xC ?_))
  | ((with_reducible apply v_xVarD); (focus exact rfl))
  | ((with_reducible refine v_sSeq ?_))
  | ((with_reducible refine v_sAsg ?_))
  | ((with_reducible refine v_sIf ?_))
  | ((with_reducible refine v_bX ?_))
  | ((with_reducible refine v_onB ?_))
  | ((with_reducible refine v_oCons ?_))
  | ((with_reducible refine v_oNil ?_))
  | ((with_reducible refine v_aCons ?_))
  | ((with_reducible refine v_argD ?_))
  | ((with_reducible refine v_argB ?_))
  | ((with_reducible refine v_argO ?_))
  | ((with_reducible refine v_aNil ?_))
  | ((with_reducible refine v_xCB ?_))
  | ((with_reducible apply v_onL); (focus exact rfl))
  | ((with_reducible refine v_xCall ?_))
  | ((with_reducible refine v_xU ?_))
  | ((with_reducible refine v_xAnd ?_))
  | ((with_reducible refine v_xOr ?_))
  | ((with_reducible refine v_xNot ?_))
  | ((with_reducible refine v_xTup ?_))
  | ((with_reducible refine v_xLst ?_))
  | ((with_reducible refine v_xIf ?_))
  | ((with_reducible refine v_bO ?_))
  | ((with_reducible refine v_bAnd ?_))
  | ((with_reducible refine v_bOr ?_))
  | ((with_reducible refine v_bNot ?_))
  | ((with_reducible refine v_bYes ?_))
  | ((with_reducible refine v_wX ?_))
  | ((with_reducible refine v_wRange1 ?_))
  | ((with_reducible refine v_wRange2 ?_))
  | ((with_reducible refine v_gsN ?_))
  | ((with_reducible refine v_gsC ?_))
  | ((with_reducible refine v_pNo ?_))
  | ((with_reducible refine v_pSome ?_))
  | ((with_reducible refine v_xCut ?_))
  | ((with_reducible refine v_xLc ?_))
  | ((with_reducible refine v_sNext ?_))
  | ((with_reducible refine v_sPar ?_))
  | ((with_reducible refine v_sDrop ?_))
  | ((with_reducible refine v_sRet ?_))
  | ((with_reducible refine v_sRetN ?_))
  | ((with_reducible refine v_sBrk ?_))
  | ((with_reducible refine v_sCnt ?_))
  | ((with_reducible refine v_sFor ?_))
  | ((with_reducible refine v_ifT ?_))
  | ((with_reducible refine v_ifF ?_))
  | ((with_reducible refine v_onCmp ?_))
  | ((with_reducible refine v_xCh ?_))
  | ((with_reducible refine v_addI ?_))
  | ((with_reducible refine v_subI ?_))
  | ((with_reducible refine v_eqI ?_))
  | ((with_reducible refine v_neShown (by assumption) ?_))
  | ((with_reducible refine v_eqShown (by assumption) ?_))
  | ((with_reducible refine v_neI ?_))
  | ((with_reducible refine v_is ?_))
  | ((with_reducible refine v_isNot ?_))
  | ((with_reducible refine v_ltI ?_))
  | ((with_reducible refine v_leI ?_))
  | ((with_reducible refine v_gtI ?_))
  | ((with_reducible refine v_geI ?_))
  | ((with_reducible refine v_addT ?_))
  | ((with_reducible refine v_addL ?_))
  | ((with_reducible refine v_addS ?_))
  | ((with_reducible refine v_mulI ?_))
  | ((with_reducible refine v_mulT ?_))
  | ((with_reducible refine v_mulL ?_))
  | ((with_reducible refine v_div ?_))
  | ((with_reducible refine v_mod ?_))
  | ((with_reducible refine v_pow ?_))
  | ((with_reducible refine v_neg ?_))
  | ((with_reducible refine v_eq ?_))
  | ((with_reducible refine v_ne ?_))
  | ((with_reducible refine v_ixL ?_))
  | ((with_reducible refine v_ixT ?_))
  | ((with_reducible refine v_cutL ?_))
  | ((with_reducible refine v_cutT ?_))
  | ((with_reducible refine v_cutS ?_))
  | ((with_reducible refine v_lenL ?_))
  | ((with_reducible refine v_lenT ?_))
  | ((with_reducible refine v_lenS ?_))
  | ((with_reducible refine v_repr ?_))
  | ((with_reducible refine v_tupL ?_))
  | ((with_reducible refine v_tupT ?_))
  | ((with_reducible refine v_lstL ?_))
  | ((with_reducible refine v_lstT ?_))
  | ((with_reducible refine v_intI ?_))
  | ((with_reducible refine v_abs ?_))
  | ((with_reducible refine v_maxI ?_))
  | ((with_reducible refine v_minI ?_))
  | ((with_reducible refine v_dInt ?_))
  | ((with_reducible apply v_tB); (focus exact rfl))
  | ((with_reducible apply v_tI); (focus exact rfl))
  | ((with_reducible apply v_tL); (focus exact rfl))
  | ((with_reducible apply v_tT); (focus exact rfl))
  | ((with_reducible apply v_tN); (focus exact rfl))
  | ((with_reducible apply v_tS); (focus exact rfl))
  | (with_reducible refine v_ifN ?_)
  | (with_reducible refine v_ifNonT ?_)
  | (with_reducible refine v_ifNonI ?_)
  | (with_reducible refine v_ifNonT' ?_)
  | ((with_reducible apply v_onI); (focus exact rfl))
  | ((with_reducible apply v_onX); (focus exact rfl))
  | ((with_reducible apply v_xVarB); (focus exact rfl))
  | ((with_reducible apply v_gT); (focus exact rfl))
  | ((with_reducible apply v_sAug); (focus exact rfl))
  | ((with_reducible apply v_lc); (focus ((try simp only [clrs, putO, put]); exact rfl)))
  | ((with_reducible apply v_cl2); (focus ((try simp only [clrs, putO, put]); exact rfl)))
  | ((with_reducible apply v_bk2); (focus ((try simp only [back, putO, put, sl]); exact rfl)))
  | ((with_reducible apply v_xApp); (focus exact rfl))
  | ((with_reducible apply v_xMt); (focus exact rfl))
  | ((with_reducible apply v_onLO); (focus exact rfl); (focus exact rfl))
  | ((with_reducible refine v_mExt ?_))
  | ((with_reducible apply v_onO); (focus exact rfl))
  | ((with_reducible apply v_xVarO); (focus exact rfl); (focus ((repeat (first | exact p_z | apply p_s)))))
  | ((with_reducible apply v_xMv); (focus exact rfl); (focus ((repeat (first | exact p_z | apply p_s)))))
  | ((with_reducible apply v_onII); (focus exact rfl); (focus exact rfl))
  | ((with_reducible apply v_onDO); (focus exact rfl); (focus exact rfl))
  | ((with_reducible apply v_on3); (focus exact rfl); (focus exact rfl); (focus exact rfl))
  | ((with_reducible refine v_argN ?_))
  | ((with_reducible refine v_tupN ?_))
  | ((with_reducible refine v_wZip ?_))
  | ((with_reducible refine v_avN ?_))
  | ((with_reducible refine v_avC ?_))
  | ((with_reducible refine v_sMul ?_))
  | ((with_reducible refine v_gAllN ?_))
  | ((with_reducible refine v_gAllC ?_))
  | ((with_reducible refine v_xDIn ?_))
  | ((with_reducible refine v_xDNew ?_))
  | ((with_reducible refine v_sDPut ?_))
  | ((with_reducible refine v_xLIdx ?_))
  | ((with_reducible refine v_onSs ?_))
  | ((with_reducible apply v_xDGet); (focus exact rfl))
  | ((with_reducible apply v_exD); (focus exact rfl))
  | ((with_reducible apply v_exL); (focus exact rfl))
  | ((with_reducible apply v_xVarN); (focus exact rfl))
  | ((with_reducible apply v_xTIdx); (focus exact rfl))
  | ((with_reducible apply v_onTT); (focus exact rfl))
  | ((with_reducible apply v_onTTl); (focus exact rfl))
  | ((with_reducible apply v_onDc); (focus exact rfl); (focus exact rfl))
  | ((with_reducible apply v_onSN); (focus exact rfl); (focus exact rfl))
  | ((with_reducible apply v_onLD); (focus exact rfl); (focus exact rfl))
  | ((with_reducible refine v_xDOne ?_ ?_); (focus (intro z; cases z)))
  | ((with_reducible apply v_xLcO); (focus exact rfl); (focus ((repeat (first | exact p_z | apply p_s)))))
  | ((with_reducible apply v_bk3); (focus ((try simp only [back, putO, put, sl]); exact rfl)))
  | ((with_reducible refine v_own1 ?_ ?_); (focus (intro _ e; first | (cases e; done) | (cases e; rfl))))
  | ((with_reducible refine v_own2 ?_ ?_ ?_); (focus (intro _ e; first | (cases e; done) | (cases e; rfl))); (focus (intro _ e; first | (cases e; done) | (cases e; rfl))))
  | ((with_reducible refine v_sRaise ?_))
  | ((with_reducible refine v_sTry ?_))
  | ((with_reducible apply v_onEx); (focus exact rfl); (focus (simp only [List.length_cons, List.length_nil]; omega)))
  | ((with_reducible apply v_onExF); (focus exact rfl))
  | ((with_reducible refine v_hRetT ?_))
  | ((with_reducible refine v_hNil ?_))
  | ((with_reducible refine v_hCons ?_))
  | ((with_reducible refine v_hC ?_))
  | ((with_reducible apply v_hF); (focus exact rfl); (focus exact rfl))
  | ((with_reducible apply v_onTLt); (focus exact rfl))
  | ((with_reducible apply v_onTLl); (focus exact rfl))
  | ((with_reducible refine v_aStar ?_))
  | ((with_reducible apply v_onLA); (focus exact rfl))
  | ((with_reducible refine v_xLc2 ?_))
  | ((with_reducible refine v_sSetI ?_))
  | ((with_reducible refine v_sAugI ?_))
  | ((with_reducible apply v_exO); (focus exact rfl))
  | ((with_reducible apply v_onIO); (focus exact rfl); (focus exact rfl))
  | ((with_reducible apply v_xDGet2); (focus exact rfl))
  | ((with_reducible apply v_onDD); (focus exact rfl); (focus exact rfl); (focus exact rfl))
  | ((with_reducible apply v_xDSetd); (focus exact rfl))
  | ((with_reducible refine v_mulII ?_))
  | ((with_reducible refine v_isTy ?_))
  | ((with_reducible refine v_wEnum ?_))
  | ((with_reducible refine v_inL ?_))
  | ((with_reducible refine v_notInL ?_))
  | ((with_reducible refine v_inS ?_))
  | ((with_reducible refine v_notInS ?_))
  | ((with_reducible refine v_sRaise0 ?_))
  | ((with_reducible refine v_sTryM ?_))
  | ((with_reducible apply v_xLam); (focus ((try simp only [frz, frz1, sl, put]); exact rfl)); (focus ((try simp only [bare, List.map_cons, List.map_nil, bareO]); exact rfl)))
  | ((with_reducible apply v_onLv); (focus exact rfl))
  | ((with_reducible refine v_onLx ?_))
  | ((with_reducible refine v_hRetC ?_))
  | ((with_reducible refine v_intB ?_))
  | ((with_reducible apply v_hIfT); (focus exact rfl))
  | ((with_reducible apply v_hIfF); (focus exact rfl))
  | (with_reducible refine And.intro (Fine.repr (by assumption) (by decide) (by decide)) ?_)
  | (with_reducible refine And.intro (Fine.ok (by assumption) (by decide)) ?_)
  | (with_reducible refine And.intro (Fine.okS (by assumption)) ?_)
  | ((with_reducible refine And.intro ?_ ?_); (focus (first | omega | exact (by decide) | (simp only [List.length_cons, List.length_nil, List.length_map, List.length_range, rangeL_len] <;> omega) | (simp only [List.length_cons, List.length_nil, List.length_append, List.length_map, List.length_range, rangeL_len] <;> omega) | exact Or.inl ⟨by omega, by omega⟩ | exact Or.inr (Or.inl ⟨by omega, by omega⟩)))))
local macro_rules | `(tactic| walk_at "dl") => `(tactic| repeat (walk_at "dl1"))
local macro_rules | `(tactic| walk_at "fn") => `(tactic| simp only [fnSpec, List.map_cons, List.map_nil, List.length_cons, List.length_nil, List.replicate, List.cons_append, List.nil_append, Nat.reduceAdd, Nat.reduceSub, List.replicate_succ, List.replicate_zero])
local macro_rules | `(tactic| walk_at "fine") => `(tactic| repeat (first | assumption | exact fin_none0 | exact fin_bool0 | exact fins_nil | (with_reducible refine fins_cons ?_ ?_) | (with_reducible refine fin_tup ?_) | (with_reducible refine fin_lst ?_) | exact fin_int0 (by omega) | exact fin_lit _))
section
variable {Q : DV → Prop} {E : Err → Prop}
abbrev ptD (p : Str × Str) : PyData := .tuple [.str p.1, .str p.2]
abbrev logD (l : List (Str × Str)) : PyData := .tuple (l.map ptD)
def words4 : List Str := ["result", "cancel", "timeout", "loss"]
def LgOk (l : List (Str × Str)) : Prop := l.length ≤ 30 ∧ ∀ p ∈ l, p.1 ∈ names12 ∧ p.2 ∈ words4
theorem LgOk.take {l : List (Str × Str)} (h : LgOk l) (n : Nat) : LgOk (l.take n) := ⟨by rw [List.length_take]; have := h.1; omega, fun p hp => h.2 p (List.mem_of_mem_take hp)⟩
theorem w4_ok : ∀ z ∈ words4, PyData.strOk z = true ∧ z.length ≤ 20 := by
  intro z hz
  simp only [words4, List.mem_cons, List.not_mem_nil, or_false] at hz
  rcases hz with rfl | rfl | rfl | rfl <;> exact ⟨by decide +kernel, by decide +kernel⟩
theorem fin_name {z : Str} (h : z ∈ names12) : Fine 0 40 (.str z) := fin_str (n12 z h).1 (Nat.le_trans (n12 z h).2.1 (by decide))
theorem fin_word {z : Str} (h : z ∈ words4) : Fine 0 40 (.str z) := fin_str (w4_ok z h).1 (Nat.le_trans (w4_ok z h).2 (by decide))
theorem fin_pt {p : Str × Str} (h : p.1 ∈ names12 ∧ p.2 ∈ words4) : Fine 1 82 (ptD p) := (fin_tup (fins_cons (fin_name h.1) (fins_cons (fin_word h.2) fins_nil))).mono (by decide) (by decide)
theorem fin_log {l : List (Str × Str)} (h : LgOk l) : Fine 2 2490 (logD l) := fin_tup (fins_map h.1 fun p hp => fin_pt (h.2 p hp))
def wk (p : Str × Str) : Str × PyData := (p.1, .str p.2)
def fsW (l : List (Str × Str)) : List (Str × PyData) := firsts (l.map wk)
theorem fsW_snoc (l : List (Str × Str)) (p : Str × Str) : fsW (l ++ [p]) = put1 (fsW l) (p.1, .str p.2) := by
  unfold fsW
  rw [List.map_append, List.map_singleton, firsts_snoc]
  rfl
theorem fsW_mem {l : List (Str × Str)} {p : Str × PyData} (h : p ∈ fsW l) : ∃ q ∈ l, p = (q.1, .str q.2) := by
  obtain ⟨q, hq, e⟩ := List.mem_map.mp (firsts_sub _ p h)
  exact ⟨q, hq, e.symm⟩
theorem fsW_len (l : List (Str × Str)) : (fsW l).length ≤ l.length := by
  have h := firsts_len (l.map wk)
  rw [List.length_map] at h
  exact h
theorem decided_ok {l : List (Str × Str)} (hl : LgOk l) (q : ∀ ys : List (Str × PyData), ys.Perm (fsW l) → ys.Pairwise (fun e f => ¬ f.1.cps.toList < e.1.cps.toList) → Q (.dat (.tuple (ys.map prD)))) : p_decided [.dat (logD l)] Q E := by
  have hlen := hl.1
  unfold p_decided
  walk_at "fn"
  unfold m_decided
  walk_at "dl"
  refine forL_mapN ptD (fun pre r => ∃ a b, r = [some (.dat (logD l)), some (.dct false ((fsW pre).map kvD)), a, b]) ⟨_, _, rfl⟩ ?_ ?_
  · rintro pre x post r k bk' e ⟨a, b, rfl⟩ hk
    have hm := fsW_len pre
    have hpl : pre.length ≤ 30 := by rw [e, List.length_append] at hlen; omega
    walk_at "dl"
    refine ⟨(by intro z; cases z), by rw [List.length_map]; omega, ?_⟩
    rw [lookD_kv]
    cases e1 : look1 (fsW pre) x.1 with
    | some d =>
      refine v_onLkS rfl ?_
      walk_at "dl"
      refine hk _ ⟨some (.dat (.str x.1)), some (.dat (.str x.2)), ?_⟩
      rw [fsW_snoc, put1_old e1]
    | none =>
      refine v_onLkN rfl ?_
      walk_at "dl"
      refine hk _ ⟨some (.dat (.str x.1)), some (.dat (.str x.2)), ?_⟩
      rw [fsW_snoc, putD_new e1]
  · rintro r ⟨a, b, rfl⟩
    walk_at "dl"
    refine v_sortIt true rfl (fun p hp => by obtain ⟨w, _, rfl⟩ := fsW_mem hp; exact ⟨_, rfl⟩) fun ys hp hs hn => ?_
    have hm := fsW_len l
    have hy : ys.length ≤ 30 := by rw [hp.length_eq]; omega
    walk_at "dl"
    exact q ys hp hs
theorem ldecided_ok {l : List (Str × Str)} (hl : LgOk l) (q : ∀ ys : List (Str × PyData), ys.Perm (fsW l) → ys.Pairwise (fun e f => ¬ f.1.cps.toList < e.1.cps.toList) → Q (.own (ys.map prD))) : p__law_decided [.dat (logD l)] Q E := by
  have hlen := hl.1
  unfold p__law_decided
  walk_at "fn"
  unfold m__law_decided
  walk_at "dl"
  refine forL_mapN ptD (fun pre r => ∃ a b, r = [some (.dat (logD l)), some (.dct false ((fsW pre).map kvD)), a, b]) ⟨_, _, rfl⟩ ?_ ?_
  · rintro pre x post r k bk' e ⟨a, b, rfl⟩ hk
    have hm := fsW_len pre
    have hpl : pre.length ≤ 30 := by rw [e, List.length_append] at hlen; omega
    walk_at "dl"
    refine ⟨(by intro z; cases z), ?_⟩
    rw [lookD_kv]
    cases e1 : look1 (fsW pre) x.1 with
    | some d =>
      rw [show (true != (some d).isSome) = false from rfl]
      walk_at "dl"
      refine hk _ ⟨some (.dat (.str x.1)), some (.dat (.str x.2)), ?_⟩
      rw [fsW_snoc, put1_old e1]
    | none =>
      rw [show (true != (none : Option PyData).isSome) = true from rfl]
      walk_at "dl"
      refine ⟨(by intro z; cases z), by rw [List.length_map]; omega, ?_⟩
      walk_at "dl"
      refine hk _ ⟨some (.dat (.str x.1)), some (.dat (.str x.2)), ?_⟩
      rw [fsW_snoc, putD_new e1]
  · rintro r ⟨a, b, rfl⟩
    walk_at "dl"
    refine v_sortIt true rfl (fun p hp => by obtain ⟨w, _, rfl⟩ := fsW_mem hp; exact ⟨_, rfl⟩) fun ys hp hs hn => ?_
    exact q ys hp hs
def ai (p : (Str × Str) × Nat) : Str × PyData := (p.1.1, .int ((p.2 : Nat) : Int))
def ans1 (m : List (Str × PyData)) (p : (Str × Str) × Nat) : PyData := match look1 m p.1.1 with
  | some d => .tuple [.str "late", d]
  | none => .tuple [.str "decides"]
def ansGo : List (Str × PyData) → List ((Str × Str) × Nat) → List PyData
  | _, [] => []
  | m, p :: r => ans1 m p :: ansGo (put1 m (ai p)) r
def ansL (xs : List ((Str × Str) × Nat)) : List PyData := ansGo [] xs
theorem ansGo_app : ∀ (xs ys : List ((Str × Str) × Nat)) (m : List (Str × PyData)), ansGo m (xs ++ ys) = ansGo m xs ++ ansGo ((xs.map ai).foldl put1 m) ys
  | [], _, _ => rfl
  | x :: xs, ys, m => by
    rw [List.cons_append]
    show ans1 m x :: ansGo (put1 m (ai x)) (xs ++ ys) = _
    rw [ansGo_app xs ys]
    rfl
theorem ansL_snoc (xs : List ((Str × Str) × Nat)) (p : (Str × Str) × Nat) : ansL (xs ++ [p]) = ansL xs ++ [ans1 (firsts (xs.map ai)) p] := ansGo_app xs [p] []
theorem ansGo_len : ∀ (xs : List ((Str × Str) × Nat)) (m : List (Str × PyData)), (ansGo m xs).length = xs.length
  | [], _ => rfl
  | x :: xs, m => congrArg (· + 1) (ansGo_len xs (put1 m (ai x)))
theorem ans_take (l : List (Str × Str)) (n : Nat) : (ansL l.zipIdx).take n = ansL (l.take n).zipIdx := by
  by_cases h : n ≤ l.length
  · have e : l.zipIdx = (l.take n).zipIdx ++ (l.drop n).zipIdx (0 + (l.take n).length) := by rw [← List.zipIdx_append, List.take_append_drop]
    have e2 : (ansL (l.take n).zipIdx).length = n := by
      show (ansGo [] _).length = n
      rw [ansGo_len, List.length_zipIdx, List.length_take]
      omega
    rw [e]
    show (ansGo [] _).take n = _
    rw [ansGo_app]
    exact (List.take_append_of_le_length (by show n ≤ (ansL (l.take n).zipIdx).length; omega)).trans (List.take_of_length_le (by show (ansL (l.take n).zipIdx).length ≤ n; omega))
  · have e2 : (ansL l.zipIdx).length = l.length := by
      show (ansGo [] _).length = _
      rw [ansGo_len, List.length_zipIdx]
    rw [List.take_of_length_le (by omega), List.take_of_length_le (by omega)]
theorem ai_mem {xs : List ((Str × Str) × Nat)} {p : Str × PyData} (h : p ∈ firsts (xs.map ai)) : ∃ i : Nat, p.2 = .int (i : Nat) ∧ ∃ t, (t, i) ∈ xs := by
  obtain ⟨q, hq, e⟩ := List.mem_map.mp (firsts_sub _ p h)
  exact ⟨q.2, by rw [← e]; rfl, q.1, hq⟩
theorem look1_mem {m : List (Str × PyData)} {t : Str} {d : PyData} (h : look1 m t = some d) : ∃ p ∈ m, p.2 = d := by
  unfold look1 at h
  cases e : m.find? fun q => decide (q.1 = t) with
  | none => rw [e] at h; cases h
  | some p =>
    rw [e] at h
    exact ⟨p, List.mem_of_find?_eq_some e, Option.some.inj h⟩
theorem fin_ans {xs : List ((Str × Str) × Nat)} (hi : ∀ p ∈ xs, p.2 < 1000) : ∀ d ∈ ansL xs, Fine 1 60 d := by
  induction xs using snoc_ind with
  | h0 => intro d h; cases h
  | h1 xs p ih =>
    intro d hd
    rw [ansL_snoc] at hd
    rcases List.mem_append.mp hd with h | h
    · exact ih (fun q hq => hi q (List.mem_append_left _ hq)) d h
    · rw [List.mem_singleton.mp h]
      unfold ans1
      split
      · rename_i d' e
        obtain ⟨q, hq, rfl⟩ := look1_mem e
        obtain ⟨i, e2, t, ht⟩ := ai_mem hq
        have := hi _ (List.mem_append_left _ ht)
        have this' : i < 1000 := this
        rw [e2]
        exact (fin_tup (fins_cons (fin_lit "late") (fins_cons (fin_int0 (by omega)) fins_nil))).mono (by decide) (by decide)
      · exact (fin_tup (fins_cons (fin_lit "decides") fins_nil)).mono (by decide) (by decide)
theorem enumD_pt (l : List (Str × Str)) : enumD (l.map ptD) = l.zipIdx.map fun p => PyData.tuple [.int ((p.2 : Nat) : Int), ptD p.1] := by
  unfold enumD
  rw [List.zipIdx_map, List.map_map]
  rfl
theorem firsts_ai_len (xs : List ((Str × Str) × Nat)) : (firsts (xs.map ai)).length ≤ xs.length := by
  have h := firsts_len (xs.map ai)
  rw [List.length_map] at h
  exact h
end
end
end DL.LW

namespace DL.LW
open PySem DL
section
local macro_rules | `(tactic| walk_at "dl1") => `(tactic| first
  | ((with_reducible refine v_oE ?_))
  | ((with_reducible apply v_on1); (focus exact rfl))
  | ((with_reducible refine v_xB ?_))
  | ((with_reducible apply v_oV); (focus exact rfl))
  | ((with_reducible apply v_on2); (focus exact rfl); (focus exact rfl))
  | ((with_reducible apply v_gN); (focus ((repeat (first | exact p_z | apply p_s)))))
  | ((with_reducible refine v_xC ?_))
  | ((with_reducible apply v_xVarD); (focus exact rfl))
  | ((with_reducible refine v_sSeq ?_))
  | ((with_reducible refine v_sAsg ?_))
  | ((with_reducible refine v_sIf ?_))
  | ((with_reducible refine v_bX ?_))
  | ((with_reducible refine v_onB ?_))
  | ((with_reducible refine v_oCons ?_))
  | ((with_reducible refine v_oNil ?_))
  | ((with_reducible refine v_aCons ?_))
  | ((with_reducible refine v_argD ?_))
  | ((with_reducible refine v_argB ?_))
  | ((with_reducible refine v_argO ?_))
  | ((with_reducible refine v_aNil ?_))
  | ((with_reducible refine v_xCB ?_))
  | ((with_reducible apply v_onL); (focus exact rfl))
  | ((with_reducible refine v_xCall ?_))
  | ((with_reducible refine v_xU ?_))
  | ((with_reducible refine v_xAnd ?_))
  | ((with_reducible refine v_xOr ?_))
  | ((with_reducible refine v_xNot ?_))
  | ((with_reducible refine v_xTup ?_))
  | ((with_reducible refine v_xLst ?_))
  | ((with_reducible refine v_xIf ?_))
  | ((with_reducible refine v_bO ?_))
  | ((with_reducible refine v_bAnd ?_))
  | ((with_reducible refine v_bOr ?_))
  | ((with_reducible refine v_bNot ?_))
  | ((with_reducible refine v_bYes ?_))
  | ((with_reducible refine v_wX ?_))
  | ((with_reducible refine v_wRange1 ?_))
  | ((with_reducible refine v_wRange2 ?_))
  | ((with_reducible refine v_gsN ?_))
  | ((with_reducible refine v_gsC ?_))
  | ((with_reducible refine v_pNo ?_))
  | ((with_reducible refine v_pSome ?_))
  | ((with_reducible refine v_xCut ?_))
  | ((with_reducible refine v_xLc ?_))
  | ((with_reducible refine v_sNext ?_))
  | ((with_reducible refine v_sPar ?_))
  | ((with_reducible refine v_sDrop ?_))
  | ((with_reducible refine v_sRet ?_))
  | ((with_reducible refine v_sRetN ?_))
  | ((with_reducible refine v_sBrk ?_))
  | ((with_reducible refine v_sCnt ?_))
  | ((with_reducible refine v_sFor ?_))
  | ((with_reducible refine v_ifT ?_))
  | ((with_reducible refine v_ifF ?_))
  | ((with_reducible refine v_onCmp ?_))
  | ((with_reducible refine v_xCh ?_))
  | ((with_reducible refine v_addI ?_))
  | ((with_reducible refine v_subI ?_))
  | ((with_reducible refine v_eqI ?_))
  | ((with_reducible refine v_neShown (by assumption) ?_))
  | ((with_reducible refine v_eqShown (by assumption) ?_))
  | ((with_reducible refine v_neI ?_))
  | ((with_reducible refine v_is ?_))
  | ((with_reducible refine v_isNot ?_))
  | ((with_reducible refine v_ltI ?_))
  | ((with_reducible refine v_leI ?_))
  | ((with_reducible refine v_gtI ?_))
  | ((with_reducible refine v_geI ?_))
  | ((with_reducible refine v_addT ?_))
  | ((with_reducible refine v_addL ?_))
  | ((with_reducible refine v_addS ?_))
  | ((with_reducible refine v_mulI ?_))
  | ((with_reducible refine v_mulT ?_))
  | ((with_reducible refine v_mulL ?_))
  | ((with_reducible refine v_div ?_))
  | ((with_reducible refine v_mod ?_))
  | ((with_reducible refine v_pow ?_))
  | ((with_reducible refine v_neg ?_))
  | ((with_reducible refine v_eq ?_))
  | ((with_reducible refine v_ne ?_))
  | ((with_reducible refine v_ixL ?_))
  | ((with_reducible refine v_ixT ?_))
  | ((with_reducible refine v_cutL ?_))
  | ((with_reducible refine v_cutT ?_))
  | ((with_reducible refine v_cutS ?_))
  | ((with_reducible refine v_lenL ?_))
  | ((with_reducible refine v_lenT ?_))
  | ((with_reducible refine v_lenS ?_))
  | ((with_reducible refine v_repr ?_))
  | ((with_reducible refine v_tupL ?_))
  | ((with_reducible refine v_tupT ?_))
  | ((with_reducible refine v_lstL ?_))
  | ((with_reducible refine v_lstT ?_))
  | ((with_reducible refine v_intI ?_))
  | ((with_reducible refine v_abs ?_))
  | ((with_reducible refine v_maxI ?_))
  | ((with_reducible refine v_minI ?_))
  | ((with_reducible refine v_dInt ?_))
  | ((with_reducible apply v_tB); (focus exact rfl))
  | ((with_reducible apply v_tI); (focus exact rfl))
  | ((with_reducible apply v_tL); (focus exact rfl))
  | ((with_reducible apply v_tT); (focus exact rfl))
  | ((with_reducible apply v_tN); (focus exact rfl))
  | ((with_reducible apply v_tS); (focus exact rfl))
  | (with_reducible refine v_ifN ?_)
  | (with_reducible refine v_ifNonT ?_)
  | (with_reducible refine v_ifNonI ?_)
  | (with_reducible refine v_ifNonT' ?_)
  | ((with_reducible apply v_onI); (focus exact rfl))
  | ((with_reducible apply v_onX); (focus exact rfl))
  | ((with_reducible apply v_xVarB); (focus exact rfl))
  | ((with_reducible apply v_gT); (focus exact rfl))
  | ((with_reducible apply v_sAug); (focus exact rfl))
  | ((with_reducible apply v_lc); (focus ((try simp only [clrs, putO, put]); exact rfl)))
  | ((with_reducible apply v_cl2); (focus ((try simp only [clrs, putO, put]); exact rfl)))
  | ((with_reducible apply v_bk2); (focus ((try simp only [back, putO, put, sl]); exact rfl)))
  | ((with_reducible apply v_xApp); (focus exact rfl))
  | ((with_reducible apply v_xMt); (focus exact rfl))
  | ((with_reducible apply v_onLO); (focus exact rfl); (focus exact rfl))
  | ((with_reducible refine v_mExt ?_))
  | ((with_reducible apply v_onO); (focus exact rfl))
  | ((with_reducible apply v_xVarO); (focus exact rfl); (focus ((repeat (first | exact p_z | apply p_s)))))
  | ((with_reducible apply v_xMv); (focus exact rfl); (focus ((repeat (first | exact p_z | apply p_s)))))
  | ((with_reducible apply v_onII); (focus exact rfl); (focus exact rfl))
  | ((with_reducible apply v_onDO); (focus exact rfl); (focus exact rfl))
  | ((with_reducible apply v_on3); (focus exact rfl); (focus exact rfl); (focus exact rfl))
  | ((with_reducible refine v_argN ?_))
  | ((with_reducible refine v_tupN ?_))
  | ((with_reducible refine v_wZip ?_))
  | ((with_reducible refine v_avN ?_))
  | ((with_reducible refine v_avC ?_))
  | ((with_reducible refine v_sMul ?_))
  | ((with_reducible refine v_gAllN ?_))
  | ((with_reducible refine v_gAllC ?_))
  | ((with_reducible refine v_xDIn ?_))
  | ((with_reducible refine v_xDNew ?_))
  | ((with_reducible refine v_sDPut ?_))
  | ((with_reducible refine v_xLIdx ?_))
  | ((with_reducible refine v_onSs ?_))
  | ((with_reducible apply v_xDGet); (focus exact rfl))
  | ((with_reducible apply v_exD); (focus exact rfl))
  | ((with_reducible apply v_exL); (focus exact rfl))
  | ((with_reducible apply v_xVarN); (focus exact rfl))
  | ((with_reducible apply v_xTIdx); (focus exact rfl))
  | ((with_reducible apply v_onTT); (focus exact rfl))
  | ((with_reducible apply v_onTTl); (focus exact rfl))
  | ((with_reducible apply v_onDc); (focus exact rfl); (focus exact rfl))
  | ((with_reducible apply v_onSN); (focus exact rfl); (focus exact rfl))
  | ((with_reducible apply v_onLD); (focus exact rfl); (focus exact rfl))
  | ((with_reducible refine v_xDOne ?_ ?_); (focus (intro z; cases z)))
  | ((with_reducible apply v_xLcO); (focus exact rfl); (focus ((repeat (first | exact p_z | apply p_s)))))
  | ((with_reducible apply v_bk3); (focus ((try simp only [back, putO, put, sl]); exact rfl)))
  | ((with_reducible refine v_own1 ?_ ?_); (focus (intro _ e; first | (cases e; done) | (cases e; rfl))))
  | ((with_reducible refine v_own2 ?_ ?_ ?_); (focus (intro _ e; first | (cases e; done) | (cases e; rfl))); (focus (intro _ e; first | (cases e; done) | (cases e; rfl))))
  | ((with_reducible refine v_sRaise ?_))
  | ((with_reducible refine v_sTry ?_))
  | ((with_reducible apply v_onEx); (focus exact rfl); (focus (simp only [List.length_cons, List.length_nil]; omega)))
  | ((with_reducible apply v_onExF); (focus exact rfl))
  | ((with_reducible refine v_hRetT ?_))
  | ((with_reducible refine v_hNil ?_))
  | ((with_reducible refine v_hCons ?_))
  | ((with_reducible refine v_hC ?_))
  | ((with_reducible apply v_hF); (focus exact rfl); (focus exact rfl))
  | ((with_reducible apply v_onTLt); (focus exact rfl))
  | ((with_reducible apply v_onTLl); (focus exact rfl))
  | ((with_reducible refine v_aStar ?_))
  | ((with_reducible apply v_onLA); (focus exact rfl))
  | ((with_reducible refine v_xLc2 ?_))
  | ((with_reducible refine v_sSetI ?_))
  | ((with_reducible refine v_sAugI ?_))
  | ((with_reducible apply v_exO); (focus exact rfl))
  | ((with_reducible apply v_onIO); (focus exact rfl); (focus exact rfl))
  | ((with_reducible apply v_xDGet2); (focus exact rfl))
  | ((with_reducible apply v_onDD); (focus exact rfl); (focus exact rfl); (focus exact rfl))
  | ((with_reducible apply v_xDSetd); (focus exact rfl))
  | ((with_reducible refine v_mulII ?_))
  | ((with_reducible refine v_isTy ?_))
  | ((with_reducible refine v_wEnum ?_))
  | ((with_reducible refine v_inL ?_))
  | ((with_reducible refine v_notInL ?_))
  | ((with_reducible refine v_inS ?_))
  | ((with_reducible refine v_notInS ?_))
  | ((with_reducible refine v_sRaise0 ?_))
  | ((with_reducible refine v_sTryM ?_))
  | ((with_reducible apply v_xLam); (focus ((try simp only [frz, frz1, sl, put]); exact rfl)); (focus ((try simp only [bare, List.map_cons, List.map_nil, bareO]); exact rfl)))
  | ((with_reducible apply v_onLv); (focus exact rfl))
  | ((with_reducible refine v_onLx ?_))
  | ((with_reducible refine v_hRetC ?_))
  | ((with_reducible refine v_intB ?_))
  | ((with_reducible apply v_hIfT); (focus exact rfl))
  | ((with_reducible apply v_hIfF); (focus exact rfl))
  | (with_reducible refine And.intro (Fine.repr (by assumption) (by decide) (by decide)) ?_)
  | (with_reducible refine And.intro (Fine.ok (by assumption) (by decide)) ?_)
  | (with_reducible refine And.intro (Fine.okS (by assumption)) ?_)
  | ((with_reducible refine And.intro ?_ ?_); (focus (first | omega | exact (by decide) | (simp only [List.length_cons, List.length_nil, List.length_map, List.length_range, rangeL_len] <;> omega) | (simp only [List.length_cons, List.length_nil, List.length_append, List.length_map, List.length_range, rangeL_len] <;> omega) | exact Or.inl ⟨by omega, by omega⟩ | exact Or.inr (Or.inl ⟨by omega, by omega⟩)))))
local macro_rules | `(tactic| walk_at "dl") => `(tactic| repeat (walk_at "dl1"))
local macro_rules | `(tactic| walk_at "fn") => `(tactic| simp only [fnSpec, List.map_cons, List.map_nil, List.length_cons, List.length_nil, List.replicate, List.cons_append, List.nil_append, Nat.reduceAdd, Nat.reduceSub, List.replicate_succ, List.replicate_zero])
local macro_rules | `(tactic| walk_at "fine") => `(tactic| repeat (first | assumption | exact fin_none0 | exact fin_bool0 | exact fins_nil | (with_reducible refine fins_cons ?_ ?_) | (with_reducible refine fin_tup ?_) | (with_reducible refine fin_lst ?_) | exact fin_int0 (by omega) | exact fin_lit _))
section
variable {Q : DV → Prop} {E : Err → Prop}
abbrev enP (p : (Str × Str) × Nat) : PyData := .tuple [.int ((p.2 : Nat) : Int), ptD p.1]
theorem ans1_some {m : List (Str × PyData)} {p : (Str × Str) × Nat} {d : PyData} (h : look1 m p.1.1 = some d) : ans1 m p = .tuple [.str "late", d] := by unfold ans1; rw [h]
theorem ans1_none {m : List (Str × PyData)} {p : (Str × Str) × Nat} (h : look1 m p.1.1 = none) : ans1 m p = .tuple [.str "decides"] := by unfold ans1; rw [h]
theorem fA_snoc (xs : List ((Str × Str) × Nat)) (p : (Str × Str) × Nat) : firsts ((xs ++ [p]).map ai) = put1 (firsts (xs.map ai)) (p.1.1, .int ((p.2 : Nat) : Int)) := by
  rw [List.map_append, List.map_singleton, firsts_snoc]
  rfl
theorem answers_ok {l : List (Str × Str)} (hl : LgOk l) (q : Q (.dat (.tuple (ansL l.zipIdx)))) : p_answers [.dat (logD l)] Q E := by
  have hlen := hl.1
  unfold p_answers
  walk_at "fn"
  unfold m_answers
  walk_at "dl"
  rw [enumD_pt]
  refine forL_mapN enP (fun pre r => ∃ a b c, r = [some (.dat (logD l)), some (.dct false ((firsts (pre.map ai)).map kvD)), some (.own (ansL pre)), a, b, c]) ⟨_, _, _, rfl⟩ ?_ ?_
  · rintro pre x post r k bk' e ⟨a, b, c, rfl⟩ hk
    have hm := firsts_ai_len pre
    have hpl : pre.length ≤ 30 := by
      have := congrArg List.length e
      rw [List.length_zipIdx, List.length_append] at this
      omega
    have ha : (ansL pre).length = pre.length := ansGo_len pre []
    have hnd := firsts_nodup (pre.map ai)
    walk_at "dl"
    refine ⟨(by intro z; cases z), ?_⟩
    rw [lookD_kv]
    cases e1 : look1 (firsts (pre.map ai)) x.1.1 with
    | some d =>
      rw [show (false != (some d).isSome) = true from rfl]
      walk_at "dl"
      refine ⟨(by intro z; cases z), ?_⟩
      rw [lookD_kv, e1]
      walk_at "dl"
      refine ⟨(by intro z; cases z), by rw [List.length_map]; omega, ?_⟩
      rw [lookD_kv]
      refine v_onLkS e1 ?_
      walk_at "dl"
      refine hk _ ⟨some (.dat (.int ((x.2 : Nat) : Int))), some (.dat (.str x.1.1)), some (.dat (.str x.1.2)), ?_⟩
      rw [fA_snoc, put1_old e1, ansL_snoc, ans1_some e1]
    | none =>
      rw [show (false != (none : Option PyData).isSome) = false from rfl]
      walk_at "dl"
      refine ⟨(by intro z; cases z), by rw [List.length_map]; omega, ?_⟩
      rw [lookD_kv]
      refine v_onLkN e1 ?_
      walk_at "dl"
      refine hk _ ⟨some (.dat (.int ((x.2 : Nat) : Int))), some (.dat (.str x.1.1)), some (.dat (.str x.1.2)), ?_⟩
      rw [fA_snoc, putD_new e1, ansL_snoc, ans1_none e1]
  · rintro r ⟨a, b, c, rfl⟩
    walk_at "dl"
    exact q
theorem lanswers_ok {l : List (Str × Str)} (hl : LgOk l) (q : Q (.dat (.tuple (ansL l.zipIdx)))) : p__law_answers [.dat (logD l)] Q E := by
  have hlen := hl.1
  unfold p__law_answers
  walk_at "fn"
  unfold m__law_answers
  walk_at "dl"
  rw [enumD_pt]
  refine forL_mapN enP (fun pre r => ∃ a b c, r = [some (.dat (logD l)), some (.own (ansL pre)), some (.dct false ((firsts (pre.map ai)).map kvD)), a, b, c]) ⟨_, _, _, rfl⟩ ?_ ?_
  · rintro pre x post r k bk' e ⟨a, b, c, rfl⟩ hk
    have hm := firsts_ai_len pre
    have hpl : pre.length ≤ 30 := by
      have := congrArg List.length e
      rw [List.length_zipIdx, List.length_append] at this
      omega
    have ha : (ansL pre).length = pre.length := ansGo_len pre []
    have hnd := firsts_nodup (pre.map ai)
    walk_at "dl"
    refine ⟨(by intro z; cases z), ?_⟩
    rw [lookD_kv]
    cases e1 : look1 (firsts (pre.map ai)) x.1.1 with
    | some d =>
      rw [show (false != (some d).isSome) = true from rfl]
      walk_at "dl"
      refine ⟨(by intro z; cases z), ?_⟩
      rw [lookD_kv, e1]
      walk_at "dl"
      refine ⟨(by intro z; cases z), ?_⟩
      rw [lookD_kv, e1]
      walk_at "dl"
      refine ⟨(by intro z; cases z), by rw [List.length_map]; omega, ?_⟩
      walk_at "dl"
      refine hk _ ⟨some (.dat (.int ((x.2 : Nat) : Int))), some (.dat (.str x.1.1)), some (.dat (.str x.1.2)), ?_⟩
      rw [fA_snoc, ansL_snoc, ans1_some e1, Option.getD_some, putD_old hnd e1]
    | none =>
      rw [show (false != (none : Option PyData).isSome) = false from rfl]
      walk_at "dl"
      refine ⟨(by intro z; cases z), ?_⟩
      rw [lookD_kv, e1]
      walk_at "dl"
      refine ⟨(by intro z; cases z), by rw [List.length_map]; omega, ?_⟩
      walk_at "dl"
      refine hk _ ⟨some (.dat (.int ((x.2 : Nat) : Int))), some (.dat (.str x.1.1)), some (.dat (.str x.1.2)), ?_⟩
      rw [fA_snoc, ansL_snoc, ans1_none e1, Option.getD_none, putD_new e1]
  · rintro r ⟨a, b, c, rfl⟩
    walk_at "dl"
    exact q
end
end
end DL.LW

namespace DL.LW
open PySem DL
section
local macro_rules | `(tactic| walk_at "dl1") => `(tactic| first
  | ((with_reducible refine v_oE ?_))
  | ((with_reducible apply v_on1); (focus exact rfl))
  | ((with_reducible refine v_xB ?_))
  | ((with_reducible apply v_oV); (focus exact rfl))
  | ((with_reducible apply v_on2); (focus exact rfl); (focus exact rfl))
  | ((with_reducible apply v_gN); (focus ((repeat (first | exact p_z | apply p_s)))))
  | ((with_reducible refine v_xC ?_))
  | ((with_reducible apply v_xVarD); (focus exact rfl))
  | ((with_reducible refine v_sSeq ?_))
  | ((with_reducible refine v_sAsg ?_))
  | ((with_reducible refine v_sIf ?_))
  | ((with_reducible refine v_bX ?_))
  | ((with_reducible refine v_onB ?_))
  | ((with_reducible refine v_oCons ?_))
  | ((with_reducible refine v_oNil ?_))
  | ((with_reducible refine v_aCons ?_))
  | ((with_reducible refine v_argD ?_))
  | ((with_reducible refine v_argB ?_))
  | ((with_reducible refine v_argO ?_))
  | ((with_reducible refine v_aNil ?_))
  | ((with_reducible refine v_xCB ?_))
  | ((with_reducible apply v_onL); (focus exact rfl))
  | ((with_reducible refine v_xCall ?_))
  | ((with_reducible refine v_xU ?_))
  | ((with_reducible refine v_xAnd ?_))
  | ((with_reducible refine v_xOr ?_))
  | ((with_reducible refine v_xNot ?_))
  | ((with_reducible refine v_xTup ?_))
  | ((with_reducible refine v_xLst ?_))
  | ((with_reducible refine v_xIf ?_))
  | ((with_reducible refine v_bO ?_))
  | ((with_reducible refine v_bAnd ?_))
  | ((with_reducible refine v_bOr ?_))
  | ((with_reducible refine v_bNot ?_))
  | ((with_reducible refine v_bYes ?_))
  | ((with_reducible refine v_wX ?_))
  | ((with_reducible refine v_wRange1 ?_))
  | ((with_reducible refine v_wRange2 ?_))
  | ((with_reducible refine v_gsN ?_))
  | ((with_reducible refine v_gsC ?_))
  | ((with_reducible refine v_pNo ?_))
  | ((with_reducible refine v_pSome ?_))
  | ((with_reducible refine v_xCut ?_))
  | ((with_reducible refine v_xLc ?_))
  | ((with_reducible refine v_sNext ?_))
  | ((with_reducible refine v_sPar ?_))
  | ((with_reducible refine v_sDrop ?_))
  | ((with_reducible refine v_sRet ?_))
  | ((with_reducible refine v_sRetN ?_))
  | ((with_reducible refine v_sBrk ?_))
  | ((with_reducible refine v_sCnt ?_))
  | ((with_reducible refine v_sFor ?_))
  | ((with_reducible refine v_ifT ?_))
  | ((with_reducible refine v_ifF ?_))
  | ((with_reducible refine v_onCmp ?_))
  | ((with_reducible refine v_xCh ?_))
  | ((with_reducible refine v_addI ?_))
  | ((with_reducible refine v_subI ?_))
  | ((with_reducible refine v_eqI ?_))
  | ((with_reducible refine v_neShown (by assumption) ?_))
  | ((with_reducible refine v_eqShown (by assumption) ?_))
  | ((with_reducible refine v_neI ?_))
  | ((with_reducible refine v_is ?_))
  | ((with_reducible refine v_isNot ?_))
  | ((with_reducible refine v_ltI ?_))
  | ((with_reducible refine v_leI ?_))
  | ((with_reducible refine v_gtI ?_))
  | ((with_reducible refine v_geI ?_))
  | ((with_reducible refine v_addT ?_))
  | ((with_reducible refine v_addL ?_))
  | ((with_reducible refine v_addS ?_))
  | ((with_reducible refine v_mulI ?_))
  | ((with_reducible refine v_mulT ?_))
  | ((with_reducible refine v_mulL ?_))
  | ((with_reducible refine v_div ?_))
  | ((with_reducible refine v_mod ?_))
  | ((with_reducible refine v_pow ?_))
  | ((with_reducible refine v_neg ?_))
  | ((with_reducible refine v_eq ?_))
  | ((with_reducible refine v_ne ?_))
  | ((with_reducible refine v_ixL ?_))
  | ((with_reducible refine v_ixT ?_))
  | ((with_reducible refine v_cutL ?_))
  | ((with_reducible refine v_cutT ?_))
  | ((with_reducible refine v_cutS ?_))
  | ((with_reducible refine v_lenL ?_))
  | ((with_reducible refine v_lenT ?_))
  | ((with_reducible refine v_lenS ?_))
  | ((with_reducible refine v_repr ?_))
  | ((with_reducible refine v_tupL ?_))
  | ((with_reducible refine v_tupT ?_))
  | ((with_reducible refine v_lstL ?_))
  | ((with_reducible refine v_lstT ?_))
  | ((with_reducible refine v_intI ?_))
  | ((with_reducible refine v_abs ?_))
  | ((with_reducible refine v_maxI ?_))
  | ((with_reducible refine v_minI ?_))
  | ((with_reducible refine v_dInt ?_))
  | ((with_reducible apply v_tB); (focus exact rfl))
  | ((with_reducible apply v_tI); (focus exact rfl))
  | ((with_reducible apply v_tL); (focus exact rfl))
  | ((with_reducible apply v_tT); (focus exact rfl))
  | ((with_reducible apply v_tN); (focus exact rfl))
  | ((with_reducible apply v_tS); (focus exact rfl))
  | (with_reducible refine v_ifN ?_)
  | (with_reducible refine v_ifNonT ?_)
  | (with_reducible refine v_ifNonI ?_)
  | (with_reducible refine v_ifNonT' ?_)
  | ((with_reducible apply v_onI); (focus exact rfl))
  | ((with_reducible apply v_onX); (focus exact rfl))
  | ((with_reducible apply v_xVarB); (focus exact rfl))
  | ((with_reducible apply v_gT); (focus exact rfl))
  | ((with_reducible apply v_sAug); (focus exact rfl))
  | ((with_reducible apply v_lc); (focus ((try simp only [clrs, putO, put]); exact rfl)))
  | ((with_reducible apply v_cl2); (focus ((try simp only [clrs, putO, put]); exact rfl)))
  | ((with_reducible apply v_bk2); (focus ((try simp only [back, putO, put, sl]); exact rfl)))
  | ((with_reducible apply v_xApp); (focus exact rfl))
  | ((with_reducible apply v_xMt); (focus exact rfl))
  | ((with_reducible apply v_onLO); (focus exact rfl); (focus exact rfl))
  | ((with_reducible refine v_mExt ?_))
  | ((with_reducible apply v_onO); (focus exact rfl))
  | ((with_reducible apply v_xVarO); (focus exact rfl); (focus ((repeat (first | exact p_z | apply p_s)))))
  | ((with_reducible apply v_xMv); (focus exact rfl); (focus ((repeat (first | exact p_z | apply p_s)))))
  | ((with_reducible apply v_onII); (focus exact rfl); (focus exact rfl))
  | ((with_reducible apply v_onDO); (focus exact rfl); (focus exact rfl))
  | ((with_reducible apply v_on3); (focus exact rfl); (focus exact rfl); (focus exact rfl))
  | ((with_reducible refine v_argN ?_))
  | ((with_reducible refine v_tupN ?_))
  | ((with_reducible refine v_wZip ?_))
  | ((with_reducible refine v_avN ?_))
  | ((with_reducible refine v_avC ?_))
  | ((with_reducible refine v_sMul ?_))
  | ((with_reducible refine v_gAllN ?_))
  | ((with_reducible refine v_gAllC ?_))
  | ((with_reducible refine v_xDIn ?_))
  | ((with_reducible refine v_xDNew ?_))
  | ((with_reducible refine v_sDPut ?_))
  | ((with_reducible refine v_xLIdx ?_))
  | ((with_reducible refine v_onSs ?_))
  | ((with_reducible apply v_xDGet); (focus exact rfl))
  | ((with_reducible apply v_exD); (focus exact rfl))
  | ((with_reducible apply v_exL); (focus exact rfl))
  | ((with_reducible apply v_xVarN); (focus exact rfl))
  | ((with_reducible apply v_xTIdx); (focus exact rfl))
  | ((with_reducible apply v_onTT); (focus exact rfl))
  | ((with_reducible apply v_onTTl); (focus exact rfl))
  | ((with_reducible apply v_onDc); (focus exact rfl); (focus exact rfl))
  | ((with_reducible apply v_onSN); (focus exact rfl); (focus exact rfl))
  | ((with_reducible apply v_onLD); (focus exact rfl); (focus exact rfl))
  | ((with_reducible refine v_xDOne ?_ ?_); (focus (intro z; cases z)))
  | ((with_reducible apply v_xLcO); (focus exact rfl); (focus ((repeat (first | exact p_z | apply p_s)))))
  | ((with_reducible apply v_bk3); (focus ((try simp only [back, putO, put, sl]); exact rfl)))
  | ((with_reducible refine v_own1 ?_ ?_); (focus (intro _ e; first | (cases e; done) | (cases e; rfl))))
  | ((with_reducible refine v_own2 ?_ ?_ ?_); (focus (intro _ e; first | (cases e; done) | (cases e; rfl))); (focus (intro _ e; first | (cases e; done) | (cases e; rfl))))
  | ((with_reducible refine v_sRaise ?_))
  | ((with_reducible refine v_sTry ?_))
  | ((with_reducible apply v_onEx); (focus exact rfl); (focus (simp only [List.length_cons, List.length_nil]; omega)))
  | ((with_reducible apply v_onExF); (focus exact rfl))
  | ((with_reducible refine v_hRetT ?_))
  | ((with_reducible refine v_hNil ?_))
  | ((with_reducible refine v_hCons ?_))
  | ((with_reducible refine v_hC ?_))
  | ((with_reducible apply v_hF); (focus exact rfl); (focus exact rfl))
  | ((with_reducible apply v_onTLt); (focus exact rfl))
  | ((with_reducible apply v_onTLl); (focus exact rfl))
  | ((with_reducible refine v_aStar ?_))
  | ((with_reducible apply v_onLA); (focus exact rfl))
  | ((with_reducible refine v_xLc2 ?_))
  | ((with_reducible refine v_sSetI ?_))
  | ((with_reducible refine v_sAugI ?_))
  | ((with_reducible apply v_exO); (focus exact rfl))
  | ((with_reducible apply v_onIO); (focus exact rfl); (focus exact rfl))
  | ((with_reducible apply v_xDGet2); (focus exact rfl))
  | ((with_reducible apply v_onDD); (focus exact rfl); (focus exact rfl); (focus exact rfl))
  | ((with_reducible apply v_xDSetd); (focus exact rfl))
  | ((with_reducible refine v_mulII ?_))
  | ((with_reducible refine v_isTy ?_))
  | ((with_reducible refine v_wEnum ?_))
  | ((with_reducible refine v_inL ?_))
  | ((with_reducible refine v_notInL ?_))
  | ((with_reducible refine v_inS ?_))
  | ((with_reducible refine v_notInS ?_))
  | ((with_reducible refine v_sRaise0 ?_))
  | ((with_reducible refine v_sTryM ?_))
  | ((with_reducible apply v_xLam); (focus ((try simp only [frz, frz1, sl, put]); exact rfl)); (focus ((try simp only [bare, List.map_cons, List.map_nil, bareO]); exact rfl)))
  | ((with_reducible apply v_onLv); (focus exact rfl))
  | ((with_reducible refine v_onLx ?_))
  | ((with_reducible refine v_hRetC ?_))
  | ((with_reducible refine v_intB ?_))
  | ((with_reducible apply v_hIfT); (focus exact rfl))
  | ((with_reducible apply v_hIfF); (focus exact rfl))
  | (with_reducible refine And.intro (Fine.repr (by assumption) (by decide) (by decide)) ?_)
  | (with_reducible refine And.intro (Fine.ok (by assumption) (by decide)) ?_)
  | (with_reducible refine And.intro (Fine.okS (by assumption)) ?_)
  | ((with_reducible refine And.intro ?_ ?_); (focus (first | omega | exact (by decide) | (simp only [List.length_cons, List.length_nil, List.length_map, List.length_range, rangeL_len] <;> omega) | (simp only [List.length_cons, List.length_nil, List.length_append, List.length_map, List.length_range, rangeL_len] <;> omega) | exact Or.inl ⟨by omega, by omega⟩ | exact Or.inr (Or.inl ⟨by omega, by omega⟩)))))
local macro_rules | `(tactic| walk_at "dl") => `(tactic| repeat (walk_at "dl1"))
local macro_rules | `(tactic| walk_at "fn") => `(tactic| simp only [fnSpec, List.map_cons, List.map_nil, List.length_cons, List.length_nil, List.replicate, List.cons_append, List.nil_append, Nat.reduceAdd, Nat.reduceSub, List.replicate_succ, List.replicate_zero])
local macro_rules | `(tactic| walk_at "fine") => `(tactic| repeat (first | assumption | exact fin_none0 | exact fin_bool0 | exact fins_nil | (with_reducible refine fins_cons ?_ ?_) | (with_reducible refine fin_tup ?_) | (with_reducible refine fin_lst ?_) | exact fin_int0 (by omega) | exact fin_lit _))
section
variable {Q : DV → Prop} {E : Err → Prop}
theorem cut_take {xs : List PyData} {n : Nat} (h : n ≤ xs.length) : cutD xs none (some ((n : Nat) : Int)) = xs.take n := by
  unfold cutD
  rw [HT.sIx_nat, HT.sIx_none, Nat.min_eq_left h]
  rfl
theorem no_fltG {α : Type} {xs : List α} {G : α → PyData} : (xs.filter fun _ => false).map G = [] := by
  rw [List.filter_eq_nil_iff.mpr (by simp)]; rfl
theorem pr_fine {l : List (Str × Str)} (hl : LgOk l) {p : Str × PyData} (h : p ∈ fsW l) : Fine 1 82 (prD p) := by
  obtain ⟨w, hw, rfl⟩ := fsW_mem h
  exact fin_pt (hl.2 w hw)
theorem ans_fine {l : List (Str × Str)} (hl : LgOk l) : Fine 2 1830 (.tuple (ansL l.zipIdx)) := by
  have h1 : (ansL l.zipIdx).length ≤ 30 := by
    show (ansGo [] _).length ≤ 30
    rw [ansGo_len, List.length_zipIdx]
    exact hl.1
  refine fin_tup (fins_all (fin_ans fun p hp => ?_) h1)
  have := List.snd_lt_of_mem_zipIdx hp
  have := hl.1
  omega
theorem isIn_self {x : Str × PyData} {ys : List (Str × PyData)} (h : x ∈ ys) {k w : Nat} (f : Fine k w (prD x)) : isIn (prD x) (ys.map prD) = true :=
  List.any_eq_true.mpr ⟨prD x, List.mem_map.mpr ⟨x, h, rfl⟩, f.refl⟩
theorem log_right_ok {l : List (Str × Str)} (hl : LgOk l) (q : Q (.dat (.bool true))) : p__law_is_log_right [.bag, .dat (logD l)] Q E := by
  have hlen := hl.1
  have fl := fin_log hl
  have hn := firsts_nodup (l.map wk)
  have fa := ans_fine hl
  unfold p__law_is_log_right
  walk_at "fn"
  unfold m__law_is_log_right
  walk_at "dl"
  refine ldecided_ok hl fun ys hp hs => ?_
  have hyl : ys.length ≤ 30 := by
    have := fsW_len l
    rw [hp.length_eq]
    omega
  have fyt : Fine 2 2490 (.tuple (ys.map prD)) := fin_tup (fins_map hyl fun p h => pr_fine hl (hp.mem_iff.mp h))
  walk_at "dl"
  refine decided_ok hl fun ys2 hp2 hs2 => ?_
  cases sort_one hn hp2 hs2 hp hs
  walk_at "dl"
  refine answers_ok hl ?_
  walk_at "dl"
  refine lanswers_ok hl ?_
  walk_at "dl"
  refine alike_ok (fin_lst (fins_cons fyt (fins_cons fa fins_nil))) (by decide) (by decide) ?_
  walk_at "dl"
  rw [List.length_map]
  refine take_ok (by omega) (by omega) fun t1 ht0 ht1 => ?_
  walk_at "dl"
  rw [List.length_map]
  refine take_ok (by omega) (by omega) fun t2 ht2 ht3 => ?_
  walk_at "dl"
  refine forL_ivN (fun _ r => ∃ x2 a b c, r = [some .bag, some (.dat (logD l)), x2, some (.dat (.tuple (ys.map prD))), a, b, c] ∧ ∀ dv, c = some dv → dv.hold = false) ⟨_, _, _, _, rfl, fun _ h => by cases h⟩ ?_ ?_
  · rintro j x r k0 bk1 hx ⟨x2, a, b, c, rfl, hc⟩ hk0
    obtain ⟨n, rfl, hnl⟩ : ∃ n : Nat, x = .int ((n : Nat) : Int) ∧ n ≤ l.length := by
      have h := List.mem_of_getElem? hx
      simp only [List.mem_cons, List.not_mem_nil, or_false] at h
      rcases h with rfl | rfl | rfl
      · exact ⟨0, rfl, by omega⟩
      · exact ⟨t1.toNat, by rw [Int.toNat_of_nonneg ht0], by omega⟩
      · exact ⟨t2.toNat, by rw [Int.toNat_of_nonneg ht2], by omega⟩
    clear hx
    have hlt := hl.take n
    have fa2 := ans_fine hlt
    have fe : Fine 1 0 (.list []) := fin_lst fins_nil
    have ee : PyData.eqv (.list []) (.list []) = true := rfl
    walk_at "dl"
    rw [cut_take (by rw [List.length_map]; exact hnl), ← List.map_take]
    walk_at "dl"
    refine decided_ok hlt fun zs hz hsz => ?_
    have hzl : zs.length ≤ 30 := by
      have := fsW_len (l.take n)
      have := hlt.1
      rw [hz.length_eq]
      omega
    walk_at "dl"
    refine v_own1 (fun dv e => hc dv e) ?_
    walk_at "dl"
    refine lcL_flt prD (fun _ => false) prD (by omega) ?_ ?_
    · intro x hx acc K ha hK
      have h1 : x ∈ ys := by
        rw [hp.mem_iff]
        have h2 := firsts_pre _ ((l.drop n).map wk) x (hz.mem_iff.mp hx)
        rw [← List.map_append, List.take_append_drop] at h2
        exact h2
      have fx : Fine 1 82 (prD x) := pr_fine hl (hp.mem_iff.mp h1)
      walk_at "dl"
      refine v_notInT ?_
      walk_at "dl"
      rw [isIn_self h1 fx]
      walk_at "dl"
      exact hK
    rw [no_fltG]
    walk_at "dl"
    rw [ee]
    walk_at "dl"
    refine answers_ok hlt ?_
    walk_at "dl"
    refine answers_ok hl ?_
    walk_at "dl"
    rw [cut_take (by
      show n ≤ (ansGo [] _).length
      rw [ansGo_len, List.length_zipIdx]
      exact hnl), ans_take]
    walk_at "dl"
    rw [fa2.refl]
    walk_at "dl"
    exact hk0 _ ⟨_, _, _, _, rfl, fun dv e => hc dv e⟩
  · rintro r ⟨x2, a, b, c, rfl, hc⟩
    walk_at "dl"
    exact q
end
end
end DL.LW

namespace DL.LW
open PySem DL
section
local macro_rules | `(tactic| walk_at "dl1") => `(tactic| first
  | ((with_reducible refine v_oE ?_))
  | ((with_reducible apply v_on1); (focus exact rfl))
  | ((with_reducible refine v_xB ?_))
  | ((with_reducible apply v_oV); (focus exact rfl))
  | ((with_reducible apply v_on2); (focus exact rfl); (focus exact rfl))
  | ((with_reducible apply v_gN); (focus ((repeat (first | exact p_z | apply p_s)))))
  | ((with_reducible refine v_xC ?_))
  | ((with_reducible apply v_xVarD); (focus exact rfl))
  | ((with_reducible refine v_sSeq ?_))
  | ((with_reducible refine v_sAsg ?_))
  | ((with_reducible refine v_sIf ?_))
  | ((with_reducible refine v_bX ?_))
  | ((with_reducible refine v_onB ?_))
  | ((with_reducible refine v_oCons ?_))
  | ((with_reducible refine v_oNil ?_))
  | ((with_reducible refine v_aCons ?_))
  | ((with_reducible refine v_argD ?_))
  | ((with_reducible refine v_argB ?_))
  | ((with_reducible refine v_argO ?_))
  | ((with_reducible refine v_aNil ?_))
  | ((with_reducible refine v_xCB ?_))
  | ((with_reducible apply v_onL); (focus exact rfl))
  | ((with_reducible refine v_xCall ?_))
  | ((with_reducible refine v_xU ?_))
  | ((with_reducible refine v_xAnd ?_))
  | ((with_reducible refine v_xOr ?_))
  | ((with_reducible refine v_xNot ?_))
  | ((with_reducible refine v_xTup ?_))
  | ((with_reducible refine v_xLst ?_))
  | ((with_reducible refine v_xIf ?_))
  | ((with_reducible refine v_bO ?_))
  | ((with_reducible refine v_bAnd ?_))
  | ((with_reducible refine v_bOr ?_))
  | ((with_reducible refine v_bNot ?_))
  | ((with_reducible refine v_bYes ?_))
  | ((with_reducible refine v_wX ?_))
  | ((with_reducible refine v_wRange1 ?_))
  | ((with_reducible refine v_wRange2 ?_))
  | ((with_reducible refine v_gsN ?_))
  | ((with_reducible refine v_gsC ?_))
  | ((with_reducible refine v_pNo ?_))
  | ((with_reducible refine v_pSome ?_))
  | ((with_reducible refine v_xCut ?_))
  | ((with_reducible refine v_xLc ?_))
  | ((with_reducible refine v_sNext ?_))
  | ((with_reducible refine v_sPar ?_))
  | ((with_reducible refine v_sDrop ?_))
  | ((with_reducible refine v_sRet ?_))
  | ((with_reducible refine v_sRetN ?_))
  | ((with_reducible refine v_sBrk ?_))
  | ((with_reducible refine v_sCnt ?_))
  | ((with_reducible refine v_sFor ?_))
  | ((with_reducible refine v_ifT ?_))
  | ((with_reducible refine v_ifF ?_))
  | ((with_reducible refine v_onCmp ?_))
  | ((with_reducible refine v_xCh ?_))
  | ((with_reducible refine v_addI ?_))
  | ((with_reducible refine v_subI ?_))
  | ((with_reducible refine v_eqI ?_))
  | ((with_reducible refine v_neShown (by assumption) ?_))
  | ((with_reducible refine v_eqShown (by assumption) ?_))
  | ((with_reducible refine v_neI ?_))
  | ((with_reducible refine v_is ?_))
  | ((with_reducible refine v_isNot ?_))
  | ((with_reducible refine v_ltI ?_))
  | ((with_reducible refine v_leI ?_))
  | ((with_reducible refine v_gtI ?_))
  | ((with_reducible refine v_geI ?_))
  | ((with_reducible refine v_addT ?_))
  | ((with_reducible refine v_addL ?_))
  | ((with_reducible refine v_addS ?_))
  | ((with_reducible refine v_mulI ?_))
  | ((with_reducible refine v_mulT ?_))
  | ((with_reducible refine v_mulL ?_))
  | ((with_reducible refine v_div ?_))
  | ((with_reducible refine v_mod ?_))
  | ((with_reducible refine v_pow ?_))
  | ((with_reducible refine v_neg ?_))
  | ((with_reducible refine v_eq ?_))
  | ((with_reducible refine v_ne ?_))
  | ((with_reducible refine v_ixL ?_))
  | ((with_reducible refine v_ixT ?_))
  | ((with_reducible refine v_cutL ?_))
  | ((with_reducible refine v_cutT ?_))
  | ((with_reducible refine v_cutS ?_))
  | ((with_reducible refine v_lenL ?_))
  | ((with_reducible refine v_lenT ?_))
  | ((with_reducible refine v_lenS ?_))
  | ((with_reducible refine v_repr ?_))
  | ((with_reducible refine v_tupL ?_))
  | ((with_reducible refine v_tupT ?_))
  | ((with_reducible refine v_lstL ?_))
  | ((with_reducible refine v_lstT ?_))
  | ((with_reducible refine v_intI ?_))
  | ((with_reducible refine v_abs ?_))
  | ((with_reducible refine v_maxI ?_))
  | ((with_reducible refine v_minI ?_))
  | ((with_reducible refine v_dInt ?_))
  | ((with_reducible apply v_tB); (focus exact rfl))
  | ((with_reducible apply v_tI); (focus exact rfl))
  | ((with_reducible apply v_tL); (focus exact rfl))
  | ((with_reducible apply v_tT); (focus exact rfl))
  | ((with_reducible apply v_tN); (focus exact rfl))
  | ((with_reducible apply v_tS); (focus exact rfl))
  | (with_reducible refine v_ifN ?_)
  | (with_reducible refine v_ifNonT ?_)
  | (with_reducible refine v_ifNonI ?_)
  | (with_reducible refine v_ifNonT' ?_)
  | ((with_reducible apply v_onI); (focus exact rfl))
  | ((with_reducible apply v_onX); (focus exact rfl))
  | ((with_reducible apply v_xVarB); (focus exact rfl))
  | ((with_reducible apply v_gT); (focus exact rfl))
  | ((with_reducible apply v_sAug); (focus exact rfl))
  | ((with_reducible apply v_lc); (focus ((try simp only [clrs, putO, put]); exact rfl)))
  | ((with_reducible apply v_cl2); (focus ((try simp only [clrs, putO, put]); exact rfl)))
  | ((with_reducible apply v_bk2); (focus ((try simp only [back, putO, put, sl]); exact rfl)))
  | ((with_reducible apply v_xApp); (focus exact rfl))
  | ((with_reducible apply v_xMt); (focus exact rfl))
  | ((with_reducible apply v_onLO); (focus exact rfl); (focus exact rfl))
  | ((with_reducible refine v_mExt ?_))
  | ((with_reducible apply v_onO); (focus exact rfl))
  | ((with_reducible apply v_xVarO); (focus exact rfl); (focus ((repeat (first | exact p_z | apply p_s)))))
  | ((with_reducible apply v_xMv); (focus exact rfl); (focus ((repeat (first | exact p_z | apply p_s)))))
  | ((with_reducible apply v_onII); (focus exact rfl); (focus exact rfl))
  | ((with_reducible apply v_onDO); (focus exact rfl); (focus exact rfl))
  | ((with_reducible apply v_on3); (focus exact rfl); (focus exact rfl); (focus exact rfl))
  | ((with_reducible refine v_argN ?_))
  | ((with_reducible refine v_tupN ?_))
  | ((with_reducible refine v_wZip ?_))
  | ((with_reducible refine v_avN ?_))
  | ((with_reducible refine v_avC ?_))
  | ((with_reducible refine v_sMul ?_))
  | ((with_reducible refine v_gAllN ?_))
  | ((with_reducible refine v_gAllC ?_))
  | ((with_reducible refine v_xDIn ?_))
  | ((with_reducible refine v_xDNew ?_))
  | ((with_reducible refine v_sDPut ?_))
  | ((with_reducible refine v_xLIdx ?_))
  | ((with_reducible refine v_onSs ?_))
  | ((with_reducible apply v_xDGet); (focus exact rfl))
  | ((with_reducible apply v_exD); (focus exact rfl))
  | ((with_reducible apply v_exL); (focus exact rfl))
  | ((with_reducible apply v_xVarN); (focus exact rfl))
  | ((with_reducible apply v_xTIdx); (focus exact rfl))
  | ((with_reducible apply v_onTT); (focus exact rfl))
  | ((with_reducible apply v_onTTl); (focus exact rfl))
  | ((with_reducible apply v_onDc); (focus exact rfl); (focus exact rfl))
  | ((with_reducible apply v_onSN); (focus exact rfl); (focus exact rfl))
  | ((with_reducible apply v_onLD); (focus exact rfl); (focus exact rfl))
  | ((with_reducible refine v_xDOne ?_ ?_); (focus (intro z; cases z)))
  | ((with_reducible apply v_xLcO); (focus exact rfl); (focus ((repeat (first | exact p_z | apply p_s)))))
  | ((with_reducible apply v_bk3); (focus ((try simp only [back, putO, put, sl]); exact rfl)))
  | ((with_reducible refine v_own1 ?_ ?_); (focus (intro _ e; first | (cases e; done) | (cases e; rfl))))
  | ((with_reducible refine v_own2 ?_ ?_ ?_); (focus (intro _ e; first | (cases e; done) | (cases e; rfl))); (focus (intro _ e; first | (cases e; done) | (cases e; rfl))))
  | ((with_reducible refine v_sRaise ?_))
  | ((with_reducible refine v_sTry ?_))
  | ((with_reducible apply v_onEx); (focus exact rfl); (focus (simp only [List.length_cons, List.length_nil]; omega)))
  | ((with_reducible apply v_onExF); (focus exact rfl))
  | ((with_reducible refine v_hRetT ?_))
  | ((with_reducible refine v_hNil ?_))
  | ((with_reducible refine v_hCons ?_))
  | ((with_reducible refine v_hC ?_))
  | ((with_reducible apply v_hF); (focus exact rfl); (focus exact rfl))
  | ((with_reducible apply v_onTLt); (focus exact rfl))
  | ((with_reducible apply v_onTLl); (focus exact rfl))
  | ((with_reducible refine v_aStar ?_))
  | ((with_reducible apply v_onLA); (focus exact rfl))
  | ((with_reducible refine v_xLc2 ?_))
  | ((with_reducible refine v_sSetI ?_))
  | ((with_reducible refine v_sAugI ?_))
  | ((with_reducible apply v_exO); (focus exact rfl))
  | ((with_reducible apply v_onIO); (focus exact rfl); (focus exact rfl))
  | ((with_reducible apply v_xDGet2); (focus exact rfl))
  | ((with_reducible apply v_onDD); (focus exact rfl); (focus exact rfl); (focus exact rfl))
  | ((with_reducible apply v_xDSetd); (focus exact rfl))
  | ((with_reducible refine v_mulII ?_))
  | ((with_reducible refine v_isTy ?_))
  | ((with_reducible refine v_wEnum ?_))
  | ((with_reducible refine v_inL ?_))
  | ((with_reducible refine v_notInL ?_))
  | ((with_reducible refine v_inS ?_))
  | ((with_reducible refine v_notInS ?_))
  | ((with_reducible refine v_sRaise0 ?_))
  | ((with_reducible refine v_sTryM ?_))
  | ((with_reducible apply v_xLam); (focus ((try simp only [frz, frz1, sl, put]); exact rfl)); (focus ((try simp only [bare, List.map_cons, List.map_nil, bareO]); exact rfl)))
  | ((with_reducible apply v_onLv); (focus exact rfl))
  | ((with_reducible refine v_onLx ?_))
  | ((with_reducible refine v_hRetC ?_))
  | ((with_reducible refine v_intB ?_))
  | ((with_reducible apply v_hIfT); (focus exact rfl))
  | ((with_reducible apply v_hIfF); (focus exact rfl))
  | (with_reducible refine And.intro (Fine.repr (by assumption) (by decide) (by decide)) ?_)
  | (with_reducible refine And.intro (Fine.ok (by assumption) (by decide)) ?_)
  | (with_reducible refine And.intro (Fine.okS (by assumption)) ?_)
  | ((with_reducible refine And.intro ?_ ?_); (focus (first | omega | exact (by decide) | (simp only [List.length_cons, List.length_nil, List.length_map, List.length_range, rangeL_len] <;> omega) | (simp only [List.length_cons, List.length_nil, List.length_append, List.length_map, List.length_range, rangeL_len] <;> omega) | exact Or.inl ⟨by omega, by omega⟩ | exact Or.inr (Or.inl ⟨by omega, by omega⟩)))))
local macro_rules | `(tactic| walk_at "dl") => `(tactic| repeat (walk_at "dl1"))
local macro_rules | `(tactic| walk_at "fn") => `(tactic| simp only [fnSpec, List.map_cons, List.map_nil, List.length_cons, List.length_nil, List.replicate, List.cons_append, List.nil_append, Nat.reduceAdd, Nat.reduceSub, List.replicate_succ, List.replicate_zero])
local macro_rules | `(tactic| walk_at "fine") => `(tactic| repeat (first | assumption | exact fin_none0 | exact fin_bool0 | exact fins_nil | (with_reducible refine fins_cons ?_ ?_) | (with_reducible refine fin_tup ?_) | (with_reducible refine fin_lst ?_) | exact fin_int0 (by omega) | exact fin_lit _))
section
variable {Q : DV → Prop} {E : Err → Prop}
theorem mixedG_ok {α : Type} {ss : List α} {F : α → PyData} (hs : ∀ z ∈ ss, Fine 0 40 (F z)) (hl : ss.length ≤ 100) (q : ∀ ys : List α, ys.Perm ss → Q (.own (ys.map F))) : p__law_mixed [.bag, .dat (.list (ss.map F))] Q E := by
  unfold p__law_mixed
  walk_at "fn"
  unfold m__law_mixed
  walk_at "dl"
  refine v_sWhile (fun m r => ∃ left found : List α, m = left.length ∧ (found ++ left).Perm ss ∧ r = [some .bag, some (.dat (.list (ss.map F))), some (.own (left.map F)), some (.own (found.map F))]) ss.length ⟨ss, [], rfl, .refl _, rfl⟩ ?_
  rintro m r ⟨left, found, rfl, hp, rfl⟩
  have hlen := hp.length_eq
  rw [List.length_append] at hlen
  have f1 : Fine 1 4100 (.list (left.map F)) := fin_lst (fins_map (n := 100) (by omega) fun z hz => hs z (hp.mem_iff.mp (List.mem_append_right _ hz)))
  have f2 : Fine 1 0 (.list []) := fin_lst fins_nil
  walk_at "dl"
  cases left with
  | nil =>
    rw [show PyData.eqv (.list (List.map F [])) (.list []) = true from rfl]
    walk_at "dl"
    exact q found (by rw [List.append_nil] at hp; exact hp)
  | cons z t =>
    rw [show PyData.eqv (.list (List.map F (z :: t))) (.list []) = false from rfl]
    walk_at "dl"
    rw [List.length_map]
    refine take_ok (by rw [List.length_cons]; omega) (by omega) fun k hk0 hk1 => ?_
    obtain ⟨j, rfl⟩ := Int.eq_ofNat_of_zero_le hk0
    have hj : j < (z :: t).length := by omega
    walk_at "dl"
    refine v_mPop (j := j) (y := F (z :: t)[j]) rfl (by rw [List.getElem?_map, List.getElem?_eq_getElem hj]; rfl) (by rw [List.length_map]; omega) ?_
    walk_at "dl"
    refine ⟨((z :: t).eraseIdx j).length, by rw [List.length_eraseIdx_of_lt hj, List.length_cons]; omega, (z :: t).eraseIdx j, found ++ [(z :: t)[j]], rfl, ?_, ?_⟩
    · refine List.Perm.trans ?_ hp
      rw [List.append_assoc]
      exact List.Perm.append_left _ (erase_perm _ j hj)
    · rw [List.map_append, erase_map]
      rfl
theorem pts_of {R : Str × Str → Prop} : ∀ {ys : List PyData}, (∀ y ∈ ys, ∃ p, y = ptD p ∧ R p) → ∃ l : List (Str × Str), ys = l.map ptD ∧ ∀ p ∈ l, R p
  | [], _ => ⟨[], rfl, fun _ h => by cases h⟩
  | y :: ys, h => by
    obtain ⟨p, rfl, hp⟩ := h y (List.mem_cons_self ..)
    obtain ⟨l, rfl, hl⟩ := pts_of fun z hz => h z (List.mem_cons_of_mem _ hz)
    refine ⟨p :: l, rfl, fun q hq => ?_⟩
    rcases List.mem_cons.mp hq with rfl | hq
    · exact hp
    · exact hl q hq
theorem word_log_ok {ts : List Str} {m : Nat} (h0 : 0 < ts.length) (h1 : ts.length ≤ 12) (ht : ∀ t ∈ ts, t ∈ names12) (hm : m ≤ 30) (q : ∀ l, LgOk l → l.length ≤ m → Q (.dat (logD l))) : p__law_word_log [.bag, .dat (.list (ts.map .str)), .dat (.int ((m : Nat) : Int))] Q E := by
  unfold p__law_word_log
  walk_at "fn"
  unfold m__law_word_log
  walk_at "dl"
  refine take_ok (by omega) (by omega) fun k hk0 hk1 => ?_
  walk_at "dl"
  refine lcL_iv (fun i acc r => (acc.length = i ∧ ∀ y ∈ acc, ∃ p, y = ptD p ∧ p.1 ∈ names12 ∧ p.2 ∈ words4) ∧ ∃ x3, r = [some .bag, some (.dat (.list (ts.map .str))), some (.dat (.int ((m : Nat) : Int))), some x3, none] ∧ (x3 = .own (words4.map .str) ∨ x3 = .dat (.list (words4.map .str)))) ⟨⟨rfl, fun _ h => by cases h⟩, _, rfl, .inl rfl⟩ ?_ ?_
  · rintro i x acc r K hx ⟨⟨hl, hy⟩, x3, rfl, h3⟩ hK
    have hi : i < (k - 0).toNat := by
      have := (List.getElem?_eq_some_iff.mp hx).1
      rw [rangeL_len] at this
      exact this
    walk_at "dl"
    refine some_ok (by rw [List.length_map]; omega) (by rw [List.length_map]; omega) fun d hd => ?_
    obtain ⟨t, htm, rfl⟩ := List.mem_map.mp hd
    have key : ∀ d ∈ words4.map PyData.str, ∃ w ∈ words4, d = .str w := fun d hd => by
      obtain ⟨w, hw, rfl⟩ := List.mem_map.mp hd
      exact ⟨w, hw, rfl⟩
    have fin : ∀ w ∈ words4, (∀ y ∈ acc ++ [ptD (t, w)], ∃ p, y = ptD p ∧ p.1 ∈ names12 ∧ p.2 ∈ words4) := fun w hw y hyy => by
      rcases List.mem_append.mp hyy with h | h
      · exact hy y h
      · rw [List.mem_singleton.mp h]
        exact ⟨(t, w), rfl, ht t htm, hw⟩
    rcases h3 with rfl | rfl
    · walk_at "dl"
      refine some_ok (by decide) (by decide) fun d hd2 => ?_
      obtain ⟨w, hw, rfl⟩ := key d hd2
      walk_at "dl"
      exact hK _ _ ⟨⟨by rw [List.length_append, hl]; rfl, fin w hw⟩, _, rfl, .inr rfl⟩
    · walk_at "dl"
      refine some_ok (by decide) (by decide) fun d hd2 => ?_
      obtain ⟨w, hw, rfl⟩ := key d hd2
      walk_at "dl"
      exact hK _ _ ⟨⟨by rw [List.length_append, hl]; rfl, fin w hw⟩, _, rfl, .inr rfl⟩
  · rintro acc r ⟨⟨hl, hy⟩, x3, rfl, h3⟩
    rw [rangeL_len] at hl
    obtain ⟨l, rfl, hp⟩ := pts_of hy
    rw [List.length_map] at hl
    rcases h3 with rfl | rfl
    · walk_at "dl"
      exact q l ⟨by omega, hp⟩ (by omega)
    · walk_at "dl"
      exact q l ⟨by omega, hp⟩ (by omega)
end
end
end DL.LW

namespace DL.LW
open PySem DL
section
local macro_rules | `(tactic| walk_at "dl1") => `(tactic| first
  | ((with_reducible refine v_oE ?_))
  | ((with_reducible apply v_on1); (focus exact rfl))
  | ((with_reducible refine v_xB ?_))
  | ((with_reducible apply v_oV); (focus exact rfl))
  | ((with_reducible apply v_on2); (focus exact rfl); (focus exact rfl))
  | ((with_reducible apply v_gN); (focus ((repeat (first | exact p_z | apply p_s)))))
  | ((with_reducible refine v_xC ?_))
  | ((with_reducible apply v_xVarD); (focus exact rfl))
  | ((with_reducible refine v_sSeq ?_))
  | ((with_reducible refine v_sAsg ?_))
  | ((with_reducible refine v_sIf ?_))
  | ((with_reducible refine v_bX ?_))
  | ((with_reducible refine v_onB ?_))
  | ((with_reducible refine v_oCons ?_))
  | ((with_reducible refine v_oNil ?_))
  | ((with_reducible refine v_aCons ?_))
  | ((with_reducible refine v_argD ?_))
  | ((with_reducible refine v_argB ?_))
  | ((with_reducible refine v_argO ?_))
  | ((with_reducible refine v_aNil ?_))
  | ((with_reducible refine v_xCB ?_))
  | ((with_reducible apply v_onL); (focus exact rfl))
  | ((with_reducible refine v_xCall ?_))
  | ((with_reducible refine v_xU ?_))
  | ((with_reducible refine v_xAnd ?_))
  | ((with_reducible refine v_xOr ?_))
  | ((with_reducible refine v_xNot ?_))
  | ((with_reducible refine v_xTup ?_))
  | ((with_reducible refine v_xLst ?_))
  | ((with_reducible refine v_xIf ?_))
  | ((with_reducible refine v_bO ?_))
  | ((with_reducible refine v_bAnd ?_))
  | ((with_reducible refine v_bOr ?_))
  | ((with_reducible refine v_bNot ?_))
  | ((with_reducible refine v_bYes ?_))
  | ((with_reducible refine v_wX ?_))
  | ((with_reducible refine v_wRange1 ?_))
  | ((with_reducible refine v_wRange2 ?_))
  | ((with_reducible refine v_gsN ?_))
  | ((with_reducible refine v_gsC ?_))
  | ((with_reducible refine v_pNo ?_))
  | ((with_reducible refine v_pSome ?_))
  | ((with_reducible refine v_xCut ?_))
  | ((with_reducible refine v_xLc ?_))
  | ((with_reducible refine v_sNext ?_))
  | ((with_reducible refine v_sPar ?_))
  | ((with_reducible refine v_sDrop ?_))
  | ((with_reducible refine v_sRet ?_))
  | ((with_reducible refine v_sRetN ?_))
  | ((with_reducible refine v_sBrk ?_))
  | ((with_reducible refine v_sCnt ?_))
  | ((with_reducible refine v_sFor ?_))
  | ((with_reducible refine v_ifT ?_))
  | ((with_reducible refine v_ifF ?_))
  | ((with_reducible refine v_onCmp ?_))
  | ((with_reducible refine v_xCh ?_))
  | ((with_reducible refine v_addI ?_))
  | ((with_reducible refine v_subI ?_))
  | ((with_reducible refine v_eqI ?_))
  | ((with_reducible refine v_neShown (by assumption) ?_))
  | ((with_reducible refine v_eqShown (by assumption) ?_))
  | ((with_reducible refine v_neI ?_))
  | ((with_reducible refine v_is ?_))
  | ((with_reducible refine v_isNot ?_))
  | ((with_reducible refine v_ltI ?_))
  | ((with_reducible refine v_leI ?_))
  | ((with_reducible refine v_gtI ?_))
  | ((with_reducible refine v_geI ?_))
  | ((with_reducible refine v_addT ?_))
  | ((with_reducible refine v_addL ?_))
  | ((with_reducible refine v_addS ?_))
  | ((with_reducible refine v_mulI ?_))
  | ((with_reducible refine v_mulT ?_))
  | ((with_reducible refine v_mulL ?_))
  | ((with_reducible refine v_div ?_))
  | ((with_reducible refine v_mod ?_))
  | ((with_reducible refine v_pow ?_))
  | ((with_reducible refine v_neg ?_))
  | ((with_reducible refine v_eq ?_))
  | ((with_reducible refine v_ne ?_))
  | ((with_reducible refine v_ixL ?_))
  | ((with_reducible refine v_ixT ?_))
  | ((with_reducible refine v_cutL ?_))
  | ((with_reducible refine v_cutT ?_))
  | ((with_reducible refine v_cutS ?_))
  | ((with_reducible refine v_lenL ?_))
  | ((with_reducible refine v_lenT ?_))
  | ((with_reducible refine v_lenS ?_))
  | ((with_reducible refine v_repr ?_))
  | ((with_reducible refine v_tupL ?_))
  | ((with_reducible refine v_tupT ?_))
  | ((with_reducible refine v_lstL ?_))
  | ((with_reducible refine v_lstT ?_))
  | ((with_reducible refine v_intI ?_))
  | ((with_reducible refine v_abs ?_))
  | ((with_reducible refine v_maxI ?_))
  | ((with_reducible refine v_minI ?_))
  | ((with_reducible refine v_dInt ?_))
  | ((with_reducible apply v_tB); (focus exact rfl))
  | ((with_reducible apply v_tI); (focus exact rfl))
  | ((with_reducible apply v_tL); (focus exact rfl))
  | ((with_reducible apply v_tT); (focus exact rfl))
  | ((with_reducible apply v_tN); (focus exact rfl))
  | ((with_reducible apply v_tS); (focus exact rfl))
  | (with_reducible refine v_ifN ?_)
  | (with_reducible refine v_ifNonT ?_)
  | (with_reducible refine v_ifNonI ?_)
  | (with_reducible refine v_ifNonT' ?_)
  | ((with_reducible apply v_onI); (focus exact rfl))
  | ((with_reducible apply v_onX); (focus exact rfl))
  | ((with_reducible apply v_xVarB); (focus exact rfl))
  | ((with_reducible apply v_gT); (focus exact rfl))
  | ((with_reducible apply v_sAug); (focus exact rfl))
  | ((with_reducible apply v_lc); (focus ((try simp only [clrs, putO, put]); exact rfl)))
  | ((with_reducible apply v_cl2); (focus ((try simp only [clrs, putO, put]); exact rfl)))
  | ((with_reducible apply v_bk2); (focus ((try simp only [back, putO, put, sl]); exact rfl)))
  | ((with_reducible apply v_xApp); (focus exact rfl))
  | ((with_reducible apply v_xMt); (focus exact rfl))
  | ((with_reducible apply v_onLO); (focus exact rfl); (focus exact rfl))
  | ((with_reducible refine v_mExt ?_))
  | ((with_reducible apply v_onO); (focus exact rfl))
  | ((with_reducible apply v_xVarO); (focus exact rfl); (focus ((repeat (first | exact p_z | apply p_s)))))
  | ((with_reducible apply v_xMv); (focus exact rfl); (focus ((repeat (first | exact p_z | apply p_s)))))
  | ((with_reducible apply v_onII); (focus exact rfl); (focus exact rfl))
  | ((with_reducible apply v_onDO); (focus exact rfl); (focus exact rfl))
  | ((with_reducible apply v_on3); (focus exact rfl); (focus exact rfl); (focus exact rfl))
  | ((with_reducible refine v_argN ?_))
  | ((with_reducible refine v_tupN ?_))
  | ((with_reducible refine v_wZip ?_))
  | ((with_reducible refine v_avN ?_))
  | ((with_reducible refine v_avC ?_))
  | ((with_reducible refine v_sMul ?_))
  | ((with_reducible refine v_gAllN ?_))
  | ((with_reducible refine v_gAllC ?_))
  | ((with_reducible refine v_xDIn ?_))
  | ((with_reducible refine v_xDNew ?_))
  | ((with_reducible refine v_sDPut ?_))
  | ((with_reducible refine v_xLIdx ?_))
  | ((with_reducible refine v_onSs ?_))
  | ((with_reducible apply v_xDGet); (focus exact rfl))
  | ((with_reducible apply v_exD); (focus exact rfl))
  | ((with_reducible apply v_exL); (focus exact rfl))
  | ((with_reducible apply v_xVarN); (focus exact rfl))
  | ((with_reducible apply v_xTIdx); (focus exact rfl))
  | ((with_reducible apply v_onTT); (focus exact rfl))
  | ((with_reducible apply v_onTTl); (focus exact rfl))
  | ((with_reducible apply v_onDc); (focus exact rfl); (focus exact rfl))
  | ((with_reducible apply v_onSN); (focus exact rfl); (focus exact rfl))
  | ((with_reducible apply v_onLD); (focus exact rfl); (focus exact rfl))
  | ((with_reducible refine v_xDOne ?_ ?_); (focus (intro z; cases z)))
  | ((with_reducible apply v_xLcO); (focus exact rfl); (focus ((repeat (first | exact p_z | apply p_s)))))
  | ((with_reducible apply v_bk3); (focus ((try simp only [back, putO, put, sl]); exact rfl)))
  | ((with_reducible refine v_own1 ?_ ?_); (focus (intro _ e; first | (cases e; done) | (cases e; rfl))))
  | ((with_reducible refine v_own2 ?_ ?_ ?_); (focus (intro _ e; first | (cases e; done) | (cases e; rfl))); (focus (intro _ e; first | (cases e; done) | (cases e; rfl))))
  | ((with_reducible refine v_sRaise ?_))
  | ((with_reducible refine v_sTry ?_))
  | ((with_reducible apply v_onEx); (focus exact rfl); (focus (simp only [List.length_cons, List.length_nil]; omega)))
  | ((with_reducible apply v_onExF); (focus exact rfl))
  | ((with_reducible refine v_hRetT ?_))
  | ((with_reducible refine v_hNil ?_))
  | ((with_reducible refine v_hCons ?_))
  | ((with_reducible refine v_hC ?_))
  | ((with_reducible apply v_hF); (focus exact rfl); (focus exact rfl))
  | ((with_reducible apply v_onTLt); (focus exact rfl))
  | ((with_reducible apply v_onTLl); (focus exact rfl))
  | ((with_reducible refine v_aStar ?_))
  | ((with_reducible apply v_onLA); (focus exact rfl))
  | ((with_reducible refine v_xLc2 ?_))
  | ((with_reducible refine v_sSetI ?_))
  | ((with_reducible refine v_sAugI ?_))
  | ((with_reducible apply v_exO); (focus exact rfl))
  | ((with_reducible apply v_onIO); (focus exact rfl); (focus exact rfl))
  | ((with_reducible apply v_xDGet2); (focus exact rfl))
  | ((with_reducible apply v_onDD); (focus exact rfl); (focus exact rfl); (focus exact rfl))
  | ((with_reducible apply v_xDSetd); (focus exact rfl))
  | ((with_reducible refine v_mulII ?_))
  | ((with_reducible refine v_isTy ?_))
  | ((with_reducible refine v_wEnum ?_))
  | ((with_reducible refine v_inL ?_))
  | ((with_reducible refine v_notInL ?_))
  | ((with_reducible refine v_inS ?_))
  | ((with_reducible refine v_notInS ?_))
  | ((with_reducible refine v_sRaise0 ?_))
  | ((with_reducible refine v_sTryM ?_))
  | ((with_reducible apply v_xLam); (focus ((try simp only [frz, frz1, sl, put]); exact rfl)); (focus ((try simp only [bare, List.map_cons, List.map_nil, bareO]); exact rfl)))
  | ((with_reducible apply v_onLv); (focus exact rfl))
  | ((with_reducible refine v_onLx ?_))
  | ((with_reducible refine v_hRetC ?_))
  | ((with_reducible refine v_intB ?_))
  | ((with_reducible apply v_hIfT); (focus exact rfl))
  | ((with_reducible apply v_hIfF); (focus exact rfl))
  | (with_reducible refine And.intro (Fine.repr (by assumption) (by decide) (by decide)) ?_)
  | (with_reducible refine And.intro (Fine.ok (by assumption) (by decide)) ?_)
  | (with_reducible refine And.intro (Fine.okS (by assumption)) ?_)
  | ((with_reducible refine And.intro ?_ ?_); (focus (first | omega | exact (by decide) | (simp only [List.length_cons, List.length_nil, List.length_map, List.length_range, rangeL_len] <;> omega) | (simp only [List.length_cons, List.length_nil, List.length_append, List.length_map, List.length_range, rangeL_len] <;> omega) | exact Or.inl ⟨by omega, by omega⟩ | exact Or.inr (Or.inl ⟨by omega, by omega⟩)))))
local macro_rules | `(tactic| walk_at "dl") => `(tactic| repeat (walk_at "dl1"))
local macro_rules | `(tactic| walk_at "fn") => `(tactic| simp only [fnSpec, List.map_cons, List.map_nil, List.length_cons, List.length_nil, List.replicate, List.cons_append, List.nil_append, Nat.reduceAdd, Nat.reduceSub, List.replicate_succ, List.replicate_zero])
local macro_rules | `(tactic| walk_at "fine") => `(tactic| repeat (first | assumption | exact fin_none0 | exact fin_bool0 | exact fins_nil | (with_reducible refine fins_cons ?_ ?_) | (with_reducible refine fin_tup ?_) | (with_reducible refine fin_lst ?_) | exact fin_int0 (by omega) | exact fin_lit _))
section
variable {Q : DV → Prop} {E : Err → Prop}
theorem getD_eq {α : Type} {l : List α} {i : Nat} {d : α} (h : i < l.length) : l.getD i d = l[i] := by
  rw [List.getD_eq_getElem?_getD, List.getElem?_eq_getElem h]
  rfl
abbrev HsD (hs : List (List (Str × Str))) : PyData := .tuple (hs.map logD)
abbrev nD (h : Nat) : PyData := .int ((h : Nat) : Int)
abbrev orD (o : List Nat) : PyData := .tuple (o.map nD)
/-- the hand that writes next; what it writes -/
def od (o : List Nat) (i : Nat) : Nat := o.getD i 0
def lb (hs : List (List (Str × Str))) (o : List Nat) (i : Nat) : Str × Str := (hs.getD (od o i) []).getD ((o.take i).count (od o i)) ("", "")
def lbs (hs : List (List (Str × Str))) (o : List Nat) (n : Nat) : List (Str × Str) := (List.range n).map (lb hs o)
def spots (hs : List (List (Str × Str))) (o : List Nat) (i : Nat) : List PyData := (List.range hs.length).map fun h => nD ((o.take i).count h)
structure OrOk (hs : List (List (Str × Str))) (o : List Nat) : Prop where
  lt : ∀ h ∈ o, h < hs.length
  cnt : ∀ h, o.count h ≤ (hs.getD h []).length
  ok : ∀ l ∈ hs, LgOk l
  few : o.length ≤ 30
  hl : hs.length ≤ 10
section
variable {hs : List (List (Str × Str))} {o : List Nat} (P : OrOk hs o)
include P
theorem od_mem {i : Nat} (hi : i < o.length) : od o i ∈ o := by
  unfold od
  rw [getD_eq hi]
  exact List.getElem_mem hi
theorem od_lt {i : Nat} (hi : i < o.length) : od o i < hs.length := P.lt _ (od_mem P hi)
theorem cnt_lt {i : Nat} (hi : i < o.length) : (o.take i).count (od o i) < (hs.getD (od o i) []).length := by
  have e : o = o.take i ++ od o i :: o.drop (i + 1) := by
    unfold od
    rw [getD_eq hi, ← List.drop_eq_getElem_cons hi, List.take_append_drop]
  have c := P.cnt (od o i)
  have e2 := congrArg (List.count (od o i)) e
  rw [List.count_append, List.count_cons_self] at e2
  omega
theorem at_hand {i : Nat} (hi : i < o.length) : L2.atI (hs.map logD) ((od o i : Nat) : Int) = some (logD (hs.getD (od o i) [])) := by
  have h := od_lt P hi
  rw [getD_eq h]
  exact L2.atI_nat (by rw [List.getElem?_map, List.getElem?_eq_getElem h]; rfl)
theorem at_spot {i : Nat} (hi : i < o.length) (j : Nat) : L2.atI (spots hs o j) ((od o i : Nat) : Int) = some (nD ((o.take j).count (od o i))) := by
  have h := od_lt P hi
  exact L2.atI_nat (by unfold spots; rw [List.getElem?_map, List.getElem?_range h]; rfl)
theorem at_row {i : Nat} (hi : i < o.length) : L2.atI ((hs.getD (od o i) []).map ptD) (((o.take i).count (od o i) : Nat) : Int) = some (ptD (lb hs o i)) := by
  have h := cnt_lt P hi
  refine L2.atI_nat ?_
  rw [List.getElem?_map, List.getElem?_eq_getElem h]
  unfold lb
  rw [getD_eq h]
  rfl
theorem lb_ok {i : Nat} (hi : i < o.length) : (lb hs o i).1 ∈ names12 ∧ (lb hs o i).2 ∈ words4 := by
  have h := cnt_lt P hi
  have h2 := od_lt P hi
  unfold lb
  rw [getD_eq h]
  have m : hs.getD (od o i) [] ∈ hs := by rw [getD_eq h2]; exact List.getElem_mem h2
  exact (P.ok _ m).2 _ (List.getElem_mem h)
theorem lbs_ok : LgOk (lbs hs o o.length) := by
  refine ⟨by unfold lbs; rw [List.length_map, List.length_range]; exact P.few, fun p hp => ?_⟩
  obtain ⟨i, hi, rfl⟩ := List.mem_map.mp hp
  exact lb_ok P (List.mem_range.mp hi)
theorem spots_zero : (List.replicate hs.length [PyData.int 0]).flatten = spots hs o 0 := by
  unfold spots
  rw [List.take_zero]
  refine List.ext_getElem? fun i => ?_
  have e : ∀ n : Nat, (List.replicate n [PyData.int 0]).flatten = List.replicate n (PyData.int 0) := fun n => by
    induction n with
    | zero => rfl
    | succ n ih => rw [List.replicate_succ, List.flatten_cons, ih]; rfl
  rw [e, List.getElem?_replicate, List.getElem?_map]
  by_cases h : i < hs.length
  · rw [if_pos h, List.getElem?_range h]; rfl
  · rw [if_neg h, List.getElem?_eq_none (by rw [List.length_range]; omega)]; rfl
theorem spots_set {i : Nat} (hi : i < o.length) : (spots hs o i).set (od o i) (.int ((((o.take i).count (od o i) : Nat) : Int) + 1)) = spots hs o (i + 1) := by
  have e : o.take (i + 1) = o.take i ++ [od o i] := by
    unfold od
    rw [getD_eq hi, List.take_append_getElem]
  refine List.ext_getElem? fun k => ?_
  unfold spots
  rw [List.getElem?_set, List.getElem?_map, List.length_map, List.length_range]
  by_cases hk : od o i = k
  · subst hk
    have h := od_lt P hi
    rw [if_pos rfl, if_pos h, List.getElem?_map, List.getElem?_range h, e]
    simp only [Option.map_some, List.count_append, List.count_cons_self, List.count_nil, Nat.zero_add]
    rfl
  · rw [if_neg hk, List.getElem?_map, e]
    by_cases h : k < hs.length
    · rw [List.getElem?_range h]
      simp only [Option.map_some, List.count_append]
      rw [show List.count k [od o i] = 0 from by rw [List.count_singleton]; simp [hk]]
      rfl
    · rw [List.getElem?_eq_none (by rw [List.length_range]; omega)]
      rfl
omit P in
theorem lbs_succ (hs : List (List (Str × Str))) (o : List Nat) (i : Nat) : (lbs hs o (i + 1)).map ptD = (lbs hs o i).map ptD ++ [ptD (lb hs o i)] := by
  unfold lbs
  rw [List.range_succ, List.map_append, List.map_append]
  rfl
theorem log_by_ok (q : Q (.dat (logD (lbs hs o o.length)))) : p_log_by [.dat (HsD hs), .dat (orD o)] Q E := by
  have hl := P.hl
  have few := P.few
  unfold p_log_by
  walk_at "fn"
  unfold m_log_by
  walk_at "dl"
  rw [List.length_map, Int.toNat_natCast, spots_zero P]
  refine forL_ivN (fun i r => ∃ x4, r = [some (.dat (HsD hs)), some (.dat (orD o)), some (.own (spots hs o i)), some (.own ((lbs hs o i).map ptD)), x4]) ⟨_, rfl⟩ ?_ ?_
  · rintro i x r k0 bk0 hx ⟨x4, rfl⟩ hk0
    have hi : i < o.length := by
      have h := (List.getElem?_eq_some_iff.mp hx).1
      rw [List.length_map] at h
      exact h
    obtain rfl : x = nD (od o i) := by
      rw [List.getElem?_map, List.getElem?_eq_getElem hi] at hx
      unfold od
      rw [getD_eq hi]
      exact (Option.some.inj hx).symm
    have hll : (lbs hs o i).length = i := by unfold lbs; rw [List.length_map, List.length_range]
    walk_at "dl"
    rw [at_hand P hi]
    walk_at "dl"
    rw [at_spot P hi]
    walk_at "dl"
    rw [at_row P hi]
    walk_at "dl"
    rw [at_spot P hi]
    walk_at "dl"
    refine ⟨od o i, ixN_at (by unfold spots; rw [List.length_map, List.length_range]; exact od_lt P hi), ?_⟩
    rw [spots_set P hi]
    walk_at "dl"
    exact hk0 _ ⟨_, by rw [lbs_succ]⟩
  · rintro r ⟨x4, rfl⟩
    rw [List.length_map]
    have hll : (lbs hs o o.length).length = o.length := by unfold lbs; rw [List.length_map, List.length_range]
    walk_at "dl"
    exact q
end
end
end
end DL.LW

namespace DL.LW
open PySem DL
section
local macro_rules | `(tactic| walk_at "dl1") => `(tactic| first
  | ((with_reducible refine v_oE ?_))
  | ((with_reducible apply v_on1); (focus exact rfl))
  | ((with_reducible refine v_xB ?_))
  | ((with_reducible apply v_oV); (focus exact rfl))
  | ((with_reducible apply v_on2); (focus exact rfl); (focus exact rfl))
  | ((with_reducible apply v_gN); (focus ((repeat (first | exact p_z | apply p_s)))))
  | ((with_reducible refine v_xC ?_))
  | ((with_reducible apply v_xVarD); (focus exact rfl))
  | ((with_reducible refine v_sSeq ?_))
  | ((with_reducible refine v_sAsg ?_))
  | ((with_reducible refine v_sIf ?_))
  | ((with_reducible refine v_bX ?_))
  | ((with_reducible refine v_onB ?_))
  | ((with_reducible refine v_oCons ?_))
  | ((with_reducible refine v_oNil ?_))
  | ((with_reducible refine v_aCons ?_))
  | ((with_reducible refine v_argD ?_))
  | ((with_reducible refine v_argB ?_))
  | ((with_reducible refine v_argO ?_))
  | ((with_reducible refine v_aNil ?_))
  | ((with_reducible refine v_xCB ?_))
  | ((with_reducible apply v_onL); (focus exact rfl))
  | ((with_reducible refine v_xCall ?_))
  | ((with_reducible refine v_xU ?_))
  | ((with_reducible refine v_xAnd ?_))
  | ((with_reducible refine v_xOr ?_))
  | ((with_reducible refine v_xNot ?_))
  | ((with_reducible refine v_xTup ?_))
  | ((with_reducible refine v_xLst ?_))
  | ((with_reducible refine v_xIf ?_))
  | ((with_reducible refine v_bO ?_))
  | ((with_reducible refine v_bAnd ?_))
  | ((with_reducible refine v_bOr ?_))
  | ((with_reducible refine v_bNot ?_))
  | ((with_reducible refine v_bYes ?_))
  | ((with_reducible refine v_wX ?_))
  | ((with_reducible refine v_wRange1 ?_))
  | ((with_reducible refine v_wRange2 ?_))
  | ((with_reducible refine v_gsN ?_))
  | ((with_reducible refine v_gsC ?_))
  | ((with_reducible refine v_pNo ?_))
  | ((with_reducible refine v_pSome ?_))
  | ((with_reducible refine v_xCut ?_))
  | ((with_reducible refine v_xLc ?_))
  | ((with_reducible refine v_sNext ?_))
  | ((with_reducible refine v_sPar ?_))
  | ((with_reducible refine v_sDrop ?_))
  | ((with_reducible refine v_sRet ?_))
  | ((with_reducible refine v_sRetN ?_))
  | ((with_reducible refine v_sBrk ?_))
  | ((with_reducible refine v_sCnt ?_))
  | ((with_reducible refine v_sFor ?_))
  | ((with_reducible refine v_ifT ?_))
  | ((with_reducible refine v_ifF ?_))
  | ((with_reducible refine v_onCmp ?_))
  | ((with_reducible refine v_xCh ?_))
  | ((with_reducible refine v_addI ?_))
  | ((with_reducible refine v_subI ?_))
  | ((with_reducible refine v_eqI ?_))
  | ((with_reducible refine v_neShown (by assumption) ?_))
  | ((with_reducible refine v_eqShown (by assumption) ?_))
  | ((with_reducible refine v_neI ?_))
  | ((with_reducible refine v_is ?_))
  | ((with_reducible refine v_isNot ?_))
  | ((with_reducible refine v_ltI ?_))
  | ((with_reducible refine v_leI ?_))
  | ((with_reducible refine v_gtI ?_))
  | ((with_reducible refine v_geI ?_))
  | ((with_reducible refine v_addT ?_))
  | ((with_reducible refine v_addL ?_))
  | ((with_reducible refine v_addS ?_))
  | ((with_reducible refine v_mulI ?_))
  | ((with_reducible refine v_mulT ?_))
  | ((with_reducible refine v_mulL ?_))
  | ((with_reducible refine v_div ?_))
  | ((with_reducible refine v_mod ?_))
  | ((with_reducible refine v_pow ?_))
  | ((with_reducible refine v_neg ?_))
  | ((with_reducible refine v_eq ?_))
  | ((with_reducible refine v_ne ?_))
  | ((with_reducible refine v_ixL ?_))
  | ((with_reducible refine v_ixT ?_))
  | ((with_reducible refine v_cutL ?_))
  | ((with_reducible refine v_cutT ?_))
  | ((with_reducible refine v_cutS ?_))
  | ((with_reducible refine v_lenL ?_))
  | ((with_reducible refine v_lenT ?_))
  | ((with_reducible refine v_lenS ?_))
  | ((with_reducible refine v_repr ?_))
  | ((with_reducible refine v_tupL ?_))
  | ((with_reducible refine v_tupT ?_))
  | ((with_reducible refine v_lstL ?_))
  | ((with_reducible refine v_lstT ?_))
  | ((with_reducible refine v_intI ?_))
  | ((with_reducible refine v_abs ?_))
  | ((with_reducible refine v_maxI ?_))
  | ((with_reducible refine v_minI ?_))
  | ((with_reducible refine v_dInt ?_))
  | ((with_reducible apply v_tB); (focus exact rfl))
  | ((with_reducible apply v_tI); (focus exact rfl))
  | ((with_reducible apply v_tL); (focus exact rfl))
  | ((with_reducible apply v_tT); (focus exact rfl))
  | ((with_reducible apply v_tN); (focus exact rfl))
  | ((with_reducible apply v_tS); (focus exact rfl))
  | (with_reducible refine v_ifN ?_)
  | (with_reducible refine v_ifNonT ?_)
  | (with_reducible refine v_ifNonI ?_)
  | (with_reducible refine v_ifNonT' ?_)
  | ((with_reducible apply v_onI); (focus exact rfl))
  | ((with_reducible apply v_onX); (focus exact rfl))
  | ((with_reducible apply v_xVarB); (focus exact rfl))
  | ((with_reducible apply v_gT); (focus exact rfl))
  | ((with_reducible apply v_sAug); (focus exact rfl))
  | ((with_reducible apply v_lc); (focus ((try simp only [clrs, putO, put]); exact rfl)))
  | ((with_reducible apply v_cl2); (focus ((try simp only [clrs, putO, put]); exact rfl)))
  | ((with_reducible apply v_bk2); (focus ((try simp only [back, putO, put, sl]); exact rfl)))
  | ((with_reducible apply v_xApp); (focus exact rfl))
  | ((with_reducible apply v_xMt); (focus exact rfl))
  | ((with_reducible apply v_onLO); (focus exact rfl); (focus exact rfl))
  | ((with_reducible refine v_mExt ?_))
  | ((with_reducible apply v_onO); (focus exact rfl))
  | ((with_reducible apply v_xVarO); (focus exact rfl); (focus ((repeat (first | exact p_z | apply p_s)))))
  | ((with_reducible apply v_xMv); (focus exact rfl); (focus ((repeat (first | exact p_z | apply p_s)))))
  | ((with_reducible apply v_onII); (focus exact rfl); (focus exact rfl))
  | ((with_reducible apply v_onDO); (focus exact rfl); (focus exact rfl))
  | ((with_reducible apply v_on3); (focus exact rfl); (focus exact rfl); (focus exact rfl))
  | ((with_reducible refine v_argN ?_))
  | ((with_reducible refine v_tupN ?_))
  | ((with_reducible refine v_wZip ?_))
  | ((with_reducible refine v_avN ?_))
  | ((with_reducible refine v_avC ?_))
  | ((with_reducible refine v_sMul ?_))
  | ((with_reducible refine v_gAllN ?_))
  | ((with_reducible refine v_gAllC ?_))
  | ((with_reducible refine v_xDIn ?_))
  | ((with_reducible refine v_xDNew ?_))
  | ((with_reducible refine v_sDPut ?_))
  | ((with_reducible refine v_xLIdx ?_))
  | ((with_reducible refine v_onSs ?_))
  | ((with_reducible apply v_xDGet); (focus exact rfl))
  | ((with_reducible apply v_exD); (focus exact rfl))
  | ((with_reducible apply v_exL); (focus exact rfl))
  | ((with_reducible apply v_xVarN); (focus exact rfl))
  | ((with_reducible apply v_xTIdx); (focus exact rfl))
  | ((with_reducible apply v_onTT); (focus exact rfl))
  | ((with_reducible apply v_onTTl); (focus exact rfl))
  | ((with_reducible apply v_onDc); (focus exact rfl); (focus exact rfl))
  | ((with_reducible apply v_onSN); (focus exact rfl); (focus exact rfl))
  | ((with_reducible apply v_onLD); (focus exact rfl); (focus exact rfl))
  | ((with_reducible refine v_xDOne ?_ ?_); (focus (intro z; cases z)))
  | ((with_reducible apply v_xLcO); (focus exact rfl); (focus ((repeat (first | exact p_z | apply p_s)))))
  | ((with_reducible apply v_bk3); (focus ((try simp only [back, putO, put, sl]); exact rfl)))
  | ((with_reducible refine v_own1 ?_ ?_); (focus (intro _ e; first | (cases e; done) | (cases e; rfl))))
  | ((with_reducible refine v_own2 ?_ ?_ ?_); (focus (intro _ e; first | (cases e; done) | (cases e; rfl))); (focus (intro _ e; first | (cases e; done) | (cases e; rfl))))
  | ((with_reducible refine v_sRaise ?_))
  | ((with_reducible refine v_sTry ?_))
  | ((with_reducible apply v_onEx); (focus exact rfl); (focus (simp only [List.length_cons, List.length_nil]; omega)))
  | ((with_reducible apply v_onExF); (focus exact rfl))
  | ((with_reducible refine v_hRetT ?_))
  | ((with_reducible refine v_hNil ?_))
  | ((with_reducible refine v_hCons ?_))
  | ((with_reducible refine v_hC ?_))
  | ((with_reducible apply v_hF); (focus exact rfl); (focus exact rfl))
  | ((with_reducible apply v_onTLt); (focus exact rfl))
  | ((with_reducible apply v_onTLl); (focus exact rfl))
  | ((with_reducible refine v_aStar ?_))
  | ((with_reducible apply v_onLA); (focus exact rfl))
  | ((with_reducible refine v_xLc2 ?_))
  | ((with_reducible refine v_sSetI ?_))
  | ((with_reducible refine v_sAugI ?_))
  | ((with_reducible apply v_exO); (focus exact rfl))
  | ((with_reducible apply v_onIO); (focus exact rfl); (focus exact rfl))
  | ((with_reducible apply v_xDGet2); (focus exact rfl))
  | ((with_reducible apply v_onDD); (focus exact rfl); (focus exact rfl); (focus exact rfl))
  | ((with_reducible apply v_xDSetd); (focus exact rfl))
  | ((with_reducible refine v_mulII ?_))
  | ((with_reducible refine v_isTy ?_))
  | ((with_reducible refine v_wEnum ?_))
  | ((with_reducible refine v_inL ?_))
  | ((with_reducible refine v_notInL ?_))
  | ((with_reducible refine v_inS ?_))
  | ((with_reducible refine v_notInS ?_))
  | ((with_reducible refine v_sRaise0 ?_))
  | ((with_reducible refine v_sTryM ?_))
  | ((with_reducible apply v_xLam); (focus ((try simp only [frz, frz1, sl, put]); exact rfl)); (focus ((try simp only [bare, List.map_cons, List.map_nil, bareO]); exact rfl)))
  | ((with_reducible apply v_onLv); (focus exact rfl))
  | ((with_reducible refine v_onLx ?_))
  | ((with_reducible refine v_hRetC ?_))
  | ((with_reducible refine v_intB ?_))
  | ((with_reducible apply v_hIfT); (focus exact rfl))
  | ((with_reducible apply v_hIfF); (focus exact rfl))
  | (with_reducible refine And.intro (Fine.repr (by assumption) (by decide) (by decide)) ?_)
  | (with_reducible refine And.intro (Fine.ok (by assumption) (by decide)) ?_)
  | (with_reducible refine And.intro (Fine.okS (by assumption)) ?_)
  | ((with_reducible refine And.intro ?_ ?_); (focus (first | omega | exact (by decide) | (simp only [List.length_cons, List.length_nil, List.length_map, List.length_range, rangeL_len] <;> omega) | (simp only [List.length_cons, List.length_nil, List.length_append, List.length_map, List.length_range, rangeL_len] <;> omega) | exact Or.inl ⟨by omega, by omega⟩ | exact Or.inr (Or.inl ⟨by omega, by omega⟩)))))
local macro_rules | `(tactic| walk_at "dl") => `(tactic| repeat (walk_at "dl1"))
local macro_rules | `(tactic| walk_at "fn") => `(tactic| simp only [fnSpec, List.map_cons, List.map_nil, List.length_cons, List.length_nil, List.replicate, List.cons_append, List.nil_append, Nat.reduceAdd, Nat.reduceSub, List.replicate_succ, List.replicate_zero])
local macro_rules | `(tactic| walk_at "fine") => `(tactic| repeat (first | assumption | exact fin_none0 | exact fin_bool0 | exact fins_nil | (with_reducible refine fins_cons ?_ ?_) | (with_reducible refine fin_tup ?_) | (with_reducible refine fin_lst ?_) | exact fin_int0 (by omega) | exact fin_lit _))
section
variable {Q : DV → Prop} {E : Err → Prop}
theorem or_map (o : List Nat) : o.map nD = (List.range o.length).map fun i => nD (od o i) := by
  refine List.ext_getElem? fun i => ?_
  rw [List.getElem?_map, List.getElem?_map]
  by_cases h : i < o.length
  · rw [List.getElem?_range h, List.getElem?_eq_getElem h]
    unfold od
    rw [Option.map_some, Option.map_some, getD_eq h]
  · rw [List.getElem?_eq_none (by omega), List.getElem?_eq_none (by rw [List.length_range]; omega)]
    rfl
theorem zip_self2 {α : Type} (xs : List α) (F G : α → PyData) : zipD (xs.map F) (xs.map G) = xs.map fun x => .tuple [F x, G x] := by
  unfold zipD
  rw [List.zip_map', List.map_map]
  rfl
theorem zip_or (hs : List (List (Str × Str))) (o : List Nat) : zipD (o.map nD) ((lbs hs o o.length).map ptD) = (List.range o.length).map fun i => .tuple [nD (od o i), ptD (lb hs o i)] := by
  rw [or_map]
  unfold lbs
  rw [List.map_map, zip_self2]
  rfl
theorem zip_ro (hs : List (List (Str × Str))) (o : List Nat) : zipD ((lbs hs o o.length).map ptD) (o.map nD) = (List.range o.length).map fun i => .tuple [ptD (lb hs o i), nD (od o i)] := by
  rw [or_map]
  unfold lbs
  rw [List.map_map, zip_self2]
  rfl
def ci (hs : List (List (Str × Str))) (o : List Nat) (i : Nat) : Str × PyData := ((lb hs o i).1, nD (od o i))
abbrev fsC (hs : List (List (Str × Str))) (o : List Nat) (js : List Nat) : List (Str × PyData) := firsts (js.map (ci hs o))
theorem fsC_snoc (hs : List (List (Str × Str))) (o : List Nat) (js : List Nat) (i : Nat) : fsC hs o (js ++ [i]) = put1 (fsC hs o js) ((lb hs o i).1, nD (od o i)) := by
  unfold fsC
  rw [List.map_append, List.map_singleton, firsts_snoc]
  rfl
theorem fsC_len (hs : List (List (Str × Str))) (o : List Nat) (js : List Nat) : (fsC hs o js).length ≤ js.length := by
  have h := firsts_len (js.map (ci hs o))
  rw [List.length_map] at h
  exact h
theorem fsC_int {hs : List (List (Str × Str))} {o js : List Nat} {p : Str × PyData} (h : p ∈ fsC hs o js) : ∃ i ∈ js, p = ci hs o i := by
  obtain ⟨i, hi, e⟩ := List.mem_map.mp (firsts_sub _ p h)
  exact ⟨i, hi, e.symm⟩
theorem pre_len {n : Nat} {pre post : List Nat} {x : Nat} (e : List.range n = pre ++ x :: post) : pre.length < n := by
  have := congrArg List.length e
  rw [List.length_range, List.length_append, List.length_cons] at this
  omega
theorem fc_fine {hs : List (List (Str × Str))} {o js : List Nat} (P : OrOk hs o) (hj : ∀ i ∈ js, i < o.length) {p : Str × PyData} (h : p ∈ fsC hs o js) : Fine 1 82 (prD p) := by
  obtain ⟨i, hi, rfl⟩ := fsC_int h
  have h2 := od_lt P (hj i hi)
  have h3 := P.hl
  exact (fin_tup (fins_cons (fin_name (lb_ok P (hj i hi)).1) (fins_cons (fin_int0 (i := ((od o i : Nat) : Int)) (by omega)) fins_nil))).mono (by decide) (by decide)
theorem choice_ok {hs : List (List (Str × Str))} {o : List Nat} (P : OrOk hs o) (q : ∀ ys : List (Str × PyData), ys.Perm (fsC hs o (List.range o.length)) → ys.Pairwise (fun e f => ¬ f.1.cps.toList < e.1.cps.toList) → Q (.dat (.tuple (ys.map prD)))) : p_choice_of [.dat (HsD hs), .dat (orD o)] Q E := by
  have few := P.few
  unfold p_choice_of
  walk_at "fn"
  unfold m_choice_of
  walk_at "dl"
  refine log_by_ok P ?_
  walk_at "dl"
  rw [zip_or]
  refine forL_mapN (fun i => .tuple [nD (od o i), ptD (lb hs o i)]) (fun pre r => ∃ a b c, r = [some (.dat (HsD hs)), some (.dat (orD o)), some (.dct false ((fsC hs o pre).map kvD)), a, b, c]) ⟨_, _, _, rfl⟩ ?_ ?_
  · rintro pre i post r k bk' e ⟨a, b, c, rfl⟩ hk
    have hm := fsC_len hs o pre
    have hpl := pre_len e
    walk_at "dl"
    refine ⟨(by intro z; cases z), by rw [List.length_map]; omega, ?_⟩
    rw [lookD_kv]
    cases e1 : look1 (fsC hs o pre) (lb hs o i).1 with
    | some d =>
      refine v_onLkS rfl ?_
      walk_at "dl"
      refine hk _ ⟨some (.dat (nD (od o i))), some (.dat (.str (lb hs o i).1)), some (.dat (.str (lb hs o i).2)), ?_⟩
      rw [fsC_snoc, put1_old e1]
    | none =>
      refine v_onLkN rfl ?_
      walk_at "dl"
      refine hk _ ⟨some (.dat (nD (od o i))), some (.dat (.str (lb hs o i).1)), some (.dat (.str (lb hs o i).2)), ?_⟩
      rw [fsC_snoc, putD_new e1]
  · rintro r ⟨a, b, c, rfl⟩
    walk_at "dl"
    refine v_sortIt false rfl (fun p hp => by obtain ⟨i, _, rfl⟩ := fsC_int hp; exact ⟨_, rfl⟩) fun ys hp hs' hn => ?_
    have hy : ys.length ≤ 30 := by
      have := fsC_len hs o (List.range o.length)
      rw [List.length_range] at this
      rw [hp.length_eq]
      omega
    walk_at "dl"
    exact q ys hp hs'
/-- the hands in the order of the logs -/
def ordOf (xs : List (List (Str × Str) × Nat)) : List Nat := xs.flatMap fun p => List.replicate p.1.length p.2
theorem ord_cnt : ∀ (hs : List (List (Str × Str))) (k h : Nat), (ordOf (hs.zipIdx k)).count h = if k ≤ h then (hs.getD (h - k) []).length else 0
  | [], k, h => by
    rw [List.getD_nil]
    split <;> rfl
  | x :: hs, k, h => by
    rw [List.zipIdx_cons]
    show List.count h (List.replicate x.length k ++ ordOf (hs.zipIdx (k + 1))) = _
    rw [List.count_append, ord_cnt hs (k + 1) h, List.count_replicate]
    by_cases e : k = h
    · subst e
      rw [if_pos (by simp), if_neg (by omega), if_pos (Nat.le_refl _), Nat.sub_self]
      rfl
    · rw [if_neg (by simp [e])]
      by_cases l : k + 1 ≤ h
      · rw [if_pos l, if_pos (by omega), show h - k = (h - (k + 1)) + 1 by omega]
        rw [Nat.zero_add]
        rfl
      · rw [if_neg l, if_neg (by omega)]
theorem ord_mem {hs : List (List (Str × Str))} {h : Nat} (m : h ∈ ordOf hs.zipIdx) : h < hs.length := by
  obtain ⟨p, hp, hq⟩ := List.mem_flatMap.mp m
  rw [(List.mem_replicate.mp hq).2]
  have := List.snd_lt_of_mem_zipIdx hp
  omega
theorem ord_len {xs : List (List (Str × Str) × Nat)} (h : ∀ p ∈ xs, p.1.length ≤ 6) : (ordOf xs).length ≤ 6 * xs.length := by
  induction xs with
  | nil => exact Nat.le_refl _
  | cons x xs ih =>
    have h1 := h x (List.mem_cons_self ..)
    have h2 := ih fun p hp => h p (List.mem_cons_of_mem _ hp)
    show (List.replicate x.1.length x.2 ++ ordOf xs).length ≤ _
    rw [List.length_append, List.length_replicate, List.length_cons]
    omega
theorem ord_ok {hs : List (List (Str × Str))} {o : List Nat} (h1 : ∀ l ∈ hs, LgOk l ∧ l.length ≤ 6) (h2 : hs.length ≤ 4) (hp : o.Perm (ordOf hs.zipIdx)) : OrOk hs o where
  lt := fun h m => ord_mem (hp.mem_iff.mp m)
  cnt := fun h => by
    rw [hp.count_eq, ord_cnt, if_pos (Nat.zero_le _), Nat.sub_zero]
    exact Nat.le_refl _
  ok := fun l m => (h1 l m).1
  few := by
    have h := ord_len (xs := hs.zipIdx) fun p m => (h1 _ (List.fst_mem_of_mem_zipIdx m)).2
    rw [List.length_zipIdx] at h
    rw [hp.length_eq]
    omega
  hl := by omega
theorem enumD_hs (hs : List (List (Str × Str))) : enumD (hs.map logD) = hs.zipIdx.map fun p => PyData.tuple [nD p.2, logD p.1] := by
  unfold enumD
  rw [List.zipIdx_map, List.map_map]
  rfl
theorem ord_snoc (xs : List (List (Str × Str) × Nat)) (p : List (Str × Str) × Nat) : (ordOf xs).map nD ++ (List.replicate p.1.length [nD p.2]).flatten = (ordOf (xs ++ [p])).map nD := by
  have e : ∀ n : Nat, (List.replicate n [nD p.2]).flatten = (List.replicate n p.2).map nD := fun n => by
    induction n with
    | zero => rfl
    | succ n ih => rw [List.replicate_succ, List.flatten_cons, ih, List.replicate_succ]; rfl
  unfold ordOf
  rw [List.flatMap_append, List.map_append, e, List.flatMap_cons, List.flatMap_nil, List.append_nil]
theorem logs_of {R : List (Str × Str) → Prop} : ∀ {ys : List PyData}, (∀ y ∈ ys, ∃ l, y = logD l ∧ R l) → ∃ hs : List (List (Str × Str)), ys = hs.map logD ∧ ∀ l ∈ hs, R l
  | [], _ => ⟨[], rfl, fun _ h => by cases h⟩
  | y :: ys, h => by
    obtain ⟨p, rfl, hp⟩ := h y (List.mem_cons_self ..)
    obtain ⟨l, rfl, hl⟩ := logs_of fun z hz => h z (List.mem_cons_of_mem _ hz)
    refine ⟨p :: l, rfl, fun q hq => ?_⟩
    rcases List.mem_cons.mp hq with rfl | hq
    · exact hp
    · exact hl q hq
end
end
end DL.LW

namespace DL.LW
open PySem DL
section
local macro_rules | `(tactic| walk_at "dl1") => `(tactic| first
  | ((with_reducible refine v_oE ?_))
  | ((with_reducible apply v_on1); (focus exact rfl))
  | ((with_reducible refine v_xB ?_))
  | ((with_reducible apply v_oV); (focus exact rfl))
  | ((with_reducible apply v_on2); (focus exact rfl); (focus exact rfl))
  | ((with_reducible apply v_gN); (focus ((repeat (first | exact p_z | apply p_s)))))
  | ((with_reducible refine v_xC ?_))
  | ((with_reducible apply v_xVarD); (focus exact rfl))
  | ((with_reducible refine v_sSeq ?_))
  | ((with_reducible refine v_sAsg ?_))
  | ((with_reducible refine v_sIf ?_))
  | ((with_reducible refine v_bX ?_))
  | ((with_reducible refine v_onB ?_))
  | ((with_reducible refine v_oCons ?_))
  | ((with_reducible refine v_oNil ?_))
  | ((with_reducible refine v_aCons ?_))
  | ((with_reducible refine v_argD ?_))
  | ((with_reducible refine v_argB ?_))
  | ((with_reducible refine v_argO ?_))
  | ((with_reducible refine v_aNil ?_))
  | ((with_reducible refine v_xCB ?_))
  | ((with_reducible apply v_onL); (focus exact rfl))
  | ((with_reducible refine v_xCall ?_))
  | ((with_reducible refine v_xU ?_))
  | ((with_reducible refine v_xAnd ?_))
  | ((with_reducible refine v_xOr ?_))
  | ((with_reducible refine v_xNot ?_))
  | ((with_reducible refine v_xTup ?_))
  | ((with_reducible refine v_xLst ?_))
  | ((with_reducible refine v_xIf ?_))
  | ((with_reducible refine v_bO ?_))
  | ((with_reducible refine v_bAnd ?_))
  | ((with_reducible refine v_bOr ?_))
  | ((with_reducible refine v_bNot ?_))
  | ((with_reducible refine v_bYes ?_))
  | ((with_reducible refine v_wX ?_))
  | ((with_reducible refine v_wRange1 ?_))
  | ((with_reducible refine v_wRange2 ?_))
  | ((with_reducible refine v_gsN ?_))
  | ((with_reducible refine v_gsC ?_))
  | ((with_reducible refine v_pNo ?_))
  | ((with_reducible refine v_pSome ?_))
  | ((with_reducible refine v_xCut ?_))
  | ((with_reducible refine v_xLc ?_))
  | ((with_reducible refine v_sNext ?_))
  | ((with_reducible refine v_sPar ?_))
  | ((with_reducible refine v_sDrop ?_))
  | ((with_reducible refine v_sRet ?_))
  | ((with_reducible refine v_sRetN ?_))
  | ((with_reducible refine v_sBrk ?_))
  | ((with_reducible refine v_sCnt ?_))
  | ((with_reducible refine v_sFor ?_))
  | ((with_reducible refine v_ifT ?_))
  | ((with_reducible refine v_ifF ?_))
  | ((with_reducible refine v_onCmp ?_))
  | ((with_reducible refine v_xCh ?_))
  | ((with_reducible refine v_addI ?_))
  | ((with_reducible refine v_subI ?_))
  | ((with_reducible refine v_eqI ?_))
  | ((with_reducible refine v_neShown (by assumption) ?_))
  | ((with_reducible refine v_eqShown (by assumption) ?_))
  | ((with_reducible refine v_neI ?_))
  | ((with_reducible refine v_is ?_))
  | ((with_reducible refine v_isNot ?_))
  | ((with_reducible refine v_ltI ?_))
  | ((with_reducible refine v_leI ?_))
  | ((with_reducible refine v_gtI ?_))
  | ((with_reducible refine v_geI ?_))
  | ((with_reducible refine v_addT ?_))
  | ((with_reducible refine v_addL ?_))
  | ((with_reducible refine v_addS ?_))
  | ((with_reducible refine v_mulI ?_))
  | ((with_reducible refine v_mulT ?_))
  | ((with_reducible refine v_mulL ?_))
  | ((with_reducible refine v_div ?_))
  | ((with_reducible refine v_mod ?_))
  | ((with_reducible refine v_pow ?_))
  | ((with_reducible refine v_neg ?_))
  | ((with_reducible refine v_eq ?_))
  | ((with_reducible refine v_ne ?_))
  | ((with_reducible refine v_ixL ?_))
  | ((with_reducible refine v_ixT ?_))
  | ((with_reducible refine v_cutL ?_))
  | ((with_reducible refine v_cutT ?_))
  | ((with_reducible refine v_cutS ?_))
  | ((with_reducible refine v_lenL ?_))
  | ((with_reducible refine v_lenT ?_))
  | ((with_reducible refine v_lenS ?_))
  | ((with_reducible refine v_repr ?_))
  | ((with_reducible refine v_tupL ?_))
  | ((with_reducible refine v_tupT ?_))
  | ((with_reducible refine v_lstL ?_))
  | ((with_reducible refine v_lstT ?_))
  | ((with_reducible refine v_intI ?_))
  | ((with_reducible refine v_abs ?_))
  | ((with_reducible refine v_maxI ?_))
  | ((with_reducible refine v_minI ?_))
  | ((with_reducible refine v_dInt ?_))
  | ((with_reducible apply v_tB); (focus exact rfl))
  | ((with_reducible apply v_tI); (focus exact rfl))
  | ((with_reducible apply v_tL); (focus exact rfl))
  | ((with_reducible apply v_tT); (focus exact rfl))
  | ((with_reducible apply v_tN); (focus exact rfl))
  | ((with_reducible apply v_tS); (focus exact rfl))
  | (with_reducible refine v_ifN ?_)
  | (with_reducible refine v_ifNonT ?_)
  | (with_reducible refine v_ifNonI ?_)
  | (with_reducible refine v_ifNonT' ?_)
  | ((with_reducible apply v_onI); (focus exact rfl))
  | ((with_reducible apply v_onX); (focus exact rfl))
  | ((with_reducible apply v_xVarB); (focus exact rfl))
  | ((with_reducible apply v_gT); (focus exact rfl))
  | ((with_reducible apply v_sAug); (focus exact rfl))
  | ((with_reducible apply v_lc); (focus ((try simp only [clrs, putO, put]); exact rfl)))
  | ((with_reducible apply v_cl2); (focus ((try simp only [clrs, putO, put]); exact rfl)))
  | ((with_reducible apply v_bk2); (focus ((try simp only [back, putO, put, sl]); exact rfl)))
  | ((with_reducible apply v_xApp); (focus exact rfl))
  | ((with_reducible apply v_xMt); (focus exact rfl))
  | ((with_reducible apply v_onLO); (focus exact rfl); (focus exact rfl))
  | ((with_reducible refine v_mExt ?_))
  | ((with_reducible apply v_onO); (focus exact rfl))
  | ((with_reducible apply v_xVarO); (focus exact rfl); (focus ((repeat (first | exact p_z | apply p_s)))))
  | ((with_reducible apply v_xMv); (focus exact rfl); (focus ((repeat (first | exact p_z | apply p_s)))))
  | ((with_reducible apply v_onII); (focus exact rfl); (focus exact rfl))
  | ((with_reducible apply v_onDO); (focus exact rfl); (focus exact rfl))
  | ((with_reducible apply v_on3); (focus exact rfl); (focus exact rfl); (focus exact rfl))
  | ((with_reducible refine v_argN ?_))
  | ((with_reducible refine v_tupN ?_))
  | ((with_reducible refine v_wZip ?_))
  | ((with_reducible refine v_avN ?_))
  | ((with_reducible refine v_avC ?_))
  | ((with_reducible refine v_sMul ?_))
  | ((with_reducible refine v_gAllN ?_))
  | ((with_reducible refine v_gAllC ?_))
  | ((with_reducible refine v_xDIn ?_))
  | ((with_reducible refine v_xDNew ?_))
  | ((with_reducible refine v_sDPut ?_))
  | ((with_reducible refine v_xLIdx ?_))
  | ((with_reducible refine v_onSs ?_))
  | ((with_reducible apply v_xDGet); (focus exact rfl))
  | ((with_reducible apply v_exD); (focus exact rfl))
  | ((with_reducible apply v_exL); (focus exact rfl))
  | ((with_reducible apply v_xVarN); (focus exact rfl))
  | ((with_reducible apply v_xTIdx); (focus exact rfl))
  | ((with_reducible apply v_onTT); (focus exact rfl))
  | ((with_reducible apply v_onTTl); (focus exact rfl))
  | ((with_reducible apply v_onDc); (focus exact rfl); (focus exact rfl))
  | ((with_reducible apply v_onSN); (focus exact rfl); (focus exact rfl))
  | ((with_reducible apply v_onLD); (focus exact rfl); (focus exact rfl))
  | ((with_reducible refine v_xDOne ?_ ?_); (focus (intro z; cases z)))
  | ((with_reducible apply v_xLcO); (focus exact rfl); (focus ((repeat (first | exact p_z | apply p_s)))))
  | ((with_reducible apply v_bk3); (focus ((try simp only [back, putO, put, sl]); exact rfl)))
  | ((with_reducible refine v_own1 ?_ ?_); (focus (intro _ e; first | (cases e; done) | (cases e; rfl))))
  | ((with_reducible refine v_own2 ?_ ?_ ?_); (focus (intro _ e; first | (cases e; done) | (cases e; rfl))); (focus (intro _ e; first | (cases e; done) | (cases e; rfl))))
  | ((with_reducible refine v_sRaise ?_))
  | ((with_reducible refine v_sTry ?_))
  | ((with_reducible apply v_onEx); (focus exact rfl); (focus (simp only [List.length_cons, List.length_nil]; omega)))
  | ((with_reducible apply v_onExF); (focus exact rfl))
  | ((with_reducible refine v_hRetT ?_))
  | ((with_reducible refine v_hNil ?_))
  | ((with_reducible refine v_hCons ?_))
  | ((with_reducible refine v_hC ?_))
  | ((with_reducible apply v_hF); (focus exact rfl); (focus exact rfl))
  | ((with_reducible apply v_onTLt); (focus exact rfl))
  | ((with_reducible apply v_onTLl); (focus exact rfl))
  | ((with_reducible refine v_aStar ?_))
  | ((with_reducible apply v_onLA); (focus exact rfl))
  | ((with_reducible refine v_xLc2 ?_))
  | ((with_reducible refine v_sSetI ?_))
  | ((with_reducible refine v_sAugI ?_))
  | ((with_reducible apply v_exO); (focus exact rfl))
  | ((with_reducible apply v_onIO); (focus exact rfl); (focus exact rfl))
  | ((with_reducible apply v_xDGet2); (focus exact rfl))
  | ((with_reducible apply v_onDD); (focus exact rfl); (focus exact rfl); (focus exact rfl))
  | ((with_reducible apply v_xDSetd); (focus exact rfl))
  | ((with_reducible refine v_mulII ?_))
  | ((with_reducible refine v_isTy ?_))
  | ((with_reducible refine v_wEnum ?_))
  | ((with_reducible refine v_inL ?_))
  | ((with_reducible refine v_notInL ?_))
  | ((with_reducible refine v_inS ?_))
  | ((with_reducible refine v_notInS ?_))
  | ((with_reducible refine v_sRaise0 ?_))
  | ((with_reducible refine v_sTryM ?_))
  | ((with_reducible apply v_xLam); (focus ((try simp only [frz, frz1, sl, put]); exact rfl)); (focus ((try simp only [bare, List.map_cons, List.map_nil, bareO]); exact rfl)))
  | ((with_reducible apply v_onLv); (focus exact rfl))
  | ((with_reducible refine v_onLx ?_))
  | ((with_reducible refine v_hRetC ?_))
  | ((with_reducible refine v_intB ?_))
  | ((with_reducible apply v_hIfT); (focus exact rfl))
  | ((with_reducible apply v_hIfF); (focus exact rfl))
  | (with_reducible refine And.intro (Fine.repr (by assumption) (by decide) (by decide)) ?_)
  | (with_reducible refine And.intro (Fine.ok (by assumption) (by decide)) ?_)
  | (with_reducible refine And.intro (Fine.okS (by assumption)) ?_)
  | ((with_reducible refine And.intro ?_ ?_); (focus (first | omega | exact (by decide) | (simp only [List.length_cons, List.length_nil, List.length_map, List.length_range, rangeL_len] <;> omega) | (simp only [List.length_cons, List.length_nil, List.length_append, List.length_map, List.length_range, rangeL_len] <;> omega) | exact Or.inl ⟨by omega, by omega⟩ | exact Or.inr (Or.inl ⟨by omega, by omega⟩)))))
local macro_rules | `(tactic| walk_at "dl") => `(tactic| repeat (walk_at "dl1"))
local macro_rules | `(tactic| walk_at "fn") => `(tactic| simp only [fnSpec, List.map_cons, List.map_nil, List.length_cons, List.length_nil, List.replicate, List.cons_append, List.nil_append, Nat.reduceAdd, Nat.reduceSub, List.replicate_succ, List.replicate_zero])
local macro_rules | `(tactic| walk_at "fine") => `(tactic| repeat (first | assumption | exact fin_none0 | exact fin_bool0 | exact fins_nil | (with_reducible refine fins_cons ?_ ?_) | (with_reducible refine fin_tup ?_) | (with_reducible refine fin_lst ?_) | exact fin_int0 (by omega) | exact fin_lit _))
section
variable {nx : Env → Prop} {rt : DV → Prop} {bk ct : Env → Prop} {ex : XW}
def s_tail2 : TS := (sSeq (sAsg (gN 10) xDNew)
  (sSeq (sFor (wZip (aCons (xVar 7) (aCons (xVar 9) aNil))) (gT [(gT [(gN 11), (gN 12)]), (gN 5)]) (sDPut 10 (oV 11) (xDGet2 10 (oV 11) (xVar 5))))
  (sSeq (sAsg (gN 13) (xCB nRepr (oCons (oE (xLst (aCons (xVar 4) (aCons (xVar 6) aNil)))) oNil)))
  (sSeq (sIf (bNot (bO (oE (xCall p__law_alike (aCons (xLst (aCons (xCall p_log_by (aCons (xVar 4) (aCons (xVar 6) aNil))) (aCons (xCall p_choice_of (aCons (xVar 4) (aCons (xVar 6) aNil))) aNil))) (aCons (xLst (aCons (xCB nTuple (oCons (oV 7) oNil)) (aCons (xCB nTuple (oCons (oE (xSortIt 10)) oNil)) aNil))) aNil)))))) (sRet (xC (.bool false))) sNext)
  (sIf (bOr (bX (xB dNe (oE (xCB nRepr (oCons (oE (xLst (aCons (xVar 4) (aCons (xVar 6) aNil)))) oNil))) (oV 13))) (bNot (bO (oE (xCall p__law_is_log_right (aCons (xVar 1) (aCons (xCB nTuple (oCons (oV 7) oNil)) aNil))))))) (sRet (xC (.bool false))) sNext)))))
def s_tail : TS := (sSeq (sAsg (gN 6) (xCB nTuple (oCons (oE (xCall p__law_mixed (aCons (xVar 1) (aCons (xVar 6) aNil)))) oNil)))
  (sSeq (sMul [7, 8, 9] [(xLst aNil), (xB dMul (oE (xLst (aCons (xC (.int 0)) aNil))) (oE (xCB nLen (oCons (oV 4) oNil)))), (xLst aNil)])
  (sSeq (sFor (wX (xVar 6)) (gN 5) (sSeq (sDrop (xApp 7 (xB dIx (oE (xB dIx (oV 4) (oV 5))) (oE (xB dIx (oV 8) (oV 5))))))
  (sSeq (sAugI 8 (fun i j => i + j) (oV 5) (oE (xC (.int 1))))
  (sDrop (xApp 9 (xVar 5))))))
  (sSeq (sAsg (gN 10) xDNew)
  (sSeq (sFor (wZip (aCons (xVar 7) (aCons (xVar 9) aNil))) (gT [(gT [(gN 11), (gN 12)]), (gN 5)]) (sDPut 10 (oV 11) (xDGet2 10 (oV 11) (xVar 5))))
  (sSeq (sAsg (gN 13) (xCB nRepr (oCons (oE (xLst (aCons (xVar 4) (aCons (xVar 6) aNil)))) oNil)))
  (sSeq (sIf (bNot (bO (oE (xCall p__law_alike (aCons (xLst (aCons (xCall p_log_by (aCons (xVar 4) (aCons (xVar 6) aNil))) (aCons (xCall p_choice_of (aCons (xVar 4) (aCons (xVar 6) aNil))) aNil))) (aCons (xLst (aCons (xCB nTuple (oCons (oV 7) oNil)) (aCons (xCB nTuple (oCons (oE (xSortIt 10)) oNil)) aNil))) aNil)))))) (sRet (xC (.bool false))) sNext)
  (sIf (bOr (bX (xB dNe (oE (xCB nRepr (oCons (oE (xLst (aCons (xVar 4) (aCons (xVar 6) aNil)))) oNil))) (oV 13))) (bNot (bO (oE (xCall p__law_is_log_right (aCons (xVar 1) (aCons (xCB nTuple (oCons (oV 7) oNil)) aNil))))))) (sRet (xC (.bool false))) sNext))))))))
theorem hs_fine {hs : List (List (Str × Str))} {o : List Nat} (P : OrOk hs o) : Fine 4 26200 (.list [HsD hs, orD o]) := by
  have f1 : Fine 3 24910 (HsD hs) := fin_tup (fins_map P.hl fun l hl => fin_log (P.ok l hl))
  have f2 : Fine 1 (30 * 41) (orD o) := fin_tup (fins_map P.few fun h hh => fin_int0 (by
    have := P.lt h hh
    have := P.hl
    omega))
  exact (fin_lst (fins_cons f1 (fins_cons f2 fins_nil))).mono (by decide) (by decide)
theorem tail79b {hs : List (List (Str × Str))} {o : List Nat} (P : OrOk hs o) {a x2 x3 x5 x8 x10 x11 x12 x13 : Option DV}
    (q : ∀ x7 x9 x10 x11 x12 x13 x5, (∀ dv, x5 = some dv → dv.hold = false) → nx [a, some .bag, x2, x3, some (.dat (HsD hs)), x5, some (.dat (orD o)), x7, x8, x9, x10, x11, x12, x13]) (h5 : ∀ dv, x5 = some dv → dv.hold = false) :
    s_tail2 ⟨nx, rt, bk, ct, ex⟩ [a, some .bag, x2, x3, some (.dat (HsD hs)), x5, some (.dat (orD o)), some (.own ((lbs hs o o.length).map ptD)), x8, some (.own (o.map nD)), x10, x11, x12, x13] := by
  have few := P.few
  have hk := hs_fine P
  unfold s_tail2
  walk_at "dl"
  rw [zip_ro]
  refine forL_mapN (fun i => .tuple [ptD (lb hs o i), nD (od o i)]) (fun pre r => ∃ x5 x11 x12, r = [a, some .bag, x2, x3, some (.dat (HsD hs)), x5, some (.dat (orD o)), some (.dat (.list ((lbs hs o o.length).map ptD))), x8, some (.dat (.list (o.map nD))), some (.dct false ((fsC hs o pre).map kvD)), x11, x12, x13] ∧ ∀ dv, x5 = some dv → dv.hold = false) ⟨_, _, _, rfl, h5⟩ ?_ ?_
  · rintro pre i post r k bk' e ⟨x5, x11, x12, rfl, h5⟩ hk
    have hm := fsC_len hs o pre
    have hpl := pre_len e
    have hnd := firsts_nodup (pre.map (ci hs o))
    walk_at "dl"
    refine ⟨(by intro z; cases z), ?_⟩
    rw [lookD_kv]
    cases e1 : look1 (fsC hs o pre) (lb hs o i).1 with
    | some d =>
      walk_at "dl"
      refine ⟨(by intro z; cases z), by rw [List.length_map]; omega, ?_⟩
      walk_at "dl"
      refine hk _ ⟨some (.dat (nD (od o i))), some (.dat (.str (lb hs o i).1)), some (.dat (.str (lb hs o i).2)), ?_, fun dv h => by cases h; rfl⟩
      rw [fsC_snoc, Option.getD_some, putD_old hnd e1]
    | none =>
      walk_at "dl"
      refine ⟨(by intro z; cases z), by rw [List.length_map]; omega, ?_⟩
      walk_at "dl"
      refine hk _ ⟨some (.dat (nD (od o i))), some (.dat (.str (lb hs o i).1)), some (.dat (.str (lb hs o i).2)), ?_, fun dv h => by cases h; rfl⟩
      rw [fsC_snoc, Option.getD_none, putD_new e1]
  · rintro r ⟨x5, x11, x12, rfl, h5⟩
    walk_at "dl"
    refine log_by_ok P ?_
    walk_at "dl"
    refine choice_ok P fun ys hp hs' => ?_
    walk_at "dl"
    refine v_sortIt false rfl (fun p hp => by obtain ⟨i, _, rfl⟩ := fsC_int hp; exact ⟨_, rfl⟩) fun zs hz hzs hn => ?_
    cases sort_one hn hz hzs hp hs'
    have hyl : ys.length ≤ 30 := by
      have := fsC_len hs o (List.range o.length)
      rw [List.length_range] at this
      rw [hp.length_eq]
      omega
    have fy : Fine 2 2490 (.tuple (ys.map prD)) := fin_tup (fins_map hyl fun p h => fc_fine P (fun i hi => List.mem_range.mp hi) (hp.mem_iff.mp h))
    walk_at "dl"
    refine alike_ok (fin_lst (fins_cons (fin_log (lbs_ok P)) (fins_cons fy fins_nil))) (by decide) (by decide) ?_
    walk_at "dl"
    refine log_right_ok (lbs_ok P) ?_
    walk_at "dl"
    exact q _ _ _ _ _ _ _ h5
theorem tail79a {hs : List (List (Str × Str))} (h1 : ∀ l ∈ hs, LgOk l ∧ l.length ≤ 6) (h2 : hs.length ≤ 4) {bk2 ct2 : Env → Prop} {a x2 x3 x5 x7 x8 x9 x10 x11 x12 x13 : Option DV}
    (q : ∀ x6 x7 x8 x9 x10 x11 x12 x13 x5, (∀ dv, x5 = some dv → dv.hold = false) → nx [a, some .bag, x2, x3, some (.dat (HsD hs)), x5, x6, x7, x8, x9, x10, x11, x12, x13]) (h5 : ∀ dv, x5 = some dv → dv.hold = false) :
    forL (gT [gN 5, gN 7]) (sAsg (gN 6) (xB dAdd (oV 6) (oE (xB dMul (oE (xLst (aCons (xVar 5) aNil))) (oE (xCB nLen (oCons (oV 7) oNil))))))) ⟨s_tail ⟨nx, rt, bk, ct, ex⟩, rt, bk2, ct2, ex⟩ (enumD (hs.map logD)) [a, some .bag, x2, x3, some (.dat (HsD hs)), x5, some (.own []), x7, x8, x9, x10, x11, x12, x13] := by
  rw [enumD_hs]
  refine forL_mapN (fun p => .tuple [nD p.2, logD p.1]) (fun pre r => ∃ x5 x7, r = [a, some .bag, x2, x3, some (.dat (HsD hs)), x5, some (.own ((ordOf pre).map nD)), x7, x8, x9, x10, x11, x12, x13] ∧ ∀ dv, x5 = some dv → dv.hold = false) ⟨_, _, rfl, h5⟩ ?_ ?_
  · rintro pre p post r k bk' e ⟨x5, x7, rfl, h5⟩ hk
    have hmem : ∀ q ∈ pre ++ p :: post, q.1.length ≤ 6 := fun q hq => (h1 _ (List.fst_mem_of_mem_zipIdx (e ▸ hq))).2
    have hpl : pre.length ≤ 4 := by
      have := congrArg List.length e
      rw [List.length_zipIdx, List.length_append] at this
      omega
    have hol := ord_len (xs := pre) fun q hq => hmem q (List.mem_append_left _ hq)
    have hp6 := hmem p (List.mem_append_right _ (List.mem_cons_self ..))
    walk_at "dl"
    have hol2 := ord_len (xs := pre ++ [p]) fun q hq => by
      rcases List.mem_append.mp hq with h | h
      · exact hmem q (List.mem_append_left _ h)
      · rw [List.mem_singleton.mp h]
        exact hp6
    rw [List.length_append, List.length_singleton] at hol2
    rw [show (((p.1.map ptD).length : Nat) : Int).toNat = p.1.length by rw [Int.toNat_natCast, List.length_map], ← List.length_append, ord_snoc]
    refine ⟨by rw [List.length_map]; omega, ?_⟩
    walk_at "dl"
    exact hk _ ⟨_, _, rfl, fun dv h => by cases h; rfl⟩
  · rintro r ⟨x5, x7, rfl, h5⟩
    unfold s_tail
    walk_at "dl"
    have hol := ord_len (xs := hs.zipIdx) fun q hq => (h1 _ (List.fst_mem_of_mem_zipIdx hq)).2
    rw [List.length_zipIdx] at hol
    refine mixedG_ok (F := nD) (fun h hh => fin_int0 (by have := ord_mem hh; omega)) (by omega) fun o hp => ?_
    have P := ord_ok h1 h2 hp
    have few := P.few
    walk_at "dl"
    rw [List.length_map, Int.toNat_natCast, spots_zero P]
    refine forL_ivN (fun i r => ∃ x5, r = [a, some .bag, x2, x3, some (.dat (HsD hs)), x5, some (.dat (orD o)), some (.own ((lbs hs o i).map ptD)), some (.own (spots hs o i)), some (.own ((o.take i).map nD)), x10, x11, x12, x13] ∧ ∀ dv, x5 = some dv → dv.hold = false) ⟨_, rfl, h5⟩ ?_ ?_
    · rintro i x r k0 bk0 hx ⟨x5, rfl, h5⟩ hk0
      have hi : i < o.length := by
        have h := (List.getElem?_eq_some_iff.mp hx).1
        rw [List.length_map] at h
        exact h
      obtain rfl : x = nD (od o i) := by
        rw [List.getElem?_map, List.getElem?_eq_getElem hi] at hx
        unfold od
        rw [getD_eq hi]
        exact (Option.some.inj hx).symm
      have hll : (lbs hs o i).length = i := by unfold lbs; rw [List.length_map, List.length_range]
      have hto : (o.take i).length ≤ 30 := by rw [List.length_take]; omega
      walk_at "dl"
      rw [at_hand P hi]
      walk_at "dl"
      rw [at_spot P hi]
      walk_at "dl"
      rw [at_row P hi]
      walk_at "dl"
      rw [at_spot P hi]
      walk_at "dl"
      refine ⟨od o i, ixN_at (by unfold spots; rw [List.length_map, List.length_range]; exact od_lt P hi), ?_⟩
      rw [spots_set P hi]
      walk_at "dl"
      refine hk0 _ ⟨some (.dat (nD (od o i))), ?_, fun dv h => by cases h; rfl⟩
      rw [lbs_succ, ← List.take_append_getElem hi, List.map_append]
      unfold od
      rw [getD_eq hi]
      rfl
    · rintro r ⟨x5, rfl, h5⟩
      rw [List.length_map, List.take_of_length_le (Nat.le_refl _)]
      exact tail79b P (fun x7 x9 x10 x11 x12 x13 x5 h5 => q _ _ _ _ _ _ _ _ _ h5) h5
end
end
end DL.LW

namespace DL.LW
open PySem DL
section
local macro_rules | `(tactic| walk_at "dl1") => `(tactic| first
  | ((with_reducible refine v_oE ?_))
  | ((with_reducible apply v_on1); (focus exact rfl))
  | ((with_reducible refine v_xB ?_))
  | ((with_reducible apply v_oV); (focus exact rfl))
  | ((with_reducible apply v_on2); (focus exact rfl); (focus exact rfl))
  | ((with_reducible apply v_gN); (focus ((repeat (first | exact p_z | apply p_s)))))
  | ((with_reducible refine v_xC ?_))
  | ((with_reducible apply v_xVarD); (focus exact rfl))
  | ((with_reducible refine v_sSeq ?_))
  | ((with_reducible refine v_sAsg ?_))
  | ((with_reducible refine v_sIf ?_))
  | ((with_reducible refine v_bX ?_))
  | ((with_reducible refine v_onB ?_))
  | ((with_reducible refine v_oCons ?_))
  | ((with_reducible refine v_oNil ?_))
  | ((with_reducible refine v_aCons ?_))
  | ((with_reducible refine v_argD ?_))
  | ((with_reducible refine v_argB ?_))
  | ((with_reducible refine v_argO ?_))
  | ((with_reducible refine v_aNil ?_))
  | ((with_reducible refine v_xCB ?_))
  | ((with_reducible apply v_onL); (focus exact rfl))
  | ((with_reducible refine v_xCall ?_))
  | ((with_reducible refine v_xU ?_))
  | ((with_reducible refine v_xAnd ?_))
  | ((with_reducible refine v_xOr ?_))
  | ((with_reducible refine v_xNot ?_))
  | ((with_reducible refine v_xTup ?_))
  | ((with_reducible refine v_xLst ?_))
  | ((with_reducible refine v_xIf ?_))
  | ((with_reducible refine v_bO ?_))
  | ((with_reducible refine v_bAnd ?_))
  | ((with_reducible refine v_bOr ?_))
  | ((with_reducible refine v_bNot ?_))
  | ((with_reducible refine v_bYes ?_))
  | ((with_reducible refine v_wX ?_))
  | ((with_reducible refine v_wRange1 ?_))
  | ((with_reducible refine v_wRange2 ?_))
  | ((with_reducible refine v_gsN ?_))
  | ((with_reducible refine v_gsC ?_))
  | ((with_reducible refine v_pNo ?_))
  | ((with_reducible refine v_pSome ?_))
  | ((with_reducible refine v_xCut ?_))
  | ((with_reducible refine v_xLc ?_))
  | ((with_reducible refine v_sNext ?_))
  | ((with_reducible refine v_sPar ?_))
  | ((with_reducible refine v_sDrop ?_))
  | ((with_reducible refine v_sRet ?_))
  | ((with_reducible refine v_sRetN ?_))
  | ((with_reducible refine v_sBrk ?_))
  | ((with_reducible refine v_sCnt ?_))
  | ((with_reducible refine v_sFor ?_))
  | ((with_reducible refine v_ifT ?_))
  | ((with_reducible refine v_ifF ?_))
  | ((with_reducible refine v_onCmp ?_))
  | ((with_reducible refine v_xCh ?_))
  | ((with_reducible refine v_addI ?_))
  | ((with_reducible refine v_subI ?_))
  | ((with_reducible refine v_eqI ?_))
  | ((with_reducible refine v_neShown (by assumption) ?_))
  | ((with_reducible refine v_eqShown (by assumption) ?_))
  | ((with_reducible refine v_neI ?_))
  | ((with_reducible refine v_is ?_))
  | ((with_reducible refine v_isNot ?_))
  | ((with_reducible refine v_ltI ?_))
  | ((with_reducible refine v_leI ?_))
  | ((with_reducible refine v_gtI ?_))
  | ((with_reducible refine v_geI ?_))
  | ((with_reducible refine v_addT ?_))
  | ((with_reducible refine v_addL ?_))
  | ((with_reducible refine v_addS ?_))
  | ((with_reducible refine v_mulI ?_))
  | ((with_reducible refine v_mulT ?_))
  | ((with_reducible refine v_mulL ?_))
  | ((with_reducible refine v_div ?_))
  | ((with_reducible refine v_mod ?_))
  | ((with_reducible refine v_pow ?_))
  | ((with_reducible refine v_neg ?_))
  | ((with_reducible refine v_eq ?_))
  | ((with_reducible refine v_ne ?_))
  | ((with_reducible refine v_ixL ?_))
  | ((with_reducible refine v_ixT ?_))
  | ((with_reducible refine v_cutL ?_))
  | ((with_reducible refine v_cutT ?_))
  | ((with_reducible refine v_cutS ?_))
  | ((with_reducible refine v_lenL ?_))
  | ((with_reducible refine v_lenT ?_))
  | ((with_reducible refine v_lenS ?_))
  | ((with_reducible refine v_repr ?_))
  | ((with_reducible refine v_tupL ?_))
  | ((with_reducible refine v_tupT ?_))
  | ((with_reducible refine v_lstL ?_))
  | ((with_reducible refine v_lstT ?_))
  | ((with_reducible refine v_intI ?_))
  | ((with_reducible refine v_abs ?_))
  | ((with_reducible refine v_maxI ?_))
  | ((with_reducible refine v_minI ?_))
  | ((with_reducible refine v_dInt ?_))
  | ((with_reducible apply v_tB); (focus exact rfl))
  | ((with_reducible apply v_tI); (focus exact rfl))
  | ((with_reducible apply v_tL); (focus exact rfl))
  | ((with_reducible apply v_tT); (focus exact rfl))
  | ((with_reducible apply v_tN); (focus exact rfl))
  | ((with_reducible apply v_tS); (focus exact rfl))
  | (with_reducible refine v_ifN ?_)
  | (with_reducible refine v_ifNonT ?_)
  | (with_reducible refine v_ifNonI ?_)
  | (with_reducible refine v_ifNonT' ?_)
  | ((with_reducible apply v_onI); (focus exact rfl))
  | ((with_reducible apply v_onX); (focus exact rfl))
  | ((with_reducible apply v_xVarB); (focus exact rfl))
  | ((with_reducible apply v_gT); (focus exact rfl))
  | ((with_reducible apply v_sAug); (focus exact rfl))
  | ((with_reducible apply v_lc); (focus ((try simp only [clrs, putO, put]); exact rfl)))
  | ((with_reducible apply v_cl2); (focus ((try simp only [clrs, putO, put]); exact rfl)))
  | ((with_reducible apply v_bk2); (focus ((try simp only [back, putO, put, sl]); exact rfl)))
  | ((with_reducible apply v_xApp); (focus exact rfl))
  | ((with_reducible apply v_xMt); (focus exact rfl))
  | ((with_reducible apply v_onLO); (focus exact rfl); (focus exact rfl))
  | ((with_reducible refine v_mExt ?_))
  | ((with_reducible apply v_onO); (focus exact rfl))
  | ((with_reducible apply v_xVarO); (focus exact rfl); (focus ((repeat (first | exact p_z | apply p_s)))))
  | ((with_reducible apply v_xMv); (focus exact rfl); (focus ((repeat (first | exact p_z | apply p_s)))))
  | ((with_reducible apply v_onII); (focus exact rfl); (focus exact rfl))
  | ((with_reducible apply v_onDO); (focus exact rfl); (focus exact rfl))
  | ((with_reducible apply v_on3); (focus exact rfl); (focus exact rfl); (focus exact rfl))
  | ((with_reducible refine v_argN ?_))
  | ((with_reducible refine v_tupN ?_))
  | ((with_reducible refine v_wZip ?_))
  | ((with_reducible refine v_avN ?_))
  | ((with_reducible refine v_avC ?_))
  | ((with_reducible refine v_sMul ?_))
  | ((with_reducible refine v_gAllN ?_))
  | ((with_reducible refine v_gAllC ?_))
  | ((with_reducible refine v_xDIn ?_))
  | ((with_reducible refine v_xDNew ?_))
  | ((with_reducible refine v_sDPut ?_))
  | ((with_reducible refine v_xLIdx ?_))
  | ((with_reducible refine v_onSs ?_))
  | ((with_reducible apply v_xDGet); (focus exact rfl))
  | ((with_reducible apply v_exD); (focus exact rfl))
  | ((with_reducible apply v_exL); (focus exact rfl))
  | ((with_reducible apply v_xVarN); (focus exact rfl))
  | ((with_reducible apply v_xTIdx); (focus exact rfl))
  | ((with_reducible apply v_onTT); (focus exact rfl))
  | ((with_reducible apply v_onTTl); (focus exact rfl))
  | ((with_reducible apply v_onDc); (focus exact rfl); (focus exact rfl))
  | ((with_reducible apply v_onSN); (focus exact rfl); (focus exact rfl))
  | ((with_reducible apply v_onLD); (focus exact rfl); (focus exact rfl))
  | ((with_reducible refine v_xDOne ?_ ?_); (focus (intro z; cases z)))
  | ((with_reducible apply v_xLcO); (focus exact rfl); (focus ((repeat (first | exact p_z | apply p_s)))))
  | ((with_reducible apply v_bk3); (focus ((try simp only [back, putO, put, sl]); exact rfl)))
  | ((with_reducible refine v_own1 ?_ ?_); (focus (intro _ e; first | (cases e; done) | (cases e; rfl))))
  | ((with_reducible refine v_own2 ?_ ?_ ?_); (focus (intro _ e; first | (cases e; done) | (cases e; rfl))); (focus (intro _ e; first | (cases e; done) | (cases e; rfl))))
  | ((with_reducible refine v_sRaise ?_))
  | ((with_reducible refine v_sTry ?_))
  | ((with_reducible apply v_onEx); (focus exact rfl); (focus (simp only [List.length_cons, List.length_nil]; omega)))
  | ((with_reducible apply v_onExF); (focus exact rfl))
  | ((with_reducible refine v_hRetT ?_))
  | ((with_reducible refine v_hNil ?_))
  | ((with_reducible refine v_hCons ?_))
  | ((with_reducible refine v_hC ?_))
  | ((with_reducible apply v_hF); (focus exact rfl); (focus exact rfl))
  | ((with_reducible apply v_onTLt); (focus exact rfl))
  | ((with_reducible apply v_onTLl); (focus exact rfl))
  | ((with_reducible refine v_aStar ?_))
  | ((with_reducible apply v_onLA); (focus exact rfl))
  | ((with_reducible refine v_xLc2 ?_))
  | ((with_reducible refine v_sSetI ?_))
  | ((with_reducible refine v_sAugI ?_))
  | ((with_reducible apply v_exO); (focus exact rfl))
  | ((with_reducible apply v_onIO); (focus exact rfl); (focus exact rfl))
  | ((with_reducible apply v_xDGet2); (focus exact rfl))
  | ((with_reducible apply v_onDD); (focus exact rfl); (focus exact rfl); (focus exact rfl))
  | ((with_reducible apply v_xDSetd); (focus exact rfl))
  | ((with_reducible refine v_mulII ?_))
  | ((with_reducible refine v_isTy ?_))
  | ((with_reducible refine v_wEnum ?_))
  | ((with_reducible refine v_inL ?_))
  | ((with_reducible refine v_notInL ?_))
  | ((with_reducible refine v_inS ?_))
  | ((with_reducible refine v_notInS ?_))
  | ((with_reducible refine v_sRaise0 ?_))
  | ((with_reducible refine v_sTryM ?_))
  | ((with_reducible apply v_xLam); (focus ((try simp only [frz, frz1, sl, put]); exact rfl)); (focus ((try simp only [bare, List.map_cons, List.map_nil, bareO]); exact rfl)))
  | ((with_reducible apply v_onLv); (focus exact rfl))
  | ((with_reducible refine v_onLx ?_))
  | ((with_reducible refine v_hRetC ?_))
  | ((with_reducible refine v_intB ?_))
  | ((with_reducible apply v_hIfT); (focus exact rfl))
  | ((with_reducible apply v_hIfF); (focus exact rfl))
  | (with_reducible refine And.intro (Fine.repr (by assumption) (by decide) (by decide)) ?_)
  | (with_reducible refine And.intro (Fine.ok (by assumption) (by decide)) ?_)
  | (with_reducible refine And.intro (Fine.okS (by assumption)) ?_)
  | ((with_reducible refine And.intro ?_ ?_); (focus (first | omega | exact (by decide) | (simp only [List.length_cons, List.length_nil, List.length_map, List.length_range, rangeL_len] <;> omega) | (simp only [List.length_cons, List.length_nil, List.length_append, List.length_map, List.length_range, rangeL_len] <;> omega) | exact Or.inl ⟨by omega, by omega⟩ | exact Or.inr (Or.inl ⟨by omega, by omega⟩)))))
local macro_rules | `(tactic| walk_at "dl") => `(tactic| repeat (walk_at "dl1"))
local macro_rules | `(tactic| walk_at "fn") => `(tactic| simp only [fnSpec, List.map_cons, List.map_nil, List.length_cons, List.length_nil, List.replicate, List.cons_append, List.nil_append, Nat.reduceAdd, Nat.reduceSub, List.replicate_succ, List.replicate_zero])
local macro_rules | `(tactic| walk_at "fine") => `(tactic| repeat (first | assumption | exact fin_none0 | exact fin_bool0 | exact fins_nil | (with_reducible refine fins_cons ?_ ?_) | (with_reducible refine fin_tup ?_) | (with_reducible refine fin_lst ?_) | exact fin_int0 (by omega) | exact fin_lit _))
theorem vc_law : LawVC 14 1 m_law := by
  unfold LawVC m_law
  show sSeq _ _ _ [none, some .bag, none, none, none, none, none, none, none, none, none, none, none, none]
  walk_at "dl"
  refine forL_ivN (fun i r => ∃ a x2 x3 x4 x5 x6 x7 x8 x9 x10 x11 x12 x13, r = [a, some .bag, x2, x3, x4, x5, x6, x7, x8, x9, x10, x11, x12, x13] ∧ ∀ dv, x5 = some dv → dv.hold = false) ⟨_, _, _, _, _, _, _, _, _, _, _, _, _, rfl, fun _ h => by cases h⟩ ?_ ?_
  · rintro i x r nx bk0 hx ⟨_, _, _, _, x5, _, _, _, _, _, _, _, _, rfl, h5⟩ hn
    clear hx
    walk_at "dl"
    refine take_ok (by decide) (by decide) fun t ht0 ht1 => ?_
    walk_at "dl"
    refine names_ok (n0 := 1 + t) (by omega) (by omega) fun zs hzn hzl hz => ?_
    have hz0 : 0 < zs.length := by omega
    have hz1 : zs.length ≤ 12 := by omega
    clear ht0 ht1 hzn hzl
    walk_at "dl"
    refine some_ok (by simp) (by simp) fun d hd => ?_
    obtain ⟨m, rfl, hm⟩ : ∃ m : Nat, d = .int ((m : Nat) : Int) ∧ m ≤ 30 := by
      simp only [List.mem_cons, List.not_mem_nil, or_false] at hd
      rcases hd with rfl | rfl | rfl
      · exact ⟨8, rfl, by decide⟩
      · exact ⟨30, rfl, by decide⟩
      · exact ⟨2, rfl, by decide⟩
    clear hd
    walk_at "dl"
    refine word_log_ok hz0 hz1 hz hm fun l hl _ => ?_
    walk_at "dl"
    refine log_right_ok hl ?_
    clear hl
    walk_at "dl"
    refine take_ok (by decide) (by decide) fun t2 ht2 ht3 => ?_
    walk_at "dl"
    refine v_own1 (fun dv e => h5 dv e) ?_
    walk_at "dl"
    refine lcL_each (fun d => ∃ l, d = logD l ∧ LgOk l ∧ l.length ≤ 6) (by rw [rangeL_len]; omega) ?_ ?_
    · intro x hx acc K ha hK
      walk_at "dl"
      refine word_log_ok (m := 6) hz0 hz1 hz (by decide) fun l hl hl6 => ?_
      walk_at "dl"
      exact hK _ ⟨l, rfl, hl, hl6⟩
    · intro ys hl hy
      rw [rangeL_len] at hl
      obtain ⟨hs, rfl, hp⟩ := logs_of hy
      rw [List.length_map] at hl
      walk_at "dl"
      exact tail79a hp (by omega) (fun _ _ _ _ _ _ _ _ _ h => hn _ ⟨_, _, _, _, _, _, _, _, _, _, _, _, _, rfl, h⟩) h5
  · rintro r ⟨_, _, _, _, x5, _, _, _, _, _, _, _, _, rfl, h5⟩
    clear h5
    walk_at "dl"
    have e0 : LgOk [] := ⟨by decide, fun _ h => by cases h⟩
    have P0 : OrOk [[]] [] := ⟨fun _ h => (by cases h), fun h => (by rw [List.count_nil]; omega), fun l h => (by rw [List.mem_singleton.mp h]; exact e0), by decide, by decide⟩
    refine decided_ok (l := []) e0 fun ys hp _ => ?_
    cases List.Perm.eq_nil hp
    walk_at "dl"
    refine answers_ok (l := []) e0 ?_
    walk_at "dl"
    refine log_by_ok (hs := [[]]) (o := []) P0 ?_
    walk_at "dl"
    refine choice_ok (hs := [[]]) (o := []) P0 fun ys hp _ => ?_
    cases List.Perm.eq_nil hp
    walk_at "dl"
    have f0 : Fine 1 0 (.tuple []) := fin_tup fins_nil
    refine alike_ok (d := .list [.tuple [], .tuple [], .tuple [], .tuple []]) (fin_lst (fins_cons f0 (fins_cons f0 (fins_cons f0 (fins_cons f0 fins_nil))))) (by decide) (by decide) ?_
    rfl
end
end DL.LW

namespace DL.LW
open PySem PySem.Spec L2 DL
def top (i : Nat) : Stmt := PySem.Challenge.pw_onceortold_k79_first_words_decide.main.body.getD i (.Pass ⟨0, 0, 0, 0⟩)
abbrev s_decided : Stmt := top 1
theorem sc_decided : FnScope ["log", "found", "task", "word"] ["log"] (defScope s_decided) := ⟨rfl, rfl, rfl, by decide +kernel, rfl, by decide +kernel, by decide +kernel⟩
abbrev s_answers : Stmt := top 2
theorem sc_answers : FnScope ["log", "first", "found", "at", "task", "word"] ["log"] (defScope s_answers) := ⟨rfl, rfl, rfl, by decide +kernel, rfl, by decide +kernel, by decide +kernel⟩
abbrev s_log_by : Stmt := top 3
theorem sc_log_by : FnScope ["hands", "order", "spots", "found", "hand"] ["hands", "order"] (defScope s_log_by) := ⟨rfl, rfl, rfl, by decide +kernel, rfl, by decide +kernel, by decide +kernel⟩
abbrev s__law_bag : Stmt := top 6
theorem sc__law_bag : FnScope ["script", "cell"] ["script"] (defScope s__law_bag) := ⟨rfl, rfl, rfl, by decide +kernel, rfl, by decide +kernel, by decide +kernel⟩
abbrev s__law_take : Stmt := top 7
theorem sc__law_take : FnScope ["bag", "many", "cell", "stirred", "value", "begin", "second"] ["bag", "many"] (defScope s__law_take) := ⟨rfl, rfl, rfl, by decide +kernel, rfl, by decide +kernel, by decide +kernel⟩
abbrev s__law_alike : Stmt := top 10
theorem sc__law_alike : FnScope ["found", "due"] ["found", "due"] (defScope s__law_alike) := ⟨rfl, rfl, rfl, by decide +kernel, rfl, by decide +kernel, by decide +kernel⟩
abbrev s__law_decided : Stmt := top 12
theorem sc__law_decided : FnScope ["log", "found", "task", "word"] ["log"] (defScope s__law_decided) := ⟨rfl, rfl, rfl, by decide +kernel, rfl, by decide +kernel, by decide +kernel⟩
abbrev s__law_answers : Stmt := top 14
theorem sc__law_answers : FnScope ["log", "found", "firsts", "at", "task", "word"] ["log"] (defScope s__law_answers) := ⟨rfl, rfl, rfl, by decide +kernel, rfl, by decide +kernel, by decide +kernel⟩
abbrev s_choice_of : Stmt := top 4
theorem sc_choice_of : FnScope ["hands", "order", "found", "hand", "task", "word"] ["hands", "order"] (defScope s_choice_of) := ⟨rfl, rfl, rfl, by decide +kernel, rfl, by decide +kernel, by decide +kernel⟩
abbrev s__law_some : Stmt := top 8
theorem sc__law_some : FnScope ["bag", "things"] ["bag", "things"] (defScope s__law_some) := ⟨rfl, rfl, rfl, by decide +kernel, rfl, by decide +kernel, by decide +kernel⟩
abbrev s__law_mixed : Stmt := top 9
theorem sc__law_mixed : FnScope ["bag", "things", "left", "found"] ["bag", "things"] (defScope s__law_mixed) := ⟨rfl, rfl, rfl, by decide +kernel, rfl, by decide +kernel, by decide +kernel⟩
abbrev s__law_is_log_right : Stmt := top 15
theorem sc__law_is_log_right : FnScope ["bag", "log", "kept", "due", "many", "part", "one"] ["bag", "log"] (defScope s__law_is_log_right) := ⟨rfl, rfl, rfl, by decide +kernel, rfl, by decide +kernel, by decide +kernel⟩
abbrev s__law_names : Stmt := top 11
theorem sc__law_names : FnScope ["bag", "many", "names"] ["bag", "many"] (defScope s__law_names) := ⟨rfl, rfl, rfl, by decide +kernel, rfl, by decide +kernel, by decide +kernel⟩
abbrev s__law_word_log : Stmt := top 13
theorem sc__law_word_log : FnScope ["bag", "tasks", "many", "words", "turn"] ["bag", "tasks", "many"] (defScope s__law_word_log) := ⟨rfl, rfl, rfl, by decide +kernel, rfl, by decide +kernel, by decide +kernel⟩
abbrev s_law : Stmt := top 16
theorem sc_law : FnScope ["script", "bag", "turn", "tasks", "hands", "hand", "order", "log", "places", "owners", "first", "task", "word", "kept"] ["script"] (defScope s_law) := ⟨rfl, rfl, rfl, by decide +kernel, rfl, by decide +kernel, by decide +kernel⟩
structure Txt (K : PySem.W.Frag) (mg : Str → Option Value) where
  a_decided : Addr
  d_decided : FuncData
  F_decided : Fun K "decided" "decided" s_decided a_decided d_decided
  g_decided : mg "decided" = some (.ref a_decided)
  b_decided : Binds K d_decided ["log"] []
  a_answers : Addr
  d_answers : FuncData
  F_answers : Fun K "answers" "answers" s_answers a_answers d_answers
  g_answers : mg "answers" = some (.ref a_answers)
  b_answers : Binds K d_answers ["log"] []
  a_log_by : Addr
  d_log_by : FuncData
  F_log_by : Fun K "log_by" "log_by" s_log_by a_log_by d_log_by
  g_log_by : mg "log_by" = some (.ref a_log_by)
  b_log_by : Binds K d_log_by ["hands", "order"] []
  a__law_bag : Addr
  d__law_bag : FuncData
  F__law_bag : Fun K "_law_bag" "_law_bag" s__law_bag a__law_bag d__law_bag
  g__law_bag : mg "_law_bag" = some (.ref a__law_bag)
  b__law_bag : Binds K d__law_bag ["script"] []
  a__law_take : Addr
  d__law_take : FuncData
  F__law_take : Fun K "_law_take" "_law_take" s__law_take a__law_take d__law_take
  g__law_take : mg "_law_take" = some (.ref a__law_take)
  b__law_take : Binds K d__law_take ["bag", "many"] []
  a__law_alike : Addr
  d__law_alike : FuncData
  F__law_alike : Fun K "_law_alike" "_law_alike" s__law_alike a__law_alike d__law_alike
  g__law_alike : mg "_law_alike" = some (.ref a__law_alike)
  b__law_alike : Binds K d__law_alike ["found", "due"] []
  a__law_decided : Addr
  d__law_decided : FuncData
  F__law_decided : Fun K "_law_decided" "_law_decided" s__law_decided a__law_decided d__law_decided
  g__law_decided : mg "_law_decided" = some (.ref a__law_decided)
  b__law_decided : Binds K d__law_decided ["log"] []
  a__law_answers : Addr
  d__law_answers : FuncData
  F__law_answers : Fun K "_law_answers" "_law_answers" s__law_answers a__law_answers d__law_answers
  g__law_answers : mg "_law_answers" = some (.ref a__law_answers)
  b__law_answers : Binds K d__law_answers ["log"] []
  a_choice_of : Addr
  d_choice_of : FuncData
  F_choice_of : Fun K "choice_of" "choice_of" s_choice_of a_choice_of d_choice_of
  g_choice_of : mg "choice_of" = some (.ref a_choice_of)
  b_choice_of : Binds K d_choice_of ["hands", "order"] []
  a__law_some : Addr
  d__law_some : FuncData
  F__law_some : Fun K "_law_some" "_law_some" s__law_some a__law_some d__law_some
  g__law_some : mg "_law_some" = some (.ref a__law_some)
  b__law_some : Binds K d__law_some ["bag", "things"] []
  a__law_mixed : Addr
  d__law_mixed : FuncData
  F__law_mixed : Fun K "_law_mixed" "_law_mixed" s__law_mixed a__law_mixed d__law_mixed
  g__law_mixed : mg "_law_mixed" = some (.ref a__law_mixed)
  b__law_mixed : Binds K d__law_mixed ["bag", "things"] []
  a__law_is_log_right : Addr
  d__law_is_log_right : FuncData
  F__law_is_log_right : Fun K "_law_is_log_right" "_law_is_log_right" s__law_is_log_right a__law_is_log_right d__law_is_log_right
  g__law_is_log_right : mg "_law_is_log_right" = some (.ref a__law_is_log_right)
  b__law_is_log_right : Binds K d__law_is_log_right ["bag", "log"] []
  a__law_names : Addr
  d__law_names : FuncData
  F__law_names : Fun K "_law_names" "_law_names" s__law_names a__law_names d__law_names
  g__law_names : mg "_law_names" = some (.ref a__law_names)
  b__law_names : Binds K d__law_names ["bag", "many"] []
  a__law_word_log : Addr
  d__law_word_log : FuncData
  F__law_word_log : Fun K "_law_word_log" "_law_word_log" s__law_word_log a__law_word_log d__law_word_log
  g__law_word_log : mg "_law_word_log" = some (.ref a__law_word_log)
  b__law_word_log : Binds K d__law_word_log ["bag", "tasks", "many"] []
  a_law : Addr
  d_law : FuncData
  F_law : Fun K "law" "law" s_law a_law d_law
  g_law : mg "law" = some (.ref a_law)
  b_law : Binds K d_law ["script"] []
  n_abs : mg "abs" = none
  n_enumerate : mg "enumerate" = none
  n_int : mg "int" = none
  n_len : mg "len" = none
  n_list : mg "list" = none
  n_range : mg "range" = none
  n_repr : mg "repr" = none
  n_sorted : mg "sorted" = none
  n_tuple : mg "tuple" = none
  n_zip : mg "zip" = none
section
variable {P : Program} {w : World} {K : PySem.W.Frag} {mg : Str → Option Value} {base : Heap}
theorem ok_decided (T : Txt K mg) : FnG false P w K mg base 1 T.a_decided T.d_decided ["log"] p_decided := by
  refine fn_mk (k := 0) T.F_decided sc_decided ?_
  rintro X cdv A outer s H E hcd rfl hgd hr tk hp
  exact (dss_cons (ds_set de_dnew (fun p => ps_set (i := 1) sc_decided.nd rfl (by first | exact Or.inl rfl | exact Or.inr rfl) p))
  (dss_cons (ds_for hp rfl (src_x (de_var (pv 0))) (dg_tup rfl (dgs_cons (dg_name (pg_name (i := 2) sc_decided.nd rfl (by first | exact Or.inl rfl | exact Or.inr rfl))) (dgs_cons (dg_name (pg_name (i := 3) sc_decided.nd rfl (by first | exact Or.inl rfl | exact Or.inr rfl))) dgs_nil))) (dss_one (ds_drop (de_dsetd (pv 1) (do_v (pv 2)) (de_var (pv 3)) ⟨by rfl, by rfl, by rfl, by rfl⟩))))
  (dss_one (ds_ret (de_ct call_tuple_of sem_tuple T.n_tuple (by decide +kernel) (doa_cons (do_e (de_sortIt rfl (pv 1) (fun hc po mt => pe_callB hc (by rfl) T.n_sorted (by decide +kernel) (pa_cons (pe_bm0 PySem.F.plainAttrs_dict PySem.F.slot_dict_items PySem.F.type_dict_items mt po) pa_nil)))) doa_nil))))))
theorem ok_answers (T : Txt K mg) : FnG false P w K mg base 1 T.a_answers T.d_answers ["log"] p_answers := by
  refine fn_mk (k := 0) T.F_answers sc_answers ?_
  rintro X cdv A outer s H E hcd rfl hgd hr tk hp
  exact (dss_cons (ds_par de_dnew (de_lst da_nil) (fun pa => ps_par (i := 1) (j := 2) rfl sc_answers.nd rfl rfl (by decide) rfl rfl pa (by rfl)))
  (dss_cons (ds_for hp rfl (src_enum (de_var (pv 0)) rfl (fun pa => pi_enumT (by rfl) T.n_enumerate pa)) (dg_tup rfl (dgs_cons (dg_name (pg_name (i := 3) sc_answers.nd rfl (by first | exact Or.inl rfl | exact Or.inr rfl))) (dgs_cons (dg_tup rfl (dgs_cons (dg_name (pg_name (i := 4) sc_answers.nd rfl (by first | exact Or.inl rfl | exact Or.inr rfl))) (dgs_cons (dg_name (pg_name (i := 5) sc_answers.nd rfl (by first | exact Or.inl rfl | exact Or.inr rfl))) dgs_nil))) dgs_nil))) (dss_cons (ds_drop (de_app (pv 2) (de_if (dt_din (hu1 hr) (pv 1) (do_v (pv 4))) (de_tup (da_cons de_str (da_cons (de_dget (hu1 hr) (pv 1) (do_v (pv 4)) (fun _ _ => rfl)) da_nil))) (de_tup (da_cons de_str da_nil))) rfl (fun pa pb => pe_bm PySem.F.plainAttrs_list PySem.F.slot_list_append PySem.F.type_list_append mt_append pa pb)))
  (dss_one (ds_drop (de_dsetd (pv 1) (do_v (pv 4)) (de_var (pv 3)) ⟨by rfl, by rfl, by rfl, by rfl⟩)))))
  (dss_one (ds_ret (de_ct call_tuple_of sem_tuple T.n_tuple (by decide +kernel) (doa_cons (do_v (pv 2)) doa_nil))))))
theorem ok_log_by (T : Txt K mg) : FnG false P w K mg base 1 T.a_log_by T.d_log_by ["hands", "order"] p_log_by := by
  refine fn_mk (k := 0) T.F_log_by sc_log_by ?_
  rintro X cdv A outer s H E hcd rfl hgd hr tk hp
  exact (dss_cons (ds_par (de_bin op_mul4 sem_mul (do_e (de_lst (da_cons de_int da_nil))) (do_e (de_cb call_len2 sem_len T.n_len (by decide +kernel) (doa_cons (do_v (pv 0)) doa_nil)))) (de_lst da_nil) (fun pa => ps_par (i := 2) (j := 3) rfl sc_log_by.nd rfl rfl (by decide) rfl rfl pa (by rfl)))
  (dss_cons (ds_for hp rfl (src_x (de_var (pv 1))) (dg_name (pg_name (i := 4) sc_log_by.nd rfl (by first | exact Or.inl rfl | exact Or.inr rfl))) (dss_cons (ds_drop (de_app (pv 3) (de_ix ix_seq sem_ix (do_e (de_ix ix_seq sem_ix (do_v (pv 0)) (do_v (pv 4)) (fun _ _ => rfl))) (do_e (de_ix ix_seq sem_ix (do_v (pv 2)) (do_v (pv 4)) (fun _ _ => rfl))) (fun _ _ => rfl)) rfl (fun pa pb => pe_bm PySem.F.plainAttrs_list PySem.F.slot_list_append PySem.F.type_list_append mt_append pa pb)))
  (dss_one (ds_augI (op := (fun i j => i + j)) (pv 2) (do_v (pv 4)) (do_e de_int) (fun po pi pe => ps_augS po pi get_list pe ip_add set_list)))))
  (dss_one (ds_ret (de_ct call_tuple_of sem_tuple T.n_tuple (by decide +kernel) (doa_cons (do_v (pv 3)) doa_nil))))))
theorem ok__law_bag (T : Txt K mg) : FnOk P w K mg base CX0 1 T.a__law_bag T.d__law_bag ["script"] (spBag K) := by
  refine T.F__law_bag.ok sc__law_bag (fun vs H Q E h => ?_) (fun cdv A outer s H vs Q E hr h => ⟨bagT K, ?_, pure_bag h⟩)
  · obtain ⟨a, ns, rfl, _⟩ := h
    rfl
  · exact pss_one (ps_ret (pe_lst (pa_cons pe_int (pa_cons pe_int (pa_cons pe_int (pa_cons (pe_lc (own := [(("cell" : Str), 1)]) (g := gName 1) (tt := tYes) rfl sc__law_bag.nd (pi_list (pe_slice sl_list (pv 0) po_none (po_some pe_int)))
      (blkOk_by (N := ["script", "cell"]) (sc := defScope s__law_bag) (by decide +kernel)) (fun _ _ _ _ _ => pg_name (i := 1) sc__law_bag.nd rfl (Or.inl rfl)) (fun _ _ _ _ _ => pts_nil) (fun _ _ _ _ _ => pe_callB call_abs rfl T.n_abs (by decide +kernel) (pa_cons (pv 1) pa_nil))) pa_nil))))))
theorem ok__law_take (T : Txt K mg) : FnG false P w K mg base 1 T.a__law_take T.d__law_take ["bag", "many"] takeS := by
  constructor
  intro A outer s H args us vs Q E hg hr e0 hb rv h
  refine fn_raw (k := 0) T.F__law_take sc__law_take hr e0 hb rv h.1 fun cdv _ => ⟨takeT K, ?_, pure_take h⟩
  have nd := sc__law_take.nd
  exact Evl.pss_cut (ps_if (pt_cmpR op_eq (pe_ix ix_list (pv 0) pe_int (fun _ _ => rfl)) pe_int (nomark _))
    (pss_cons (ps_set (i := 2) nd rfl (Or.inl rfl) (pe_ix ix_list (pe_op op_cat (pe_slice sl_list (pe_ix ix_list (pv 0) pe_int (fun _ _ => rfl)) (po_some (pe_ix ix_list (pv 0) pe_int (fun _ _ => rfl))) po_none) (pe_lst (pa_cons pe_int pa_nil))) pe_int (fun _ _ => rfl)))
    (pss_cons (ps_augS (pv 0) pe_int get_list pe_int ip_add set_list)
    (pss_cons (ps_if (pt_cmpR op_ge (pv 2) (pe_op op_pow pe_int pe_int) (nomark _)) (pss_one (ps_asg (pv 2) (pg_sub (pv 0) pe_int set_list))) pss_nil)
    (pss_cons (ps_set (i := 3) nd rfl (Or.inl rfl) (pe_op op_add (pe_op op_add (pe_op op_mul (pe_ix ix_list (pv 0) pe_int (fun _ _ => rfl)) pe_int) (pe_op op_mod (pe_callTy call_int1 rfl T.n_int (by decide +kernel) (pa_cons (pv 2) pa_nil)) pe_int)) (pe_op op_mul pe_int (pe_ix ix_list (pv 0) pe_int (fun _ _ => rfl)))))
    (pss_one (ps_asg (pe_op op_mod (pe_callTy call_int1 rfl T.n_int (by decide +kernel) (pa_cons (pv 3) pa_nil)) pe_int) (pg_sub (pv 0) pe_int set_list))))))) pss_nil)
    (pss_cons (ps_if (pt_cmpR op_gt (pe_ix ix_list (pv 0) pe_int (fun _ _ => rfl)) pe_int (nomark _))
      (pss_cons (ps_set (i := 4) nd rfl (Or.inl rfl) (pe_op op_mod (pe_callTy call_int1 rfl T.n_int (by decide +kernel) (pa_cons (pe_ix ix_list (pv 0) pe_int (fun _ _ => rfl)) pa_nil)) (pv 1)))
      (pss_cons (ps_asg (pe_op op_fdiv (pe_callTy call_int1 rfl T.n_int (by decide +kernel) (pa_cons (pe_ix ix_list (pv 0) pe_int (fun _ _ => rfl)) pa_nil)) (pv 1)) (pg_sub (pv 0) pe_int set_list))
      (pss_one (ps_ret (pv 4))))) pss_nil)
    (pss_cons (ps_set (i := 5) nd rfl (Or.inl rfl) (pe_op op_mod (pe_callTy call_int1 rfl T.n_int (by decide +kernel) (pa_cons (pe_op op_mul (pe_op op_add (pe_ix ix_list (pv 0) pe_int (fun _ _ => rfl)) pe_int) pe_int) pa_nil)) pe_int))
    (pss_cons (ps_set (i := 6) nd rfl (Or.inl rfl) (pe_op op_mod (pe_callTy call_int1 rfl T.n_int (by decide +kernel) (pa_cons (pe_op op_mul (pe_op op_mod (pe_callTy call_int1 rfl T.n_int (by decide +kernel) (pa_cons (pe_op op_mul (pv 5) (pv 5)) pa_nil)) pe_int) pe_int) pa_nil)) pe_int))
    (pss_one (ps_ret (pe_op op_mod (pe_callTy call_int1 rfl T.n_int (by decide +kernel) (pa_cons (pe_op op_fdiv (pv 6) pe_int) pa_nil)) (pv 1)))))))
theorem ok__law_alike (T : Txt K mg) : FnG true P w K mg base 1 T.a__law_alike T.d__law_alike ["found", "due"] p__law_alike := by
  refine fn_mk (k := 0) T.F__law_alike sc__law_alike ?_
  rintro X cdv A outer s H E hcd rfl hgd hr tk hp
  exact (dss_one (ds_ret (de_and (de_cmp (op_eqD hr.units) sem_eq (do_e (de_cb (call_reprD (hgd rfl) (hu100 hr)) sem_repr T.n_repr (by decide +kernel) (doa_cons (do_v (pv 0)) doa_nil))) (do_e (de_cb (call_reprD (hgd rfl) (hu100 hr)) sem_repr T.n_repr (by decide +kernel) (doa_cons (do_v (pv 1)) doa_nil))) (nomark _)) (de_one (de_cmp (op_eqD hr.units) sem_eq (do_v (pv 0)) (do_v (pv 1)) (nomark _))))))
theorem ok__law_decided (T : Txt K mg) : FnG false P w K mg base 1 T.a__law_decided T.d__law_decided ["log"] p__law_decided := by
  refine fn_mk (k := 0) T.F__law_decided sc__law_decided ?_
  rintro X cdv A outer s H E hcd rfl hgd hr tk hp
  exact (dss_cons (ds_set de_dnew (fun p => ps_set (i := 1) sc__law_decided.nd rfl (by first | exact Or.inl rfl | exact Or.inr rfl) p))
  (dss_cons (ds_for hp rfl (src_x (de_var (pv 0))) (dg_tup rfl (dgs_cons (dg_name (pg_name (i := 2) sc__law_decided.nd rfl (by first | exact Or.inl rfl | exact Or.inr rfl))) (dgs_cons (dg_name (pg_name (i := 3) sc__law_decided.nd rfl (by first | exact Or.inl rfl | exact Or.inr rfl))) dgs_nil))) (dss_one (ds_if (dt_dnin (hu1 hr) (pv 1) (do_v (pv 2))) (dss_one (ds_dput (hu1 hr) (pv 1) (do_v (pv 2)) (de_var (pv 3)))) dss_nil)))
  (dss_one (ds_ret (de_sortIt rfl (pv 1) (fun hc po mt => pe_callB hc (by rfl) T.n_sorted (by decide +kernel) (pa_cons (pe_bm0 PySem.F.plainAttrs_dict PySem.F.slot_dict_items PySem.F.type_dict_items mt po) pa_nil)))))))
theorem ok__law_answers (T : Txt K mg) : FnG false P w K mg base 1 T.a__law_answers T.d__law_answers ["log"] p__law_answers := by
  refine fn_mk (k := 0) T.F__law_answers sc__law_answers ?_
  rintro X cdv A outer s H E hcd rfl hgd hr tk hp
  exact (dss_cons (ds_par (de_lst da_nil) de_dnew (fun pa => ps_par (i := 1) (j := 2) rfl sc__law_answers.nd rfl rfl (by decide) rfl rfl pa (by rfl)))
  (dss_cons (ds_for hp rfl (src_enum (de_var (pv 0)) rfl (fun pa => pi_enumT (by rfl) T.n_enumerate pa)) (dg_tup rfl (dgs_cons (dg_name (pg_name (i := 3) sc__law_answers.nd rfl (by first | exact Or.inl rfl | exact Or.inr rfl))) (dgs_cons (dg_tup rfl (dgs_cons (dg_name (pg_name (i := 4) sc__law_answers.nd rfl (by first | exact Or.inl rfl | exact Or.inr rfl))) (dgs_cons (dg_name (pg_name (i := 5) sc__law_answers.nd rfl (by first | exact Or.inl rfl | exact Or.inr rfl))) dgs_nil))) dgs_nil))) (dss_cons (ds_drop (de_app (pv 1) (de_if (dt_din (hu1 hr) (pv 2) (do_v (pv 4))) (de_tup (da_cons de_str (da_cons (de_dget (hu1 hr) (pv 2) (do_v (pv 4)) (fun _ _ => rfl)) da_nil))) (de_tup (da_cons de_str da_nil))) rfl (fun pa pb => pe_bm PySem.F.plainAttrs_list PySem.F.slot_list_append PySem.F.type_list_append mt_append pa pb)))
  (dss_one (ds_dput (hu1 hr) (pv 2) (do_v (pv 4)) (de_dget2 (hu1 hr) (pv 2) (do_v (pv 4)) (de_var (pv 3)) ⟨by rfl, by rfl, by rfl, by rfl⟩)))))
  (dss_one (ds_ret (de_ct call_tuple_of sem_tuple T.n_tuple (by decide +kernel) (doa_cons (do_v (pv 1)) doa_nil))))))
theorem ok_choice_of (T : Txt K mg) : FnG false P w K mg base 2 T.a_choice_of T.d_choice_of ["hands", "order"] p_choice_of := by
  refine fn_mk (k := 1) T.F_choice_of sc_choice_of ?_
  rintro X cdv A outer s H E hcd rfl hgd hr tk hp
  exact (dss_cons (ds_set de_dnew (fun p => ps_set (i := 2) sc_choice_of.nd rfl (by first | exact Or.inl rfl | exact Or.inr rfl) p))
  (dss_cons (ds_for hp rfl (src_zip (da_cons (de_var (pv 1)) (da_cons (de_call0 (ok_log_by T) (fun z => nomatch z) (hr.mono (by decide)) tk T.g_log_by T.F_log_by.kp T.b_log_by rfl (da_cons (de_var (pv 0)) (da_cons (de_var (pv 1)) da_nil))) da_nil)) (fun pa => RZ.pi_zipA (by rfl) T.n_zip pa)) (dg_tup rfl (dgs_cons (dg_name (pg_name (i := 3) sc_choice_of.nd rfl (by first | exact Or.inl rfl | exact Or.inr rfl))) (dgs_cons (dg_tup rfl (dgs_cons (dg_name (pg_name (i := 4) sc_choice_of.nd rfl (by first | exact Or.inl rfl | exact Or.inr rfl))) (dgs_cons (dg_name (pg_name (i := 5) sc_choice_of.nd rfl (by first | exact Or.inl rfl | exact Or.inr rfl))) dgs_nil))) dgs_nil))) (dss_one (ds_drop (de_dsetd (pv 2) (do_v (pv 4)) (de_var (pv 3)) ⟨by rfl, by rfl, by rfl, by rfl⟩))))
  (dss_one (ds_ret (de_ct call_tuple_of sem_tuple T.n_tuple (by decide +kernel) (doa_cons (do_e (de_sortIt rfl (pv 2) (fun hc po mt => pe_callB hc (by rfl) T.n_sorted (by decide +kernel) (pa_cons (pe_bm0 PySem.F.plainAttrs_dict PySem.F.slot_dict_items PySem.F.type_dict_items mt po) pa_nil)))) doa_nil))))))
theorem ok__law_some (T : Txt K mg) : FnG false P w K mg base 2 T.a__law_some T.d__law_some ["bag", "things"] p__law_some := by
  refine fn_mk (k := 1) T.F__law_some sc__law_some ?_
  rintro X cdv A outer s H E hcd rfl hgd hr tk hp
  exact (dss_one (ds_ret (de_ix ix_seq sem_ix (do_v (pv 1)) (do_e (de_call0 (ok__law_take T) (fun z => nomatch z) (hr.mono (by decide)) tk T.g__law_take T.F__law_take.kp T.b__law_take rfl (da_cons (de_var (pv 0)) (da_cons (de_cb call_len2 sem_len T.n_len (by decide +kernel) (doa_cons (do_v (pv 1)) doa_nil)) da_nil)))) (fun _ _ => rfl))))
theorem ok__law_mixed (T : Txt K mg) : FnG false P w K mg base 2 T.a__law_mixed T.d__law_mixed ["bag", "things"] p__law_mixed := by
  refine fn_mk (k := 1) T.F__law_mixed sc__law_mixed ?_
  rintro X cdv A outer s H E hcd rfl hgd hr tk hp
  exact (dss_cons (ds_par (de_ct call_list_of sem_list T.n_list (by decide +kernel) (doa_cons (do_v (pv 1)) doa_nil)) (de_lst da_nil) (fun pa => ps_par (i := 2) (j := 3) rfl sc__law_mixed.nd rfl rfl (by decide) rfl rfl pa (by rfl)))
  (dss_cons (ds_while hp (dt_cmp (op_neD hr.units) sem_ne (do_v (pv 2)) (do_e (de_lst da_nil)) (nomark _)) (dss_one (ds_drop (de_app (pv 3) (de_meth (pv 2) semM_pop (doa_cons (do_e (de_call0 (ok__law_take T) (fun z => nomatch z) (hr.mono (by decide)) tk T.g__law_take T.F__law_take.kp T.b__law_take rfl (da_cons (de_var (pv 0)) (da_cons (de_cb call_len2 sem_len T.n_len (by decide +kernel) (doa_cons (do_v (pv 2)) doa_nil)) da_nil)))) doa_nil) (fun pa pb => pe_bm PySem.F.plainAttrs_list PySem.F.slot_list_pop PySem.F.type_list_pop mt_popAt pa pb)) rfl (fun pa pb => pe_bm PySem.F.plainAttrs_list PySem.F.slot_list_append PySem.F.type_list_append mt_append pa pb)))))
  (dss_one (ds_ret (de_mv (pv 3))))))
theorem ok__law_is_log_right (T : Txt K mg) : FnG true P w K mg base 2 T.a__law_is_log_right T.d__law_is_log_right ["bag", "log"] p__law_is_log_right := by
  refine fn_mk (k := 1) T.F__law_is_log_right sc__law_is_log_right ?_
  rintro X cdv A outer s H E hcd rfl hgd hr tk hp
  exact (dss_cons (ds_mult (is := [2, 3]) (dav_cons (de_cb (call_reprD (hgd rfl) (hu100 hr)) sem_repr T.n_repr (by decide +kernel) (doa_cons (do_v (pv 1)) doa_nil)) (dav_cons (de_ct call_tuple_of sem_tuple T.n_tuple (by decide +kernel) (doa_cons (do_e (de_call0 (ok__law_decided T) (fun z => nomatch z) (hr.mono (by decide)) tk T.g__law_decided T.F__law_decided.kp T.b__law_decided rfl (da_cons (de_var (pv 1)) da_nil))) doa_nil)) dav_nil)) rfl (by decide) rfl (fun pa => ps_asg (pe_tup pa) (pg_tup rfl (pgs_cons (pg_name (i := 2) sc__law_is_log_right.nd rfl (by first | exact Or.inl rfl | exact Or.inr rfl)) (pgs_cons (pg_name (i := 3) sc__law_is_log_right.nd rfl (by first | exact Or.inl rfl | exact Or.inr rfl)) pgs_nil)))))
  (dss_cons (ds_if (DW.t (dw_or (dt_not (dt_o (do_e (de_call0 (ok__law_alike T) (fun _ => hgd rfl) (hr.mono (by decide)) tk T.g__law_alike T.F__law_alike.kp T.b__law_alike rfl (da_cons (de_lst (da_cons (de_call0 (ok_decided T) (fun z => nomatch z) (hr.mono (by decide)) tk T.g_decided T.F_decided.kp T.b_decided rfl (da_cons (de_var (pv 1)) da_nil)) (da_cons (de_call0 (ok_answers T) (fun z => nomatch z) (hr.mono (by decide)) tk T.g_answers T.F_answers.kp T.b_answers rfl (da_cons (de_var (pv 1)) da_nil)) da_nil))) (da_cons (de_lst (da_cons (de_var (pv 3)) (da_cons (de_call0 (ok__law_answers T) (fun z => nomatch z) (hr.mono (by decide)) tk T.g__law_answers T.F__law_answers.kp T.b__law_answers rfl (da_cons (de_var (pv 1)) da_nil)) da_nil))) da_nil)))))) (dw_or1 (dt_cmp (op_neD hr.units) sem_ne (do_e (de_cb (call_reprD (hgd rfl) (hu100 hr)) sem_repr T.n_repr (by decide +kernel) (doa_cons (do_v (pv 1)) doa_nil))) (do_v (pv 2)) (nomark _))))) (dss_one (ds_ret de_bl)) dss_nil)
  (dss_cons (ds_for hp rfl (src_x (de_tup (da_cons de_int (da_cons (de_call0 (ok__law_take T) (fun z => nomatch z) (hr.mono (by decide)) tk T.g__law_take T.F__law_take.kp T.b__law_take rfl (da_cons (de_var (pv 0)) (da_cons (de_bin op_add4 sem_add (do_e (de_cb call_len2 sem_len T.n_len (by decide +kernel) (doa_cons (do_v (pv 1)) doa_nil))) (do_e de_int)) da_nil))) (da_cons (de_call0 (ok__law_take T) (fun z => nomatch z) (hr.mono (by decide)) tk T.g__law_take T.F__law_take.kp T.b__law_take rfl (da_cons (de_var (pv 0)) (da_cons (de_bin op_add4 sem_add (do_e (de_cb call_len2 sem_len T.n_len (by decide +kernel) (doa_cons (do_v (pv 1)) doa_nil))) (do_e de_int)) da_nil))) da_nil))))) (dg_name (pg_name (i := 4) sc__law_is_log_right.nd rfl (by first | exact Or.inl rfl | exact Or.inr rfl))) (dss_cons (ds_set (de_cut (do_v (pv 1)) dp_no (dp_some (do_v (pv 4)))) (fun p => ps_set (i := 5) sc__law_is_log_right.nd rfl (by first | exact Or.inl rfl | exact Or.inr rfl) p))
  (dss_one (ds_if (DW.t (dw_or (dt_cmp (op_neD hr.units) sem_ne (do_e (de_lcI (own := [(("one" : PySem.Str), 6)]) (ws := [6]) (src_x (de_call0 (ok_decided T) (fun z => nomatch z) (hr.mono (by decide)) tk T.g_decided T.F_decided.kp T.b_decided rfl (da_cons (de_var (pv 5)) da_nil))) (by decide) (fun _ _ _ _ _ => (dg_name (pg_name (i := 6) sc__law_is_log_right.nd rfl (by first | exact Or.inl rfl | exact Or.inr rfl)))) (fun _ _ _ _ _ => (dt_cmp (op_notin4 (hu65 hr)) sem_notin4 (do_v (pv 6)) (do_v (pv 3)) (by rfl))) (fun _ _ _ _ _ => (de_var (pv 6))) (fun pi pg pt pe => pe_lc rfl sc__law_is_log_right.nd pi (blkOk_by (N := ["bag", "log", "kept", "due", "many", "part", "one"]) (sc := defScope s__law_is_log_right) (by decide +kernel)) pg pt pe))) (do_e (de_lst da_nil)) (nomark _)) (dw_or1 (dt_cmp (op_neD hr.units) sem_ne (do_e (de_call0 (ok_answers T) (fun z => nomatch z) (hr.mono (by decide)) tk T.g_answers T.F_answers.kp T.b_answers rfl (da_cons (de_var (pv 5)) da_nil))) (do_e (de_cut (do_e (de_call0 (ok_answers T) (fun z => nomatch z) (hr.mono (by decide)) tk T.g_answers T.F_answers.kp T.b_answers rfl (da_cons (de_var (pv 1)) da_nil))) dp_no (dp_some (do_v (pv 4))))) (nomark _))))) (dss_one (ds_ret de_bl)) dss_nil))))
  (dss_one (ds_ret de_bl)))))
theorem ok__law_names (T : Txt K mg) : FnG false P w K mg base 3 T.a__law_names T.d__law_names ["bag", "many"] p__law_names := by
  refine fn_mk (k := 2) T.F__law_names sc__law_names ?_
  rintro X cdv A outer s H E hcd rfl hgd hr tk hp
  exact (dss_cons (ds_set (de_lst (da_cons de_str (da_cons de_str (da_cons de_str (da_cons de_str (da_cons de_str (da_cons de_str (da_cons de_str (da_cons de_str (da_cons de_str (da_cons de_str (da_cons de_str (da_cons de_str da_nil))))))))))))) (fun p => ps_set (i := 2) sc__law_names.nd rfl (by first | exact Or.inl rfl | exact Or.inr rfl) p))
  (dss_one (ds_ret (de_cb cr_sortA sem_sortA T.n_sorted (by decide +kernel) (doa_cons (do_e (de_cut (do_e (de_call0 (ok__law_mixed T) (fun z => nomatch z) (hr.mono (by decide)) tk T.g__law_mixed T.F__law_mixed.kp T.b__law_mixed rfl (da_cons (de_var (pv 0)) (da_cons (de_var (pv 2)) da_nil)))) dp_no (dp_some (do_v (pv 1))))) doa_nil)))))
theorem ok__law_word_log (T : Txt K mg) : FnG false P w K mg base 3 T.a__law_word_log T.d__law_word_log ["bag", "tasks", "many"] p__law_word_log := by
  refine fn_mk (k := 2) T.F__law_word_log sc__law_word_log ?_
  rintro X cdv A outer s H E hcd rfl hgd hr tk hp
  exact (dss_cons (ds_set (de_lst (da_cons de_str (da_cons de_str (da_cons de_str (da_cons de_str da_nil))))) (fun p => ps_set (i := 3) sc__law_word_log.nd rfl (by first | exact Or.inl rfl | exact Or.inr rfl) p))
  (dss_one (ds_ret (de_ct call_tuple_of sem_tuple T.n_tuple (by decide +kernel) (doa_cons (do_e (de_lc (own := [(("turn" : PySem.Str), 4)]) (ws := [4]) (src_range1 (fun pa => pi_range1 (by rfl) T.n_range pa) (do_e (de_call0 (ok__law_take T) (fun z => nomatch z) (hr.mono (by decide)) tk T.g__law_take T.F__law_take.kp T.b__law_take rfl (da_cons (de_var (pv 0)) (da_cons (de_bin op_add4 sem_add (do_v (pv 2)) (do_e de_int)) da_nil))))) (by decide) (fun _ _ _ _ _ => (dg_name (pg_name (i := 4) sc__law_word_log.nd rfl (by first | exact Or.inl rfl | exact Or.inr rfl)))) (fun _ _ _ _ _ => (de_tup (da_cons (de_call0 (ok__law_some T) (fun z => nomatch z) (hr.mono (by decide)) takes0 T.g__law_some T.F__law_some.kp T.b__law_some rfl (da_cons (de_var (pv 0)) (da_cons (de_var (pv 1)) da_nil))) (da_cons (de_call0 (ok__law_some T) (fun z => nomatch z) (hr.mono (by decide)) takes0 T.g__law_some T.F__law_some.kp T.b__law_some rfl (da_cons (de_var (pv 0)) (da_cons (de_var (pv 3)) da_nil))) da_nil)))) (fun pi pg pe => pe_lc rfl sc__law_word_log.nd pi (blkOk_by (N := ["bag", "tasks", "many", "words", "turn"]) (sc := defScope s__law_word_log) (by decide +kernel)) pg (fun _ _ _ _ _ => pts_nil) pe))) doa_nil)))))
theorem run_law (T : Txt K mg) (hb : ∀ (s : Shared) (u : Value), BindsTo s T.d_law ⟨[u], []⟩ [("script", u)]) (vc : LawVC 14 1 m_law) : RunOk P w K mg T.a_law := by
  refine law_mk (k := 3) (p := 1) (rest := (defBody s_law).tail) T.F_law sc_law ⟨rfl, by decide, by decide⟩ hb (by decide) (fun base tbs => ?_) vc
  rintro X cdv s H hcd rfl hgd hr tk hp
  refine ⟨fun ps => pss_cons (ps_set (i := 1) sc_law.nd rfl (by first | exact Or.inl rfl | exact Or.inr rfl) (pe_call (ok__law_bag T) (hr.mono (by decide)) rfl T.g__law_bag T.F__law_bag.kp T.b__law_bag .nil pass0 (pa_cons (pv 0) pa_nil))) ps, ?_⟩
  exact (dss_cons (ds_for hp rfl (src_range1 (fun pa => pi_range1 (by rfl) T.n_range pa) (do_e de_int)) (dg_name (pg_name (i := 2) sc_law.nd rfl (by first | exact Or.inl rfl | exact Or.inr rfl))) (dss_cons (ds_set (de_call0 (ok__law_names T) (fun z => nomatch z) (hr.mono (by decide)) tk T.g__law_names T.F__law_names.kp T.b__law_names rfl (da_cons (de_var (pv 1)) (da_cons (de_bin op_add4 sem_add (do_e de_int) (do_e (de_call0 (ok__law_take T) (fun z => nomatch z) (hr.mono (by decide)) tk T.g__law_take T.F__law_take.kp T.b__law_take rfl (da_cons (de_var (pv 1)) (da_cons de_int da_nil))))) da_nil))) (fun p => ps_set (i := 3) sc_law.nd rfl (by first | exact Or.inl rfl | exact Or.inr rfl) p))
  (dss_cons (ds_if (dt_not (dt_o (do_e (de_call0 (ok__law_is_log_right T) (fun _ => hgd rfl) (hr.mono (by decide)) tk T.g__law_is_log_right T.F__law_is_log_right.kp T.b__law_is_log_right rfl (da_cons (de_var (pv 1)) (da_cons (de_call0 (ok__law_word_log T) (fun z => nomatch z) (hr.mono (by decide)) tk T.g__law_word_log T.F__law_word_log.kp T.b__law_word_log rfl (da_cons (de_var (pv 1)) (da_cons (de_var (pv 3)) (da_cons (de_call0 (ok__law_some T) (fun z => nomatch z) (hr.mono (by decide)) tk T.g__law_some T.F__law_some.kp T.b__law_some rfl (da_cons (de_var (pv 1)) (da_cons (de_lst (da_cons de_int (da_cons de_int (da_cons de_int da_nil)))) da_nil))) da_nil)))) da_nil)))))) (dss_one (ds_ret de_bl)) dss_nil)
  (dss_cons (ds_set (de_ct call_tuple_of sem_tuple T.n_tuple (by decide +kernel) (doa_cons (do_e (de_lc (own := [(("hand" : PySem.Str), 5)]) (ws := [5]) (src_range1 (fun pa => pi_range1 (by rfl) T.n_range pa) (do_e (de_bin op_add4 sem_add (do_e de_int) (do_e (de_call0 (ok__law_take T) (fun z => nomatch z) (hr.mono (by decide)) tk T.g__law_take T.F__law_take.kp T.b__law_take rfl (da_cons (de_var (pv 1)) (da_cons de_int da_nil))))))) (by decide) (fun _ _ _ _ _ => (dg_name (pg_name (i := 5) sc_law.nd rfl (by first | exact Or.inl rfl | exact Or.inr rfl)))) (fun _ _ _ _ _ => (de_call0 (ok__law_word_log T) (fun z => nomatch z) (hr.mono (by decide)) takes0 T.g__law_word_log T.F__law_word_log.kp T.b__law_word_log rfl (da_cons (de_var (pv 1)) (da_cons (de_var (pv 3)) (da_cons de_int da_nil))))) (fun pi pg pe => pe_lc rfl sc_law.nd pi (blkOk_by (N := ["script", "bag", "turn", "tasks", "hands", "hand", "order", "log", "places", "owners", "first", "task", "word", "kept"]) (sc := defScope s_law) (by decide +kernel)) pg (fun _ _ _ _ _ => pts_nil) pe))) doa_nil)) (fun p => ps_set (i := 4) sc_law.nd rfl (by first | exact Or.inl rfl | exact Or.inr rfl) p))
  (dss_cons (ds_set (de_lst da_nil) (fun p => ps_set (i := 6) sc_law.nd rfl (by first | exact Or.inl rfl | exact Or.inr rfl) p))
  (dss_cons (ds_for hp rfl (src_enum (de_var (pv 4)) rfl (fun pa => pi_enumT (by rfl) T.n_enumerate pa)) (dg_tup rfl (dgs_cons (dg_name (pg_name (i := 5) sc_law.nd rfl (by first | exact Or.inl rfl | exact Or.inr rfl))) (dgs_cons (dg_name (pg_name (i := 7) sc_law.nd rfl (by first | exact Or.inl rfl | exact Or.inr rfl))) dgs_nil))) (dss_one (ds_set (de_bin op_add4 sem_add (do_v (pv 6)) (do_e (de_bin op_mul4 sem_mul (do_e (de_lst (da_cons (de_var (pv 5)) da_nil))) (do_e (de_cb call_len2 sem_len T.n_len (by decide +kernel) (doa_cons (do_v (pv 7)) doa_nil)))))) (fun p => ps_set (i := 6) sc_law.nd rfl (by first | exact Or.inl rfl | exact Or.inr rfl) p))))
  (dss_cons (ds_set (de_ct call_tuple_of sem_tuple T.n_tuple (by decide +kernel) (doa_cons (do_e (de_call0 (ok__law_mixed T) (fun z => nomatch z) (hr.mono (by decide)) tk T.g__law_mixed T.F__law_mixed.kp T.b__law_mixed rfl (da_cons (de_var (pv 1)) (da_cons (de_var (pv 6)) da_nil)))) doa_nil)) (fun p => ps_set (i := 6) sc_law.nd rfl (by first | exact Or.inl rfl | exact Or.inr rfl) p))
  (dss_cons (ds_mul3 (dav_cons (de_lst da_nil) (dav_cons (de_bin op_mul4 sem_mul (do_e (de_lst (da_cons de_int da_nil))) (do_e (de_cb call_len2 sem_len T.n_len (by decide +kernel) (doa_cons (do_v (pv 4)) doa_nil)))) (dav_cons (de_lst da_nil) dav_nil))) (fun pa => ps_par3 (i := 7) (j := 8) (l := 9) rfl sc_law.nd rfl rfl rfl (by decide) (by decide) (by decide) rfl rfl rfl pa (by rfl)))
  (dss_cons (ds_for hp rfl (src_x (de_var (pv 6))) (dg_name (pg_name (i := 5) sc_law.nd rfl (by first | exact Or.inl rfl | exact Or.inr rfl))) (dss_cons (ds_drop (de_app (pv 7) (de_ix ix_seq sem_ix (do_e (de_ix ix_seq sem_ix (do_v (pv 4)) (do_v (pv 5)) (fun _ _ => rfl))) (do_e (de_ix ix_seq sem_ix (do_v (pv 8)) (do_v (pv 5)) (fun _ _ => rfl))) (fun _ _ => rfl)) rfl (fun pa pb => pe_bm PySem.F.plainAttrs_list PySem.F.slot_list_append PySem.F.type_list_append mt_append pa pb)))
  (dss_cons (ds_augI (op := (fun i j => i + j)) (pv 8) (do_v (pv 5)) (do_e de_int) (fun po pi pe => ps_augS po pi get_list pe ip_add set_list))
  (dss_one (ds_drop (de_app (pv 9) (de_var (pv 5)) rfl (fun pa pb => pe_bm PySem.F.plainAttrs_list PySem.F.slot_list_append PySem.F.type_list_append mt_append pa pb)))))))
  (dss_cons (ds_set de_dnew (fun p => ps_set (i := 10) sc_law.nd rfl (by first | exact Or.inl rfl | exact Or.inr rfl) p))
  (dss_cons (ds_for hp rfl (src_zip (da_cons (de_var (pv 7)) (da_cons (de_var (pv 9)) da_nil)) (fun pa => RZ.pi_zipA (by rfl) T.n_zip pa)) (dg_tup rfl (dgs_cons (dg_tup rfl (dgs_cons (dg_name (pg_name (i := 11) sc_law.nd rfl (by first | exact Or.inl rfl | exact Or.inr rfl))) (dgs_cons (dg_name (pg_name (i := 12) sc_law.nd rfl (by first | exact Or.inl rfl | exact Or.inr rfl))) dgs_nil))) (dgs_cons (dg_name (pg_name (i := 5) sc_law.nd rfl (by first | exact Or.inl rfl | exact Or.inr rfl))) dgs_nil))) (dss_one (ds_dput (hu1 hr) (pv 10) (do_v (pv 11)) (de_dget2 (hu1 hr) (pv 10) (do_v (pv 11)) (de_var (pv 5)) ⟨by rfl, by rfl, by rfl, by rfl⟩))))
  (dss_cons (ds_set (de_cb (call_reprD (hgd rfl) (hu100 hr)) sem_repr T.n_repr (by decide +kernel) (doa_cons (do_e (de_lst (da_cons (de_var (pv 4)) (da_cons (de_var (pv 6)) da_nil)))) doa_nil)) (fun p => ps_set (i := 13) sc_law.nd rfl (by first | exact Or.inl rfl | exact Or.inr rfl) p))
  (dss_cons (ds_if (dt_not (dt_o (do_e (de_call0 (ok__law_alike T) (fun _ => hgd rfl) (hr.mono (by decide)) tk T.g__law_alike T.F__law_alike.kp T.b__law_alike rfl (da_cons (de_lst (da_cons (de_call0 (ok_log_by T) (fun z => nomatch z) (hr.mono (by decide)) tk T.g_log_by T.F_log_by.kp T.b_log_by rfl (da_cons (de_var (pv 4)) (da_cons (de_var (pv 6)) da_nil))) (da_cons (de_call0 (ok_choice_of T) (fun z => nomatch z) (hr.mono (by decide)) tk T.g_choice_of T.F_choice_of.kp T.b_choice_of rfl (da_cons (de_var (pv 4)) (da_cons (de_var (pv 6)) da_nil))) da_nil))) (da_cons (de_lst (da_cons (de_ct call_tuple_of sem_tuple T.n_tuple (by decide +kernel) (doa_cons (do_v (pv 7)) doa_nil)) (da_cons (de_ct call_tuple_of sem_tuple T.n_tuple (by decide +kernel) (doa_cons (do_e (de_sortIt rfl (pv 10) (fun hc po mt => pe_callB hc (by rfl) T.n_sorted (by decide +kernel) (pa_cons (pe_bm0 PySem.F.plainAttrs_dict PySem.F.slot_dict_items PySem.F.type_dict_items mt po) pa_nil)))) doa_nil)) da_nil))) da_nil)))))) (dss_one (ds_ret de_bl)) dss_nil)
  (dss_one (ds_if (DW.t (dw_or (dt_cmp (op_neD hr.units) sem_ne (do_e (de_cb (call_reprD (hgd rfl) (hu100 hr)) sem_repr T.n_repr (by decide +kernel) (doa_cons (do_e (de_lst (da_cons (de_var (pv 4)) (da_cons (de_var (pv 6)) da_nil)))) doa_nil))) (do_v (pv 13)) (nomark _)) (dw_or1 (dt_not (dt_o (do_e (de_call0 (ok__law_is_log_right T) (fun _ => hgd rfl) (hr.mono (by decide)) tk T.g__law_is_log_right T.F__law_is_log_right.kp T.b__law_is_log_right rfl (da_cons (de_var (pv 1)) (da_cons (de_ct call_tuple_of sem_tuple T.n_tuple (by decide +kernel) (doa_cons (do_v (pv 7)) doa_nil)) da_nil))))))))) (dss_one (ds_ret de_bl)) dss_nil)))))))))))))))
  (dss_one (ds_ret (de_call0 (ok__law_alike T) (fun _ => hgd rfl) (hr.mono (by decide)) tk T.g__law_alike T.F__law_alike.kp T.b__law_alike rfl (da_cons (de_lst (da_cons (de_call0 (ok_decided T) (fun z => nomatch z) (hr.mono (by decide)) tk T.g_decided T.F_decided.kp T.b_decided rfl (da_cons (de_tup da_nil) da_nil)) (da_cons (de_call0 (ok_answers T) (fun z => nomatch z) (hr.mono (by decide)) tk T.g_answers T.F_answers.kp T.b_answers rfl (da_cons (de_tup da_nil) da_nil)) (da_cons (de_call0 (ok_log_by T) (fun z => nomatch z) (hr.mono (by decide)) tk T.g_log_by T.F_log_by.kp T.b_log_by rfl (da_cons (de_tup (da_cons (de_tup da_nil) da_nil)) (da_cons (de_tup da_nil) da_nil))) (da_cons (de_call0 (ok_choice_of T) (fun z => nomatch z) (hr.mono (by decide)) tk T.g_choice_of T.F_choice_of.kp T.b_choice_of rfl (da_cons (de_tup (da_cons (de_tup da_nil) da_nil)) (da_cons (de_tup da_nil) da_nil))) da_nil))))) (da_cons (de_lst (da_cons (de_tup da_nil) (da_cons (de_tup da_nil) (da_cons (de_tup da_nil) (da_cons (de_tup da_nil) da_nil))))) da_nil))))))
end
theorem all_mk {P : Program} {w : World} {K : PySem.W.Frag} {h : Heap} {mg : Str → Option Value} {fa f0 f1 f2 f3 f4 f5 f6 f7 f8 f9 f10 f11 f12 f13 f14 : Addr} (vc : LawVC 14 1 m_law) (X : K.In h) (G : h.Ns mainGlobals mg) (hfa : mg "law" = some (.ref fa))
    {od0 an0 od1 an1 od2 an2 od3 an3 od4 an4 od5 an5 od6 an6 od7 an7 od8 an8 od9 an9 od10 an10 od11 an11 od12 an12 od13 an13 od14 an14 : Option Addr} {sl0 sl1 sl2 sl3 sl4 sl5 sl6 sl7 sl8 sl9 sl10 sl11 sl12 sl13 sl14 : Array (Option Value)} {oc0 kV0 dc0 pm0 cd0 ct0 oc1 kV1 dc1 pm1 cd1 ct1 oc2 kV2 dc2 pm2 cd2 ct2 oc3 kV3 dc3 pm3 cd3 ct3 oc4 kV4 dc4 pm4 cd4 ct4 oc5 kV5 dc5 pm5 cd5 ct5 oc6 kV6 dc6 pm6 cd6 ct6 oc7 kV7 dc7 pm7 cd7 ct7 oc8 kV8 dc8 pm8 cd8 ct8 oc9 kV9 dc9 pm9 cd9 ct9 oc10 kV10 dc10 pm10 cd10 ct10 oc11 kV11 dc11 pm11 cd11 ct11 oc12 kV12 dc12 pm12 cd12 ct12 oc13 kV13 dc13 pm13 cd13 ct13 oc14 kV14 dc14 pm14 cd14 ct14 : Value}
    (a0 : PySem.W.nsIn K mainGlobals "decided" = some (some (.ref f0))) (l0 : K.lookup f0 = some ⟨oc0, od0, .func (PySem.W.fnOf "decided" "decided" (defArgs s_decided) (defBody s_decided) (defScope s_decided) .none kV0 dc0 pm0 an0 cd0 ct0), sl0⟩) (c0 : PySem.W.codeIn K cd0 "decided" = true) (k0 : PySem.W.keepIn K (.ref f0) = true)
    (a1 : PySem.W.nsIn K mainGlobals "answers" = some (some (.ref f1))) (l1 : K.lookup f1 = some ⟨oc1, od1, .func (PySem.W.fnOf "answers" "answers" (defArgs s_answers) (defBody s_answers) (defScope s_answers) .none kV1 dc1 pm1 an1 cd1 ct1), sl1⟩) (c1 : PySem.W.codeIn K cd1 "answers" = true) (k1 : PySem.W.keepIn K (.ref f1) = true)
    (a2 : PySem.W.nsIn K mainGlobals "log_by" = some (some (.ref f2))) (l2 : K.lookup f2 = some ⟨oc2, od2, .func (PySem.W.fnOf "log_by" "log_by" (defArgs s_log_by) (defBody s_log_by) (defScope s_log_by) .none kV2 dc2 pm2 an2 cd2 ct2), sl2⟩) (c2 : PySem.W.codeIn K cd2 "log_by" = true) (k2 : PySem.W.keepIn K (.ref f2) = true)
    (a3 : PySem.W.nsIn K mainGlobals "_law_bag" = some (some (.ref f3))) (l3 : K.lookup f3 = some ⟨oc3, od3, .func (PySem.W.fnOf "_law_bag" "_law_bag" (defArgs s__law_bag) (defBody s__law_bag) (defScope s__law_bag) .none kV3 dc3 pm3 an3 cd3 ct3), sl3⟩) (c3 : PySem.W.codeIn K cd3 "_law_bag" = true) (k3 : PySem.W.keepIn K (.ref f3) = true)
    (a4 : PySem.W.nsIn K mainGlobals "_law_take" = some (some (.ref f4))) (l4 : K.lookup f4 = some ⟨oc4, od4, .func (PySem.W.fnOf "_law_take" "_law_take" (defArgs s__law_take) (defBody s__law_take) (defScope s__law_take) .none kV4 dc4 pm4 an4 cd4 ct4), sl4⟩) (c4 : PySem.W.codeIn K cd4 "_law_take" = true) (k4 : PySem.W.keepIn K (.ref f4) = true)
    (a5 : PySem.W.nsIn K mainGlobals "_law_alike" = some (some (.ref f5))) (l5 : K.lookup f5 = some ⟨oc5, od5, .func (PySem.W.fnOf "_law_alike" "_law_alike" (defArgs s__law_alike) (defBody s__law_alike) (defScope s__law_alike) .none kV5 dc5 pm5 an5 cd5 ct5), sl5⟩) (c5 : PySem.W.codeIn K cd5 "_law_alike" = true) (k5 : PySem.W.keepIn K (.ref f5) = true)
    (a6 : PySem.W.nsIn K mainGlobals "_law_decided" = some (some (.ref f6))) (l6 : K.lookup f6 = some ⟨oc6, od6, .func (PySem.W.fnOf "_law_decided" "_law_decided" (defArgs s__law_decided) (defBody s__law_decided) (defScope s__law_decided) .none kV6 dc6 pm6 an6 cd6 ct6), sl6⟩) (c6 : PySem.W.codeIn K cd6 "_law_decided" = true) (k6 : PySem.W.keepIn K (.ref f6) = true)
    (a7 : PySem.W.nsIn K mainGlobals "_law_answers" = some (some (.ref f7))) (l7 : K.lookup f7 = some ⟨oc7, od7, .func (PySem.W.fnOf "_law_answers" "_law_answers" (defArgs s__law_answers) (defBody s__law_answers) (defScope s__law_answers) .none kV7 dc7 pm7 an7 cd7 ct7), sl7⟩) (c7 : PySem.W.codeIn K cd7 "_law_answers" = true) (k7 : PySem.W.keepIn K (.ref f7) = true)
    (a8 : PySem.W.nsIn K mainGlobals "choice_of" = some (some (.ref f8))) (l8 : K.lookup f8 = some ⟨oc8, od8, .func (PySem.W.fnOf "choice_of" "choice_of" (defArgs s_choice_of) (defBody s_choice_of) (defScope s_choice_of) .none kV8 dc8 pm8 an8 cd8 ct8), sl8⟩) (c8 : PySem.W.codeIn K cd8 "choice_of" = true) (k8 : PySem.W.keepIn K (.ref f8) = true)
    (a9 : PySem.W.nsIn K mainGlobals "_law_some" = some (some (.ref f9))) (l9 : K.lookup f9 = some ⟨oc9, od9, .func (PySem.W.fnOf "_law_some" "_law_some" (defArgs s__law_some) (defBody s__law_some) (defScope s__law_some) .none kV9 dc9 pm9 an9 cd9 ct9), sl9⟩) (c9 : PySem.W.codeIn K cd9 "_law_some" = true) (k9 : PySem.W.keepIn K (.ref f9) = true)
    (a10 : PySem.W.nsIn K mainGlobals "_law_mixed" = some (some (.ref f10))) (l10 : K.lookup f10 = some ⟨oc10, od10, .func (PySem.W.fnOf "_law_mixed" "_law_mixed" (defArgs s__law_mixed) (defBody s__law_mixed) (defScope s__law_mixed) .none kV10 dc10 pm10 an10 cd10 ct10), sl10⟩) (c10 : PySem.W.codeIn K cd10 "_law_mixed" = true) (k10 : PySem.W.keepIn K (.ref f10) = true)
    (a11 : PySem.W.nsIn K mainGlobals "_law_is_log_right" = some (some (.ref f11))) (l11 : K.lookup f11 = some ⟨oc11, od11, .func (PySem.W.fnOf "_law_is_log_right" "_law_is_log_right" (defArgs s__law_is_log_right) (defBody s__law_is_log_right) (defScope s__law_is_log_right) .none kV11 dc11 pm11 an11 cd11 ct11), sl11⟩) (c11 : PySem.W.codeIn K cd11 "_law_is_log_right" = true) (k11 : PySem.W.keepIn K (.ref f11) = true)
    (a12 : PySem.W.nsIn K mainGlobals "_law_names" = some (some (.ref f12))) (l12 : K.lookup f12 = some ⟨oc12, od12, .func (PySem.W.fnOf "_law_names" "_law_names" (defArgs s__law_names) (defBody s__law_names) (defScope s__law_names) .none kV12 dc12 pm12 an12 cd12 ct12), sl12⟩) (c12 : PySem.W.codeIn K cd12 "_law_names" = true) (k12 : PySem.W.keepIn K (.ref f12) = true)
    (a13 : PySem.W.nsIn K mainGlobals "_law_word_log" = some (some (.ref f13))) (l13 : K.lookup f13 = some ⟨oc13, od13, .func (PySem.W.fnOf "_law_word_log" "_law_word_log" (defArgs s__law_word_log) (defBody s__law_word_log) (defScope s__law_word_log) .none kV13 dc13 pm13 an13 cd13 ct13), sl13⟩) (c13 : PySem.W.codeIn K cd13 "_law_word_log" = true) (k13 : PySem.W.keepIn K (.ref f13) = true)
    (a14 : PySem.W.nsIn K mainGlobals "law" = some (some (.ref f14))) (l14 : K.lookup f14 = some ⟨oc14, od14, .func (PySem.W.fnOf "law" "law" (defArgs s_law) (defBody s_law) (defScope s_law) .none kV14 dc14 pm14 an14 cd14 ct14), sl14⟩) (c14 : PySem.W.codeIn K cd14 "law" = true) (k14 : PySem.W.keepIn K (.ref f14) = true)
    (z0 : PySem.W.nsIn K mainGlobals "abs" = some none)
    (z1 : PySem.W.nsIn K mainGlobals "enumerate" = some none)
    (z2 : PySem.W.nsIn K mainGlobals "int" = some none)
    (z3 : PySem.W.nsIn K mainGlobals "len" = some none)
    (z4 : PySem.W.nsIn K mainGlobals "list" = some none)
    (z5 : PySem.W.nsIn K mainGlobals "range" = some none)
    (z6 : PySem.W.nsIn K mainGlobals "repr" = some none)
    (z7 : PySem.W.nsIn K mainGlobals "sorted" = some none)
    (z8 : PySem.W.nsIn K mainGlobals "tuple" = some none)
    (z9 : PySem.W.nsIn K mainGlobals "zip" = some none) : RunOk P w K mg fa := by
  have e := hfa.symm.trans (PySem.W.mg_of X G a14)
  cases e
  have F0 := fun_mk (st := s_decided) l0 c0 k0
  have F1 := fun_mk (st := s_answers) l1 c1 k1
  have F2 := fun_mk (st := s_log_by) l2 c2 k2
  have F3 := fun_mk (st := s__law_bag) l3 c3 k3
  have F4 := fun_mk (st := s__law_take) l4 c4 k4
  have F5 := fun_mk (st := s__law_alike) l5 c5 k5
  have F6 := fun_mk (st := s__law_decided) l6 c6 k6
  have F7 := fun_mk (st := s__law_answers) l7 c7 k7
  have F8 := fun_mk (st := s_choice_of) l8 c8 k8
  have F9 := fun_mk (st := s__law_some) l9 c9 k9
  have F10 := fun_mk (st := s__law_mixed) l10 c10 k10
  have F11 := fun_mk (st := s__law_is_log_right) l11 c11 k11
  have F12 := fun_mk (st := s__law_names) l12 c12 k12
  have F13 := fun_mk (st := s__law_word_log) l13 c13 k13
  have F14 := fun_mk (st := s_law) l14 c14 k14
  let T : Txt K mg := { a_decided := f0, d_decided := _, F_decided := F0, g_decided := PySem.W.mg_of X G a0, b_decided := F0.binds (ps := ["log"]) (fun _ _ _ _ _ _ us hl => match us, hl with | [_], _ => rfl), a_answers := f1, d_answers := _, F_answers := F1, g_answers := PySem.W.mg_of X G a1, b_answers := F1.binds (ps := ["log"]) (fun _ _ _ _ _ _ us hl => match us, hl with | [_], _ => rfl), a_log_by := f2, d_log_by := _, F_log_by := F2, g_log_by := PySem.W.mg_of X G a2, b_log_by := F2.binds (ps := ["hands", "order"]) (fun _ _ _ _ _ _ us hl => match us, hl with | [_, _], _ => rfl), a__law_bag := f3, d__law_bag := _, F__law_bag := F3, g__law_bag := PySem.W.mg_of X G a3, b__law_bag := F3.binds (ps := ["script"]) (fun _ _ _ _ _ _ us hl => match us, hl with | [_], _ => rfl), a__law_take := f4, d__law_take := _, F__law_take := F4, g__law_take := PySem.W.mg_of X G a4, b__law_take := F4.binds (ps := ["bag", "many"]) (fun _ _ _ _ _ _ us hl => match us, hl with | [_, _], _ => rfl), a__law_alike := f5, d__law_alike := _, F__law_alike := F5, g__law_alike := PySem.W.mg_of X G a5, b__law_alike := F5.binds (ps := ["found", "due"]) (fun _ _ _ _ _ _ us hl => match us, hl with | [_, _], _ => rfl), a__law_decided := f6, d__law_decided := _, F__law_decided := F6, g__law_decided := PySem.W.mg_of X G a6, b__law_decided := F6.binds (ps := ["log"]) (fun _ _ _ _ _ _ us hl => match us, hl with | [_], _ => rfl), a__law_answers := f7, d__law_answers := _, F__law_answers := F7, g__law_answers := PySem.W.mg_of X G a7, b__law_answers := F7.binds (ps := ["log"]) (fun _ _ _ _ _ _ us hl => match us, hl with | [_], _ => rfl), a_choice_of := f8, d_choice_of := _, F_choice_of := F8, g_choice_of := PySem.W.mg_of X G a8, b_choice_of := F8.binds (ps := ["hands", "order"]) (fun _ _ _ _ _ _ us hl => match us, hl with | [_, _], _ => rfl), a__law_some := f9, d__law_some := _, F__law_some := F9, g__law_some := PySem.W.mg_of X G a9, b__law_some := F9.binds (ps := ["bag", "things"]) (fun _ _ _ _ _ _ us hl => match us, hl with | [_, _], _ => rfl), a__law_mixed := f10, d__law_mixed := _, F__law_mixed := F10, g__law_mixed := PySem.W.mg_of X G a10, b__law_mixed := F10.binds (ps := ["bag", "things"]) (fun _ _ _ _ _ _ us hl => match us, hl with | [_, _], _ => rfl), a__law_is_log_right := f11, d__law_is_log_right := _, F__law_is_log_right := F11, g__law_is_log_right := PySem.W.mg_of X G a11, b__law_is_log_right := F11.binds (ps := ["bag", "log"]) (fun _ _ _ _ _ _ us hl => match us, hl with | [_, _], _ => rfl), a__law_names := f12, d__law_names := _, F__law_names := F12, g__law_names := PySem.W.mg_of X G a12, b__law_names := F12.binds (ps := ["bag", "many"]) (fun _ _ _ _ _ _ us hl => match us, hl with | [_, _], _ => rfl), a__law_word_log := f13, d__law_word_log := _, F__law_word_log := F13, g__law_word_log := PySem.W.mg_of X G a13, b__law_word_log := F13.binds (ps := ["bag", "tasks", "many"]) (fun _ _ _ _ _ _ us hl => match us, hl with | [_, _, _], _ => rfl), a_law := fa, d_law := _, F_law := F14, g_law := PySem.W.mg_of X G a14, b_law := F14.binds (ps := ["script"]) (fun _ _ _ _ _ _ us hl => match us, hl with | [_], _ => rfl), n_abs := PySem.W.mg_none_of X G z0, n_enumerate := PySem.W.mg_none_of X G z1, n_int := PySem.W.mg_none_of X G z2, n_len := PySem.W.mg_none_of X G z3, n_list := PySem.W.mg_none_of X G z4, n_range := PySem.W.mg_none_of X G z5, n_repr := PySem.W.mg_none_of X G z6, n_sorted := PySem.W.mg_none_of X G z7, n_tuple := PySem.W.mg_none_of X G z8, n_zip := PySem.W.mg_none_of X G z9 }
  exact run_law T (fun s v => .of_eq rfl) vc
end DL.LW

open PySem PySem.W PyProof.Rows
set_option maxRecDepth 100000 in
set_option maxHeartbeats 0 in
theorem PySem.Challenge.cw_onceortold_k79_first_words_decide_holds : PySem.Challenge.rw_onceortold_k79_first_words_decide.Holds := by
  w_on; o_law; k_head; (case hw => w_witness2)
  k_fill
  refine DL.walk_run (l := PySem.Challenge.rw_onceortold_k79_first_words_decide) rfl rfl (fun w h Y => PySem.W.kIn_of Y) ?HT ?F
  case HT =>
    intro w h Y
    exact DL.headTabs_of fun y hy => by cases hy
  case F =>
    intro w mg fa h KX G hmg
    refine' DL.LW.all_mk DL.LW.vc_law KX G hmg ?a0 ?l0 ?c0 ?k0 ?a1 ?l1 ?c1 ?k1 ?a2 ?l2 ?c2 ?k2 ?a3 ?l3 ?c3 ?k3 ?a4 ?l4 ?c4 ?k4 ?a5 ?l5 ?c5 ?k5 ?a6 ?l6 ?c6 ?k6 ?a7 ?l7 ?c7 ?k7 ?a8 ?l8 ?c8 ?k8 ?a9 ?l9 ?c9 ?k9 ?a10 ?l10 ?c10 ?k10 ?a11 ?l11 ?c11 ?k11 ?a12 ?l12 ?c12 ?k12 ?a13 ?l13 ?c13 ?k13 ?a14 ?l14 ?c14 ?k14 ?z0 ?z1 ?z2 ?z3 ?z4 ?z5 ?z6 ?z7 ?z8 ?z9
    (case a0 => k_is); (case l0 => k_is); (case c0 => k_is); (case k0 => k_is); (case a1 => k_is); (case l1 => k_is); (case c1 => k_is); (case k1 => k_is); (case a2 => k_is); (case l2 => k_is); (case c2 => k_is); (case k2 => k_is); (case a3 => k_is); (case l3 => k_is); (case c3 => k_is); (case k3 => k_is); (case a4 => k_is); (case l4 => k_is); (case c4 => k_is); (case k4 => k_is); (case a5 => k_is); (case l5 => k_is); (case c5 => k_is); (case k5 => k_is); (case a6 => k_is); (case l6 => k_is); (case c6 => k_is); (case k6 => k_is); (case a7 => k_is); (case l7 => k_is); (case c7 => k_is); (case k7 => k_is); (case a8 => k_is); (case l8 => k_is); (case c8 => k_is); (case k8 => k_is); (case a9 => k_is); (case l9 => k_is); (case c9 => k_is); (case k9 => k_is); (case a10 => k_is); (case l10 => k_is); (case c10 => k_is); (case k10 => k_is); (case a11 => k_is); (case l11 => k_is); (case c11 => k_is); (case k11 => k_is); (case a12 => k_is); (case l12 => k_is); (case c12 => k_is); (case k12 => k_is); (case a13 => k_is); (case l13 => k_is); (case c13 => k_is); (case k13 => k_is); (case a14 => k_is); (case l14 => k_is); (case c14 => k_is); (case k14 => k_is); (case z0 => k_is); (case z1 => k_is); (case z2 => k_is); (case z3 => k_is); (case z4 => k_is); (case z5 => k_is); (case z6 => k_is); (case z7 => k_is); (case z8 => k_is); (case z9 => k_is)
