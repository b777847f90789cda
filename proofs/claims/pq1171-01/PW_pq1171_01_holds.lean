import PyProof.Rows.All
import Wide.All
import OpenK.AllK
import Wide.FinOn
import PySem.Challenge.RW_pq1171_01
set_option Elab.async false
set_option maxRecDepth 100000
set_option autoImplicit false
set_option linter.all false
set_option genSizeOf false
set_option genSizeOfSpec false
set_option genInjectivity false
namespace Mine
open PySem

inductive AV where
  | none
  | bool (b : Bool)
  | int (i : Int)
  | str (n : Nat)
  | byt
  | tup (l : List AV)
  | fl (l : List AV)
  | fd (ks : List Int) (vs : List AV)
  | sd (ks : List Nat) (vs : List AV)
  | rcd (c : Nat) (l : List AV)
  | rg (n : Int)
  | loc (i : Nat)
  | fn (f : Nat)
  | cl (c : Nat)

inductive Cell where
  | inst (c : Nat) (fs : List (Nat × AV))
  | lst (l : List AV)
  | dct (l : List (Int × AV))
  | sink (k : Nat)
  | hole

noncomputable abbrev Sto := List Cell
noncomputable abbrev Calls := Nat → List AV → Sto → Option (AV × Sto)
noncomputable abbrev Loc := List (Nat × AV)

inductive Op where
  | eq | ne | lt | le | gt | ge | is | isnot | inn | notin
inductive Bop where
  | add | sub | mul | fdiv | mod | pow

inductive B1 where
  | len | toi | srt | anyb | allb | rng
inductive B2 where
  | mx | mn

mutual
inductive E where
  | con (c : AV)
  | nam (n : Nat)
  | glb (n : Nat)
  | and (es : Es)
  | or (es : Es)
  | not (e : E)
  | neg (e : E)
  | cmp (o : Op) (a b : E)
  | ite (t a b : E)
  | bin (o : Bop) (a b : E)
  | att (e : E) (n : Nat)
  | sub (e i : E)
  | slc (e : E) (lo : Nat) (hi : Option Nat)
  | tup (es : Es)
  | lst (fz : Bool) (es : Es)
  | snk
  | dct (fz : Bool) (ks : List Int) (es : Es)
  | cal (f : Nat) (n : Nat) (es : Es)
  | cls (c : Nat) (n : Nat) (es : Es)
  | clk (c : Nat) (n : Nat) (es : Es) (kn : Nat) (ke : E)
  | mth (e : E) (n : Nat) (es : Es)
  | app (e v : E)
  | cav (n : Nat) (es : Es)
  | f1 (o : B1) (e : E)
  | f2 (o : B2) (a b : E)
  | lcp (elt : E) (x : Nat) (it : E)
  | bad
inductive Es where
  | nil
  | cons (e : E) (es : Es)
end
noncomputable abbrev E.none : E := .con .none
noncomputable abbrev E.bool (b : Bool) : E := .con (.bool b)
noncomputable abbrev E.int (i : Int) : E := .con (.int i)
noncomputable abbrev E.str (n : Nat) : E := .con (.str n)
noncomputable abbrev E.len (e : E) : E := .f1 .len e
noncomputable abbrev E.toi (e : E) : E := .f1 .toi e
noncomputable abbrev E.srt (e : E) : E := .f1 .srt e
noncomputable abbrev E.anyb (e : E) : E := .f1 .anyb e
noncomputable abbrev E.allb (e : E) : E := .f1 .allb e
noncomputable abbrev E.rng (e : E) : E := .f1 .rng e
noncomputable abbrev E.mx (a b : E) : E := .f2 .mx a b
noncomputable abbrev E.mn (a b : E) : E := .f2 .mn a b

inductive T where
  | nam (n : Nat)
  | att (e : E) (n : Nat)
  | sub (e i : E)
  | two (a b : T)

mutual
inductive S where
  | exp (e : E)
  | ret (e : E)
  | retn
  | asg (t : T) (e : E)
  | swp (x y : Nat) (a b : E)
  | iff (t : E) (a b : Ss)
  | for_ (t : T) (it : E) (b : Ss)
  | cont
  | bad
inductive Ss where
  | nil
  | cons (s : S) (ss : Ss)
end

inductive Fl where
  | nxt
  | cont
  | ret (v : AV)

structure Fn where
  params : List Nat
  body : Ss
  trim : Bool := false
  iso : Bool := false

structure Prg where
  fns : List Fn
  inix : Nat → Nat
  frozen : Nat → Bool
  fields : Nat → List Nat
  meth : Nat → Nat → Option Nat
  glbs : List (Nat × AV)
  dflP : List (Nat × Nat × List AV)
  dflK : List (Nat × Nat × Nat × Nat × List AV)

noncomputable def look (n : Nat) : List (Nat × AV) → Option AV
  | [] => .none
  | (m, v) :: r => match Nat.beq n m with
    | true => some v
    | false => look n r
noncomputable def put (n : Nat) (v : AV) : List (Nat × AV) → List (Nat × AV)
  | [] => [(n, v)]
  | (m, w) :: r => match Nat.beq n m with
    | true => (m, v) :: r
    | false => (m, w) :: put n v r
noncomputable def lookZ (n : Int) : List (Int × AV) → Option AV
  | [] => .none
  | (m, v) :: r => match decide (n = m) with
    | true => some v
    | false => lookZ n r
noncomputable def putZ (n : Int) (v : AV) : List (Int × AV) → List (Int × AV)
  | [] => [(n, v)]
  | (m, w) :: r => match decide (n = m) with
    | true => (m, v) :: r
    | false => (m, w) :: putZ n v r
noncomputable def look2 (n : Nat) : List Nat → List AV → Option AV
  | m :: ms, v :: vs => match Nat.beq n m with
    | true => some v
    | false => look2 n ms vs
  | _, _ => .none
noncomputable def lookZ2 (n : Int) : List Int → List AV → Option AV
  | m :: ms, v :: vs => match decide (n = m) with
    | true => some v
    | false => lookZ2 n ms vs
  | _, _ => .none
noncomputable def memN (n : Nat) : List Nat → Bool
  | [] => false
  | m :: r => match Nat.beq n m with
    | true => true
    | false => memN n r
noncomputable def nth : List AV → Nat → Option AV
  | [], _ => .none
  | v :: _, 0 => some v
  | _ :: r, n + 1 => nth r n
noncomputable def cell : Sto → Nat → Option Cell
  | [], _ => .none
  | c :: _, 0 => some c
  | _ :: r, n + 1 => cell r n
noncomputable def setc : Sto → Nat → Cell → Sto
  | [], _, _ => []
  | _ :: r, 0, c => c :: r
  | d :: r, n + 1, c => d :: setc r n c
noncomputable def setn : List AV → Nat → AV → List AV
  | [], _, _ => []
  | _ :: r, 0, c => c :: r
  | d :: r, n + 1, c => d :: setn r n c

noncomputable def AV.locs (p : Nat → Bool) (v : AV) : Bool := AV.rec (motive_1 := fun _ => Bool) (motive_2 := fun _ => Bool) true (fun _ => true) (fun _ => true) (fun _ => true) true (fun _ b => b) (fun _ b => b) (fun _ _ b => b) (fun _ _ b => b) (fun _ _ b => b) (fun _ => true) p (fun _ => true) (fun _ => true) true (fun _ _ a b => a && b) v
noncomputable def AV.locss (p : Nat → Bool) (l : List AV) : Bool := AV.rec_1 (motive_1 := fun _ => Bool) (motive_2 := fun _ => Bool) true (fun _ => true) (fun _ => true) (fun _ => true) true (fun _ b => b) (fun _ b => b) (fun _ _ b => b) (fun _ _ b => b) (fun _ _ b => b) (fun _ => true) p (fun _ => true) (fun _ => true) true (fun _ _ a b => a && b) l
noncomputable abbrev AV.free (v : AV) : Bool := v.locs fun _ => false
noncomputable abbrev AV.frees (l : List AV) : Bool := AV.locss (fun _ => false) l
noncomputable abbrev AV.under (n : Nat) (v : AV) : Bool := v.locs fun i => Nat.blt i n
noncomputable abbrev AV.unders (n : Nat) (l : List AV) : Bool := AV.locss (fun i => Nat.blt i n) l
noncomputable def locsF (p : Nat → Bool) : List (Nat × AV) → Bool
  | [] => true
  | x :: r => x.2.locs p && locsF p r
noncomputable def locsZ (p : Nat → Bool) : List (Int × AV) → Bool
  | [] => true
  | x :: r => x.2.locs p && locsZ p r
noncomputable def Cell.locs (p : Nat → Bool) (c : Cell) : Bool := Cell.casesOn c (fun _ fs => locsF p fs) (fun l => AV.locss p l) (fun l => locsZ p l) (fun _ => true) true
noncomputable abbrev Cell.under (n : Nat) (c : Cell) : Bool := c.locs fun i => Nat.blt i n
noncomputable def underS (n : Nat) : Sto → Bool
  | [] => true
  | c :: r => c.under n && underS n r

noncomputable def AV.plain (v : AV) : Nat → Bool := AV.rec (motive_1 := fun _ => Nat → Bool) (motive_2 := fun _ => Nat → Bool) (fun _ => true) (fun _ _ => false) (fun _ _ => true) (fun _ _ => true) (fun _ => false) (fun _ b d => Nat.rec false (fun d _ => b d) d) (fun _ b d => Nat.rec false (fun d _ => b d) d)
  (fun _ _ _ _ => false) (fun _ _ _ _ => false) (fun _ _ _ _ => false) (fun _ _ => false) (fun _ _ => false) (fun _ _ => false) (fun _ _ => false) (fun _ => true) (fun _ _ a b d => a d && b d) v
noncomputable def AV.plains (l : List AV) : Nat → Bool := AV.rec_1 (motive_1 := fun _ => Nat → Bool) (motive_2 := fun _ => Nat → Bool) (fun _ => true) (fun _ _ => false) (fun _ _ => true) (fun _ _ => true) (fun _ => false) (fun _ b d => Nat.rec false (fun d _ => b d) d) (fun _ b d => Nat.rec false (fun d _ => b d) d)
  (fun _ _ _ _ => false) (fun _ _ _ _ => false) (fun _ _ _ _ => false) (fun _ _ => false) (fun _ _ => false) (fun _ _ => false) (fun _ _ => false) (fun _ => true) (fun _ _ a b d => a d && b d) l
mutual
noncomputable def veq : AV → AV → Bool
  | .none, .none => true
  | .int i, .int j => decide (i = j)
  | .str i, .str j => Nat.beq i j
  | .tup l, .tup m => veqs l m
  | .fl l, .fl m => veqs l m
  | _, _ => false
noncomputable def veqs : List AV → List AV → Bool
  | [], [] => true
  | v :: r, w :: s => match veq v w with
    | true => veqs r s
    | false => false
  | _, _ => false
end
noncomputable def anyEq (v : AV) : List AV → Bool
  | [] => false
  | w :: r => match veq w v with
    | true => true
    | false => anyEq v r
noncomputable def small (i : Int) : Bool := Nat.blt i.natAbs (2 ^ 64)
noncomputable def incr : List (Int × AV) → Bool
  | (a, _) :: (b, w) :: r => decide (a < b) && incr ((b, w) :: r)
  | _ => true
noncomputable def keysZ : List (Int × AV) → List AV
  | [] => []
  | (a, _) :: r => .int a :: keysZ r
noncomputable def bools : List AV → Option (List Bool)
  | [] => some []
  | .bool b :: r => match bools r with
    | some l => some (b :: l)
    | .none => .none
  | _ => .none
noncomputable def anyB : List Bool → Bool
  | [] => false
  | b :: r => match b with
    | true => true
    | false => anyB r
noncomputable def allB : List Bool → Bool
  | [] => true
  | b :: r => match b with
    | true => allB r
    | false => false
noncomputable def upto (i : Int) : Nat → List AV
  | 0 => []
  | n + 1 => .int i :: upto (i + 1) n
noncomputable def zipK : List Int → List AV → List (Int × AV)
  | k :: ks, v :: vs => (k, v) :: zipK ks vs
  | _, _ => []
noncomputable def idx (k : Int) : Bool := decide (0 ≤ k) && decide (k < 4611686018427387904)
section
variable {R : Type}
noncomputable def asB (v : AV) (k : Bool → R) (z : R) : R := match v with
  | .bool b => k b
  | _ => z
noncomputable def asI (v : AV) (k : Int → R) (z : R) : R := match v with
  | .int b => k b
  | _ => z
noncomputable def asS (v : AV) (k : Nat → R) (z : R) : R := match v with
  | .str b => k b
  | _ => z
noncomputable def asT (v : AV) (k : List AV → R) (z : R) : R := match v with
  | .tup b => k b
  | _ => z
noncomputable def asF (v : AV) (k : List AV → R) (z : R) : R := match v with
  | .fl b => k b
  | _ => z
noncomputable def asL (v : AV) (k : Nat → R) (z : R) : R := match v with
  | .loc b => k b
  | _ => z
noncomputable def asFn (v : AV) (k : Nat → R) (z : R) : R := match v with
  | .fn b => k b
  | _ => z
noncomputable def asN (v : AV) (k z : R) : R := match v with
  | .none => k
  | _ => z
noncomputable def onC (o : Option Cell) (inst : Nat → List (Nat × AV) → R) (lst : List AV → R) (dct : List (Int × AV) → R) (sink : Nat → R) (z : R) : R := match o with
  | some (.inst c fs) => inst c fs
  | some (.lst l) => lst l
  | some (.dct l) => dct l
  | some (.sink n) => sink n
  | _ => z
end
noncomputable def nthI (l : List AV) (k : Int) : Option AV := match idx k with
  | true => nth l k.toNat
  | false => .none
noncomputable def subv (v i : AV) (σ : Sto) : Option AV := match v with
  | .tup l => asI i (nthI l) .none
  | .fl l => asI i (nthI l) .none
  | .fd ks vs => asI i (fun k => lookZ2 k ks vs) .none
  | .sd ks vs => asS i (fun k => look2 k ks vs) .none
  | .loc a => asI i (fun k => onC (cell σ a) (fun _ _ => .none) (fun l => nthI l k) (fun l => lookZ k l) (fun _ => .none) .none) .none
  | _ => .none
noncomputable def attv (P : Prg) (v : AV) (n : Nat) (σ : Sto) : Option AV := match v with
  | .loc a => match cell σ a with
    | some (.inst _ fs) => look n fs
    | _ => .none
  | .rcd c l => look2 n (P.fields c) l
  | _ => .none
noncomputable def clsOf (v : AV) (σ : Sto) : Option Nat := match v with
  | .loc a => match cell σ a with
    | some (.inst c _) => some c
    | _ => .none
  | .rcd c _ => some c
  | _ => .none
noncomputable def hideC (h : Option (Nat × Cell)) (σ : Sto) : Sto := match h with
  | some (a, _) => setc σ a .hole
  | .none => σ
noncomputable def showC (h : Option (Nat × Cell)) (σ : Sto) : Sto := match h with
  | some (a, c) => setc σ a c
  | .none => σ
noncomputable def valsOf (ns : List Nat) (fs : List (Nat × AV)) : Option (List AV) := match ns, fs with
  | [], [] => some []
  | n :: ns, (m, v) :: fs => match Nat.beq n m with
    | true => match valsOf ns fs with
      | some l => some (v :: l)
      | .none => .none
    | false => .none
  | _, _ => .none
noncomputable def sliceOk (lo : Nat) (hi : Option Nat) (n : Nat) : Bool := Nat.blt n 1000 && match hi with
  | some h => Nat.beq lo 0 && Nat.blt h n
  | .none => Nat.blt 0 lo && Nat.ble lo n
noncomputable def sliceV (lo : Nat) (hi : Option Nat) (l : List AV) : List AV := match hi with
  | some h => l.take h
  | .none => l.drop lo
noncomputable def findP (c k : Nat) : List (Nat × Nat × List AV) → Option (List AV)
  | [] => .none
  | (c', k', d) :: r => match Nat.beq c c' && Nat.beq k k' with
    | true => some d
    | false => findP c k r
noncomputable def findK (c k n : Nat) : List (Nat × Nat × Nat × Nat × List AV) → Option (Nat × List AV)
  | [] => .none
  | (c', k', n', j, d) :: r => match Nat.beq c c' && Nat.beq k k' && Nat.beq n n' with
    | true => some (j, d)
    | false => findK c k n r
noncomputable def bindp : List Nat → List AV → Option Loc
  | [], [] => some []
  | n :: ns, v :: vs => match bindp ns vs with
    | some ρ => some ((n, v) :: ρ)
    | .none => .none
  | _, _ => .none
noncomputable def fnAt : List Fn → Nat → Option Fn
  | [], _ => .none
  | f :: _, 0 => some f
  | _ :: r, n + 1 => fnAt r n
noncomputable def retv : Fl → AV
  | .ret v => v
  | _ => .none
noncomputable def keepN : Nat → Sto → Sto
  | 0, _ => []
  | _, [] => []
  | n + 1, c :: r => c :: keepN n r

end Mine
namespace Mine
noncomputable def b_flush_port : Ss :=
  (.cons (.iff (.cmp .notin (.att (.att (.nam 1886351988) 7499639) 121450625394034) (.att (.nam 108243533981541) 28829699327681892))
   (.cons (.exp (.app (.att (.nam 108243533981541) 28829699327681892) (.att (.att (.nam 1886351988) 7499639) 121450625394034)))
   .nil)
   .nil)
   .nil)
noncomputable def b_begin_change : Ss :=
  (.cons (.iff (.cmp .gt (.att (.att (.nam 1886351988) 127996155753075) 109299962373989) (.int 0))
   (.cons .retn
   .nil)
   .nil)
   (.cons (.iff (.att (.nam 1886351988) 7598521941169826148)
   (.cons (.asg (.att (.att (.nam 1886351988) 127996155753075) 109299962373989) (.bin .add (.att (.att (.nam 1886351988) 2056194513073301448051) 448378203247) (.int 1)))
   (.cons (.asg (.att (.nam 1886351988) 115944243225975) (.bool true))
   .nil))
   (.cons (.asg (.att (.att (.nam 1886351988) 127996155753075) 109299962373989) (.bin .add (.att (.att (.nam 108243533981541) 540405398788310412649843) 30787942085650277) (.att (.att (.nam 108243533981541) 540405398788310412649843) 431198331257)))
   .nil))
   .nil))
noncomputable def b_spread_change : Ss :=
  (.cons (.for_ (.nam 478694368626) (.mth (.nam 108243533981541) 1797146899539918222451 .nil)
   (.cons (.iff (.cmp .isnot (.nam 478694368626) (.nam 1886351988))
   (.cons (.asg (.att (.att (.nam 478694368626) 109299962373989) 1945221618103444922724) (.bool true))
   .nil)
   .nil)
   .nil))
   .nil)
noncomputable def b_move_inactive : Ss :=
  (.cons (.iff (.not (.att (.nam 1886351988) 465557353070))
   (.cons (.ret (.bool false))
   .nil)
   .nil)
   (.cons (.asg (.att (.att (.nam 1886351988) 109299962373989) 495873782885) (.str 7810756272850562663))
   (.cons (.exp (.mth (.att (.nam 1886351988) 109299962373989) 112628846781812 .nil))
   (.cons (.ret (.bool true))
   .nil))))
noncomputable def b_move_learning : Ss :=
  (.cons (.asg (.nam 512970876019) (.att (.nam 1886351988) 109299962373989))
   (.cons (.iff (.and (.cons (.cmp .inn (.att (.nam 1886351988) 1919904869) (.glb 20197921699914967720588494163)) (.cons (.att (.nam 1886351988) 28832985044316772) (.cons (.not (.att (.nam 1886351988) 29681726114785125)) .nil))))
   (.cons (.exp (.cal 1 30452120818881942361555756901 (.cons (.nam 108243533981541) (.cons (.nam 1886351988) .nil))))
   (.cons (.exp (.cal 2 9146039306539407092491182040933 (.cons (.nam 108243533981541) (.cons (.nam 1886351988) .nil))))
   (.cons (.asg (.att (.nam 1886351988) 115944243225975) (.bool true))
   (.cons (.asg (.att (.nam 512970876019) 495873782885) (.str 107079782725221))
   (.cons (.ret (.bool true))
   .nil)))))
   .nil)
   (.cons (.iff (.mth (.nam 512970876019) 1925483444811776225892 .nil)
   (.cons (.exp (.mth (.nam 512970876019) 112628846781812 .nil))
   (.cons (.ret (.bool true))
   .nil))
   .nil)
   (.cons (.iff (.and (.cons (.cmp .notin (.att (.nam 1886351988) 1919904869) (.glb 20197921699914967720588494163)) (.cons (.not (.att (.nam 1886351988) 465557353070)) (.cons (.not (.att (.nam 1886351988) 7810756272850562663)) .nil))))
   (.cons (.asg (.att (.nam 512970876019) 495873782885) (.str 7597116701203330661))
   (.cons (.asg (.att (.nam 512970876019) 8032000006634431339) (.bool false))
   (.cons (.asg (.att (.att (.nam 1886351988) 127996155753075) 109299962373989) (.int 0))
   (.cons (.exp (.cal 0 483682092835548320199284 (.cons (.nam 108243533981541) (.cons (.nam 1886351988) .nil))))
   (.cons (.ret (.bool true))
   .nil)))))
   .nil)
   (.cons (.ret (.bool false))
   .nil)))))
noncomputable def b_hear_change : Ss :=
  (.cons (.iff (.att (.att (.nam 1886351988) 109299962373989) 497976732826016162211172)
   (.cons (.exp (.cal 1 30452120818881942361555756901 (.cons (.nam 108243533981541) (.cons (.nam 1886351988) .nil))))
   .nil)
   .nil)
   (.cons (.iff (.and (.cons (.att (.att (.nam 1886351988) 109299962373989) 497976732826016162211172) (.cons (.cmp .eq (.att (.nam 1886351988) 1919904869) (.str 474108085730319881495908)) .nil)))
   (.cons (.asg (.att (.att (.nam 1886351988) 109299962373989) 8032000006634431339) (.bool true))
   .nil)
   .nil)
   (.cons (.asg (.att (.att (.nam 1886351988) 109299962373989) 497976732826016162211172) (.bool false))
   (.cons (.asg (.att (.att (.nam 1886351988) 109299962373989) 7598521898286281316) (.bool false))
   (.cons (.exp (.cal 2 9146039306539407092491182040933 (.cons (.nam 108243533981541) (.cons (.nam 1886351988) .nil))))
   .nil)))))
noncomputable def b_move_active : Ss :=
  (.cons (.asg (.nam 512970876019) (.att (.nam 1886351988) 109299962373989))
   (.cons (.iff (.or (.cons (.cmp .notin (.att (.nam 1886351988) 1919904869) (.glb 20197921699914967720588494163)) (.cons (.att (.nam 1886351988) 29681726114785125) .nil)))
   (.cons (.asg (.att (.nam 512970876019) 495873782885) (.str 7810756272850562663))
   (.cons (.exp (.mth (.nam 512970876019) 112628846781812 .nil))
   .nil))
   (.cons (.iff (.or (.cons (.att (.nam 512970876019) 497976732826016162211172) (.cons (.att (.nam 512970876019) 7598521898286281316) .nil)))
   (.cons (.exp (.cal 5 126207041830281561236203365 (.cons (.nam 108243533981541) (.cons (.nam 1886351988) .nil))))
   .nil)
   (.cons (.iff (.att (.nam 512970876019) 547531204066252637406370193000064356)
   (.cons (.asg (.att (.att (.nam 1886351988) 127996155753075) 109299962373989) (.int 0))
   (.cons (.asg (.att (.nam 512970876019) 547531204066252637406370193000064356) (.bool false))
   .nil))
   (.cons (.iff (.att (.nam 512970876019) 1945221618103444922724)
   (.cons (.exp (.cal 1 30452120818881942361555756901 (.cons (.nam 108243533981541) (.cons (.nam 1886351988) .nil))))
   (.cons (.exp (.cal 0 483682092835548320199284 (.cons (.nam 108243533981541) (.cons (.nam 1886351988) .nil))))
   (.cons (.asg (.att (.nam 512970876019) 1945221618103444922724) (.bool false))
   .nil)))
   (.cons (.ret (.bool false))
   .nil))
   .nil))
   .nil))
   .nil))
   (.cons (.ret (.bool true))
   .nil)))
noncomputable def b_move_change : Ss :=
  (.cons (.iff (.cmp .eq (.att (.att (.nam 1886351988) 109299962373989) 495873782885) (.str 7597116701203330661))
   (.cons (.ret (.cal 3 8670365682110749200105133930085 (.cons (.nam 108243533981541) (.cons (.nam 1886351988) .nil))))
   .nil)
   .nil)
   (.cons (.iff (.cmp .eq (.att (.att (.nam 1886351988) 109299962373989) 495873782885) (.str 7810756272850562663))
   (.cons (.ret (.cal 4 8670365682110962839676781162087 (.cons (.nam 108243533981541) (.cons (.nam 1886351988) .nil))))
   .nil)
   .nil)
   (.cons (.ret (.cal 6 132299281038058008789743205 (.cons (.nam 108243533981541) (.cons (.nam 1886351988) .nil))))
   .nil)))
noncomputable def b_Times_init : Ss :=
  (.cons (.asg (.att (.nam 1936026726) 6383461) (.nam 6383461))
   (.cons (.asg (.att (.nam 1936026726) 30787942085650277) (.nam 30787942085650277))
   (.cons (.asg (.att (.nam 1936026726) 448378203247) (.nam 448378203247))
   (.cons (.asg (.att (.nam 1936026726) 431198331257) (.nam 431198331257))
   .nil))))
noncomputable def b_Times_told : Ss :=
  (.cons (.ret (.tup (.cons (.att (.nam 1936026726) 6383461) (.cons (.att (.nam 1936026726) 30787942085650277) (.cons (.att (.nam 1936026726) 448378203247) (.cons (.att (.nam 1936026726) 431198331257) .nil))))))
   .nil)
noncomputable def b_Times_with_age : Ss :=
  (.cons (.ret (.cls 5 362546029939 (.cons (.nam 6383461) (.cons (.att (.nam 1936026726) 30787942085650277) (.cons (.att (.nam 1936026726) 448378203247) (.cons (.att (.nam 1936026726) 431198331257) .nil))))))
   .nil)
noncomputable def b_Bpdu_init : Ss :=
  (.cons (.asg (.att (.nam 1936026726) 33325589488824174) (.nam 33325589488824174))
   (.cons (.asg (.att (.nam 1936026726) 1802071652) (.nam 1802071652))
   (.cons (.asg (.att (.nam 1936026726) 130177832349554) (.nam 130177832349554))
   (.cons (.asg (.att (.nam 1936026726) 499984983411) (.nam 499984983411))
   (.cons (.asg (.att (.nam 1936026726) 1945221600476614518629) (.nam 1945221600476614518629))
   (.cons (.asg (.att (.nam 1936026726) 8354663157519837370311937975147) (.nam 8354663157519837370311937975147))
   (.cons (.asg (.att (.nam 1936026726) 127482043748414283240923500) (.nam 127482043748414283240923500))
   (.cons (.asg (.att (.nam 1936026726) 32635402922101094156868087412) (.nam 32635402922101094156868087412))
   (.cons (.asg (.att (.nam 1936026726) 1919904869) (.nam 1919904869))
   (.cons (.asg (.att (.nam 1936026726) 127482043456509347801689703) (.nam 127482043456509347801689703))
   (.cons (.asg (.att (.nam 1936026726) 8354663171817291533269124869735) (.nam 8354663171817291533269124869735))
   (.cons (.asg (.att (.nam 1936026726) 1952541036) (.nam 1952541036))
   .nil))))))))))))
noncomputable def b_with_cost : Ss :=
  (.cons (.ret (.tup (.cons (.sub (.nam 130177832349554) (.int 0)) (.cons (.mn (.bin .add (.sub (.nam 130177832349554) (.int 1)) (.nam 1668248436)) (.glb 1426115298796111875140)) (.cons (.sub (.nam 130177832349554) (.int 2)) (.cons (.sub (.nam 130177832349554) (.int 3)) .nil))))))
   .nil)
noncomputable def b_is_from_same : Ss :=
  (.cons (.ret (.and (.cons (.cmp .eq (.sub (.sub (.nam 130177832349554) (.int 2)) (.int 1)) (.sub (.sub (.nam 478694368626) (.int 2)) (.int 1))) (.cons (.cmp .eq (.sub (.sub (.nam 130177832349554) (.int 3)) (.int 1)) (.sub (.sub (.nam 478694368626) (.int 3)) (.int 1))) .nil))))
   .nil)
noncomputable def b_is_same_or_better_source : Ss :=
  (.cons (.ret (.or (.cons (.cmp .lt (.nam 130177832349554) (.nam 478694368626)) (.cons (.and (.cons (.cmp .ne (.nam 130177832349554) (.nam 478694368626)) (.cons (.cal 13 32635403015126612405326540133 (.cons (.nam 130177832349554) (.cons (.nam 478694368626) .nil))) .nil))) .nil))))
   .nil)
noncomputable def b_heard_kind : Ss :=
  (.cons (.iff (.or (.cons (.cmp .eq (.att (.nam 1651532917) 1802071652) (.str 109330244725095)) (.cons (.cmp .eq (.att (.nam 1651532917) 1919904869) (.str 474108085730319881495908)) .nil)))
   (.cons (.iff (.cmp .eq (.att (.nam 1651532917) 130177832349554) (.att (.nam 1886351988) 130177832349554))
   (.cons (.ret (.ite (.cmp .eq (.mth (.att (.nam 1651532917) 499984983411) 1953459300 .nil) (.mth (.att (.nam 1886351988) 499984983411) 1953459300 .nil)) (.str 8243118273700586852) (.str 8319679467650379634)))
   .nil)
   .nil)
   (.cons (.ret (.ite (.cal 14 2585643032703386755636674332954827062186363117001814205285 (.cons (.att (.nam 1651532917) 130177832349554) (.cons (.att (.nam 1886351988) 130177832349554) .nil))) (.str 8319679467650379634) (.str 7597122207317847922)))
   .nil))
   .nil)
   (.cons (.iff (.and (.cons (.cmp .inn (.att (.nam 1651532917) 1919904869) (.tup (.cons (.str 1919905652) (.cons (.str 1797149157945373717605) .nil)))) (.cons (.cmp .ge (.att (.nam 1651532917) 130177832349554) (.att (.nam 1886351988) 130177832349554)) .nil)))
   (.cons (.ret (.str 107127011501426))
   .nil)
   .nil)
   (.cons (.ret (.str 478694368626))
   .nil)))
noncomputable def b_is_better_or_same : Ss :=
  (.cons (.ret (.and (.cons (.cmp .eq (.att (.nam 1886351988) 1768842863) (.nam 1768842863)) (.cons (.cmp .le (.nam 130177832349554) (.att (.nam 1886351988) 130177832349554)) .nil))))
   .nil)
noncomputable def b_record_proposal : Ss :=
  (.cons (.iff (.att (.nam 1651532917) 127482043748414283240923500)
   (.cons (.asg (.att (.nam 1886351988) 8102661208289797476) (.bool true))
   .nil)
   .nil)
   .nil)
noncomputable def b_record_answer : Ss :=
  (.cons (.iff (.and (.cons (.att (.att (.nam 1886351988) 7499639) 127482043965153249317054580) (.cons (.cmp .eq (.att (.nam 1651532917) 1802071652) (.str 491261028708)) (.cons (.att (.nam 1651532917) 32635402922101094156868087412) .nil))))
   (.cons (.asg (.att (.nam 1886351988) 107096928773476) (.bool true))
   (.cons (.asg (.att (.nam 1886351988) 2074281269322188418663) (.bool false))
   .nil))
   (.cons (.asg (.att (.nam 1886351988) 107096928773476) (.bool false))
   .nil))
   .nil)
noncomputable def b_record_dispute : Ss :=
  (.cons (.iff (.and (.cons (.cmp .eq (.att (.nam 1651532917) 1802071652) (.str 491261028708)) (.cons (.att (.nam 1651532917) 127482043456509347801689703) .nil)))
   (.cons (.asg (.att (.nam 1886351988) 7235441203191506276) (.bool true))
   (.cons (.asg (.att (.nam 1886351988) 107096928773476) (.bool false))
   .nil))
   .nil)
   .nil)
noncomputable def b_record_change : Ss :=
  (.cons (.iff (.att (.nam 1651532917) 1945221600476614518629)
   (.cons (.asg (.att (.att (.nam 1886351988) 109299962373989) 7598521898286281316) (.bool true))
   .nil)
   .nil)
   (.cons (.iff (.att (.nam 1651532917) 8354663157519837370311937975147)
   (.cons (.asg (.att (.att (.nam 1886351988) 109299962373989) 547531204066252637406370193000064356) (.bool true))
   .nil)
   .nil)
   .nil))
noncomputable def b_hold_on : Ss :=
  (.cons (.asg (.nam 499984983411) (.att (.nam 1886351988) 499984983411))
   (.cons (.asg (.att (.att (.nam 1886351988) 127996155753075) 1768842863) (.ite (.cmp .le (.bin .add (.att (.nam 499984983411) 6383461) (.int 1)) (.att (.nam 499984983411) 30787942085650277)) (.bin .mul (.int 3) (.att (.nam 499984983411) 448378203247)) (.int 0)))
   .nil))
noncomputable def b_take_superior : Ss :=
  (.cons (.asg (.att (.nam 1886351988) 107096928773476) (.bool false))
   (.cons (.asg (.att (.nam 1886351988) 2074281269322188418663) (.bool false))
   (.cons (.exp (.cal 17 593978243322155711331722544347832684 (.cons (.nam 1886351988) (.cons (.nam 1651532917) .nil))))
   (.cons (.exp (.cal 20 9063388722567073217653559420773 (.cons (.nam 1886351988) (.cons (.nam 1651532917) .nil))))
   (.cons (.asg (.att (.nam 1886351988) 418347378021) (.and (.cons (.att (.nam 1886351988) 418347378021) (.cons (.cal 16 35883005010129591345070553393301439999333 (.cons (.nam 1886351988) (.cons (.att (.nam 1651532917) 130177832349554) (.cons (.str 8243103980183774564) .nil)))) .nil))))
   (.cons (.asg (.att (.nam 1886351988) 130177832349554) (.att (.nam 1651532917) 130177832349554))
   (.cons (.asg (.att (.nam 1886351988) 499984983411) (.cls 5 362546029939 (.cons (.att (.att (.nam 1651532917) 499984983411) 6383461) (.cons (.att (.att (.nam 1651532917) 499984983411) 30787942085650277) (.cons (.mx (.att (.att (.nam 1651532917) 499984983411) 448378203247) (.int 1)) (.cons (.att (.att (.nam 1651532917) 499984983411) 431198331257) .nil))))))
   (.cons (.exp (.cal 21 29395908909035374 (.cons (.nam 1886351988) .nil)))
   (.cons (.asg (.att (.nam 1886351988) 1768842863) (.str 8243103980183774564))
   (.cons (.exp (.mth (.nam 1886351988) 120176837875532934021014903 .nil))
   .nil))))))))))
noncomputable def b_take_told : Ss :=
  (.cons (.asg (.two (.nam 1651532917) (.att (.nam 1886351988) 1953459300)) (.tup (.cons (.att (.nam 1886351988) 1953459300) (.cons .none .nil))))
   (.cons (.iff (.cmp .eq (.att (.nam 1651532917) 1802071652) (.str 109299962373989))
   (.cons (.asg (.att (.att (.nam 1886351988) 109299962373989) 497976732826016162211172) (.bool true))
   (.cons .retn
   .nil))
   .nil)
   (.cons (.asg (.nam 1802071652) (.cal 15 492996257155017777704548 (.cons (.nam 1886351988) (.cons (.nam 1651532917) .nil))))
   (.cons (.iff (.cmp .eq (.nam 1802071652) (.str 8319679467650379634))
   (.cons (.exp (.cal 22 9220616731389807534143319928690 (.cons (.nam 1886351988) (.cons (.nam 1651532917) .nil))))
   .nil)
   (.cons (.iff (.cmp .eq (.nam 1802071652) (.str 8243118273700586852))
   (.cons (.exp (.cal 17 593978243322155711331722544347832684 (.cons (.nam 1886351988) (.cons (.nam 1651532917) .nil))))
   (.cons (.exp (.cal 20 9063388722567073217653559420773 (.cons (.nam 1886351988) (.cons (.nam 1651532917) .nil))))
   (.cons (.exp (.cal 21 29395908909035374 (.cons (.nam 1886351988) .nil)))
   .nil)))
   (.cons (.iff (.cmp .eq (.nam 1802071652) (.str 7597122207317847922))
   (.cons (.exp (.cal 19 2320227512977170744001963043943525 (.cons (.nam 1886351988) (.cons (.nam 1651532917) .nil))))
   .nil)
   (.cons (.iff (.cmp .eq (.nam 1802071652) (.str 107127011501426))
   (.cons (.exp (.cal 18 9063388722567073215480608548210 (.cons (.nam 1886351988) (.cons (.nam 1651532917) .nil))))
   (.cons (.exp (.cal 20 9063388722567073217653559420773 (.cons (.nam 1886351988) (.cons (.nam 1651532917) .nil))))
   .nil))
   .nil)
   .nil))
   .nil))
   .nil))
   .nil))))
noncomputable def b_age_out : Ss :=
  (.cons (.iff (.or (.cons (.cmp .ne (.att (.nam 1886351988) 1768842863) (.str 8243103980183774564)) (.cons (.cmp .gt (.att (.att (.nam 1886351988) 127996155753075) 1768842863) (.int 0)) .nil)))
   (.cons (.ret (.bool false))
   .nil)
   .nil)
   (.cons (.asg (.att (.nam 1886351988) 1768842863) (.str 1634166116))
   (.cons (.exp (.mth (.nam 1886351988) 120176837875532934021014903 .nil))
   (.cons (.ret (.bool true))
   .nil))))
noncomputable def b_as_taken : Ss :=
  (.cons (.iff (.or (.cons (.cmp .eq (.att (.nam 1651532917) 1802071652) (.str 109299962373989)) (.cons (.and (.cons (.cmp .ne (.att (.nam 1651532917) 1919904869) (.str 1852796517)) (.cons (.cmp .gt (.att (.att (.nam 1651532917) 499984983411) 448378203247) (.int 0)) .nil))) .nil)))
   (.cons (.ret (.nam 1651532917))
   .nil)
   .nil)
   (.cons (.asg (.nam 499984983411) (.cls 5 362546029939 (.cons (.att (.att (.nam 1651532917) 499984983411) 6383461) (.cons (.att (.att (.nam 1651532917) 499984983411) 30787942085650277) (.cons (.mx (.att (.att (.nam 1651532917) 499984983411) 448378203247) (.int 1)) (.cons (.att (.att (.nam 1651532917) 499984983411) 431198331257) .nil))))))
   (.cons (.asg (.nam 1919904869) (.ite (.and (.cons (.cmp .eq (.att (.nam 1651532917) 1802071652) (.str 491261028708)) (.cons (.cmp .eq (.att (.nam 1651532917) 1919904869) (.str 1852796517)) .nil))) (.str 474108085730319881495908) (.att (.nam 1651532917) 1919904869)))
   (.cons (.ret (.cls 6 1114662005 (.cons (.att (.nam 1651532917) 33325589488824174) (.cons (.att (.nam 1651532917) 1802071652) (.cons (.att (.nam 1651532917) 130177832349554) (.cons (.nam 499984983411) (.cons (.att (.nam 1651532917) 1945221600476614518629) (.cons (.att (.nam 1651532917) 8354663157519837370311937975147) (.cons (.att (.nam 1651532917) 127482043748414283240923500) (.cons (.att (.nam 1651532917) 32635402922101094156868087412) (.cons (.nam 1919904869) (.cons (.att (.nam 1651532917) 127482043456509347801689703) (.cons (.att (.nam 1651532917) 8354663171817291533269124869735) (.cons (.att (.nam 1651532917) 1952541036) .nil))))))))))))))
   .nil))))
noncomputable def b_is_passed_by : Ss :=
  (.cons (.iff (.cmp .ne (.att (.nam 1651532917) 1802071652) (.str 109330244725095))
   (.cons (.ret (.bool false))
   .nil)
   .nil)
   (.cons (.ret (.or (.cons (.cmp .ge (.att (.att (.nam 1651532917) 499984983411) 6383461) (.att (.att (.nam 1651532917) 499984983411) 30787942085650277)) (.cons (.cmp .eq (.slc (.att (.nam 1651532917) 130177832349554) 2 .none) (.tup (.cons (.nam 1816025150211659622756) (.cons (.nam 31647734760958308) .nil)))) .nil))))
   .nil))
noncomputable def b_disable_info : Ss :=
  (.cons (.asg (.att (.nam 1886351988) 1953459300) .none)
   (.cons (.asg (.att (.nam 1886351988) 2074281269322188418663) (.bool false))
   (.cons (.asg (.att (.nam 1886351988) 8102661208289797476) (.bool false))
   (.cons (.asg (.att (.nam 1886351988) 418347378021) (.bool false))
   (.cons (.asg (.att (.nam 1886351988) 107096928773476) (.bool false))
   (.cons (.asg (.att (.nam 1886351988) 7235441203191506276) (.bool false))
   (.cons (.asg (.att (.att (.nam 1886351988) 127996155753075) 1768842863) (.int 0))
   (.cons (.asg (.att (.nam 1886351988) 1768842863) (.str 7235441138447705444))
   (.cons (.exp (.mth (.nam 1886351988) 120176837875532934021014903 .nil))
   .nil)))))))))
noncomputable def b_take_own : Ss :=
  (.cons (.asg (.att (.nam 1886351988) 2074281269322188418663) (.bool false))
   (.cons (.asg (.att (.nam 1886351988) 8102661208289797476) (.bool false))
   (.cons (.asg (.att (.nam 1886351988) 107096928773476) (.and (.cons (.att (.nam 1886351988) 107096928773476) (.cons (.cal 16 35883005010129591345070553393301439999333 (.cons (.nam 1886351988) (.cons (.att (.nam 1886351988) 526385795348946847297394) (.cons (.str 1835626085) .nil)))) .nil))))
   (.cons (.asg (.att (.nam 1886351988) 126965380244836) (.and (.cons (.att (.nam 1886351988) 126965380244836) (.cons (.att (.nam 1886351988) 107096928773476) .nil))))
   (.cons (.asg (.att (.nam 1886351988) 130177832349554) (.att (.nam 1886351988) 526385795348946847297394))
   (.cons (.asg (.att (.nam 1886351988) 499984983411) (.att (.nam 1886351988) 2056194513073301448051))
   (.cons (.asg (.att (.nam 1886351988) 129125580895333) (.bool false))
   (.cons (.asg (.att (.nam 1886351988) 1768842863) (.str 1835626085))
   (.cons (.asg (.att (.nam 1886351988) 115944243225975) (.bool true))
   .nil)))))))))
noncomputable def b_move_info : Ss :=
  (.cons (.iff (.not (.att (.nam 1886351988) 497976730291560138958180))
   (.cons (.iff (.cmp .eq (.att (.nam 1886351988) 1768842863) (.str 7235441138447705444))
   (.cons (.ret (.bool false))
   .nil)
   .nil)
   (.cons (.exp (.cal 27 31075983061765903068515165807 (.cons (.nam 1886351988) .nil)))
   (.cons (.ret (.bool true))
   .nil)))
   .nil)
   (.cons (.iff (.cmp .eq (.att (.nam 1886351988) 1768842863) (.str 7235441138447705444))
   (.cons (.asg (.att (.nam 1886351988) 1768842863) (.str 1634166116))
   (.cons (.exp (.mth (.nam 1886351988) 120176837875532934021014903 .nil))
   (.cons (.ret (.bool true))
   .nil)))
   .nil)
   (.cons (.iff (.and (.cons (.att (.nam 1886351988) 8315171469725558116) (.cons (.att (.nam 1886351988) 129125580895333) .nil)))
   (.cons (.exp (.cal 28 8386102064277583726 (.cons (.nam 1886351988) .nil)))
   (.cons (.ret (.bool true))
   .nil))
   .nil)
   (.cons (.iff (.or (.cons (.cmp .eq (.att (.nam 1886351988) 1768842863) (.str 1634166116)) (.cons (.att (.nam 1886351988) 129125580895333) .nil)))
   (.cons (.ret (.bool false))
   .nil)
   .nil)
   (.cons (.iff (.cmp .isnot (.att (.nam 1886351988) 1953459300) .none)
   (.cons (.exp (.cal 23 2146842128455144795236 (.cons (.nam 1886351988) .nil)))
   (.cons (.exp (.cal 24 27416757831431540 (.cons (.nam 1886351988) .nil)))
   (.cons (.ret (.bool true))
   .nil)))
   .nil)
   (.cons (.ret (.cal 24 27416757831431540 (.cons (.nam 1886351988) .nil)))
   .nil))))))
noncomputable def b_are_all_synced : Ss :=
  (.cons (.for_ (.nam 478694368626) (.mth (.nam 108243533981541) 1797146899539918222451 .nil)
   (.cons (.iff (.cmp .is (.nam 478694368626) (.nam 1886351988))
   (.cons .cont
   .nil)
   .nil)
   (.cons (.iff (.or (.cons (.not (.mth (.nam 478694368626) 497976734222396114625892 .nil)) (.cons (.cmp .ne (.att (.nam 478694368626) 1919904869) (.att (.nam 478694368626) 109300197582190)) .nil)))
   (.cons (.ret (.bool false))
   .nil)
   .nil)
   (.cons (.iff (.and (.cons (.not (.att (.nam 478694368626) 126965380244836)) (.cons (.cmp .ne (.att (.nam 478694368626) 1919904869) (.str 1919905652)) .nil)))
   (.cons (.ret (.bool false))
   .nil)
   .nil)
   .nil))))
   (.cons (.ret (.bool true))
   .nil))
noncomputable def b_is_re_rooted : Ss :=
  (.cons (.ret (.allb (.lcp (.or (.cons (.cmp .is (.nam 478694368626) (.nam 1886351988)) (.cons (.cmp .eq (.att (.att (.nam 478694368626) 127996155753075) 1919905652) (.int 0)) .nil))) 478694368626 (.mth (.nam 108243533981541) 1797146899539918222451 .nil))))
   .nil)
noncomputable def b_sync_all : Ss :=
  (.cons (.for_ (.nam 478694368626) (.mth (.nam 108243533981541) 1797146899539918222451 .nil)
   (.cons (.asg (.att (.nam 478694368626) 1937337955) (.bool true))
   .nil))
   .nil)
noncomputable def b_re_root_all : Ss :=
  (.cons (.for_ (.nam 478694368626) (.mth (.nam 108243533981541) 1797146899539918222451 .nil)
   (.cons (.asg (.att (.nam 478694368626) 32199607961218932) (.bool true))
   .nil))
   .nil)
noncomputable def b_agree_now : Ss :=
  (.cons (.asg (.att (.nam 1886351988) 8102661208289797476) (.bool false))
   (.cons (.asg (.att (.nam 1886351988) 1937337955) (.bool false))
   (.cons (.asg (.att (.nam 1886351988) 418347378021) (.bool true))
   (.cons (.asg (.att (.nam 1886351988) 115944243225975) (.bool true))
   .nil))))
noncomputable def b_answer_proposal : Ss :=
  (.cons (.iff (.and (.cons (.att (.nam 1886351988) 8102661208289797476) (.cons (.not (.att (.nam 1886351988) 418347378021)) .nil)))
   (.cons (.exp (.cal 32 8320803159624739948 (.cons (.nam 108243533981541) .nil)))
   (.cons (.asg (.att (.nam 1886351988) 8102661208289797476) (.bool false))
   (.cons (.ret (.bool true))
   .nil)))
   .nil)
   (.cons (.iff (.or (.cons (.att (.nam 1886351988) 8102661208289797476) (.cons (.and (.cons (.not (.att (.nam 1886351988) 418347378021)) (.cons (.cal 30 1976457115374852591135820666332516 (.cons (.nam 108243533981541) (.cons (.nam 1886351988) .nil))) .nil))) .nil)))
   (.cons (.exp (.cal 34 1796788306969145274231 (.cons (.nam 1886351988) .nil)))
   (.cons (.ret (.bool true))
   .nil))
   .nil)
   (.cons (.ret (.bool false))
   .nil)))
noncomputable def b_rest_blocked : Ss :=
  (.cons (.iff (.and (.cons (.cmp .eq (.att (.att (.nam 1886351988) 127996155753075) 28832985044316772) (.nam 2002872692)) (.cons (.att (.nam 1886351988) 126965380244836) (.cons (.not (.att (.nam 1886351988) 1937337955)) (.cons (.not (.att (.nam 1886351988) 32199607961218932)) .nil)))))
   (.cons (.ret (.bool false))
   .nil)
   .nil)
   (.cons (.asg (.att (.att (.nam 1886351988) 127996155753075) 28832985044316772) (.nam 2002872692))
   (.cons (.asg (.att (.att (.nam 1886351988) 127996155753075) 1919905652) (.int 0))
   (.cons (.asg (.att (.nam 1886351988) 126965380244836) (.bool true))
   (.cons (.asg (.att (.nam 1886351988) 1937337955) (.bool false))
   (.cons (.asg (.att (.nam 1886351988) 32199607961218932) (.bool false))
   (.cons (.ret (.bool true))
   .nil)))))))
noncomputable def b_move_blocked : Ss :=
  (.cons (.iff (.or (.cons (.att (.nam 1886351988) 7810756272850562663) (.cons (.att (.nam 1886351988) 483737218013272063176295) .nil)))
   (.cons (.ret (.bool false))
   .nil)
   .nil)
   (.cons (.iff (.cmp .eq (.att (.nam 1886351988) 1919904869) (.str 7235441138447705444))
   (.cons (.ret (.cal 36 35403937846255433147763877220 (.cons (.nam 1886351988) (.cons (.att (.att (.nam 1886351988) 2056194513073301448051) 30787942085650277) .nil))))
   .nil)
   .nil)
   (.cons (.iff (.cal 35 505893008524326890956451674275930476 (.cons (.nam 108243533981541) (.cons (.nam 1886351988) .nil)))
   (.cons (.ret (.bool true))
   .nil)
   .nil)
   (.cons (.iff (.and (.cons (.cmp .eq (.att (.nam 1886351988) 1919904869) (.str 108170419336560)) (.cons (.cmp .ne (.att (.att (.nam 1886351988) 127996155753075) 108170419336560) (.bin .mul (.int 2) (.att (.att (.nam 1886351988) 2056194513073301448051) 448378203247))) .nil)))
   (.cons (.asg (.att (.att (.nam 1886351988) 127996155753075) 108170419336560) (.bin .mul (.int 2) (.att (.att (.nam 1886351988) 2056194513073301448051) 448378203247)))
   (.cons (.ret (.bool true))
   .nil))
   .nil)
   (.cons (.ret (.cal 36 35403937846255433147763877220 (.cons (.nam 1886351988) (.cons (.mth (.nam 1886351988) 563758544461962566135399 .nil) .nil))))
   .nil)))))
noncomputable def b_move_root : Ss :=
  (.cons (.iff (.cal 35 505893008524326890956451674275930476 (.cons (.nam 108243533981541) (.cons (.nam 1886351988) .nil)))
   (.cons (.ret (.bool true))
   .nil)
   .nil)
   (.cons (.iff (.and (.cons (.not (.att (.nam 1886351988) 28832985044316772)) (.cons (.not (.att (.nam 1886351988) 32199607961218932)) .nil)))
   (.cons (.exp (.cal 33 138296263137456550836268140 (.cons (.nam 108243533981541) .nil)))
   (.cons (.ret (.bool true))
   .nil))
   .nil)
   (.cons (.iff (.and (.cons (.att (.nam 1886351988) 32199607961218932) (.cons (.att (.nam 1886351988) 28832985044316772) .nil)))
   (.cons (.asg (.att (.nam 1886351988) 32199607961218932) (.bool false))
   (.cons (.ret (.bool true))
   .nil))
   .nil)
   (.cons (.asg (.nam 29681726132479333) (.or (.cons (.cmp .eq (.att (.att (.nam 1886351988) 127996155753075) 28832985044316772) (.int 0)) (.cons (.and (.cons (.cal 31 32635403235546294533932475748 (.cons (.nam 108243533981541) (.cons (.nam 1886351988) .nil))) (.cons (.cmp .eq (.att (.att (.nam 1886351988) 127996155753075) 108170419336560) (.int 0)) .nil))) .nil))))
   (.cons (.iff (.and (.cons (.nam 29681726132479333) (.cons (.not (.att (.nam 1886351988) 465557353070)) .nil)))
   (.cons (.asg (.att (.nam 1886351988) 465557353070) (.bool true))
   (.cons (.asg (.att (.att (.nam 1886351988) 127996155753075) 28832985044316772) (.mth (.nam 1886351988) 563758544461962566135399 .nil))
   (.cons (.ret (.bool true))
   .nil)))
   .nil)
   (.cons (.iff (.and (.cons (.nam 29681726132479333) (.cons (.not (.att (.nam 1886351988) 28832985044316772)) .nil)))
   (.cons (.asg (.att (.nam 1886351988) 28832985044316772) (.bool true))
   (.cons (.asg (.att (.att (.nam 1886351988) 127996155753075) 28832985044316772) (.int 0))
   (.cons (.ret (.bool true))
   .nil)))
   .nil)
   (.cons (.iff (.cmp .ne (.att (.att (.nam 1886351988) 127996155753075) 1919905652) (.att (.att (.nam 1886351988) 2056194513073301448051) 431198331257))
   (.cons (.asg (.att (.att (.nam 1886351988) 127996155753075) 1919905652) (.att (.att (.nam 1886351988) 2056194513073301448051) 431198331257))
   (.cons (.ret (.bool true))
   .nil))
   .nil)
   (.cons (.ret (.bool false))
   .nil))))))))
noncomputable def b_is_out_of_step : Ss :=
  (.cons (.iff (.att (.nam 1886351988) 126965380244836)
   (.cons (.ret (.att (.nam 1886351988) 1937337955))
   .nil)
   .nil)
   (.cons (.ret (.or (.cons (.and (.cons (.not (.att (.nam 1886351988) 7810756272850562663)) (.cons (.not (.att (.nam 1886351988) 483737218013272063176295)) .nil))) (.cons (.att (.nam 1886351988) 107096928773476) (.cons (.att (.nam 1886351988) 29681726114785125) .nil)))))
   .nil))
noncomputable def b_has_to_discard : Ss :=
  (.cons (.iff (.or (.cons (.att (.nam 1886351988) 29681726114785125) (.cons (.and (.cons (.not (.att (.nam 1886351988) 465557353070)) (.cons (.not (.att (.nam 1886351988) 28832985044316772)) .nil))) .nil)))
   (.cons (.ret (.bool false))
   .nil)
   .nil)
   (.cons (.ret (.or (.cons (.and (.cons (.att (.nam 1886351988) 1937337955) (.cons (.not (.att (.nam 1886351988) 126965380244836)) .nil))) (.cons (.and (.cons (.att (.nam 1886351988) 32199607961218932) (.cons (.cmp .ne (.att (.att (.nam 1886351988) 127996155753075) 1919905652) (.int 0)) .nil))) (.cons (.att (.nam 1886351988) 7235441203191506276) .nil)))))
   .nil))
noncomputable def b_may_go_on : Ss :=
  (.cons (.iff (.or (.cons (.att (.nam 1886351988) 1937337955) (.cons (.and (.cons (.att (.nam 1886351988) 32199607961218932) (.cons (.cmp .ne (.att (.att (.nam 1886351988) 127996155753075) 1919905652) (.int 0)) .nil))) .nil)))
   (.cons (.ret (.bool false))
   .nil)
   .nil)
   (.cons (.ret (.or (.cons (.cmp .eq (.att (.att (.nam 1886351988) 127996155753075) 28832985044316772) (.int 0)) (.cons (.att (.nam 1886351988) 107096928773476) (.cons (.att (.nam 1886351988) 29681726114785125) .nil)))))
   .nil))
noncomputable def b_move_designated : Ss :=
  (.cons (.iff (.and (.cons (.not (.att (.nam 1886351988) 28832985044316772)) (.cons (.not (.att (.nam 1886351988) 107096928773476)) (.cons (.not (.att (.nam 1886351988) 2074281269322188418663)) (.cons (.not (.att (.nam 1886351988) 29681726114785125)) .nil)))))
   (.cons (.asg (.att (.nam 1886351988) 2074281269322188418663) (.bool true))
   (.cons (.asg (.att (.nam 1886351988) 115944243225975) (.bool true))
   .nil))
   (.cons (.iff (.cal 39 2138793782893928375979101146867056 (.cons (.nam 1886351988) .nil))
   (.cons (.asg (.att (.att (.nam 1886351988) 127996155753075) 1919905652) (.int 0))
   (.cons (.asg (.att (.nam 1886351988) 126965380244836) (.bool true))
   (.cons (.asg (.att (.nam 1886351988) 1937337955) (.bool false))
   .nil)))
   (.cons (.iff (.and (.cons (.cmp .eq (.att (.att (.nam 1886351988) 127996155753075) 1919905652) (.int 0)) (.cons (.att (.nam 1886351988) 32199607961218932) .nil)))
   (.cons (.asg (.att (.nam 1886351988) 32199607961218932) (.bool false))
   .nil)
   (.cons (.iff (.cal 40 2117091436717588657249699032560228 (.cons (.nam 1886351988) .nil))
   (.cons (.asg (.att (.nam 1886351988) 465557353070) (.bool false))
   (.cons (.asg (.att (.nam 1886351988) 28832985044316772) (.bool false))
   (.cons (.asg (.att (.nam 1886351988) 7235441203191506276) (.bool false))
   (.cons (.asg (.att (.att (.nam 1886351988) 127996155753075) 28832985044316772) (.mth (.nam 1886351988) 563758544461962566135399 .nil))
   .nil))))
   (.cons (.iff (.and (.cons (.cal 41 2017718854026056920942 (.cons (.nam 1886351988) .nil)) (.cons (.not (.att (.nam 1886351988) 465557353070)) .nil)))
   (.cons (.asg (.att (.nam 1886351988) 465557353070) (.bool true))
   (.cons (.asg (.att (.att (.nam 1886351988) 127996155753075) 28832985044316772) (.mth (.nam 1886351988) 563758544461962566135399 .nil))
   .nil))
   (.cons (.iff (.and (.cons (.cal 41 2017718854026056920942 (.cons (.nam 1886351988) .nil)) (.cons (.not (.att (.nam 1886351988) 28832985044316772)) .nil)))
   (.cons (.asg (.att (.nam 1886351988) 28832985044316772) (.bool true))
   (.cons (.asg (.att (.att (.nam 1886351988) 127996155753075) 28832985044316772) (.int 0))
   (.cons (.asg (.att (.nam 1886351988) 107096928773476) (.att (.nam 1886351988) 7598521941169826148))
   .nil)))
   (.cons (.ret (.bool false))
   .nil))
   .nil))
   .nil))
   .nil))
   .nil))
   .nil))
   (.cons (.ret (.bool true))
   .nil))
noncomputable def b_begin_role : Ss :=
  (.cons (.asg (.att (.nam 1886351988) 1919904869) (.att (.nam 1886351988) 109300197582190))
   (.cons (.iff (.cmp .eq (.att (.nam 1886351988) 1919904869) (.str 1919905652))
   (.cons (.asg (.att (.att (.nam 1886351988) 127996155753075) 1919905652) (.att (.att (.nam 1886351988) 2056194513073301448051) 431198331257))
   .nil)
   (.cons (.iff (.cmp .ne (.att (.nam 1886351988) 1919904869) (.str 474108085730319881495908))
   (.cons (.asg (.att (.nam 1886351988) 465557353070) (.bool false))
   (.cons (.asg (.att (.nam 1886351988) 28832985044316772) (.bool false))
   .nil))
   .nil)
   .nil))
   .nil))
noncomputable def b_move_role : Ss :=
  (.cons (.iff (.not (.mth (.nam 1886351988) 497976734222396114625892 .nil))
   (.cons (.ret (.bool false))
   .nil)
   .nil)
   (.cons (.iff (.cmp .ne (.att (.nam 1886351988) 1919904869) (.att (.nam 1886351988) 109300197582190))
   (.cons (.exp (.cal 43 464662488081084577705061 (.cons (.nam 1886351988) .nil)))
   (.cons (.ret (.bool true))
   .nil))
   .nil)
   (.cons (.iff (.cmp .eq (.att (.nam 1886351988) 1919904869) (.str 1919905652))
   (.cons (.ret (.cal 38 2018726822480419188596 (.cons (.nam 108243533981541) (.cons (.nam 1886351988) .nil))))
   .nil)
   .nil)
   (.cons (.iff (.cmp .eq (.att (.nam 1886351988) 1919904869) (.str 474108085730319881495908))
   (.cons (.ret (.cal 42 568221085342786283023690315645347172 (.cons (.nam 108243533981541) (.cons (.nam 1886351988) .nil))))
   .nil)
   .nil)
   (.cons (.ret (.cal 37 33868615945743141599179400548 (.cons (.nam 108243533981541) (.cons (.nam 1886351988) .nil))))
   .nil)))))
noncomputable def b_move_state : Ss :=
  (.cons (.iff (.or (.cons (.and (.cons (.att (.nam 1886351988) 483737218013272063176295) (.cons (.not (.att (.nam 1886351988) 28832985044316772)) .nil))) (.cons (.and (.cons (.att (.nam 1886351988) 7810756272850562663) (.cons (.not (.att (.nam 1886351988) 465557353070)) .nil))) .nil)))
   (.cons (.asg (.att (.nam 1886351988) 483737218013272063176295) (.bool false))
   (.cons (.asg (.att (.nam 1886351988) 7810756272850562663) (.bool false))
   .nil))
   (.cons (.iff (.and (.cons (.att (.nam 1886351988) 465557353070) (.cons (.not (.att (.nam 1886351988) 7810756272850562663)) .nil)))
   (.cons (.asg (.att (.nam 1886351988) 7810756272850562663) (.bool true))
   .nil)
   (.cons (.iff (.and (.cons (.att (.nam 1886351988) 28832985044316772) (.cons (.not (.att (.nam 1886351988) 483737218013272063176295)) .nil)))
   (.cons (.asg (.att (.nam 1886351988) 483737218013272063176295) (.bool true))
   .nil)
   (.cons (.ret (.bool false))
   .nil))
   .nil))
   .nil))
   (.cons (.ret (.bool true))
   .nil))
noncomputable def b_PortRow_init : Ss :=
  (.cons (.asg (.att (.nam 1936026726) 121450625394034) (.nam 121450625394034))
   (.cons (.asg (.att (.nam 1936026726) 8102654606974743673) (.nam 8102654606974743673))
   (.cons (.asg (.att (.nam 1936026726) 1668248436) (.nam 1668248436))
   (.cons (.asg (.att (.nam 1936026726) 29681726114785125) (.nam 29681726114785125))
   (.cons (.asg (.att (.nam 1936026726) 127482043965153249317054580) (.nam 127482043965153249317054580))
   .nil)))))
noncomputable def b_PortRow_port_id : Ss :=
  (.cons (.ret (.tup (.cons (.att (.nam 1936026726) 8102654606974743673) (.cons (.att (.nam 1936026726) 121450625394034) .nil))))
   .nil)
noncomputable def b_PortTimers_init : Ss :=
  (.cons (.asg (.att (.nam 1936026726) 28832985044316772) (.int 0))
   (.cons (.asg (.att (.nam 1936026726) 448378203247) (.int 0))
   (.cons (.asg (.att (.nam 1936026726) 30796665482998885) (.glb 21754143878239301))
   (.cons (.asg (.att (.nam 1936026726) 108170419336560) (.int 0))
   (.cons (.asg (.att (.nam 1936026726) 1768842863) (.int 0))
   (.cons (.asg (.att (.nam 1936026726) 1919905652) (.int 0))
   (.cons (.asg (.att (.nam 1936026726) 109299962373989) (.int 0))
   (.cons (.asg (.att (.nam 1936026726) 1936027252) (.int 0))
   .nil))))))))
noncomputable def b_ChangeWords_init : Ss :=
  (.cons (.asg (.att (.nam 1936026726) 495873782885) (.str 7597116701203330661))
   (.cons (.asg (.att (.nam 1936026726) 7598521898286281316) (.bool false))
   (.cons (.asg (.att (.nam 1936026726) 547531204066252637406370193000064356) (.bool false))
   (.cons (.asg (.att (.nam 1936026726) 497976732826016162211172) (.bool false))
   (.cons (.asg (.att (.nam 1936026726) 1945221618103444922724) (.bool false))
   (.cons (.asg (.att (.nam 1936026726) 8032000006634431339) (.bool false))
   .nil))))))
noncomputable def b_ChangeWords_has_heard : Ss :=
  (.cons (.ret (.or (.cons (.att (.nam 1936026726) 7598521898286281316) (.cons (.att (.nam 1936026726) 547531204066252637406370193000064356) (.cons (.att (.nam 1936026726) 497976732826016162211172) (.cons (.att (.nam 1936026726) 1945221618103444922724) .nil))))))
   .nil)
noncomputable def b_ChangeWords_forget : Ss :=
  (.cons (.asg (.att (.nam 1936026726) 7598521898286281316) (.bool false))
   (.cons (.asg (.att (.nam 1936026726) 547531204066252637406370193000064356) (.bool false))
   (.cons (.asg (.att (.nam 1936026726) 497976732826016162211172) (.bool false))
   (.cons (.asg (.att (.nam 1936026726) 1945221618103444922724) (.bool false))
   .nil))))
noncomputable def b_RapidPort_init : Ss :=
  (.cons (.asg (.att (.nam 1936026726) 7499639) (.nam 7499639))
   (.cons (.asg (.att (.nam 1936026726) 127996155753075) (.cls 2 379845154531382783210099 .nil))
   (.cons (.asg (.att (.nam 1936026726) 109299962373989) (.cls 3 81490953318012440613643379 .nil))
   (.cons (.asg (.att (.nam 1936026726) 497976730291560138958180) (.bool false))
   (.cons (.asg (.att (.nam 1936026726) 29681726114785125) (.att (.nam 7499639) 29681726114785125))
   (.cons (.asg (.att (.nam 1936026726) 1953459300) .none)
   (.cons (.asg (.att (.nam 1936026726) 1768842863) (.str 7235441138447705444))
   (.cons (.asg (.att (.nam 1936026726) 130177832349554) (.nam 130177832349554))
   (.cons (.asg (.att (.nam 1936026726) 499984983411) (.nam 499984983411))
   (.cons (.asg (.att (.nam 1936026726) 526385795348946847297394) (.nam 130177832349554))
   (.cons (.asg (.att (.nam 1936026726) 2056194513073301448051) (.nam 499984983411))
   (.cons (.asg (.att (.nam 1936026726) 1919904869) (.str 7235441138447705444))
   (.cons (.asg (.att (.nam 1936026726) 109300197582190) (.str 7235441138447705444))
   (.cons (.asg (.att (.nam 1936026726) 8315171469725558116) (.bool false))
   (.cons (.asg (.att (.nam 1936026726) 8243121572419036020) (.bool true))
   (.cons (.asg (.att (.nam 1936026726) 129125580895333) (.bool false))
   (.cons (.asg (.att (.nam 1936026726) 2074281269322188418663) (.bool false))
   (.cons (.asg (.att (.nam 1936026726) 8102661208289797476) (.bool false))
   (.cons (.asg (.att (.nam 1936026726) 418347378021) (.bool false))
   (.cons (.asg (.att (.nam 1936026726) 107096928773476) (.bool false))
   (.cons (.asg (.att (.nam 1936026726) 7235441203191506276) (.bool false))
   (.cons (.asg (.att (.nam 1936026726) 1937337955) (.bool true))
   (.cons (.asg (.att (.nam 1936026726) 126965380244836) (.bool false))
   (.cons (.asg (.att (.nam 1936026726) 32199607961218932) (.bool true))
   (.cons (.asg (.att (.nam 1936026726) 465557353070) (.bool false))
   (.cons (.asg (.att (.nam 1936026726) 28832985044316772) (.bool false))
   (.cons (.asg (.att (.nam 1936026726) 7810756272850562663) (.bool false))
   (.cons (.asg (.att (.nam 1936026726) 483737218013272063176295) (.bool false))
   (.cons (.asg (.att (.nam 1936026726) 115944243225975) (.bool false))
   (.cons (.asg (.att (.nam 1936026726) 7598521941169826148) (.bool true))
   (.cons (.asg (.att (.nam 1936026726) 2018290269093815218030) (.str 7163086685011013223))
   (.cons (.asg (.att (.nam 1936026726) 1925766629511788457060) (.bool false))
   (.cons (.asg (.att (.nam 1936026726) 126207041831684581023050084) (.bool false))
   .nil)))))))))))))))))))))))))))))))))
noncomputable def b_RapidPort_is_settled : Ss :=
  (.cons (.ret (.and (.cons (.att (.nam 1936026726) 8315171469725558116) (.cons (.not (.att (.nam 1936026726) 129125580895333)) .nil))))
   .nil)
noncomputable def b_RapidPort_choose_anew : Ss :=
  (.cons (.asg (.att (.nam 1936026726) 8243121572419036020) (.bool true))
   (.cons (.asg (.att (.nam 1936026726) 8315171469725558116) (.bool false))
   .nil))
noncomputable def b_RapidPort_waits_long : Ss :=
  (.cons (.ret (.ite (.att (.nam 1936026726) 7598521941169826148) (.att (.att (.nam 1936026726) 2056194513073301448051) 448378203247) (.att (.att (.nam 1936026726) 2056194513073301448051) 431198331257)))
   .nil)
noncomputable def b_root_paths : Ss :=
  (.cons (.asg (.nam 439956631140) (.lst false .nil))
   (.cons (.for_ (.nam 121450625394034) (.srt (.att (.nam 108243533981541) 482906109043))
   (.cons (.asg (.nam 1886351988) (.sub (.att (.nam 108243533981541) 482906109043) (.nam 121450625394034)))
   (.cons (.iff (.and (.cons (.cmp .eq (.att (.nam 1886351988) 1768842863) (.str 8243103980183774564)) (.cons (.cmp .ne (.sub (.sub (.att (.nam 1886351988) 130177832349554) (.int 2)) (.int 1)) (.sub (.att (.nam 108243533981541) 1816025150211659622756) (.int 1))) .nil)))
   (.cons (.exp (.app (.nam 439956631140) (.tup (.cons (.cal 12 2202761358001616941940 (.cons (.att (.nam 1886351988) 130177832349554) (.cons (.att (.att (.nam 1886351988) 7499639) 1668248436) .nil))) (.cons (.mth (.att (.nam 1886351988) 7499639) 31647734760958308 .nil) (.cons (.nam 121450625394034) .nil))))))
   .nil)
   .nil)
   .nil)))
   (.cons (.ret (.nam 439956631140))
   .nil)))
noncomputable def b_choose_root : Ss :=
  (.cons (.asg (.nam 1650815860) (.tup (.cons (.tup (.cons (.att (.nam 108243533981541) 1816025150211659622756) (.cons (.int 0) (.cons (.att (.nam 108243533981541) 1816025150211659622756) (.cons (.glb 22042318971294292) .nil))))) (.cons (.glb 22042318971294292) (.cons .none .nil)))))
   (.cons (.for_ (.nam 7499639) (.cal 56 540405398788293099022451 (.cons (.nam 108243533981541) .nil))
   (.cons (.iff (.cmp .lt (.slc (.nam 7499639) 0 (some 2)) (.slc (.nam 1650815860) 0 (some 2)))
   (.cons (.asg (.nam 1650815860) (.nam 7499639))
   .nil)
   .nil)
   .nil))
   (.cons (.asg (.att (.nam 108243533981541) 138343782089809647314956146) (.sub (.nam 1650815860) (.int 0)))
   (.cons (.asg (.att (.nam 108243533981541) 138343782089800920108000626) (.sub (.nam 1650815860) (.int 2)))
   (.cons (.iff (.cmp .is (.sub (.nam 1650815860) (.int 2)) .none)
   (.cons (.asg (.att (.nam 108243533981541) 540405398788310412649843) (.att (.nam 108243533981541) 499984983411))
   .nil)
   (.cons (.asg (.nam 1953459300) (.att (.sub (.att (.nam 108243533981541) 482906109043) (.sub (.nam 1650815860) (.int 2))) 499984983411))
   (.cons (.asg (.att (.nam 108243533981541) 540405398788310412649843) (.mth (.nam 1953459300) 8604536554693683045 (.cons (.bin .add (.att (.nam 1953459300) 6383461) (.int 1)) .nil)))
   .nil)))
   .nil)))))
noncomputable def b_choose_role : Ss :=
  (.cons (.asg (.att (.nam 1886351988) 129125580895333) (.bool false))
   (.cons (.iff (.cmp .eq (.att (.nam 1886351988) 1768842863) (.str 7235441138447705444))
   (.cons (.asg (.att (.nam 1886351988) 109300197582190) (.str 7235441138447705444))
   .nil)
   (.cons (.iff (.cmp .eq (.att (.nam 1886351988) 1768842863) (.str 1634166116))
   (.cons (.asg (.att (.nam 1886351988) 109300197582190) (.str 474108085730319881495908))
   (.cons (.asg (.att (.nam 1886351988) 129125580895333) (.bool true))
   .nil))
   (.cons (.iff (.cmp .eq (.att (.nam 1886351988) 1768842863) (.str 1835626085))
   (.cons (.asg (.att (.nam 1886351988) 109300197582190) (.str 474108085730319881495908))
   (.cons (.asg (.att (.nam 1886351988) 129125580895333) (.or (.cons (.cmp .ne (.att (.nam 1886351988) 130177832349554) (.att (.nam 1886351988) 526385795348946847297394)) (.cons (.cmp .ne (.mth (.att (.nam 1886351988) 499984983411) 1953459300 .nil) (.mth (.att (.nam 1886351988) 2056194513073301448051) 1953459300 .nil)) .nil))))
   .nil))
   (.cons (.iff (.cmp .eq (.att (.att (.nam 1886351988) 7499639) 121450625394034) (.att (.nam 108243533981541) 138343782089800920108000626))
   (.cons (.asg (.att (.nam 1886351988) 109300197582190) (.str 1919905652))
   .nil)
   (.cons (.iff (.cmp .lt (.att (.nam 1886351988) 526385795348946847297394) (.att (.nam 1886351988) 130177832349554))
   (.cons (.asg (.att (.nam 1886351988) 109300197582190) (.str 474108085730319881495908))
   (.cons (.asg (.att (.nam 1886351988) 129125580895333) (.bool true))
   .nil))
   (.cons (.asg (.att (.nam 1886351988) 109300197582190) (.ite (.cmp .eq (.sub (.sub (.att (.nam 1886351988) 130177832349554) (.int 2)) (.int 1)) (.sub (.att (.nam 108243533981541) 1816025150211659622756) (.int 1))) (.str 108170419336560) (.str 1797149157945373717605)))
   .nil))
   .nil))
   .nil))
   .nil))
   .nil))
   .nil))
noncomputable def b_move_roles : Ss :=
  (.cons (.iff (.not (.anyb (.lcp (.att (.nam 1886351988) 8243121572419036020) 1886351988 (.mth (.nam 108243533981541) 1797146899539918222451 .nil))))
   (.cons (.ret (.bool false))
   .nil)
   .nil)
   (.cons (.for_ (.nam 1886351988) (.mth (.nam 108243533981541) 1797146899539918222451 .nil)
   (.cons (.asg (.att (.nam 1886351988) 8243121572419036020) (.bool false))
   .nil))
   (.cons (.exp (.cal 57 120176837875532934306295668 (.cons (.nam 108243533981541) .nil)))
   (.cons (.for_ (.nam 1886351988) (.mth (.nam 108243533981541) 1797146899539918222451 .nil)
   (.cons (.asg (.att (.nam 1886351988) 526385795348946847297394) (.tup (.cons (.sub (.att (.nam 108243533981541) 138343782089809647314956146) (.int 0)) (.cons (.sub (.att (.nam 108243533981541) 138343782089809647314956146) (.int 1)) (.cons (.att (.nam 108243533981541) 1816025150211659622756) (.cons (.mth (.att (.nam 1886351988) 7499639) 31647734760958308 .nil) .nil))))))
   (.cons (.asg (.att (.nam 1886351988) 2056194513073301448051) (.att (.nam 108243533981541) 540405398788310412649843))
   .nil)))
   (.cons (.for_ (.nam 1886351988) (.mth (.nam 108243533981541) 1797146899539918222451 .nil)
   (.cons (.exp (.cal 58 120176837875532934306294885 (.cons (.nam 108243533981541) (.cons (.nam 1886351988) .nil))))
   (.cons (.asg (.att (.nam 1886351988) 8315171469725558116) (.bool true))
   .nil)))
   (.cons (.ret (.bool true))
   .nil))))))
noncomputable def b_check_anew : Ss :=
  (.cons (.asg (.att (.nam 1886351988) 2018290269093815218030) (.str 7163086685011013223))
   (.cons (.asg (.att (.nam 1886351988) 7598521941169826148) (.bool true))
   (.cons (.asg (.att (.att (.nam 1886351988) 127996155753075) 30796665482998885) (.glb 21754143878239301))
   .nil)))
noncomputable def b_sense_on : Ss :=
  (.cons (.asg (.att (.nam 1886351988) 2018290269093815218030) (.str 32481147378822759))
   (.cons (.asg (.att (.nam 1886351988) 1925766629511788457060) (.bool false))
   (.cons (.asg (.att (.nam 1886351988) 126207041831684581023050084) (.bool false))
   .nil)))
noncomputable def b_move_migration : Ss :=
  (.cons (.iff (.cmp .eq (.att (.nam 1886351988) 2018290269093815218030) (.str 7163086685011013223))
   (.cons (.iff (.not (.att (.nam 1886351988) 497976730291560138958180))
   (.cons (.iff (.cmp .eq (.att (.att (.nam 1886351988) 127996155753075) 30796665482998885) (.glb 21754143878239301))
   (.cons (.ret (.bool false))
   .nil)
   .nil)
   (.cons (.exp (.cal 60 469440048988838595290487 (.cons (.nam 1886351988) .nil)))
   (.cons (.ret (.bool true))
   .nil)))
   .nil)
   (.cons (.iff (.cmp .gt (.att (.att (.nam 1886351988) 127996155753075) 30796665482998885) (.int 0))
   (.cons (.ret (.bool false))
   .nil)
   .nil)
   (.cons (.exp (.cal 61 8315173728910536558 (.cons (.nam 1886351988) .nil)))
   (.cons (.ret (.bool true))
   .nil))))
   .nil)
   (.cons (.iff (.cmp .eq (.att (.nam 1886351988) 2018290269093815218030) (.str 2128683896249743142503))
   (.cons (.iff (.and (.cons (.cmp .gt (.att (.att (.nam 1886351988) 127996155753075) 30796665482998885) (.int 0)) (.cons (.att (.nam 1886351988) 497976730291560138958180) .nil)))
   (.cons (.ret (.bool false))
   .nil)
   .nil)
   (.cons (.exp (.cal 61 8315173728910536558 (.cons (.nam 1886351988) .nil)))
   (.cons (.ret (.bool true))
   .nil)))
   .nil)
   (.cons (.iff (.or (.cons (.not (.att (.nam 1886351988) 497976730291560138958180)) (.cons (.and (.cons (.not (.att (.nam 1886351988) 7598521941169826148)) (.cons (.att (.nam 1886351988) 126207041831684581023050084) .nil))) .nil)))
   (.cons (.exp (.cal 60 469440048988838595290487 (.cons (.nam 1886351988) .nil)))
   (.cons (.ret (.bool true))
   .nil))
   .nil)
   (.cons (.iff (.and (.cons (.att (.nam 1886351988) 7598521941169826148) (.cons (.att (.nam 1886351988) 1925766629511788457060) .nil)))
   (.cons (.asg (.att (.nam 1886351988) 2018290269093815218030) (.str 2128683896249743142503))
   (.cons (.asg (.att (.nam 1886351988) 7598521941169826148) (.bool false))
   (.cons (.asg (.att (.att (.nam 1886351988) 127996155753075) 30796665482998885) (.glb 21754143878239301))
   (.cons (.ret (.bool true))
   .nil))))
   .nil)
   (.cons (.ret (.bool false))
   .nil)))))
noncomputable def b_rapid_bpdu : Ss :=
  (.cons (.ret (.cls 6 1114662005 (.cons (.int 2) (.cons (.str 491261028708) (.cons (.att (.nam 1886351988) 526385795348946847297394) (.cons (.att (.nam 1886351988) 2056194513073301448051) (.cons (.cmp .gt (.att (.att (.nam 1886351988) 127996155753075) 109299962373989) (.int 0)) (.cons (.bool false) (.cons (.att (.nam 1886351988) 2074281269322188418663) (.cons (.att (.nam 1886351988) 418347378021) (.cons (.sub (.glb 388696840280882835244115) (.att (.nam 1886351988) 1919904869)) (.cons (.att (.nam 1886351988) 7810756272850562663) (.cons (.att (.nam 1886351988) 483737218013272063176295) .nil)))))))))))))
   .nil)
noncomputable def b_send_now : Ss :=
  (.cons (.exp (.app (.att (.nam 108243533981541) 1936027252) (.tup (.cons (.att (.att (.nam 1886351988) 7499639) 121450625394034) (.cons (.nam 1651532917) .nil)))))
   (.cons (.asg (.att (.nam 1886351988) 115944243225975) (.bool false))
   (.cons (.asg (.att (.att (.nam 1886351988) 127996155753075) 1936027252) (.bin .add (.att (.att (.nam 1886351988) 127996155753075) 1936027252) (.int 1)))
   .nil)))
noncomputable def b_move_send : Ss :=
  (.cons (.iff (.or (.cons (.not (.mth (.nam 1886351988) 497976734222396114625892 .nil)) (.cons (.not (.att (.nam 1886351988) 497976730291560138958180)) (.cons (.cmp .eq (.att (.nam 1886351988) 1919904869) (.str 7235441138447705444)) .nil))))
   (.cons (.ret (.bool false))
   .nil)
   .nil)
   (.cons (.iff (.cmp .eq (.att (.att (.nam 1886351988) 127996155753075) 448378203247) (.int 0))
   (.cons (.asg (.att (.att (.nam 1886351988) 127996155753075) 448378203247) (.mx (.att (.att (.nam 1886351988) 2056194513073301448051) 448378203247) (.int 1)))
   (.cons (.asg (.nam 497976734503836597186151) (.or (.cons (.cmp .eq (.att (.nam 1886351988) 1919904869) (.str 474108085730319881495908)) (.cons (.and (.cons (.cmp .eq (.att (.nam 1886351988) 1919904869) (.str 1919905652)) (.cons (.cmp .gt (.att (.att (.nam 1886351988) 127996155753075) 109299962373989) (.int 0)) .nil))) .nil))))
   (.cons (.asg (.att (.nam 1886351988) 115944243225975) (.or (.cons (.att (.nam 1886351988) 115944243225975) (.cons (.nam 497976734503836597186151) .nil))))
   (.cons (.ret (.bool true))
   .nil))))
   .nil)
   (.cons (.iff (.or (.cons (.not (.att (.nam 1886351988) 115944243225975)) (.cons (.cmp .ge (.att (.att (.nam 1886351988) 127996155753075) 1936027252) (.att (.nam 108243533981541) 1752132708)) .nil)))
   (.cons (.ret (.bool false))
   .nil)
   .nil)
   (.cons (.iff (.att (.nam 1886351988) 7598521941169826148)
   (.cons (.exp (.cal 64 8315173664386346871 (.cons (.nam 108243533981541) (.cons (.nam 1886351988) (.cons (.cal 63 540147213338055019619445 (.cons (.nam 1886351988) .nil)) .nil)))))
   (.cons (.asg (.att (.att (.nam 1886351988) 109299962373989) 8032000006634431339) (.bool false))
   .nil))
   (.cons (.iff (.cmp .eq (.att (.nam 1886351988) 1919904869) (.str 474108085730319881495908))
   (.cons (.exp (.cal 64 8315173664386346871 (.cons (.nam 108243533981541) (.cons (.nam 1886351988) (.cons .bad .nil)))))
   (.cons (.asg (.att (.att (.nam 1886351988) 109299962373989) 8032000006634431339) (.bool false))
   .nil))
   (.cons (.iff (.and (.cons (.cmp .eq (.att (.nam 1886351988) 1919904869) (.str 1919905652)) (.cons (.cmp .gt (.att (.att (.nam 1886351988) 127996155753075) 109299962373989) (.int 0)) .nil)))
   (.cons (.exp (.cal 64 8315173664386346871 (.cons (.nam 108243533981541) (.cons (.nam 1886351988) (.cons .bad .nil)))))
   .nil)
   (.cons (.asg (.att (.nam 1886351988) 115944243225975) (.bool false))
   .nil))
   .nil))
   .nil))
   (.cons (.ret (.bool true))
   .nil)))))
noncomputable def b_RapidBridge_init : Ss :=
  (.cons (.asg (.att (.nam 1936026726) 1816025150211659622756) (.nam 1816025150211659622756))
   (.cons (.asg (.att (.nam 1936026726) 499984983411) (.nam 499984983411))
   (.cons (.asg (.att (.nam 1936026726) 1752132708) (.nam 1752132708))
   (.cons (.asg (.att (.nam 1936026726) 138343782089809647314956146) (.tup (.cons (.nam 1816025150211659622756) (.cons (.int 0) (.cons (.nam 1816025150211659622756) (.cons (.glb 22042318971294292) .nil))))))
   (.cons (.asg (.att (.nam 1936026726) 540405398788310412649843) (.nam 499984983411))
   (.cons (.asg (.att (.nam 1936026726) 138343782089800920108000626) .none)
   (.cons (.asg (.att (.nam 1936026726) 482906109043) (.dct false [] .nil))
   (.cons (.for_ (.nam 7499639) (.nam 1919907699)
   (.cons (.asg (.nam 130177832349554) (.tup (.cons (.nam 1816025150211659622756) (.cons (.int 0) (.cons (.nam 1816025150211659622756) (.cons (.mth (.nam 7499639) 31647734760958308 .nil) .nil))))))
   (.cons (.asg (.sub (.att (.nam 1936026726) 482906109043) (.att (.nam 7499639) 121450625394034)) (.cls 1 1519654241742820962932 (.cons (.nam 7499639) (.cons (.nam 130177832349554) (.cons (.nam 499984983411) .nil)))))
   .nil)))
   (.cons (.asg (.att (.nam 1936026726) 7597114553685796210) (.lcp (.sub (.att (.nam 1936026726) 482906109043) (.nam 121450625394034)) 121450625394034 (.srt (.att (.nam 1936026726) 482906109043))))
   (.cons (.asg (.att (.nam 1936026726) 1936027252) .snk)
   (.cons (.asg (.att (.nam 1936026726) 28829699327681892) (.lst false .nil))
   (.cons (.exp (.mth (.nam 1936026726) 444250156910 .nil))
   .nil))))))))))))
noncomputable def b_RapidBridge_all_ports : Ss :=
  (.cons (.ret (.att (.nam 1936026726) 7597114553685796210))
   .nil)
noncomputable def b_RapidBridge_port : Ss :=
  (.cons (.iff (.cmp .notin (.nam 121450625394034) (.att (.nam 1936026726) 482906109043))
   (.cons .bad
   .nil)
   .nil)
   (.cons (.ret (.sub (.att (.nam 1936026726) 482906109043) (.nam 121450625394034)))
   .nil))
noncomputable def b_RapidBridge_link_up : Ss :=
  (.cons (.asg (.nam 1886351988) (.mth (.nam 1936026726) 1886351988 (.cons (.nam 121450625394034) .nil)))
   (.cons (.iff (.not (.att (.nam 1886351988) 497976730291560138958180))
   (.cons (.asg (.att (.nam 1886351988) 497976730291560138958180) (.bool true))
   (.cons (.asg (.att (.nam 1886351988) 29681726114785125) (.att (.att (.nam 1886351988) 7499639) 29681726114785125))
   (.cons (.exp (.cal 60 469440048988838595290487 (.cons (.nam 1886351988) .nil)))
   (.cons (.asg (.att (.att (.nam 1886351988) 127996155753075) 448378203247) (.int 0))
   .nil))))
   .nil)
   (.cons (.exp (.mth (.nam 1936026726) 444250156910 .nil))
   .nil)))
noncomputable def b_RapidBridge_receive : Ss :=
  (.cons (.asg (.nam 1886351988) (.mth (.nam 1936026726) 1886351988 (.cons (.nam 121450625394034) .nil)))
   (.cons (.iff (.or (.cons (.not (.att (.nam 1886351988) 497976730291560138958180)) (.cons (.cal 26 32635403198370206566271902329 (.cons (.nam 1651532917) (.cons (.att (.nam 1936026726) 1816025150211659622756) (.cons (.mth (.att (.nam 1886351988) 7499639) 31647734760958308 .nil) .nil)))) .nil)))
   (.cons .retn
   .nil)
   .nil)
   (.cons (.asg (.att (.nam 1886351988) 29681726114785125) (.bool false))
   (.cons (.iff (.cmp .eq (.att (.nam 1651532917) 1802071652) (.str 491261028708))
   (.cons (.asg (.att (.nam 1886351988) 126207041831684581023050084) (.bool true))
   .nil)
   (.cons (.asg (.att (.nam 1886351988) 1925766629511788457060) (.bool true))
   .nil))
   (.cons (.asg (.att (.nam 1886351988) 1953459300) (.cal 25 7022061197456008558 (.cons (.nam 1651532917) .nil)))
   (.cons (.exp (.mth (.nam 1936026726) 444250156910 .nil))
   .nil))))))
noncomputable def b_RapidBridge_go_on : Ss :=
  (.cons (.for_ (.nam 1953854062) (.rng (.bin .add (.glb 365085516491804741094995) (.bin .mul (.int 100) (.len (.att (.nam 1936026726) 482906109043)))))
   (.cons (.iff (.not (.mth (.nam 1936026726) 8029466646298325614 .nil))
   (.cons .retn
   .nil)
   .nil)
   .nil))
   (.cons .bad
   .nil))
noncomputable def b_RapidBridge_one_turn : Ss :=
  (.cons (.asg (.nam 7598521919930262884) (.bool false))
   (.cons (.for_ (.nam 1886351988) (.mth (.nam 1936026726) 1797146899539918222451 .nil)
   (.cons (.iff (.cal 29 2018726822480268125807 (.cons (.nam 1936026726) (.cons (.nam 1886351988) .nil)))
   (.cons (.asg (.nam 7598521919930262884) (.bool true))
   .nil)
   .nil)
   .nil))
   (.cons (.iff (.cal 59 516794066554987312080243 (.cons (.nam 1936026726) .nil))
   (.cons (.asg (.nam 7598521919930262884) (.bool true))
   .nil)
   .nil)
   (.cons (.for_ (.nam 1886351988) (.mth (.nam 1936026726) 1797146899539918222451 .nil)
   (.cons (.for_ (.nam 30787852042858085) (.slc (.glb 5566804592153216339) 1 .none)
   (.cons (.iff (.cav 30787852042858085 (.cons (.nam 1936026726) (.cons (.nam 1886351988) .nil)))
   (.cons (.asg (.nam 7598521919930262884) (.bool true))
   .nil)
   .nil)
   .nil))
   .nil))
   (.cons (.ret (.nam 7598521919930262884))
   .nil)))))
noncomputable def b_RapidBridge_role : Ss :=
  (.cons (.ret (.att (.mth (.nam 1936026726) 1886351988 (.cons (.nam 121450625394034) .nil)) 1919904869))
   .nil)
noncomputable def b_RapidBridge_root : Ss :=
  (.cons (.ret (.sub (.att (.nam 1936026726) 138343782089809647314956146) (.int 0)))
   .nil)
noncomputable def b_RapidBridge_root_port : Ss :=
  (.cons (.ret (.att (.nam 1936026726) 138343782089800920108000626))
   .nil)
noncomputable def b__law_pool : Ss :=
  (.cons (.asg (.nam 1667591276) (.int 0))
   (.cons (.iff (.cmp .lt (.nam 107) (.len (.nam 126870958469236)))
   (.cons (.asg (.nam 1667591276) (.sub (.nam 126870958469236) (.nam 107)))
   .nil)
   .nil)
   (.cons (.asg (.nam 6449511) (.mx (.toi (.nam 1667591276)) (.toi (.bin .sub (.neg (.int 1)) (.nam 1667591276)))))
   (.cons (.asg (.nam 469920933220) (.bin .mod (.toi (.bin .mul (.bin .add (.bin .add (.bin .add (.bin .mod (.toi (.nam 6449511)) (.int 2147483629)) (.bin .mul (.bin .mul (.int 7919) (.nam 107)) (.nam 107))) (.bin .mul (.int 31) (.nam 107))) (.int 17)) (.int 48271))) (.int 2147483647)))
   (.cons (.ret (.lst false (.cons (.bin .mul (.nam 6449511) (.toi (.cmp .ge (.nam 6449511) (.bin .pow (.int 10) (.int 18))))) (.cons (.nam 469920933220) .nil))))
   .nil)))))
noncomputable def b__law_take : Ss :=
  (.cons (.iff (.cmp .gt (.sub (.nam 126922548994917) (.int 0)) (.int 0))
   (.cons (.asg (.nam 431415719790) (.bin .mod (.toi (.sub (.nam 126922548994917) (.int 0))) (.nam 7630704)))
   (.cons (.asg (.sub (.nam 126922548994917) (.int 0)) (.bin .fdiv (.sub (.nam 126922548994917) (.int 0)) (.nam 7630704)))
   (.cons (.ret (.nam 431415719790))
   .nil)))
   .nil)
   (.cons (.asg (.sub (.nam 126922548994917) (.int 1)) (.bin .mod (.toi (.bin .add (.bin .mul (.sub (.nam 126922548994917) (.int 1)) (.int 39373)) (.int 7))) (.int 2147483647)))
   (.cons (.ret (.bin .mod (.toi (.bin .fdiv (.bin .mod (.toi (.bin .mul (.sub (.nam 126922548994917) (.int 1)) (.sub (.nam 126922548994917) (.int 1)))) (.int 2147483629)) (.int 32))) (.nam 7630704)))
   .nil)))
noncomputable def b__law_one : Ss :=
  (.cons (.ret (.sub (.nam 127991794263923) (.cal 77 1760250341483102694245 (.cons (.nam 126922548994917) (.cons (.len (.nam 127991794263923)) .nil)))))
   .nil)
noncomputable def b__law_costs : Ss :=
  (.cons (.ret (.dct true [1, 2, 3] (.cons (.int 4) (.cons (.int 7) (.cons (.int 4) .nil)))))
   .nil)
noncomputable def b__law_vector : Ss :=
  (.cons (.asg (.nam 1919905652) (.cal 78 6875977896418045541 (.cons (.nam 126922548994917) (.cons (.lst true (.cons (.tup (.cons (.int 4096) (.cons (.int 10) .nil))) (.cons (.tup (.cons (.int 4096) (.cons (.int 3) .nil))) (.cons (.tup (.cons (.int 32768) (.cons (.int 10) .nil))) (.cons (.tup (.cons (.int 61440) (.cons (.int 10) .nil))) .nil))))) .nil))))
   (.cons (.asg (.nam 127978959562098) (.cal 78 6875977896418045541 (.cons (.nam 126922548994917) (.cons (.lst true (.cons (.tup (.cons (.int 4096) (.cons (.int 10) .nil))) (.cons (.tup (.cons (.int 32768) (.cons (.int 10) .nil))) (.cons (.tup (.cons (.int 61440) (.cons (.int 10) .nil))) (.cons (.tup (.cons (.int 8192) (.cons (.int 3) .nil))) .nil))))) .nil))))
   (.cons (.ret (.tup (.cons (.nam 1919905652) (.cons (.cal 77 1760250341483102694245 (.cons (.nam 126922548994917) (.cons (.int 3) .nil))) (.cons (.nam 127978959562098) (.cons (.tup (.cons (.int 128) (.cons (.bin .add (.int 1) (.cal 77 1760250341483102694245 (.cons (.nam 126922548994917) (.cons (.int 3) .nil)))) .nil))) .nil))))))
   .nil)))
noncomputable def b__law_best : Ss :=
  (.cons (.swp 1650815860 439956631140 (.tup (.cons (.tup (.cons (.glb 6875977896418047854) (.cons (.int 0) (.cons (.glb 6875977896418047854) (.cons (.tup (.cons (.int 0) (.cons (.int 0) .nil))) .nil))))) (.cons (.tup (.cons (.int 0) (.cons (.int 0) .nil))) .nil))) .none)
   (.cons (.for_ (.nam 121450625394034) (.lst true (.cons (.int 1) (.cons (.int 2) (.cons (.int 3) .nil))))
   (.cons (.asg (.nam 130177832349554) (.sub (.nam 1751477348) (.nam 121450625394034)))
   (.cons (.iff (.and (.cons (.cmp .isnot (.nam 130177832349554) .none) (.cons (.cmp .ne (.sub (.sub (.nam 130177832349554) (.int 2)) (.int 1)) (.int 10)) .nil)))
   (.cons (.asg (.nam 7499639) (.tup (.cons (.tup (.cons (.sub (.nam 130177832349554) (.int 0)) (.cons (.bin .add (.sub (.nam 130177832349554) (.int 1)) (.sub (.cal 79 450624087419601510691955 .nil) (.nam 121450625394034))) (.cons (.sub (.nam 130177832349554) (.int 2)) (.cons (.sub (.nam 130177832349554) (.int 3)) .nil))))) (.cons (.tup (.cons (.int 128) (.cons (.nam 121450625394034) .nil))) .nil))))
   (.cons (.iff (.cmp .lt (.nam 7499639) (.nam 1650815860))
   (.cons (.swp 1650815860 439956631140 (.nam 7499639) (.nam 121450625394034))
   .nil)
   .nil)
   .nil))
   .nil)
   .nil)))
   (.cons (.ret (.tup (.cons (.sub (.nam 1650815860) (.int 0)) (.cons (.nam 439956631140) .nil))))
   .nil)))
noncomputable def b__law_mine : Ss :=
  (.cons (.asg (.nam 1650815860) (.sub (.cal 81 1760250341482800968564 (.cons (.nam 1751477348) .nil)) (.int 0)))
   (.cons (.ret (.tup (.cons (.sub (.nam 1650815860) (.int 0)) (.cons (.sub (.nam 1650815860) (.int 1)) (.cons (.glb 6875977896418047854) (.cons (.tup (.cons (.int 128) (.cons (.nam 121450625394034) .nil))) .nil))))))
   .nil))
noncomputable def b__law_taken : Ss :=
  (.cons (.asg (.nam 126943688025203) (.ite (.cmp .is (.sub (.nam 1751477348) (.nam 121450625394034)) .none) (.cal 82 1760250341482985778789 (.cons (.nam 1751477348) (.cons (.nam 121450625394034) .nil))) (.sub (.nam 1751477348) (.nam 121450625394034))))
   (.cons (.asg (.nam 32635403253708734518810079860) (.cmp .eq (.tup (.cons (.sub (.sub (.nam 130177832349554) (.int 2)) (.int 1)) (.cons (.sub (.sub (.nam 130177832349554) (.int 3)) (.int 1)) .nil))) (.tup (.cons (.sub (.sub (.nam 126943688025203) (.int 2)) (.int 1)) (.cons (.sub (.sub (.nam 126943688025203) (.int 3)) (.int 1)) .nil)))))
   (.cons (.iff (.and (.cons (.cmp .ne (.nam 130177832349554) (.nam 126943688025203)) (.cons (.or (.cons (.cmp .lt (.nam 130177832349554) (.nam 126943688025203)) (.cons (.nam 32635403253708734518810079860) .nil))) .nil)))
   (.cons (.asg (.sub (.nam 1751477348) (.nam 121450625394034)) (.nam 130177832349554))
   .nil)
   .nil)
   (.cons (.for_ (.nam 7302757) (.lst true (.cons (.int 1) (.cons (.int 2) (.cons (.int 3) .nil))))
   (.cons (.iff (.and (.cons (.cmp .isnot (.sub (.nam 1751477348) (.nam 7302757)) .none) (.cons (.cmp .ne (.nam 7302757) (.sub (.cal 81 1760250341482800968564 (.cons (.nam 1751477348) .nil)) (.int 1))) (.cons (.cmp .lt (.cal 82 1760250341482985778789 (.cons (.nam 1751477348) (.cons (.nam 7302757) .nil))) (.sub (.nam 1751477348) (.nam 7302757))) .nil))))
   (.cons (.asg (.sub (.nam 1751477348) (.nam 7302757)) .none)
   .nil)
   .nil)
   .nil))
   .nil))))
noncomputable def b__law_role : Ss :=
  (.cons (.iff (.cmp .is (.sub (.nam 1751477348) (.nam 121450625394034)) .none)
   (.cons (.ret (.str 474108085730319881495908))
   .nil)
   .nil)
   (.cons (.iff (.cmp .eq (.nam 121450625394034) (.sub (.cal 81 1760250341482800968564 (.cons (.nam 1751477348) .nil)) (.int 1)))
   (.cons (.ret (.str 1919905652))
   .nil)
   .nil)
   (.cons (.ret (.ite (.cmp .eq (.sub (.sub (.sub (.nam 1751477348) (.nam 121450625394034)) (.int 2)) (.int 1)) (.int 10)) (.str 108170419336560) (.str 1797149157945373717605)))
   .nil)))
noncomputable def b__law_right : Ss :=
  (.cons (.asg (.nam 2110960839717139999844) (.lcp (.cls 4 22640535505366903 (.cons (.nam 121450625394034) (.cons (.int 128) (.cons (.sub (.cal 79 450624087419601510691955 .nil) (.nam 121450625394034)) .nil)))) 121450625394034 (.lst true (.cons (.int 1) (.cons (.int 2) (.cons (.int 3) .nil))))))
   (.cons (.asg (.nam 108243533981541) (.cls 0 99592060386842134196807525 (.cons (.glb 6875977896418047854) (.cons (.nam 2110960839717139999844) (.cons (.cls 5 362546029939 (.cons (.int 0) (.cons (.int 20) (.cons (.int 2) (.cons (.int 15) .nil))))) .nil)))))
   (.cons (.asg (.nam 1751477348) (.dct false [1, 2, 3] (.cons .none (.cons .none (.cons .none .nil)))))
   (.cons (.for_ (.nam 121450625394034) (.nam 1751477348)
   (.cons (.exp (.mth (.nam 108243533981541) 30515220453487984 (.cons (.nam 121450625394034) .nil)))
   .nil))
   (.cons (.for_ (.two (.nam 121450625394034) (.nam 130177832349554)) (.nam 1919907699)
   (.cons (.exp (.mth (.nam 108243533981541) 32199624922592869 (.cons (.nam 121450625394034) (.cons (.clk 6 1114662005 (.cons (.int 2) (.cons (.str 491261028708) (.cons (.nam 130177832349554) (.cons (.cls 5 362546029939 (.cons (.int 0) (.cons (.int 20) (.cons (.int 2) (.cons (.int 15) .nil))))) .nil)))) 1919904869 (.str 474108085730319881495908)) .nil))))
   (.cons (.exp (.cal 83 450624087419674289726830 (.cons (.nam 1751477348) (.cons (.nam 121450625394034) (.cons (.nam 130177832349554) .nil)))))
   (.cons (.asg (.two (.nam 1650815860) (.nam 2110958589016770835060)) (.cal 81 1760250341482800968564 (.cons (.nam 1751477348) .nil)))
   (.cons (.iff (.cmp .ne (.tup (.cons (.mth (.nam 108243533981541) 1919905652 .nil) (.cons (.mth (.nam 108243533981541) 2110958589016770835060 .nil) .nil))) (.tup (.cons (.sub (.nam 1650815860) (.int 0)) (.cons (.nam 2110958589016770835060) .nil))))
   (.cons (.ret (.bool false))
   .nil)
   .nil)
   (.cons (.iff (.cmp .ne (.lcp (.mth (.nam 108243533981541) 1919904869 (.cons (.nam 7302757) .nil)) 7302757 (.lst true (.cons (.int 1) (.cons (.int 2) (.cons (.int 3) .nil))))) (.lcp (.cal 84 1760250341483070057573 (.cons (.nam 1751477348) (.cons (.nam 7302757) .nil))) 7302757 (.lst true (.cons (.int 1) (.cons (.int 2) (.cons (.int 3) .nil))))))
   (.cons (.ret (.bool false))
   .nil)
   .nil)
   .nil))))))
   (.cons (.ret (.bool true))
   .nil))))))
noncomputable def b_law : Ss :=
  (.cons (.iff (.not (.cal 85 450624087419665833748596 (.cons (.lst true (.cons (.tup (.cons (.int 1) (.cons (.tup (.cons (.tup (.cons (.int 4096) (.cons (.int 10) .nil))) (.cons (.int 0) (.cons (.tup (.cons (.int 4096) (.cons (.int 10) .nil))) (.cons (.tup (.cons (.int 128) (.cons (.int 2) .nil))) .nil))))) .nil))) .nil)) .nil)))
   (.cons (.ret (.bool false))
   .nil)
   .nil)
   (.cons (.asg (.nam 126922548994917) (.cal 76 1760250341483036503916 (.cons (.nam 126870958469236) (.cons (.int 0) .nil))))
   (.cons (.ret (.cal 85 450624087419665833748596 (.cons (.lcp (.tup (.cons (.bin .add (.int 1) (.cal 77 1760250341483102694245 (.cons (.nam 126922548994917) (.cons (.int 3) .nil)))) (.cons (.cal 80 115359766379438834239958898 (.cons (.nam 126922548994917) .nil)) .nil))) 1953854062 (.rng (.bin .add (.int 2) (.cal 77 1760250341483102694245 (.cons (.nam 126922548994917) (.cons (.int 4) .nil)))))) .nil)))
   .nil)))
noncomputable def fnL : List Fn := [
  ⟨[108243533981541, 1886351988], b_flush_port, false, false⟩,
  ⟨[108243533981541, 1886351988], b_begin_change, false, false⟩,
  ⟨[108243533981541, 1886351988], b_spread_change, false, false⟩,
  ⟨[108243533981541, 1886351988], b_move_inactive, false, false⟩,
  ⟨[108243533981541, 1886351988], b_move_learning, false, false⟩,
  ⟨[108243533981541, 1886351988], b_hear_change, false, false⟩,
  ⟨[108243533981541, 1886351988], b_move_active, false, false⟩,
  ⟨[108243533981541, 1886351988], b_move_change, false, false⟩,
  ⟨[1936026726, 6383461, 30787942085650277, 448378203247, 431198331257], b_Times_init, false, false⟩,
  ⟨[1936026726], b_Times_told, false, false⟩,
  ⟨[1936026726, 6383461], b_Times_with_age, false, false⟩,
  ⟨[1936026726, 33325589488824174, 1802071652, 130177832349554, 499984983411, 1945221600476614518629, 8354663157519837370311937975147, 127482043748414283240923500, 32635402922101094156868087412, 1919904869, 127482043456509347801689703, 8354663171817291533269124869735, 1952541036], b_Bpdu_init, false, false⟩,
  ⟨[130177832349554, 1668248436], b_with_cost, false, false⟩,
  ⟨[130177832349554, 478694368626], b_is_from_same, false, false⟩,
  ⟨[130177832349554, 478694368626], b_is_same_or_better_source, false, false⟩,
  ⟨[1886351988, 1651532917], b_heard_kind, false, false⟩,
  ⟨[1886351988, 130177832349554, 1768842863], b_is_better_or_same, false, false⟩,
  ⟨[1886351988, 1651532917], b_record_proposal, false, false⟩,
  ⟨[1886351988, 1651532917], b_record_answer, false, false⟩,
  ⟨[1886351988, 1651532917], b_record_dispute, false, false⟩,
  ⟨[1886351988, 1651532917], b_record_change, false, false⟩,
  ⟨[1886351988], b_hold_on, false, false⟩,
  ⟨[1886351988, 1651532917], b_take_superior, false, false⟩,
  ⟨[1886351988], b_take_told, false, false⟩,
  ⟨[1886351988], b_age_out, false, false⟩,
  ⟨[1651532917], b_as_taken, false, false⟩,
  ⟨[1651532917, 1816025150211659622756, 31647734760958308], b_is_passed_by, false, false⟩,
  ⟨[1886351988], b_disable_info, false, false⟩,
  ⟨[1886351988], b_take_own, false, false⟩,
  ⟨[108243533981541, 1886351988], b_move_info, false, false⟩,
  ⟨[108243533981541, 1886351988], b_are_all_synced, false, false⟩,
  ⟨[108243533981541, 1886351988], b_is_re_rooted, false, false⟩,
  ⟨[108243533981541], b_sync_all, false, false⟩,
  ⟨[108243533981541], b_re_root_all, false, false⟩,
  ⟨[1886351988], b_agree_now, false, false⟩,
  ⟨[108243533981541, 1886351988], b_answer_proposal, false, false⟩,
  ⟨[1886351988, 2002872692], b_rest_blocked, false, false⟩,
  ⟨[108243533981541, 1886351988], b_move_blocked, false, false⟩,
  ⟨[108243533981541, 1886351988], b_move_root, false, false⟩,
  ⟨[1886351988], b_is_out_of_step, false, false⟩,
  ⟨[1886351988], b_has_to_discard, false, false⟩,
  ⟨[1886351988], b_may_go_on, false, false⟩,
  ⟨[108243533981541, 1886351988], b_move_designated, false, false⟩,
  ⟨[1886351988], b_begin_role, false, false⟩,
  ⟨[108243533981541, 1886351988], b_move_role, false, false⟩,
  ⟨[108243533981541, 1886351988], b_move_state, false, false⟩,
  ⟨[1936026726, 121450625394034, 8102654606974743673, 1668248436, 29681726114785125, 127482043965153249317054580], b_PortRow_init, false, false⟩,
  ⟨[1936026726], b_PortRow_port_id, false, false⟩,
  ⟨[1936026726], b_PortTimers_init, false, false⟩,
  ⟨[1936026726], b_ChangeWords_init, false, false⟩,
  ⟨[1936026726], b_ChangeWords_has_heard, false, false⟩,
  ⟨[1936026726], b_ChangeWords_forget, false, false⟩,
  ⟨[1936026726, 7499639, 130177832349554, 499984983411], b_RapidPort_init, false, false⟩,
  ⟨[1936026726], b_RapidPort_is_settled, false, false⟩,
  ⟨[1936026726], b_RapidPort_choose_anew, false, false⟩,
  ⟨[1936026726], b_RapidPort_waits_long, false, false⟩,
  ⟨[108243533981541], b_root_paths, false, false⟩,
  ⟨[108243533981541], b_choose_root, true, false⟩,
  ⟨[108243533981541, 1886351988], b_choose_role, false, false⟩,
  ⟨[108243533981541], b_move_roles, false, false⟩,
  ⟨[1886351988], b_check_anew, false, false⟩,
  ⟨[1886351988], b_sense_on, false, false⟩,
  ⟨[108243533981541, 1886351988], b_move_migration, false, false⟩,
  ⟨[1886351988], b_rapid_bpdu, false, false⟩,
  ⟨[108243533981541, 1886351988, 1651532917], b_send_now, false, false⟩,
  ⟨[108243533981541, 1886351988], b_move_send, false, false⟩,
  ⟨[1936026726, 1816025150211659622756, 1919907699, 499984983411, 1752132708], b_RapidBridge_init, false, false⟩,
  ⟨[1936026726], b_RapidBridge_all_ports, false, false⟩,
  ⟨[1936026726, 121450625394034], b_RapidBridge_port, false, false⟩,
  ⟨[1936026726, 121450625394034], b_RapidBridge_link_up, false, false⟩,
  ⟨[1936026726, 121450625394034, 1651532917], b_RapidBridge_receive, false, false⟩,
  ⟨[1936026726], b_RapidBridge_go_on, false, false⟩,
  ⟨[1936026726], b_RapidBridge_one_turn, false, false⟩,
  ⟨[1936026726, 121450625394034], b_RapidBridge_role, false, false⟩,
  ⟨[1936026726], b_RapidBridge_root, false, false⟩,
  ⟨[1936026726], b_RapidBridge_root_port, false, false⟩,
  ⟨[126870958469236, 107], b__law_pool, false, false⟩,
  ⟨[126922548994917, 7630704], b__law_take, false, false⟩,
  ⟨[126922548994917, 127991794263923], b__law_one, false, false⟩,
  ⟨[], b__law_costs, false, false⟩,
  ⟨[126922548994917], b__law_vector, false, false⟩,
  ⟨[1751477348], b__law_best, false, false⟩,
  ⟨[1751477348, 121450625394034], b__law_mine, false, false⟩,
  ⟨[1751477348, 121450625394034, 130177832349554], b__law_taken, false, false⟩,
  ⟨[1751477348, 121450625394034], b__law_role, false, false⟩,
  ⟨[1919907699], b__law_right, false, true⟩,
  ⟨[126870958469236], b_law, false, false⟩]
noncomputable def initOf : Nat → Nat
  | 0 => 66
  | 1 => 52
  | 2 => 48
  | 3 => 49
  | 4 => 46
  | 5 => 8
  | 6 => 11
  | _ => 1000
noncomputable def frozenC (c : Nat) : Bool := Nat.ble 4 c
noncomputable def fieldsC : Nat → List Nat
  | 0 => [1816025150211659622756, 499984983411, 1752132708, 138343782089809647314956146, 540405398788310412649843, 138343782089800920108000626, 482906109043, 7597114553685796210, 1936027252, 28829699327681892]
  | 1 => [7499639, 127996155753075, 109299962373989, 497976730291560138958180, 29681726114785125, 1953459300, 1768842863, 130177832349554, 499984983411, 526385795348946847297394, 2056194513073301448051, 1919904869, 109300197582190, 8315171469725558116, 8243121572419036020, 129125580895333, 2074281269322188418663, 8102661208289797476, 418347378021, 107096928773476, 7235441203191506276, 1937337955, 126965380244836, 32199607961218932, 465557353070, 28832985044316772, 7810756272850562663, 483737218013272063176295, 115944243225975, 7598521941169826148, 2018290269093815218030, 1925766629511788457060, 126207041831684581023050084]
  | 2 => [28832985044316772, 448378203247, 30796665482998885, 108170419336560, 1768842863, 1919905652, 109299962373989, 1936027252]
  | 3 => [495873782885, 7598521898286281316, 547531204066252637406370193000064356, 497976732826016162211172, 1945221618103444922724, 8032000006634431339]
  | 4 => [121450625394034, 8102654606974743673, 1668248436, 29681726114785125, 127482043965153249317054580]
  | 5 => [6383461, 30787942085650277, 448378203247, 431198331257]
  | 6 => [33325589488824174, 1802071652, 130177832349554, 499984983411, 1945221600476614518629, 8354663157519837370311937975147, 127482043748414283240923500, 32635402922101094156868087412, 1919904869, 127482043456509347801689703, 8354663171817291533269124869735, 1952541036]
  | _ => []
noncomputable def methL : Nat → List (Nat × Nat)
  | 0 => [(1797146899539918222451, 67), (1886351988, 68), (30515220453487984, 69), (32199624922592869, 70), (444250156910, 71), (8029466646298325614, 72), (1919904869, 73), (1919905652, 74), (2110958589016770835060, 75)]
  | 1 => [(497976734222396114625892, 53), (120176837875532934021014903, 54), (563758544461962566135399, 55)]
  | 3 => [(1925483444811776225892, 50), (112628846781812, 51)]
  | 4 => [(31647734760958308, 47)]
  | 5 => [(1953459300, 9), (8604536554693683045, 10)]
  | _ => []
noncomputable def lookN (n : Nat) : List (Nat × Nat) → Option Nat
  | [] => none
  | (m, v) :: r => match Nat.beq n m with
    | true => some v
    | false => lookN n r
noncomputable def glbL : List (Nat × AV) := [
  (20197921699914967720588494163, (.tup [(.str 1919905652), (.str 474108085730319881495908)])),
  (5566804592153216339, (.tup [(.fn 29), (.fn 44), (.fn 45), (.fn 7), (.fn 62), (.fn 65)])),
  (21754143878239301, (.int 3)),
  (1426115298796111875140, (.int 4294967295)),
  (365085516491804741094995, (.int 400)),
  (22042318971294292, (.tup [(.int 0), (.int 0)])),
  (388696840280882835244115, (.sd [1919905652, 474108085730319881495908, 1797149157945373717605, 108170419336560, 7235441138447705444] [(.str 1919905652), (.str 474108085730319881495908), (.str 1797149157945373717605), (.str 1797149157945373717605), (.str 1852796517)])),
  (6875977896418047854, (.tup [(.int 32768), (.int 10)])),
  (99592060386842134196807525, .cl 0),
  (1519654241742820962932, .cl 1),
  (379845154531382783210099, .cl 2),
  (81490953318012440613643379, .cl 3),
  (22640535505366903, .cl 4),
  (362546029939, .cl 5),
  (1114662005, .cl 6),
  (483682092835548320199284, .fn 0),
  (30452120818881942361555756901, .fn 1),
  (9146039306539407092491182040933, .fn 2),
  (8670365682110749200105133930085, .fn 3),
  (8670365682110962839676781162087, .fn 4),
  (126207041830281561236203365, .fn 5),
  (132299281038058008789743205, .fn 6),
  (132299281038060228969391973, .fn 7),
  (2202761358001616941940, .fn 12),
  (32635403015126612405326540133, .fn 13),
  (2585643032703386755636674332954827062186363117001814205285, .fn 14),
  (492996257155017777704548, .fn 15),
  (35883005010129591345070553393301439999333, .fn 16),
  (593978243322155711331722544347832684, .fn 17),
  (9063388722567073215480608548210, .fn 18),
  (2320227512977170744001963043943525, .fn 19),
  (9063388722567073217653559420773, .fn 20),
  (29395908909035374, .fn 21),
  (9220616731389807534143319928690, .fn 22),
  (2146842128455144795236, .fn 23),
  (27416757831431540, .fn 24),
  (7022061197456008558, .fn 25),
  (32635403198370206566271902329, .fn 26),
  (31075983061765903068515165807, .fn 27),
  (8386102064277583726, .fn 28),
  (2018726822480268125807, .fn 29),
  (1976457115374852591135820666332516, .fn 30),
  (32635403235546294533932475748, .fn 31),
  (8320803159624739948, .fn 32),
  (138296263137456550836268140, .fn 33),
  (1796788306969145274231, .fn 34),
  (505893008524326890956451674275930476, .fn 35),
  (35403937846255433147763877220, .fn 36),
  (33868615945743141599179400548, .fn 37),
  (2018726822480419188596, .fn 38),
  (2138793782893928375979101146867056, .fn 39),
  (2117091436717588657249699032560228, .fn 40),
  (2017718854026056920942, .fn 41),
  (568221085342786283023690315645347172, .fn 42),
  (464662488081084577705061, .fn 43),
  (2018726822480419187813, .fn 44),
  (516794066554991690216549, .fn 45),
  (540405398788293099022451, .fn 56),
  (120176837875532934306295668, .fn 57),
  (120176837875532934306294885, .fn 58),
  (516794066554987312080243, .fn 59),
  (469440048988838595290487, .fn 60),
  (8315173728910536558, .fn 61),
  (2219613614620425223620500048670574, .fn 62),
  (540147213338055019619445, .fn 63),
  (8315173664386346871, .fn 64),
  (2018726822480435310180, .fn 65),
  (1760250341483036503916, .fn 76),
  (1760250341483102694245, .fn 77),
  (6875977896418045541, .fn 78),
  (450624087419601510691955, .fn 79),
  (115359766379438834239958898, .fn 80),
  (1760250341482800968564, .fn 81),
  (1760250341482985778789, .fn 82),
  (450624087419674289726830, .fn 83),
  (1760250341483070057573, .fn 84),
  (450624087419665833748596, .fn 85),
  (7102839, .fn 86)]
noncomputable def dflPL : List (Nat × Nat × List AV) := [(5, 4, []), (6, 12, []), (3, 0, []), (2, 0, []), (6, 11, [.byt]), (1, 3, []), (0, 3, [(.int 6)]), (4, 3, [(.bool false), (.bool true)])]
noncomputable def dflKL : List (Nat × Nat × Nat × Nat × List AV) := [(6, 4, 1919904869, 4, [(.bool false), (.bool false), (.bool false), (.bool false), (.str 1852796517), (.bool false), (.bool false), .byt])]
noncomputable def prg : Prg := ⟨fnL, initOf, frozenC, fieldsC, fun c n => lookN n (methL c), glbL, dflPL, dflKL⟩
noncomputable abbrev f_flush_port : Nat := 0
noncomputable abbrev f_begin_change : Nat := 1
noncomputable abbrev f_spread_change : Nat := 2
noncomputable abbrev f_move_inactive : Nat := 3
noncomputable abbrev f_move_learning : Nat := 4
noncomputable abbrev f_hear_change : Nat := 5
noncomputable abbrev f_move_active : Nat := 6
noncomputable abbrev f_move_change : Nat := 7
noncomputable abbrev f_Times_init : Nat := 8
noncomputable abbrev f_Times_told : Nat := 9
noncomputable abbrev f_Times_with_age : Nat := 10
noncomputable abbrev f_Bpdu_init : Nat := 11
noncomputable abbrev f_with_cost : Nat := 12
noncomputable abbrev f_is_from_same : Nat := 13
noncomputable abbrev f_is_same_or_better_source : Nat := 14
noncomputable abbrev f_heard_kind : Nat := 15
noncomputable abbrev f_is_better_or_same : Nat := 16
noncomputable abbrev f_record_proposal : Nat := 17
noncomputable abbrev f_record_answer : Nat := 18
noncomputable abbrev f_record_dispute : Nat := 19
noncomputable abbrev f_record_change : Nat := 20
noncomputable abbrev f_hold_on : Nat := 21
noncomputable abbrev f_take_superior : Nat := 22
noncomputable abbrev f_take_told : Nat := 23
noncomputable abbrev f_age_out : Nat := 24
noncomputable abbrev f_as_taken : Nat := 25
noncomputable abbrev f_is_passed_by : Nat := 26
noncomputable abbrev f_disable_info : Nat := 27
noncomputable abbrev f_take_own : Nat := 28
noncomputable abbrev f_move_info : Nat := 29
noncomputable abbrev f_are_all_synced : Nat := 30
noncomputable abbrev f_is_re_rooted : Nat := 31
noncomputable abbrev f_sync_all : Nat := 32
noncomputable abbrev f_re_root_all : Nat := 33
noncomputable abbrev f_agree_now : Nat := 34
noncomputable abbrev f_answer_proposal : Nat := 35
noncomputable abbrev f_rest_blocked : Nat := 36
noncomputable abbrev f_move_blocked : Nat := 37
noncomputable abbrev f_move_root : Nat := 38
noncomputable abbrev f_is_out_of_step : Nat := 39
noncomputable abbrev f_has_to_discard : Nat := 40
noncomputable abbrev f_may_go_on : Nat := 41
noncomputable abbrev f_move_designated : Nat := 42
noncomputable abbrev f_begin_role : Nat := 43
noncomputable abbrev f_move_role : Nat := 44
noncomputable abbrev f_move_state : Nat := 45
noncomputable abbrev f_PortRow_init : Nat := 46
noncomputable abbrev f_PortRow_port_id : Nat := 47
noncomputable abbrev f_PortTimers_init : Nat := 48
noncomputable abbrev f_ChangeWords_init : Nat := 49
noncomputable abbrev f_ChangeWords_has_heard : Nat := 50
noncomputable abbrev f_ChangeWords_forget : Nat := 51
noncomputable abbrev f_RapidPort_init : Nat := 52
noncomputable abbrev f_RapidPort_is_settled : Nat := 53
noncomputable abbrev f_RapidPort_choose_anew : Nat := 54
noncomputable abbrev f_RapidPort_waits_long : Nat := 55
noncomputable abbrev f_root_paths : Nat := 56
noncomputable abbrev f_choose_root : Nat := 57
noncomputable abbrev f_choose_role : Nat := 58
noncomputable abbrev f_move_roles : Nat := 59
noncomputable abbrev f_check_anew : Nat := 60
noncomputable abbrev f_sense_on : Nat := 61
noncomputable abbrev f_move_migration : Nat := 62
noncomputable abbrev f_rapid_bpdu : Nat := 63
noncomputable abbrev f_send_now : Nat := 64
noncomputable abbrev f_move_send : Nat := 65
noncomputable abbrev f_RapidBridge_init : Nat := 66
noncomputable abbrev f_RapidBridge_all_ports : Nat := 67
noncomputable abbrev f_RapidBridge_port : Nat := 68
noncomputable abbrev f_RapidBridge_link_up : Nat := 69
noncomputable abbrev f_RapidBridge_receive : Nat := 70
noncomputable abbrev f_RapidBridge_go_on : Nat := 71
noncomputable abbrev f_RapidBridge_one_turn : Nat := 72
noncomputable abbrev f_RapidBridge_role : Nat := 73
noncomputable abbrev f_RapidBridge_root : Nat := 74
noncomputable abbrev f_RapidBridge_root_port : Nat := 75
noncomputable abbrev f__law_pool : Nat := 76
noncomputable abbrev f__law_take : Nat := 77
noncomputable abbrev f__law_one : Nat := 78
noncomputable abbrev f__law_costs : Nat := 79
noncomputable abbrev f__law_vector : Nat := 80
noncomputable abbrev f__law_best : Nat := 81
noncomputable abbrev f__law_mine : Nat := 82
noncomputable abbrev f__law_taken : Nat := 83
noncomputable abbrev f__law_role : Nat := 84
noncomputable abbrev f__law_right : Nat := 85
noncomputable abbrev f_law : Nat := 86
end Mine
namespace Mine
open PySem

noncomputable def br {R : Type} (c : Bool) (t f : R) : R := match c with
  | true => t
  | false => f
noncomputable abbrev KCalls (R : Type) := Nat → List AV → Sto → (AV → Sto → R) → R

mutual
noncomputable def vordOk : AV → AV → Bool
  | .int _, .int _ => true
  | .tup l, .tup m => vordsOk l m
  | _, _ => false
noncomputable def vordsOk : List AV → List AV → Bool
  | [], [] => true
  | v :: r, w :: s => vordOk v w && vordsOk r s
  | _, _ => false
end
noncomputable def icmpB : Op → Int → Int → Bool
  | .lt, a, b => decide (a < b)
  | .le, a, b => decide (a ≤ b)
  | .gt, a, b => decide (a > b)
  | .ge, a, b => decide (a ≥ b)
  | _, _, _ => false
noncomputable def zcmpB : Op → Bool
  | .le => true
  | .ge => true
  | _ => false
mutual
noncomputable def vordB (o : Op) : AV → AV → Bool
  | .int a, .int b => icmpB o a b
  | .tup l, .tup m => vordsB o l m
  | _, _ => false
noncomputable def vordsB (o : Op) : List AV → List AV → Bool
  | [], [] => zcmpB o
  | v :: r, w :: s => match veq v w with
    | true => vordsB o r s
    | false => vordB o v w
  | _, _ => false
end
noncomputable def isNone : AV → Bool
  | .none => true
  | _ => false
noncomputable def flB (b c : Bool) : Bool := match b with
  | true => !c
  | false => c
noncomputable def imx (i j : Int) : Int := match decide (i < j) with
  | true => j
  | false => i
noncomputable def imn (i j : Int) : Int := match decide (j < i) with
  | true => j
  | false => i

section
variable {R : Type}
noncomputable def opt {α : Type} (o : Option α) (k : α → R) (z : R) : R := match o with
  | some v => k v
  | .none => z
end

noncomputable abbrev Sm (R : Type) := Loc → Sto → (AV → Sto → R) → R
section
variable {R : Type} (P : Prg) (C : KCalls R) (z : R)
noncomputable def isK (b : Bool) (v w : AV) (σ : Sto) (k : AV → R) : R := match w with
  | .none => k (.bool (flB b (isNone v)))
  | .loc j => asL v (fun i => onC (cell σ i) (fun _ _ => onC (cell σ j) (fun _ _ => k (.bool (flB b (Nat.beq i j)))) (fun _ => z) (fun _ => z) (fun _ => z) z) (fun _ => z) (fun _ => z) (fun _ => z) z) z
  | _ => z
noncomputable def memK (b : Bool) (v : AV) (l : List AV) (k : AV → R) : R := br (v.plain 6 && AV.plains l 6) (k (.bool (flB b (anyEq v l)))) z
noncomputable def inK (b : Bool) (v w : AV) (σ : Sto) (k : AV → R) : R := match w with
  | .tup l => memK z b v l k
  | .loc i => onC (cell σ i) (fun _ _ => z) (fun l => memK z b v l k) (fun l => asI v (fun n => k (.bool (flB b (lookZ n l).isSome))) z) (fun _ => z) z
  | _ => z
noncomputable def ordK (o : Op) (v w : AV) (k : AV → R) : R := br (v.plain 6 && w.plain 6) (br (vordOk v w) (k (.bool (vordB o v w))) z) z
noncomputable def cmpK (o : Op) (v w : AV) (σ : Sto) (k : AV → R) : R := match o with
  | .eq => br (v.plain 6 && w.plain 6) (k (.bool (veq v w))) z
  | .ne => br (v.plain 6 && w.plain 6) (k (.bool (!veq v w))) z
  | .is => isK z false v w σ k
  | .isnot => isK z true v w σ k
  | .inn => inK z false v w σ k
  | .notin => inK z true v w σ k
  | .lt => ordK z .lt v w k
  | .le => ordK z .le v w k
  | o => asI v (fun i => asI w (fun j => k (.bool (icmpB o i j))) z) z
noncomputable def binK (o : Bop) (a b : Int) (k : Int → R) : R := match o with
  | .add => k (a + b)
  | .sub => k (a - b)
  | .mul => br (small a || small b) (k (a * b)) z
  | .fdiv => br (decide (b = 0) || !small b) z (k (a.fdiv b))
  | .mod => br (decide (b = 0)) z (k (a.fmod b))
  | .pow => br (decide (a = 10)) (br (decide (b = 18)) (k 1000000000000000000) z) z
noncomputable def lenC (n : Nat) (k : AV → R) : R := br (Nat.blt n 4611686018427387904) (k (.int n)) z
noncomputable def lenK (v : AV) (σ : Sto) (k : AV → R) : R := match v with
  | .tup l => lenC z l.length k
  | .fl l => lenC z l.length k
  | .loc a => onC (cell σ a) (fun _ _ => z) (fun l => lenC z l.length k) (fun l => lenC z l.length k) (fun _ => z) z
  | _ => z
noncomputable def toiK (v : AV) (k : AV → R) : R := match v with
  | .int i => k (.int i)
  | .bool b => k (.int (match b with | true => 1 | false => 0))
  | _ => z
noncomputable def srtK (v : AV) (σ : Sto) (k : AV → R) : R := asL v (fun a => onC (cell σ a) (fun _ _ => z) (fun _ => z) (fun l => br (incr l && Nat.blt 0 l.length && Nat.blt l.length 64) (k (.fl (keysZ l))) z) (fun _ => z) z) z
noncomputable def allK (f : List Bool → Bool) (v : AV) (k : AV → R) : R := asF v (fun l => opt (bools l) (fun bs => k (.bool (f bs))) z) z
noncomputable def f1K (o : B1) (v : AV) (σ : Sto) (k : AV → R) : R := match o with
  | .len => lenK z v σ k
  | .toi => toiK z v k
  | .srt => srtK z v σ k
  | .anyb => allK z anyB v k
  | .allb => allK z allB v k
  | .rng => asI v (fun i => br (idx i) (k (.rg i)) z) z
noncomputable def f2I (o : B2) (i j : Int) : Int := match o with
  | .mx => imx i j
  | .mn => imn i j
noncomputable def itemsK (v : AV) (σ : Sto) (k : List AV → Option (Nat × Cell) → R) : R := match v with
  | .tup l => k l .none
  | .fl l => k l .none
  | .rg n => br (idx n) (k (upto 0 n.toNat) .none) z
  | .loc a => onC (cell σ a) (fun _ _ => z) (fun l => k l (some (a, .lst l))) (fun l => k (keysZ l) (some (a, .dct l))) (fun _ => z) z
  | _ => z
noncomputable def inst1 (τ : Sto) (k : Nat → List (Nat × AV) → R) (z : R) : R := match τ with
  | [.inst d fs] => k d fs
  | _ => z
noncomputable def makeK (c : Nat) (args : List AV) (σ : Sto) (k : AV → Sto → R) : R :=
  br (P.frozen c)
    (br (AV.frees args)
      (C (P.inix c) (.loc 0 :: args) [.inst c []] fun u τ => asN u (inst1 τ (fun d fs => br (Nat.beq c d) (opt (valsOf (P.fields c) fs) (fun l => br (AV.frees l) (k (.rcd c l) σ) z) z) z) z) z) z)
    (C (P.inix c) (.loc σ.length :: args) (σ ++ [.inst c []]) fun u σ' => asN u (onC (cell σ' σ.length) (fun _ _ => k (.loc σ.length) σ') (fun _ => z) (fun _ => z) (fun _ => z) z) z)
noncomputable def loopLK (f : AV → Sto → (AV → Sto → R) → R) : List AV → Sto → (List AV → Sto → R) → R
  | [], σ, k => k [] σ
  | v :: r, σ, k => f v σ fun w σ' => loopLK f r σ' fun ws σ'' => k (w :: ws) σ''
noncomputable def noneH (h : Option (Nat × Cell)) (k z : R) : R := match h with
  | .none => k
  | some _ => z

noncomputable def evsK : List (Sm R) → Loc → Sto → (List AV → Sto → R) → R
  | [], _, σ, k => k [] σ
  | e :: es, ρ, σ, k => e ρ σ fun v σ₁ => evsK es ρ σ₁ fun l σ₂ => k (v :: l) σ₂
noncomputable def evAndK : List (Sm R) → Sm R
  | [], _, σ, k => k (.bool true) σ
  | e :: es, ρ, σ, k => e ρ σ fun v σ₁ => asB v (fun b => br b (evAndK es ρ σ₁ k) (k (.bool false) σ₁)) z
noncomputable def evOrK : List (Sm R) → Sm R
  | [], _, σ, k => k (.bool false) σ
  | e :: es, ρ, σ, k => e ρ σ fun v σ₁ => asB v (fun b => br b (k (.bool true) σ₁) (evOrK es ρ σ₁ k)) z
noncomputable def kCon (v : AV) : Sm R := fun _ σ k => k v σ
noncomputable def kNam (n : Nat) : Sm R := fun ρ σ k => opt (look n ρ) (fun v => k v σ) z
noncomputable def kGlb (n : Nat) : Sm R := fun _ σ k => opt (look n P.glbs) (fun v => k v σ) z
noncomputable def kNot (e : Sm R) : Sm R := fun ρ σ k => e ρ σ fun v σ' => asB v (fun b => k (.bool (!b)) σ') z
noncomputable def kNeg (e : Sm R) : Sm R := fun ρ σ k => e ρ σ fun v σ' => asI v (fun b => k (.int (-b)) σ') z
noncomputable def kCmp (o : Op) (a b : Sm R) : Sm R := fun ρ σ k => a ρ σ fun v σ₁ => b ρ σ₁ fun w σ₂ => cmpK z o v w σ₂ fun r => k r σ₂
noncomputable def kIte (t a b : Sm R) : Sm R := fun ρ σ k => t ρ σ fun v σ₁ => asB v (fun c => br c (a ρ σ₁ k) (b ρ σ₁ k)) z
noncomputable def kBin (o : Bop) (a b : Sm R) : Sm R := fun ρ σ k => a ρ σ fun v σ₁ => asI v (fun i => b ρ σ₁ fun w σ₂ => asI w (fun j => binK z o i j fun r => k (.int r) σ₂) z) z
noncomputable def kAtt (e : Sm R) (n : Nat) : Sm R := fun ρ σ k => e ρ σ fun v σ₁ => opt (attv P v n σ₁) (fun r => k r σ₁) z
noncomputable def kSub (e i : Sm R) : Sm R := fun ρ σ k => e ρ σ fun v σ₁ => i ρ σ₁ fun w σ₂ => opt (subv v w σ₂) (fun r => k r σ₂) z
noncomputable def kSlc (e : Sm R) (lo : Nat) (hi : Option Nat) : Sm R := fun ρ σ k => e ρ σ fun v σ₁ => asT v (fun l => br (sliceOk lo hi l.length) (k (.tup (sliceV lo hi l)) σ₁) z) z
noncomputable def kTup (es : List (Sm R)) : Sm R := fun ρ σ k => evsK es ρ σ fun l σ₁ => k (.tup l) σ₁
noncomputable def kLst (fz : Bool) (es : List (Sm R)) : Sm R := fun ρ σ k => evsK es ρ σ fun l σ₁ => br fz (k (.fl l) σ₁) (k (.loc σ₁.length) (σ₁ ++ [.lst l]))
noncomputable def kSnk : Sm R := fun _ σ k => k (.loc σ.length) (σ ++ [.sink 1000000])
noncomputable def kDct (fz : Bool) (ks : List Int) (es : List (Sm R)) : Sm R := fun ρ σ k => evsK es ρ σ fun l σ₁ => br fz (k (.fd ks l) σ₁) (k (.loc σ₁.length) (σ₁ ++ [.dct (zipK ks l)]))
noncomputable def kCal (f : Nat) (es : List (Sm R)) : Sm R := fun ρ σ k => evsK es ρ σ fun l σ₁ => C f l σ₁ k
noncomputable def kCls (c : Nat) (es : List (Sm R)) : Sm R := fun ρ σ k => evsK es ρ σ fun l σ₁ => opt (findP c l.length P.dflP) (fun d => makeK P C z c (l ++ d) σ₁ k) z
noncomputable def kClk (c : Nat) (es : List (Sm R)) (kn : Nat) (ke : Sm R) : Sm R := fun ρ σ k => evsK es ρ σ fun l σ₁ => ke ρ σ₁ fun v σ₂ => opt (findK c l.length kn P.dflK) (fun p => makeK P C z c (l ++ setn p.2 p.1 v) σ₂ k) z
noncomputable def kMth (e : Sm R) (n : Nat) (es : List (Sm R)) : Sm R := fun ρ σ k => e ρ σ fun v σ₁ => opt (clsOf v σ₁) (fun c => opt (P.meth c n) (fun f => evsK es ρ σ₁ fun l σ₂ => C f (v :: l) σ₂ k) z) z
noncomputable def kApp (e x : Sm R) : Sm R := fun ρ σ k => e ρ σ fun u σ₁ => asL u (fun a => onC (cell σ₁ a) (fun _ _ => z)
  (fun _ => x ρ σ₁ fun v σ₂ => onC (cell σ₂ a) (fun _ _ => z) (fun l => br (Nat.blt l.length 1000000) (k .none (setc σ₂ a (.lst (l ++ [v])))) z) (fun _ => z) (fun _ => z) z)
  (fun _ => z)
  (fun _ => x ρ σ₁ fun v σ₂ => onC (cell σ₂ a) (fun _ _ => z) (fun _ => z) (fun _ => z) (fun n => match n with
      | 0 => z
      | m + 1 => k .none (setc σ₂ a (.sink m))) z) z) z
noncomputable def kCav (n : Nat) (es : List (Sm R)) : Sm R := fun ρ σ k => opt (look n ρ) (fun v => asFn v (fun f => evsK es ρ σ fun l σ₁ => C f l σ₁ k) z) z
noncomputable def kF1 (o : B1) (e : Sm R) : Sm R := fun ρ σ k => e ρ σ fun v σ₁ => f1K z o v σ₁ fun r => k r σ₁
noncomputable def kF2 (o : B2) (a b : Sm R) : Sm R := fun ρ σ k => a ρ σ fun v σ₁ => asI v (fun i => b ρ σ₁ fun w σ₂ => asI w (fun j => k (.int (f2I o i j)) σ₂) z) z
noncomputable def kLcp (elt : Sm R) (x : Nat) (it : Sm R) : Sm R := fun ρ σ k => it ρ σ fun v σ₁ => itemsK z v σ₁ fun l h => noneH h (br (Nat.blt l.length 1000000) (loopLK (fun u τ k' => elt ((x, u) :: ρ) τ k') l σ₁ fun ws σ₂ => k (.fl ws) σ₂) z) z
noncomputable def kBad : Sm R := fun _ _ _ => z
noncomputable def evK (e : E) : Sm R := E.rec (motive_1 := fun _ => Sm R) (motive_2 := fun _ => List (Sm R))
  kCon (kNam z) (kGlb P z) (fun _ => evAndK z) (fun _ => evOrK z) (fun _ => kNot z) (fun _ => kNeg z) (fun o _ _ => kCmp z o) (fun _ _ _ => kIte z) (fun o _ _ => kBin z o) (fun _ n a => kAtt P z a n) (fun _ _ => kSub z) (fun _ lo hi a => kSlc z a lo hi)
  (fun _ => kTup) (fun fz _ => kLst fz) kSnk (fun fz ks _ => kDct fz ks) (fun f _ _ => kCal C f) (fun c _ _ => kCls P C z c) (fun c _ _ kn _ es ke => kClk P C z c es kn ke) (fun _ n _ a es => kMth P C z a n es) (fun _ _ => kApp z) (fun n _ => kCav C z n)
  (fun o _ => kF1 z o) (fun o _ _ => kF2 z o) (fun _ x _ a b => kLcp z a x b) (kBad z) [] (fun _ _ a l => a :: l) e
noncomputable def evL (e : Es) : List (Sm R) := Es.rec (motive_1 := fun _ => Sm R) (motive_2 := fun _ => List (Sm R))
  kCon (kNam z) (kGlb P z) (fun _ => evAndK z) (fun _ => evOrK z) (fun _ => kNot z) (fun _ => kNeg z) (fun o _ _ => kCmp z o) (fun _ _ _ => kIte z) (fun o _ _ => kBin z o) (fun _ n a => kAtt P z a n) (fun _ _ => kSub z) (fun _ lo hi a => kSlc z a lo hi)
  (fun _ => kTup) (fun fz _ => kLst fz) kSnk (fun fz ks _ => kDct fz ks) (fun f _ _ => kCal C f) (fun c _ _ => kCls P C z c) (fun c _ _ kn _ es ke => kClk P C z c es kn ke) (fun _ n _ a es => kMth P C z a n es) (fun _ _ => kApp z) (fun n _ => kCav C z n)
  (fun o _ => kF1 z o) (fun o _ _ => kF2 z o) (fun _ x _ a b => kLcp z a x b) (kBad z) [] (fun _ _ a l => a :: l) e

noncomputable abbrev Tm (R : Type) := AV → Loc → Sto → (Loc → Sto → R) → R
noncomputable def tNam (n : Nat) : Tm R := fun v ρ σ k => k (put n v ρ) σ
noncomputable def tAtt (e : Sm R) (n : Nat) : Tm R := fun v ρ σ k => e ρ σ fun u σ₁ => asL u (fun a => onC (cell σ₁ a) (fun c fs => br (Nat.blt fs.length 900 && memN n (P.fields c)) (k ρ (setc σ₁ a (.inst c (put n v fs)))) z) (fun _ => z) (fun _ => z) (fun _ => z) z) z
noncomputable def tSub (e i : Sm R) : Tm R := fun v ρ σ k => e ρ σ fun u σ₁ => asL u (fun a => i ρ σ₁ fun w σ₂ => asI w (fun n => onC (cell σ₂ a) (fun _ _ => z)
  (fun l => br (idx n) (br (decide (n < l.length)) (k ρ (setc σ₂ a (.lst (setn l n.toNat v)))) z) z)
  (fun l => br (Nat.blt l.length 1000000) (k ρ (setc σ₂ a (.dct (putZ n v l)))) z) (fun _ => z) z) z) z
noncomputable def asP (v : AV) (k : AV → AV → R) (z : R) : R := match v with
  | .tup [a, b] => k a b
  | _ => z
noncomputable def tTwo (s t : Tm R) : Tm R := fun v ρ σ k => asP v (fun a b => s a ρ σ fun ρ₁ σ₁ => t b ρ₁ σ₁ k) z
noncomputable def asgnK (t : T) : Tm R := T.rec (motive := fun _ => Tm R) tNam (fun e n => tAtt P z (evK P C z e) n) (fun e i => tSub z (evK P C z e) (evK P C z i)) (fun _ _ => tTwo z) t

noncomputable abbrev Xm (R : Type) := Loc → Sto → (Fl → Loc → Sto → R) → R
noncomputable def onF (f : Fl) (nxt cont : R) (ret : AV → R) : R := match f with
  | .nxt => nxt
  | .cont => cont
  | .ret v => ret v
noncomputable def loopFK (f : AV → Loc → Sto → (Fl → Loc → Sto → R) → R) : List AV → Loc → Sto → (Fl → Loc → Sto → R) → R
  | [], ρ, σ, k => k .nxt ρ σ
  | v :: r, ρ, σ, k => f v ρ σ fun fl ρ' σ' => onF fl (loopFK f r ρ' σ' k) (loopFK f r ρ' σ' k) fun w => k (.ret w) ρ' σ'
noncomputable def noVal (v : AV) (k z : R) : R := match v with
  | .none => k
  | .bool _ => k
  | _ => z
noncomputable def xExp (e : Sm R) : Xm R := fun ρ σ k => e ρ σ fun v σ₁ => noVal v (k .nxt ρ σ₁) z
noncomputable def xRet (e : Sm R) : Xm R := fun ρ σ k => e ρ σ fun v σ₁ => k (.ret v) ρ σ₁
noncomputable def xRetn : Xm R := fun ρ σ k => k (.ret .none) ρ σ
noncomputable def xAsg (t : Tm R) (e : Sm R) : Xm R := fun ρ σ k => e ρ σ fun v σ₁ => t v ρ σ₁ fun ρ₁ σ₂ => k .nxt ρ₁ σ₂
noncomputable def xSwp (x y : Nat) (a b : Sm R) : Xm R := fun ρ σ k => a ρ σ fun v σ₁ => b ρ σ₁ fun w σ₂ => k .nxt (put x v (put y w ρ)) σ₂
noncomputable def xIff (t : Sm R) (a b : Xm R) : Xm R := fun ρ σ k => t ρ σ fun v σ₁ => asB v (fun c => br c (a ρ σ₁ k) (b ρ σ₁ k)) z
noncomputable def xFor (t : Tm R) (it : Sm R) (b : Xm R) : Xm R := fun ρ σ k => it ρ σ fun v σ₁ => itemsK z v σ₁ fun l h => loopFK (fun u ρ' τ k' => t u ρ' τ fun ρ₁ τ₁ => b ρ₁ τ₁ k') l ρ (hideC h σ₁) fun f ρ₂ σ₂ => k f ρ₂ (showC h σ₂)
noncomputable def xCont : Xm R := fun ρ σ k => k .cont ρ σ
noncomputable def xBad : Xm R := fun _ _ _ => z
noncomputable def xNil : Xm R := fun ρ σ k => k .nxt ρ σ
noncomputable def xSeq (s ss : Xm R) : Xm R := fun ρ σ k => s ρ σ fun f ρ₁ σ₁ => onF f (ss ρ₁ σ₁ k) (k .cont ρ₁ σ₁) fun v => k (.ret v) ρ₁ σ₁
noncomputable def exK (s : S) : Xm R := S.rec (motive_1 := fun _ => Xm R) (motive_2 := fun _ => Xm R)
  (fun e => xExp z (evK P C z e)) (fun e => xRet (evK P C z e)) xRetn (fun t e => xAsg (asgnK P C z t) (evK P C z e)) (fun x y a b => xSwp x y (evK P C z a) (evK P C z b)) (fun t _ _ a b => xIff z (evK P C z t) a b)
  (fun t it _ b => xFor z (asgnK P C z t) (evK P C z it) b) xCont (xBad z) xNil (fun _ _ => xSeq) s
noncomputable def exsK (s : Ss) : Xm R := Ss.rec (motive_1 := fun _ => Xm R) (motive_2 := fun _ => Xm R)
  (fun e => xExp z (evK P C z e)) (fun e => xRet (evK P C z e)) xRetn (fun t e => xAsg (asgnK P C z t) (evK P C z e)) (fun x y a b => xSwp x y (evK P C z a) (evK P C z b)) (fun t _ _ a b => xIff z (evK P C z t) a b)
  (fun t it _ b => xFor z (asgnK P C z t) (evK P C z it) b) xCont (xBad z) xNil (fun _ _ => xSeq) s
noncomputable def trimK (tr : Bool) (n : Nat) (v : AV) (σ : Sto) (k : AV → Sto → R) : R := br tr (br (v.under n) (br (underS n (keepN n σ)) (k v (keepN n σ)) z) z) (k v σ)
noncomputable def bodyK (fn : Fn) (args : List AV) (σ : Sto) (k : AV → Sto → R) : R := opt (bindp fn.params args) (fun ρ => exsK P C z fn.body ρ σ fun f _ σ' => trimK z fn.trim σ.length (retv f) σ' k) z
noncomputable def stepK : KCalls R := fun f args σ k => opt (fnAt P.fns f) (fun fn => br fn.iso
    (br (AV.frees args) (bodyK P C z fn args [] fun v _ => br v.free (k v σ) z) z)
    (bodyK P C z fn args σ k)) z
noncomputable def runK : Nat → KCalls R
  | 0 => fun _ _ _ _ => z
  | n + 1 => stepK P (runK n) z
end
end Mine
set_option genInjectivity true
namespace Mine.Pl

structure Vec where
  r1 : Int
  r2 : Int
  c : Int
  t1 : Int
  t2 : Int
  q1 : Int
  q2 : Int
  deriving DecidableEq
noncomputable def Vec.av (v : Vec) : AV := .tup [.tup [.int v.r1, .int v.r2], .int v.c, .tup [.int v.t1, .int v.t2], .tup [.int v.q1, .int v.q2]]
noncomputable abbrev kRoot : Nat := 1919905652
noncomputable abbrev kDes : Nat := 474108085730319881495908
noncomputable abbrev kAlt : Nat := 1797149157945373717605
noncomputable abbrev kBak : Nat := 108170419336560
noncomputable abbrev kIna : Nat := 7597116701203330661
noncomputable abbrev kLea : Nat := 7810756272850562663
noncomputable abbrev kAct : Nat := 107079782725221
noncomputable abbrev kRecv : Nat := 8243103980183774564
noncomputable abbrev kMine : Nat := 1835626085
noncomputable def timesA (age : Int) : AV := .rcd 5 [.int age, .int 20, .int 2, .int 15]
structure Po where
  told : AV
  info : Nat
  vec : Vec
  age : Int
  ovec : Vec
  oage : Int
  role : Nat
  chosen : Nat
  sel : Bool
  resel : Bool
  upd : Bool
  prop : Bool
  agree : Bool
  agreed : Bool
  synced : Bool
  rer : Bool
  learn : Bool
  fwd : Bool
  lng : Bool
  fwg : Bool
  new : Bool
  hr : Bool
  tf : Int
  tb : Int
  ti : Int
  tr : Int
  tc : Int
  sent : Int
  cs : Nat
  spr : Bool
inductive P3 where
  | a
  | b
  | c
  deriving DecidableEq
noncomputable def P3.num : P3 → Int
  | .a => 1
  | .b => 2
  | .c => 3
noncomputable def P3.cost : P3 → Int
  | .a => 4
  | .b => 7
  | .c => 4
noncomputable def P3.at : P3 → Nat
  | .a => 2
  | .b => 5
  | .c => 8
noncomputable def P3.l (p : P3) : AV := .loc p.at
noncomputable def bpduA (v : Vec) : AV := .rcd 6 [.int 2, .str 491261028708, v.av, timesA 0, .bool false, .bool false, .bool false, .bool false, .str kDes, .bool false, .bool false, .byt]
noncomputable def portC (p : P3) (u : Po) : Cell :=
  .inst 1 ((fieldsC 1).zip [.rcd 4 [.int p.num, .int 128, .int p.cost, .bool false, .bool true], .loc (p.at + 1), .loc (p.at + 2), .bool true, .bool false, u.told, .str u.info, u.vec.av, timesA u.age, u.ovec.av, timesA u.oage, .str u.role, .str u.chosen, .bool u.sel, .bool u.resel, .bool u.upd,
    .bool u.prop, .bool false, .bool u.agree, .bool u.agreed, .bool false, .bool false, .bool u.synced, .bool u.rer, .bool u.learn, .bool u.fwd, .bool u.lng, .bool u.fwg, .bool u.new, .bool true, .str 7163086685011013223, .bool false, .bool u.hr])
noncomputable def timC (u : Po) : Cell := .inst 2 ((fieldsC 2).zip [.int u.tf, .int 2, .int 3, .int u.tb, .int u.ti, .int u.tr, .int u.tc, .int u.sent])
noncomputable def chgC (u : Po) : Cell := .inst 3 ((fieldsC 3).zip [.str u.cs, .bool false, .bool false, .bool false, .bool u.spr, .bool false])
structure Br where
  rv : Vec
  rage : Int
  rn : Option P3
  a : Po
  b : Po
  c : Po
  bud : Nat
  fl : List AV
noncomputable def Br.get (b : Br) : P3 → Po
  | .a => b.a
  | .b => b.b
  | .c => b.c
noncomputable def Br.set (b : Br) : P3 → Po → Br
  | .a, u => { b with a := u }
  | .b, u => { b with b := u }
  | .c, u => { b with c := u }
noncomputable def ownA : AV := .tup [.int 32768, .int 10]
noncomputable def rnA : Option P3 → AV
  | none => .none
  | some n => .int n.num
noncomputable def brC (b : Br) : Cell := .inst 0 ((fieldsC 0).zip [ownA, timesA 0, .int 6, b.rv.av, timesA b.rage, rnA b.rn, .loc 1, .fl [.loc 2, .loc 5, .loc 8], .loc 11, .loc 12])
noncomputable def enc (b : Br) (rest : Sto) : Sto := brC b :: .dct [(1, .loc 2), (2, .loc 5), (3, .loc 8)] :: portC .a b.a :: timC b.a :: chgC b.a :: portC .b b.b :: timC b.b :: chgC b.b :: portC .c b.c :: timC b.c :: chgC b.c :: .sink b.bud :: .lst b.fl :: rest

end Mine.Pl
namespace Mine.Pl
section
variable {R : Type}
noncomputable def sState (p : P3) (b : Br) (k : Bool → Br → R) : R :=
  let u := b.get p
  let off := k true (b.set p { u with fwg := false, lng := false })
  let s2 : R := br u.fwd (br (!u.fwg) (k true (b.set p { u with fwg := true })) (k false b)) (k false b)
  let s1 : R := br u.learn (br (!u.lng) (k true (b.set p { u with lng := true })) s2) s2
  let q : R := br u.lng (br (!u.learn) off s1) s1
  br u.fwg (br (!u.fwd) off q) q

noncomputable def act (r : Nat) : Bool := anyEq (.str r) [.str kRoot, .str kDes]
noncomputable def Br.oth (b : Br) : P3 → Po × Po
  | .a => (b.b, b.c)
  | .b => (b.a, b.c)
  | .c => (b.a, b.b)
noncomputable def Br.spread (b : Br) : P3 → Br
  | .a => { b with b := { b.b with spr := true }, c := { b.c with spr := true } }
  | .b => { b with a := { b.a with spr := true }, c := { b.c with spr := true } }
  | .c => { b with a := { b.a with spr := true }, b := { b.b with spr := true } }
noncomputable def Br.reroot (b : Br) : Br := { b with a := { b.a with rer := true }, b := { b.b with rer := true }, c := { b.c with rer := true } }
noncomputable def sFlush (z : R) (p : P3) (b : Br) (k : Br → R) : R :=
  br (AV.plains b.fl 6) (br (!anyEq (.int p.num) b.fl) (br (Nat.blt b.fl.length 1000000) (k { b with fl := b.fl ++ [.int p.num] }) z) (k b)) z
noncomputable def sBegin (p : P3) (b : Br) (k : Br → R) : R :=
  let u := b.get p
  br (decide (u.tc > 0)) (k b) (k (b.set p { u with tc := 3, new := true }))
noncomputable def sChange (z : R) (p : P3) (b : Br) (k : Bool → Br → R) : R :=
  let u := b.get p
  let l3 : R := br (!act u.role) (br (!u.learn) (br (!u.lng) (sFlush z p (b.set p { u with cs := kIna, tc := 0 }) fun b' => k true b') (k false b)) (k false b)) (k false b)
  let l2 : R := br u.spr (k true (b.set p { u with spr := false })) l3
  br (Nat.beq u.cs kIna) (br (!u.learn) (k false b) (k true (b.set p { u with cs := kLea, spr := false })))
  (br (Nat.beq u.cs kLea)
    (br (act u.role) (br u.fwd (sBegin p b fun b₁ => let b₂ := b₁.spread p; k true (b₂.set p { b₂.get p with new := true, cs := kAct })) l2) l2)
    (br (!act u.role) (k true (b.set p { u with cs := kLea, spr := false }))
      (br u.spr (sBegin p b fun b₁ => sFlush z p b₁ fun b₂ => k true (b₂.set p { b₂.get p with spr := false })) (k false b))))
noncomputable def sSettled (u : Po) (k : Bool → R) : R := br u.sel (br (!u.upd) (k true) (k false)) (k false)
noncomputable def sChk (o : Po) (f next : R) : R := br o.sel (br (!o.upd) (br (!Nat.beq o.role o.chosen) f (br (!o.synced) (br (!Nat.beq o.role kRoot) f next) next)) f) f
noncomputable def sAnswer (p : P3) (b : Br) (k : Bool → Br → R) : R :=
  let u := b.get p
  br (!u.agree) (sChk (b.oth p).1 (k false b) (sChk (b.oth p).2 (k false b) (k true (b.set p { u with agree := true, new := true })))) (k false b)
noncomputable def sRoot (p : P3) (b : Br) (k : Bool → Br → R) : R := sAnswer p b fun v b' => br v (k true b') (
  let u := b.get p
  let tl : R := br (!decide (u.tr = 15)) (k true (b.set p { u with tr := 15 })) (k false b)
  let f2 : R := br (!u.fwd) (k true (b.set p { u with fwd := true, tf := 0 })) tl
  let fr : R := br (!u.learn) (k true (b.set p { u with learn := true, tf := 2 })) f2
  let tb : R := br (decide (u.tb = 0)) fr tl
  let q : R := br (decide (u.tf = 0)) fr (br (decide ((b.oth p).1.tr = 0)) (br (decide ((b.oth p).2.tr = 0)) tb tl) (br (decide ((b.oth p).2.tr = 0)) tl tl))
  let r : R := br u.rer (br u.fwd (k true (b.set p { u with rer := false })) q) q
  br (!u.fwd) (br (!u.rer) (k true b.reroot) r) r)
noncomputable def sMay (u : Po) (t f : R) : R :=
  let c : R := br (decide (u.tf = 0)) t (br u.agreed t f)
  br u.rer (br (!decide (u.tr = 0)) f c) c
noncomputable def sDes (p : P3) (b : Br) (k : Bool → Br → R) : R :=
  let u := b.get p
  let s6 : R := sMay u (br (!u.fwd) (k true (b.set p { u with fwd := true, tf := 0, agreed := true })) (k false b)) (k false b)
  let s5 : R := sMay u (br (!u.learn) (k true (b.set p { u with learn := true, tf := 2 })) s6) s6
  let s4d : R := br u.rer (br (!decide (u.tr = 0)) (k true (b.set p { u with learn := false, fwd := false, tf := 2 })) s5) s5
  let s4 : R := br (!u.learn) (br (!u.fwd) s5 s4d) s4d
  let s3 : R := br (decide (u.tr = 0)) (br u.rer (k true (b.set p { u with rer := false })) s4) s4
  let s2t : R := k true (b.set p { u with tr := 0, synced := true })
  let s2g : R := br u.agreed s2t s3
  let s2 : R := br u.synced s3 (br (!u.lng) (br (!u.fwg) s2t s2g) s2g)
  br (!u.fwd) (br (!u.agreed) (br (!u.prop) (k true (b.set p { u with prop := true, new := true })) s2) s2) s2
noncomputable def sRest (p : P3) (w : Int) (b : Br) (k : Bool → Br → R) : R :=
  let u := b.get p
  let s : R := k true (b.set p { u with tf := w, tr := 0, synced := true, rer := false })
  br (decide (u.tf = w)) (br u.synced (br (!u.rer) (k false b) s) s) s
noncomputable def sBlocked (p : P3) (b : Br) (k : Bool → Br → R) : R :=
  let u := b.get p
  br u.lng (k false b) (br u.fwg (k false b)
    (br (Nat.beq u.role 7235441138447705444) (sRest p 20 b k)
      (sAnswer p b fun v b' => br v (k true b')
        (br (Nat.beq u.role kBak) (br (!decide (u.tb = 4)) (k true (b.set p { u with tb := 4 })) (sRest p 2 b k)) (sRest p 2 b k)))))
noncomputable def sRole (p : P3) (b : Br) (k : Bool → Br → R) : R :=
  let u := b.get p
  sSettled u fun v => br v
    (br (!Nat.beq u.role u.chosen)
      (br (Nat.beq u.chosen kRoot) (k true (b.set p { u with role := u.chosen, tr := 15 }))
        (br (!Nat.beq u.chosen kDes) (k true (b.set p { u with role := u.chosen, learn := false, fwd := false })) (k true (b.set p { u with role := u.chosen }))))
      (br (Nat.beq u.role kRoot) (sRoot p b k) (br (Nat.beq u.role kDes) (sDes p b k) (sBlocked p b k))))
    (k false b)
inductive Rl where
  | root
  | des
  | alt
  | bak
noncomputable def Rl.n : Rl → Nat
  | .root => kRoot
  | .des => kDes
  | .alt => kAlt
  | .bak => kBak
noncomputable def sSend (z : R) (p : P3) (b : Br) (k : Bool → Br → R) : R :=
  let u := b.get p
  sSettled u fun v => br v
    (br (!u.new) (k false b) (br (decide (u.sent ≥ 6)) (k false b) (match b.bud with
      | 0 => z
      | m + 1 => k true { b.set p { u with new := false, sent := u.sent + 1 } with bud := m })))
    (k false b)
noncomputable def Br.setRole (b : Br) (p : P3) (r : Rl) : Br := b.set p { b.get p with role := r.n }
variable (z : R) (b : Br) (rest : Sto) (p : P3) (n : Nat) (k : AV → Sto → R)
theorem runK_state : runK prg z (n + 4) f_move_state [.loc 0, p.l] (enc b rest) k = sState p b fun v b' => k (.bool v) (enc b' rest) := by
  cases p <;> kernel_rfl
theorem runK_change : runK prg z (n + 6) f_move_change [.loc 0, p.l] (enc b rest) k = sChange z p b fun v b' => k (.bool v) (enc b' rest) := by
  cases p <;> kernel_rfl
theorem runK_migration : runK prg z (n + 4) f_move_migration [.loc 0, p.l] (enc b rest) k = k (.bool false) (enc b rest) := by
  cases p <;> kernel_rfl
theorem runK_send (r : Rl) : runK prg z (n + 6) f_move_send [.loc 0, p.l] (enc (b.setRole p r) rest) k = sSend z p (b.setRole p r) fun v b' => k (.bool v) (enc b' rest) := by
  cases p <;> cases r <;> kernel_rfl
theorem runK_role : runK prg z (n + 8) f_move_role [.loc 0, p.l] (enc b rest) k = sRole p b fun v b' => k (.bool v) (enc b' rest) := by
  cases p <;> kernel_rfl
end
end Mine.Pl
namespace Mine.Pl
section
variable {R : Type}
noncomputable def infoN : Bool → Nat
  | true => kRecv
  | false => kMine
noncomputable abbrev kAged : Nat := 1634166116
noncomputable def Br.setU (b : Br) (p : P3) (told : AV) (recv : Bool) : Br := b.set p { b.get p with told := told, info := infoN recv }
noncomputable def sAge (p : P3) (recv : Bool) (b : Br) (k : Bool → Br → R) : R := match recv with
  | false => k false b
  | true => br (decide ((b.get p).ti > 0)) (k false b) (k true (b.set p { b.get p with info := kAged, resel := true, sel := false }))
noncomputable def sOwn (p : P3) (recv : Bool) (b : Br) (k : Br → R) : R :=
  let u := b.get p
  let go (a s : Bool) : R := k (b.set p { u with prop := false, agreed := a, synced := s, vec := u.ovec, age := u.oage, upd := false, info := kMine, new := true })
  br u.agreed (match recv with
    | true => br u.synced (go false false) (go false false)
    | false => br (vordB .le u.ovec.av u.vec.av) (br u.synced (go true true) (go true false)) (br u.synced (go false false) (go false false)))
    (br u.synced (go false false) (go false false))
noncomputable def sInfo (p : P3) (recv : Bool) (b : Br) (k : Bool → Br → R) : R :=
  let u := b.get p
  let rest : R := br u.upd (k false b) (sAge p recv b k)
  br u.sel (br u.upd (sOwn p recv b fun b' => k true b') rest) rest
noncomputable def Br.tell (b : Br) (p : P3) (v : Vec) (recv : Bool) : Br := b.set p { b.get p with told := bpduA v, info := infoN recv, upd := false, sel := true }
noncomputable def sSup (p : P3) (v : Vec) (recv : Bool) (b : Br) (k : Bool → Br → R) : R :=
  let u := b.get p
  let go (a : Bool) : R := k true (b.set p { u with told := .none, info := kRecv, agreed := false, prop := false, agree := a, vec := v, age := 0, ti := 6, resel := true, sel := false, upd := false })
  br u.agree (match recv with
    | true => br (vordB .le v.av u.vec.av) (go true) (go false)
    | false => go false) (go false)
noncomputable def sRep (p : P3) (v : Vec) (recv : Bool) (b : Br) (k : Bool → Br → R) : R :=
  let u := b.get p
  let go (i : Int) : Br := b.set p { u with told := .none, info := infoN recv, ti := i, upd := false, sel := true }
  br (decide (u.age + 1 ≤ 20)) (k true (go 6)) (sAge p recv (go 0) fun _ b' => k true b')
noncomputable def sInf (p : P3) (v : Vec) (recv : Bool) (b : Br) (k : Bool → Br → R) : R :=
  let u := b.get p
  let go : Br := b.set p { u with told := .none, info := infoN recv, upd := false, sel := true }
  sAge p recv go fun _ b' => k true b'
noncomputable def sTold (p : P3) (v : Vec) (recv : Bool) (b : Br) (k : Bool → Br → R) : R :=
  let u := b.get p
  br (veq v.av u.vec.av) (br (veq (.tup [.int 0, .int 20, .int 2, .int 15]) (.tup [.int u.age, .int 20, .int 2, .int 15])) (sRep p v recv b k) (sSup p v recv b k))
    (br (vordB .lt v.av u.vec.av) (sSup p v recv b k)
      (br (!veq v.av u.vec.av) (br (veq (.int v.t2) (.int u.vec.t2)) (br (veq (.int v.q2) (.int u.vec.q2)) (sSup p v recv b k) (sInf p v recv b k)) (sInf p v recv b k)) (sInf p v recv b k)))
noncomputable def costed (p : P3) (v : Vec) : Vec := { v with c := imn (v.c + p.cost) 4294967295 }
noncomputable def keyA (v : Vec) : Option P3 → AV
  | none => .tup [v.av, .tup [.int 0, .int 0]]
  | some p => .tup [v.av, .tup [.int 128, .int p.num]]
noncomputable def ownV : Vec := ⟨32768, 10, 0, 32768, 10, 0, 0⟩
noncomputable def sPick (b : Br) (k : Br → R) : List P3 → Vec → Option P3 → R
  | [], v, n => k { b with rv := v, rn := n, rage := match n with
    | none => 0
    | some p => (b.get p).age + 1 }
  | p :: r, v, n => br (vordB .lt (keyA (costed p (b.get p).vec) (some p)) (keyA v n)) (sPick b k r (costed p (b.get p).vec) (some p)) (sPick b k r v n)
noncomputable def sPath (b : Br) (p : P3) (k : List P3 → R) (l : List P3) : R := br (Nat.beq (b.get p).info kRecv) (br (!veq (.int (b.get p).vec.t2) (.int 10)) (k (l ++ [p])) (k l)) (k l)
noncomputable def sChooseRoot (z : R) (b : Br) (D : Cell) (k : Br → R) : R :=
  sPath b .a (fun l => sPath b .b (fun l => sPath b .c (fun l => sPick b (fun b' => br (underS 14 (enc b' [D])) (k b') z) l ownV none) l) l) []
noncomputable def Br.setRn (b : Br) (p : P3) (recv : Bool) (rn : Option P3) : Br := { b.set p { b.get p with info := infoN recv } with rn := rn }
noncomputable def isRn (p : P3) : Option P3 → Bool
  | none => false
  | some q => decide (p = q)
noncomputable def sChooseRole (p : P3) (recv : Bool) (rn : Option P3) (b : Br) (k : Br → R) : R :=
  let u := b.get p
  let go (c : Nat) (d : Bool) : R := k (b.set p { u with chosen := c, upd := d })
  match recv with
  | false => br (!veq u.vec.av u.ovec.av) (go kDes true) (br (!veq (.tup [.int u.age, .int 20, .int 2, .int 15]) (.tup [.int u.oage, .int 20, .int 2, .int 15])) (go kDes true) (go kDes false))
  | true => match isRn p rn with
    | true => go kRoot false
    | false => br (vordB .lt u.ovec.av u.vec.av) (go kDes true) (br (veq (.int u.vec.t2) (.int 10)) (go kBak false) (go kAlt false))
variable (z : R) (b : Br) (rest : Sto) (p : P3) (n : Nat) (k : AV → Sto → R)
theorem runK_info (recv : Bool) : runK prg z (n + 4) f_move_info [.loc 0, p.l] (enc (b.setU p .none recv) rest) k = sInfo p recv (b.setU p .none recv) fun v b' => k (.bool v) (enc b' rest) := by
  cases p <;> cases recv <;> kernel_rfl
theorem runK_told (recv : Bool) (v : Vec) : runK prg z (n + 6) f_move_info [.loc 0, p.l] (enc (b.tell p v recv) rest) k = sTold p v recv (b.tell p v recv) fun v b' => k (.bool v) (enc b' rest) := by
  cases p <;> cases recv <;> kernel_rfl
theorem runK_chooseRole (recv : Bool) (rn : Option P3) : runK prg z (n + 4) f_choose_role [.loc 0, p.l] (enc (b.setRn p recv rn) rest) k = sChooseRole p recv rn (b.setRn p recv rn) fun b' => k .none (enc b' rest) := by
  cases p <;> cases recv <;> (rcases rn with _ | _ | _ | _) <;> kernel_rfl
theorem runK_chooseRoot (D : Cell) : runK prg z (n + 5) f_choose_root [.loc 0] (enc b [D]) k = sChooseRoot z b D fun b' => k .none (enc b' [D]) := by
  kernel_rfl
end
end Mine.Pl
namespace Mine.Pl
noncomputable def bN (b : Bool) : Nat := match b with
  | true => 1
  | false => 0
theorem bN_le (b : Bool) : bN b ≤ 1 := by cases b <;> decide
noncomputable def D (a' a p q : Nat) : Prop := a' + p ≤ a + q
theorem D.r {a : Nat} : D a a 0 0 := Nat.le_refl _
theorem D.add {a' a p q b' b r s : Nat} (h : D a' a p q) (g : D b' b r s) : D (a' + b') (a + b) (p + r) (q + s) := by
  unfold D at *; omega
theorem D.lt {a' a p q : Nat} (h : D a' a p q) (e : Nat.ble (q + 1) p = true) : a' + 1 ≤ a := by
  have := Nat.le_of_ble_eq_true e
  unfold D at h; omega
theorem D.wk {a' a p q p' q' : Nat} (h : D a' a p q) (e1 : Nat.ble p' p = true) (e2 : Nat.ble q q' = true) : D a' a p' q' := by
  have := Nat.le_of_ble_eq_true e1
  have := Nat.le_of_ble_eq_true e2
  unfold D at *; omega
theorem D.of {a' a n : Nat} (h : a' ≤ n) : D a' a 0 n := Nat.le_trans h (Nat.le_add_left _ _)
noncomputable def w (k : Nat) (b : Bool) : Nat := match b with
  | true => k
  | false => 0
theorem w_le {k : Nat} {b : Bool} : w k b ≤ k := by
  cases b
  · exact Nat.zero_le _
  · exact Nat.le_refl _
theorem w_up {k : Nat} {c' c : Bool} : D (w k c') (w k c) 0 k := .of w_le
theorem w_dn {k : Nat} {c' c : Bool} (h' : c' = false) (h : c = true) : D (w k c') (w k c) k 0 := by subst h' h; exact Nat.le_of_eq (Nat.zero_add k)
theorem w_z {k : Nat} {c' c : Bool} (h' : c' = false) : D (w k c') (w k c) 0 0 := by subst h'; exact Nat.zero_le _
noncomputable def sig (learn fwd lng fwg : Bool) : Nat := match (fwg && !fwd) || (lng && !learn) with
  | true => 1 + bN learn + bN fwd
  | false => bN (learn && !lng) + bN (fwd && !fwg)
theorem sig_le : ∀ a b c d : Bool, sig a b c d ≤ 3 := by decide
theorem sg1 : ∀ l f a b : Bool, b = true → (!f) = true → sig l f false false + 1 ≤ sig l f a b + 0 := by decide
theorem sg2 : ∀ l f a b : Bool, a = true → (!l) = true → sig l f false false + 1 ≤ sig l f a b + 0 := by decide
theorem sg3 : ∀ l f a b : Bool, (b && !f) = false → l = true → (!a) = true → sig l f true b + 1 ≤ sig l f a b + 0 := by decide
theorem sg4 : ∀ l f a b : Bool, (a && !l) = false → f = true → (!b) = true → sig l f a true + 1 ≤ sig l f a b + 0 := by decide
noncomputable def csw (a : Bool) (cs : Nat) : Nat := match a with
  | true => br (Nat.beq cs kIna) 7 (br (Nat.beq cs kLea) 6 0)
  | false => br (Nat.beq cs kIna) 0 (br (Nat.beq cs kLea) 1 2)
theorem csw_le {a : Bool} {cs : Nat} : csw a cs ≤ 7 := by
  unfold csw
  cases a <;> cases Nat.beq cs kIna <;> cases Nat.beq cs kLea <;> decide
theorem cs1 {a : Bool} {cs : Nat} (ha : a = true) (hc : Nat.beq cs kIna = true) : D (csw a kLea) (csw a cs) 1 0 := by
  subst ha
  show 6 + 1 ≤ br (Nat.beq cs kIna) 7 _ + 0
  rw [hc]; exact Nat.le_refl 7
theorem cs2 {a : Bool} {cs : Nat} (ha : a = true) (hc : Nat.beq cs kIna = false) (hd : Nat.beq cs kLea = true) : D (csw a kAct) (csw a cs) 6 0 := by
  subst ha
  show 0 + 6 ≤ br (Nat.beq cs kIna) 7 (br (Nat.beq cs kLea) 6 0) + 0
  rw [hc, hd]; decide
theorem cs3 {a : Bool} {cs : Nat} (ha : (!a) = true) (hc : Nat.beq cs kIna = false) (hd : Nat.beq cs kLea = false) : D (csw a kLea) (csw a cs) 1 0 := by
  cases a
  · show 1 + 1 ≤ br (Nat.beq cs kIna) 0 (br (Nat.beq cs kLea) 1 2) + 0
    rw [hc, hd]; decide
  · cases ha
theorem cs4 {a : Bool} {cs : Nat} (ha : (!a) = true) (hc : Nat.beq cs kIna = false) (hd : Nat.beq cs kLea = true) : D (csw a kIna) (csw a cs) 1 0 := by
  cases a
  · show 0 + 1 ≤ br (Nat.beq cs kIna) 0 (br (Nat.beq cs kLea) 1 2) + 0
    rw [hc, hd]; decide
  · cases ha
noncomputable def roleT (role : Nat) (fwd learn rer : Bool) (tr tf tb : Int) : Nat :=
  br (Nat.beq role kRoot) (w 28 (!fwd && !rer) + w 1 (!decide (tr = 15)))
    (br (Nat.beq role kDes) (w 12 (rer && (learn || fwd))) (w 1 (!decide (tf = 2)) + w 1 (!decide (tb = 4))))
section
variable {role : Nat} {fwd learn rer fwd' learn' rer' : Bool} {tr tf tb tr' tf' tb' : Int} {p q p' q' : Nat}
theorem roleT_le : roleT role fwd learn rer tr tf tb ≤ 29 := by
  unfold roleT
  cases Nat.beq role kRoot
  · cases Nat.beq role kDes
    · exact Nat.le_trans (Nat.add_le_add w_le w_le) (by decide)
    · exact Nat.le_trans w_le (by decide)
  · exact Nat.add_le_add w_le w_le
theorem rt_root (hr : Nat.beq role kRoot = true) (h1 : D (w 28 (!fwd' && !rer')) (w 28 (!fwd && !rer)) p q) (h2 : D (w 1 (!decide (tr' = 15))) (w 1 (!decide (tr = 15))) p' q') :
    D (roleT role fwd' learn' rer' tr' tf' tb') (roleT role fwd learn rer tr tf tb) (p + p') (q + q') := by
  unfold roleT; rw [hr]
  exact h1.add h2
theorem rt_des (h0 : Nat.beq role kRoot = false) (hr : Nat.beq role kDes = true) (h1 : D (w 12 (rer' && (learn' || fwd'))) (w 12 (rer && (learn || fwd))) p q) :
    D (roleT role fwd' learn' rer' tr' tf' tb') (roleT role fwd learn rer tr tf tb) p q := by
  unfold roleT; rw [h0, hr]
  exact h1
theorem rt_blk (h0 : Nat.beq role kRoot = false) (hr : Nat.beq role kDes = false) (h1 : D (w 1 (!decide (tf' = 2))) (w 1 (!decide (tf = 2))) p q) (h2 : D (w 1 (!decide (tb' = 4))) (w 1 (!decide (tb = 4))) p' q') :
    D (roleT role fwd' learn' rer' tr' tf' tb') (roleT role fwd learn rer tr tf tb) (p + p') (q + q') := by
  unfold roleT; rw [h0, hr]
  exact h1.add h2
theorem rt_rer : D (roleT role fwd learn true tr tf tb) (roleT role fwd learn rer tr tf tb) 0 12 := by
  unfold roleT
  cases Nat.beq role kRoot
  · cases Nat.beq role kDes
    · exact Nat.le_add_right _ _
    · exact w_up
  · exact Nat.le_trans (D.add (w_z (k := 28) (c := !fwd && !rer) (Bool.and_false _)) (D.r (a := w 1 (!decide (tr = 15))))) (Nat.le_add_right _ 12)
end
noncomputable def nu (u : Po) : Nat := w 1 u.new + w 2 (!u.agree) + w 2 (!u.prop) + w 1 (!u.synced) + w 1 u.rer + w 4 (!u.learn) + w 4 (!u.fwd) + sig u.learn u.fwd u.lng u.fwg + w 2 u.spr + csw (act u.role) u.cs + roleT u.role u.fwd u.learn u.rer u.tr u.tf u.tb + w 60 (!Nat.beq u.role u.chosen) + w 10 u.upd
theorem nu_le (u : Po) : nu u ≤ 126 :=
  Nat.add_le_add (Nat.add_le_add (Nat.add_le_add (Nat.add_le_add (Nat.add_le_add (Nat.add_le_add (Nat.add_le_add (Nat.add_le_add (Nat.add_le_add (Nat.add_le_add (Nat.add_le_add (Nat.add_le_add w_le w_le) w_le) w_le) w_le) w_le) w_le) (sig_le _ _ _ _)) w_le) csw_le) roleT_le) w_le) w_le
theorem nuD {u' u : Po} {p1 p2 p3 p4 p5 p6 p7 p8 p9 pa pb pc pd q1 q2 q3 q4 q5 q6 q7 q8 q9 qa qb qc qd : Nat}
    (new : D (w 1 u'.new) (w 1 u.new) p1 q1 := by exact D.r) (agree : D (w 2 (!u'.agree)) (w 2 (!u.agree)) p2 q2 := by exact D.r) (prop : D (w 2 (!u'.prop)) (w 2 (!u.prop)) p3 q3 := by exact D.r)
    (synced : D (w 1 (!u'.synced)) (w 1 (!u.synced)) p4 q4 := by exact D.r) (rer : D (w 1 u'.rer) (w 1 u.rer) p5 q5 := by exact D.r) (learn : D (w 4 (!u'.learn)) (w 4 (!u.learn)) p6 q6 := by exact D.r) (fwd : D (w 4 (!u'.fwd)) (w 4 (!u.fwd)) p7 q7 := by exact D.r)
    (sg : D (sig u'.learn u'.fwd u'.lng u'.fwg) (sig u.learn u.fwd u.lng u.fwg) p8 q8 := by exact D.r) (spr : D (w 2 u'.spr) (w 2 u.spr) p9 q9 := by exact D.r) (cs : D (csw (act u'.role) u'.cs) (csw (act u.role) u.cs) pa qa := by exact D.r)
    (rt : D (roleT u'.role u'.fwd u'.learn u'.rer u'.tr u'.tf u'.tb) (roleT u.role u.fwd u.learn u.rer u.tr u.tf u.tb) pb qb := by exact D.r) (ch : D (w 60 (!Nat.beq u'.role u'.chosen)) (w 60 (!Nat.beq u.role u.chosen)) pc qc := by exact D.r)
    (upd : D (w 10 u'.upd) (w 10 u.upd) pd qd := by exact D.r) :
    D (nu u') (nu u) (p1 + p2 + p3 + p4 + p5 + p6 + p7 + p8 + p9 + pa + pb + pc + pd) (q1 + q2 + q3 + q4 + q5 + q6 + q7 + q8 + q9 + qa + qb + qc + qd) :=
  (((((((((((new.add agree).add prop).add synced).add rer).add learn).add fwd).add sg).add spr).add cs).add rt).add ch).add upd
noncomputable def mu (b : Br) : Nat := nu b.a + nu b.b + nu b.c
theorem mu_le (b : Br) : mu b ≤ 378 := Nat.add_le_add (Nat.add_le_add (nu_le _) (nu_le _)) (nu_le _)
noncomputable def upOf (u : Po) := (u.told, u.info, u.vec, u.age, u.ovec, u.oage, u.chosen, u.sel, u.resel, u.upd, u.ti, u.hr)
noncomputable def upB (b : Br) := (b.rv, b.rage, b.rn, upOf b.a, upOf b.b, upOf b.c)
noncomputable def R4 (n : Nat) : Prop := n = kRoot ∨ n = kDes ∨ n = kAlt ∨ n = kBak
structure PInv (u : Po) : Prop where
  role : R4 u.role
  chosen : R4 u.chosen
  off : act u.role = false → u.learn = false ∧ u.fwd = false
noncomputable def LInv (b : Br) : Prop := PInv b.a ∧ PInv b.b ∧ PInv b.c
theorem LInv.get {b : Br} (h : LInv b) (p : P3) : PInv (b.get p) := by
  cases p
  · exact h.1
  · exact h.2.1
  · exact h.2.2
theorem LInv.set {b : Br} (h : LInv b) {p : P3} {u : Po} (hu : PInv u) : LInv (b.set p u) := by
  cases p
  · exact ⟨hu, h.2⟩
  · exact ⟨h.1, hu, h.2.2⟩
  · exact ⟨h.1, h.2.1, hu⟩
structure Post (b : Br) (v : Bool) (b' : Br) : Prop where
  up : upB b' = upB b
  inv : LInv b'
  no : v = false → b' = b
  mu : mu b' + bN v ≤ mu b
  bud : b.bud ≤ b'.bud + bN v
  fl : b'.fl.length ≤ b.fl.length + bN v
  pl : AV.plains b.fl 6 = true → AV.plains b'.fl 6 = true
theorem Post.stay {b : Br} (h : LInv b) : Post b false b := ⟨rfl, h, fun _ => rfl, Nat.le_refl _, Nat.le_refl _, Nat.le_refl _, id⟩
theorem set_up {b : Br} {p : P3} {u : Po} (hu : upOf u = upOf (b.get p)) : upB (b.set p u) = upB b := by
  cases p
  · show (_, _, _, upOf u, _, _) = _; rw [hu]; rfl
  · show (_, _, _, _, upOf u, _) = _; rw [hu]; rfl
  · show (_, _, _, _, _, upOf u) = _; rw [hu]; rfl
theorem set_mu {b : Br} {p : P3} {u : Po} {m n : Nat} (hm : D (nu u) (nu (b.get p)) m n) : D (mu (b.set p u)) (mu b) m n := by
  cases p
  · have hm : nu u + m ≤ nu b.a + n := hm
    show nu u + nu b.b + nu b.c + m ≤ nu b.a + nu b.b + nu b.c + n
    omega
  · have hm : nu u + m ≤ nu b.b + n := hm
    show nu b.a + nu u + nu b.c + m ≤ nu b.a + nu b.b + nu b.c + n
    omega
  · have hm : nu u + m ≤ nu b.c + n := hm
    show nu b.a + nu b.b + nu u + m ≤ nu b.a + nu b.b + nu b.c + n
    omega
theorem set_fl {b : Br} {p : P3} {u : Po} : (b.set p u).fl = b.fl := by cases p <;> rfl
theorem set_bud {b : Br} {p : P3} {u : Po} : (b.set p u).bud = b.bud := by cases p <;> rfl
theorem set_get {b : Br} {p : P3} {u : Po} : (b.set p u).get p = u := by cases p <;> rfl
theorem Post.gen {b b' : Br} (hu : upB b' = upB b) (hi : LInv b') (hm : Mine.Pl.mu b' + 1 ≤ Mine.Pl.mu b) (hb : b.bud ≤ b'.bud + 1) (hf : b'.fl.length ≤ b.fl.length + 1) (hp : AV.plains b.fl 6 = true → AV.plains b'.fl 6 = true) : Post b true b' :=
  ⟨hu, hi, (nomatch ·), hm, hb, hf, hp⟩
theorem Post.own {b : Br} (h : LInv b) (p : P3) (u : Po) (hu : upOf u = upOf (b.get p)) (hi : PInv u) {m n : Nat} (hm : D (nu u) (nu (b.get p)) m n) (e : Nat.ble (n + 1) m = true) : Post b true (b.set p u) :=
  .gen (set_up hu) (h.set hi) ((set_mu hm).lt e) (by rw [set_bud]; exact Nat.le_succ _) (by rw [set_fl]; exact Nat.le_succ _) (by rw [set_fl]; exact id)
theorem br_ok {c : Bool} {t f : Prop} (h1 : c = true → t) (h2 : c = false → f) : br c t f := by
  cases c
  · exact h2 rfl
  · exact h1 rfl
theorem not_t {c : Bool} (h : (!c) = true) : c = false := by cases c <;> first | rfl | cases h
theorem not_f {c : Bool} (h : (!c) = false) : c = true := by cases c <;> first | rfl | cases h
theorem and_ff {c d : Bool} (h : c = false) : (c && d) = false := by subst h; rfl
theorem and_f {c d : Bool} (h : d = false) : (c && d) = false := by subst h; cases c <;> rfl

section
variable {b : Br} {k : Bool → Br → Prop} (hk : ∀ v b', Post b v b' → k v b') (h : LInv b) (p : P3)
include hk h
theorem own_ok {p : P3} (u : Po) (hu : upOf u = upOf (b.get p)) (hr : u.role = (b.get p).role) (hc : u.chosen = (b.get p).chosen) (ho : act (b.get p).role = false → u.learn = (b.get p).learn ∧ u.fwd = (b.get p).fwd) {m n : Nat} (hm : D (nu u) (nu (b.get p)) m n) (e : Nat.ble (n + 1) m = true) : k true (b.set p u) :=
  hk _ _ (.own h p u hu ⟨hr ▸ (h.get p).role, hc ▸ (h.get p).chosen, fun z => by
    rw [hr] at z
    rw [(ho z).1, (ho z).2]; exact (h.get p).off z⟩ hm e)
theorem state_ok : sState p b k := by
  have K := hk _ _ (Post.stay h)
  have s2 : ((b.get p).lng && !(b.get p).learn) = false → br (b.get p).fwd (br (!(b.get p).fwg) (k true (b.set p { b.get p with fwg := true })) (k false b)) (k false b) := fun e2 =>
    br_ok (fun a => br_ok (fun c => own_ok hk h _ rfl rfl rfl (fun _ => ⟨rfl, rfl⟩) (nuD (sg := sg4 _ _ _ _ e2 a c)) rfl) fun _ => K) fun _ => K
  have s1 : ((b.get p).fwg && !(b.get p).fwd) = false → ((b.get p).lng && !(b.get p).learn) = false → br (b.get p).learn (br (!(b.get p).lng) (k true (b.set p { b.get p with lng := true })) _) _ := fun e1 e2 =>
    br_ok (fun a => br_ok (fun c => own_ok hk h _ rfl rfl rfl (fun _ => ⟨rfl, rfl⟩) (nuD (sg := sg3 _ _ _ _ e1 a c)) rfl) fun c => s2 e2) fun a => s2 e2
  have q : ((b.get p).fwg && !(b.get p).fwd) = false → br (b.get p).lng (br (!(b.get p).learn) (k true (b.set p { b.get p with fwg := false, lng := false })) _) _ := fun e1 =>
    br_ok (fun a => br_ok (fun c => own_ok hk h _ rfl rfl rfl (fun _ => ⟨rfl, rfl⟩) (nuD (sg := sg2 _ _ _ _ a c)) rfl) fun c => s1 e1 (and_f c)) fun a => s1 e1 (and_ff a)
  exact br_ok (fun a => br_ok (fun c => own_ok hk h _ rfl rfl rfl (fun _ => ⟨rfl, rfl⟩) (nuD (sg := sg1 _ _ _ _ a c)) rfl) fun c => q (and_f c)) fun a => q (and_ff a)
end
theorem plains_app {l : List AV} {v : AV} {d : Nat} (h : AV.plains l d = true) (hv : v.plain d = true) : AV.plains (l ++ [v]) d = true := by
  induction l with
  | nil =>
    show (v.plain d && AV.plains [] d) = true
    rw [hv]; unfold AV.plains; rfl
  | cons a l ih =>
    have h := Bool.and_eq_true_iff.mp (show (a.plain d && AV.plains l d) = true from h)
    exact Bool.and_eq_true_iff.mpr ⟨h.1, ih h.2⟩
theorem Post.fl1 {b b' : Br} {F : List AV} {x : Int} (q : Post b true b') (hF : F = b.fl ++ [.int x]) : Post b true { b' with fl := F } :=
  ⟨q.up, q.inv, (nomatch ·), q.mu, q.bud, by subst hF; exact Nat.le_of_eq List.length_append, fun z => by subst hF; exact plains_app z rfl⟩
theorem Post.bud1 {b b' : Br} {m : Nat} (q : Post b true b') (hm : b.bud = m + 1) : Post b true { b' with bud := m } :=
  ⟨q.up, q.inv, (nomatch ·), q.mu, Nat.le_of_eq hm, q.fl, q.pl⟩
structure Room (X : Nat) (b : Br) : Prop where
  bud : mu b + X ≤ b.bud
  fl : b.fl.length + mu b + X < 1000000
  pl : AV.plains b.fl 6 = true
theorem Room.post {X : Nat} {b b' : Br} {v : Bool} (r : Room X b) (h : Post b v b') : Room X b' := by
  obtain ⟨r1, r2, r3⟩ := r
  have := h.mu; have := h.bud; have := h.fl
  exact ⟨by omega, by omega, h.pl r3⟩
theorem blt_t {m n : Nat} (h : m < n) : Nat.blt m n = true := Nat.ble_eq_true_of_le h
theorem flush_ok {Q : Br → Prop} {b : Br} {p : P3} (hr : AV.plains b.fl 6 = true) (hl : b.fl.length < 1000000) (h1 : Q { b with fl := b.fl ++ [.int p.num] }) (h2 : Q b) : sFlush False p b Q :=
  br_ok (fun _ => br_ok (fun _ => br_ok (fun _ => h1) fun e => nomatch e.symm.trans (blt_t hl)) fun _ => h2) fun e => nomatch e.symm.trans hr
theorem begin_ok {Q : Br → Prop} {b : Br} {p : P3} (h1 : Q b) (h2 : Q (b.set p { b.get p with tc := 3, new := true })) : sBegin p b Q := br_ok (fun _ => h1) fun _ => h2
theorem pl_set {b : Br} {p : P3} {u : Po} (h : AV.plains b.fl 6 = true) : AV.plains (b.set p u).fl 6 = true := by rw [set_fl]; exact h
theorem lt_set {b : Br} {p : P3} {u : Po} {n : Nat} (h : b.fl.length < n) : (b.set p u).fl.length < n := by rw [set_fl]; exact h
section
variable {k : Bool → Br → Prop} {b : Br} {p : P3} {u : Po} {F : List AV} (f : Po → Po)
theorem set_set (h : k true (b.set p (f u))) : k true ((b.set p u).set p (f ((b.set p u).get p))) := by cases p <;> exact h
theorem fl_set (h : k true { b.set p (f (b.get p)) with fl := F }) : k true (({ b with fl := F } : Br).set p (f (({ b with fl := F } : Br).get p))) := by cases p <;> exact h
theorem fl_set2 (h : k true { b.set p (f u) with fl := F }) : k true (({ b.set p u with fl := F } : Br).set p (f (({ b.set p u with fl := F } : Br).get p))) := by cases p <;> exact h
theorem spr_set (h : k true ((b.spread p).set p (f (b.get p)))) : k true ((b.spread p).set p (f ((b.spread p).get p))) := by cases p <;> exact h
theorem spr_set2 (h : k true ((b.spread p).set p (f u))) : k true (((b.set p u).spread p).set p (f (((b.set p u).spread p).get p))) := by cases p <;> exact h
end
theorem spr_le {o : Po} : D (nu { o with spr := true }) (nu o) 0 2 := (nuD (spr := w_up)).wk rfl rfl
theorem PInv.spr {o : Po} (h : PInv o) : PInv { o with spr := true } := ⟨h.1, h.2, h.3⟩
theorem Post.spread {b : Br} (h : LInv b) {p : P3} {u : Po} (hu : upOf u = upOf (b.get p)) (hi : PInv u) (hm : D (nu u) (nu (b.get p)) 6 1) : Post b true ((b.spread p).set p u) := by
  cases p
  · exact .gen (set_up (b := b) (p := .a) hu) ⟨hi, h.2.1.spr, h.2.2.spr⟩ (((hm.add spr_le).add spr_le).lt rfl) (Nat.le_succ _) (Nat.le_succ _) id
  · exact .gen (set_up (b := b) (p := .b) hu) ⟨h.1.spr, hi, h.2.2.spr⟩ (((spr_le.add hm).add spr_le).lt rfl) (Nat.le_succ _) (Nat.le_succ _) id
  · exact .gen (set_up (b := b) (p := .c) hu) ⟨h.1.spr, h.2.1.spr, hi⟩ (((spr_le.add spr_le).add hm).lt rfl) (Nat.le_succ _) (Nat.le_succ _) id
theorem and_tt {c d : Bool} (h : c = true) (g : d = true) : (c && d) = true := by subst h g; rfl
theorem act_root {r : Nat} (e : Nat.beq r kRoot = true) : act r = true := by rw [Nat.eq_of_beq_eq_true e]; decide
theorem act_des {r : Nat} (e : Nat.beq r kDes = true) : act r = true := by rw [Nat.eq_of_beq_eq_true e]; decide
theorem chk_ok {o : Po} {f n : Prop} (h1 : f) (h2 : n) : sChk o f n :=
  br_ok (fun _ => br_ok (fun _ => br_ok (fun _ => h1) fun _ => br_ok (fun _ => br_ok (fun _ => h1) fun _ => h2) fun _ => h2) fun _ => h1) fun _ => h1
theorem settled_ok {u : Po} {Q : Bool → Prop} (h1 : u.sel = true → u.upd = false → Q true) (h2 : Q false) : sSettled u Q :=
  br_ok (fun a => br_ok (fun c => h1 a (not_t c)) fun _ => h2) fun _ => h2
theorem may_ok {u : Po} {t f : Prop} (h1 : (decide (u.tr = 0) = false → u.rer = false) → t) (h2 : f) : sMay u t f :=
  have c : (decide (u.tr = 0) = false → u.rer = false) → br (decide (u.tf = 0)) t (br u.agreed t f) := fun e => br_ok (fun _ => h1 e) fun _ => br_ok (fun _ => h1 e) fun _ => h2
  br_ok (fun a => br_ok (fun _ => h2) fun d => c fun e => nomatch e.symm.trans (not_f d)) fun a => c fun _ => a
section
variable {b : Br} {p : P3} {Q : Bool → Br → Prop}
theorem answer_ok (h1 : (!(b.get p).agree) = true → Q true (b.set p { b.get p with agree := true, new := true })) (h2 : Q false b) : sAnswer p b Q :=
  br_ok (fun a => chk_ok h2 (chk_ok h2 (h1 a))) fun _ => h2
end
section
variable {b : Br} {k : Bool → Br → Prop} (hk : ∀ v b', Post b v b' → k v b') (h : LInv b) {p : P3}
include hk h
omit hk in
theorem own_post (u : Po) (hu : upOf u = upOf (b.get p)) (hr : u.role = (b.get p).role) (hc : u.chosen = (b.get p).chosen) (hl : u.learn = (b.get p).learn) (hf : u.fwd = (b.get p).fwd) {m n : Nat} (hm : D (nu u) (nu (b.get p)) m n) (e : Nat.ble (n + 1) m = true) : Post b true (b.set p u) :=
  .own h p u hu ⟨hr ▸ (h.get p).role, hc ▸ (h.get p).chosen, fun z => by rw [hl, hf]; rw [hr] at z; exact (h.get p).off z⟩ hm e
theorem change_ok {X : Nat} (r : Room X b) : sChange False p b k := by
  have K := hk _ _ (Post.stay h)
  have hlt : b.fl.length < 1000000 := Nat.lt_of_le_of_lt (Nat.le_trans (Nat.le_add_right _ _) (Nat.le_add_right _ _)) r.fl
  have hpl := r.pl
  have l3 : Nat.beq (b.get p).cs kIna = false → Nat.beq (b.get p).cs kLea = true → br (!act (b.get p).role) (br (!(b.get p).learn) (br (!(b.get p).lng) (sFlush False p (b.set p { b.get p with cs := kIna, tc := 0 }) fun b' => k true b') (k false b)) (k false b)) (k false b) := fun e0 e1 =>
    br_ok (fun a => br_ok (fun _ => br_ok (fun _ =>
      have q := own_post h { b.get p with cs := kIna, tc := 0 } rfl rfl rfl rfl rfl (nuD (cs := cs4 a e0 e1)) rfl
      flush_ok (pl_set hpl) (lt_set hlt) (hk _ _ (q.fl1 (congrArg (· ++ _) set_fl))) (hk _ _ q)) fun _ => K) fun _ => K) fun _ => K
  have l2 : Nat.beq (b.get p).cs kIna = false → Nat.beq (b.get p).cs kLea = true → br (b.get p).spr (k true (b.set p { b.get p with spr := false })) _ := fun e0 e1 =>
    br_ok (fun a => hk _ _ (own_post h _ rfl rfl rfl rfl rfl (nuD (spr := w_dn rfl a)) rfl)) fun _ => l3 e0 e1
  refine br_ok (fun a => br_ok (fun _ => K) fun c => ?_) fun a => br_ok (fun c => br_ok (fun d => br_ok (fun e => ?_) fun _ => l2 a c) fun _ => l2 a c) fun c => br_ok (fun d => ?_) fun d => br_ok (fun e => ?_) fun _ => K
  · refine hk _ _ (own_post h _ rfl rfl rfl rfl rfl (nuD (cs := cs1 ?_ a) (spr := w_z rfl)) rfl)
    cases e : act (b.get p).role with
    | true => rfl
    | false => exact nomatch ((h.get p).off e).1.symm.trans (not_f c)
  · have g : ∀ {u : Po}, upOf u = upOf (b.get p) → u.role = (b.get p).role → u.chosen = (b.get p).chosen → D (nu u) (nu (b.get p)) 6 1 → k true ((b.spread p).set p u) := fun {u} e1 e2 e3 e4 =>
      hk _ _ (.spread h e1 ⟨e2 ▸ (h.get p).role, e3 ▸ (h.get p).chosen, fun z => nomatch (e2 ▸ z : act (b.get p).role = false).symm.trans d⟩ e4)
    have d1 : D (nu { b.get p with new := true, cs := kAct }) (nu (b.get p)) 6 1 := (nuD (u' := { b.get p with new := true, cs := kAct }) (u := b.get p) (new := w_up) (cs := cs2 d a c)).wk rfl rfl
    exact begin_ok (spr_set (fun u => { u with new := true, cs := kAct }) (g rfl rfl rfl d1)) (spr_set2 (fun u => { u with new := true, cs := kAct }) (g (u := { b.get p with tc := 3, new := true, cs := kAct }) rfl rfl rfl d1))
  · exact hk _ _ (own_post h _ rfl rfl rfl rfl rfl (nuD (cs := cs3 d a c) (spr := w_z rfl)) rfl)
  · have q1 := own_post h (p := p) { b.get p with spr := false } rfl rfl rfl rfl rfl (nuD (spr := w_dn rfl e)) rfl
    have q2 := own_post h (p := p) { b.get p with tc := 3, new := true, spr := false } rfl rfl rfl rfl rfl (nuD (new := w_up) (spr := w_dn rfl e)) rfl
    exact begin_ok (flush_ok hpl hlt (fl_set (fun u => { u with spr := false }) (hk _ _ (q1.fl1 rfl))) (hk _ _ q1))
      (flush_ok (pl_set hpl) (lt_set hlt) (fl_set2 (fun u => { u with spr := false }) (hk _ _ (q2.fl1 (congrArg (· ++ _) set_fl)))) (set_set (fun u => { u with spr := false }) (hk _ _ q2)))
theorem send_ok {X : Nat} (r : Room (X + 1) b) : sSend False p b k := by
  have K := hk _ _ (Post.stay h)
  unfold sSend
  refine settled_ok (fun a c => br_ok (fun _ => br_ok (fun _ => K) fun d => br_ok (fun _ => K) fun e => ?_) (nomatch ·)) K
  obtain ⟨m, hm⟩ : ∃ m, b.bud = m + 1 := ⟨b.bud - 1, by have := r.bud; omega⟩
  rw [hm]
  exact hk _ _ ((own_post h { b.get p with new := false, sent := (b.get p).sent + 1 } rfl rfl rfl rfl rfl (nuD (new := w_dn rfl (not_f d))) rfl).bud1 hm)
theorem agree_ok (a : (!(b.get p).agree) = true) : k true (b.set p { b.get p with agree := true, new := true }) :=
  hk _ _ (own_post h _ rfl rfl rfl rfl rfl (nuD (new := w_up) (agree := w_dn rfl a)) rfl)
theorem act_ok (ha : act (b.get p).role = true) (u : Po) (hu : upOf u = upOf (b.get p)) (hr : u.role = (b.get p).role) (hc : u.chosen = (b.get p).chosen) {m n : Nat} (hm : D (nu u) (nu (b.get p)) m n) (e : Nat.ble (n + 1) m = true) : k true (b.set p u) :=
  hk _ _ (.own h p u hu ⟨hr ▸ (h.get p).role, hc ▸ (h.get p).chosen, fun z => nomatch (hr ▸ z : act (b.get p).role = false).symm.trans ha⟩ hm e)
theorem root_ok (hr : Nat.beq (b.get p).role kRoot = true) : sRoot p b k := by
  have K := hk _ _ (Post.stay h)
  have ha := act_root hr
  refine answer_ok (fun a => br_ok (fun _ => agree_ok hk h a) (nomatch ·)) (br_ok (nomatch ·) fun _ => ?_)
  have tl : br (!decide ((b.get p).tr = 15)) (k true (b.set p { b.get p with tr := 15 })) (k false b) :=
    br_ok (fun a => act_ok hk h ha _ rfl rfl rfl (nuD (rt := rt_root hr D.r (w_dn rfl a))) rfl) fun _ => K
  have f2 : br (!(b.get p).fwd) (k true (b.set p { b.get p with fwd := true, tf := 0 })) _ :=
    br_ok (fun a => act_ok hk h ha _ rfl rfl rfl (nuD (fwd := w_dn rfl a) (sg := .of (sig_le _ _ _ _)) (rt := rt_root hr (w_z rfl) D.r)) rfl) fun _ => tl
  have fr : br (!(b.get p).learn) (k true (b.set p { b.get p with learn := true, tf := 2 })) _ :=
    br_ok (fun a => act_ok hk h ha _ rfl rfl rfl (nuD (learn := w_dn rfl a) (sg := .of (sig_le _ _ _ _)) (rt := rt_root hr D.r D.r)) rfl) fun _ => f2
  have tb : br (decide ((b.get p).tb = 0)) _ _ := br_ok (fun _ => fr) fun _ => tl
  have q : br (decide ((b.get p).tf = 0)) _ (br (decide ((b.oth p).1.tr = 0)) (br (decide ((b.oth p).2.tr = 0)) _ _) (br (decide ((b.oth p).2.tr = 0)) _ _)) :=
    br_ok (fun _ => fr) fun _ => br_ok (fun _ => br_ok (fun _ => tb) fun _ => tl) fun _ => br_ok (fun _ => tl) fun _ => tl
  have r : br (b.get p).rer (br (b.get p).fwd (k true (b.set p { b.get p with rer := false })) _) _ :=
    br_ok (fun a => br_ok (fun c => act_ok hk h ha _ rfl rfl rfl (nuD (rer := w_dn rfl a) (rt := rt_root hr (w_z (and_ff (congrArg Bool.not c))) D.r)) rfl) fun _ => q) fun _ => q
  refine br_ok (fun a => br_ok (fun c => ?_) fun _ => r) fun _ => r
  have S : ∀ {o : Po}, D (nu { o with rer := true }) (nu o) 0 13 := (nuD (rer := w_up) (rt := rt_rer)).wk rfl rfl
  have M : D (nu { b.get p with rer := true }) (nu (b.get p)) 28 1 := (nuD (u' := { b.get p with rer := true }) (u := b.get p) (rer := w_up) (rt := rt_root hr (w_dn (Bool.and_false _) (and_tt a c)) D.r)).wk rfl rfl
  have Is : ∀ {o : Po}, PInv o → PInv { o with rer := true } := fun o => ⟨o.1, o.2, o.3⟩
  refine hk _ _ (.gen rfl ⟨Is h.1, Is h.2.1, Is h.2.2⟩ ?_ (Nat.le_succ _) (Nat.le_succ _) id)
  cases p
  · exact ((D.add M S).add S).lt rfl
  · exact ((D.add S M).add S).lt rfl
  · exact ((D.add S S).add M).lt rfl
theorem des_ok (h0 : Nat.beq (b.get p).role kRoot = false) (hr : Nat.beq (b.get p).role kDes = true) : sDes p b k := by
  have K := hk _ _ (Post.stay h)
  have ha := act_des hr
  have nr : (decide ((b.get p).tr = 0) = true → (b.get p).rer = false) → (decide ((b.get p).tr = 0) = false → (b.get p).rer = false) → (b.get p).rer = false := fun e1 e2 => by
    cases e : decide ((b.get p).tr = 0) with
    | true => exact e1 e
    | false => exact e2 e
  have s6 : (decide ((b.get p).tr = 0) = true → (b.get p).rer = false) → sMay (b.get p) (br (!(b.get p).fwd) (k true (b.set p { b.get p with fwd := true, tf := 0, agreed := true })) (k false b)) (k false b) := fun e1 =>
    may_ok (fun e2 => br_ok (fun a => act_ok hk h ha _ rfl rfl rfl (nuD (fwd := w_dn rfl a) (sg := .of (sig_le _ _ _ _)) (rt := rt_des h0 hr (w_z (and_ff (nr e1 e2))))) rfl) fun _ => K) K
  have s5 : (decide ((b.get p).tr = 0) = true → (b.get p).rer = false) → sMay (b.get p) (br (!(b.get p).learn) (k true (b.set p { b.get p with learn := true, tf := 2 })) _) _ := fun e1 =>
    may_ok (fun e2 => br_ok (fun a => act_ok hk h ha _ rfl rfl rfl (nuD (learn := w_dn rfl a) (sg := .of (sig_le _ _ _ _)) (rt := rt_des h0 hr (w_z (and_ff (nr e1 e2))))) rfl) fun _ => s6 e1) (s6 e1)
  have s4d : (decide ((b.get p).tr = 0) = true → (b.get p).rer = false) → ((b.get p).learn || (b.get p).fwd) = true → br (b.get p).rer (br (!decide ((b.get p).tr = 0)) (k true (b.set p { b.get p with learn := false, fwd := false, tf := 2 })) _) _ := fun e1 e2 =>
    br_ok (fun a => br_ok (fun c => act_ok hk h ha _ rfl rfl rfl (nuD (learn := w_up) (fwd := w_up) (sg := .of (sig_le _ _ _ _)) (rt := rt_des h0 hr (w_dn (Bool.and_false _) (and_tt a e2)))) rfl) fun _ => s5 e1) fun _ => s5 e1
  have s4 : (decide ((b.get p).tr = 0) = true → (b.get p).rer = false) → br (!(b.get p).learn) (br (!(b.get p).fwd) _ _) _ := fun e1 =>
    br_ok (fun a => br_ok (fun c => s5 e1) fun c => s4d e1 (by rw [not_f c, Bool.or_true])) fun a => s4d e1 (by rw [not_f a, Bool.true_or])
  have s3 : br (decide ((b.get p).tr = 0)) (br (b.get p).rer (k true (b.set p { b.get p with rer := false })) _) _ :=
    br_ok (fun a => br_ok (fun c => act_ok hk h ha _ rfl rfl rfl (nuD (rer := w_dn rfl c) (rt := rt_des h0 hr (w_z rfl))) rfl) fun c => s4 fun _ => c) fun a => s4 fun e => nomatch a.symm.trans e
  have s2t : (b.get p).synced = false → k true (b.set p { b.get p with tr := 0, synced := true }) := fun a => act_ok hk h ha _ rfl rfl rfl (nuD (synced := w_dn rfl (congrArg Bool.not a)) (rt := rt_des h0 hr D.r)) rfl
  have s2g : (b.get p).synced = false → br (b.get p).agreed _ _ := fun a => br_ok (fun _ => s2t a) fun _ => s3
  have s2 : br (b.get p).synced _ (br (!(b.get p).lng) (br (!(b.get p).fwg) _ _) _) :=
    br_ok (fun _ => s3) fun a => br_ok (fun _ => br_ok (fun _ => s2t a) fun _ => s2g a) fun _ => s2g a
  exact br_ok (fun a => br_ok (fun _ => br_ok (fun c => act_ok hk h ha _ rfl rfl rfl (nuD (new := w_up) (prop := w_dn rfl c)) rfl) fun _ => s2) fun _ => s2) fun _ => s2
theorem blocked_ok (h0 : Nat.beq (b.get p).role kRoot = false) (hr : Nat.beq (b.get p).role kDes = false) : sBlocked p b k := by
  have K := hk _ _ (Post.stay h)
  have nd : Nat.beq (b.get p).role 7235441138447705444 = false := by
    rcases (h.get p).role with e | e | e | e <;> (rw [e]; rfl)
  have rest : sRest p 2 b k :=
    br_ok (fun a => br_ok (fun c => br_ok (fun _ => K) fun d => hk _ _ (own_post h _ rfl rfl rfl rfl rfl (nuD (synced := w_z rfl) (rer := w_dn rfl (not_f d)) (rt := rt_blk h0 hr (w_z rfl) D.r)) rfl))
        fun c => hk _ _ (own_post h _ rfl rfl rfl rfl rfl (nuD (synced := w_dn rfl (congrArg Bool.not c)) (rer := w_z rfl) (rt := rt_blk h0 hr (w_z rfl) D.r)) rfl))
      fun a => hk _ _ (own_post h _ rfl rfl rfl rfl rfl (nuD (synced := w_z rfl) (rer := w_z rfl) (rt := rt_blk h0 hr (w_dn rfl (congrArg Bool.not a)) D.r)) rfl)
  refine br_ok (fun _ => K) fun _ => br_ok (fun _ => K) fun _ => br_ok (fun e => nomatch e.symm.trans nd) fun _ => ?_
  refine answer_ok (fun a => br_ok (fun _ => agree_ok hk h a) (nomatch ·)) (br_ok (nomatch ·) fun _ => ?_)
  exact br_ok (fun a => br_ok (fun c => hk _ _ (own_post h _ rfl rfl rfl rfl rfl (nuD (rt := rt_blk h0 hr D.r (w_dn rfl c))) rfl)) fun _ => rest) fun _ => rest
end
theorem settled2 {u : Po} {Q : Bool → Prop} (h1 : u.sel = true → u.upd = false → Q true) (h2 : (u.sel = true → u.upd = false → False) → Q false) : sSettled u Q :=
  br_ok (fun a => br_ok (fun c => h1 a (not_t c)) fun c => h2 fun _ e => nomatch (not_f c).symm.trans e) fun a => h2 fun e _ => nomatch a.symm.trans e
theorem role_ok {b : Br} {p : P3} {k : Bool → Br → Prop} (hk : ∀ v b', Post b v b' → (v = false → (b.get p).sel = true → (b.get p).upd = false → (b.get p).role = (b.get p).chosen) → k v b') (h : LInv b) : sRole p b k := by
  unfold sRole
  refine settled2 (fun _ _ => br_ok (fun _ => ?_) (nomatch ·)) fun e => br_ok (nomatch ·) fun _ => hk _ _ (.stay h) fun _ e1 e2 => (e e1 e2).elim
  have z : (!Nat.beq (b.get p).chosen (b.get p).chosen) = false := congrArg Bool.not (Nat.beq_refl _)
  have c := (h.get p).chosen
  have hk1 : ∀ b', Post b true b' → k true b' := fun b' q => hk _ _ q (nomatch ·)
  refine br_ok (fun a => br_ok (fun e => ?_) fun _ => br_ok (fun d => ?_) fun d => ?_) fun a => ?_
  · exact hk1 _ (.own h p _ rfl ⟨c, c, fun z => nomatch z.symm.trans (act_root e)⟩ (nuD (cs := .of csw_le) (rt := .of roleT_le) (ch := w_dn z a)) rfl)
  · exact hk1 _ (.own h p _ rfl ⟨c, c, fun _ => ⟨rfl, rfl⟩⟩ (nuD (learn := w_up) (fwd := w_up) (sg := .of (sig_le _ _ _ _)) (cs := .of csw_le) (rt := .of roleT_le) (ch := w_dn z a)) rfl)
  · exact hk1 _ (.own h p _ rfl ⟨c, c, fun z => nomatch z.symm.trans (act_des (not_f d))⟩ (nuD (cs := .of csw_le) (rt := .of roleT_le) (ch := w_dn z a)) rfl)
  · have hk2 : ∀ v b', Post b v b' → k v b' := fun v b' q => hk _ _ q fun _ _ _ => Nat.eq_of_beq_eq_true (not_f a)
    exact br_ok (fun a => root_ok hk2 h a) fun a => br_ok (fun c => des_ok hk2 h a c) fun c => blocked_ok hk2 h a c
end Mine.Pl
namespace Mine.Pl
theorem R4.code {r : Nat} (h : R4 r) : ∃ x : Rl, x.n = r := by
  rcases h with e | e | e | e
  · exact ⟨.root, e.symm⟩
  · exact ⟨.des, e.symm⟩
  · exact ⟨.alt, e.symm⟩
  · exact ⟨.bak, e.symm⟩
theorem setRole_eq {b : Br} {p : P3} {x : Rl} (h : x.n = (b.get p).role) : b.setRole p x = b := by
  unfold Br.setRole
  rw [h]
  cases p <;> rfl
noncomputable def Mach (f n : Nat) : Prop := ∀ {b : Br} {rest : Sto} {X : Nat} {p : P3} {K : AV → Sto → Prop}, LInv b → Room (X + 1) b → (∀ v b', Post b v b' → K (.bool v) (enc b' rest)) → runK prg False (n + 8) f [.loc 0, p.l] (enc b rest) K
section
variable {n : Nat}
theorem mach_role {b : Br} {rest : Sto} {p : P3} {K : AV → Sto → Prop} (h : LInv b) (hK : ∀ v b', Post b v b' → (v = false → (b.get p).sel = true → (b.get p).upd = false → (b.get p).role = (b.get p).chosen) → K (.bool v) (enc b' rest)) : runK prg False (n + 8) 44 [.loc 0, p.l] (enc b rest) K :=
  Eq.mpr (runK_role False b rest p n K) (role_ok hK h)
theorem mach_state : Mach 45 n := fun {b rest X p K} h r hK => Eq.mpr (runK_state False b rest p (n + 4) K) (state_ok hK h p)
theorem mach_change : Mach 7 n := fun {b rest X p K} h r hK => Eq.mpr (runK_change False b rest p (n + 2) K) (change_ok hK h r)
theorem mach_migration : Mach 62 n := fun {b rest X p K} h r hK => Eq.mpr (runK_migration False b rest p (n + 4) K) (hK _ _ (Post.stay h))
theorem mach_send : Mach 65 n := fun {b rest X p K} h r hK => by
  obtain ⟨x, hx⟩ := (h.get p).role.code
  have e := setRole_eq hx
  have := runK_send False b rest p (n + 2) K x
  rw [e] at this
  exact Eq.mpr this (send_ok hK h r)
end

structure Go (b : Br) (v : Bool) (b' : Br) : Prop where
  up : upB b' = upB b
  inv : LInv b'
  no : v = false → b' = b
  mu : Mine.Pl.mu b' + bN v ≤ Mine.Pl.mu b
  bud : b.bud + Mine.Pl.mu b' ≤ b'.bud + Mine.Pl.mu b
  fl : b'.fl.length + Mine.Pl.mu b' ≤ b.fl.length + Mine.Pl.mu b
  pl : AV.plains b.fl 6 = true → AV.plains b'.fl 6 = true
theorem Post.go {b b' : Br} {v : Bool} (h : Post b v b') : Go b v b' := by
  have h1 := h.mu; have h2 := h.bud; have h3 := h.fl
  exact ⟨h.up, h.inv, h.no, h.mu, by omega, by omega, h.pl⟩
theorem Go.stay {b : Br} (h : LInv b) : Go b false b := (Post.stay h).go
theorem bN_or (v w : Bool) : bN (v || w) ≤ bN v + bN w := by cases v <;> cases w <;> decide
theorem Go.trans {b b' b'' : Br} {v w : Bool} (h : Go b v b') (g : Go b' w b'') : Go b (v || w) b'' := by
  have h1 := h.mu; have h2 := h.bud; have h3 := h.fl
  have g1 := g.mu; have g2 := g.bud; have g3 := g.fl
  have := bN_or v w
  refine ⟨g.up.trans h.up, g.inv, fun e => ?_, by omega, by omega, by omega, fun q => g.pl (h.pl q)⟩
  cases v with
  | true => cases e
  | false => rw [g.no e, h.no rfl]
theorem Room.go {X : Nat} {b b' : Br} {v : Bool} (r : Room X b) (h : Go b v b') : Room X b' := by
  obtain ⟨r1, r2, r3⟩ := r
  have := h.mu; have := h.bud; have := h.fl
  exact ⟨by omega, by omega, h.pl r3⟩

theorem look_put_same {n : Nat} {v : AV} : ∀ {ρ : Loc}, look n (put n v ρ) = some v
  | [] => by unfold put look; rw [Nat.beq_refl]
  | (m, w) :: r => by
    unfold put
    cases e : Nat.beq n m with
    | true => simp only [look, e]
    | false => simp only [look, e]; exact look_put_same
theorem look_put_ne {n m : Nat} {v : AV} (h : Nat.beq n m = false) : ∀ {ρ : Loc}, look n (put m v ρ) = look n ρ
  | [] => by simp only [put, look, h]
  | (j, w) :: r => by
    unfold put
    cases e : Nat.beq m j with
    | true =>
      have : j = m := (Nat.eq_of_beq_eq_true e).symm
      subst this
      simp only [look, h]
    | false =>
      simp only [look]
      cases Nat.beq n j with
      | true => rfl
      | false => exact look_put_ne h
noncomputable abbrev kSelf : Nat := 1936026726
noncomputable abbrev kMv : Nat := 7598521919930262884
noncomputable abbrev kPort : Nat := 1886351988
noncomputable abbrev kMach : Nat := 30787852042858085
structure LM (ρ : Loc) (m : Bool) : Prop where
  self : look kSelf ρ = some (.loc 0)
  mv : look kMv ρ = some (.bool m)
theorem LM.put {ρ : Loc} {m : Bool} (h : LM ρ m) {n : Nat} {v : AV} (h1 : Nat.beq kSelf n = false) (h2 : Nat.beq kMv n = false) : LM (Mine.put n v ρ) m :=
  ⟨(look_put_ne h1).trans h.self, (look_put_ne h2).trans h.mv⟩
theorem LM.moved {ρ : Loc} {m : Bool} (h : LM ρ m) : LM (Mine.put kMv (.bool true) ρ) true :=
  ⟨(look_put_ne rfl).trans h.self, look_put_same⟩

section
variable {P : Prg} {C : KCalls Prop} {ρ : Loc} {σ : Sto}
theorem opt_of {α : Type} {o : Option α} {v : α} {k : α → Prop} (h : o = some v) (q : k v) : opt o k False := by subst h; exact q
theorem w_nam {n : Nat} {v : AV} {Q : AV → Sto → Prop} (h : look n ρ = some v) (q : Q v σ) : evK P C False (.nam n) ρ σ Q := opt_of h q
theorem br_of {c b : Bool} {t f : Prop} (h : c = b) (q : match b with | true => t | false => f) : br c t f := by subst h; cases c <;> exact q
noncomputable def portEs : Es := .cons (.nam kSelf) (.cons (.nam kPort) .nil)
noncomputable def setMv : Ss := .cons (.asg (.nam kMv) (.bool true)) .nil
theorem w_portEs {p : P3} {Q : List AV → Sto → Prop} (h1 : look kSelf ρ = some (.loc 0)) (h2 : look kPort ρ = some p.l) (q : Q [.loc 0, p.l] σ) : evsK (evL P C False portEs) ρ σ Q :=
  opt_of h1 (opt_of h2 q)
theorem x_if {e : E} {m : Bool} {k : Fl → Loc → Sto → Prop} (hl : LM ρ m) (he : ∀ Q : AV → Sto → Prop, (∀ v σ', (∀ ρ', LM ρ' (m || v) → (∀ n, Nat.beq n kMv = false → look n ρ' = look n ρ) → k .nxt ρ' σ') → Q (.bool v) σ') → evK P C False e ρ σ Q) :
    exsK P C False (.cons (.iff e setMv .nil) .nil) ρ σ k :=
  he _ fun v σ' q => match v, q with
    | true, q => q _ (by rw [Bool.or_true]; exact hl.moved) fun n h => look_put_ne h
    | false, q => q _ (by rw [Bool.or_false]; exact hl) fun n h => rfl
theorem w_cav {p : P3} {f : Nat} {Q : AV → Sto → Prop} (h1 : look kSelf ρ = some (.loc 0)) (h2 : look kPort ρ = some p.l) (h3 : look kMach ρ = some (.fn f)) (h : C f [.loc 0, p.l] σ Q) : evK P C False (.cav kMach portEs) ρ σ Q :=
  opt_of h3 (w_portEs h1 h2 h : evsK (evL P C False portEs) ρ σ fun l σ₁ => C f l σ₁ Q)
end
noncomputable def machs : List Nat := [44, 45, 7, 62, 65]
noncomputable def inner : Ss := .cons (.iff (.cav kMach portEs) setMv .nil) .nil
theorem LM.or {ρ : Loc} {a b c : Bool} (h : LM ρ (a || b || c)) : LM ρ (a || (b || c)) := Bool.or_assoc a b c ▸ h
noncomputable abbrev loopB (C : KCalls Prop) (t : T) (body : Ss) : List AV → Loc → Sto → (Fl → Loc → Sto → Prop) → Prop := loopFK fun u ρ' τ k' => asgnK prg C False t u ρ' τ fun ρ₁ τ₁ => exsK prg C False body ρ₁ τ₁ k'
section
variable {rest : Sto} {X n : Nat} {p : P3}
theorem inner_step {f : Nat} (M : Mach f n) {b : Br} {ρ : Loc} {m : Bool} {K : Fl → Loc → Sto → Prop} (h : LInv b) (r : Room (X + 1) b) (hl : LM ρ m) (hp : look kPort ρ = some p.l)
    (hK : ∀ ρ' b' v, LM ρ' (m || v) → look kPort ρ' = some p.l → Go b v b' → K .nxt ρ' (enc b' rest)) : exsK prg (runK prg False (n + 8)) False inner (put kMach (.fn f) ρ) (enc b rest) K :=
  have hl2 : LM (put kMach (.fn f) ρ) m := hl.put rfl rfl
  have hp2 : look kPort (put kMach (.fn f) ρ) = some p.l := (look_put_ne rfl).trans hp
  x_if hl2 fun Q q => w_cav hl2.self hp2 look_put_same (M h r fun v b' p => q v _ fun ρ' l1 l2 => hK ρ' b' v l1 ((l2 _ rfl).trans hp2) p.go)
theorem machines {b : Br} {ρ : Loc} {m : Bool} {k : Fl → Loc → Sto → Prop} (h : LInv b) (r : Room (X + 1) b) (hl : LM ρ m) (hp : look kPort ρ = some p.l)
    (hk : ∀ ρ' b' w, LM ρ' (m || w) → look kPort ρ' = some p.l → Go b w b' → (w = false → (b.get p).sel = true → (b.get p).upd = false → (b.get p).role = (b.get p).chosen) → k .nxt ρ' (enc b' rest)) :
    loopB (runK prg False (n + 8)) (.nam kMach) inner (machs.map .fn) ρ (enc b rest) k :=
  have hl2 : LM (put kMach (.fn 44) ρ) m := hl.put rfl rfl
  have hp2 : look kPort (put kMach (.fn 44) ρ) = some p.l := (look_put_ne rfl).trans hp
  x_if hl2 fun Q q => w_cav hl2.self hp2 look_put_same (mach_role h fun v b' po c => q v _ fun ρ' l1 l2 =>
    have g1 := po.go
    inner_step mach_state g1.inv (r.go g1) l1 ((l2 _ rfl).trans hp2) fun ρ2 b2 v2 l2 p2 g2 =>
    inner_step mach_change g2.inv ((r.go g1).go g2) l2 p2 fun ρ3 b3 v3 l3 p3 g3 =>
    inner_step mach_migration g3.inv (((r.go g1).go g2).go g3) l3 p3 fun ρ4 b4 v4 l4 p4 g4 =>
    inner_step mach_send g4.inv ((((r.go g1).go g2).go g3).go g4) l4 p4 fun ρ5 b5 v5 l5 p5 g5 =>
    hk ρ5 b5 (v || (v2 || (v3 || (v4 || v5)))) l5.or.or.or.or p5 (g1.trans (g2.trans (g3.trans (g4.trans g5)))) fun e => c (Bool.or_eq_false_iff.mp e).1)
end
end Mine.Pl
namespace Mine.Pl
structure PT (u : Po) : Prop where
  told : u.told = .none
  info : u.info = kRecv ∨ u.info = kMine
  sel : u.sel = true
  resel : u.resel = false
  ti : u.info = kRecv → 0 < u.ti
noncomputable def fin (u : Po) := (match u.upd with
  | true => (kMine, u.ovec, u.oage)
  | false => (u.info, u.vec, u.age), u.ovec, u.oage, u.chosen)
theorem PT.of {u u' : Po} (h : upOf u' = upOf u) (q : PT u) : PT u' := by
  simp only [upOf, Prod.mk.injEq] at h
  obtain ⟨e1, e2, e3, e4, e5, e6, e7, e8, e9, e10, e11, e12⟩ := h
  exact ⟨e1.trans q.told, e2 ▸ q.info, e8.trans q.sel, e9.trans q.resel, fun e => e11 ▸ q.ti (e2 ▸ e)⟩
theorem fin_of {u u' : Po} (h : upOf u' = upOf u) : fin u' = fin u := by
  simp only [upOf, Prod.mk.injEq] at h
  obtain ⟨e1, e2, e3, e4, e5, e6, e7, e8, e9, e10, e11, e12⟩ := h
  simp only [fin, e2, e3, e4, e5, e6, e7, e10]
theorem upB_get {b b' : Br} (h : upB b' = upB b) (p : P3) : upOf (b'.get p) = upOf (b.get p) := by
  simp only [upB, Prod.mk.injEq] at h
  obtain ⟨_, _, _, h1, h2, h3⟩ := h
  cases p
  · exact h1
  · exact h2
  · exact h3
structure TT (b : Br) (v : Bool) (b' : Br) : Prop where
  rv : b'.rv = b.rv
  rn : b'.rn = b.rn
  rage : b'.rage = b.rage
  fin : ∀ p, Mine.Pl.fin (b'.get p) = Mine.Pl.fin (b.get p)
  pt : (∀ p, PT (b.get p)) → ∀ p, PT (b'.get p)
  inv : LInv b'
  no : v = false → b' = b
  mu : Mine.Pl.mu b' + bN v ≤ Mine.Pl.mu b
  bud : b.bud + Mine.Pl.mu b' ≤ b'.bud + Mine.Pl.mu b
  fl : b'.fl.length + Mine.Pl.mu b' ≤ b.fl.length + Mine.Pl.mu b
  pl : AV.plains b.fl 6 = true → AV.plains b'.fl 6 = true
theorem Go.tt {b b' : Br} {v : Bool} (h : Go b v b') : TT b v b' := by
  have e := h.up
  simp only [upB, Prod.mk.injEq] at e
  exact ⟨e.1, e.2.2.1, e.2.1, fun p => fin_of (upB_get h.up p), fun q p => (q p).of (upB_get h.up p), h.inv, h.no, h.mu, h.bud, h.fl, h.pl⟩
theorem TT.trans {b b' b'' : Br} {v w : Bool} (h : TT b v b') (g : TT b' w b'') : TT b (v || w) b'' := by
  have h1 := h.mu; have h2 := h.bud; have h3 := h.fl
  have g1 := g.mu; have g2 := g.bud; have g3 := g.fl
  have := bN_or v w
  refine ⟨g.rv.trans h.rv, g.rn.trans h.rn, g.rage.trans h.rage, fun p => (g.fin p).trans (h.fin p), fun q => g.pt (h.pt q), g.inv, fun e => ?_, by omega, by omega, by omega, fun q => g.pl (h.pl q)⟩
  cases v with
  | true => cases e
  | false => rw [g.no e, h.no rfl]
theorem TT.stay {b : Br} (h : LInv b) : TT b false b := (Go.stay h).tt
theorem Room.tt {X : Nat} {b b' : Br} {v : Bool} (r : Room X b) (h : TT b v b') : Room X b' := by
  obtain ⟨r1, r2, r3⟩ := r
  have := h.mu; have := h.bud; have := h.fl
  exact ⟨by omega, by omega, h.pl r3⟩
theorem setU_eq {b : Br} {p : P3} {r : Bool} (h : PT (b.get p)) (hr : infoN r = (b.get p).info) : b.setU p .none r = b := by
  unfold Br.setU
  rw [hr, ← h.told]
  cases p <;> rfl
theorem PT.recv {u : Po} (h : PT u) : ∃ r, infoN r = u.info := by
  rcases h.info with e | e
  · exact ⟨true, e.symm⟩
  · exact ⟨false, e.symm⟩
theorem set_rel {R : Po → Po → Prop} {b : Br} {p : P3} {u : Po} (hr : ∀ o, R o o) (hu : R u (b.get p)) (q : P3) : R ((b.set p u).get q) (b.get q) := by
  cases p <;> cases q <;> first | exact hu | exact hr _
theorem TT.own {b : Br} {p : P3} {u : Po} (h : LInv b) (hf : Mine.Pl.fin u = Mine.Pl.fin (b.get p)) (hq : PT u) (hi : PInv u) {m n : Nat} (hm : D (nu u) (nu (b.get p)) m n) (e : Nat.ble (n + 1) m = true) : TT b true (b.set p u) := by
  have hm := (set_mu hm).lt e
  have hb : (b.set p u).bud = b.bud := set_bud
  have hl : (b.set p u).fl = b.fl := set_fl
  refine ⟨by cases p <;> rfl, by cases p <;> rfl, by cases p <;> rfl, set_rel (R := fun x y => Mine.Pl.fin x = Mine.Pl.fin y) (fun _ => rfl) hf, fun t => ?_, h.set hi, (nomatch ·), hm, ?_, ?_, by rw [hl]; exact id⟩
  · exact fun q => set_rel (R := fun x y => PT y → PT x) (fun _ => id) (fun _ => hq) q (t q)
  · rw [hb]; exact Nat.add_le_add_left (Nat.le_of_succ_le hm) _
  · rw [hl]; exact Nat.add_le_add_left (Nat.le_of_succ_le hm) _
theorem info_pt {b : Br} {rest : Sto} {n : Nat} {p : P3} {K : AV → Sto → Prop} (h : LInv b) (hp : PT (b.get p)) (hK : ∀ v b', TT b v b' → (v = false → (b.get p).upd = false) → K (.bool v) (enc b' rest)) : runK prg False (n + 4) 29 [.loc 0, p.l] (enc b rest) K := by
  obtain ⟨r, hr⟩ := hp.recv
  have R := runK_info False b rest p n K r
  rw [setU_eq hp hr] at R
  refine Eq.mpr R ?_
  have own : ∀ a s : Bool, (b.get p).upd = true → K (.bool true) (enc (b.set p { b.get p with prop := false, agreed := a, synced := s, vec := (b.get p).ovec, age := (b.get p).oage, upd := false, info := kMine, new := true }) rest) := fun a s hu =>
    hK _ _ (.own h (by simp only [fin, hu]) ⟨hp.told, .inr rfl, hp.sel, hp.resel, nofun⟩ ⟨(h.get p).role, (h.get p).chosen, (h.get p).off⟩ (nuD (new := w_up) (prop := w_up) (synced := w_up) (upd := w_dn rfl hu)) rfl) nofun
  have stay : (b.get p).upd = false → br (b.get p).upd (K (.bool false) (enc b rest)) (sAge p r b fun v b' => K (.bool v) (enc b' rest)) := fun hu => by
    have K0 := hK false b (TT.stay h) fun _ => hu
    refine br_ok (fun _ => K0) fun _ => ?_
    cases r with
    | false => exact K0
    | true => exact br_ok (fun _ => K0) fun e => absurd (hp.ti hr.symm) (of_decide_eq_false e)
  unfold sInfo
  refine br_ok (fun _ => br_ok (fun hu => ?_) fun hu => stay hu) fun e => nomatch e.symm.trans hp.sel
  unfold sOwn
  refine br_ok (fun _ => ?_) fun _ => br_ok (fun _ => own _ _ hu) fun _ => own _ _ hu
  cases r
  · exact br_ok (fun _ => br_ok (fun _ => own _ _ hu) fun _ => own _ _ hu) fun _ => br_ok (fun _ => own _ _ hu) fun _ => own _ _ hu
  · exact br_ok (fun _ => own _ _ hu) fun _ => own _ _ hu
noncomputable abbrev allPorts : E := .mth (.nam kSelf) 1797146899539918222451 .nil
noncomputable def bodyA : Ss := .cons (.iff (.cal 29 2018726822480268125807 portEs) setMv .nil) .nil
noncomputable def bodyC : Ss := .cons (.for_ (.nam kMach) (.slc (.glb 5566804592153216339) 1 .none) inner) .nil
noncomputable abbrev callB : E := .cal 59 516794066554987312080243 (.cons (.nam kSelf) .nil)
theorem turn_body : b_RapidBridge_one_turn = .cons (.asg (.nam kMv) (.bool false)) (.cons (.for_ (.nam kPort) allPorts bodyA) (.cons (.iff callB setMv .nil) (.cons (.for_ (.nam kPort) allPorts bodyC) (.cons (.ret (.nam kMv)) .nil)))) := rfl
section
variable {rest : Sto} {n X : Nat} {ρ : Loc} {m : Bool} {b : Br}
theorem w_ports {Q : AV → Sto → Prop} (h : look kSelf ρ = some (.loc 0)) (q : Q (.fl [.loc 2, .loc 5, .loc 8]) (enc b rest)) : evK prg (runK prg False (n + 1)) False allPorts ρ (enc b rest) Q := by
  refine opt_of h ?_
  exact Eq.mpr (by kernel_rfl) q
theorem ports_loop {K : Fl → Loc → Sto → Prop} {body : Ss} (h : look kSelf ρ = some (.loc 0)) (q : loopB (runK prg False (n + 1)) (.nam kPort) body [P3.l .a, P3.l .b, P3.l .c] ρ (enc b rest) K) : exK prg (runK prg False (n + 1)) False (.for_ (.nam kPort) allPorts body) ρ (enc b rest) K :=
  w_ports h q
theorem bodyC_eq {C : KCalls Prop} {σ : Sto} {K : Fl → Loc → Sto → Prop} : exsK prg C False bodyC ρ σ K = loopB C (.nam kMach) inner (machs.map .fn) ρ σ fun f ρ₁ σ₁ => onF f (K .nxt ρ₁ σ₁) (K .cont ρ₁ σ₁) fun v => K (.ret v) ρ₁ σ₁ := by kernel_rfl
theorem stepC {K : Fl → Loc → Sto → Prop} (p : P3) (h : LInv b) (r : Room (X + 1) b) (hl : LM ρ m)
    (hK : ∀ ρ' b' w, LM ρ' (m || w) → Go b w b' → (w = false → (b.get p).sel = true → (b.get p).upd = false → (b.get p).role = (b.get p).chosen) → K .nxt ρ' (enc b' rest)) : exsK prg (runK prg False (n + 8)) False bodyC (put kPort p.l ρ) (enc b rest) K :=
  Eq.mpr bodyC_eq (machines h r (hl.put (n := kPort) (v := p.l) rfl rfl) look_put_same fun ρ' b' w l _ g c => hK ρ' b' w l g c)
theorem phaseC {K : Fl → Loc → Sto → Prop} (h : LInv b) (r : Room (X + 1) b) (hl : LM ρ m)
    (hK : ∀ ρ' b' w, LM ρ' (m || w) → Go b w b' → (w = false → ∀ p, (b.get p).sel = true → (b.get p).upd = false → (b.get p).role = (b.get p).chosen) → K .nxt ρ' (enc b' rest)) : exK prg (runK prg False (n + 8)) False (.for_ (.nam kPort) allPorts bodyC) ρ (enc b rest) K :=
  ports_loop hl.self (stepC .a h r hl fun ρ1 b1 w1 l1 g1 c1 => stepC .b g1.inv (r.go g1) l1 fun ρ2 b2 w2 l2 g2 c2 => stepC .c g2.inv ((r.go g1).go g2) l2 fun ρ3 b3 w3 l3 g3 c3 =>
    hK ρ3 b3 (w1 || (w2 || w3)) l3.or.or (g1.trans (g2.trans g3)) fun hw p => by
      obtain ⟨hw1, hw⟩ := Bool.or_eq_false_iff.mp hw
      obtain ⟨hw2, hw3⟩ := Bool.or_eq_false_iff.mp hw
      have eb1 := g1.no hw1
      subst eb1
      have eb2 := g2.no hw2
      subst eb2
      cases p
      · exact c1 hw1
      · exact c2 hw2
      · exact c3 hw3)
theorem w_info {p : P3} {Q : AV → Sto → Prop} (hl : LM ρ m) (hq : look kPort ρ = some p.l) (h : LInv b) (hp : PT (b.get p)) (hQ : ∀ v b', TT b v b' → (v = false → (b.get p).upd = false) → Q (.bool v) (enc b' rest)) : evK prg (runK prg False (n + 4)) False (.cal 29 2018726822480268125807 portEs) ρ (enc b rest) Q :=
  (w_portEs hl.self hq (info_pt h hp hQ) : evsK (evL prg (runK prg False (n + 4)) False portEs) ρ (enc b rest) fun l σ₁ => runK prg False (n + 4) 29 l σ₁ Q)
theorem stepA {K : Fl → Loc → Sto → Prop} (p : P3) (h : LInv b) (hp : ∀ p, PT (b.get p)) (hl : LM ρ m)
    (hK : ∀ ρ' b' w, LM ρ' (m || w) → TT b w b' → (w = false → (b.get p).upd = false) → K .nxt ρ' (enc b' rest)) : exsK prg (runK prg False (n + 8)) False bodyA (put kPort p.l ρ) (enc b rest) K :=
  have hl2 : LM (put kPort p.l ρ) m := hl.put rfl rfl
  x_if hl2 fun Q q => w_info (n := n + 4) hl2 look_put_same h (hp p) fun v b' g c => q v _ fun ρ' l _ => hK ρ' b' v l g c
theorem phaseA {K : Fl → Loc → Sto → Prop} (h : LInv b) (hp : ∀ p, PT (b.get p)) (hl : LM ρ m)
    (hK : ∀ ρ' b' w, LM ρ' (m || w) → TT b w b' → (w = false → ∀ p, (b.get p).upd = false) → K .nxt ρ' (enc b' rest)) : exK prg (runK prg False (n + 8)) False (.for_ (.nam kPort) allPorts bodyA) ρ (enc b rest) K :=
  ports_loop hl.self (stepA .a h hp hl fun ρ1 b1 w1 l1 g1 c1 => stepA .b g1.inv (g1.pt hp) l1 fun ρ2 b2 w2 l2 g2 c2 => stepA .c g2.inv (g2.pt (g1.pt hp)) l2 fun ρ3 b3 w3 l3 g3 c3 =>
    hK ρ3 b3 (w1 || (w2 || w3)) l3.or.or (g1.trans (g2.trans g3)) fun hw p => by
      obtain ⟨hw1, hw⟩ := Bool.or_eq_false_iff.mp hw
      obtain ⟨hw2, hw3⟩ := Bool.or_eq_false_iff.mp hw
      have eb1 := g1.no hw1
      subst eb1
      have eb2 := g2.no hw2
      subst eb2
      cases p
      · exact c1 hw1
      · exact c2 hw2
      · exact c3 hw3)
end
noncomputable def Br.calm (b : Br) : Br := { b with a := { b.a with resel := false }, b := { b.b with resel := false }, c := { b.c with resel := false } }
theorem calm_eq {b : Br} (h : ∀ p, (b.get p).resel = false) : b.calm = b := by
  have h1 : b.a.resel = false := h .a
  have h2 : b.b.resel = false := h .b
  have h3 : b.c.resel = false := h .c
  unfold Br.calm
  rw [← h1]
  rw [show ({ b.b with resel := b.a.resel } : Po) = b.b from by rw [h1, ← h2], show ({ b.c with resel := b.a.resel } : Po) = b.c from by rw [h1, ← h3]]
section
variable {rest : Sto} {n X : Nat} {ρ : Loc} {m : Bool} {b : Br}
theorem x_cons {C : KCalls Prop} {σ : Sto} {s : S} {ss : Ss} {k : Fl → Loc → Sto → Prop} (h : exK prg C False s ρ σ fun f ρ₁ σ₁ => onF f (exsK prg C False ss ρ₁ σ₁ k) (k .cont ρ₁ σ₁) fun v => k (.ret v) ρ₁ σ₁) : exsK prg C False (.cons s ss) ρ σ k := h
theorem x_nxt {x y : Prop} {f : AV → Prop} (h : x) : onF .nxt x y f := h
theorem roles_calm {Q : AV → Sto → Prop} (hp : ∀ p, (b.get p).resel = false) (q : Q (.bool false) (enc b rest)) : runK prg False (n + 8) 59 [.loc 0] (enc b rest) Q := by
  have e : ∀ b : Br, runK prg False (n + 8) 59 [.loc 0] (enc b.calm rest) Q = Q (.bool false) (enc b.calm rest) := fun b => by kernel_rfl
  have := e b
  rw [calm_eq hp] at this
  exact Eq.mpr this q
theorem w_callB {C : KCalls Prop} {σ : Sto} {Q : AV → Sto → Prop} (h : look kSelf ρ = some (.loc 0)) (q : C 59 [.loc 0] σ Q) : evK prg C False callB ρ σ Q := opt_of h q
theorem phaseB {K : Fl → Loc → Sto → Prop} (hp : ∀ p, PT (b.get p)) (hl : LM ρ m) (hK : K .nxt ρ (enc b rest)) : exK prg (runK prg False (n + 8)) False (.iff callB setMv .nil) ρ (enc b rest) K :=
  w_callB hl.self (roles_calm (fun p => (hp p).resel) (hK : (fun u τ => asB u (fun c => br c (exsK prg (runK prg False (n + 8)) False setMv ρ τ K) (K .nxt ρ τ)) False) (.bool false) (enc b rest)))
theorem turn_eq {Q : AV → Sto → Prop} : runK prg False (n + 9) 72 [.loc 0] (enc b rest) Q = exsK prg (runK prg False (n + 8)) False (.cons (.for_ (.nam kPort) allPorts bodyA) (.cons (.iff callB setMv .nil) (.cons (.for_ (.nam kPort) allPorts bodyC) (.cons (.ret (.nam kMv)) .nil)))) [(kSelf, .loc 0), (kMv, .bool false)] (enc b rest) fun f _ σ' => Q (retv f) σ' := by kernel_rfl
theorem turn_pt {Q : AV → Sto → Prop} (h : LInv b) (r : Room (X + 1) b) (hp : ∀ p, PT (b.get p))
    (hQ : ∀ v b', TT b v b' → (v = false → ∀ p, (b.get p).upd = false ∧ (b.get p).role = (b.get p).chosen) → Q (.bool v) (enc b' rest)) : runK prg False (n + 9) 72 [.loc 0] (enc b rest) Q := by
  refine Eq.mpr turn_eq (x_cons (phaseA (n := n) h hp ⟨rfl, rfl⟩ fun ρ1 b1 w1 l1 g1 c1 => ?_))
  refine x_nxt (x_cons (phaseB (n := n) (g1.pt hp) l1 ?_))
  refine x_nxt (x_cons (phaseC (n := n) g1.inv (r.tt g1) l1 fun ρ3 b3 w3 l3 g3 c3 => ?_))
  refine opt_of l3.mv (hQ _ _ (g1.trans g3.tt) fun hv p => ?_)
  obtain ⟨hv1, hv3⟩ := Bool.or_eq_false_iff.mp hv
  have eb := g1.no hv1
  subst eb
  exact ⟨c1 hv1 p, c3 hv3 p (hp p).sel (c1 hv1 p)⟩
end
noncomputable abbrev kTurn : Nat := 1953854062
noncomputable def bodyG : Ss := .cons (.iff (.not (.mth (.nam kSelf) 8029466646298325614 .nil)) (.cons .retn .nil) .nil) .nil
structure Rest (b : Br) : Prop where
  inv : LInv b
  pt : ∀ p, PT (b.get p)
  upd : ∀ p, (b.get p).upd = false
  role : ∀ p, (b.get p).role = (b.get p).chosen
structure Came (b b' : Br) : Prop where
  rv : b'.rv = b.rv
  rn : b'.rn = b.rn
  rage : b'.rage = b.rage
  fin : ∀ p, Mine.Pl.fin (b'.get p) = Mine.Pl.fin (b.get p)
  bud : b.bud + Mine.Pl.mu b' ≤ b'.bud + Mine.Pl.mu b
  fl : b'.fl.length + Mine.Pl.mu b' ≤ b.fl.length + Mine.Pl.mu b
  pl : AV.plains b.fl 6 = true → AV.plains b'.fl 6 = true
section
variable {rest : Sto} {n X : Nat} {ρ : Loc} {b : Br}
theorem x_turn {C : KCalls Prop} {K : Fl → Loc → Sto → Prop} (hl : look kSelf ρ = some (.loc 0)) (q : C 72 [.loc 0] (enc b rest) fun u τ => asB u (fun v => br (!v) (K (.ret .none) ρ τ) (K .nxt ρ τ)) False) : exsK prg C False bodyG ρ (enc b rest) K := by
  refine opt_of hl ?_
  exact Eq.mpr (by kernel_rfl) q
theorem turns : ∀ (l : List AV) {b : Br} {ρ : Loc} {K : Fl → Loc → Sto → Prop}, mu b < l.length → LInv b → Room (X + 1) b → (∀ p, PT (b.get p)) → look kSelf ρ = some (.loc 0) →
    (∀ ρ' b', Came b b' → Rest b' → K (.ret .none) ρ' (enc b' rest)) → loopB (runK prg False (n + 9)) (.nam kTurn) bodyG l ρ (enc b rest) K
  | [], b, ρ, K, hl, _, _, _, _, _ => absurd hl (Nat.not_lt_zero _)
  | u :: l, b, ρ, K, hl, h, r, hp, hs, hK => by
    have hs2 : look kSelf (put kTurn u ρ) = some (.loc 0) := (look_put_ne rfl).trans hs
    refine x_turn hs2 (turn_pt (n := n) h r hp fun v b1 g c => ?_)
    cases v with
    | false =>
      have eb := g.no rfl
      subst eb
      exact hK _ _ ⟨rfl, rfl, rfl, fun _ => rfl, Nat.le_refl _, Nat.le_refl _, id⟩ ⟨g.inv, hp, fun p => (c rfl p).1, fun p => (c rfl p).2⟩
    | true =>
      have m1 := g.mu
      have q1 := g.bud; have q2 := g.fl
      have hb : bN true = 1 := rfl
      exact turns l (b := b1) (ρ := put kTurn u ρ) (by simp only [List.length_cons] at hl; omega) g.inv (r.tt g) (g.pt hp) hs2 fun ρ2 b2 g2 r2 =>
        hK ρ2 b2 ⟨g2.rv.trans g.rv, g2.rn.trans g.rn, g2.rage.trans g.rage, fun p => (g2.fin p).trans (g.fin p), by have q3 := g2.bud; omega, by have q4 := g2.fl; omega, fun q => g2.pl (g.pl q)⟩ r2
end
theorem go_body : b_RapidBridge_go_on = .cons (.for_ (.nam kTurn) (.rng (.bin .add (.glb 365085516491804741094995) (.bin .mul (.int 100) (.len (.att (.nam kSelf) 482906109043))))) bodyG) (.cons .bad .nil) := rfl
theorem upto_len : ∀ (n : Nat) (i : Int), (upto i n).length = n
  | 0, _ => rfl
  | n + 1, i => by unfold upto; rw [List.length_cons, upto_len n]
theorem go_on {b : Br} {rest : Sto} {X n : Nat} {K : AV → Sto → Prop} {S : Br → Prop} (e : ∀ Q : AV → Sto → Prop, (∀ b1, S b1 → Q (.bool true) (enc b1 rest)) → runK prg False (n + 9) 72 [.loc 0] (enc b rest) Q) (h : ∀ b1, S b1 → LInv b1 ∧ Room (X + 1) b1 ∧ ∀ p, PT (b1.get p))
    (hK : ∀ b1 b', S b1 → Came b1 b' → Rest b' → K .none (enc b' rest)) : runK prg False (n + 10) 71 [.loc 0] (enc b rest) K := by
  have E : runK prg False (n + 10) 71 [.loc 0] (enc b rest) K = loopB (runK prg False (n + 9)) (.nam kTurn) bodyG (.int 0 :: upto 1 699) [(kSelf, .loc 0)] (enc b rest) fun f ρ σ => onF f (exsK prg (runK prg False (n + 9)) False (.cons .bad .nil) ρ σ fun f _ σ => K (retv f) σ) (K .none σ) fun v => K v σ := by kernel_rfl
  refine Eq.mpr E (x_turn (ρ := put kTurn (.int 0) [(kSelf, .loc 0)]) rfl (e _ fun b1 s => ?_))
  obtain ⟨h1, r1, p1⟩ := h b1 s
  exact turns (n := n) (X := X) (upto 1 699) (b := b1) (ρ := put kTurn (.int 0) [(kSelf, .loc 0)]) (by rw [upto_len]; exact Nat.lt_of_le_of_lt (mu_le b1) (by decide)) h1 r1 p1 rfl fun ρ' b' g r => hK b1 b' s g r
end Mine.Pl
namespace Mine.Pl
noncomputable def lt (v w : Vec) : Bool := vordB .lt v.av w.av
noncomputable def lex : List Int → List Int → Bool
  | [], [] => false
  | a :: r, b :: s => match decide (a = b) with
    | true => lex r s
    | false => decide (a < b)
  | _, _ => false
theorem lex_trans : ∀ {x y z : List Int}, x.length = y.length → y.length = z.length → lex x y = true → lex y z = true → lex x z = true
  | [], [], [], _, _, h, _ => by cases h
  | a :: x, b :: y, c :: z, h1, h2, h3, h4 => by
    have k1 : x.length = y.length := Nat.succ.inj h1
    have k2 : y.length = z.length := Nat.succ.inj h2
    unfold lex at h3 h4 ⊢
    by_cases e1 : a = b
    · subst e1
      simp only [decide_true] at h3
      by_cases e2 : a = c
      · subst e2
        simp only [decide_true] at h4 ⊢
        exact lex_trans k1 k2 h3 h4
      · simp only [e2, decide_false] at h4 ⊢
        exact h4
    · simp only [e1, decide_false, decide_eq_true_eq] at h3
      by_cases e2 : b = c
      · subst e2
        simp only [e1, decide_false, decide_eq_true_eq]
        exact h3
      · simp only [e2, decide_false, decide_eq_true_eq] at h4
        have : ¬ a = c := by omega
        simp only [this, decide_false, decide_eq_true_eq]
        omega
  | [], [], _ :: _, _, h, _, _ => by cases h
  | [], _ :: _, _, h, _, _, _ => by cases h
  | _ :: _, [], _, h, _, _, _ => by cases h
  | _ :: _, _ :: _, [], _, h, _, _ => by cases h
theorem lex_comp : ∀ {x y z : List Int}, x.length = y.length → y.length = z.length → lex x z = true → lex y z = false → lex x y = true
  | [], [], [], _, _, h, _ => by cases h
  | a :: x, b :: y, c :: z, h1, h2, h3, h4 => by
    have k1 : x.length = y.length := Nat.succ.inj h1
    have k2 : y.length = z.length := Nat.succ.inj h2
    unfold lex at h3 h4 ⊢
    by_cases e1 : a = c
    · subst e1
      simp only [decide_true] at h3
      by_cases e2 : b = a
      · subst e2
        simp only [decide_true] at h4 ⊢
        exact lex_comp k1 k2 h3 h4
      · simp only [e2, decide_false, decide_eq_false_iff_not] at h4
        have : ¬ a = b := fun z => e2 z.symm
        simp only [this, decide_false, decide_eq_true_eq]
        omega
    · simp only [e1, decide_false, decide_eq_true_eq] at h3
      by_cases e2 : b = c
      · subst e2
        simp only [e1, decide_false, decide_eq_true_eq]
        exact h3
      · simp only [e2, decide_false, decide_eq_false_iff_not] at h4
        have : ¬ a = b := by omega
        simp only [this, decide_false, decide_eq_true_eq]
        omega
  | [], [], _ :: _, _, h, _, _ => by cases h
  | [], _ :: _, _, h, _, _, _ => by cases h
  | _ :: _, [], _, h, _, _, _ => by cases h
  | _ :: _, _ :: _, [], _, h, _, _ => by cases h
noncomputable def keyL (v : Vec) : Option P3 → List Int
  | none => [v.r1, v.r2, v.c, v.t1, v.t2, v.q1, v.q2, 0, 0]
  | some p => [v.r1, v.r2, v.c, v.t1, v.t2, v.q1, v.q2, 128, p.num]
theorem keyL_len (v : Vec) (n : Option P3) : (keyL v n).length = 9 := by cases n <;> rfl
noncomputable def pairA (v : Vec) (x y : Int) : AV := .tup [v.av, .tup [.int x, .int y]]
theorem pair_lt (v w : Vec) (x y x' y' : Int) : vordB .lt (pairA v x y) (pairA w x' y') = lex [v.r1, v.r2, v.c, v.t1, v.t2, v.q1, v.q2, x, y] [w.r1, w.r2, w.c, w.t1, w.t2, w.q1, w.q2, x', y'] := by
  unfold pairA Vec.av
  simp only [vordB, vordsB, veq, veqs, icmpB, zcmpB, lex]
  generalize v.r1 = a1, v.r2 = a2, v.c = a3, v.t1 = a4, v.t2 = a5, v.q1 = a6, v.q2 = a7, w.r1 = b1, w.r2 = b2, w.c = b3, w.t1 = b4, w.t2 = b5, w.q1 = b6, w.q2 = b7
  by_cases h1 : a1 = b1 <;> simp only [h1, decide_true, decide_false]
  by_cases h2 : a2 = b2 <;> simp only [h2, decide_true, decide_false]
  by_cases h3 : a3 = b3 <;> simp only [h3, decide_true, decide_false]
  by_cases h4 : a4 = b4 <;> simp only [h4, decide_true, decide_false]
  by_cases h5 : a5 = b5 <;> simp only [h5, decide_true, decide_false]
  by_cases h6 : a6 = b6 <;> simp only [h6, decide_true, decide_false]
  by_cases h7 : a7 = b7 <;> simp only [h7, decide_true, decide_false]
  by_cases h8 : x = x' <;> simp only [h8, decide_true, decide_false]
  by_cases h9 : y = y' <;> simp only [h9, decide_true, decide_false]
theorem key_lt (v w : Vec) (n m : Option P3) : vordB .lt (keyA v n) (keyA w m) = lex (keyL v n) (keyL w m) := by
  cases n <;> cases m <;> exact pair_lt _ _ _ _ _ _
theorem veq_vec {v w : Vec} : veq v.av w.av = decide (v = w) := by
  obtain ⟨a1, a2, a3, a4, a5, a6, a7⟩ := v
  obtain ⟨b1, b2, b3, b4, b5, b6, b7⟩ := w
  unfold Vec.av
  simp only [veq, veqs, Vec.mk.injEq]
  by_cases h1 : a1 = b1 <;> simp only [h1, decide_true, decide_false, true_and, false_and]
  by_cases h2 : a2 = b2 <;> simp only [h2, decide_true, decide_false, true_and, false_and]
  by_cases h3 : a3 = b3 <;> simp only [h3, decide_true, decide_false, true_and, false_and]
  by_cases h4 : a4 = b4 <;> simp only [h4, decide_true, decide_false, true_and, false_and]
  by_cases h5 : a5 = b5 <;> simp only [h5, decide_true, decide_false, true_and, false_and]
  by_cases h6 : a6 = b6 <;> simp only [h6, decide_true, decide_false, true_and, false_and]
  by_cases h7 : a7 = b7 <;> simp only [h7, decide_true, decide_false, true_and, false_and]

noncomputable abbrev Held := P3 → Option Vec
noncomputable def costL (p : P3) (v : Vec) : Vec := { v with c := v.c + p.cost }
noncomputable abbrev Best := Vec × Option P3
noncomputable def less (x y : Best) : Bool := lex (keyL x.1 x.2) (keyL y.1 y.2)
noncomputable def cand (h : Held) (p : P3) : Option Vec := match h p with
  | none => none
  | some v => match decide (v.t2 = 10) with
    | true => none
    | false => some v
noncomputable def pick (p : P3) (c : Option Vec) (m : Best) : Best := match c with
  | none => m
  | some v => match less (costL p v, some p) m with
    | true => (costL p v, some p)
    | false => m
noncomputable def bestOf (h : Held) : Best := pick .c (cand h .c) (pick .b (cand h .b) (pick .a (cand h .a) (ownV, none)))
noncomputable def Held.put (h : Held) (p : P3) (v : Option Vec) : Held := fun q => match decide (q = p) with
  | true => v
  | false => h q
theorem less_trans {x y z : Best} (h1 : less x y = true) (h2 : less y z = true) : less x z = true := lex_trans ((keyL_len _ _).trans (keyL_len _ _).symm) ((keyL_len _ _).trans (keyL_len _ _).symm) h1 h2
theorem less_comp {x y z : Best} (h1 : less x z = true) (h2 : less y z = false) : less x y = true := lex_comp ((keyL_len _ _).trans (keyL_len _ _).symm) ((keyL_len _ _).trans (keyL_len _ _).symm) h1 h2
theorem best_rem {h : Held} {q : P3} (hq : (bestOf h).2 ≠ some q) : bestOf (h.put q none) = bestOf h := by
  have cn : cand (h.put q none) q = none := by unfold cand Held.put; simp only [decide_true]
  have co : ∀ p, p ≠ q → cand (h.put q none) p = cand h p := fun p e => by unfold cand Held.put; simp only [e, decide_false]
  unfold bestOf at hq ⊢
  generalize hm0 : ((ownV, none) : Best) = m0 at hq ⊢
  have hn : m0.2 = none := by rw [← hm0]
  cases q with
  | c =>
    rw [cn, co .a (by decide), co .b (by decide)]
    generalize pick .b (cand h .b) (pick .a (cand h .a) m0) = m2 at hq ⊢
    cases e : cand h .c with
    | none => rfl
    | some v =>
      rw [e] at hq
      show m2 = pick .c (some v) m2
      unfold pick at hq ⊢
      simp only at hq ⊢
      cases e2 : less (costL .c v, some .c) m2 with
      | true => rw [e2] at hq; exact absurd rfl hq
      | false => rfl
  | b =>
    rw [cn, co .a (by decide), co .c (by decide)]
    generalize pick .a (cand h .a) m0 = m1 at hq ⊢
    cases e : cand h .b with
    | none => rfl
    | some v =>
      rw [e] at hq
      show pick .c (cand h .c) m1 = pick .c (cand h .c) (pick .b (some v) m1)
      unfold pick at hq ⊢
      simp only at hq ⊢
      cases e2 : less (costL .b v, some .b) m1 with
      | false => rfl
      | true =>
        rw [e2] at hq
        cases e3 : cand h .c with
        | none => rw [e3] at hq; exact absurd rfl hq
        | some w =>
          rw [e3] at hq
          simp only at hq ⊢
          cases e4 : less (costL .c w, some .c) (costL .b v, some .b) with
          | false => rw [e4] at hq; exact absurd rfl hq
          | true => rw [less_trans e4 e2]
  | a =>
    rw [cn, co .b (by decide), co .c (by decide)]
    cases e : cand h .a with
    | none => rfl
    | some v =>
      rw [e] at hq
      show pick .c (cand h .c) (pick .b (cand h .b) m0) = pick .c (cand h .c) (pick .b (cand h .b) (pick .a (some v) m0))
      unfold pick at hq ⊢
      simp only at hq ⊢
      cases e2 : less (costL .a v, some .a) m0 with
      | false => rfl
      | true =>
        rw [e2] at hq
        cases e3 : cand h .b with
        | none =>
          rw [e3] at hq
          simp only at hq ⊢
          cases e5 : cand h .c with
          | none => rw [e5] at hq; exact absurd rfl hq
          | some w =>
            rw [e5] at hq
            simp only at hq ⊢
            cases e4 : less (costL .c w, some .c) (costL .a v, some .a) with
            | false => rw [e4] at hq; exact absurd rfl hq
            | true => rw [less_trans e4 e2]
        | some u =>
          rw [e3] at hq
          simp only at hq ⊢
          cases e6 : less (costL .b u, some .b) (costL .a v, some .a) with
          | true => rw [less_trans e6 e2]
          | false =>
            rw [e6] at hq
            cases e5 : cand h .c with
            | none => rw [e5] at hq; exact absurd rfl hq
            | some w =>
              rw [e5] at hq
              simp only at hq ⊢
              cases e4 : less (costL .c w, some .c) (costL .a v, some .a) with
              | false => rw [e4] at hq; exact absurd rfl hq
              | true =>
                cases e7 : less (costL .b u, some .b) m0 with
                | true => simp only; rw [less_comp e4 e6]
                | false => simp only; rw [less_trans e4 e2]
noncomputable def mineV (v : Vec) (p : P3) : Vec := ⟨v.r1, v.r2, v.c, 32768, 10, 128, p.num⟩
noncomputable def mineL (h : Held) (p : P3) : Vec := mineV (bestOf h).1 p
noncomputable def gone (m : Best) (q : P3) (w : Vec) : Bool := match isRn q m.2 with
  | true => false
  | false => lt (mineV m.1 q) w
noncomputable def drop1 (h : Held) (q : P3) : Held := match h q with
  | none => h
  | some w => match gone (bestOf h) q w with
    | true => h.put q none
    | false => h
noncomputable def drop (h : Held) : Held := drop1 (drop1 (drop1 h .a) .b) .c
theorem isRn_ne {q : P3} {n : Option P3} (h : isRn q n = false) : n ≠ some q := by
  rintro rfl
  cases q <;> cases h
theorem best_drop1 {h : Held} {q : P3} : bestOf (drop1 h q) = bestOf h := by
  unfold drop1
  cases e : h q with
  | none => rfl
  | some w =>
    simp only
    cases e2 : gone (bestOf h) q w with
    | false => rfl
    | true =>
      refine best_rem (isRn_ne ?_)
      unfold gone at e2
      cases e3 : isRn q (bestOf h).2 with
      | false => rfl
      | true => rw [e3] at e2; cases e2
theorem best_drop {h : Held} : bestOf (drop h) = bestOf h := by
  unfold drop
  rw [best_drop1, best_drop1, best_drop1]
noncomputable def dropQ (m : Best) (q : P3) (x : Option Vec) : Option Vec := match x with
  | none => none
  | some w => match gone m q w with
    | true => none
    | false => some w
theorem drop1_at {h : Held} {q p : P3} : drop1 h q p = match decide (p = q) with | true => dropQ (bestOf h) q (h q) | false => h p := by
  unfold drop1 dropQ
  cases e : h q with
  | none =>
    simp only
    by_cases hp : p = q
    · subst hp; simp only [decide_true, e]
    · simp only [hp, decide_false]
  | some w =>
    simp only
    cases e2 : gone (bestOf h) q w with
    | true => rfl
    | false =>
      by_cases hp : p = q
      · subst hp; simp only [decide_true, e]
      · simp only [hp, decide_false]
theorem drop_at {h : Held} {q : P3} : drop h q = dropQ (bestOf h) q (h q) := by
  unfold drop
  cases q <;> simp only [drop1_at, best_drop1, decide_true, decide_false, reduceCtorEq]
end Mine.Pl
namespace Mine.Pl
theorem plain_locs {p : Nat → Bool} : ∀ (v : AV) (d : Nat), v.plain d = true → v.locs p = true := AV.rec (motive_1 := fun v => ∀ d, v.plain d = true → v.locs p = true) (motive_2 := fun l => ∀ d, AV.plains l d = true → AV.locss p l = true)
  (fun _ _ => rfl) (fun _ _ _ => rfl) (fun _ _ _ => rfl) (fun _ _ _ => rfl) (fun _ _ => rfl) (fun _ ih d => Nat.rec nofun (fun d _ => ih d) d) (fun _ ih d => Nat.rec nofun (fun d _ => ih d) d) (fun _ _ _ _ => nofun) (fun _ _ _ _ => nofun) (fun _ _ _ _ => nofun) (fun _ _ => nofun) (fun _ _ => nofun) (fun _ _ => nofun) (fun _ _ => nofun)
  (fun _ _ => rfl) (fun _ _ a b d h => have z := Bool.and_eq_true_iff.mp h; Bool.and_eq_true_iff.mpr ⟨a d z.1, b d z.2⟩)
theorem plains_under {n d : Nat} : ∀ {l : List AV}, AV.plains l d = true → AV.unders n l = true
  | [], _ => rfl
  | v :: r, h => have z := Bool.and_eq_true_iff.mp h; Bool.and_eq_true_iff.mpr ⟨plain_locs v d z.1, plains_under z.2⟩
noncomputable def Br.mute (b : Br) : Br := { b with a := { b.a with told := .none }, b := { b.b with told := .none }, c := { b.c with told := .none } }
theorem mute_eq {b : Br} (h : ∀ p, (b.get p).told = .none) : b.mute = b := by
  obtain ⟨rv, rage, rn, ua, ub, uc, bud, fl⟩ := b
  have h1 : ua.told = .none := h .a
  have h2 : ub.told = .none := h .b
  have h3 : uc.told = .none := h .c
  show Br.mk rv rage rn { ua with told := .none } { ub with told := .none } { uc with told := .none } bud fl = _
  rw [show ({ ua with told := .none } : Po) = ua from by rw [← h1], show ({ ub with told := .none } : Po) = ub from by rw [← h2], show ({ uc with told := .none } : Po) = uc from by rw [← h3]]
theorem under_mute {b : Br} {D : Cell} : underS 14 (enc b.mute [D]) = (AV.unders 14 b.fl && (D.under 14 && true)) := by
  rcases b with ⟨rv, rage, _ | _ | _ | _, ua, ub, uc, bud, fl⟩ <;> kernel_rfl
theorem under_enc {b : Br} {D : Cell} (h : ∀ p, (b.get p).told = .none) (hf : AV.plains b.fl 6 = true) (hD : D.under 14 = true) : underS 14 (enc b [D]) = true := by
  rw [← mute_eq h, under_mute, plains_under hf, hD]; rfl
structure GoodV (v : Vec) : Prop where
  lo : 0 ≤ v.c
  hi : v.c ≤ 2
noncomputable def HI (h : Held) (b : Br) : Prop := ∀ p, match h p with
  | none => (b.get p).info = kMine
  | some v => (b.get p).info = kRecv ∧ (b.get p).vec = v ∧ GoodV v
theorem costed_eq {p : P3} {v : Vec} (h : GoodV v) : costed p v = costL p v := by
  unfold costed costL imn
  have h1 := h.lo; have h2 := h.hi
  have : ¬ (4294967295 < v.c + p.cost) := by cases p <;> (simp only [P3.cost]; omega)
  simp only [this, decide_false]
theorem path_eq {R : Type} {h : Held} {b : Br} (H : HI h b) (p : P3) (K : List P3 → R) (l : List P3) : sPath b p K l = K (match cand h p with | some _ => l ++ [p] | none => l) := by
  have Hp := H p
  unfold sPath cand
  cases e : h p with
  | none =>
    rw [e] at Hp
    rw [Hp]; rfl
  | some v =>
    rw [e] at Hp
    obtain ⟨h1, h2, h3⟩ := Hp
    rw [h1, h2, show Nat.beq kRecv kRecv = true from Nat.beq_refl _, show veq (.int v.t2) (.int 10) = decide (v.t2 = 10) from by rw [veq]]
    by_cases q : v.t2 = 10 <;> simp only [q, decide_true, decide_false] <;> rfl
theorem pick_eq {R : Type} {b : Br} {k : Br → R} {p : P3} {r : List P3} {m : Best} {w : Vec} (h1 : (b.get p).vec = w) (h2 : GoodV w) : sPick b k (p :: r) m.1 m.2 = sPick b k r (pick p (some w) m).1 (pick p (some w) m).2 := by
  rw [sPick, h1, key_lt, costed_eq h2]
  unfold pick less
  simp only
  cases lex (keyL (costL p w) (some p)) (keyL m.1 m.2) <;> rfl
noncomputable def Br.rooted (b : Br) (m : Best) : Br := { b with rv := m.1, rn := m.2, rage := match m.2 with
  | none => 0
  | some p => (b.get p).age + 1 }
theorem pick_end {R : Type} {b : Br} {k : Br → R} {m : Best} : sPick b k [] m.1 m.2 = k (b.rooted m) := rfl
theorem cand_vec {h : Held} {b : Br} {p : P3} {w : Vec} (H : HI h b) (e : cand h p = some w) : (b.get p).vec = w ∧ GoodV w := by
  have Hp := H p
  unfold cand at e
  cases e1 : h p with
  | none => rw [e1] at e; cases e
  | some v =>
    rw [e1] at e Hp
    simp only at e
    cases e2 : decide (v.t2 = 10) with
    | true => rw [e2] at e; cases e
    | false => rw [e2] at e; cases e; exact Hp.2
theorem picks_eq {R : Type} {h : Held} {b : Br} {k : Br → R} (H : HI h b) : sPath b .a (fun l => sPath b .b (fun l => sPath b .c (fun l => sPick b k l ownV none) l) l) [] = k (b.rooted (bestOf h)) := by
  rw [path_eq H, path_eq H, path_eq H]
  unfold bestOf
  show sPick b k _ ((ownV, none) : Best).1 ((ownV, none) : Best).2 = _
  generalize ((ownV, none) : Best) = m0
  cases ea : cand h .a with
  | none =>
    cases eb : cand h .b with
    | none =>
      cases ec : cand h .c with
      | none => exact pick_end
      | some w3 =>
        have v3 := cand_vec H ec
        show sPick b k [.c] m0.1 m0.2 = _
        rw [pick_eq v3.1 v3.2]; exact pick_end
    | some w2 =>
      have v2 := cand_vec H eb
      cases ec : cand h .c with
      | none =>
        show sPick b k [.b] m0.1 m0.2 = _
        rw [pick_eq v2.1 v2.2]; exact pick_end
      | some w3 =>
        have v3 := cand_vec H ec
        show sPick b k [.b, .c] m0.1 m0.2 = _
        rw [pick_eq v2.1 v2.2, pick_eq v3.1 v3.2]; exact pick_end
  | some w1 =>
    have v1 := cand_vec H ea
    cases eb : cand h .b with
    | none =>
      cases ec : cand h .c with
      | none =>
        show sPick b k [.a] m0.1 m0.2 = _
        rw [pick_eq v1.1 v1.2]; exact pick_end
      | some w3 =>
        have v3 := cand_vec H ec
        show sPick b k [.a, .c] m0.1 m0.2 = _
        rw [pick_eq v1.1 v1.2, pick_eq v3.1 v3.2]; exact pick_end
    | some w2 =>
      have v2 := cand_vec H eb
      cases ec : cand h .c with
      | none =>
        show sPick b k [.a, .b] m0.1 m0.2 = _
        rw [pick_eq v1.1 v1.2, pick_eq v2.1 v2.2]; exact pick_end
      | some w3 =>
        have v3 := cand_vec H ec
        show sPick b k [.a, .b, .c] m0.1 m0.2 = _
        rw [pick_eq v1.1 v1.2, pick_eq v2.1 v2.2, pick_eq v3.1 v3.2]; exact pick_end
theorem chooseRoot_run {h : Held} {b : Br} {D : Cell} {n : Nat} {K : AV → Sto → Prop} (H : HI h b) (ht : ∀ p, (b.get p).told = .none) (hf : AV.plains b.fl 6 = true) (hD : D.under 14 = true) (q : K .none (enc (b.rooted (bestOf h)) [D])) :
    runK prg False (n + 5) 57 [.loc 0] (enc b [D]) K := by
  refine Eq.mpr (runK_chooseRoot False b n K D) ?_
  unfold sChooseRoot
  refine Eq.mpr (picks_eq H) ?_
  refine br_of (under_enc (b := b.rooted (bestOf h)) (fun p => ?_) hf hD) q
  cases p
  · exact ht .a
  · exact ht .b
  · exact ht .c
noncomputable def roleOf (p : P3) (recv : Bool) (rn : Option P3) (u : Po) : Nat × Bool := match recv with
  | false => (kDes, !decide (u.vec = u.ovec) || !decide (u.age = u.oage))
  | true => match isRn p rn with
    | true => (kRoot, false)
    | false => match lt u.ovec u.vec with
      | true => (kDes, true)
      | false => match decide (u.vec.t2 = 10) with
        | true => (kBak, false)
        | false => (kAlt, false)
noncomputable def Po.withRole (u : Po) (x : Nat × Bool) : Po := { u with chosen := x.1, upd := x.2 }
theorem times_eq (a c : Int) : veq (.tup [.int a, .int 20, .int 2, .int 15]) (.tup [.int c, .int 20, .int 2, .int 15]) = decide (a = c) := by
  simp only [veq, veqs, decide_true]
  cases decide (a = c) <;> rfl
theorem setRn_eq {b : Br} {p : P3} {r : Bool} (hr : infoN r = (b.get p).info) : b.setRn p r b.rn = b := by
  unfold Br.setRn
  rw [hr]
  cases p <;> rfl
theorem chooseRole_run {b : Br} {rest : Sto} {p : P3} {r : Bool} {n : Nat} {K : AV → Sto → Prop} (hr : infoN r = (b.get p).info) (q : K .none (enc (b.set p ((b.get p).withRole (roleOf p r b.rn (b.get p)))) rest)) :
    runK prg False (n + 4) 58 [.loc 0, p.l] (enc b rest) K := by
  have R := runK_chooseRole False b rest p n K r b.rn
  rw [setRn_eq hr] at R
  refine Eq.mpr R ?_
  have k : ∀ x : Nat × Bool, roleOf p r b.rn (b.get p) = x → K .none (enc (b.set p { b.get p with chosen := x.1, upd := x.2 }) rest) := fun x hx => by
    subst hx; exact q
  clear q R
  unfold sChooseRole
  cases r with
  | false =>
    have k : ∀ d : Bool, (!decide ((b.get p).vec = (b.get p).ovec) || !decide ((b.get p).age = (b.get p).oage)) = d → K .none (enc (b.set p { b.get p with chosen := kDes, upd := d }) rest) := fun d hd => k (kDes, d) (congrArg (Prod.mk kDes) hd)
    simp only [veq_vec, times_eq]
    exact br_ok (fun a => k true (by rw [a]; rfl)) fun a => br_ok (fun c => k true (by rw [c, Bool.or_true])) fun c => k false (by rw [a, c]; rfl)
  | true =>
    unfold roleOf at k
    dsimp only at k ⊢
    cases e1 : isRn p b.rn with
    | true =>
      rw [e1] at k
      exact k (kRoot, false) rfl
    | false =>
      rw [e1] at k
      refine br_ok (fun a => k (kDes, true) (by unfold lt; rw [a])) fun a => ?_
      have e2 : lt (b.get p).ovec (b.get p).vec = false := a
      rw [e2] at k
      refine br_ok (fun c => k (kBak, false) ?_) fun c => k (kAlt, false) ?_
      · have c : decide ((b.get p).vec.t2 = 10) = true := c
        rw [c]
      · have c : decide ((b.get p).vec.t2 = 10) = false := c
        rw [c]

noncomputable abbrev kBridge : Nat := 108243533981541
noncomputable def nthS (ss : Ss) : Nat → S := Ss.rec (motive_1 := fun _ => Unit) (motive_2 := fun _ => Nat → S) (fun _ => ()) (fun _ => ()) () (fun _ _ => ()) (fun _ _ _ _ => ()) (fun _ _ _ _ _ => ()) (fun _ _ _ _ => ()) () () (fun _ => .bad) (fun s _ _ r n => Nat.rec s (fun n _ => r n) n) ss
theorem roles_body : b_move_roles = .cons (nthS b_move_roles 0) (.cons (nthS b_move_roles 1) (.cons (nthS b_move_roles 2) (.cons (nthS b_move_roles 3) (.cons (nthS b_move_roles 4) (.cons (nthS b_move_roles 5) .nil))))) := rfl
noncomputable def Br.wake (b : Br) (p : P3) : Br := b.calm.set p { b.calm.get p with resel := true }
noncomputable def r0 : Loc := [(kBridge, .loc 0)]
noncomputable def r1 (p : P3) : Loc := [(kBridge, .loc 0), (kPort, p.l)]
noncomputable def Br.owned (b : Br) : Br := { b with a := { b.a with ovec := mineV b.rv .a, oage := b.rage }, b := { b.b with ovec := mineV b.rv .b, oage := b.rage }, c := { b.c with ovec := mineV b.rv .c, oage := b.rage } }
noncomputable def body5 : Ss := .cons (.exp (.cal 58 120176837875532934306294885 (.cons (.nam kBridge) (.cons (.nam kPort) .nil)))) (.cons (.asg (.att (.nam kPort) 8315171469725558116) (.bool true)) .nil)
noncomputable def Po.chose (u : Po) (p : P3) (r : Bool) (rn : Option P3) : Po := { u.withRole (roleOf p r rn u) with sel := true }
section
variable {b : Br} {rest : Sto} {n : Nat} {p : P3} {K : Fl → Loc → Sto → Prop}
theorem roles0 : exK prg (runK prg False (n + 7)) False (nthS b_move_roles 0) r0 (enc (b.wake p) rest) K = K .nxt r0 (enc (b.wake p) rest) := by
  cases p <;> kernel_rfl
theorem roles1 : exK prg (runK prg False (n + 7)) False (nthS b_move_roles 1) r0 (enc b rest) K = K .nxt (r1 .c) (enc b.calm rest) := by
  kernel_rfl
theorem roles3 : exK prg (runK prg False (n + 7)) False (nthS b_move_roles 3) (r1 .c) (enc b rest) K = K .nxt (r1 .c) (enc b.owned rest) := by
  kernel_rfl
theorem roles5 : exK prg (runK prg False (n + 7)) False (nthS b_move_roles 5) (r1 .c) (enc b rest) K = K (.ret (.bool true)) (r1 .c) (enc b rest) := by
  kernel_rfl
theorem roles2a {C : KCalls Prop} {σ : Sto} (q : C 57 [.loc 0] σ fun v σ => noVal v (K .nxt (r1 .c) σ) False) : exK prg C False (nthS b_move_roles 2) (r1 .c) σ K := by
  have e : nthS b_move_roles 2 = .exp (.cal 57 120176837875532934306295668 (.cons (.nam kBridge) .nil)) := rfl
  rw [e]
  exact (opt_of (v := .loc 0) rfl q : opt (look kBridge (r1 .c)) (fun v => C 57 [v] σ fun v σ => noVal v (K .nxt (r1 .c) σ) False) False)
theorem roles2 {h : Held} {D : Cell} (H : HI h b) (ht : ∀ p, (b.get p).told = .none) (hf : AV.plains b.fl 6 = true) (hD : D.under 14 = true) (q : K .nxt (r1 .c) (enc (b.rooted (bestOf h)) [D])) : exK prg (runK prg False (n + 7)) False (nthS b_move_roles 2) (r1 .c) (enc b [D]) K :=
  roles2a (chooseRoot_run (n := n + 2) H ht hf hD q)
theorem sel_run {ρ : Loc} {C : KCalls Prop} (hp : look kPort ρ = some p.l) (q : K .nxt ρ (enc (b.set p { b.get p with sel := true }) rest)) : exsK prg C False (.cons (.asg (.att (.nam kPort) 8315171469725558116) (.bool true)) .nil) ρ (enc b rest) K := by
  refine (opt_of hp ?_ : opt (look kPort ρ) _ False)
  cases p <;> exact q
theorem body5_run {r : Bool} {ρ : Loc} (hb : look kBridge ρ = some (.loc 0)) (hp : look kPort ρ = some p.l) (hr : infoN r = (b.get p).info) (q : K .nxt ρ (enc (b.set p ((b.get p).chose p r b.rn)) rest)) :
    exsK prg (runK prg False (n + 7)) False body5 ρ (enc b rest) K :=
  (opt_of hb (opt_of hp (chooseRole_run (rest := rest) (p := p) (n := n + 3) hr (sel_run hp (by cases p <;> exact q)))) : opt (look kBridge ρ) (fun v => opt (look kPort ρ) (fun w => runK prg False (n + 7) 58 [v, w] (enc b rest) fun v σ => noVal v (exsK prg (runK prg False (n + 7)) False (.cons (.asg (.att (.nam kPort) 8315171469725558116) (.bool true)) .nil) ρ σ K) False) False) False)
theorem roles4 {ra rb rc : Bool} (ha : infoN ra = b.a.info) (hb : infoN rb = b.b.info) (hc : infoN rc = b.c.info) (q : K .nxt (r1 .c) (enc { b with a := b.a.chose .a ra b.rn, b := b.b.chose .b rb b.rn, c := b.c.chose .c rc b.rn } rest)) : exK prg (runK prg False (n + 7)) False (nthS b_move_roles 4) (r1 .c) (enc b rest) K := by
  have e : exK prg (runK prg False (n + 7)) False (nthS b_move_roles 4) (r1 .c) (enc b rest) K = loopB (runK prg False (n + 7)) (.nam kPort) body5 [P3.l .a, P3.l .b, P3.l .c] (r1 .c) (enc b rest) K := by kernel_rfl
  refine Eq.mpr e (body5_run (p := .a) (ρ := r1 .a) rfl rfl ha ?_)
  refine body5_run (p := .b) (b := b.set .a (b.a.chose .a ra b.rn)) (ρ := r1 .b) rfl rfl hb ?_
  exact body5_run (p := .c) (b := (b.set .a (b.a.chose .a ra b.rn)).set .b (b.b.chose .b rb b.rn)) (ρ := r1 .c) rfl rfl hc q
noncomputable def Po.anew (u : Po) (p : P3) (r : Bool) (m : Best) (rage : Int) : Po := ({ u with resel := false, ovec := mineV m.1 p, oage := rage } : Po).chose p r m.2
noncomputable def Br.anew (b : Br) (m : Best) (ra rb rc : Bool) : Br :=
  let g : Int := match m.2 with
    | none => 0
    | some p => (b.get p).age + 1
  ⟨m.1, g, m.2, b.a.anew .a ra m g, b.b.anew .b rb m g, b.c.anew .c rc m g, b.bud, b.fl⟩
theorem anew_eq {m : Best} {ra rb rc : Bool} : (let b' := (b.calm.rooted m).owned; ({ b' with a := b'.a.chose .a ra b'.rn, b := b'.b.chose .b rb b'.rn, c := b'.c.chose .c rc b'.rn } : Br)) = b.anew m ra rb rc := by
  rcases m with ⟨m, _ | _ | _ | _⟩ <;> rfl
theorem roles_run {h : Held} {D : Cell} {ra rb rc : Bool} {Q : AV → Sto → Prop} (hw : b.wake p = b) (H : HI h b) (ht : ∀ p, (b.get p).told = .none) (hf : AV.plains b.fl 6 = true) (hD : D.under 14 = true) (ha : infoN ra = b.a.info) (hb : infoN rb = b.b.info) (hc : infoN rc = b.c.info)
    (q : Q (.bool true) (enc (b.anew (bestOf h) ra rb rc) [D])) : runK prg False (n + 8) 59 [.loc 0] (enc b [D]) Q := by
  have H2 : HI h b.calm := fun p => by have := H p; cases p <;> exact this
  have ht2 : ∀ p, (b.calm.get p).told = .none := fun p => by have := ht p; cases p <;> exact this
  have e : runK prg False (n + 8) 59 [.loc 0] (enc b [D]) Q = exsK prg (runK prg False (n + 7)) False (.cons (nthS b_move_roles 0) (.cons (nthS b_move_roles 1) (.cons (nthS b_move_roles 2) (.cons (nthS b_move_roles 3) (.cons (nthS b_move_roles 4) (.cons (nthS b_move_roles 5) .nil)))))) r0 (enc b [D]) fun f _ σ' => Q (retv f) σ' := by kernel_rfl
  refine Eq.mpr e (x_cons ?_)
  have e0 := roles0 (b := b) (rest := [D]) (n := n) (p := p) (K := fun f ρ₁ σ₁ => onF f (exsK prg (runK prg False (n + 7)) False (.cons (nthS b_move_roles 1) (.cons (nthS b_move_roles 2) (.cons (nthS b_move_roles 3) (.cons (nthS b_move_roles 4) (.cons (nthS b_move_roles 5) .nil))))) ρ₁ σ₁ fun f _ σ' => Q (retv f) σ') (Q (retv .cont) σ₁) fun v => Q (retv (.ret v)) σ₁)
  rw [hw] at e0
  refine Eq.mpr e0 ?_
  refine x_nxt (x_cons (Eq.mpr roles1 ?_))
  refine x_nxt (x_cons (roles2 H2 ht2 hf hD ?_))
  refine x_nxt (x_cons (Eq.mpr roles3 ?_))
  refine x_nxt (x_cons (roles4 (ra := ra) (rb := rb) (rc := rc) ha hb hc ?_))
  refine x_nxt (x_cons (Eq.mpr roles5 ?_))
  exact anew_eq (b := b) (m := bestOf h) (ra := ra) (rb := rb) (rc := rc) ▸ q
end
end Mine.Pl
namespace Mine.Pl
noncomputable def roleL (rn : Option P3) (p : P3) (v : Vec) : Nat := match isRn p rn with
  | true => kRoot
  | false => match decide (v.t2 = 10) with
    | true => kBak
    | false => kAlt
noncomputable def finH (m : Best) (rage : Int) (p : P3) (x : Option Vec) := (match x with
  | none => (kMine, mineV m.1 p, rage)
  | some v => (kRecv, v, 0), mineV m.1 p, rage, match x with
  | none => kDes
  | some v => roleL m.2 p v)
noncomputable def rageOf : Option P3 → Int
  | none => 0
  | some _ => 1
structure J (h : Held) (b : Br) : Prop where
  rest : Rest b
  rv : b.rv = (bestOf h).1
  rn : b.rn = (bestOf h).2
  rage : b.rage = rageOf b.rn
  fin : ∀ p, fin (b.get p) = finH (bestOf h) b.rage p (h p)
  good : ∀ p v, h p = some v → GoodV v ∧ gone (bestOf h) p v = false
structure Room2 (k : Nat) (b : Br) : Prop where
  bud : 1000 * (k + 1) ≤ b.bud
  fl : b.fl.length + 1000 * (k + 1) < 1000000
  pl : AV.plains b.fl 6 = true
noncomputable def same (v w : Vec) : Bool := decide (v.t2 = w.t2) && decide (v.q2 = w.q2)
noncomputable def taken (v s : Vec) : Bool := !decide (v = s) && (lt v s || same v s)
noncomputable def stands (h : Held) (p : P3) : Vec := match h p with
  | none => mineL h p
  | some w => w
noncomputable def takenH (h : Held) (p : P3) (v : Vec) : Held := match taken v (stands h p) with
  | true => drop (h.put p (some v))
  | false => h
theorem fin_rest {u : Po} (h : u.upd = false) : fin u = ((u.info, u.vec, u.age), u.ovec, u.oage, u.chosen) := by
  unfold fin; rw [h]
structure JP (h : Held) (b : Br) (p : P3) : Prop where
  vec : (b.get p).vec = stands h p
  info : (b.get p).info = infoN (h p).isSome
  age : (b.get p).age = match h p with | none => b.rage | some _ => 0
  ovec : (b.get p).ovec = mineV b.rv p
  oage : (b.get p).oage = b.rage
  chosen : (b.get p).chosen = match h p with | none => kDes | some v => roleL b.rn p v
theorem J.port {h : Held} {b : Br} (j : J h b) (p : P3) : JP h b p := by
  have e := j.fin p
  rw [fin_rest (j.rest.upd p)] at e
  unfold finH at e
  simp only [Prod.mk.injEq] at e
  obtain ⟨e1, e2, e3, e4⟩ := e
  have rv := j.rv
  have rn := j.rn
  cases hh : h p with
  | none =>
    rw [hh] at e1 e4
    simp only [Prod.mk.injEq] at e1
    exact ⟨by rw [e1.2.1]; unfold stands; rw [hh]; rfl, by rw [e1.1, hh]; rfl, by rw [hh]; exact e1.2.2, by rw [e2, rv], e3, by rw [hh]; exact e4⟩
  | some v =>
    rw [hh] at e1 e4
    simp only [Prod.mk.injEq] at e1
    exact ⟨by rw [e1.2.1]; unfold stands; rw [hh], by rw [e1.1, hh]; rfl, by rw [hh]; exact e1.2.2, by rw [e2, rv], e3, by rw [rn, hh]; exact e4⟩
theorem best_cost {h : Held} (hg : ∀ p v, h p = some v → GoodV v) {q : P3} (hq : (bestOf h).2 = some q) : 4 ≤ (bestOf h).1.c := by
  have key : ∀ (p : P3) (m : Best), (m.2 ≠ none → 4 ≤ m.1.c) → (pick p (cand h p) m).2 ≠ none → 4 ≤ (pick p (cand h p) m).1.c := fun p m hm => by
    unfold pick
    cases e : cand h p with
    | none => exact hm
    | some v =>
      simp only
      have gv : GoodV v := by
        unfold cand at e
        cases e1 : h p with
        | none => rw [e1] at e; cases e
        | some w =>
          rw [e1] at e
          simp only at e
          cases e2 : decide (w.t2 = 10) with
          | true => rw [e2] at e; cases e
          | false => rw [e2] at e; cases e; exact hg p _ e1
      cases less (costL p v, some p) m with
      | true =>
        intro _
        show 4 ≤ v.c + p.cost
        have := gv.lo
        cases p <;> (simp only [P3.cost]; omega)
      | false => exact hm
  have h0 : ((ownV, none) : Best).2 ≠ none → 4 ≤ ((ownV, none) : Best).1.c := fun e => absurd rfl e
  exact key .c _ (key .b _ (key .a _ h0)) (by show (bestOf h).2 ≠ none; rw [hq]; exact nofun)
theorem info_idle {b : Br} {rest : Sto} {n : Nat} {K : AV → Sto → Prop} (p : P3) (hp : PT (b.get p)) (hu : (b.get p).upd = false) (q : K (.bool false) (enc b rest)) : runK prg False (n + 4) 29 [.loc 0, p.l] (enc b rest) K := by
  obtain ⟨r, hr⟩ := hp.recv
  have R := runK_info False b rest p n K r
  rw [setU_eq hp hr] at R
  refine Eq.mpr R ?_
  have rest : br (b.get p).upd (K (.bool false) (enc b rest)) (sAge p r b fun v b' => K (.bool v) (enc b' rest)) := by
    refine br_ok (fun _ => q) fun _ => ?_
    cases r with
    | false => exact q
    | true => exact br_ok (fun _ => q) fun e => absurd (hp.ti hr.symm) (of_decide_eq_false e)
  unfold sInfo
  exact br_ok (fun _ => br_ok (fun e => nomatch hu.symm.trans e) fun _ => rest) fun _ => rest
noncomputable def Br.heard (b : Br) (p : P3) (v : Vec) : Br := b.set p { b.get p with hr := true, told := bpduA v }
noncomputable def Po.pass (u : Po) (i : Int) : Po := { u with told := .none, ti := i, hr := true }
noncomputable def Po.take (u : Po) (v : Vec) (a : Bool) : Po := { u with told := .none, hr := true, info := kRecv, agreed := false, prop := false, agree := a, vec := v, age := 0, ti := 6, resel := true, sel := false, upd := false }
theorem get_set {b : Br} {p : P3} {u : Po} : (b.set p u).get p = u := by cases p <;> rfl
theorem set_twice {b : Br} {p : P3} {u u' : Po} : (b.set p u).set p u' = b.set p u' := by cases p <;> rfl
theorem get_set_ne {b : Br} {p q : P3} {u : Po} (h : q ≠ p) : (b.set p u).get q = b.get q := by
  cases p <;> cases q <;> first | rfl | exact absurd rfl h
theorem Po.still {u : Po} {r : Bool} {t : AV} {i : Int} (h1 : infoN r = u.info) (h2 : u.upd = false) (h3 : u.sel = true) : ({ u with told := t, hr := true, info := infoN r, upd := false, sel := true, ti := i } : Po) = { u with told := t, hr := true, ti := i } := by
  rw [h1, ← h2, ← h3]
section
variable {h : Held} {b : Br} {p : P3} {v : Vec} {K : Bool → Br → Prop}
theorem sup_ok (hk : ∀ a, K true (b.set p ((b.get p).take v a))) : sSup p v (h p).isSome (b.heard p v) K := by
  have k : ∀ a, K true ((b.heard p v).set p { (b.heard p v).get p with told := .none, info := kRecv, agreed := false, prop := false, agree := a, vec := v, age := 0, ti := 6, resel := true, sel := false, upd := false }) := fun a => by
    unfold Br.heard
    rw [set_twice, get_set]
    exact hk a
  unfold sSup
  refine br_ok (fun _ => ?_) fun _ => k _
  cases (h p).isSome
  · exact k _
  · exact br_ok (fun _ => k _) fun _ => k _
theorem pass_ok {r : Bool} {i : Int} (h1 : infoN r = (b.get p).info) (h2 : (b.get p).upd = false) (h3 : (b.get p).sel = true) (hk : K true (b.set p ((b.get p).pass i))) :
    K true ((b.heard p v).set p { (b.heard p v).get p with told := .none, info := infoN r, ti := i, upd := false, sel := true }) := by
  unfold Br.heard
  rw [set_twice, get_set]
  exact (Po.still (t := .none) (i := i) h1 h2 h3).symm ▸ hk
theorem inf_ok {r : Bool} (h1 : infoN r = (b.get p).info) (pt : PT (b.get p)) (h2 : (b.get p).upd = false) (hk : ∀ i, ((b.get p).info = kRecv → 0 < i) → K true (b.set p ((b.get p).pass i))) : sInf p v r (b.heard p v) K := by
  have k := pass_ok (v := v) h1 h2 pt.sel (hk (b.get p).ti pt.ti)
  have e : ((b.heard p v).get p).ti = (b.get p).ti := by unfold Br.heard; rw [get_set]
  unfold sInf
  rw [← e] at k
  cases r with
  | false => exact k
  | true =>
    refine br_ok (fun _ => k) fun x => absurd (pt.ti h1.symm) ?_
    rw [get_set] at x
    rw [← e]
    exact of_decide_eq_false x
theorem rep_ok {r : Bool} (h1 : infoN r = (b.get p).info) (pt : PT (b.get p)) (h2 : (b.get p).upd = false) (ha : (b.get p).age ≤ 1) (hk : ∀ i, ((b.get p).info = kRecv → 0 < i) → K true (b.set p ((b.get p).pass i))) : sRep p v r (b.heard p v) K := by
  have e : ((b.heard p v).get p).age = (b.get p).age := by unfold Br.heard; rw [get_set]
  unfold sRep
  refine br_ok (fun _ => pass_ok (i := 6) h1 h2 pt.sel (hk 6 fun _ => by decide)) fun x => ?_
  rw [e] at x
  exact absurd (Int.le_trans (Int.add_le_add_right ha 1) (by decide)) (of_decide_eq_false x)
theorem told_ok (j : J h b) (gv : GoodV v) (hk : ∀ b1, (match taken v (stands h p) with
      | true => ∃ a, b1 = b.set p ((b.get p).take v a)
      | false => ∃ i, ((b.get p).info = kRecv → 0 < i) ∧ b1 = b.set p ((b.get p).pass i)) → K true b1) : sTold p v (h p).isSome (b.heard p v) K := by
  have jp := j.port p
  have pt := j.rest.pt p
  have hu := j.rest.upd p
  have gvec : ((b.heard p v).get p).vec = stands h p := by unfold Br.heard; rw [get_set]; exact jp.vec
  have gage : ((b.heard p v).get p).age = (b.get p).age := by unfold Br.heard; rw [get_set]
  have sup : taken v (stands h p) = true → sSup p v (h p).isSome (b.heard p v) K := fun ht => sup_ok fun a => by
    rw [ht] at hk
    exact hk _ ⟨a, rfl⟩
  have pas : taken v (stands h p) = false → ∀ i, ((b.get p).info = kRecv → 0 < i) → K true (b.set p ((b.get p).pass i)) := fun ht i hi => by
    rw [ht] at hk
    exact hk _ ⟨i, hi, rfl⟩
  have lage : (b.get p).age ≤ 1 := by
    rw [jp.age, j.rage]
    cases h p
    · cases b.rn
      · exact (by decide : (0 : Int) ≤ 1)
      · exact (by decide : (1 : Int) ≤ 1)
    · exact (by decide : (0 : Int) ≤ 1)
  have T : taken v (stands h p) = (!decide (v = stands h p) && (lt v (stands h p) || same v (stands h p))) := rfl
  generalize taken v (stands h p) = tk at sup pas T
  clear hk
  unfold sTold
  dsimp only
  rw [gvec, gage, veq_vec, times_eq]
  refine br_ok (fun a => ?_) fun a => ?_
  · rw [a] at T
    refine br_ok (fun _ => rep_ok jp.info.symm pt hu lage (pas T)) fun c => ?_
    exfalso
    have c := of_decide_eq_false c
    have a := of_decide_eq_true a
    rw [jp.age] at c
    cases hh : h p with
    | some w => rw [hh] at c; exact c rfl
    | none =>
      rw [hh, j.rage, j.rn] at c
      cases hn : (bestOf h).2 with
      | none => rw [hn] at c; exact c rfl
      | some q =>
        have := best_cost (fun p v e => (j.good p v e).1) hn
        unfold stands at a
        rw [hh] at a
        have e2 : v.c = (bestOf h).1.c := by rw [a]; rfl
        have := gv.hi
        omega
  · rw [a] at T
    refine br_ok (fun c => sup (T.trans (by rw [show lt v (stands h p) = true from c]; rfl))) fun c => ?_
    rw [show lt v (stands h p) = false from c] at T
    refine br_ok (fun _ => ?_) fun x => nomatch (not_f x).symm.trans a
    refine br_ok (fun d => br_ok (fun f => sup (T.trans ?_)) fun f => inf_ok jp.info.symm pt hu (pas (T.trans ?_))) fun d => inf_ok jp.info.symm pt hu (pas (T.trans ?_))
    · have d : decide (v.t2 = (stands h p).t2) = true := d
      have f : decide (v.q2 = (stands h p).q2) = true := f
      unfold same; rw [d, f]; rfl
    · have d : decide (v.t2 = (stands h p).t2) = true := d
      have f : decide (v.q2 = (stands h p).q2) = false := f
      unfold same; rw [d, f]; rfl
    · have d : decide (v.t2 = (stands h p).t2) = false := d
      unfold same; rw [d]; rfl
end
theorem told_run {h : Held} {b : Br} {rest : Sto} {n : Nat} {K : AV → Sto → Prop} (j : J h b) (p : P3) {v : Vec} (gv : GoodV v) (hk : ∀ b1, (match taken v (stands h p) with
      | true => ∃ a, b1 = b.set p ((b.get p).take v a)
      | false => ∃ i, ((b.get p).info = kRecv → 0 < i) ∧ b1 = b.set p ((b.get p).pass i)) → K (.bool true) (enc b1 rest)) : runK prg False (n + 6) 29 [.loc 0, p.l] (enc (b.heard p v) rest) K := by
  have e : (b.heard p v).tell p v (h p).isSome = b.heard p v := by
    unfold Br.tell Br.heard
    rw [set_twice, get_set]
    exact congrArg (b.set p) (Po.still (t := bpduA v) (i := (b.get p).ti) (j.port p).info.symm (j.rest.upd p) (j.rest.pt p).sel)
  have R := runK_told False (b.heard p v) rest p n K (h p).isSome v
  rw [e] at R
  exact Eq.mpr R (told_ok (K := fun v b' => K (.bool v) (enc b' rest)) j gv hk)
end Mine.Pl
namespace Mine.Pl
section
variable {b : Br} {rest : Sto} {n : Nat} {ρ : Loc} {m : Bool} {K : Fl → Loc → Sto → Prop}
theorem stepT {q : P3} {S : Br → Prop} (hl : LM ρ m) (e : ∀ Q : AV → Sto → Prop, (∀ b1, S b1 → Q (.bool true) (enc b1 rest)) → runK prg False (n + 8) 29 [.loc 0, q.l] (enc b rest) Q) (hK : ∀ ρ' b1, LM ρ' true → S b1 → K .nxt ρ' (enc b1 rest)) :
    exsK prg (runK prg False (n + 8)) False bodyA (put kPort q.l ρ) (enc b rest) K :=
  have hl2 : LM (put kPort q.l ρ) m := hl.put rfl rfl
  x_if hl2 fun Q g => (w_portEs hl2.self look_put_same (e _ fun b1 s => g true _ fun ρ' l _ => hK ρ' b1 (by rw [Bool.or_true] at l; exact l) s) : evsK (evL prg (runK prg False (n + 8)) False portEs) (put kPort q.l ρ) (enc b rest) fun l σ₁ => runK prg False (n + 8) 29 l σ₁ Q)
theorem stepI {q : P3} (hl : LM ρ m) (hp : PT (b.get q)) (hu : (b.get q).upd = false) (hK : ∀ ρ', LM ρ' m → K .nxt ρ' (enc b rest)) : exsK prg (runK prg False (n + 8)) False bodyA (put kPort q.l ρ) (enc b rest) K :=
  have hl2 : LM (put kPort q.l ρ) m := hl.put rfl rfl
  x_if hl2 fun Q g => (w_portEs hl2.self look_put_same (info_idle (n := n + 4) q hp hu (g false _ fun ρ' l _ => hK ρ' (by rw [Bool.or_false] at l; exact l))) : evsK (evL prg (runK prg False (n + 8)) False portEs) (put kPort q.l ρ) (enc b rest) fun l σ₁ => runK prg False (n + 8) 29 l σ₁ Q)
theorem phaseA_told {v : Vec} {S : Br → Prop} (hl : LM ρ m) (p : P3) (hp : ∀ q, PT (b.get q)) (hu : ∀ q, (b.get q).upd = false) (e : ∀ Q : AV → Sto → Prop, (∀ b1, S b1 → Q (.bool true) (enc b1 rest)) → runK prg False (n + 8) 29 [.loc 0, p.l] (enc (b.heard p v) rest) Q)
    (ho : ∀ b1, S b1 → ∃ u, b1 = b.set p u) (hK : ∀ ρ' b1, LM ρ' true → S b1 → K .nxt ρ' (enc b1 rest)) : exK prg (runK prg False (n + 8)) False (.for_ (.nam kPort) allPorts bodyA) ρ (enc (b.heard p v) rest) K := by
  have I : ∀ {ρ : Loc} {m : Bool} {K : Fl → Loc → Sto → Prop} {u : Po} {q : P3}, LM ρ m → q ≠ p → (∀ ρ', LM ρ' m → K .nxt ρ' (enc (b.set p u) rest)) → exsK prg (runK prg False (n + 8)) False bodyA (put kPort q.l ρ) (enc (b.set p u) rest) K :=
    fun hl hq hK => stepI hl (by rw [get_set_ne hq]; exact hp _) (by rw [get_set_ne hq]; exact hu _) hK
  refine ports_loop hl.self ?_
  cases p with
  | a =>
    refine stepT hl e fun ρ1 b1 l1 s1 => ?_
    obtain ⟨u, rfl⟩ := ho b1 s1
    exact I (q := .b) l1 nofun fun ρ2 l2 => I (q := .c) l2 nofun fun ρ3 l3 => hK ρ3 _ l3 s1
  | b =>
    refine I (q := .a) hl nofun fun ρ1 l1 => stepT l1 e fun ρ2 b1 l2 s1 => ?_
    obtain ⟨u, rfl⟩ := ho b1 s1
    exact I (q := .c) l2 nofun fun ρ3 l3 => hK ρ3 _ l3 s1
  | c => exact I (q := .a) hl nofun fun ρ1 l1 => I (q := .b) l1 nofun fun ρ2 l2 => stepT l2 e fun ρ3 b1 l3 s1 => hK ρ3 b1 l3 s1
end
theorem Room2.room {k : Nat} {b b1 : Br} (r : Room2 k b) (h1 : b1.bud = b.bud) (h2 : b1.fl = b.fl) : Room (0 + 1) b1 := by
  have := mu_le b1
  have := r.bud; have := r.fl
  exact ⟨by rw [h1]; omega, by rw [h2]; omega, by rw [h2]; exact r.pl⟩
theorem Room2.less {k : Nat} {b b1 b2 : Br} (r : Room2 (k + 1) b) (h1 : b1.bud = b.bud) (h2 : b1.fl = b.fl) (c1 : b1.bud + mu b2 ≤ b2.bud + mu b1) (c2 : b2.fl.length + mu b2 ≤ b1.fl.length + mu b1) (c3 : AV.plains b1.fl 6 = true → AV.plains b2.fl 6 = true) : Room2 k b2 := by
  have := mu_le b1
  have := r.bud; have := r.fl
  rw [h1] at c1
  rw [h2] at c2
  exact ⟨by omega, by omega, c3 (by rw [h2]; exact r.pl)⟩
theorem best_held {h : Held} {q : P3} (hq : (bestOf h).2 = some q) : ∃ v, h q = some v := by
  have key : ∀ (p : P3) (m : Best), (∀ q, m.2 = some q → ∃ v, h q = some v) → ∀ q, (pick p (cand h p) m).2 = some q → ∃ v, h q = some v := fun p m hm q => by
    unfold pick
    cases e : cand h p with
    | none => exact hm q
    | some v =>
      simp only
      cases less (costL p v, some p) m with
      | true =>
        intro e1
        cases e1
        unfold cand at e
        cases e1 : h p with
        | none => rw [e1] at e; cases e
        | some w => exact ⟨w, rfl⟩
      | false => exact hm q
  exact key .c _ (key .b _ (key .a _ fun q e => by cases e)) q hq
theorem roleOf_R4 (p : P3) (r : Bool) (rn : Option P3) (u : Po) : R4 (roleOf p r rn u).1 := by
  unfold roleOf
  cases r with
  | false => exact .inr (.inl rfl)
  | true =>
    cases isRn p rn with
    | true => exact .inl rfl
    | false =>
      simp only
      cases lt u.ovec u.vec with
      | true => exact .inr (.inl rfl)
      | false =>
        simp only
        cases decide (u.vec.t2 = 10) with
        | true => exact .inr (.inr (.inr rfl))
        | false => exact .inr (.inr (.inl rfl))
theorem anew_fin {u : Po} {p : P3} {m : Best} {rage : Int} {x : Option Vec} (h1 : u.info = infoN x.isSome) (h2 : ∀ w, x = some w → u.vec = w ∧ u.age = 0) : fin (u.anew p x.isSome m rage) = finH m rage p (dropQ m p x) := by
  cases x with
  | none =>
    show fin ({ u with resel := false, ovec := mineV m.1 p, oage := rage, chosen := kDes, upd := !decide (u.vec = mineV m.1 p) || !decide (u.age = rage), sel := true } : Po) = finH m rage p none
    cases e : (!decide (u.vec = mineV m.1 p) || !decide (u.age = rage)) with
    | true => rfl
    | false =>
      rw [Bool.or_eq_false_iff] at e
      have e1 := of_decide_eq_true (not_f e.1)
      have e2 := of_decide_eq_true (not_f e.2)
      simp only [fin, finH]
      rw [h1, e1, e2]; rfl
  | some w =>
    obtain ⟨v1, v2⟩ := h2 w rfl
    unfold dropQ gone
    have h1 : u.info = kRecv := h1
    cases e : isRn p m.2 with
    | true =>
      simp only
      have : u.anew p (some w).isSome m rage = { u with resel := false, ovec := mineV m.1 p, oage := rage, chosen := kRoot, upd := false, sel := true } := by
        unfold Po.anew Po.chose Po.withRole roleOf
        simp only [Option.isSome_some, e]
      rw [this]
      simp only [fin, finH, roleL, e, h1, v1, v2]
    | false =>
      simp only
      cases e2 : lt (mineV m.1 p) w with
      | true =>
        simp only
        have : u.anew p (some w).isSome m rage = { u with resel := false, ovec := mineV m.1 p, oage := rage, chosen := kDes, upd := true, sel := true } := by
          unfold Po.anew Po.chose Po.withRole roleOf
          simp only [Option.isSome_some, e, v1, e2]
        rw [this]
        simp only [fin, finH]
      | false =>
        simp only
        cases e3 : decide (w.t2 = 10) with
        | true =>
          have : u.anew p (some w).isSome m rage = { u with resel := false, ovec := mineV m.1 p, oage := rage, chosen := kBak, upd := false, sel := true } := by
            unfold Po.anew Po.chose Po.withRole roleOf
            simp only [Option.isSome_some, e, v1, e2, e3]
          rw [this]
          simp only [fin, finH, roleL, e, e3, h1, v1, v2]
        | false =>
          have : u.anew p (some w).isSome m rage = { u with resel := false, ovec := mineV m.1 p, oage := rage, chosen := kAlt, upd := false, sel := true } := by
            unfold Po.anew Po.chose Po.withRole roleOf
            simp only [Option.isSome_some, e, v1, e2, e3]
          rw [this]
          simp only [fin, finH, roleL, e, e3, h1, v1, v2]
theorem anew_get {b : Br} {m : Best} {x : Held} (p : P3) : (b.anew m (x .a).isSome (x .b).isSome (x .c).isSome).get p = (b.get p).anew p (x p).isSome m (match m.2 with
    | none => 0
    | some q => (b.get q).age + 1) := by cases p <;> rfl
theorem Po.wake_t {u : Po} (h : u.resel = true) : ({ u with resel := true } : Po) = u := by rw [← h]
theorem Po.wake_f {u : Po} (h : u.resel = false) : ({ u with resel := false } : Po) = u := by rw [← h]
theorem Br.ext3 {b : Br} {x y z : Po} (h1 : x = b.a) (h2 : y = b.b) (h3 : z = b.c) : Br.mk b.rv b.rage b.rn x y z b.bud b.fl = b := by subst h1 h2 h3; rfl
theorem wake_eq {b : Br} {p : P3} (h1 : (b.get p).resel = true) (h2 : ∀ q, q ≠ p → (b.get q).resel = false) : b.wake p = b := by
  cases p with
  | a => exact Br.ext3 (Po.wake_t h1) (Po.wake_f (h2 .b nofun)) (Po.wake_f (h2 .c nofun))
  | b => exact Br.ext3 (Po.wake_f (h2 .a nofun)) (Po.wake_t h1) (Po.wake_f (h2 .c nofun))
  | c => exact Br.ext3 (Po.wake_f (h2 .a nofun)) (Po.wake_f (h2 .b nofun)) (Po.wake_t h1)
theorem put_at {h : Held} {p q : P3} {x : Option Vec} : h.put p x q = match decide (q = p) with
  | true => x
  | false => h q := rfl
structure Mid (g : Held) (b b2 : Br) : Prop where
  inv : LInv b2
  pt : ∀ p, PT (b2.get p)
  bud : b2.bud = b.bud
  fl : b2.fl = b.fl
  rv : b2.rv = (bestOf g).1
  rn : b2.rn = (bestOf g).2
  rage : b2.rage = rageOf b2.rn
  fin : ∀ q, Mine.Pl.fin (b2.get q) = finH (bestOf g) b2.rage q (g q)
  good : ∀ p v, g p = some v → GoodV v ∧ gone (bestOf g) p v = false
theorem Mid.j {g : Held} {b b2 b' : Br} (m : Mid g b b2) (c : Came b2 b') (q : Rest b') : J g b' :=
  ⟨q, c.rv.trans m.rv, c.rn.trans m.rn, by rw [c.rage, m.rage, c.rn], fun p => by rw [c.fin, c.rage]; exact m.fin p, m.good⟩
theorem set_bud2 {b : Br} {p : P3} {u : Po} : (b.set p u).bud = b.bud ∧ (b.set p u).fl = b.fl ∧ (b.set p u).rv = b.rv ∧ (b.set p u).rn = b.rn ∧ (b.set p u).rage = b.rage := by cases p <;> exact ⟨rfl, rfl, rfl, rfl, rfl⟩
theorem set_all {R : Po → Prop} {b : Br} {p : P3} {u : Po} (hu : R u) (h : ∀ q, q ≠ p → R (b.get q)) (q : P3) : R ((b.set p u).get q) := by
  by_cases hq : q = p
  · subst hq; rw [get_set]; exact hu
  · rw [get_set_ne hq]; exact h q hq
theorem mid_pass {h : Held} {b : Br} {p : P3} {i : Int} (j : J h b) (hi : (b.get p).info = kRecv → 0 < i) : Mid h b (b.set p ((b.get p).pass i)) := by
  obtain ⟨e1, e2, e3, e4, e5⟩ := set_bud2 (b := b) (p := p) (u := (b.get p).pass i)
  have I := j.rest.inv.get p
  have z := j.rest.pt p
  refine ⟨j.rest.inv.set ⟨I.role, I.chosen, I.off⟩, set_all ⟨rfl, z.info, z.sel, z.resel, hi⟩ fun q _ => j.rest.pt q, e1, e2, e3.trans j.rv, e4.trans j.rn, ?_, fun q => ?_, j.good⟩
  · rw [e5, e4]; exact j.rage
  · rw [e5, ← j.fin q]
    by_cases hq : q = p
    · subst hq; rw [get_set]; rfl
    · rw [get_set_ne hq]
theorem dropQ_some {m : Best} {q : P3} {x : Option Vec} {w : Vec} (h : dropQ m q x = some w) : x = some w ∧ gone m q w = false := by
  unfold dropQ at h
  cases x with
  | none => cases h
  | some w2 =>
    cases e2 : gone m q w2 with
    | true => exact nomatch (show (match gone m q w2 with | true => none | false => some w2) = none by rw [e2]).symm.trans h
    | false =>
      have := (show (match gone m q w2 with | true => none | false => some w2) = some w2 by rw [e2]).symm.trans h
      cases this
      exact ⟨rfl, e2⟩
structure Tk (g : Held) (b1 : Br) : Prop where
  info : ∀ q, (b1.get q).info = infoN (g q).isSome
  vec : ∀ q w, g q = some w → (b1.get q).vec = w ∧ (b1.get q).age = 0 ∧ GoodV w
  told : ∀ q, (b1.get q).told = .none
  inv : ∀ q, PInv (b1.get q)
  ti : ∀ q, (b1.get q).info = kRecv → 0 < (b1.get q).ti
theorem tk_of {h : Held} {b : Br} {p : P3} {v : Vec} {a : Bool} (j : J h b) (gv : GoodV v) : Tk (h.put p (some v)) (b.set p ((b.get p).take v a)) := by
  have g1 : h.put p (some v) p = some v := by rw [put_at]; simp only [decide_true]
  have g2 : ∀ q, q ≠ p → h.put p (some v) q = h q := fun q hq => by rw [put_at]; simp only [hq, decide_false]
  generalize h.put p (some v) = g at g1 g2
  have I := j.rest.inv.get p
  refine ⟨fun q => ?_, fun q w hw => ?_, set_all (R := fun u => u.told = .none) rfl fun q _ => (j.rest.pt q).told, set_all ⟨I.role, I.chosen, I.off⟩ fun q _ => j.rest.inv.get q, set_all (R := fun u => u.info = kRecv → 0 < u.ti) (fun _ => (by decide : (0 : Int) < 6)) fun q _ => (j.rest.pt q).ti⟩
  · by_cases hq : q = p
    · subst hq; rw [get_set, g1]; rfl
    · rw [get_set_ne hq, g2 q hq]; exact (j.port q).info
  · by_cases hq : q = p
    · subst hq
      rw [g1] at hw; cases hw
      rw [get_set]; exact ⟨rfl, rfl, gv⟩
    · rw [g2 q hq] at hw
      rw [get_set_ne hq]
      have z := j.port q
      have z1 := z.vec; have z2 := z.age
      unfold stands at z1
      rw [hw] at z1 z2
      exact ⟨z1, z2, (j.good q w hw).1⟩
theorem Tk.hi {g : Held} {b1 : Br} (t : Tk g b1) : HI g b1 := fun q => by
  have i := t.info q
  have v := t.vec q
  cases e : g q with
  | none => rw [e] at i; exact i
  | some w => rw [e] at i; exact ⟨i, (v w e).1, (v w e).2.2⟩
theorem mid_take {g : Held} {b b1 : Br} (t : Tk g b1) (hb : b1.bud = b.bud) (hf : b1.fl = b.fl) : Mid (drop g) b (b1.anew (bestOf g) (g .a).isSome (g .b).isSome (g .c).isSome) := by
  have rage : (match (bestOf g).2 with | none => 0 | some q => (b1.get q).age + 1) = rageOf (bestOf g).2 := by
    cases hn : (bestOf g).2 with
    | none => rfl
    | some q =>
      obtain ⟨w, hw⟩ := best_held hn
      exact congrArg (· + 1) (t.vec q w hw).2.1
  have pinv : ∀ q, PInv ((b1.anew (bestOf g) (g .a).isSome (g .b).isSome (g .c).isSome).get q) := fun q => by
    rw [anew_get]
    have I := t.inv q
    exact ⟨I.role, roleOf_R4 _ _ _ _, I.off⟩
  have pt : ∀ q, PT ((b1.anew (bestOf g) (g .a).isSome (g .b).isSome (g .c).isSome).get q) := fun q => by
    rw [anew_get]
    refine ⟨t.told q, ?_, rfl, rfl, t.ti q⟩
    show (b1.get q).info = _ ∨ (b1.get q).info = _
    rw [t.info q]
    cases (g q).isSome
    · exact .inr rfl
    · exact .inl rfl
  have fin2 : ∀ q, fin ((b1.anew (bestOf g) (g .a).isSome (g .b).isSome (g .c).isSome).get q) = finH (bestOf g) (rageOf (bestOf g).2) q (dropQ (bestOf g) q (g q)) := fun q => by
    rw [anew_get, rage]
    exact anew_fin (t.info q) fun w hw => ⟨(t.vec q w hw).1, (t.vec q w hw).2.1⟩
  refine ⟨⟨pinv .a, pinv .b, pinv .c⟩, pt, hb, hf, ?_, ?_, rage, fun q => ?_, fun q w hw => ?_⟩
  · rw [best_drop]; rfl
  · rw [best_drop]; rfl
  · rw [best_drop, drop_at]
    exact (fin2 q).trans (congrArg (fun x => finH (bestOf g) x q (dropQ (bestOf g) q (g q))) rage.symm)
  · rw [drop_at] at hw
    rw [best_drop]
    obtain ⟨h1, h2⟩ := dropQ_some hw
    exact ⟨(t.vec q w h1).2.2, h2⟩
theorem phaseB_true {C : KCalls Prop} {ρ : Loc} {m : Bool} {σ σ' : Sto} {K : Fl → Loc → Sto → Prop} (hl : LM ρ m) (e : ∀ Q : AV → Sto → Prop, Q (.bool true) σ' → C 59 [.loc 0] σ Q) (hK : ∀ ρ', LM ρ' true → K .nxt ρ' σ') : exK prg C False (.iff callB setMv .nil) ρ σ K :=
  w_callB hl.self (e _ (hK _ hl.moved : (fun u τ => asB u (fun c => br c (exsK prg C False setMv ρ τ K) (K .nxt ρ τ)) False) (.bool true) σ'))
theorem recv_go {h : Held} {b : Br} {D : Cell} {k n : Nat} {K : AV → Sto → Prop} (j : J h b) (r : Room2 (k + 1) b) (p : P3) {v : Vec} (gv : GoodV v) (hD : D.under 14 = true)
    (hK : ∀ b', J (takenH h p v) b' → Room2 k b' → K .none (enc b' [D])) : runK prg False (n + 10) 71 [.loc 0] (enc (b.heard p v) [D]) K := by
  refine go_on (n := n) (X := 0) (S := fun b3 => ∃ b2 w, Mid (takenH h p v) b b2 ∧ TT b2 w b3) (fun Q q => ?_) (fun b3 ⟨b2, w, m, t⟩ => ⟨t.inv, Room.tt (r.room m.bud m.fl) t, t.pt m.pt⟩) fun b3 b' ⟨b2, w, m, t⟩ c q => ?_
  · refine Eq.mpr turn_eq (x_cons (phaseA_told (n := n) (m := false) (S := fun b1 => match taken v (stands h p) with
      | true => ∃ a, b1 = b.set p ((b.get p).take v a)
      | false => ∃ i, ((b.get p).info = kRecv → 0 < i) ∧ b1 = b.set p ((b.get p).pass i)) ⟨rfl, rfl⟩ p j.rest.pt j.rest.upd (fun Q q => told_run (n := n + 2) j p gv q) (fun b1 s => ?_) fun ρ1 b1 l1 s => ?_))
    · generalize taken v (stands h p) = tk at s
      cases tk with
      | true => obtain ⟨a, s⟩ := s; exact ⟨_, s⟩
      | false => obtain ⟨i, _, s⟩ := s; exact ⟨_, s⟩
    · refine x_nxt (x_cons ?_)
      have fin : ∀ ρ2 b2, LM ρ2 true → Mid (takenH h p v) b b2 → exsK prg (runK prg False (n + 8)) False (.cons (.for_ (.nam kPort) allPorts bodyC) (.cons (.ret (.nam kMv)) .nil)) ρ2 (enc b2 [D]) fun f _ σ' => Q (retv f) σ' := fun ρ2 b2 l2 m => by
        refine x_cons (phaseC (n := n) m.inv (r.room m.bud m.fl) l2 fun ρ3 b3 w3 l3 g3 c3 => ?_)
        refine opt_of l3.mv ?_
        rw [Bool.true_or]
        exact q b3 ⟨b2, w3, m, g3.tt⟩
      unfold takenH at fin
      cases ht : taken v (stands h p) with
      | true =>
        rw [ht] at s fin
        obtain ⟨a, rfl⟩ := s
        have t := tk_of (p := p) (a := a) j gv
        obtain ⟨e1, e2, -⟩ := set_bud2 (b := b) (p := p) (u := (b.get p).take v a)
        exact phaseB_true l1 (fun Q q => roles_run (n := n) (p := p) (ra := (h.put p (some v) .a).isSome) (rb := (h.put p (some v) .b).isSome) (rc := (h.put p (some v) .c).isSome) (wake_eq (by rw [get_set]; rfl) fun q hq => by rw [get_set_ne hq]; exact (j.rest.pt q).resel) t.hi t.told (by rw [e2]; exact r.pl) hD (t.info .a).symm (t.info .b).symm (t.info .c).symm q) fun ρ2 l2 => fin _ _ l2 (mid_take t e1 e2)
      | false =>
        rw [ht] at s fin
        obtain ⟨i, hi, rfl⟩ := s
        have m := mid_pass j hi
        exact phaseB (n := n) m.pt l1 (fin _ _ l1 m)
  · exact hK b' (m.j ⟨c.rv.trans t.rv, c.rn.trans t.rn, c.rage.trans t.rage, fun p => (c.fin p).trans (t.fin p), by have := t.bud; have := c.bud; omega, by have := t.fl; have := c.fl; omega, fun z => c.pl (t.pl z)⟩ q) (r.less m.bud m.fl (by have := t.bud; have := c.bud; omega) (by have := t.fl; have := c.fl; omega) fun z => c.pl (t.pl z))
noncomputable abbrev kNumber : Nat := 121450625394034
noncomputable abbrev kBpdu : Nat := 1651532917
theorem recv_body : b_RapidBridge_receive = .cons (nthS b_RapidBridge_receive 0) (.cons (nthS b_RapidBridge_receive 1) (.cons (nthS b_RapidBridge_receive 2) (.cons (nthS b_RapidBridge_receive 3) (.cons (nthS b_RapidBridge_receive 4) (.cons (.exp (.mth (.nam kSelf) 444250156910 .nil)) .nil))))) := rfl
noncomputable def rr (p : P3) (v : Vec) : Loc := [(kSelf, .loc 0), (kNumber, .int p.num), (kBpdu, bpduA v), (kPort, p.l)]
section
variable {b : Br} {rest : Sto} {n : Nat} {p : P3} {v : Vec} {K : Fl → Loc → Sto → Prop}
theorem recv0 : exK prg (runK prg False (n + 10)) False (nthS b_RapidBridge_receive 0) [(kSelf, .loc 0), (kNumber, .int p.num), (kBpdu, bpduA v)] (enc b rest) K = K .nxt (rr p v) (enc b rest) := by
  cases p <;> kernel_rfl
theorem recv1 : exK prg (runK prg False (n + 10)) False (nthS b_RapidBridge_receive 1) (rr p v) (enc b rest) K = K .nxt (rr p v) (enc b rest) := by
  cases p <;> kernel_rfl
theorem recv2 : exK prg (runK prg False (n + 10)) False (nthS b_RapidBridge_receive 2) (rr p v) (enc b rest) K = K .nxt (rr p v) (enc b rest) := by
  cases p <;> kernel_rfl
theorem recv3 : exK prg (runK prg False (n + 10)) False (nthS b_RapidBridge_receive 3) (rr p v) (enc b rest) K = K .nxt (rr p v) (enc (b.set p { b.get p with hr := true }) rest) := by
  cases p <;> kernel_rfl
theorem recv4 : exK prg (runK prg False (n + 10)) False (nthS b_RapidBridge_receive 4) (rr p v) (enc b rest) K = K .nxt (rr p v) (enc (b.set p { b.get p with told := bpduA v }) rest) := by
  cases p <;> kernel_rfl
theorem recv5 {C : KCalls Prop} (q : C 71 [.loc 0] (enc b rest) fun u τ => noVal u (K .nxt (rr p v) τ) False) : exK prg C False (.exp (.mth (.nam kSelf) 444250156910 .nil)) (rr p v) (enc b rest) K :=
  (q : (fun x => x) (C 71 [.loc 0] (enc b rest) fun u τ => noVal u (K .nxt (rr p v) τ) False))
theorem receive_run {h : Held} {D : Cell} {k : Nat} {Q : AV → Sto → Prop} (j : J h b) (r : Room2 (k + 1) b) (gv : GoodV v) (hD : D.under 14 = true) (hQ : ∀ b', J (takenH h p v) b' → Room2 k b' → Q .none (enc b' [D])) :
    runK prg False (n + 11) 70 [.loc 0, .int p.num, bpduA v] (enc b [D]) Q := by
  have e : runK prg False (n + 11) 70 [.loc 0, .int p.num, bpduA v] (enc b [D]) Q = exsK prg (runK prg False (n + 10)) False (.cons (nthS b_RapidBridge_receive 0) (.cons (nthS b_RapidBridge_receive 1) (.cons (nthS b_RapidBridge_receive 2) (.cons (nthS b_RapidBridge_receive 3) (.cons (nthS b_RapidBridge_receive 4) (.cons (.exp (.mth (.nam kSelf) 444250156910 .nil)) .nil)))))) [(kSelf, .loc 0), (kNumber, .int p.num), (kBpdu, bpduA v)] (enc b [D]) fun f _ σ' => Q (retv f) σ' := by kernel_rfl
  refine Eq.mpr e (x_cons (Eq.mpr recv0 ?_))
  refine x_nxt (x_cons (Eq.mpr recv1 ?_))
  refine x_nxt (x_cons (Eq.mpr recv2 ?_))
  refine x_nxt (x_cons (Eq.mpr recv3 ?_))
  refine x_nxt (x_cons (Eq.mpr recv4 ?_))
  have hh : (b.set p { b.get p with hr := true }).set p { (b.set p { b.get p with hr := true }).get p with told := bpduA v } = b.heard p v := by rw [set_twice, get_set]; rfl
  rw [hh]
  exact x_nxt (x_cons (recv5 (recv_go (n := n) j r p gv hD fun b' j' r' => hQ b' j' r')))
end
end Mine.Pl
namespace Mine.Pl
section
variable {C : KCalls Prop} {ρ : Loc} {σ : Sto} {Q : AV → Sto → Prop} {K : Fl → Loc → Sto → Prop}
theorem w_cmp {o : Op} {a b : E} (h : evK prg C False a ρ σ fun v σ₁ => evK prg C False b ρ σ₁ fun w σ₂ => cmpK False o v w σ₂ fun r => Q r σ₂) : evK prg C False (.cmp o a b) ρ σ Q := h
theorem w_sub {a b : E} (h : evK prg C False a ρ σ fun v σ₁ => evK prg C False b ρ σ₁ fun w σ₂ => opt (subv v w σ₂) (fun r => Q r σ₂) False) : evK prg C False (.sub a b) ρ σ Q := h
theorem w_and {a : E} {es : Es} (h : evK prg C False a ρ σ fun v σ₁ => asB v (fun c => br c (evK prg C False (.and es) ρ σ₁ Q) (Q (.bool false) σ₁)) False) : evK prg C False (.and (.cons a es)) ρ σ Q := h
theorem w_or {a : E} {es : Es} (h : evK prg C False a ρ σ fun v σ₁ => asB v (fun c => br c (Q (.bool true) σ₁) (evK prg C False (.or es) ρ σ₁ Q)) False) : evK prg C False (.or (.cons a es)) ρ σ Q := h
theorem w_and0 (q : Q (.bool true) σ) : evK prg C False (.and .nil) ρ σ Q := q
theorem w_or0 (q : Q (.bool false) σ) : evK prg C False (.or .nil) ρ σ Q := q
theorem w_ite {t a b : E} (h : evK prg C False t ρ σ fun v σ₁ => asB v (fun c => br c (evK prg C False a ρ σ₁ Q) (evK prg C False b ρ σ₁ Q)) False) : evK prg C False (.ite t a b) ρ σ Q := h
theorem x_iff {t : E} {a b : Ss} (h : evK prg C False t ρ σ fun v σ₁ => asB v (fun c => br c (exsK prg C False a ρ σ₁ K) (exsK prg C False b ρ σ₁ K)) False) : exK prg C False (.iff t a b) ρ σ K := h
theorem x_asg {n : Nat} {e : E} (h : evK prg C False e ρ σ fun v σ₁ => K .nxt (put n v ρ) σ₁) : exK prg C False (.asg (.nam n) e) ρ σ K := h
theorem x_asgS {t : T} {e : E} (h : evK prg C False e ρ σ fun v σ₁ => asgnK prg C False t v ρ σ₁ fun ρ₁ σ₂ => K .nxt ρ₁ σ₂) : exK prg C False (.asg t e) ρ σ K := h
theorem x_ret {e : E} (h : evK prg C False e ρ σ fun v σ₁ => K (.ret v) ρ σ₁) : exK prg C False (.ret e) ρ σ K := h
theorem x_nil (h : K .nxt ρ σ) : exsK prg C False .nil ρ σ K := h
theorem w_int {i : Int} (q : Q (.int i) σ) : evK prg C False (.int i) ρ σ Q := q
theorem w_non (q : Q .none σ) : evK prg C False .none ρ σ Q := q
theorem w_cal1 {f k : Nat} {a : E} (h : evK prg C False a ρ σ fun v σ₁ => C f [v] σ₁ Q) : evK prg C False (.cal f k (.cons a .nil)) ρ σ Q := h
theorem w_cal2 {f k : Nat} {a b : E} (h : evK prg C False a ρ σ fun v σ₁ => evK prg C False b ρ σ₁ fun w σ₂ => C f [v, w] σ₂ Q) : evK prg C False (.cal f k (.cons a (.cons b .nil))) ρ σ Q := h
theorem w_tup2 {a b : E} (h : evK prg C False a ρ σ fun v σ₁ => evK prg C False b ρ σ₁ fun w σ₂ => Q (.tup [v, w]) σ₂) : evK prg C False (.tup (.cons a (.cons b .nil))) ρ σ Q := h
end
theorem call_of {f n : Nat} {fn : Fn} {args : List AV} {ρ : Loc} {σ : Sto} {Q : AV → Sto → Prop} (h1 : fnAt prg.fns f = some fn) (h2 : fn.iso = false) (h3 : bindp fn.params args = some ρ) (h4 : fn.trim = false) (q : exsK prg (runK prg False n) False fn.body ρ σ fun f _ σ' => Q (retv f) σ') : runK prg False (n + 1) f args σ Q := by
  refine opt_of h1 ?_
  refine br_of h2 ?_
  refine opt_of h3 ?_
  rw [h4]
  exact q
theorem go_t {t f : Prop} (h : t) : asB (.bool true) (fun c => br c t f) False := h
theorem go_f {t f : Prop} (h : f) : asB (.bool false) (fun c => br c t f) False := h
section
variable {k : AV → Prop} {σ : Sto} {v : Vec}
theorem eq_int {i j : Int} (q : k (.bool (decide (i = j)))) : cmpK False .eq (.int i) (.int j) σ k := q
theorem is_t (q : k (.bool true)) : cmpK False .is .none .none σ k := q
theorem is_f (q : k (.bool false)) : cmpK False .is v.av .none σ k := q
theorem isnt_t (q : k (.bool true)) : cmpK False .isnot v.av .none σ k := q
theorem isnt_f (q : k (.bool false)) : cmpK False .isnot .none .none σ k := q
end
noncomputable def hA : Option Vec → AV
  | none => .none
  | some v => v.av
noncomputable def heldC (h : Held) : Cell := .dct [(1, hA (h .a)), (2, hA (h .b)), (3, hA (h .c))]
noncomputable def bestA (m : Best) : AV := .tup [m.1.av, rnA m.2]
section
variable {R : Type}
noncomputable def sOne (p : P3) (x : Option Vec) (m : Best) (k : Best → R) : R := match x with
  | none => k m
  | some v => br (!veq (.int v.t2) (.int 10)) (br (vordB .lt (keyA (costL p v) (some p)) (keyA m.1 m.2)) (k (costL p v, some p)) (k m)) (k m)
theorem runK_best (z : R) (b : Br) (x y w : Option Vec) (n : Nat) (k : AV → Sto → R) : runK prg z (n + 2) 81 [.loc 13] (enc b [.dct [(1, hA x), (2, hA y), (3, hA w)]]) k =
    sOne .a x (ownV, none) fun m => sOne .b y m fun m => sOne .c w m fun m => k (bestA m) (enc b [.dct [(1, hA x), (2, hA y), (3, hA w)]]) := by
  cases x <;> cases y <;> cases w <;> kernel_rfl
end
theorem one_eq {R : Type} {h : Held} {p : P3} {m : Best} {k : Best → R} : sOne p (h p) m k = k (pick p (cand h p) m) := by
  unfold sOne cand pick
  cases e : h p with
  | none => rfl
  | some v =>
    dsimp only
    rw [show veq (.int v.t2) (.int 10) = decide (v.t2 = 10) from rfl, key_lt]
    cases e1 : decide (v.t2 = 10) with
    | true => rfl
    | false =>
      dsimp only [less]
      cases lex (keyL (costL p v) (some p)) (keyL m.1 m.2) <;> rfl
noncomputable abbrev kHeld : Nat := 1751477348
noncomputable abbrev kVector : Nat := 130177832349554
noncomputable abbrev kBest : Nat := 1650815860
section
variable {b : Br} {h : Held} {n : Nat} {Q : AV → Sto → Prop} {K : Fl → Loc → Sto → Prop} {p : P3}
theorem best_run (q : Q (bestA (bestOf h)) (enc b [heldC h])) : runK prg False (n + 2) 81 [.loc 13] (enc b [heldC h]) Q := by
  refine Eq.mpr (runK_best False b (h .a) (h .b) (h .c) n Q) ?_
  rw [one_eq (h := h), one_eq (h := h), one_eq (h := h)]
  exact q
noncomputable def Bst (C : KCalls Prop) (b : Br) : Prop := ∀ {h : Held} {Q : AV → Sto → Prop}, Q (bestA (bestOf h)) (enc b [heldC h]) → C 81 [.loc 13] (enc b [heldC h]) Q
noncomputable def Mn (C : KCalls Prop) (b : Br) : Prop := ∀ {h : Held} {p : P3} {Q : AV → Sto → Prop}, Q (mineL h p).av (enc b [heldC h]) → C 82 [.loc 13, .int p.num] (enc b [heldC h]) Q
variable {C : KCalls Prop} {ρ : Loc}
noncomputable abbrev bestE : E := .cal 81 1760250341482800968564 (.cons (.nam kHeld) .nil)
noncomputable abbrev mineE (x : Nat) : E := .cal 82 1760250341482985778789 (.cons (.nam kHeld) (.cons (.nam x) .nil))
theorem w_best (B : Bst C b) (hh : look kHeld ρ = some (.loc 13)) (q : Q (bestA (bestOf h)) (enc b [heldC h])) : evK prg C False bestE ρ (enc b [heldC h]) Q := w_cal1 (w_nam hh (B q))
theorem w_best0 (B : Bst C b) (hh : look kHeld ρ = some (.loc 13)) (q : Q (bestOf h).1.av (enc b [heldC h])) : evK prg C False (.sub bestE (.int 0)) ρ (enc b [heldC h]) Q := w_sub (w_best B hh (w_int (opt_of (v := (bestOf h).1.av) rfl q)))
theorem w_best1 (B : Bst C b) (hh : look kHeld ρ = some (.loc 13)) (q : Q (rnA (bestOf h).2) (enc b [heldC h])) : evK prg C False (.sub bestE (.int 1)) ρ (enc b [heldC h]) Q := w_sub (w_best B hh (w_int (opt_of (v := rnA (bestOf h).2) rfl q)))
theorem mine_ret {v : Vec} {σ : Sto} : exK prg C False (nthS b__law_mine 1) [(kHeld, .loc 13), (kNumber, .int p.num), (kBest, v.av)] σ K = K (.ret (mineV v p).av) [(kHeld, .loc 13), (kNumber, .int p.num), (kBest, v.av)] σ := by
  cases p <;> kernel_rfl
theorem mine_exs (B : Bst C b) (q : K (.ret (mineL h p).av) [(kHeld, .loc 13), (kNumber, .int p.num), (kBest, (bestOf h).1.av)] (enc b [heldC h])) : exsK prg C False (.cons (.asg (.nam kBest) (.sub bestE (.int 0))) (.cons (nthS b__law_mine 1) .nil)) [(kHeld, .loc 13), (kNumber, .int p.num)] (enc b [heldC h]) K := by
  refine x_cons (x_asg (w_best0 B rfl ?_))
  refine x_nxt (x_cons ?_)
  exact Eq.mpr mine_ret q
theorem mine_run : Mn (runK prg False (n + 3)) b := fun {h p Q} q => by
  exact call_of (fn := ⟨[kHeld, kNumber], b__law_mine, false, false⟩) rfl rfl rfl rfl (mine_exs (fun {h Q} q => best_run q) q)
theorem w_mine {x : Nat} (M : Mn C b) (hh : look kHeld ρ = some (.loc 13)) (hx : look x ρ = some (.int p.num)) (q : Q (mineL h p).av (enc b [heldC h])) : evK prg C False (mineE x) ρ (enc b [heldC h]) Q := w_cal2 (w_nam hh (w_nam hx (M q)))
theorem sub_held : subv (.loc 13) (.int p.num) (enc b [heldC h]) = some (hA (h p)) := by cases p <;> kernel_rfl
theorem w_held {x : Nat} {u : Option Vec} (hh : look kHeld ρ = some (.loc 13)) (hx : look x ρ = some (.int p.num)) (e : h p = u) (q : Q (hA u) (enc b [heldC h])) : evK prg C False (.sub (.nam kHeld) (.nam x)) ρ (enc b [heldC h]) Q := by
  subst e
  exact w_sub (w_nam hh (w_nam hx (opt_of sub_held q)))
theorem eq_rn {m : Option P3} {σ : Sto} {k : AV → Prop} (q : k (.bool (isRn p m))) : cmpK False .eq (.int p.num) (rnA m) σ k := by
  rcases m with _ | _ | _ | _ <;> cases p <;> exact q
theorem ne_rn {m : Option P3} {σ : Sto} {k : AV → Prop} (q : k (.bool (!isRn p m))) : cmpK False .ne (.int p.num) (rnA m) σ k := by
  rcases m with _ | _ | _ | _ <;> cases p <;> exact q

noncomputable def roleH (h : Held) (p : P3) : Nat := match h p with
  | none => kDes
  | some v => roleL (bestOf h).2 p v
noncomputable def lrole : Ss := .cons (.iff (.cmp .is (.sub (.nam kHeld) (.nam kNumber)) .none) (.cons (.ret (.str kDes)) .nil) .nil) (.cons (.iff (.cmp .eq (.nam kNumber) (.sub bestE (.int 1))) (.cons (.ret (.str kRoot)) .nil) .nil) (.cons (.ret (.ite (.cmp .eq (.sub (.sub (.sub (.nam kHeld) (.nam kNumber)) (.int 2)) (.int 1)) (.int 10)) (.str kBak) (.str kAlt))) .nil))
theorem lrole_exs (B : Bst C b) (hh : look kHeld ρ = some (.loc 13)) (hn : look kNumber ρ = some (.int p.num)) (q : ∀ ρ, K (.ret (.str (roleH h p))) ρ (enc b [heldC h])) : exsK prg C False lrole ρ (enc b [heldC h]) K := by
  refine x_cons (x_iff (w_cmp ?_))
  unfold roleH at q
  cases e1 : h p with
  | none =>
    rw [e1] at q
    refine w_held hh hn e1 (w_non (is_t (go_t (x_cons ?_))))
    exact q _
  | some v =>
    rw [e1] at q
    refine w_held hh hn e1 (w_non (is_f (go_f (x_nil (x_nxt (x_cons (x_iff (w_cmp (w_nam hn (w_best1 B hh (eq_rn ?_))))))))))) 
    dsimp only at q
    unfold roleL at q
    cases e2 : isRn p (bestOf h).2 with
    | true => rw [e2] at q; exact go_t (q _)
    | false =>
      rw [e2] at q
      refine go_f (x_nil (x_nxt (x_cons (x_ret (w_ite (w_cmp (w_sub (w_sub (w_held hh hn e1 (w_int (opt_of (v := .tup [.int v.t1, .int v.t2]) rfl (w_int (opt_of (v := .int v.t2) rfl (w_int ?_))))))))))))))
      dsimp only at q
      refine eq_int ?_
      cases c : decide (v.t2 = 10) with
      | true => rw [c] at q; exact go_t (q _)
      | false => rw [c] at q; exact go_f (q _)
theorem lrole_run (q : Q (.str (roleH h p)) (enc b [heldC h])) : runK prg False (n + 3) 84 [.loc 13, .int p.num] (enc b [heldC h]) Q := by
  exact call_of (fn := ⟨[kHeld, kNumber], b__law_role, false, false⟩) rfl rfl rfl rfl (lrole_exs (fun {h Q} q => best_run q) rfl rfl fun _ => q)

noncomputable abbrev kOne : Nat := 7302757
noncomputable abbrev kStands : Nat := 126943688025203
noncomputable abbrev kSame : Nat := 32635403253708734518810079860
noncomputable def dropIf : Ss := .cons (.iff (.and (.cons (.cmp .isnot (.sub (.nam kHeld) (.nam kOne)) .none) (.cons (.cmp .ne (.nam kOne) (.sub bestE (.int 1))) (.cons (.cmp .lt (mineE kOne) (.sub (.nam kHeld) (.nam kOne))) .nil)))) (.cons (.asg (.sub (.nam kHeld) (.nam kOne)) .none) .nil) .nil) .nil
theorem put_held {x : Option Vec} {i : Nat} {k : Loc → Sto → Prop} (hh : look kHeld ρ = some (.loc 13)) (hi : look i ρ = some (.int p.num)) (q : k ρ (enc b [heldC (h.put p x)])) : asgnK prg C False (.sub (.nam kHeld) (.nam i)) (hA x) ρ (enc b [heldC h]) k := by
  refine (opt_of hh (opt_of hi ?_) : opt (look kHeld ρ) (fun u => asL u (fun a => opt (look i ρ) _ False) False) False)
  cases p <;> exact q
theorem cmp_lt {v w : Vec} {σ : Sto} {k : AV → Prop} (q : k (.bool (lt v w))) : cmpK False .lt v.av w.av σ k := q
theorem cmp_ne {v w : Vec} {σ : Sto} {k : AV → Prop} (q : k (.bool (!decide (v = w)))) : cmpK False .ne v.av w.av σ k := by
  rw [← veq_vec] at q
  exact q
theorem dropIf_run (B : Bst C b) (M : Mn C b) (hh : look kHeld ρ = some (.loc 13)) (hi : look kOne ρ = some (.int p.num)) (q : K .nxt ρ (enc b [heldC (drop1 h p)])) : exsK prg C False dropIf ρ (enc b [heldC h]) K := by
  refine x_cons (x_iff (w_and (w_cmp ?_)))
  unfold drop1 at q
  cases e : h p with
  | none =>
    rw [e] at q
    refine w_held hh hi e (w_non (isnt_f (go_f ?_)))
    exact q
  | some w =>
    rw [e] at q
    refine w_held hh hi e (w_non (isnt_t (go_t (w_and (w_cmp (w_nam hi (w_best1 B hh (ne_rn ?_))))))))
    dsimp only at q
    unfold gone at q
    cases e4 : isRn p (bestOf h).2 with
    | true => rw [e4] at q; exact q
    | false =>
      rw [e4] at q
      refine go_t (w_and (w_cmp (w_mine M hh hi (w_held hh hi e (cmp_lt ?_)))))
      have E : lt (mineV (bestOf h).1 p) w = lt (mineL h p) w := rfl
      dsimp only at q
      rw [E] at q
      cases e5 : lt (mineL h p) w with
      | false => rw [e5] at q; exact q
      | true =>
        rw [e5] at q
        refine go_t (w_and0 (go_t (x_cons (x_asgS (w_non ?_)))))
        exact put_held (x := none) hh hi q
theorem w_t2 {x : Nat} {v : Vec} {σ : Sto} (hx : look x ρ = some v.av) (q : Q (.int v.t2) σ) : evK prg C False (.sub (.sub (.nam x) (.int 2)) (.int 1)) ρ σ Q := w_sub (w_sub (w_nam hx (w_int (opt_of (v := .tup [.int v.t1, .int v.t2]) rfl (w_int (opt_of (v := .int v.t2) rfl q))))))
theorem w_q2 {x : Nat} {v : Vec} {σ : Sto} (hx : look x ρ = some v.av) (q : Q (.int v.q2) σ) : evK prg C False (.sub (.sub (.nam x) (.int 3)) (.int 1)) ρ σ Q := w_sub (w_sub (w_nam hx (w_int (opt_of (v := .tup [.int v.q1, .int v.q2]) rfl (w_int (opt_of (v := .int v.q2) rfl q))))))
theorem same_run {v s : Vec} {σ : Sto} (h1 : look kVector ρ = some v.av) (h2 : look kStands ρ = some s.av) (q : K .nxt (put kSame (.bool (same v s)) ρ) σ) : exK prg C False (nthS b__law_taken 1) ρ σ K := by
  have e : nthS b__law_taken 1 = .asg (.nam kSame) (.cmp .eq (.tup (.cons (.sub (.sub (.nam kVector) (.int 2)) (.int 1)) (.cons (.sub (.sub (.nam kVector) (.int 3)) (.int 1)) .nil))) (.tup (.cons (.sub (.sub (.nam kStands) (.int 2)) (.int 1)) (.cons (.sub (.sub (.nam kStands) (.int 3)) (.int 1)) .nil)))) := rfl
  rw [e]
  refine x_asg (w_cmp (w_tup2 (w_t2 h1 (w_q2 h1 (w_tup2 (w_t2 h2 (w_q2 h2 ?_)))))))
  unfold same at q
  have E : veq (.tup [.int v.t2, .int v.q2]) (.tup [.int s.t2, .int s.q2]) = (decide (v.t2 = s.t2) && decide (v.q2 = s.q2)) := by
    simp only [veq, veqs]
    cases decide (v.t2 = s.t2) <;> cases decide (v.q2 = s.q2) <;> rfl
  rw [← E] at q
  exact q
noncomputable def takeIf : Ss := .cons (.iff (.and (.cons (.cmp .ne (.nam kVector) (.nam kStands)) (.cons (.or (.cons (.cmp .lt (.nam kVector) (.nam kStands)) (.cons (.nam kSame) .nil))) .nil))) (.cons (.asg (.sub (.nam kHeld) (.nam kNumber)) (.nam kVector)) .nil) .nil) (.cons (.for_ (.nam kOne) (.lst true (.cons (.int 1) (.cons (.int 2) (.cons (.int 3) .nil)))) dropIf) .nil)
theorem take_run {v s : Vec} (hh : look kHeld ρ = some (.loc 13)) (hn : look kNumber ρ = some (.int p.num)) (hv : look kVector ρ = some v.av) (hs : look kStands ρ = some s.av) (ha : look kSame ρ = some (.bool (same v s))) (q : K .nxt ρ (enc b [heldC (match taken v s with | true => h.put p (some v) | false => h)])) :
    exK prg C False (.iff (.and (.cons (.cmp .ne (.nam kVector) (.nam kStands)) (.cons (.or (.cons (.cmp .lt (.nam kVector) (.nam kStands)) (.cons (.nam kSame) .nil))) .nil))) (.cons (.asg (.sub (.nam kHeld) (.nam kNumber)) (.nam kVector)) .nil) .nil) ρ (enc b [heldC h]) K := by
  refine x_iff (w_and (w_cmp (w_nam hv (w_nam hs (cmp_ne ?_)))))
  unfold taken at q
  have put : K .nxt ρ (enc b [heldC (h.put p (some v))]) → exsK prg C False (.cons (.asg (.sub (.nam kHeld) (.nam kNumber)) (.nam kVector)) .nil) ρ (enc b [heldC h]) K := fun q => x_cons (opt_of hv (put_held (x := some v) hh hn q))
  cases c1 : decide (v = s) with
  | true => rw [c1] at q; exact q
  | false =>
    rw [c1] at q
    refine go_t (w_and (w_or (w_cmp (w_nam hv (w_nam hs (cmp_lt ?_))))))
    cases c2 : lt v s with
    | true => rw [c2] at q; exact go_t (go_t (w_and0 (go_t (put q))))
    | false =>
      rw [c2] at q
      refine go_f (w_or (w_nam ha ?_))
      cases c3 : same v s with
      | true => rw [c3] at q; exact go_t (go_t (w_and0 (go_t (put q))))
      | false => rw [c3] at q; exact go_f (w_or0 (go_f q))
noncomputable def takenB : Ss := .cons (.asg (.nam kStands) (.ite (.cmp .is (.sub (.nam kHeld) (.nam kNumber)) .none) (mineE kNumber) (.sub (.nam kHeld) (.nam kNumber)))) (.cons (nthS b__law_taken 1) takeIf)
theorem taken_exs {v : Vec} (B : Bst C b) (M : Mn C b) (q : ∀ ρ, K .nxt ρ (enc b [heldC (drop (match taken v (stands h p) with | true => h.put p (some v) | false => h))])) : exsK prg C False takenB [(kHeld, .loc 13), (kNumber, .int p.num), (kVector, v.av)] (enc b [heldC h]) K := by
  have key : ∀ s : Vec, stands h p = s → exsK prg C False (.cons (nthS b__law_taken 1) takeIf) [(kHeld, .loc 13), (kNumber, .int p.num), (kVector, v.av), (kStands, s.av)] (enc b [heldC h]) K := fun s hs => by
    rw [hs] at q
    refine x_cons (same_run (v := v) (s := s) rfl rfl ?_)
    refine x_nxt (x_cons (take_run (v := v) (s := s) rfl rfl rfl rfl rfl ?_))
    generalize (match taken v s with | true => h.put p (some v) | false => h) = g at q ⊢
    refine x_nxt (x_cons (?_ : loopB C (.nam kOne) dropIf [.int 1, .int 2, .int 3] [(kHeld, .loc 13), (kNumber, .int p.num), (kVector, v.av), (kStands, s.av), (kSame, .bool (same v s))] (enc b [heldC g]) _))
    refine dropIf_run B M (p := .a) (ρ := [(kHeld, .loc 13), (kNumber, .int p.num), (kVector, v.av), (kStands, s.av), (kSame, .bool (same v s)), (kOne, .int 1)]) rfl rfl ?_
    refine dropIf_run B M (p := .b) (ρ := [(kHeld, .loc 13), (kNumber, .int p.num), (kVector, v.av), (kStands, s.av), (kSame, .bool (same v s)), (kOne, .int 2)]) rfl rfl ?_
    exact dropIf_run B M (p := .c) (ρ := [(kHeld, .loc 13), (kNumber, .int p.num), (kVector, v.av), (kStands, s.av), (kSame, .bool (same v s)), (kOne, .int 3)]) rfl rfl (q _)
  clear q
  refine x_cons (x_asg (w_ite (w_cmp ?_)))
  unfold stands at key
  cases e1 : h p with
  | none =>
    rw [e1] at key
    refine w_held (x := kNumber) rfl rfl e1 (w_non (is_t (go_t ?_)))
    exact w_mine M rfl rfl (key _ rfl)
  | some w =>
    rw [e1] at key
    refine w_held (x := kNumber) rfl rfl e1 (w_non (is_f (go_f ?_)))
    exact w_held (x := kNumber) rfl rfl e1 (key _ rfl)
theorem taken_run {v : Vec} (q : Q .none (enc b [heldC (drop (match taken v (stands h p) with | true => h.put p (some v) | false => h))])) : runK prg False (n + 4) 83 [.loc 13, .int p.num, v.av] (enc b [heldC h]) Q := by
  exact call_of (fn := ⟨[kHeld, kNumber, kVector], b__law_taken, false, false⟩) rfl rfl rfl rfl (taken_exs (fun {h Q} q => best_run (n := n + 1) q) (mine_run (n := n)) fun _ => q)
end
end Mine.Pl
namespace Mine.Pl
noncomputable abbrev kRows : Nat := 1919907699
noncomputable abbrev kTold : Nat := 2110960839717139999844
noncomputable abbrev kRootPort : Nat := 2110958589016770835060
noncomputable def p0 (p : P3) : Po := { told := .none, info := kMine, vec := ⟨32768, 10, 0, 32768, 10, 128, p.num⟩, age := 0, ovec := ⟨32768, 10, 0, 32768, 10, 128, p.num⟩, oage := 0, role := kDes, chosen := kDes, sel := true, resel := false, upd := false, prop := true, agree := false, agreed := false, synced := true, rer := false, learn := false, fwd := false, lng := false, fwg := false, new := false, hr := false, tf := 20, tb := 0, ti := 0, tr := 0, tc := 0, sent := 1, cs := kIna, spr := false }
noncomputable def b0 : Br := ⟨ownV, 0, none, p0 .a, p0 .b, p0 .c, 999997, []⟩
noncomputable def h0 : Held := fun _ => none
noncomputable def rowsTold : AV := .fl [.rcd 4 [.int 1, .int 128, .int 4, .bool false, .bool true], .rcd 4 [.int 2, .int 128, .int 7, .bool false, .bool true], .rcd 4 [.int 3, .int 128, .int 4, .bool false, .bool true]]
theorem j0 : J h0 b0 := by
  have I : ∀ p, PInv (p0 p) := fun p => ⟨.inr (.inl rfl), .inr (.inl rfl), fun _ => ⟨rfl, rfl⟩⟩
  have g : ∀ p, b0.get p = p0 p := fun p => by cases p <;> rfl
  refine ⟨⟨⟨I .a, I .b, I .c⟩, fun p => ?_, fun p => ?_, fun p => ?_⟩, rfl, rfl, rfl, fun p => ?_, fun p v h => by cases h⟩
  · rw [g]; exact ⟨rfl, .inr rfl, rfl, rfl, fun h => by cases h⟩
  · rw [g]; rfl
  · rw [g]; rfl
  · cases p <;> rfl
theorem room0 {k : Nat} (h : k ≤ 6) : Room2 k b0 := ⟨by show 1000 * (k + 1) ≤ 999997; omega, by show 0 + 1000 * (k + 1) < 1000000; omega, rfl⟩
noncomputable def elt1 : E := .mth (.nam kBridge) 1919904869 (.cons (.nam kOne) .nil)
noncomputable def elt2 : E := .cal 84 1760250341483070057573 (.cons (.nam kHeld) (.cons (.nam kOne) .nil))
noncomputable def three : E := .lst true (.cons (.int 1) (.cons (.int 2) (.cons (.int 3) .nil)))
noncomputable def bpduE : E := .clk 6 1114662005 (.cons (.int 2) (.cons (.str 491261028708) (.cons (.nam kVector) (.cons (.cls 5 362546029939 (.cons (.int 0) (.cons (.int 20) (.cons (.int 2) (.cons (.int 15) .nil))))) .nil)))) 1919904869 (.str kDes)
noncomputable def c0 : S := .exp (.mth (.nam kBridge) 32199624922592869 (.cons (.nam kNumber) (.cons bpduE .nil)))
noncomputable def c1 : S := .exp (.cal 83 450624087419674289726830 (.cons (.nam kHeld) (.cons (.nam kNumber) (.cons (.nam kVector) .nil))))
noncomputable def c2 : S := .asg (.two (.nam kBest) (.nam kRootPort)) (.cal 81 1760250341482800968564 (.cons (.nam kHeld) .nil))
noncomputable def c3 : S := .iff (.cmp .ne (.tup (.cons (.mth (.nam kBridge) 1919905652 .nil) (.cons (.mth (.nam kBridge) 2110958589016770835060 .nil) .nil))) (.tup (.cons (.sub (.nam kBest) (.int 0)) (.cons (.nam kRootPort) .nil)))) (.cons (.ret (.bool false)) .nil) .nil
noncomputable def c4 : S := .iff (.cmp .ne (.lcp elt1 kOne three) (.lcp elt2 kOne three)) (.cons (.ret (.bool false)) .nil) .nil
noncomputable def bodyR : Ss := .cons c0 (.cons c1 (.cons c2 (.cons c3 (.cons c4 .nil))))
noncomputable def pre4 (ss : Ss) : Ss := .cons (nthS b__law_right 0) (.cons (nthS b__law_right 1) (.cons (nthS b__law_right 2) (.cons (nthS b__law_right 3) ss)))
theorem right_body : b__law_right = pre4 (.cons (.for_ (.two (.nam kNumber) (.nam kVector)) (.nam kRows) bodyR) (.cons (.ret (.bool true)) .nil)) := rfl
noncomputable def rowA (x : P3 × Vec) : AV := .tup [.int x.1.num, x.2.av]
structure Cs (C : KCalls Prop) : Prop where
  bst : ∀ {b : Br}, Bst C b
  root : ∀ {b : Br} {rest : Sto} {ρ : Loc} {Q : AV → Sto → Prop}, look kBridge ρ = some (.loc 0) → Q (.tup [.int b.rv.r1, .int b.rv.r2]) (enc b rest) → evK prg C False (.mth (.nam kBridge) 1919905652 .nil) ρ (enc b rest) Q
  port : ∀ {b : Br} {rest : Sto} {ρ : Loc} {Q : AV → Sto → Prop}, look kBridge ρ = some (.loc 0) → Q (rnA b.rn) (enc b rest) → evK prg C False (.mth (.nam kBridge) 2110958589016770835060 .nil) ρ (enc b rest) Q
  bpdu : ∀ {b : Br} {rest : Sto} {ρ : Loc} {v : Vec} {Q : AV → Sto → Prop}, look kVector ρ = some v.av → Q (bpduA v) (enc b rest) → evK prg C False bpduE ρ (enc b rest) Q
  role : ∀ {b : Br} {rest : Sto} {q : P3} {Q : AV → Sto → Prop}, Q (.str (b.get q).role) (enc b rest) → C 73 [.loc 0, .int q.num] (enc b rest) Q
  lrole : ∀ {b : Br} {h : Held} {p : P3} {Q : AV → Sto → Prop}, Q (.str (roleH h p)) (enc b [heldC h]) → C 84 [.loc 13, .int p.num] (enc b [heldC h]) Q
  taken : ∀ {b : Br} {h : Held} {p : P3} {v : Vec} {Q : AV → Sto → Prop}, Q .none (enc b [heldC (drop (match taken v (stands h p) with | true => h.put p (some v) | false => h))]) → C 83 [.loc 13, .int p.num, v.av] (enc b [heldC h]) Q
  recv : ∀ {b : Br} {p : P3} {v : Vec} {h : Held} {D : Cell} {k : Nat} {Q : AV → Sto → Prop}, J h b → Room2 (k + 1) b → GoodV v → D.under 14 = true → (∀ b', J (takenH h p v) b' → Room2 k b' → Q .none (enc b' [D])) → C 70 [.loc 0, .int p.num, bpduA v] (enc b [D]) Q
theorem role_run {n : Nat} {q : P3} {b : Br} {rest : Sto} {Q : AV → Sto → Prop} : runK prg False (n + 3) 73 [.loc 0, .int q.num] (enc b rest) Q = Q (.str (b.get q).role) (enc b rest) := by
  cases q <;> kernel_rfl
theorem root_run {n : Nat} {b : Br} {rest : Sto} {Q : AV → Sto → Prop} : runK prg False (n + 11) 74 [.loc 0] (enc b rest) Q = Q (.tup [.int b.rv.r1, .int b.rv.r2]) (enc b rest) := by
  kernel_rfl
theorem port_run {n : Nat} {b : Br} {rest : Sto} {Q : AV → Sto → Prop} : runK prg False (n + 11) 75 [.loc 0] (enc b rest) Q = Q (rnA b.rn) (enc b rest) := by
  kernel_rfl
theorem make5 {n : Nat} {σ : Sto} {Q : AV → Sto → Prop} : makeK prg (runK prg False (n + 11)) False 5 [.int 0, .int 20, .int 2, .int 15] σ Q = Q (timesA 0) σ := by
  kernel_rfl
theorem make6 {n : Nat} {σ : Sto} {v : Vec} {Q : AV → Sto → Prop} : opt (findK 6 4 1919904869 prg.dflK) (fun p => makeK prg (runK prg False (n + 11)) False 6 ([.int 2, .str 491261028708, v.av, timesA 0] ++ setn p.2 p.1 (.str kDes)) σ Q) False = Q (bpduA v) σ := by
  kernel_rfl
section
variable {C : KCalls Prop} {ρ : Loc} {σ : Sto} {Q : AV → Sto → Prop}
theorem w_mth0 {n f c x : Nat} {v : AV} (hb : look x ρ = some v) (hc : clsOf v σ = some c) (hm : prg.meth c n = some f) (q : C f [v] σ Q) : evK prg C False (.mth (.nam x) n .nil) ρ σ Q := opt_of hb (opt_of hc (opt_of hm q))
theorem w_mth1 {n f c x : Nat} {v : AV} {a : E} (hb : look x ρ = some v) (hc : clsOf v σ = some c) (hm : prg.meth c n = some f) (q : evK prg C False a ρ σ fun w σ₁ => C f [v, w] σ₁ Q) : evK prg C False (.mth (.nam x) n (.cons a .nil)) ρ σ Q := opt_of hb (opt_of hc (opt_of hm q))
theorem w_mth2 {n f c x : Nat} {v : AV} {a b : E} (hb : look x ρ = some v) (hc : clsOf v σ = some c) (hm : prg.meth c n = some f) (q : evK prg C False a ρ σ fun w σ₁ => evK prg C False b ρ σ₁ fun u σ₂ => C f [v, w, u] σ₂ Q) : evK prg C False (.mth (.nam x) n (.cons a (.cons b .nil))) ρ σ Q := opt_of hb (opt_of hc (opt_of hm q))
theorem w_con {v : AV} (q : Q v σ) : evK prg C False (.con v) ρ σ Q := q
theorem w_clk4 {c k kn : Nat} {a b d e ke : E} (h : evK prg C False a ρ σ fun v1 σ1 => evK prg C False b ρ σ1 fun v2 σ2 => evK prg C False d ρ σ2 fun v3 σ3 => evK prg C False e ρ σ3 fun v4 σ4 => evK prg C False ke ρ σ4 fun v5 σ5 => opt (findK c 4 kn prg.dflK) (fun p => makeK prg C False c ([v1, v2, v3, v4] ++ setn p.2 p.1 v5) σ5 Q) False) :
    evK prg C False (.clk c k (.cons a (.cons b (.cons d (.cons e .nil)))) kn ke) ρ σ Q := h
theorem w_cls4 {c k : Nat} {a b d e : E} (h : evK prg C False a ρ σ fun v1 σ1 => evK prg C False b ρ σ1 fun v2 σ2 => evK prg C False d ρ σ2 fun v3 σ3 => evK prg C False e ρ σ3 fun v4 σ4 => opt (findP c 4 prg.dflP) (fun l => makeK prg C False c ([v1, v2, v3, v4] ++ l) σ4 Q) False) :
    evK prg C False (.cls c k (.cons a (.cons b (.cons d (.cons e .nil))))) ρ σ Q := h
theorem w_bpdu {v : Vec} (h5 : ∀ Q : AV → Sto → Prop, Q (timesA 0) σ → makeK prg C False 5 [.int 0, .int 20, .int 2, .int 15] σ Q) (h6 : ∀ Q : AV → Sto → Prop, Q (bpduA v) σ → opt (findK 6 4 1919904869 prg.dflK) (fun p => makeK prg C False 6 ([.int 2, .str 491261028708, v.av, timesA 0] ++ setn p.2 p.1 (.str kDes)) σ Q) False) (hv : look kVector ρ = some v.av) (q : Q (bpduA v) σ) : evK prg C False bpduE ρ σ Q := by
  refine w_clk4 (w_int (w_con (w_nam hv (w_cls4 (w_int (w_int (w_int (w_int (opt_of (v := []) rfl (h5 _ ?_))))))))))
  exact w_con (h6 Q q)
theorem ne_refl {v : AV} {k : AV → Prop} (hp : v.plain 6 = true) (he : veq v v = true) (q : k (.bool false)) : cmpK False .ne v v σ k := by
  refine br_of (b := true) (by rw [hp]; rfl) ?_
  show k (.bool (!veq v v))
  rw [he]
  exact q
end
theorem cs {n : Nat} : Cs (runK prg False (n + 11)) :=
  ⟨fun {b h Q} q => best_run (n := n + 9) q, fun {b rest ρ Q} hb q => w_mth0 (c := 0) (f := 74) hb rfl rfl (Eq.mpr root_run q), fun {b rest ρ Q} hb q => w_mth0 (c := 0) (f := 75) hb rfl rfl (Eq.mpr port_run q), fun {b rest ρ v Q} hv q => w_bpdu (fun Q q => Eq.mpr make5 q) (fun Q q => Eq.mpr make6 q) hv q, fun {b rest p Q} q => Eq.mpr (role_run (n := n + 8)) q, fun {b h p Q} q => lrole_run (n := n + 8) q, fun {b h p v Q} q => taken_run (n := n + 7) q, fun {b p v h D k Q} j r g d q => receive_run (n := n) j r g d q⟩
theorem x_exp {C : KCalls Prop} {ρ : Loc} {σ : Sto} {e : E} {K : Fl → Loc → Sto → Prop} (h : evK prg C False e ρ σ fun v σ₁ => noVal v (K .nxt ρ σ₁) False) : exK prg C False (.exp e) ρ σ K := h
section
variable {C : KCalls Prop} {b : Br} {h : Held} {ρ : Loc} {p : P3} {v : Vec} {K : Fl → Loc → Sto → Prop} {Q : AV → Sto → Prop} (S : Cs C)
include S
theorem c0_run {k : Nat} {D : Cell} (hb : look kBridge ρ = some (.loc 0)) (hn : look kNumber ρ = some (.int p.num)) (hv : look kVector ρ = some v.av) (j : J h b) (r : Room2 (k + 1) b) (gv : GoodV v) (hD : D.under 14 = true)
    (hK : ∀ b', J (takenH h p v) b' → Room2 k b' → K .nxt ρ (enc b' [D])) : exK prg C False c0 ρ (enc b [D]) K := by
  refine x_exp (w_mth2 (c := 0) (f := 70) hb rfl rfl (w_nam hn (S.bpdu hv ?_)))
  exact S.recv j r gv hD hK
theorem c1_run (hh : look kHeld ρ = some (.loc 13)) (hn : look kNumber ρ = some (.int p.num)) (hv : look kVector ρ = some v.av) (q : K .nxt ρ (enc b [heldC (drop (match taken v (stands h p) with | true => h.put p (some v) | false => h))])) :
    exK prg C False c1 ρ (enc b [heldC h]) K := by
  refine opt_of hh ?_
  refine opt_of hn ?_
  refine opt_of hv ?_
  exact S.taken q
theorem c2_run (hh : look kHeld ρ = some (.loc 13)) (q : K .nxt (put kRootPort (rnA (bestOf h).2) (put kBest (bestOf h).1.av ρ)) (enc b [heldC h])) : exK prg C False c2 ρ (enc b [heldC h]) K := x_asgS (w_best S.bst hh q)
theorem c3_run {m : Best} {rest : Sto} (hb : look kBridge ρ = some (.loc 0)) (h1 : look kBest ρ = some m.1.av) (h2 : look kRootPort ρ = some (rnA m.2)) (e1 : b.rv = m.1) (e2 : b.rn = m.2) (q : K .nxt ρ (enc b rest)) : exK prg C False c3 ρ (enc b rest) K := by
  refine x_iff (w_cmp (w_tup2 (S.root hb (S.port hb (w_tup2 (w_sub (w_nam h1 (w_int (opt_of (v := .tup [.int m.1.r1, .int m.1.r2]) rfl (w_nam h2 ?_))))))))))
  rw [e1, e2]
  have vq : ∀ x : Option P3, veq (AV.tup [.tup [.int m.1.r1, .int m.1.r2], rnA x]) (AV.tup [.tup [.int m.1.r1, .int m.1.r2], rnA x]) = true := fun x => by
    rcases x with _ | _ | _ | _ <;> simp only [rnA, veq, veqs, decide_true]
  exact ne_refl (by rcases m.2 with _ | _ | _ | _ <;> rfl) (vq m.2) (go_f (x_nil q))
omit S in
theorem lcp_run {elt : E} {f : P3 → AV} {σ : Sto} (he : ∀ {q : P3} {Q : AV → Sto → Prop}, Q (f q) σ → evK prg C False elt ((kOne, .int q.num) :: ρ) σ Q) (q : Q (.fl [f .a, f .b, f .c]) σ) : evK prg C False (.lcp elt kOne three) ρ σ Q :=
  he (q := .a) (he (q := .b) (he (q := .c) q))
theorem c4_run (hb : look kBridge ρ = some (.loc 0)) (hh : look kHeld ρ = some (.loc 13)) (hr : ∀ q, (b.get q).role = roleH h q) (q : K .nxt ρ (enc b [heldC h])) : exK prg C False c4 ρ (enc b [heldC h]) K := by
  refine x_iff (w_cmp ?_)
  refine lcp_run (f := fun q => .str (roleH h q)) (fun {p Q} q => ?_) (lcp_run (f := fun q => .str (roleH h q)) (fun {p Q} q => ?_) ?_)
  · refine w_mth1 (c := 0) (f := 73) (v := .loc 0) hb rfl rfl (w_nam rfl (S.role ?_))
    rw [hr p]
    exact q
  · exact w_cal2 (w_nam (v := .loc 13) hh (w_nam rfl (S.lrole q)))
  · exact ne_refl rfl (by simp only [veq, veqs, Nat.beq_refl]) (go_f (x_nil q))
omit S in
theorem held_under : (heldC h).under 14 = true := by
  have : ∀ x : Option Vec, (hA x).under 14 = true := fun x => by cases x <;> rfl
  show ((hA (h .a)).under 14 && ((hA (h .b)).under 14 && ((hA (h .c)).under 14 && true))) = true
  rw [this, this, this]; rfl
omit S in
theorem drop_idle (j : J h b) : drop h = h := by
  funext q
  rw [drop_at]
  unfold dropQ
  cases e : h q with
  | none => rfl
  | some w => simp only [(j.good q w e).2]
theorem row_run {k : Nat} (hb : look kBridge ρ = some (.loc 0)) (hh : look kHeld ρ = some (.loc 13)) (hn : look kNumber ρ = some (.int p.num)) (hv : look kVector ρ = some v.av) (j : J h b) (r : Room2 (k + 1) b) (gv : GoodV v)
    (hK : ∀ ρ' b' h', J h' b' → Room2 k b' → look kBridge ρ' = some (.loc 0) → look kHeld ρ' = some (.loc 13) → K .nxt ρ' (enc b' [heldC h'])) : exsK prg C False bodyR ρ (enc b [heldC h]) K := by
  refine x_cons (c0_run S hb hn hv j r gv held_under fun b' j' r' => ?_)
  refine x_nxt (x_cons (c1_run S hh hn hv ?_))
  have hd : drop (match taken v (stands h p) with | true => h.put p (some v) | false => h) = takenH h p v := by
    unfold takenH
    cases taken v (stands h p) with
    | true => rfl
    | false => exact drop_idle j
  rw [hd]
  generalize takenH h p v = g at j'
  refine x_nxt (x_cons (c2_run S hh ?_))
  have lb : look kBridge (put kRootPort (rnA (bestOf g).2) (put kBest (bestOf g).1.av ρ)) = some (.loc 0) := (look_put_ne rfl).trans ((look_put_ne rfl).trans hb)
  have lh : look kHeld (put kRootPort (rnA (bestOf g).2) (put kBest (bestOf g).1.av ρ)) = some (.loc 13) := (look_put_ne rfl).trans ((look_put_ne rfl).trans hh)
  refine x_nxt (x_cons (c3_run S (m := bestOf g) lb ((look_put_ne rfl).trans look_put_same) look_put_same j'.rv j'.rn ?_))
  refine x_nxt (x_cons (c4_run S lb lh (fun q => ?_) ?_))
  · rw [j'.rest.role q, (j'.port q).chosen, j'.rn]; rfl
  · exact hK _ b' g j' r' lb lh
theorem rows_run : ∀ (l : List (P3 × Vec)) {ρ : Loc} {b : Br} {h : Held}, (∀ x ∈ l, GoodV x.2) → look kBridge ρ = some (.loc 0) → look kHeld ρ = some (.loc 13) → J h b → Room2 l.length b → (∀ ρ' σ', K .nxt ρ' σ') →
    loopB C (.two (.nam kNumber) (.nam kVector)) bodyR (l.map rowA) ρ (enc b [heldC h]) K
  | [], ρ, b, h, _, _, _, _, _, hK => hK ρ _
  | x :: l, ρ, b, h, hg, hb, hh, j, r, hK =>
    row_run S (ρ := put kVector x.2.av (put kNumber (.int x.1.num) ρ)) ((look_put_ne rfl).trans ((look_put_ne rfl).trans hb)) ((look_put_ne rfl).trans ((look_put_ne rfl).trans hh)) ((look_put_ne rfl).trans look_put_same) look_put_same j r (hg x (.head _)) fun ρ' b' h' j' r' l1 l2 =>
      rows_run l (fun y hy => hg y (.tail _ hy)) l1 l2 j' r' hK
end
theorem rows_frees : ∀ l : List (P3 × Vec), AV.frees (l.map rowA) = true
  | [] => rfl
  | x :: l => by
    show (true && AV.frees (l.map rowA)) = true
    rw [rows_frees l]; rfl
theorem pre_run {L : List AV} {ss : Ss} {K : Fl → Loc → Sto → Prop} : exsK prg (runK prg False 11) False (pre4 ss) [(kRows, .fl L)] [] K = exsK prg (runK prg False 11) False ss [(kRows, .fl L), (kTold, rowsTold), (kBridge, .loc 0), (kHeld, .loc 13), (kNumber, .int 3)] (enc b0 [heldC h0]) K := by
  kernel_rfl
theorem iso_of {C : KCalls Prop} {f : Nat} {fn : Fn} {args : List AV} {ρ : Loc} {σ : Sto} {Q : AV → Sto → Prop} (h1 : fnAt prg.fns f = some fn) (h2 : fn.iso = true) (h3 : AV.frees args = true) (h4 : bindp fn.params args = some ρ) (h5 : fn.trim = false) (q : exsK prg C False fn.body ρ [] fun f _ σ' => br (retv f).free (Q (retv f) σ) False) : stepK prg C False f args σ Q := by
  refine opt_of h1 (br_of h2 (br_of h3 (opt_of h4 ?_)))
  rw [h5]
  exact q
theorem x_forL {C : KCalls Prop} {ρ : Loc} {σ : Sto} {K : Fl → Loc → Sto → Prop} {t : T} {x : Nat} {b : Ss} {l : List AV} (h : look x ρ = some (.fl l)) (q : loopB C t b l ρ σ K) : exK prg C False (.for_ t (.nam x) b) ρ σ K := opt_of h q
theorem right_exs {C : KCalls Prop} {l : List (P3 × Vec)} {Q : AV → Sto → Prop} (S : Cs C) (hl : l.length ≤ 6) (hg : ∀ x ∈ l, GoodV x.2) {σ : Sto} (q : Q (.bool true) σ) (pre : ∀ {L : List AV} {ss : Ss} {K : Fl → Loc → Sto → Prop}, exsK prg C False (pre4 ss) [(kRows, .fl L)] [] K = exsK prg C False ss [(kRows, .fl L), (kTold, rowsTold), (kBridge, .loc 0), (kHeld, .loc 13), (kNumber, .int 3)] (enc b0 [heldC h0]) K) :
    exsK prg C False (pre4 (.cons (.for_ (.two (.nam kNumber) (.nam kVector)) (.nam kRows) bodyR) (.cons (.ret (.bool true)) .nil))) [(kRows, .fl (l.map rowA))] [] fun f _ σ' => br (retv f).free (Q (retv f) σ) False :=
  Eq.mpr pre (x_cons (x_forL (l := l.map rowA) rfl (rows_run S l hg rfl rfl j0 (room0 hl) fun ρ' σ' => x_nxt (x_cons (x_ret (w_con q))))))
structure Ok (p : Prop) : Prop where
  h : p
theorem run_of_step {n f : Nat} {args : List AV} {σ : Sto} {Q : AV → Sto → Prop} (h : Ok (stepK prg (runK prg False n) False f args σ Q)) : Ok (runK prg False (n + 1) f args σ Q) := ⟨h.h⟩
theorem right_step {C : KCalls Prop} {l : List (P3 × Vec)} {Q : AV → Sto → Prop} (S : Cs C) (hl : l.length ≤ 6) (hg : ∀ x ∈ l, GoodV x.2) {σ : Sto} (q : Q (.bool true) σ) (pre : ∀ {L : List AV} {ss : Ss} {K : Fl → Loc → Sto → Prop}, exsK prg C False (pre4 ss) [(kRows, .fl L)] [] K = exsK prg C False ss [(kRows, .fl L), (kTold, rowsTold), (kBridge, .loc 0), (kHeld, .loc 13), (kNumber, .int 3)] (enc b0 [heldC h0]) K) :
    Ok (stepK prg C False 85 [.fl (l.map rowA)] σ Q) := ⟨iso_of (fn := ⟨[kRows], b__law_right, false, true⟩) rfl rfl (show (AV.frees (l.map rowA) && true) = true by rw [rows_frees]; rfl) rfl rfl (right_exs S hl hg q @pre)⟩
theorem right_run {l : List (P3 × Vec)} {Q : AV → Sto → Prop} (hl : l.length ≤ 6) (hg : ∀ x ∈ l, GoodV x.2) {σ : Sto} (q : Q (.bool true) σ) : Ok (runK prg False 12 85 [.fl (l.map rowA)] σ Q) :=
  run_of_step (n := 11) (right_step (cs (n := 0)) hl hg q @pre_run)
end Mine.Pl
namespace Mine.Pl
noncomputable abbrev kSource : Nat := 126922548994917
noncomputable abbrev kTop : Nat := 7630704
noncomputable abbrev kThings : Nat := 127991794263923
noncomputable abbrev kTeller : Nat := 127978959562098
noncomputable abbrev nRoot : Nat := 1919905652
noncomputable def src (x y : Int) : Sto := [.lst [.int x, .int y]]
section
variable {R : Type}
noncomputable def sTake (z : R) (x y top : Int) (k : Int → Int → Int → R) : R :=
  let y' := (y * 39373 + 7).fmod 2147483647
  br (decide (x > 0)) (br (decide (top = 0)) z (br (decide (top = 0) || !small top) z (k (x.fmod top) (x.fdiv top) y)))
    (br (small y || small 39373) (br (small y' || small y') (br (decide (top = 0)) z (k ((((y' * y').fmod 2147483629).fdiv 32).fmod top) x y')) z) z)
theorem runK_take (z : R) (x y top : Int) (n : Nat) (k : AV → Sto → R) : runK prg z (n + 1) 77 [.loc 0, .int top] (src x y) k = sTake z x y top fun d x' y' => k (.int d) (src x' y') := by
  kernel_rfl
end
theorem small_of {i : Int} (h1 : 0 ≤ i) (h2 : i < 18446744073709551616) : small i = true := by
  unfold small
  refine blt_t ?_
  have : (2 : Nat) ^ 64 = 18446744073709551616 := by decide
  omega
theorem or_t {c d : Bool} (h : d = true) : (c || d) = true := by rw [h, Bool.or_true]
noncomputable def Take (C : KCalls Prop) : Prop := ∀ {x y top : Int} {Q : AV → Sto → Prop}, 0 < top → top < 10 → (∀ d x' y', 0 ≤ d → d < top → Q (.int d) (src x' y')) → C 77 [.loc 0, .int top] (src x y) Q
noncomputable def One (C : KCalls Prop) : Prop := ∀ {x y : Int} {a b c d : AV} {Q : AV → Sto → Prop}, (∀ r x' y', (r = a ∨ r = b ∨ r = c ∨ r = d) → Q r (src x' y')) → C 78 [.loc 0, .fl [a, b, c, d]] (src x y) Q
noncomputable def VecC (C : KCalls Prop) : Prop := ∀ {x y : Int} {Q : AV → Sto → Prop}, (∀ v x' y', GoodV v → Q v.av (src x' y')) → C 80 [.loc 0] (src x y) Q
theorem take_ok {n : Nat} : Take (runK prg False (n + 1)) := fun {x y top Q} h1 h2 hq => by
  refine Eq.mpr (runK_take False x y top n Q) ?_
  have nz : decide (top = 0) = false := decide_eq_false (by omega)
  have st : small top = true := small_of (by omega) (by omega)
  unfold sTake
  dsimp only
  rw [nz, st]
  refine br_ok (fun _ => hq _ _ _ (Int.fmod_nonneg_of_pos _ h1) (Int.fmod_lt_of_pos _ h1)) fun _ => br_of (or_t rfl) (br_of (or_t (small_of (Int.fmod_nonneg_of_pos _ (by decide)) ?_)) (hq _ _ _ (Int.fmod_nonneg_of_pos _ h1) (Int.fmod_lt_of_pos _ h1)))
  exact Int.lt_trans (Int.fmod_lt_of_pos (y * 39373 + 7) (b := 2147483647) (by decide)) (by decide)
section
variable {C : KCalls Prop} {ρ : Loc} {σ : Sto} {Q : AV → Sto → Prop} {K : Fl → Loc → Sto → Prop} {x y : Int}
theorem w_add {a : E} {i : Int} (h : evK prg C False a ρ σ fun w σ₁ => asI w (fun j => Q (.int (i + j)) σ₁) False) : evK prg C False (.bin .add (.int i) a) ρ σ Q := h
theorem w_len4 {a b c d : AV} {x : Nat} (hx : look x ρ = some (.fl [a, b, c, d])) (q : Q (.int 4) σ) : evK prg C False (.len (.nam x)) ρ σ Q := opt_of hx q
noncomputable abbrev takeE (i : Int) : E := .cal 77 1760250341483102694245 (.cons (.nam kSource) (.cons (.int i) .nil))
theorem w_take (T : Take C) {top : Int} (hs : look kSource ρ = some (.loc 0)) (h1 : 0 < top) (h2 : top < 10) (q : ∀ d x' y', 0 ≤ d → d < top → Q (.int d) (src x' y')) : evK prg C False (takeE top) ρ (src x y) Q := w_cal2 (w_nam hs (w_int (T h1 h2 q)))
theorem one_exs (T : Take C) {a b c d : AV} (hq : ∀ r x' y' ρ, (r = a ∨ r = b ∨ r = c ∨ r = d) → K (.ret r) ρ (src x' y')) : exsK prg C False b__law_one [(kSource, .loc 0), (kThings, .fl [a, b, c, d])] (src x y) K := by
  refine x_cons (x_ret (w_sub (w_nam rfl (w_cal2 (w_nam rfl (w_len4 rfl (T (by decide) (by decide) fun i x' y' h1 h2 => ?_)))))))
  have : i = 0 ∨ i = 1 ∨ i = 2 ∨ i = 3 := by omega
  rcases this with rfl | rfl | rfl | rfl
  · exact opt_of (v := a) rfl (hq a x' y' _ (.inl rfl))
  · exact opt_of (v := b) rfl (hq b x' y' _ (.inr (.inl rfl)))
  · exact opt_of (v := c) rfl (hq c x' y' _ (.inr (.inr (.inl rfl))))
  · exact opt_of (v := d) rfl (hq d x' y' _ (.inr (.inr (.inr rfl))))
theorem one_ok {n : Nat} : One (runK prg False (n + 2)) := fun {x y a b c d Q} hq =>
  call_of (fn := ⟨[kSource, kThings], b__law_one, false, false⟩) rfl rfl rfl rfl (one_exs take_ok fun r x' y' _ h => hq r x' y' h)
noncomputable def fourA (p : Int × Int) : AV := .tup [.int p.1, .int p.2]
theorem w_one {k : Nat} {es : Es} {p1 p2 p3 p4 : Int × Int} (O : One C) (hs : look kSource ρ = some (.loc 0)) (he : ∀ {σ : Sto} {Q : AV → Sto → Prop}, Q (.fl [fourA p1, fourA p2, fourA p3, fourA p4]) σ → evK prg C False (.lst true es) ρ σ Q) (hq : ∀ p x' y', Q (fourA p) (src x' y')) :
    evK prg C False (.cal 78 k (.cons (.nam kSource) (.cons (.lst true es) .nil))) ρ (src x y) Q :=
  w_cal2 (w_nam hs (he (O fun r x' y' h => by
    rcases h with rfl | rfl | rfl | rfl
    · exact hq p1 x' y'
    · exact hq p2 x' y'
    · exact hq p3 x' y'
    · exact hq p4 x' y')))
noncomputable def es1 : Es := .cons (.tup (.cons (.int 4096) (.cons (.int 10) .nil))) (.cons (.tup (.cons (.int 4096) (.cons (.int 3) .nil))) (.cons (.tup (.cons (.int 32768) (.cons (.int 10) .nil))) (.cons (.tup (.cons (.int 61440) (.cons (.int 10) .nil))) .nil)))
noncomputable def es2 : Es := .cons (.tup (.cons (.int 4096) (.cons (.int 10) .nil))) (.cons (.tup (.cons (.int 32768) (.cons (.int 10) .nil))) (.cons (.tup (.cons (.int 61440) (.cons (.int 10) .nil))) (.cons (.tup (.cons (.int 8192) (.cons (.int 3) .nil))) .nil)))
noncomputable def vectorB : Ss := .cons (.asg (.nam nRoot) (.cal 78 6875977896418045541 (.cons (.nam kSource) (.cons (.lst true es1) .nil)))) (.cons (.asg (.nam kTeller) (.cal 78 6875977896418045541 (.cons (.nam kSource) (.cons (.lst true es2) .nil)))) (.cons (.ret (.tup (.cons (.nam nRoot) (.cons (takeE 3) (.cons (.nam kTeller) (.cons (.tup (.cons (.int 128) (.cons (.bin .add (.int 1) (takeE 3)) .nil))) .nil)))))) .nil))
theorem w_tup4 {a b d e : E} (h : evK prg C False a ρ σ fun v1 σ1 => evK prg C False b ρ σ1 fun v2 σ2 => evK prg C False d ρ σ2 fun v3 σ3 => evK prg C False e ρ σ3 fun v4 σ4 => Q (.tup [v1, v2, v3, v4]) σ4) : evK prg C False (.tup (.cons a (.cons b (.cons d (.cons e .nil))))) ρ σ Q := h
theorem vector_exs (T : Take C) (O : One C) (hq : ∀ v x' y' ρ, GoodV v → K (.ret v.av) ρ (src x' y')) : exsK prg C False vectorB [(kSource, .loc 0)] (src x y) K := by
  refine x_cons (x_asg (w_one (p1 := (4096, 10)) (p2 := (4096, 3)) (p3 := (32768, 10)) (p4 := (61440, 10)) O rfl (fun {σ Q} q => q) fun p x1 y1 => ?_))
  refine x_nxt (x_cons (x_asg (w_one (p1 := (4096, 10)) (p2 := (32768, 10)) (p3 := (61440, 10)) (p4 := (8192, 3)) O rfl (fun {σ Q} q => q) fun r x2 y2 => ?_)))
  refine x_nxt (x_cons (x_ret (w_tup4 (w_nam (v := fourA p) rfl (w_take T rfl (by decide) (by decide) fun c x3 y3 c1 c2 => w_nam (v := fourA r) rfl (w_tup2 (w_int (w_add (w_take T rfl (by decide) (by decide) fun d x4 y4 d1 d2 => ?_)))))))))
  exact hq ⟨p.1, p.2, c, r.1, r.2, 128, 1 + d⟩ x4 y4 _ ⟨c1, Int.le_of_lt_add_one c2⟩
theorem vector_ok {n : Nat} : VecC (runK prg False (n + 3)) := fun {x y Q} hq =>
  call_of (fn := ⟨[kSource], b__law_vector, false, false⟩) rfl rfl rfl rfl (vector_exs take_ok one_ok fun v x' y' _ h => hq v x' y' h)
noncomputable def rowE : E := .tup (.cons (.bin .add (.int 1) (takeE 3)) (.cons (.cal 80 115359766379438834239958898 (.cons (.nam kSource) .nil)) .nil))
theorem row_ev (T : Take C) (V : VecC C) (hs : look kSource ρ = some (.loc 0)) (hq : ∀ (z : P3 × Vec) x' y', GoodV z.2 → Q (rowA z) (src x' y')) : evK prg C False rowE ρ (src x y) Q := by
  refine w_tup2 (w_add (w_take T hs (by decide) (by decide) fun d x1 y1 d1 d2 => w_cal1 (k := 115359766379438834239958898) (w_nam hs (V fun v x2 y2 gv => ?_))))
  have : d = 0 ∨ d = 1 ∨ d = 2 := by omega
  rcases this with rfl | rfl | rfl
  · exact hq (.a, v) x2 y2 gv
  · exact hq (.b, v) x2 y2 gv
  · exact hq (.c, v) x2 y2 gv
theorem rows_ev {i : Nat} (T : Take C) (V : VecC C) (hs : look kSource ρ = some (.loc 0)) (hi : Nat.beq kSource i = false) : ∀ (l : List AV) {x y : Int} {Q : List AV → Sto → Prop}, (∀ (zs : List (P3 × Vec)) x' y', (∀ z ∈ zs, GoodV z.2) → zs.length = l.length → Q (zs.map rowA) (src x' y')) →
    loopLK (fun u τ k' => evK prg C False rowE ((i, u) :: ρ) τ k') l (src x y) Q
  | [], x, y, Q, hq => hq [] x y (fun _ h => nomatch h) rfl
  | u :: l, x, y, Q, hq => by
    have hs2 : look kSource ((i, u) :: ρ) = some (.loc 0) := by
      unfold look; rw [hi]; exact hs
    refine row_ev T V (Q := fun w σ' => loopLK (fun u τ k' => evK prg C False rowE ((i, u) :: ρ) τ k') l σ' fun ws σ'' => Q (w :: ws) σ'') hs2 fun z x1 y1 g => ?_
    refine rows_ev T V hs hi l fun zs x2 y2 gs hl => hq (z :: zs) x2 y2 (fun w hw => ?_) (congrArg Nat.succ hl)
    cases hw with
    | head => exact g
    | tail _ h => exact gs w h
noncomputable abbrev kScript : Nat := 126870958469236
noncomputable abbrev kCl : Nat := 1667591276
noncomputable def poolT : Ss := .cons (nthS b__law_pool 2) (.cons (nthS b__law_pool 3) (.cons (nthS b__law_pool 4) .nil))
theorem pool_body : b__law_pool = .cons (.asg (.nam kCl) (.int 0)) (.cons (.iff (.cmp .lt (.nam 107) (.len (.nam kScript))) (.cons (.asg (.nam kCl) (.sub (.nam kScript) (.nam 107))) .nil) .nil) poolT) := rfl
theorem poolT_eq {L : List AV} {c : Int} : exsK prg C False poolT [(kScript, .fl L), (107, .int 0), (kCl, .int c)] [] K =
        (let big := imx c (-1 - c)
         let m : Int := ((big.fmod 2147483629 + 7919 * 0 * 0 + 31 * 0 + 17) * 48271)
         let g : Int := match decide (big ≥ 1000000000000000000) with | true => 1 | false => 0
         br (small (big.fmod 2147483629 + 7919 * 0 * 0 + 31 * 0 + 17) || small 48271) (br (small big || small g) (K (.ret (.loc 0)) [(kScript, .fl L), (107, .int 0), (kCl, .int c), (6449511, .int big), (469920933220, .int (m.fmod 2147483647))] (src (big * g) (m.fmod 2147483647))) False) False) := by
  kernel_rfl
theorem poolT_ok {L : List AV} {c : Int} (hq : ∀ ρ x y, K (.ret (.loc 0)) ρ (src x y)) : exsK prg C False poolT [(kScript, .fl L), (107, .int 0), (kCl, .int c)] [] K := by
  rw [poolT_eq]
  refine br_of (or_t rfl) (br_of (or_t ?_) (hq _ _ _))
  cases decide (imx c (-1 - c) ≥ 1000000000000000000) <;> rfl
theorem asB_t {c : Bool} {k : Bool → Prop} (h : k c) : asB (.bool c) k False := h
theorem lt_int {i j : Int} {k : AV → Prop} {σ : Sto} (q : k (.bool (decide (i < j)))) : cmpK False .lt (.int i) (.int j) σ k := q
theorem w_len {L : List AV} {x : Nat} (hx : look x ρ = some (.fl L)) (hl : L.length < 4611686018427387904) (q : Q (.int L.length) σ) : evK prg C False (.len (.nam x)) ρ σ Q := opt_of hx (br_of (blt_t hl) q)
theorem pool_exs {zl : List Int} (hl : zl.length ≤ 63) (hq : ∀ ρ x y, K (.ret (.loc 0)) ρ (src x y)) : exsK prg C False b__law_pool [(kScript, .fl (zl.map .int)), (107, .int 0)] [] K := by
  rw [pool_body]
  refine x_cons (x_asg (w_int ?_))
  refine x_nxt (x_cons (x_iff (w_cmp (w_nam (v := .int 0) rfl (w_len (L := zl.map .int) rfl ?_ (lt_int ?_))))))
  · rw [List.length_map]
    exact Nat.lt_of_le_of_lt hl (by decide)
  · cases zl with
    | nil => exact go_f (x_nil (x_nxt (poolT_ok hq)))
    | cons i r =>
      have e : decide ((0 : Int) < (((i :: r).map AV.int).length : Int)) = true := decide_eq_true (by rw [List.length_map, List.length_cons]; omega)
      rw [e]
      exact go_t (x_cons (x_asg (w_sub (w_nam (v := .fl ((i :: r).map .int)) rfl (w_nam (v := .int 0) rfl (opt_of (v := .int i) rfl (x_nxt (x_nil (x_nxt (poolT_ok hq))))))))))
theorem pool_run {zl : List Int} {n : Nat} (hl : zl.length ≤ 63) (hq : ∀ x y, Q (.loc 0) (src x y)) : runK prg False (n + 1) 76 [.fl (zl.map .int), .int 0] [] Q :=
  call_of (fn := ⟨[kScript, 107], b__law_pool, false, false⟩) rfl rfl rfl rfl (pool_exs hl fun _ x y => hq x y)
noncomputable def firstE : Es := .cons (.lst true (.cons (.tup (.cons (.int 1) (.cons (.tup (.cons (.tup (.cons (.int 4096) (.cons (.int 10) .nil))) (.cons (.int 0) (.cons (.tup (.cons (.int 4096) (.cons (.int 10) .nil))) (.cons (.tup (.cons (.int 128) (.cons (.int 2) .nil))) .nil))))) .nil))) .nil)) .nil
noncomputable def lawB : Ss := .cons (.iff (.not (.cal 85 450624087419665833748596 firstE)) (.cons (.ret (.bool false)) .nil) .nil) (.cons (.asg (.nam kSource) (.cal 76 1760250341483036503916 (.cons (.nam kScript) (.cons (.int 0) .nil)))) (.cons (.ret (.cal 85 450624087419665833748596 (.cons (.lcp rowE 1953854062 (.rng (.bin .add (.int 2) (takeE 4)))) .nil))) .nil))
noncomputable def RightC (C : KCalls Prop) : Prop := ∀ {l : List (P3 × Vec)} {σ : Sto} {Q : AV → Sto → Prop}, l.length ≤ 6 → (∀ x ∈ l, GoodV x.2) → Q (.bool true) σ → Ok (C 85 [.fl (l.map rowA)] σ Q)
theorem w_not {a : E} (h : evK prg C False a ρ σ fun v σ₁ => asB v (fun b => Q (.bool (!b)) σ₁) False) : evK prg C False (.not a) ρ σ Q := h
theorem w_lcp {elt it : E} {x : Nat} (h : evK prg C False it ρ σ fun v σ₁ => itemsK False v σ₁ fun l h => noneH h (br (Nat.blt l.length 1000000) (loopLK (fun u τ k' => evK prg C False elt ((x, u) :: ρ) τ k') l σ₁ fun ws σ₂ => Q (.fl ws) σ₂) False) False) : evK prg C False (.lcp elt x it) ρ σ Q := h
theorem w_rng {a : E} (h : evK prg C False a ρ σ fun v σ₁ => asI v (fun i => br (idx i) (Q (.rg i) σ₁) False) False) : evK prg C False (.rng a) ρ σ Q := h
theorem law_exs {zl : List Int} (hl : zl.length ≤ 63) (R : RightC C) (T : Take C) (V : VecC C) (P : ∀ {Q : AV → Sto → Prop}, (∀ x y, Q (.loc 0) (src x y)) → C 76 [.fl (zl.map .int), .int 0] [] Q) (hq : ∀ ρ σ, K (.ret (.bool true)) ρ σ) : Ok (exsK prg C False lawB [(kScript, .fl (zl.map .int))] [] K) := by
  constructor
  have g1 : ∀ z ∈ [((.a, ⟨4096, 10, 0, 4096, 10, 128, 2⟩) : P3 × Vec)], GoodV z.2 := fun z hz => by
    rw [List.mem_singleton] at hz
    subst hz
    exact ⟨by decide, by decide⟩
  refine x_cons (x_iff (w_not (w_cal1 ?_)))
  refine (R (l := [((.a, ⟨4096, 10, 0, 4096, 10, 128, 2⟩) : P3 × Vec)]) (by decide) g1 (asB_t (go_f (x_nil ?_)))).h
  refine x_nxt (x_cons (x_asg (w_cal2 (w_nam (v := .fl (zl.map .int)) rfl (w_int (P fun x y => ?_))))))
  refine x_nxt (x_cons (x_ret (w_cal1 (w_lcp (w_rng (w_add (w_take T rfl (by decide) (by decide) fun d x1 y1 d1 d2 => ?_)))))))
  have e0 : 0 ≤ 2 + d := by omega
  have ix : idx (2 + d) = true := by
    unfold idx
    rw [decide_eq_true e0, decide_eq_true (by omega : 2 + d < 4611686018427387904)]; rfl
  have nn : (2 + d).toNat ≤ 5 := by omega
  refine br_of ix (br_of ix (br_of (blt_t ?_) (rows_ev T V rfl rfl (upto 0 (2 + d).toNat) fun zs x2 y2 gs hz => (R ?_ gs (hq _ _)).h)))
  · rw [upto_len]; omega
  · rw [hz, upto_len]; omega
theorem step_of {f : Nat} {fn : Fn} {args : List AV} (h1 : fnAt prg.fns f = some fn) (h2 : fn.iso = false) (h3 : bindp fn.params args = some ρ) (h4 : fn.trim = false) (q : exsK prg C False fn.body ρ σ fun f _ σ' => Q (retv f) σ') : stepK prg C False f args σ Q := by
  refine opt_of h1 (br_of h2 (opt_of h3 ?_))
  rw [h4]
  exact q
theorem law_step {zl : List Int} (hl : zl.length ≤ 63) (R : RightC C) (T : Take C) (V : VecC C) (P : ∀ {Q : AV → Sto → Prop}, (∀ x y, Q (.loc 0) (src x y)) → C 76 [.fl (zl.map .int), .int 0] [] Q) (hq : ∀ σ, Q (.bool true) σ) : Ok (stepK prg C False 86 [.fl (zl.map .int)] [] Q) :=
  ⟨step_of (fn := ⟨[kScript], b_law, false, false⟩) rfl rfl rfl rfl (law_exs hl R T V P fun ρ σ => hq σ).h⟩
end
theorem right_ok : RightC (runK prg False 12) := fun {l σ Q} hl hg q => right_run hl hg q
theorem law_run {zl : List Int} {Q : AV → Sto → Prop} (hl : zl.length ≤ 63) (hq : ∀ σ, Q (.bool true) σ) : Ok (runK prg False 13 86 [.fl (zl.map .int)] [] Q) :=
  run_of_step (n := 12) (law_step hl right_ok (take_ok (n := 11)) (vector_ok (n := 9)) (fun {Q} q => pool_run (n := 11) hl q) hq)
end Mine.Pl
set_option genInjectivity false
namespace Mine
open PySem PySem.W PyProof.Rows PySem.Calls

theorem ab {Z : Prop} (h : false = true) : Z := Bool.noConfusion h
theorem beq_ne {n m : Nat} (h : n ≠ m) : Nat.beq n m = false := Bool.eq_false_iff.mpr fun z => h (Nat.eq_of_beq_eq_true z)

noncomputable def dig : Nat → Nat → List Nat → List Nat
  | 0, _, acc => acc
  | f + 1, n, acc => match Nat.beq n 0 with
    | true => acc
    | false => dig f (n / 256) (n % 256 :: acc)
noncomputable def nm (n : Nat) : Str := ⟨(dig n n []).toArray⟩
noncomputable def undig (l : List Nat) (a : Nat) : Nat := l.foldl (fun a d => a * 256 + d) a
theorem undig_dig : ∀ (f n : Nat) (acc : List Nat), n ≤ f → undig (dig f n acc) 0 = undig acc n
  | 0, n, acc, h => by
    have : n = 0 := Nat.le_zero.mp h
    subst this; rfl
  | f + 1, n, acc, h => by
    unfold dig
    cases q : Nat.beq n 0 with
    | true =>
      have : n = 0 := Nat.eq_of_beq_eq_true q
      subst this; rfl
    | false =>
      have hn : n ≠ 0 := fun e => by subst e; cases q
      have : n / 256 ≤ f := Nat.le_of_lt_succ (Nat.lt_of_lt_of_le (Nat.div_lt_self (Nat.pos_of_ne_zero hn) (by decide)) h)
      refine (undig_dig f _ _ this).trans (congrArg (undig acc) ?_)
      show n / 256 * 256 + n % 256 = n
      rw [Nat.mul_comm]; exact Nat.div_add_mod n 256
theorem nm_inj {a b : Nat} (h : nm a = nm b) : a = b := by
  have h2 : dig a a [] = dig b b [] := congrArg Array.toList (congrArg Str.cps h)
  have ha := undig_dig a a [] (Nat.le_refl _)
  have hb := undig_dig b b [] (Nat.le_refl _)
  rw [h2] at ha
  exact ha.symm.trans hb
theorem dig_small : ∀ (f n : Nat) (acc : List Nat), (∀ d ∈ acc, d < 256) → ∀ d ∈ dig f n acc, d < 256
  | 0, _, _, h => h
  | f + 1, n, acc, h => by
    unfold dig
    cases Nat.beq n 0 with
    | true => exact h
    | false =>
      refine dig_small f _ _ fun d hd => ?_
      rcases List.mem_cons.mp hd with rfl | hd
      · exact Nat.mod_lt _ (by decide)
      · exact h d hd
theorem nm_ok (n : Nat) : PySem.PyData.strOk (nm n) = true := by
  unfold PySem.PyData.strOk
  refine Array.all_eq_true_iff_forall_mem.mpr fun d hd => decide_eq_true (Nat.lt_trans (dig_small n n [] (fun _ h => nomatch h) d (Array.mem_def.mp hd)) (by decide))

inductive Tag where
  | fix
  | itr
  | cell (i : Nat)
  | loc
noncomputable def Tag.stays (t : Tag) : Bool := Tag.casesOn t true true (fun _ => false) false
noncomputable def Tag.isCell (t : Tag) : Bool := Tag.casesOn t false false (fun _ => true) false
noncomputable def Tag.isLoc (t : Tag) : Bool := Tag.casesOn t false false (fun _ => false) true

structure Base where
  prog : Program
  w : World
  h₀ : Heap
  K : Frag
  P : Prg
  cls : Nat → Addr
  fn : Nat → Addr
  os : OsState

structure Gh where
  L : List (Addr × Obj)
  tg : Addr → Tag

noncomputable def In (G : Gh) (t : Tag) (a : Addr) (o : Obj) : Prop := (a, o) ∈ G.L ∧ G.tg a = t
noncomputable def Has (B : Base) (G : Gh) (a : Addr) (o : Obj) : Prop := B.h₀.get? a = some o ∨ In G .fix a o
noncomputable def Ext (G G' : Gh) : Prop := ∀ a o, (a, o) ∈ G.L → (G.tg a).stays = true → In G' (G.tg a) a o
theorem Ext.refl (G : Gh) : Ext G G := fun _ _ h t => ⟨h, rfl⟩
theorem Ext.trans {G G' G'' : Gh} (x : Ext G G') (y : Ext G' G'') : Ext G G'' := fun a o h t =>
  have z := x a o h t
  have z' := y a o z.1 (z.2.symm ▸ t)
  ⟨z'.1, z'.2.trans z.2⟩
theorem Ext.at {G G' : Gh} (x : Ext G G') {a : Addr} {o : Obj} {t : Tag} (h : In G t a o) (e : t.stays = true) : In G' t a o := h.2 ▸ x a o h.1 (h.2.symm ▸ e)
theorem Ext.fix {G G' : Gh} (x : Ext G G') {a : Addr} {o : Obj} (h : In G .fix a o) : In G' .fix a o := x.at h rfl
theorem Ext.itr {G G' : Gh} (x : Ext G G') {a : Addr} {o : Obj} (h : In G .itr a o) : In G' .itr a o := x.at h rfl
noncomputable def Ext0 (G G' : Gh) : Prop := ∀ a o, In G .fix a o → In G' .fix a o
theorem Ext.fixes {G G' : Gh} (x : Ext G G') : Ext0 G G' := fun _ _ h => x.fix h
theorem Has.ext0 {B : Base} {G G' : Gh} {a : Addr} {o : Obj} (h : Has B G a o) (x : Ext0 G G') : Has B G' a o := h.imp id (x a o)
theorem Has.ext {B : Base} {G G' : Gh} {a : Addr} {o : Obj} (h : Has B G a o) (x : Ext G G') : Has B G' a o := h.ext0 x.fixes

noncomputable def IsCls (B : Base) (c : Nat) : Prop := ∃ n, look n B.P.glbs = some (.cl c)

section
variable (B : Base) (H : Addr → Obj → Prop) (At : Nat → Addr → Prop)
noncomputable def SeqR (T : String) (r : List Value → Prop) (w : Value) : Prop := ∃ a o vs k, w = .ref a ∧ H a o ∧ o.cls = .type T ∧ o.data = .seq (List.toArray vs) k ∧ r vs
noncomputable def DctR {K : Type} [DecidableEq K] (knd : KeyKind B.prog B.w K) (ks : List K) (r : List Value → Prop) (w : Value) : Prop :=
  ∃ a o es ep vs, w = .ref a ∧ H a o ∧ o.ExactDict ∧ o.data = .dict es ep ∧ KeysOf knd es ∧ Pairs knd es.toList (ks.zip vs) ∧ ks.Nodup ∧ ks.length = vs.length ∧ r vs
noncomputable def KeysAre (ns : List Nat) : List DictEntry → Prop := List.rec (fun es => es = []) (fun n _ ih es => ∃ t e r, es = e :: r ∧ e.key = Value.str (nm n) t ∧ ih r) ns
noncomputable def RcdR (c : Nat) (r : List Value → Prop) (w : Value) : Prop := IsCls B c ∧ ∃ a dx es n, w = .ref a ∧ H a (instObj (B.cls c) dx) ∧ H dx (dictOf es n) ∧ KeysAre (B.P.fields c) es ∧ r (es.map (·.val))
noncomputable def RgR (n : Int) (w : Value) : Prop := ∃ a t u v, w = .ref a ∧ H a { cls := .type "range", dict := none, data := .fields #[.int 0 t, .int n u, .int 1 v], slots := #[] }
noncomputable def ConsR (r : Value → Prop) (rs : List Value → Prop) (vs : List Value) : Prop := ∃ w ws, vs = w :: ws ∧ r w ∧ rs ws
noncomputable def VRg (v : AV) : Value → Prop := AV.rec (motive_1 := fun _ => Value → Prop) (motive_2 := fun _ => List Value → Prop) (fun w => w = .none) (fun b w => w = .bool b) (fun i w => ∃ t, w = .int i t) (fun n w => ∃ t, w = .str (nm n) t) (fun w => ∃ t, w = .bytes #[] t)
  (fun _ => SeqR H "tuple") (fun _ => SeqR H "list") (fun ks _ => DctR B H (intKind B.prog B.w) ks) (fun ks _ => DctR B H (strKind B.prog B.w) (ks.map nm)) (fun c _ => RcdR B H c) (RgR H) (fun i w => ∃ a, w = .ref a ∧ At i a) (fun f w => w = .ref (B.fn f)) (fun c w => w = .ref (B.cls c))
  (fun vs => vs = []) (fun _ _ => ConsR) v
noncomputable def VRsg (l : List AV) : List Value → Prop := AV.rec_1 (motive_1 := fun _ => Value → Prop) (motive_2 := fun _ => List Value → Prop) (fun w => w = .none) (fun b w => w = .bool b) (fun i w => ∃ t, w = .int i t) (fun n w => ∃ t, w = .str (nm n) t) (fun w => ∃ t, w = .bytes #[] t)
  (fun _ => SeqR H "tuple") (fun _ => SeqR H "list") (fun ks _ => DctR B H (intKind B.prog B.w) ks) (fun ks _ => DctR B H (strKind B.prog B.w) (ks.map nm)) (fun c _ => RcdR B H c) (RgR H) (fun i w => ∃ a, w = .ref a ∧ At i a) (fun f w => w = .ref (B.fn f)) (fun c w => w = .ref (B.cls c))
  (fun vs => vs = []) (fun _ _ => ConsR) l
end
noncomputable def VR (B : Base) (G : Gh) (θ : List Addr) (v : AV) (w : Value) : Prop := VRg B (Has B G) (fun i a => θ[i]? = some a) v w
noncomputable def VRs (B : Base) (G : Gh) (θ : List Addr) (l : List AV) (vs : List Value) : Prop := VRsg B (Has B G) (fun i a => θ[i]? = some a) l vs
noncomputable def FRs (B : Base) (G : Gh) (θ : List Addr) (ns : List Nat) (l : List AV) (es : List DictEntry) : Prop := KeysAre ns es ∧ VRs B G θ l (es.map (·.val))

section
variable {B : Base} {G : Gh} {θ : List Addr}
theorem VR.none : VR B G θ .none .none := rfl
theorem VR.bool (b : Bool) : VR B G θ (.bool b) (.bool b) := rfl
theorem VR.int (i : Int) (t : Tok) : VR B G θ (.int i) (.int i t) := ⟨t, rfl⟩
theorem VR.str (n : Nat) (t : Tok) : VR B G θ (.str n) (.str (nm n) t) := ⟨t, rfl⟩
theorem VR.byt (t : Tok) : VR B G θ .byt (.bytes #[] t) := ⟨t, rfl⟩
theorem VR.tup {l : List AV} {a : Addr} {o : Obj} {vs : List Value} {k : Nat} (h : Has B G a o) (c : o.cls = .type "tuple") (d : o.data = .seq (List.toArray vs) k) (r : VRs B G θ l vs) : VR B G θ (.tup l) (.ref a) := ⟨a, o, vs, k, rfl, h, c, d, r⟩
theorem VR.fl {l : List AV} {a : Addr} {o : Obj} {vs : List Value} {k : Nat} (h : Has B G a o) (c : o.cls = .type "list") (d : o.data = .seq (List.toArray vs) k) (r : VRs B G θ l vs) : VR B G θ (.fl l) (.ref a) := ⟨a, o, vs, k, rfl, h, c, d, r⟩
theorem VR.rg {n : Int} {a : Addr} {t u v : Tok} (h : Has B G a { cls := .type "range", dict := .none, data := .fields #[.int 0 t, .int n u, .int 1 v], slots := #[] }) : VR B G θ (.rg n) (.ref a) := ⟨a, t, u, v, rfl, h⟩
theorem VR.rcd {c : Nat} {l : List AV} {a dx : Addr} {es : List DictEntry} {n : Nat} (hc : IsCls B c) (h1 : Has B G a (instObj (B.cls c) dx)) (h2 : Has B G dx (dictOf es n)) (k : KeysAre (B.P.fields c) es) (r : VRs B G θ l (es.map (·.val))) : VR B G θ (.rcd c l) (.ref a) := ⟨hc, a, dx, es, n, rfl, h1, h2, k, r⟩
theorem VR.loc {i : Nat} {a : Addr} (h : θ[i]? = some a) : VR B G θ (.loc i) (.ref a) := ⟨a, rfl, h⟩
theorem VR.fn (f : Nat) : VR B G θ (.fn f) (.ref (B.fn f)) := rfl
theorem VR.cl (c : Nat) : VR B G θ (.cl c) (.ref (B.cls c)) := rfl
theorem VRs.nil : VRs B G θ [] [] := rfl
theorem VRs.cons {v : AV} {w : Value} {l : List AV} {vs : List Value} (a : VR B G θ v w) (b : VRs B G θ l vs) : VRs B G θ (v :: l) (w :: vs) := ⟨w, vs, rfl, a, b⟩
section
variable {Z : Value → Prop} {w : Value}
@[elab_as_elim] theorem VR.noneE (h : VR B G θ .none w) (z : Z .none) : Z w := Eq.symm (h : w = .none) ▸ z
@[elab_as_elim] theorem VR.boolE {b : Bool} (h : VR B G θ (.bool b) w) (z : Z (.bool b)) : Z w := Eq.symm (h : w = .bool b) ▸ z
@[elab_as_elim] theorem VR.intE {i : Int} (h : VR B G θ (.int i) w) (z : ∀ t, Z (.int i t)) : Z w := Exists.elim h fun t e => e.symm ▸ z t
@[elab_as_elim] theorem VR.strE {n : Nat} (h : VR B G θ (.str n) w) (z : ∀ t, Z (.str (nm n) t)) : Z w := Exists.elim h fun t e => e.symm ▸ z t
@[elab_as_elim] theorem VR.fnE {f : Nat} (h : VR B G θ (.fn f) w) (z : Z (.ref (B.fn f))) : Z w := Eq.symm (h : w = .ref (B.fn f)) ▸ z
@[elab_as_elim] theorem VR.clE {c : Nat} (h : VR B G θ (.cl c) w) (z : Z (.ref (B.cls c))) : Z w := Eq.symm (h : w = .ref (B.cls c)) ▸ z
@[elab_as_elim] theorem VR.locE {i : Nat} (h : VR B G θ (.loc i) w) (z : ∀ a, θ[i]? = some a → Z (.ref a)) : Z w := Exists.elim h fun a e => e.1.symm ▸ z a e.2
@[elab_as_elim] theorem VR.tupE {l : List AV} (h : VR B G θ (.tup l) w) (z : ∀ a o vs k, Has B G a o → o.cls = .type "tuple" → o.data = .seq (List.toArray vs) k → VRs B G θ l vs → Z (.ref a)) : Z w :=
  let ⟨a, o, vs, k, e, h1, h2, h3, h4⟩ := h; e.symm ▸ z a o vs k h1 h2 h3 h4
@[elab_as_elim] theorem VR.flE {l : List AV} (h : VR B G θ (.fl l) w) (z : ∀ a o vs k, Has B G a o → o.cls = .type "list" → o.data = .seq (List.toArray vs) k → VRs B G θ l vs → Z (.ref a)) : Z w :=
  let ⟨a, o, vs, k, e, h1, h2, h3, h4⟩ := h; e.symm ▸ z a o vs k h1 h2 h3 h4
end
@[elab_as_elim] theorem VRs.nilE {Z : List Value → Prop} {vs : List Value} (h : VRs B G θ [] vs) (z : Z []) : Z vs := Eq.symm (h : vs = []) ▸ z
@[elab_as_elim] theorem VRs.consE {Z : List Value → Prop} {v : AV} {l : List AV} {vs : List Value} (h : VRs B G θ (v :: l) vs) (z : ∀ w r, VR B G θ v w → VRs B G θ l r → Z (w :: r)) : Z vs :=
  let ⟨w, r, e, h1, h2⟩ := h; e.symm ▸ z w r h1 h2
end

section
variable {B : Base} {H H' : Addr → Obj → Prop} {At At' : Nat → Addr → Prop} {p : Nat → Bool}
theorem SeqR.mono (hH : ∀ a o, H a o → H' a o) {T : String} {r r' : List Value → Prop} (hr : ∀ vs, r vs → r' vs) (w : Value) (h : SeqR H T r w) : SeqR H' T r' w := let ⟨a, o, vs, k, e, h1, h2, h3, h4⟩ := h; ⟨a, o, vs, k, e, hH _ _ h1, h2, h3, hr _ h4⟩
theorem DctR.mono (hH : ∀ a o, H a o → H' a o) {K : Type} [DecidableEq K] {knd : KeyKind B.prog B.w K} {ks : List K} {r r' : List Value → Prop} (hr : ∀ vs, r vs → r' vs) (w : Value) (h : DctR B H knd ks r w) : DctR B H' knd ks r' w :=
  let ⟨a, o, es, ep, vs, e, h1, h2, h3, h4, h5, h6, h7, h8⟩ := h; ⟨a, o, es, ep, vs, e, hH _ _ h1, h2, h3, h4, h5, h6, h7, hr _ h8⟩
theorem RcdR.mono (hH : ∀ a o, H a o → H' a o) {c : Nat} {r r' : List Value → Prop} (hr : ∀ vs, r vs → r' vs) (w : Value) (h : RcdR B H c r w) : RcdR B H' c r' w := let ⟨k, a, dx, es, n, e, h1, h2, h3, h4⟩ := h; ⟨k, a, dx, es, n, e, hH _ _ h1, hH _ _ h2, h3, hr _ h4⟩
theorem RgR.mono (hH : ∀ a o, H a o → H' a o) {n : Int} (w : Value) (h : RgR H n w) : RgR H' n w := let ⟨a, t, u, v, e, h1⟩ := h; ⟨a, t, u, v, e, hH _ _ h1⟩
theorem ConsR.mono {r r' : Value → Prop} {rs rs' : List Value → Prop} (h1 : ∀ w, r w → r' w) (h2 : ∀ vs, rs vs → rs' vs) (vs : List Value) (h : ConsR r rs vs) : ConsR r' rs' vs := let ⟨w, ws, e, a, b⟩ := h; ⟨w, ws, e, h1 _ a, h2 _ b⟩
theorem VRg.mono (hH : ∀ a o, H a o → H' a o) (hA : ∀ i a, p i = true → At i a → At' i a) : ∀ v : AV, v.locs p = true → ∀ w, VRg B H At v w → VRg B H' At' v w :=
  AV.rec (motive_1 := fun v => v.locs p = true → ∀ w, VRg B H At v w → VRg B H' At' v w) (motive_2 := fun l => AV.locss p l = true → ∀ vs, VRsg B H At l vs → VRsg B H' At' l vs) (fun _ _ => id) (fun _ _ _ => id) (fun _ _ _ => id) (fun _ _ _ => id) (fun _ _ => id)
    (fun _ ih q => SeqR.mono hH (ih q)) (fun _ ih q => SeqR.mono hH (ih q)) (fun _ _ ih q => DctR.mono hH (ih q)) (fun _ _ ih q => DctR.mono hH (ih q)) (fun _ _ ih q => RcdR.mono hH (ih q)) (fun _ _ => RgR.mono hH) (fun i q w h => h.imp fun a e => ⟨e.1, hA i a q e.2⟩) (fun _ _ _ => id) (fun _ _ _ => id)
    (fun _ _ => id) (fun _ _ a b q => have q := Bool.and_eq_true_iff.mp q; ConsR.mono (a q.1) (b q.2))
theorem VRsg.mono (hH : ∀ a o, H a o → H' a o) (hA : ∀ i a, p i = true → At i a → At' i a) : ∀ l : List AV, AV.locss p l = true → ∀ vs, VRsg B H At l vs → VRsg B H' At' l vs
  | [], _, _, h => h
  | v :: l, q, vs, h => have q := Bool.and_eq_true_iff.mp q; ConsR.mono (VRg.mono hH hA v q.1) (VRsg.mono hH hA l q.2) vs h
end
section
variable {B : Base} {H : Addr → Obj → Prop} {w : Value}
theorem SeqR.ref {T : String} {r : List Value → Prop} (h : SeqR H T r w) : ∃ a, w = .ref a := h.elim fun a h => h.elim fun _ h => h.elim fun _ h => h.elim fun _ h => ⟨a, h.1⟩
theorem DctR.ref {K : Type} [DecidableEq K] {knd : KeyKind B.prog B.w K} {ks : List K} {r : List Value → Prop} (h : DctR B H knd ks r w) : ∃ a, w = .ref a := h.elim fun a h => h.elim fun _ h => h.elim fun _ h => h.elim fun _ h => h.elim fun _ h => ⟨a, h.1⟩
theorem RcdR.ref {c : Nat} {r : List Value → Prop} (h : RcdR B H c r w) : ∃ a, w = .ref a := h.2.elim fun a h => h.elim fun _ h => h.elim fun _ h => h.elim fun _ h => ⟨a, h.1⟩
theorem RgR.ref {n : Int} (h : RgR H n w) : ∃ a, w = .ref a := h.elim fun a h => h.elim fun _ h => h.elim fun _ h => h.elim fun _ h => ⟨a, h.1⟩
end
theorem locs_true : ∀ v : AV, v.locs (fun _ => true) = true := AV.rec (motive_1 := fun v => v.locs (fun _ => true) = true) (motive_2 := fun l => AV.locss (fun _ => true) l = true) rfl (fun _ => rfl) (fun _ => rfl) (fun _ => rfl) rfl (fun _ h => h) (fun _ h => h) (fun _ _ h => h) (fun _ _ h => h) (fun _ _ h => h) (fun _ => rfl) (fun _ => rfl) (fun _ => rfl) (fun _ => rfl) rfl
  (fun _ _ a b => Bool.and_eq_true_iff.mpr ⟨a, b⟩)
theorem locss_true : ∀ l : List AV, AV.locss (fun _ => true) l = true
  | [] => rfl
  | v :: l => Bool.and_eq_true_iff.mpr ⟨locs_true v, locss_true l⟩

noncomputable def Pre (θ θ' : List Addr) : Prop := ∀ (i : Nat) (a : Addr), θ[i]? = some a → θ'[i]? = some a
theorem Pre.refl (θ : List Addr) : Pre θ θ := fun _ _ h => h
theorem Pre.trans {θ θ' θ'' : List Addr} (x : Pre θ θ') (y : Pre θ' θ'') : Pre θ θ'' := fun i a h => y i a (x i a h)
theorem Pre.app (θ l : List Addr) : Pre θ (θ ++ l) := fun i a h => (List.getElem?_append_left (List.getElem?_eq_some_iff.mp h).1).trans h
section
variable {B : Base} {G G' : Gh} {θ θ' : List Addr} {v : AV} {w : Value} {l : List AV} {vs : List Value}
theorem VR.ext0 (x : Ext0 G G') (p : Pre θ θ') (h : VR B G θ v w) : VR B G' θ' v w := VRg.mono (fun _ _ h => h.ext0 x) (fun i a _ => p i a) v (locs_true v) w h
theorem VRs.ext0 (x : Ext0 G G') (p : Pre θ θ') (h : VRs B G θ l vs) : VRs B G' θ' l vs := VRsg.mono (fun _ _ h => h.ext0 x) (fun i a _ => p i a) l (locss_true l) vs h
theorem VR.ext (x : Ext G G') (p : Pre θ θ') (h : VR B G θ v w) : VR B G' θ' v w := h.ext0 x.fixes p
theorem VRs.ext (x : Ext G G') (p : Pre θ θ') (h : VRs B G θ l vs) : VRs B G' θ' l vs := h.ext0 x.fixes p
theorem VR.on {p : Nat → Bool} (hA : ∀ (i : Nat) (a : Addr), p i = true → θ[i]? = some a → θ'[i]? = some a) (q : v.locs p = true) (h : VR B G θ v w) : VR B G θ' v w := VRg.mono (fun _ _ h => h) hA v q w h
theorem VRs.on {p : Nat → Bool} (hA : ∀ (i : Nat) (a : Addr), p i = true → θ[i]? = some a → θ'[i]? = some a) (q : AV.locss p l = true) (h : VRs B G θ l vs) : VRs B G θ' l vs := VRsg.mono (fun _ _ h => h) hA l q vs h
theorem VR.free (q : v.free = true) (h : VR B G θ v w) : VR B G θ' v w := h.on (fun _ _ e => ab e) q
theorem VRs.free (q : AV.frees l = true) (h : VRs B G θ l vs) : VRs B G θ' l vs := h.on (fun _ _ e => ab e) q
theorem FRs.ext0 {ns : List Nat} {es : List DictEntry} (x : Ext0 G G') (p : Pre θ θ') (h : FRs B G θ ns l es) : FRs B G' θ' ns l es := ⟨h.1, h.2.ext0 x p⟩
theorem FRs.ext {ns : List Nat} {es : List DictEntry} (x : Ext G G') (p : Pre θ θ') (h : FRs B G θ ns l es) : FRs B G' θ' ns l es := h.ext0 x.fixes p
theorem VRs.length : ∀ {l : List AV} {vs : List Value}, VRs B G θ l vs → vs.length = l.length
  | [], _, h => h.nilE rfl
  | _ :: _, _, h => h.consE fun _ _ _ b => congrArg Nat.succ (VRs.length b)
theorem VRs.append {l' : List AV} {ws : List Value} (h' : VRs B G θ l' ws) : ∀ {l : List AV} {vs : List Value}, VRs B G θ l vs → VRs B G θ (l ++ l') (vs ++ ws)
  | [], _, h => h.nilE h'
  | _ :: _, _, h => h.consE fun _ _ a b => .cons a (VRs.append h' b)
theorem VRs.app (hv : VR B G θ v w) (h : VRs B G θ l vs) : VRs B G θ (l ++ [v]) (vs ++ [w]) := VRs.append (.cons hv .nil) h
theorem VRs.setn (hv : VR B G θ v w) : ∀ {l : List AV} {vs : List Value} {k : Nat}, VRs B G θ l vs → VRs B G θ (Mine.setn l k v) (vs.set k w)
  | [], _, _, h => h.nilE .nil
  | _ :: _, _, 0, h => h.consE fun _ _ _ b => .cons hv b
  | _ :: _, _, _ + 1, h => h.consE fun _ _ a b => .cons a (VRs.setn hv b)
theorem VRs.take : ∀ (k : Nat) {l : List AV} {vs : List Value}, VRs B G θ l vs → VRs B G θ (l.take k) (vs.take k)
  | 0, _, _, _ => .nil
  | _ + 1, [], _, h => h.nilE .nil
  | k + 1, _ :: _, _, h => h.consE fun _ _ a b => .cons a (VRs.take k b)
theorem VRs.drop : ∀ (k : Nat) {l : List AV} {vs : List Value}, VRs B G θ l vs → VRs B G θ (l.drop k) (vs.drop k)
  | 0, _, _, h => h
  | _ + 1, [], _, h => h.nilE .nil
  | k + 1, _ :: _, _, h => h.consE fun _ _ a b => VRs.drop k b
theorem VRs.at {r : AV} : ∀ {l : List AV} {vs : List Value} {k : Nat}, VRs B G θ l vs → nth l k = some r → ∃ w, vs[k]? = some w ∧ VR B G θ r w
  | [], _, _, _, h => nomatch h
  | _ :: _, _, 0, h, e => h.consE fun w _ a _ => ⟨w, rfl, Option.some.inj e ▸ a⟩
  | _ :: _, _, k + 1, h, e => h.consE fun _ _ _ b => VRs.at (k := k) b e
theorem VRs.of : ∀ {l : List AV} {vs : List Value} {k : Nat}, VRs B G θ l vs → vs[k]? = some w → ∃ u, nth l k = some u ∧ VR B G θ u w
  | [], _, _, h, e => h.nilE (Z := fun vs => vs[_]? = some w → _) (fun e => nomatch (e : (Option.none : Option Value) = some w)) e
  | v :: _, _, 0, h, e => h.consE (Z := fun vs => vs[0]? = some w → _) (fun x _ a _ e => ⟨v, rfl, Option.some.inj (List.getElem?_cons_zero.symm.trans e) ▸ a⟩) e
  | _ :: _, _, k + 1, h, e => h.consE (Z := fun vs => vs[k + 1]? = some w → _) (fun _ _ _ b e => VRs.of (k := k) b e) e
theorem nth_lt {r : AV} : ∀ {l : List AV} {k : Nat}, nth l k = some r → k < l.length
  | [], _, h => nomatch h
  | _ :: _, 0, _ => Nat.succ_pos _
  | _ :: l, k + 1, h => Nat.succ_lt_succ (nth_lt (l := l) h)
noncomputable abbrev G0 : Gh := ⟨[], fun _ => .fix⟩
theorem VR.zero (h : VR B G0 [] v w) : VR B G θ v w := h.ext0 (fun _ _ h => absurd h.1 List.not_mem_nil) (fun _ a h => nomatch (h : (Option.none : Option Addr) = some a))
theorem VRs.zero (h : VRs B G0 [] l vs) : VRs B G θ l vs := h.ext0 (fun _ _ h => absurd h.1 List.not_mem_nil) (fun _ a h => nomatch (h : (Option.none : Option Addr) = some a))
end
end Mine
namespace Mine
open PySem PySem.W PyProof.Rows PySem.Calls PySem.SeqAt

noncomputable def ZObj (B : Base) (G : Gh) (θ : List Addr) (l : List (Int × AV)) (o : Obj) (vs : List Value) : Prop :=
  ∃ es ep, o.ExactDict ∧ o.data = .dict es ep ∧ KeysOf (intKind B.prog B.w) es ∧ Pairs (intKind B.prog B.w) es.toList ((l.map (·.1)).zip vs) ∧ (l.map (·.1)).Nodup ∧ VRs B G θ (l.map (·.2)) vs
noncomputable def CR (B : Base) (G : Gh) (θ : List Addr) (i : Nat) (a : Addr) (c : Cell) : Prop := Cell.casesOn c
  (fun c fs => IsCls B c ∧ (∀ k, memN k (fs.map (·.1)) = true → memN k (B.P.fields c) = true) ∧ ∃ dx es n, In G .fix a (instObj (B.cls c) dx) ∧ In G (.cell i) dx (dictOf es n) ∧ FRs B G θ (fs.map (·.1)) (fs.map (·.2)) es)
  (fun l => ∃ vs k, In G (.cell i) a (listOf (List.toArray vs) k) ∧ VRs B G θ l vs)
  (fun l => ∃ o vs, In G (.cell i) a o ∧ ZObj B G θ l o vs)
  (fun n => ∃ vs k, In G (.cell i) a (listOf (List.toArray vs) k) ∧ vs.length + n ≤ 1000000) True
theorem locsF_at {p : Nat → Bool} : ∀ {fs : List (Nat × AV)}, locsF p fs = true → AV.locss p (fs.map (·.2)) = true
  | [], _ => rfl
  | x :: fs, h => let z := Bool.and_eq_true_iff.mp h; Bool.and_eq_true_iff.mpr ⟨z.1, locsF_at z.2⟩
theorem locsZ_at {p : Nat → Bool} : ∀ {fs : List (Int × AV)}, locsZ p fs = true → AV.locss p (fs.map (·.2)) = true
  | [], _ => rfl
  | x :: fs, h => let z := Bool.and_eq_true_iff.mp h; Bool.and_eq_true_iff.mpr ⟨z.1, locsZ_at z.2⟩
section
variable {B : Base} {G G' : Gh} {θ θ' : List Addr} {i : Nat} {a : Addr}
theorem ZObj.mono {l : List (Int × AV)} {o : Obj} {vs : List Value} (h : ZObj B G θ l o vs) (f : VRs B G θ (l.map (·.2)) vs → VRs B G' θ' (l.map (·.2)) vs) : ZObj B G' θ' l o vs := let ⟨es, ep, h1, h2, h3, h4, h5, h6⟩ := h; ⟨es, ep, h1, h2, h3, h4, h5, f h6⟩
theorem CR.mono (x : ∀ a o, In G .fix a o → In G' .fix a o) (q : ∀ a o, In G (.cell i) a o → In G' (.cell i) a o) (p : Nat → Bool) (f : ∀ {l vs}, AV.locss p l = true → VRs B G θ l vs → VRs B G' θ' l vs) : ∀ {c : Cell}, c.locs p = true → CR B G θ i a c → CR B G' θ' i a c
  | .inst .., hp, ⟨z1, z2, dx, es, n, h1, h3, h5⟩ => ⟨z1, z2, dx, es, n, x _ _ h1, q _ _ h3, h5.1, f (locsF_at hp) h5.2⟩
  | .lst .., hp, ⟨vs, k, h1, h5⟩ => ⟨vs, k, q _ _ h1, f hp h5⟩
  | .dct .., hp, ⟨o, vs, h1, z⟩ => ⟨o, vs, q _ _ h1, z.mono (f (locsZ_at hp))⟩
  | .sink .., _, ⟨vs, k, h1, h5⟩ => ⟨vs, k, q _ _ h1, h5⟩
  | .hole, _, _ => trivial
theorem locsF_true : ∀ fs : List (Nat × AV), locsF (fun _ => true) fs = true
  | [] => rfl
  | x :: fs => Bool.and_eq_true_iff.mpr ⟨locs_true x.2, locsF_true fs⟩
theorem locsZ_true : ∀ fs : List (Int × AV), locsZ (fun _ => true) fs = true
  | [] => rfl
  | x :: fs => Bool.and_eq_true_iff.mpr ⟨locs_true x.2, locsZ_true fs⟩
theorem CR.ext0 (x : Ext0 G G') (p : Pre θ θ') (q : ∀ a o, In G (.cell i) a o → In G' (.cell i) a o) {c : Cell} (h : CR B G θ i a c) : CR B G' θ' i a c :=
  CR.mono x q (fun _ => true) (fun _ h => h.ext0 x p) (Cell.casesOn c (fun _ fs => locsF_true fs) locss_true locsZ_true (fun _ => rfl) rfl) h
theorem CR.inst {c : Nat} {fs : List (Nat × AV)} {dx : Addr} {es : List DictEntry} {n : Nat} (z1 : IsCls B c) (z2 : ∀ k, memN k (fs.map (·.1)) = true → memN k (B.P.fields c) = true) (h1 : In G .fix a (instObj (B.cls c) dx)) (h3 : In G (.cell i) dx (dictOf es n)) (h5 : FRs B G θ (fs.map (·.1)) (fs.map (·.2)) es) : CR B G θ i a (.inst c fs) := ⟨z1, z2, dx, es, n, h1, h3, h5⟩
theorem CR.lst {l : List AV} {vs : List Value} {k : Nat} (h : In G (.cell i) a (listOf (List.toArray vs) k)) (h5 : VRs B G θ l vs) : CR B G θ i a (.lst l) := ⟨vs, k, h, h5⟩
theorem CR.dct {l : List (Int × AV)} {o : Obj} {vs : List Value} (h : In G (.cell i) a o) (z : ZObj B G θ l o vs) : CR B G θ i a (.dct l) := ⟨o, vs, h, z⟩
theorem CR.sink {n : Nat} {vs : List Value} {k : Nat} (h : In G (.cell i) a (listOf (List.toArray vs) k)) (h5 : vs.length + n ≤ 1000000) : CR B G θ i a (.sink n) := ⟨vs, k, h, h5⟩
end

theorem cell_inj {i j : Nat} (h : Tag.cell i = Tag.cell j) : i = j := congrArg (fun t => Tag.casesOn (motive := fun _ => Nat) t 0 0 (fun i => i) 0) h
theorem setc_cell : ∀ {σ : Sto} {i j : Nat} {c d : Cell}, cell (setc σ i c) j = some d → (j = i ∧ d = c) ∨ (j ≠ i ∧ cell σ j = some d)
  | [], _, _, _, _, h => nomatch h
  | _ :: _, 0, 0, _, _, h => .inl ⟨rfl, (Option.some.inj h).symm⟩
  | _ :: _, 0, j + 1, _, _, h => .inr ⟨Nat.succ_ne_zero j, h⟩
  | _ :: _, i + 1, 0, _, _, h => .inr ⟨(Nat.succ_ne_zero i).symm, h⟩
  | _ :: r, i + 1, j + 1, _, _, h => (setc_cell (σ := r) (i := i) (j := j) h).imp (fun q => ⟨congrArg _ q.1, q.2⟩) fun q => ⟨fun e => q.1 (Nat.succ.inj e), q.2⟩
theorem setc_len : ∀ (σ : Sto) (i : Nat) (c : Cell), (setc σ i c).length = σ.length
  | [], _, _ => rfl
  | _ :: _, 0, _ => rfl
  | _ :: r, i + 1, c => congrArg (· + 1) (setc_len r i c)
theorem cell_app : ∀ {σ : Sto} {c d : Cell} {i : Nat}, cell (σ ++ [c]) i = some d → (i = σ.length ∧ d = c) ∨ cell σ i = some d
  | [], _, _, 0, h => .inl ⟨rfl, (Option.some.inj h).symm⟩
  | [], _, _, _ + 1, h => nomatch h
  | _ :: _, _, _, 0, h => .inr h
  | _ :: σ, _, _, i + 1, h => (cell_app (σ := σ) (i := i) h).imp (fun q => ⟨congrArg _ q.1, q.2⟩) id
theorem cell_lt : ∀ {σ : Sto} {c : Cell} {i : Nat}, cell σ i = some c → i < σ.length
  | [], _, _, h => nomatch h
  | _ :: _, _, 0, _ => Nat.succ_pos _
  | _ :: σ, _, i + 1, h => Nat.succ_lt_succ (cell_lt (σ := σ) h)
theorem keepN_cell : ∀ {n : Nat} {σ : Sto} {i : Nat} {c : Cell}, cell (keepN n σ) i = some c → i < n ∧ cell σ i = some c
  | 0, _, _, _, h => nomatch h
  | _ + 1, [], _, _, h => nomatch h
  | n + 1, d :: σ, 0, _, h => ⟨Nat.succ_pos _, h⟩
  | n + 1, d :: σ, i + 1, _, h => let z := keepN_cell (n := n) (σ := σ) (i := i) h; ⟨Nat.succ_lt_succ z.1, z.2⟩
theorem keepN_len : ∀ {n : Nat} {σ : Sto}, (keepN n σ).length = min n σ.length
  | 0, _ => (Nat.zero_min _).symm
  | _ + 1, [] => rfl
  | n + 1, d :: σ => (congrArg Nat.succ (keepN_len (n := n) (σ := σ))).trans (Nat.succ_min_succ n σ.length).symm
theorem underS_at {n : Nat} : ∀ {σ : Sto} {i : Nat} {c : Cell}, underS n σ = true → cell σ i = some c → c.under n = true
  | [], _, _, _, h => nomatch h
  | d :: σ, 0, _, h, e => Option.some.inj e ▸ (Bool.and_eq_true_iff.mp h).1
  | d :: σ, i + 1, _, h, e => underS_at (σ := σ) (Bool.and_eq_true_iff.mp h).2 e

structure Core (B : Base) (L : Addr) (σ : Sto) (G : Gh) (θ : List Addr) (m : Str → Option Value) (s : Shared) : Prop where
  gens : s.gens = #[]
  os : s.os = B.os
  fr : Fr B.h₀ L s.heap m
  N : News B.h₀ L s.heap G.L
  nd : (G.L.map (·.1)).Nodup
  lo : ∀ a ∈ G.L.map (·.1), B.h₀.objs.size ≤ a
  th : θ.length = σ.length
  cs : ∀ i c, cell σ i = some c → ∃ a, θ[i]? = some a ∧ CR B G θ i a c
noncomputable def lcTag (env : Env) : Tag := if env.frame = some env.locals then .loc else .itr
theorem lcTag_ne {env : Env} {i : Nat} : lcTag env ≠ .cell i := by unfold lcTag; split <;> exact fun h => nomatch h
structure Names (B : Base) (G : Gh) (θ : List Addr) (env : Env) (ρ : Loc) (m : Str → Option Value) : Prop where
  vals : ∀ n v, look n ρ = some v → nm n ≠ (".0" : Str) → (env.kindOf (nm n) = some .local → ∃ w, m (nm n) = some w ∧ VR B G θ v w) ∧
    (env.kindOf (nm n) = some .cell ∨ env.kindOf (nm n) = some .free → ∃ c o w, env.cells.lookup (nm n) = some c ∧ In G (lcTag env) c o ∧ o.data = .cell (some w) ∧ VR B G θ v w)
  cells : ∀ n c, env.cells.lookup n = some c → ∃ o v, In G (lcTag env) c o ∧ o.data = .cell v
noncomputable def Rel (B : Base) (env : Env) (ρ : Loc) (σ : Sto) (G : Gh) (θ : List Addr) (s : Shared) : Prop := ∃ m, Core B env.locals σ G θ m s ∧ Names B G θ env ρ m

noncomputable def Gh.push (G : Gh) (a : Addr) (o : Obj) (t : Tag) : Gh := ⟨(a, o) :: G.L, fun b => if b = a then t else G.tg b⟩
noncomputable def upd (Λ : List (Addr × Obj)) (a : Addr) (o : Obj) : List (Addr × Obj) := Λ.map fun p => if p.1 = a then (a, o) else p
noncomputable def Gh.upd (G : Gh) (a : Addr) (o : Obj) : Gh := ⟨Mine.upd G.L a o, G.tg⟩
noncomputable def Gh.retag (G : Gh) (a : Addr) (t : Tag) : Gh := ⟨G.L, fun b => if b = a then t else G.tg b⟩
noncomputable def Gh.drop (G : Gh) (a : Addr) : Gh := ⟨G.L.filter fun p => p.1 ≠ a, G.tg⟩
section
variable {G : Gh} {a b : Addr} {o o' : Obj} {t t' : Tag} {Λ : List (Addr × Obj)}
theorem push_new : In (G.push a o t) t a o := ⟨.head _, if_pos rfl⟩
theorem push_old (hne : b ≠ a) (h : In G t' b o') : In (G.push a o t) t' b o' := ⟨.tail _ h.1, (if_neg hne).trans h.2⟩
theorem upd_keys (Λ : List (Addr × Obj)) (a : Addr) (o : Obj) : (upd Λ a o).map (·.1) = Λ.map (·.1) := by
  unfold upd
  rw [List.map_map]
  refine List.map_congr_left fun p _ => ?_
  show (if p.1 = a then (a, o) else p).1 = p.1
  split
  · rename_i h; exact h.symm
  · rfl
theorem upd_ne (hne : b ≠ a) (h : In G t b o') : In (G.upd a o) t b o' := ⟨List.mem_map.mpr ⟨(b, o'), h.1, if_neg hne⟩, h.2⟩
theorem upd_eq (h : In G t a o') : In (G.upd a o) t a o := ⟨List.mem_map.mpr ⟨(a, o'), h.1, if_pos rfl⟩, h.2⟩
theorem retag_ne (hne : b ≠ a) (h : In G t' b o') : In (G.retag a t) t' b o' := ⟨h.1, (if_neg hne).trans h.2⟩
theorem retag_eq (h : (a, o) ∈ G.L) : In (G.retag a t) t a o := ⟨h, if_pos rfl⟩
theorem drop_mem {p : Addr × Obj} : p ∈ (G.drop a).L ↔ p ∈ G.L ∧ p.1 ≠ a := List.mem_filter.trans (and_congr_right fun _ => decide_eq_true_iff)
theorem drop_in (hne : b ≠ a) (h : In G t b o) : In (G.drop a) t b o := ⟨drop_mem.mpr ⟨h.1, hne⟩, h.2⟩
theorem ne_of (h : In G t a o) (h' : G.tg b = t') (e : t ≠ t') : a ≠ b := fun q => e (h.2.symm.trans (q ▸ h'))
end
noncomputable def ExtL (G G' : Gh) : Prop := ∀ a o, (a, o) ∈ G.L → (∀ i, G.tg a ≠ .cell i) → In G' (G.tg a) a o
theorem ExtL.ext {G G' : Gh} (x : ExtL G G') : Ext G G' := fun a o h t => x a o h fun i e => nomatch (show false = true from (congrArg Tag.stays e).symm.trans t)
theorem ExtL.at {G G' : Gh} (x : ExtL G G') {a : Addr} {o : Obj} {t : Tag} (h : In G t a o) (e : ∀ i, t ≠ .cell i) : In G' t a o := h.2 ▸ x a o h.1 fun i q => e i (h.2.symm.trans q)
theorem ExtL.refl (G : Gh) : ExtL G G := fun _ _ h _ => ⟨h, rfl⟩
theorem ExtL.trans {G G' G'' : Gh} (x : ExtL G G') (y : ExtL G' G'') : ExtL G G'' := fun a o h t => y.at (x a o h t) t

section
variable {B : Base} {env : Env} {ρ : Loc} {σ σ' : Sto} {G G' : Gh} {θ θ' : List Addr} {s s' : Shared} {L L' : Addr} {m m' : Str → Option Value} {a D : Addr} {o o' : Obj} {t : Tag} {i : Nat}

theorem Core.lift (C : Core B L σ G θ m s) (g : s'.gens = s.gens) (q : s'.os = s.os) (F : Fr B.h₀ L' s'.heap m') (N : News B.h₀ L' s'.heap G'.L) (nd : (G'.L.map (·.1)).Nodup) (lo : ∀ a ∈ G'.L.map (·.1), B.h₀.objs.size ≤ a) (x : Ext0 G G') (y : ∀ i a o, In G (.cell i) a o → In G' (.cell i) a o) : Core B L' σ G' θ m' s' :=
  ⟨g.trans C.gens, q.trans C.os, F, N, nd, lo, C.th, fun i c hc => (C.cs i c hc).imp fun a h => ⟨h.1, h.2.ext0 x (.refl _) (y i)⟩⟩
theorem Core.setc (C : Core B L σ G θ m s) {c' : Cell} (g : s'.gens = s.gens) (q : s'.os = s.os) (F : Fr B.h₀ L s'.heap m) (N : News B.h₀ L s'.heap G'.L) (nd : (G'.L.map (·.1)).Nodup) (lo : ∀ a ∈ G'.L.map (·.1), B.h₀.objs.size ≤ a) (x : Ext0 G G') (y : ∀ j a o, j ≠ i → In G (.cell j) a o → In G' (.cell j) a o)
    (hq : ∀ a, θ[i]? = some a → CR B G' θ i a c') : Core B L (Mine.setc σ i c') G' θ m s' :=
  ⟨g.trans C.gens, q.trans C.os, F, N, nd, lo, C.th.trans (setc_len σ i c').symm, fun j d hd => (setc_cell hd).elim
    (fun e => by
      obtain ⟨rfl, rfl⟩ := e
      obtain ⟨b, hb⟩ : ∃ b, θ[j]? = some b := ⟨_, List.getElem?_eq_getElem (Nat.lt_of_lt_of_eq (cell_lt hd) ((setc_len ..).trans C.th.symm))⟩
      exact ⟨b, hb, hq b hb⟩)
    fun e => (C.cs j d e.2).imp fun a h => ⟨h.1, h.2.ext0 x (.refl _) fun a o => y j a o e.1⟩⟩
theorem Core.get (C : Core B L σ G θ m s) (h : (a, o) ∈ G.L) : s.heap.get? a = some o := (C.N _ h).1
theorem Core.uniq (C : Core B L σ G θ m s) (h : (a, o) ∈ G.L) (h' : (a, o') ∈ G.L) : o = o' := Option.some.inj ((C.get h).symm.trans (C.get h'))
theorem Core.lt (C : Core B L σ G θ m s) (h : (a, o) ∈ G.L) : a < s.heap.objs.size := Heap.lt_size (C.get h)
theorem Core.fresh (C : Core B L σ G θ m s) : ∀ q ∈ G.L, q.1 ≠ s.heap.objs.size := fun q hq => Nat.ne_of_lt (C.lt (a := q.1) (o := q.2) hq)
theorem Core.sizeLe (C : Core B L σ G θ m s) : B.h₀.objs.size ≤ s.heap.objs.size := Nat.le_trans C.fr.above (Nat.le_of_lt C.fr.ns.lt)
theorem Core.onHeap {h' : Heap} {tk : Nat} (C : Core B L σ G θ m s) (k : ∀ b o, s.heap.get? b = some o → h'.get? b = some o) : Core B L σ G θ m { s with heap := h', toks := tk } :=
  C.lift rfl rfl (C.fr.after k) (C.N.keeps k) C.nd C.lo (fun _ _ h => h) fun _ _ _ h => h
theorem Core.onHeapNot {h' : Heap} {tk : Nat} (C : Core B L σ G θ m s) (ha : ∀ p ∈ G.L, p.1 ≠ a) (hL : a ≠ L) (hn : B.h₀.get? a = none) (k : ∀ b o, b ≠ a → s.heap.get? b = some o → h'.get? b = some o) : Core B L σ G θ m { s with heap := h', toks := tk } :=
  C.lift rfl rfl ⟨C.fr.ns.at' fun o ho => k _ _ hL.symm ho, fun b o hb => k _ _ (fun e => nomatch (e ▸ hn).symm.trans hb) (C.fr.keep b o hb), C.fr.above⟩ (fun p hp => ⟨k _ _ (ha p hp) (C.N p hp).1, (C.N p hp).2⟩) C.nd C.lo (fun _ _ h => h) fun _ _ _ h => h
theorem pushL (hD : ∀ q ∈ G.L, q.1 ≠ D) : ExtL G (G.push D o t) := fun _ _ h _ => push_old (hD _ h) ⟨h, rfl⟩
theorem pushI {t' : Tag} (hD : ∀ q ∈ G.L, q.1 ≠ D) (a : Addr) (o' : Obj) (h : In G t' a o') : In (G.push D o t) t' a o' := push_old (hD _ h.1) h
theorem Core.add {h' : Heap} {tk : Nat} (C : Core B L σ G θ m s) (t : Tag) (hD : ∀ q ∈ G.L, q.1 ≠ D) (hlo : B.h₀.objs.size ≤ D) (F : Fr B.h₀ L h' m) (N : News B.h₀ L h' ((D, o) :: G.L)) : Core B L σ (G.push D o t) θ m { s with heap := h', toks := tk } :=
  C.lift rfl rfl F N (List.nodup_cons.mpr ⟨fun hm => let ⟨p, hp, e⟩ := List.mem_map.mp hm; hD p hp e, C.nd⟩) (fun a ha => (List.mem_cons.mp ha).elim (fun e => e.symm ▸ hlo) (C.lo a)) (pushI hD) fun _ => pushI hD
theorem Core.push (C : Core B L σ G θ m s) (o : Obj) (t : Tag) (hf : o.isFreed = false := by rfl) : Core B L σ (G.push s.heap.objs.size o t) θ m { s with heap := s.heap.push o } := C.add (tk := s.toks) t C.fresh C.sizeLe (C.fr.push o) (C.N.push C.fr o hf)
theorem new_at (C : Core B L σ G θ m s) (a : Addr) : (θ ++ [a])[σ.length]? = some a := by rw [← C.th, List.getElem?_append_right (Nat.le_refl _), Nat.sub_self]; rfl
theorem Core.grow (C : Core B L σ G θ m s) {c : Cell} (h : CR B G (θ ++ [a]) σ.length a c) : Core B L (σ ++ [c]) G (θ ++ [a]) m s :=
  ⟨C.gens, C.os, C.fr, C.N, C.nd, C.lo, by rw [List.length_append, List.length_append, C.th]; rfl, fun i d hd => (cell_app hd).elim (fun e => ⟨a, e.1.symm ▸ new_at C a, e.1.symm ▸ e.2.symm ▸ h⟩)
    fun hd => (C.cs i d hd).imp fun b hr => ⟨Pre.app _ _ _ _ hr.1, hr.2.ext0 (fun _ _ h => h) (.app _ _) fun _ _ h => h⟩⟩
theorem upd_lo (C : Core B L σ G θ m s) (o : Obj) : ((G.upd a o).L.map (·.1)).Nodup ∧ ∀ b ∈ (G.upd a o).L.map (·.1), B.h₀.objs.size ≤ b := (show (G.upd a o).L.map (·.1) = _ from upd_keys ..).symm ▸ ⟨C.nd, C.lo⟩
theorem upd_ext0 (ht : G.tg a ≠ .fix) : Ext0 G (G.upd a o') := fun _ _ h => upd_ne (ne_of h rfl ht.symm) h
theorem Core.turn (C : Core B L σ G θ m s) {h' : Heap} {tk : Nat} (h : In G (.cell i) a o) (F : Fr B.h₀ L h' m) (N : News B.h₀ L h' (upd G.L a o')) {c' : Cell} (hq : ∀ b, θ[i]? = some b → CR B (G.upd a o') θ i b c') : Core B L (Mine.setc σ i c') (G.upd a o') θ m { s with heap := h', toks := tk } :=
  C.setc rfl rfl F N (upd_lo C o').1 (upd_lo C o').2 (upd_ext0 fun e => nomatch h.2.symm.trans e) (fun j b ob hj hb => upd_ne (ne_of hb h.2 fun e => hj (cell_inj e)) hb) hq
theorem turnL (h : In G (.cell i) a o) : ExtL G (G.upd a o') := fun _ _ hb tb => upd_ne (fun e => tb i (e ▸ h.2)) ⟨hb, rfl⟩
theorem Core.turnBut (C : Core B L σ G θ m s) {h' : Heap} {tk : Nat} (h : In G (.cell i) a o) (hs : Heap.SameBut a s.heap h') (ho : h'.get? a = some o') {c' : Cell} (hq : ∀ b, θ[i]? = some b → CR B (G.upd a o') θ i b c') : Core B L (Mine.setc σ i c') (G.upd a o') θ m { s with heap := h', toks := tk } :=
  C.turn h (C.fr.change hs (C.N _ h.1).2.1 (C.N _ h.1).2.2) (C.N.replace hs ho) hq
theorem Core.turnItr (C : Core B L σ G θ m s) {h' : Heap} {tk : Nat} (h : In G .itr a o) (hs : ∀ b ob, b ≠ a → s.heap.get? b = some ob → h'.get? b = some ob) (ho : h'.get? a = some o') : Core B L σ (G.upd a o') θ m { s with heap := h', toks := tk } :=
  have z := C.N _ h.1
  C.lift rfl rfl ⟨C.fr.ns.at' fun o2 ho2 => hs _ _ z.2.1.symm ho2, fun b ob hb => hs b ob (fun e => nomatch (e ▸ z.2.2).symm.trans hb) (C.fr.keep b ob hb), C.fr.above⟩
    (fun p hp => by
      obtain ⟨q, hq, e⟩ := List.mem_map.mp hp
      by_cases k : q.1 = a
      · rw [if_pos k] at e; subst e; exact ⟨ho, z.2⟩
      · rw [if_neg k] at e; subst e; exact ⟨hs _ _ k (C.N q hq).1, (C.N q hq).2⟩)
    (upd_lo C o').1 (upd_lo C o').2 (upd_ext0 fun e => nomatch h.2.symm.trans e) fun j b ob hb => upd_ne (ne_of hb h.2 fun e => nomatch e) hb
theorem Core.drop (C : Core B L σ G θ m s) (ht : G.tg a = .itr) : Core B L σ (G.drop a) θ m s :=
  C.lift rfl rfl C.fr (fun p hp => C.N p (drop_mem.mp hp).1) (C.nd.sublist (List.filter_sublist.map _)) (fun b hb => C.lo b ((List.filter_sublist.map _).subset hb)) (fun _ _ h => drop_in (ne_of h ht nofun) h) fun _ _ _ h => drop_in (ne_of h ht nofun) h
theorem drop_ext0 (ht : G.tg a = .itr) : Ext0 G (G.drop a) := fun _ _ h => drop_in (ne_of h ht nofun) h
theorem retag_ext0 (ht : G.tg a = .itr) : Ext0 G (G.retag a t) := fun _ _ h => retag_ne (ne_of h ht nofun) h
theorem Core.retagFix (C : Core B L σ G θ m s) (ht : G.tg a = .itr) : Core B L σ (G.retag a .fix) θ m s :=
  C.lift rfl rfl C.fr C.N C.nd C.lo (retag_ext0 ht) fun _ _ _ h => retag_ne (ne_of h ht nofun) h
theorem Core.hideC (C : Core B L σ G θ m s) (h : In G (.cell i) a o) : Core B L (Mine.setc σ i .hole) (G.retag a .itr) θ m s :=
  C.setc rfl rfl C.fr C.N C.nd C.lo (fun _ _ hb => retag_ne (ne_of hb h.2 nofun) hb) (fun j b ob hj hb => retag_ne (ne_of hb h.2 fun e => hj (cell_inj e)) hb) fun _ _ => trivial
theorem Core.showC (C : Core B L σ G θ m s) (ht : G.tg a = .itr) {c : Cell} (hθ : θ[i]? = some a) (hc : CR B (G.retag a (.cell i)) θ i a c) : Core B L (Mine.setc σ i c) (G.retag a (.cell i)) θ m s :=
  C.setc rfl rfl C.fr C.N C.nd C.lo (retag_ext0 ht) (fun j b ob _ hb => retag_ne (ne_of hb ht nofun) hb) fun b hb => Option.some.inj (hθ.symm.trans hb) ▸ hc

theorem take_get {n : Nat} (h : i < n) (e : θ[i]? = some a) : (θ.take n)[i]? = some a := (List.getElem?_take_of_lt h).trans e
theorem Core.trim {n : Nat} (C : Core B L σ G θ m s) (h : underS n (keepN n σ) = true) : Core B L (keepN n σ) G (θ.take n) m s :=
  ⟨C.gens, C.os, C.fr, C.N, C.nd, C.lo, by rw [keepN_len, List.length_take, C.th], fun i c hc =>
    have ⟨h1, h2⟩ := keepN_cell hc
    (C.cs i c h2).imp fun a hr => ⟨take_get h1 hr.1, CR.mono (fun _ _ h => h) (fun _ _ h => h) (fun i => Nat.blt i n) (fun q h => h.on (fun j b hj hb => take_get (Nat.le_of_ble_eq_true hj) hb) q) (underS_at h hc) hr.2⟩⟩
theorem Pre.take {n : Nat} (p : Pre θ θ') (h : θ.length ≤ n) : Pre θ (θ'.take n) := fun i a e => take_get (Nat.lt_of_lt_of_le (List.getElem?_eq_some_iff.mp e).1 h) (p i a e)

noncomputable def Gh.hide (G : Gh) : Gh := ⟨G.L, fun b => if (G.tg b).isCell then .itr else G.tg b⟩
theorem hide_in (h : In G t a o) (e : t.isCell = false) : In G.hide t a o := ⟨h.1, (if_neg (by rw [h.2, e]; exact nofun)).trans h.2⟩
theorem hide_cell (h : In G (.cell i) a o) : In G.hide .itr a o := ⟨h.1, if_pos (h.2.symm ▸ rfl)⟩
theorem Core.hide (C : Core B L σ G θ m s) : Core B L [] G.hide [] m s := ⟨C.gens, C.os, C.fr, C.N, C.nd, C.lo, rfl, fun i c hc => nomatch hc⟩
theorem hide_ext0 : Ext0 G G.hide := fun _ _ h => hide_in h rfl
noncomputable def hasK (l : List (Addr × Obj)) (a : Addr) : Bool := l.any fun p => p.1 == a
theorem hasK_iff {l : List (Addr × Obj)} {a : Addr} : hasK l a = true ↔ ∃ o, (a, o) ∈ l :=
  List.any_eq_true.trans ⟨fun ⟨p, hp, e⟩ => ⟨p.2, eq_of_beq e ▸ hp⟩, fun ⟨o, h⟩ => ⟨(a, o), h, beq_self_eq_true a⟩⟩
noncomputable def Gh.show' (G G' : Gh) (fx : Addr → Bool) : Gh := ⟨G'.L, fun b => if fx b = true then .fix else if hasK G.L b = true ∧ (G.tg b).isCell = true then G.tg b else G'.tg b⟩
theorem Core.unhide {fx : Addr → Bool} (hfx : ∀ b, fx b = true → hasK G.L b = false) (C : Core B L σ G θ m s) (C' : Core B L σ' G' θ' m s') (x : ExtL G.hide G') : Core B L σ (G.show' G' fx) θ m s' ∧ ExtL G (G.show' G' fx) ∧ Ext0 G' (G.show' G' fx) := by
  have nf : ∀ {a : Addr} {o : Obj}, (a, o) ∈ G.L → ¬ fx a = true := fun {a o} h e => nomatch (hasK_iff.mpr ⟨o, h⟩).symm.trans (hfx a e)
  have hid : ∀ {a : Addr} {o : Obj} {i : Nat}, In G (.cell i) a o → In G' .itr a o := fun h => x.at (hide_cell h) nofun
  have hidc : ∀ {a : Addr}, hasK G.L a = true → (G.tg a).isCell = true → G'.tg a = .itr := fun {a} q e => by
    obtain ⟨o, q⟩ := hasK_iff.mp q
    cases c : G.tg a with
    | cell i => exact (hid ⟨q, c⟩).2
    | _ => rw [c] at e; cases e
  have x0 : Ext0 G' (G.show' G' fx) := fun a o h => ⟨h.1, by
    show (if _ then _ else _) = _
    by_cases q : fx a = true
    · rw [if_pos q]
    rw [if_neg q, if_neg fun q => nomatch h.2.symm.trans (hidc q.1 q.2)]
    exact h.2⟩
  have xl : ExtL G (G.show' G' fx) := fun a o h t => by
    have nc : (G.tg a).isCell = false := by
      cases e : G.tg a with
      | cell i => exact absurd e (t i)
      | _ => rfl
    have z := x.at (hide_in (G := G) ⟨h, rfl⟩ nc) t
    refine ⟨z.1, ?_⟩
    show (if _ then _ else _) = _
    rw [if_neg (nf h), if_neg fun q => by rw [nc] at q; cases q.2]
    exact z.2
  have xc : ∀ i a o, In G (.cell i) a o → In (G.show' G' fx) (.cell i) a o := fun i a o h => ⟨(hid h).1, by
    show (if _ then _ else _) = _
    rw [if_neg (nf h.1), if_pos ⟨hasK_iff.mpr ⟨o, h.1⟩, h.2.symm ▸ rfl⟩]
    exact h.2⟩
  exact ⟨C.lift (C'.gens.trans C.gens.symm) (C'.os.trans C.os.symm) C'.fr C'.N C'.nd C'.lo xl.ext.fixes xc, xl, x0⟩

noncomputable def Gh.enter (G : Gh) (L : Addr) (oL : Obj) (X : List (Addr × Obj)) : Gh := ⟨X ++ (L, oL) :: G.L, fun b => if hasK X b then .loc else if b = L then .itr else if (G.tg b).isLoc then .itr else G.tg b⟩
noncomputable def Gh.leave (G G' : Gh) (L : Addr) : Gh := ⟨G'.L.filter fun p => p.1 ≠ L, fun b => if hasK G.L b = true ∧ (G.tg b).isLoc = true then .loc else G'.tg b⟩
structure EnterH (s s' : Shared) (L L' : Addr) (oL : Obj) (X : List (Addr × Obj)) : Prop where
  keep : ∀ b o, s.heap.get? b = some o → s'.heap.get? b = some o
  oL : s.heap.get? L = some oL
  new : s.heap.objs.size ≤ L'
  X1 : ∀ p ∈ X, s'.heap.get? p.1 = some p.2 ∧ p.1 ≠ L' ∧ s.heap.objs.size ≤ p.1
  X2 : (X.map (·.1)).Nodup
  gens : s'.gens = s.gens
  os : s'.os = s.os
variable {oL : Obj} {X : List (Addr × Obj)} {s₁ : Shared} {m'' : Str → Option Value}
theorem EnterH.notX (H : EnterH s s' L L' oL X) (h : s.heap.get? a = some o) : hasK X a = false := Bool.eq_false_iff.mpr fun q =>
  have ⟨o', q⟩ := hasK_iff.mp q
  absurd (Heap.lt_size h) (Nat.not_lt.mpr (H.X1 _ q).2.2)
theorem Core.enterIn (C : Core B L σ G θ m s) (H : EnterH s s' L L' oL X) (h : In G t a o) (e : t.isLoc = false) : In (G.enter L oL X) t a o := ⟨List.mem_append_right _ (.tail _ h.1), by
  show (if hasK X a then Tag.loc else if a = L then .itr else _) = _
  rw [H.notX (C.get h.1), if_neg nofun, if_neg (C.N _ h.1).2.1, h.2, e]
  exact if_neg nofun⟩
theorem Core.enterLoc (C : Core B L σ G θ m s) (H : EnterH s s' L L' oL X) (h : In G .loc a o) : In (G.enter L oL X) .itr a o := ⟨List.mem_append_right _ (.tail _ h.1), by
  show (if hasK X a then Tag.loc else if a = L then .itr else _) = _
  rw [H.notX (C.get h.1), if_neg nofun, if_neg (C.N _ h.1).2.1, h.2]
  exact if_pos rfl⟩
theorem Core.enterL (C : Core B L σ G θ m s) (H : EnterH s s' L L' oL X) : In (G.enter L oL X) .itr L oL := ⟨List.mem_append_right _ (.head _), by
  show (if hasK X L then Tag.loc else if L = L then .itr else _) = _
  rw [H.notX H.oL, if_neg nofun, if_pos rfl]⟩
theorem Core.enterExt (C : Core B L σ G θ m s) (H : EnterH s s' L L' oL X) : Ext G (G.enter L oL X) := fun a o h t => C.enterIn H ⟨h, rfl⟩ (by revert t; cases G.tg a <;> exact fun t => by first | rfl | cases t)
theorem Core.enter (C : Core B L σ G θ m s) (H : EnterH s s' L L' oL X) (ns : s'.heap.Ns L' m') : Core B L' σ (G.enter L oL X) θ m' s' := by
  have hL := C.fr.above
  have key : ∀ {P : Addr × Obj → Prop}, (∀ p ∈ X, P p) → P (L, oL) → (∀ p ∈ G.L, P p) → ∀ p ∈ (G.enter L oL X).L, P p := fun h1 h2 h3 p hp => (List.mem_append.mp hp).elim (h1 p) fun hp => (List.mem_cons.mp hp).elim (fun e => e ▸ h2) (h3 p)
  have low := key (P := fun p => B.h₀.objs.size ≤ p.1) (fun p hp => Nat.le_trans C.sizeLe (H.X1 p hp).2.2) hL fun p hp => C.lo _ (List.mem_map_of_mem hp)
  have up : ∀ {b : Addr} {ob : Obj}, s.heap.get? b = some ob → b ≠ L' := fun h => Nat.ne_of_lt (Nat.lt_of_lt_of_le (Heap.lt_size h) H.new)
  refine C.lift H.gens H.os ⟨ns, fun b o h => H.keep _ _ (C.fr.keep b o h), Nat.le_trans C.sizeLe H.new⟩ (fun p hp => ?_) ?_ (fun a ha => ?_) (C.enterExt H).fixes fun _ _ _ h => C.enterIn H h rfl
  · refine and_assoc.mp ⟨?_, Heap.get?_none_of_le (low p hp)⟩
    exact key (P := fun p => s'.heap.get? p.1 = some p.2 ∧ p.1 ≠ L') (fun p hp => ⟨(H.X1 p hp).1, (H.X1 p hp).2.1⟩) ⟨H.keep _ _ H.oL, up H.oL⟩ (fun p hp => ⟨H.keep _ _ (C.N p hp).1, up (C.N p hp).1⟩) p hp
  · show ((X ++ (L, oL) :: G.L).map (·.1)).Nodup
    rw [List.map_append, List.map_cons]
    refine List.nodup_append.mpr ⟨H.X2, List.nodup_cons.mpr ⟨fun hm => ?_, C.nd⟩, fun a ha b hb e => ?_⟩
    · obtain ⟨p, hp, e⟩ := List.mem_map.mp hm
      exact (C.N p hp).2.1 e
    · obtain ⟨p, hp, rfl⟩ := List.mem_map.mp ha
      have h2 : b < s.heap.objs.size := (List.mem_cons.mp hb).elim (fun e => e.symm ▸ Heap.lt_size H.oL) fun hb => by
        obtain ⟨q, hq, rfl⟩ := List.mem_map.mp hb
        exact C.lt (a := q.1) (o := q.2) hq
      exact absurd (e ▸ h2) (Nat.not_lt.mpr (H.X1 p hp).2.2)
  · obtain ⟨p, hp, rfl⟩ := List.mem_map.mp ha
    exact low p hp
theorem Core.leave (C : Core B L σ G θ m s) (H : EnterH s s₁ L L' oL X) (C' : Core B L' σ' G' θ' m'' s') (x : Ext (G.enter L oL X) G') : Core B L σ' (G.leave G' L) θ' m s' ∧ ExtL G (G.leave G' L) ∧ Ext0 G' (G.leave G' L) := by
  have oL' := x.itr (C.enterL H)
  have isl : ∀ {a : Addr}, (G.tg a).isLoc = true → G.tg a = .loc := fun {a} h => by
    cases e : G.tg a with
    | loc => rfl
    | _ => rw [e] at h; cases h
  have mem : ∀ {t : Tag} {a : Addr} {o : Obj}, In G' t a o → t ≠ .itr → In (G.leave G' L) t a o := fun {t a o} h e => ⟨List.mem_filter.mpr ⟨h.1, decide_eq_true fun q => ne_of h oL'.2 e q⟩, (if_neg fun q => by
    obtain ⟨o', q1⟩ := hasK_iff.mp q.1
    exact e (h.2.symm.trans (x.itr (C.enterLoc H ⟨q1, isl q.2⟩)).2)).trans h.2⟩
  have sub : ∀ p ∈ (G.leave G' L).L, p ∈ G'.L ∧ p.1 ≠ L := fun p hp => (List.mem_filter.mp hp).imp id of_decide_eq_true
  refine ⟨C'.lift rfl rfl ⟨C.fr.ns.at' fun o ho => ?_, C'.fr.keep, C.fr.above⟩ (fun p hp => ⟨(C'.N p (sub p hp).1).1, (sub p hp).2, (C'.N p (sub p hp).1).2.2⟩) (C'.nd.sublist (List.filter_sublist.map _)) (fun b hb => C'.lo b ((List.filter_sublist.map _).subset hb)) (fun _ _ h => mem h nofun) fun _ _ _ h => mem h nofun, fun a o h t => ?_, fun _ _ h => mem h nofun⟩
  · exact Option.some.inj (H.oL.symm.trans ho) ▸ C'.get oL'.1
  · have hne := (C.N _ h).2.1
    cases q : (G.tg a).isLoc with
    | true => exact ⟨List.mem_filter.mpr ⟨(x.itr (C.enterLoc H ⟨h, isl q⟩)).1, decide_eq_true hne⟩, (if_pos ⟨hasK_iff.mpr ⟨o, h⟩, q⟩).trans (isl q).symm⟩
    | false =>
      have z := x.at (C.enterIn H ⟨h, rfl⟩ q) (by
        cases e : G.tg a with
        | cell i => exact absurd e (t i)
        | loc => rw [e] at q; cases q
        | _ => rfl)
      exact ⟨List.mem_filter.mpr ⟨z.1, decide_eq_true hne⟩, (if_neg fun e => nomatch (q.symm.trans e.2 : false = true)).trans z.2⟩

theorem Names.ext (h : Names B G θ env ρ m) (x : Ext0 G G') (p : Pre θ θ') (q : ∀ n c o, env.cells.lookup n = some c → In G (lcTag env) c o → In G' (lcTag env) c o) : Names B G' θ' env ρ m :=
  ⟨fun n v hv h0 => (h.vals n v hv h0).imp (fun a k => (a k).imp fun w h => ⟨h.1, h.2.ext0 x p⟩) fun b k => let ⟨c, o, w, h1, h2, h3, h4⟩ := b k; ⟨c, o, w, h1, q _ _ _ h1 h2, h3, h4.ext0 x p⟩,
    fun n c hc => (h.cells n c hc).imp fun o h => h.imp fun v h => ⟨q _ _ _ hc h.1, h.2⟩⟩
theorem Names.extL (h : Names B G θ env ρ m) (x : ExtL G G') (p : Pre θ θ') : Names B G' θ' env ρ m := h.ext x.ext.fixes p fun _ _ _ _ h => x.at h fun _ => lcTag_ne
theorem Rel.lift (R : Rel B env ρ σ G θ s) (f : ∀ m, Core B env.locals σ G θ m s → Core B env.locals σ' G' θ' m s') (x : ExtL G G') (p : Pre θ θ') : Rel B env ρ σ' G' θ' s' := R.imp fun m h => ⟨f m h.1, h.2.extL x p⟩
theorem Rel.noCell (R : Rel B env ρ σ G θ s) (h : (a, o) ∈ G.L) (hd : ∀ v, o.data ≠ .cell v) {n : Str} {c : Addr} (e : env.cells.lookup n = some c) : c ≠ a := fun q =>
  let ⟨_, C, Nm⟩ := R; let ⟨o', v, h1, h2⟩ := Nm.cells n c e
  hd v (C.uniq h (q ▸ h1.1) ▸ h2)
theorem Rel.liftNot (R : Rel B env ρ σ G θ s) (f : ∀ m, Core B env.locals σ G θ m s → Core B env.locals σ' G' θ' m s') (x : Ext0 G G') (p : Pre θ θ') (h : (a, o) ∈ G.L) (hd : ∀ v, o.data ≠ .cell v) (q : ∀ t c o, c ≠ a → In G t c o → In G' t c o) : Rel B env ρ σ' G' θ' s' :=
  R.imp fun m k => ⟨f m k.1, k.2.ext x p fun n c o e hc => q _ c o (R.noCell h hd e) hc⟩
theorem Rel.core (R : Rel B env ρ σ G θ s) : ∃ m, Core B env.locals σ G θ m s ∧ Names B G θ env ρ m := R
theorem Rel.get (R : Rel B env ρ σ G θ s) (h : (a, o) ∈ G.L) : s.heap.get? a = some o := let ⟨_, C, _⟩ := R; C.get h
theorem Rel.keep (R : Rel B env ρ σ G θ s) (h : B.h₀.get? a = some o) : s.heap.get? a = some o := let ⟨_, C, _⟩ := R; C.fr.keep a o h
theorem Rel.has (R : Rel B env ρ σ G θ s) (h : Has B G a o) : s.heap.get? a = some o := h.elim R.keep fun q => R.get q.1
theorem Rel.lt (R : Rel B env ρ σ G θ s) (h : (a, o) ∈ G.L) : a < s.heap.objs.size := Heap.lt_size (R.get h)
theorem Rel.uniq (R : Rel B env ρ σ G θ s) (h : (a, o) ∈ G.L) (h' : (a, o') ∈ G.L) : o = o' := Option.some.inj ((R.get h).symm.trans (R.get h'))
theorem Rel.fresh (R : Rel B env ρ σ G θ s) : ∀ q ∈ G.L, q.1 ≠ s.heap.objs.size := fun q hq => Nat.ne_of_lt (R.lt (a := q.1) (o := q.2) hq)
theorem Rel.gens (R : Rel B env ρ σ G θ s) : s.gens = #[] := let ⟨_, C, _⟩ := R; C.gens
theorem Rel.os (R : Rel B env ρ σ G θ s) : s.os = B.os := let ⟨_, C, _⟩ := R; C.os
theorem Rel.th (R : Rel B env ρ σ G θ s) : θ.length = σ.length := let ⟨_, C, _⟩ := R; C.th
theorem Rel.sizeLe (R : Rel B env ρ σ G θ s) : B.h₀.objs.size ≤ s.heap.objs.size := let ⟨_, C, _⟩ := R; C.sizeLe
theorem Rel.lo (R : Rel B env ρ σ G θ s) (h : (a, o) ∈ G.L) : B.h₀.objs.size ≤ a := let ⟨_, C, _⟩ := R; C.lo a (List.mem_map_of_mem h)
theorem Rel.at (R : Rel B env ρ σ G θ s) {c : Cell} (hθ : θ[i]? = some a) (hc : cell σ i = some c) : CR B G θ i a c := let ⟨_, C, _⟩ := R; let ⟨_, h1, h2⟩ := C.cs i c hc; Option.some.inj (h1.symm.trans hθ) ▸ h2
theorem Rel.new_at (R : Rel B env ρ σ G θ s) (a : Addr) : (θ ++ [a])[σ.length]? = some a := let ⟨_, C, _⟩ := R; Mine.new_at C a
theorem Rel.onHeap {h' : Heap} {tk : Nat} (R : Rel B env ρ σ G θ s) (k : ∀ b o, s.heap.get? b = some o → h'.get? b = some o) : Rel B env ρ σ G θ { s with heap := h', toks := tk } := R.lift (fun _ C => C.onHeap k) (.refl _) (.refl _)
theorem Rel.tok (R : Rel B env ρ σ G θ s) (t : Nat) : Rel B env ρ σ G θ { s with toks := t } := R.onHeap fun _ _ h => h
theorem Rel.push (R : Rel B env ρ σ G θ s) (o : Obj) (t : Tag) (hf : o.isFreed = false := by rfl) : Rel B env ρ σ (G.push s.heap.objs.size o t) θ { s with heap := s.heap.push o } := R.lift (fun _ C => C.push o t hf) (pushL R.fresh) (.refl _)
theorem Rel.pushExt (R : Rel B env ρ σ G θ s) (o : Obj) (t : Tag) : Ext G (G.push s.heap.objs.size o t) := (pushL R.fresh).ext
theorem Rel.grow (R : Rel B env ρ σ G θ s) {c : Cell} (h : CR B G (θ ++ [a]) σ.length a c) : Rel B env ρ (σ ++ [c]) G (θ ++ [a]) s := R.lift (fun _ C => C.grow h) (.refl _) (.app _ _)
theorem Rel.turnItr {h' : Heap} {tk : Nat} (R : Rel B env ρ σ G θ s) (h : In G .itr a o) (hnc : ∀ v, o.data ≠ .cell v) (hs : ∀ b ob, b ≠ a → s.heap.get? b = some ob → h'.get? b = some ob) (ho : h'.get? a = some o') : Rel B env ρ σ (G.upd a o') θ { s with heap := h', toks := tk } :=
  R.liftNot (fun _ C => C.turnItr h hs ho) (upd_ext0 fun e => nomatch h.2.symm.trans e) (.refl _) h.1 hnc fun _ _ _ hne hc => upd_ne hne hc
theorem Rel.congr {ρ' : Loc} (h : ∀ n v, look n ρ' = some v → look n ρ = some v) (R : Rel B env ρ σ G θ s) : Rel B env ρ' σ G θ s := R.imp fun m k => ⟨k.1, fun n v hv h0 => k.2.vals n v (h n v hv) h0, k.2.cells⟩
end
end Mine
namespace Mine
open PySem PySem.W PyProof.Rows PySem.Calls

theorem lookup_zip {ps : List Str} {vals : List Value} {n : Str} (hl : vals.length = ps.length) (h : n ∈ ps) : ((ps.zip vals).lookup n).isSome = true := by
  induction ps generalizing vals with
  | nil => cases h
  | cons p ps ih =>
    cases vals with
    | nil => cases hl
    | cons v vals =>
      rw [List.zip_cons_cons, List.lookup_cons]
      cases q : n == p with
      | true => rfl
      | false =>
        rcases List.mem_cons.mp h with rfl | h
        · simp at q
        · exact ih (Nat.succ.inj hl) h
theorem filterMap_zip {ps : List Str} {vals : List Value} (hl : vals.length = ps.length) (nd : ps.Nodup) (f : Str → Option Value) (hf : ∀ n, n ∈ ps → f n = (ps.zip vals).lookup n) :
    ps.filterMap (fun n => (f n).map fun x => (n, x)) = ps.zip vals := by
  induction ps generalizing vals f with
  | nil => rfl
  | cons p ps ih =>
    cases vals with
    | nil => cases hl
    | cons v vals =>
      have h0 : f p = some v := by rw [hf p (.head _), List.zip_cons_cons, List.lookup_cons, beq_self_eq_true]
      rw [List.filterMap_cons, h0]
      show (p, v) :: _ = (p, v) :: _
      refine congrArg _ (ih (Nat.succ.inj hl) (List.nodup_cons.mp nd).2 f fun n hn => ?_)
      rw [hf n (.tail _ hn), List.zip_cons_cons, List.lookup_cons]
      have : (n == p) = false := by
        apply beq_eq_false_iff_ne.mpr
        intro e
        exact (List.nodup_cons.mp nd).1 (e ▸ hn)
      rw [this]
theorem bind_loop {M : Model} {A : Around} {E : Value → Shared → Prop} {s : Shared} {sl : List (Str × Value)} : ∀ (l : List (Str × Value)) {Q : List (Str × Value) → Shared → Prop}, (∀ x ∈ l, (sl.lookup x.1).isSome = true) → Q sl s →
    wpAny M A (forIn l sl fun x r => if (r.lookup x.1).isNone = true then pure (ForInStep.yield (r ++ [(x.1, x.2)])) else pure (ForInStep.yield r)) Q E s
  | [], _, _, q => by rw [List.forIn_nil]; exact wpAny_pure q
  | x :: l, Q, h, q => by
    rw [List.forIn_cons]
    have hx := h x (.head _)
    have : ¬ (sl.lookup x.1).isNone = true := by
      rw [Option.isNone_iff_eq_none]
      intro e; rw [e] at hx; cases hx
    rw [if_neg this]
    exact wpAny_bind (wpAny_pure (bind_loop l (fun y hy => h y (.tail _ hy)) q))
theorem bind_plain {M : Model} {A : Around} {E : Value → Shared → Prop} {s : Shared} {Q : List (Str × Value) → Shared → Prop} {fd : FuncData} {ps : List Str} {vals : List Value}
    (h1 : fd.params.posonlyargs = []) (h2 : fd.params.args.map (·.arg) = ps) (h3 : fd.params.vararg = none) (h4 : fd.params.kwonlyargs = []) (h5 : fd.params.kwarg = none)
    (hl : vals.length = ps.length) (nd : ps.Nodup) (hd : ∀ (Q : Option (Array Value) → Shared → Prop), (∀ r, Q r s) → wpAny M A (seqItems? fd.defaults) Q E s)
    (h : Q (ps.zip vals) s) : wpAny M A (bindArgs fd ⟨vals, []⟩) Q E s := by
  unfold bindArgs
  simp only [h1, h2, h3, h4, h5, List.map_nil, List.nil_append, List.append_nil]
  simp only [List.forIn_nil]
  refine wpAny_bind (wpAny_pure (wpAny_bind (hd _ fun r => ?_)))
  have c1 : (decide (vals.length > ps.length) && (none : Option Arg).isNone) = false := by
    rw [hl]; simp
  rw [if_neg (by rw [c1]; decide)]
  have mis : ∀ k, List.filter (fun n => ((ps.zip vals).lookup n).isNone) (ps.take k) = [] := fun k => by
    refine List.filter_eq_nil_iff.mpr fun n hn => ?_
    have := lookup_zip hl (List.mem_of_mem_take hn)
    rw [Option.isNone_iff_eq_none]
    intro e; rw [e] at this; cases this
  rw [if_neg (by rw [mis]; decide)]
  refine wpAny_bind (bind_loop _ (fun x hx => ?_) ?_)
  · exact lookup_zip hl (List.mem_of_mem_drop (List.of_mem_zip hx).1)
  · refine wpAny_bind (wpAny_pure ?_)
    rw [if_neg (by simp)]
    refine wpAny_pure ?_
    rw [filterMap_zip hl nd _ fun _ _ => rfl]
    exact h
end Mine
set_option genInjectivity false
namespace Mine
open PySem PySem.W PyProof.Rows PySem.Calls

theorem an {a b : Bool} {Z : Prop} (h : (a && b) = true) (z : a = true → b = true → Z) : Z := have q := Bool.and_eq_true_iff.mp h; z q.1 q.2
theorem nt {a : Bool} (h : (!a) = true) : a = false := by cases a <;> first | rfl | cases h

section
variable {Z : Expr → Prop} {x : Expr}
noncomputable def onConst (x : Expr) (k : Const → Bool) : Bool := dite (x.ctorIdx = 19) (fun h => Expr.Constant.elim (motive_1 := fun _ => Bool) x h fun c _ _ => k c) fun _ => false
@[elab_as_elim] theorem inConst {k : Const → Bool} (h : onConst x k = true) (z : ∀ c kd p, k c = true → Z (.Constant c kd p)) : Z x := dite (x.ctorIdx = 19) (fun c => Expr.Constant.elim (motive_1 := fun x => onConst x k = true → Z x) x c (fun c kd p h => z c kd p h) h) fun c => ab ((dif_neg c).symm.trans h)
noncomputable def onName (x : Expr) (k : Str → Bool) : Bool := dite (x.ctorIdx = 23) (fun h => Expr.Name.elim (motive_1 := fun _ => Bool) x h fun y _ => k y) fun _ => false
@[elab_as_elim] theorem inName {k : Str → Bool} (h : onName x k = true) (z : ∀ y p, k y = true → Z (.Name y p)) : Z x := dite (x.ctorIdx = 23) (fun c => Expr.Name.elim (motive_1 := fun x => onName x k = true → Z x) x c (fun y p h => z y p h) h) fun c => ab ((dif_neg c).symm.trans h)
noncomputable def onNameP (x : Expr) (k : Str → Pos → Bool) : Bool := dite (x.ctorIdx = 23) (fun h => Expr.Name.elim (motive_1 := fun _ => Bool) x h fun y p => k y p) fun _ => false
@[elab_as_elim] theorem inNameP {k : Str → Pos → Bool} (h : onNameP x k = true) (z : ∀ y p, k y p = true → Z (.Name y p)) : Z x := dite (x.ctorIdx = 23) (fun c => Expr.Name.elim (motive_1 := fun x => onNameP x k = true → Z x) x c (fun y p h => z y p h) h) fun c => ab ((dif_neg c).symm.trans h)
noncomputable def onBool (x : Expr) (k : BoolOp → List Expr → Bool) : Bool := dite (x.ctorIdx = 0) (fun h => Expr.BoolOp.elim (motive_1 := fun _ => Bool) x h fun o xs _ => k o xs) fun _ => false
@[elab_as_elim] theorem inBool {k : BoolOp → List Expr → Bool} (h : onBool x k = true) (z : ∀ o xs p, k o xs = true → Z (.BoolOp o xs p)) : Z x := dite (x.ctorIdx = 0) (fun c => Expr.BoolOp.elim (motive_1 := fun x => onBool x k = true → Z x) x c (fun o xs p h => z o xs p h) h) fun c => ab ((dif_neg c).symm.trans h)
noncomputable def onUn (x : Expr) (k : UnaryOp → Expr → Bool) : Bool := dite (x.ctorIdx = 3) (fun h => Expr.UnaryOp.elim (motive_1 := fun _ => Bool) x h fun o y _ => k o y) fun _ => false
@[elab_as_elim] theorem inUn {k : UnaryOp → Expr → Bool} (h : onUn x k = true) (z : ∀ o y p, k o y = true → Z (.UnaryOp o y p)) : Z x := dite (x.ctorIdx = 3) (fun c => Expr.UnaryOp.elim (motive_1 := fun x => onUn x k = true → Z x) x c (fun o y p h => z o y p h) h) fun c => ab ((dif_neg c).symm.trans h)
noncomputable def onCmp (x : Expr) (k : Expr → List CmpOp → List Expr → Bool) : Bool := dite (x.ctorIdx = 15) (fun h => Expr.Compare.elim (motive_1 := fun _ => Bool) x h fun l os rs _ => k l os rs) fun _ => false
@[elab_as_elim] theorem inCmp {k : Expr → List CmpOp → List Expr → Bool} (h : onCmp x k = true) (z : ∀ l os rs p, k l os rs = true → Z (.Compare l os rs p)) : Z x := dite (x.ctorIdx = 15) (fun c => Expr.Compare.elim (motive_1 := fun x => onCmp x k = true → Z x) x c (fun l os rs p h => z l os rs p h) h) fun c => ab ((dif_neg c).symm.trans h)
noncomputable def onIte (x : Expr) (k : Expr → Expr → Expr → Bool) : Bool := dite (x.ctorIdx = 5) (fun h => Expr.IfExp.elim (motive_1 := fun _ => Bool) x h fun t a b _ => k t a b) fun _ => false
@[elab_as_elim] theorem inIte {k : Expr → Expr → Expr → Bool} (h : onIte x k = true) (z : ∀ t a b p, k t a b = true → Z (.IfExp t a b p)) : Z x := dite (x.ctorIdx = 5) (fun c => Expr.IfExp.elim (motive_1 := fun x => onIte x k = true → Z x) x c (fun t a b p h => z t a b p h) h) fun c => ab ((dif_neg c).symm.trans h)
noncomputable def onBin (x : Expr) (k : Expr → Operator → Expr → Bool) : Bool := dite (x.ctorIdx = 2) (fun h => Expr.BinOp.elim (motive_1 := fun _ => Bool) x h fun a o b _ => k a o b) fun _ => false
@[elab_as_elim] theorem inBin {k : Expr → Operator → Expr → Bool} (h : onBin x k = true) (z : ∀ a o b p, k a o b = true → Z (.BinOp a o b p)) : Z x := dite (x.ctorIdx = 2) (fun c => Expr.BinOp.elim (motive_1 := fun x => onBin x k = true → Z x) x c (fun a o b p h => z a o b p h) h) fun c => ab ((dif_neg c).symm.trans h)
noncomputable def onAttr (x : Expr) (k : Expr → Str → Pos → Bool) : Bool := dite (x.ctorIdx = 20) (fun h => Expr.Attribute.elim (motive_1 := fun _ => Bool) x h fun a o p => k a o p) fun _ => false
@[elab_as_elim] theorem inAttr {k : Expr → Str → Pos → Bool} (h : onAttr x k = true) (z : ∀ a o p, k a o p = true → Z (.Attribute a o p)) : Z x := dite (x.ctorIdx = 20) (fun c => Expr.Attribute.elim (motive_1 := fun x => onAttr x k = true → Z x) x c (fun a o p h => z a o p h) h) fun c => ab ((dif_neg c).symm.trans h)
noncomputable def onSub (x : Expr) (k : Expr → Expr → Bool) : Bool := dite (x.ctorIdx = 21) (fun h => Expr.Subscript.elim (motive_1 := fun _ => Bool) x h fun a b _ => k a b) fun _ => false
@[elab_as_elim] theorem inSub {k : Expr → Expr → Bool} (h : onSub x k = true) (z : ∀ a b p, k a b = true → Z (.Subscript a b p)) : Z x := dite (x.ctorIdx = 21) (fun c => Expr.Subscript.elim (motive_1 := fun x => onSub x k = true → Z x) x c (fun a b p h => z a b p h) h) fun c => ab ((dif_neg c).symm.trans h)
noncomputable def onSlice (x : Expr) (k : Option Expr → Option Expr → Option Expr → Bool) : Bool := dite (x.ctorIdx = 26) (fun h => Expr.Slice.elim (motive_1 := fun _ => Bool) x h fun a b c _ => k a b c) fun _ => false
@[elab_as_elim] theorem inSlice {k : Option Expr → Option Expr → Option Expr → Bool} (h : onSlice x k = true) (z : ∀ a b c p, k a b c = true → Z (.Slice a b c p)) : Z x := dite (x.ctorIdx = 26) (fun c => Expr.Slice.elim (motive_1 := fun x => onSlice x k = true → Z x) x c (fun a b c p h => z a b c p h) h) fun c => ab ((dif_neg c).symm.trans h)
noncomputable def onTup (x : Expr) (k : List Expr → Bool) : Bool := dite (x.ctorIdx = 25) (fun h => Expr.Tuple.elim (motive_1 := fun _ => Bool) x h fun xs _ _ => k xs) fun _ => false
@[elab_as_elim] theorem inTup {k : List Expr → Bool} (h : onTup x k = true) (z : ∀ xs u p, k xs = true → Z (.Tuple xs u p)) : Z x := dite (x.ctorIdx = 25) (fun c => Expr.Tuple.elim (motive_1 := fun x => onTup x k = true → Z x) x c (fun xs u p h => z xs u p h) h) fun c => ab ((dif_neg c).symm.trans h)
noncomputable def onList (x : Expr) (k : List Expr → Bool) : Bool := dite (x.ctorIdx = 24) (fun h => Expr.List.elim (motive_1 := fun _ => Bool) x h fun xs _ => k xs) fun _ => false
@[elab_as_elim] theorem inList {k : List Expr → Bool} (h : onList x k = true) (z : ∀ xs p, k xs = true → Z (.List xs p)) : Z x := dite (x.ctorIdx = 24) (fun c => Expr.List.elim (motive_1 := fun x => onList x k = true → Z x) x c (fun xs p h => z xs p h) h) fun c => ab ((dif_neg c).symm.trans h)
noncomputable def onDict (x : Expr) (k : List (Option Expr) → List Expr → Bool) : Bool := dite (x.ctorIdx = 6) (fun h => Expr.Dict.elim (motive_1 := fun _ => Bool) x h fun a b _ => k a b) fun _ => false
@[elab_as_elim] theorem inDict {k : List (Option Expr) → List Expr → Bool} (h : onDict x k = true) (z : ∀ a b p, k a b = true → Z (.Dict a b p)) : Z x := dite (x.ctorIdx = 6) (fun c => Expr.Dict.elim (motive_1 := fun x => onDict x k = true → Z x) x c (fun a b p h => z a b p h) h) fun c => ab ((dif_neg c).symm.trans h)
noncomputable def onCall (x : Expr) (k : Expr → List Expr → List Keyword → Pos → Bool) : Bool := dite (x.ctorIdx = 16) (fun h => Expr.Call.elim (motive_1 := fun _ => Bool) x h fun f a b p => k f a b p) fun _ => false
@[elab_as_elim] theorem inCall {k : Expr → List Expr → List Keyword → Pos → Bool} (h : onCall x k = true) (z : ∀ f a b p, k f a b p = true → Z (.Call f a b p)) : Z x := dite (x.ctorIdx = 16) (fun c => Expr.Call.elim (motive_1 := fun x => onCall x k = true → Z x) x c (fun f a b p h => z f a b p h) h) fun c => ab ((dif_neg c).symm.trans h)
noncomputable def onLcp (x : Expr) (k : Expr → List Comprehension → Scope → Pos → Bool) : Bool := dite (x.ctorIdx = 8) (fun h => Expr.ListComp.elim (motive_1 := fun _ => Bool) x h fun y gs cs p => k y gs cs p) fun _ => false
@[elab_as_elim] theorem inLcp {k : Expr → List Comprehension → Scope → Pos → Bool} (h : onLcp x k = true) (z : ∀ y gs cs p, k y gs cs p = true → Z (.ListComp y gs cs p)) : Z x := dite (x.ctorIdx = 8) (fun c => Expr.ListComp.elim (motive_1 := fun x => onLcp x k = true → Z x) x c (fun y gs cs p h => z y gs cs p h) h) fun c => ab ((dif_neg c).symm.trans h)
end
section
variable {α : Type}
noncomputable def on1 (l : List α) (k : α → Bool) : Bool := match l with | [a] => k a | _ => false
@[elab_as_elim] theorem in1 {Z : List α → Prop} {l : List α} {k : α → Bool} (h : on1 l k = true) (z : ∀ a, k a = true → Z [a]) : Z l := match l, h with | [a], h => z a h
noncomputable def on2 (l : List α) (k : α → α → Bool) : Bool := match l with | [a, b] => k a b | _ => false
@[elab_as_elim] theorem in2 {Z : List α → Prop} {l : List α} {k : α → α → Bool} (h : on2 l k = true) (z : ∀ a b, k a b = true → Z [a, b]) : Z l := match l, h with | [a, b], h => z a b h
noncomputable def onCons (l : List α) (k : α → List α → Bool) : Bool := match l with | a :: r => k a r | _ => false
@[elab_as_elim] theorem inCons {Z : List α → Prop} {l : List α} {k : α → List α → Bool} (h : onCons l k = true) (z : ∀ a r, k a r = true → Z (a :: r)) : Z l := match l, h with | a :: r, h => z a r h
@[elab_as_elim] theorem inNil {Z : List α → Prop} {l : List α} (h : l.isEmpty = true) (z : Z []) : Z l := match l, h with | [], _ => z
noncomputable def onSome (o : Option α) (k : α → Bool) : Bool := match o with | some a => k a | .none => false
@[elab_as_elim] theorem inSome {Z : Option α → Prop} {o : Option α} {k : α → Bool} (h : onSome o k = true) (z : ∀ a, k a = true → Z (some a)) : Z o := match o, h with | some a, h => z a h
@[elab_as_elim] theorem inNone {Z : Option α → Prop} {o : Option α} (h : o.isNone = true) (z : Z .none) : Z o := match o, h with | .none, _ => z
end
section
variable {Z : Const → Prop} {x : Const}
noncomputable def isCN (x : Const) : Bool := Nat.beq x.ctorIdx 0
@[elab_as_elim] theorem inCN (h : isCN x = true) (z : Z .none) : Z x := Const.none.elim (motive := Z) x (Nat.eq_of_beq_eq_true h) z
noncomputable def onCB (x : Const) (k : Bool → Bool) : Bool := dite (x.ctorIdx = 1) (fun h => Const.bool.elim (motive := fun _ => Bool) x h fun b => k b) fun _ => false
@[elab_as_elim] theorem inCB {k : Bool → Bool} (h : onCB x k = true) (z : ∀ b, k b = true → Z (.bool b)) : Z x := dite (x.ctorIdx = 1) (fun c => Const.bool.elim (motive := fun x => onCB x k = true → Z x) x c (fun b h => z b h) h) fun c => ab ((dif_neg c).symm.trans h)
noncomputable def onCI (x : Const) (k : Int → Bool) : Bool := dite (x.ctorIdx = 2) (fun h => Const.int.elim (motive := fun _ => Bool) x h fun b => k b) fun _ => false
@[elab_as_elim] theorem inCI {k : Int → Bool} (h : onCI x k = true) (z : ∀ b, k b = true → Z (.int b)) : Z x := dite (x.ctorIdx = 2) (fun c => Const.int.elim (motive := fun x => onCI x k = true → Z x) x c (fun b h => z b h) h) fun c => ab ((dif_neg c).symm.trans h)
noncomputable def onCS (x : Const) (k : Str → Bool) : Bool := dite (x.ctorIdx = 5) (fun h => Const.str.elim (motive := fun _ => Bool) x h fun b => k b) fun _ => false
@[elab_as_elim] theorem inCS {k : Str → Bool} (h : onCS x k = true) (z : ∀ b, k b = true → Z (.str b)) : Z x := dite (x.ctorIdx = 5) (fun c => Const.str.elim (motive := fun x => onCS x k = true → Z x) x c (fun b h => z b h) h) fun c => ab ((dif_neg c).symm.trans h)
end
noncomputable def asCl (v : AV) (k : Nat → Bool) (z : Bool) : Bool := match v with | .cl b => k b | _ => z
noncomputable def same (n : Nat) (x : Str) : Bool := decide (nm n = x)
theorem same_eq {n : Nat} {x : Str} (h : same n x = true) : x = nm n := (of_decide_eq_true h).symm
noncomputable def kindIn (sc : Scope) (x : Str) (a b c d : Bool) : Bool := match sc.names.lookup x with
  | some .local => a
  | some .cell => b
  | some .free => c
  | some .globalImplicit => d
  | _ => false
noncomputable def locOk (sc : Scope) (x : Str) : Bool := !(x == (".0" : Str)) && (!(x == ("__debug__" : Str)) && (!(x == ("__classdict__" : Str)) && kindIn sc x true true true false))
noncomputable def glbOk (sc : Scope) (x : Str) : Bool := !(x == ("__debug__" : Str)) && kindIn sc x false false false true
noncomputable def notSuper (x : Expr) : Bool := !onCall x fun f as kws _ => onName f fun _ => as.isEmpty && kws.isEmpty
noncomputable def notSet (x : Expr) : Bool := !Nat.beq x.ctorIdx 7
noncomputable def notSlice (x : Expr) : Bool := !Nat.beq x.ctorIdx 26
noncomputable def notStar (x : Expr) : Bool := !Nat.beq x.ctorIdx 22
noncomputable def notComp (x : Expr) : Bool := !Nat.beq x.ctorIdx 8 && (!Nat.beq x.ctorIdx 9 && !Nat.beq x.ctorIdx 10)
noncomputable def notName (x : Expr) : Bool := !Nat.beq x.ctorIdx 23
noncomputable def opOf (o : Op) : CmpOp := Op.casesOn o .Eq .NotEq .Lt .LtE .Gt .GtE .Is .IsNot .In .NotIn
noncomputable def bopOf (o : Bop) : Operator := Bop.casesOn o .Add .Sub .Mult .FloorDiv .Mod .Pow
noncomputable def sliceX (lo : Nat) (hi : Option Nat) (l u : Option Expr) : Bool := Option.casesOn hi (u.isNone && onSome l fun e => onConst e fun c => onCI c fun i => decide (i = (lo : Int))) fun h => l.isNone && onSome u fun e => onConst e fun c => onCI c fun i => decide (i = (h : Int))
noncomputable def keysOk : List Int → List (Option Expr) → Bool
  | [], es => es.isEmpty
  | k :: ks, es => onCons es fun e r => onSome e (fun e => onConst e fun c => onCI c fun i => decide (i = k)) && keysOk ks r
noncomputable def fnIs (P : Prg) (n f : Nat) : Bool := onSome (look n P.glbs) fun v => asFn v (Nat.beq f) false
noncomputable def clIs (P : Prg) (n c : Nat) : Bool := onSome (look n P.glbs) fun v => asCl v (Nat.beq c) false
noncomputable def compOk (x : Nat) (sc : Scope) : Bool := decide (sc.kind = .function) && (sc.names.all (fun p => match p.2 with
    | .local => decide (p.1 = nm x) || decide (p.1 = (".0" : Str))
    | .cell => false
    | _ => true) && (decide (sc.names.lookup (nm x) = some .local) && (decide (sc.names.lookup (".0" : Str) = some .local) && !(decide (nm x = (".0" : Str))))))
noncomputable def freeOk (sc out : Scope) : Bool := sc.names.all fun p => match p.2 with
  | .free => decide (out.names.lookup p.1 = some .cell) && decide (sc.names.lookup p.1 = some .free)
  | _ => true
noncomputable def relab (sc out : Scope) : Scope := { sc with names := sc.names.map fun (n, k) => if (k == .free && out.kind == .function && out.names.lookup n == some .cell) then (n, .cell) else (n, k) }
noncomputable def isCon (e : E) : Bool := match e with | .con _ => true | _ => false
noncomputable def constEs : Es → Bool
  | .nil => true
  | .cons e es => isCon e && constEs es
noncomputable def b1Name (o : B1) : Str := B1.casesOn o "len" "int" "sorted" "any" "all" "range"
noncomputable def b2Name (o : B2) : Str := B2.casesOn o "max" "min"

noncomputable def conOk (v : AV) (c : Const) : Bool := match v with
  | .none => isCN c
  | .bool b => onCB c fun d => b == d
  | .int i => onCI c fun j => decide (i = j)
  | .str n => onCS c (same n)
  | _ => false
noncomputable abbrev CK := Scope → Expr → Bool
noncomputable abbrev CKs := Scope → List Expr → Bool
section
variable (P : Prg)
noncomputable def cCon (v : AV) : CK := fun _ x => onConst x (conOk v)
noncomputable def cNam (n : Nat) : CK := fun sc x => onName x fun y => same n y && locOk sc y
noncomputable def cGlb (n : Nat) : CK := fun sc x => onName x fun y => same n y && glbOk sc y
noncomputable def cBool (o : BoolOp) (es : CKs) : CK := fun sc x => onBool x fun op xs => decide (op = o) && (!xs.isEmpty && es sc xs)
noncomputable def cUn (o : UnaryOp) (e : CK) : CK := fun sc x => onUn x fun op y => decide (op = o) && e sc y
noncomputable def cCmp (o : Op) (a b : CK) : CK := fun sc x => onCmp x fun l os rs => on1 os fun op => on1 rs fun r => decide (op = opOf o) && (!behindInMarks op r && (a sc l && b sc r))
noncomputable def cIte (t a b : CK) : CK := fun sc x => onIte x fun u y z => t sc u && (a sc y && b sc z)
noncomputable def cBin (o : Bop) (a b : CK) : CK := fun sc x => onBin x fun l op r => decide (op = bopOf o) && (a sc l && b sc r)
noncomputable def cAtt (n : Nat) (e : CK) : CK := fun sc x => onAttr x fun v y _ => same n y && (notSuper v && e sc v)
noncomputable def cSub (e i : CK) : CK := fun sc x => onSub x fun v k => notSlice k && (e sc v && i sc k)
noncomputable def cSlc (lo : Nat) (hi : Option Nat) (e : CK) : CK := fun sc x => onSub x fun v k => e sc v && onSlice k fun l u st => st.isNone && sliceX lo hi l u
noncomputable def cTup (es : CKs) : CK := fun sc x => onTup x fun xs => Nat.blt xs.length 1000 && es sc xs
noncomputable def cLst (es : CKs) : CK := fun sc x => onList x fun xs => Nat.blt xs.length 1000 && es sc xs
noncomputable def cSnk : CK := fun _ x => onList x List.isEmpty
noncomputable def cDct (ks : List Int) (es : Es) (cs : CKs) : CK := fun sc x => onDict x fun keys vs => keysOk ks keys && (constEs es && (Nat.blt vs.length 15 && (decide ks.Nodup && (Nat.beq keys.length vs.length && cs sc vs))))
noncomputable def cFn (ok : Scope → Str → Bool) (args : Scope → List Expr → List Keyword → Bool) : CK := fun sc x => onCall x fun f as kws _ => onName f fun y => ok sc y && args sc as kws
noncomputable def cCal (f n : Nat) (es : CKs) : CK := cFn (fun sc y => same n y && (glbOk sc y && fnIs P n f)) fun sc as kws => kws.isEmpty && es sc as
noncomputable def cCls (c n : Nat) (es : CKs) : CK := cFn (fun sc y => same n y && (glbOk sc y && clIs P n c)) fun sc as kws => kws.isEmpty && es sc as
noncomputable def cClk (c n kn : Nat) (es : CKs) (ke : CK) : CK := cFn (fun sc y => same n y && (glbOk sc y && clIs P n c)) fun sc as kws => !as.isEmpty && (es sc as && on1 kws fun kw => onSome kw.arg (same kn) && ke sc kw.value)
noncomputable def cCav (n : Nat) (es : CKs) : CK := cFn (fun sc y => same n y && locOk sc y) fun sc as kws => kws.isEmpty && es sc as
noncomputable def cF1 (o : B1) (e : CK) : CK := cFn (fun sc y => decide (y = b1Name o) && glbOk sc y) fun sc as kws => kws.isEmpty && on1 as fun a => notStar a && e sc a
noncomputable def cF2 (o : B2) (e i : CK) : CK := cFn (fun sc y => decide (y = b2Name o) && glbOk sc y) fun sc as kws => kws.isEmpty && on2 as fun a b => notStar a && (notStar b && (e sc a && i sc b))
noncomputable def cMt (ok : Str → Bool) (e : CK) (args : CKs) : CK := fun sc x => onCall x fun f as kws pos => onAttr f fun o y apos => kws.isEmpty && (ok y && (notSuper o && ((apos.endLine == pos.line) && (e sc o && (Nat.blt as.length 20 && args sc as)))))
noncomputable def cMth (n : Nat) (e : CK) (es : CKs) : CK := cMt (same n) e es
noncomputable def cApp (e v : CK) : CK := cMt (fun y => decide (y = ("append" : Str))) e fun sc as => on1 as fun a => notStar a && v sc a
noncomputable def cLcp (x : Nat) (elt it : CK) : CK := fun sc y => onLcp y fun y gs cs _ => on1 gs fun g => onName g.target fun z => same x z && (g.ifs.isEmpty && (decide (g.is_async = 0) && (compOk x cs && (freeOk cs sc && (notSet g.iter && (it sc g.iter && elt (relab cs sc) y))))))
noncomputable def cBad : CK := fun _ _ => true
noncomputable def cNil : CKs := fun _ xs => xs.isEmpty
noncomputable def cCons (e : CK) (es : CKs) : CKs := fun sc xs => onCons xs fun x r => notStar x && (e sc x && es sc r)
noncomputable def chkE (e : E) : CK := E.rec (motive_1 := fun _ => CK) (motive_2 := fun _ => CKs) cCon cNam cGlb (fun _ => cBool .And) (fun _ => cBool .Or) (fun _ => cUn .Not) (fun _ => cUn .USub) (fun o _ _ => cCmp o) (fun _ _ _ => cIte) (fun o _ _ => cBin o) (fun _ n => cAtt n) (fun _ _ => cSub) (fun _ lo hi => cSlc lo hi)
  (fun _ => cTup) (fun _ _ => cLst) cSnk (fun _ ks es => cDct ks es) (fun f n _ => cCal P f n) (fun c n _ => cCls P c n) (fun c n _ kn _ => cClk P c n kn) (fun _ n _ => cMth n) (fun _ _ => cApp) (fun n _ => cCav n) (fun o _ => cF1 o) (fun o _ _ => cF2 o) (fun _ x _ => cLcp x) cBad cNil (fun _ _ => cCons) e
noncomputable def chkEs (e : Es) : CKs := Es.rec (motive_1 := fun _ => CK) (motive_2 := fun _ => CKs) cCon cNam cGlb (fun _ => cBool .And) (fun _ => cBool .Or) (fun _ => cUn .Not) (fun _ => cUn .USub) (fun o _ _ => cCmp o) (fun _ _ _ => cIte) (fun o _ _ => cBin o) (fun _ n => cAtt n) (fun _ _ => cSub) (fun _ lo hi => cSlc lo hi)
  (fun _ => cTup) (fun _ _ => cLst) cSnk (fun _ ks es => cDct ks es) (fun f n _ => cCal P f n) (fun c n _ => cCls P c n) (fun c n _ kn _ => cClk P c n kn) (fun _ n _ => cMth n) (fun _ _ => cApp) (fun n _ => cCav n) (fun o _ => cF1 o) (fun o _ _ => cF2 o) (fun _ x _ => cLcp x) cBad cNil (fun _ _ => cCons) e

noncomputable def dNam (k : Nat) : CK := fun sc x => onName x fun y => same k y && (locOk sc y && !(decide (sc.names.lookup y = some .free)))
noncomputable def dAtt (e : E) (k : Nat) : CK := fun sc x => onAttr x fun o y _ => same k y && chkE P e sc o
noncomputable def dSub (e i : E) : CK := fun sc x => onSub x fun o k => notSlice k && (chkE P e sc o && chkE P i sc k)
noncomputable def dTwo (s t : CK) : CK := fun sc x => onTup x fun xs => on2 xs fun a b => (notStar a && notStar b) && (s sc a && t sc b)
noncomputable def chkT (t : T) : CK := T.rec (motive := fun _ => CK) dNam (dAtt P) (dSub P) (fun _ _ => dTwo) t

section
variable {Z : Stmt → Prop} {x : Stmt}
noncomputable def onExpr (x : Stmt) (k : Expr → Bool) : Bool := dite (x.ctorIdx = 24) (fun h => Stmt.Expr.elim (motive_2 := fun _ => Bool) x h fun e _ => k e) fun _ => false
@[elab_as_elim] theorem inExpr {k : Expr → Bool} (h : onExpr x k = true) (z : ∀ e p, k e = true → Z (.Expr e p)) : Z x := dite (x.ctorIdx = 24) (fun c => Stmt.Expr.elim (motive_2 := fun x => onExpr x k = true → Z x) x c (fun e p h => z e p h) h) fun c => ab ((dif_neg c).symm.trans h)
noncomputable def onRet (x : Stmt) (k : Option Expr → Bool) : Bool := dite (x.ctorIdx = 3) (fun h => Stmt.Return.elim (motive_2 := fun _ => Bool) x h fun e _ => k e) fun _ => false
@[elab_as_elim] theorem inRet {k : Option Expr → Bool} (h : onRet x k = true) (z : ∀ e p, k e = true → Z (.Return e p)) : Z x := dite (x.ctorIdx = 3) (fun c => Stmt.Return.elim (motive_2 := fun x => onRet x k = true → Z x) x c (fun e p h => z e p h) h) fun c => ab ((dif_neg c).symm.trans h)
noncomputable def onAsg (x : Stmt) (k : List Expr → Expr → Pos → Bool) : Bool := dite (x.ctorIdx = 5) (fun h => Stmt.Assign.elim (motive_2 := fun _ => Bool) x h fun ts v p => k ts v p) fun _ => false
@[elab_as_elim] theorem inAsg {k : List Expr → Expr → Pos → Bool} (h : onAsg x k = true) (z : ∀ ts v p, k ts v p = true → Z (.Assign ts v p)) : Z x := dite (x.ctorIdx = 5) (fun c => Stmt.Assign.elim (motive_2 := fun x => onAsg x k = true → Z x) x c (fun ts v p h => z ts v p h) h) fun c => ab ((dif_neg c).symm.trans h)
noncomputable def onIf (x : Stmt) (k : Expr → List Stmt → List Stmt → Bool) : Bool := dite (x.ctorIdx = 12) (fun h => Stmt.If.elim (motive_2 := fun _ => Bool) x h fun t a b _ => k t a b) fun _ => false
@[elab_as_elim] theorem inIf {k : Expr → List Stmt → List Stmt → Bool} (h : onIf x k = true) (z : ∀ t a b p, k t a b = true → Z (.If t a b p)) : Z x := dite (x.ctorIdx = 12) (fun c => Stmt.If.elim (motive_2 := fun x => onIf x k = true → Z x) x c (fun t a b p h => z t a b p h) h) fun c => ab ((dif_neg c).symm.trans h)
noncomputable def onFor (x : Stmt) (k : Expr → Expr → List Stmt → List Stmt → Bool) : Bool := dite (x.ctorIdx = 9) (fun h => Stmt.For.elim (motive_2 := fun _ => Bool) x h fun t i b e _ => k t i b e) fun _ => false
@[elab_as_elim] theorem inFor {k : Expr → Expr → List Stmt → List Stmt → Bool} (h : onFor x k = true) (z : ∀ t i b e p, k t i b e = true → Z (.For t i b e p)) : Z x := dite (x.ctorIdx = 9) (fun c => Stmt.For.elim (motive_2 := fun x => onFor x k = true → Z x) x c (fun t i b e p h => z t i b e p h) h) fun c => ab ((dif_neg c).symm.trans h)
noncomputable def onCont (x : Stmt) (k : Pos → Bool) : Bool := dite (x.ctorIdx = 27) (fun h => Stmt.Continue.elim (motive_2 := fun _ => Bool) x h fun p => k p) fun _ => false
@[elab_as_elim] theorem inCont {k : Pos → Bool} (h : onCont x k = true) (z : ∀ p, k p = true → Z (.Continue p)) : Z x := dite (x.ctorIdx = 27) (fun c => Stmt.Continue.elim (motive_2 := fun x => onCont x k = true → Z x) x c (fun p h => z p h) h) fun c => ab ((dif_neg c).symm.trans h)
end
noncomputable abbrev SK := Scope → Stmt → Bool
noncomputable abbrev SKs := Scope → List Stmt → Bool
noncomputable def plainSt (t v : Expr) : Bool := !Nat.beq t.ctorIdx 24 && (!Nat.beq t.ctorIdx 25 || (!Nat.beq v.ctorIdx 25 || onTup t fun l => on2 l fun a b => notName a || notName b))
noncomputable def useOk (sc cs : Scope) (x : Str) (p q pos : Pos) : Bool := decide (sc.names.lookup x = some .local) && ((q.line == pos.line) && ((p.line == q.line) && !(cs.names.any fun (m, k) => m == x && (k == .local || k == .cell))))
noncomputable def usedOk (sc : Scope) (pos : Pos) (t : T) (e : E) (tg v : Expr) : Bool := (match t, e with | .nam _, .lcp .. => true | _, _ => false) && onNameP tg fun x p => onLcp v fun _ _ cs q => useOk sc cs x p q pos
noncomputable def xExpC (e : E) : SK := fun sc x => onExpr x fun y => notComp y && chkE P e sc y
noncomputable def xRetC (e : E) : SK := fun sc x => onRet x fun o => onSome o (chkE P e sc)
noncomputable def xRetnC : SK := fun _ x => onRet x Option.isNone
noncomputable def xAsgC (t : T) (e : E) : SK := fun sc x => onAsg x fun ts v pos => on1 ts fun tg => chkT P t sc tg && (chkE P e sc v && (((notComp v || notName tg) && plainSt tg v) || usedOk sc pos t e tg v))
noncomputable def swapOk (x y : Nat) (sc : Scope) (a b : Str) (pa pb : Pos) (u v : Expr) : Bool := same x a && (same y b && (decide (sc.names.lookup a = some .local) && (decide (sc.names.lookup b = some .local) && ((pb.line == pa.line) && (!(b == a) && (!(foldedForSure 8 u && foldedForSure 8 v) && !(constantsAlone 8 u && constantsAlone 8 v)))))))
noncomputable def xSwpC (x y : Nat) (a b : E) : SK := fun sc s => onAsg s fun ts v _ => on1 ts fun tg => onTup tg fun l => on2 l fun t1 t2 => onNameP t1 fun na pa => onNameP t2 fun nb pb => onTup v fun vs => on2 vs fun u w => swapOk x y sc na nb pa pb u w && ((notStar u && notStar w) && (chkE P a sc u && chkE P b sc w))
noncomputable def xIffC (t : E) (a b : SKs) : SK := fun sc s => onIf s fun x u v => chkE P t sc x && (a sc u && b sc v)
noncomputable def xForC (t : T) (it : E) (b : SKs) : SK := fun sc s => onFor s fun x i u e => e.isEmpty && (notSet i && (chkT P t sc x && (chkE P it sc i && b sc u)))
noncomputable def xContC : SK := fun _ x => onCont x fun _ => true
noncomputable def xBadC : SK := fun _ _ => true
noncomputable def xNilC : SKs := fun _ xs => xs.isEmpty
noncomputable def xConsC (s : SK) (ss : SKs) : SKs := fun sc xs => onCons xs fun x r => s sc x && ss sc r
noncomputable def chkS (s : S) : SK := S.rec (motive_1 := fun _ => SK) (motive_2 := fun _ => SKs) (xExpC P) (xRetC P) xRetnC (xAsgC P) (xSwpC P) (fun t _ _ => xIffC P t) (fun t it _ => xForC P t it) xContC xBadC xNilC (fun _ _ => xConsC) s
noncomputable def chkSs (s : Ss) : SKs := Ss.rec (motive_1 := fun _ => SK) (motive_2 := fun _ => SKs) (xExpC P) (xRetC P) xRetnC (xAsgC P) (xSwpC P) (fun t _ _ => xIffC P t) (fun t it _ => xForC P t it) xContC xBadC xNilC (fun _ _ => xConsC) s
end

noncomputable def onFunc (x : Data) (k : FuncData → Bool) : Bool := dite (x.ctorIdx = 7) (fun h => Data.func.elim (motive := fun _ => Bool) x h fun f => k f) fun _ => false
@[elab_as_elim] theorem inFunc {Z : Data → Prop} {x : Data} {k : FuncData → Bool} (h : onFunc x k = true) (z : ∀ f, k f = true → Z (.func f)) : Z x := dite (x.ctorIdx = 7) (fun c => Data.func.elim (motive := fun x => onFunc x k = true → Z x) x c (fun f h => z f h) h) fun c => ab ((dif_neg c).symm.trans h)
noncomputable def seqIn (K : Frag) (v : Value) : Bool := match v with
  | .none => true
  | .ref a => onSome (K.lookup a) fun o => match o.data with | .seq _ _ => true | _ => false
  | _ => false
noncomputable def parOk (fd : FuncData) (fn : Fn) : Bool := fd.params.posonlyargs.isEmpty && (decide (fd.params.args.map (·.arg) = fn.params.map nm) && (fd.params.vararg.isNone && (fd.params.kwonlyargs.isEmpty && (fd.params.kwarg.isNone && decide fn.params.Nodup))))
noncomputable def fdOk (P : Prg) (K : Frag) (fn : Fn) (fd : FuncData) : Bool := (match fd.body with
      | .stmts b => chkSs P fn.body fd.scope b
      | _ => false) && (codeIn K fd.code fd.qualname && (decide (fd.globals = mainGlobals) && (decide (fd.builtins = builtinsNs) && (fd.closure.isEmpty && (decide (fd.scope.kind = .function) && (!fd.scope.isCoroutine && (!fd.scope.isGenerator &&
      (parOk fd fn && (fn.params.all (fun n => kindIn fd.scope (nm n) true true false false) && seqIn K fd.defaults)))))))))
noncomputable def chkFn (P : Prg) (K : Frag) (a : Addr) (fn : Fn) : Bool := onSome (K.lookup a) fun o => onFunc o.data (fdOk P K fn)
end Mine
namespace Mine
open PySem PySem.W PyProof.Rows PySem.Calls PySem.SeqAt

noncomputable abbrev NoE : Value → Shared → Prop := fun _ _ => False

structure ClsOK (B : Base) (c : Nat) : Prop where
  pg : ∀ n, plainGet B.K (B.cls c) n = true
  hd : hasDictIn B.K (B.cls c) = true
  sa : findIn B.K (.ref (B.cls c)) "__setattr__" = some (some (.builtin "object.__setattr__"))
  po : plainOver B.K (B.cls c) = true
  mks : makesIn B.K (B.cls c) = true
  ini : findIn B.K (.ref (B.cls c)) "__init__" = some (some (.ref (B.fn (B.P.inix c))))
  iniF : typeIn B.K (.ref (B.fn (B.P.inix c))) = some (.type "function")
  kp : keepIn B.K (.ref (B.cls c)) = true
  fld : ∀ n, memN n (B.P.fields c) = true → (∃ attr, findIn B.K (.ref (B.cls c)) (nm n) = some attr ∧ noGet B.K attr = true) ∧ takerIn B.K (B.cls c) (nm n) = some none
  mth : ∀ n f, B.P.meth c n = some f → findIn B.K (.ref (B.cls c)) (nm n) = some (some (.ref (B.fn f))) ∧ isFn B.K (.ref (B.fn f)) = true ∧ memN n (B.P.fields c) = false
noncomputable def biNames : List Str := ["len", "max", "min", "int", "sorted", "any", "all", "range"]
noncomputable def Binds (B : Base) (f : Nat) (a : Args) (full : List Value) : Prop :=
  ∀ (fn : Fn) (o : Obj) (fd : FuncData) (A : Around) (E : Value → Shared → Prop) (Q : List (Str × Value) → Shared → Prop) (s : Shared), fnAt B.P.fns f = some fn → B.K.lookup (B.fn f) = some o → o.data = .func fd → B.K.In s.heap →
    Q ((fn.params.map nm).zip full) s → wpAny (model B.prog B.w) A (bindArgs fd a) Q E s
structure BOK (B : Base) (mg mb : Str → Option Value) : Prop where
  X : B.K.In B.h₀
  g : B.h₀.Ns mainGlobals mg
  b : B.h₀.Ns builtinsNs mb
  nolimit : B.h₀.NoLimit
  bi : ∀ x : Str, x ≠ "__name__" → mb x = bootBuiltins x
  big : sysModules < B.h₀.objs.size
  glb : ∀ n v, look n B.P.glbs = some v → ∃ w, nsIn B.K mainGlobals (nm n) = some (some w) ∧ VR B G0 [] v w
  bns : ∀ x, x ∈ biNames → nsIn B.K mainGlobals x = some none
  fn : ∀ f fn, fnAt B.P.fns f = some fn → chkFn B.P B.K (B.fn f) fn = true
  kp : ∀ f, keepIn B.K (.ref (B.fn f)) = true
  cls : ∀ c, IsCls B c → ClsOK B c
  dfP : ∀ c k d, findP c k B.P.dflP = some d → ∀ vals : List Value, vals.length = k → ∃ dv, VRs B G0 [] d dv ∧ ∀ x, Binds B (B.P.inix c) ⟨.ref x :: vals, []⟩ (.ref x :: (vals ++ dv))
  dfK : ∀ c k n j d, findK c k n B.P.dflK = some (j, d) → ∀ (vals : List Value) (w : Value), vals.length = k → ∃ dv, VRs B G0 [] d dv ∧ ∀ x, Binds B (B.P.inix c) ⟨.ref x :: vals, [(nm n, w)]⟩ (.ref x :: (vals ++ dv.set j w))

structure EnvOK (env : Env) : Prop where
  kind : env.scope.kind = .function
  glob : env.globals = mainGlobals
  blt : env.builtins = builtinsNs
  inj : ∀ n n' c, env.cells.lookup n = some c → env.cells.lookup n' = some c → n = n'
  cel : ∀ x, env.kindOf x = some .cell → ∃ c, env.cells.lookup x = some c
  frm : ∃ a, env.frame = some a ∧ a ≤ env.locals
structure Room (A : Around) (n : Nat) : Prop where
  hh : A.handled = none
  depth : A.depth + 4 * n ≤ 900
  units : A.units + 12 * n + 300 ≤ 9900
theorem Room.u {A : Around} {n : Nat} (r : Room A n) : A.units + 200 < cLine := by have := r.units; show _ < 9900; omega
structure St (B : Base) (env : Env) (ρ : Loc) (s : Shared) where
  σ : Sto
  G : Gh
  θ : List Addr
  R : Rel B env ρ σ G θ s
section
variable {B : Base} {mg mb : Str → Option Value} {env : Env} {ρ ρ' : Loc} {s s' : Shared} {A : Around} {E : Value → Shared → Prop}
structure St.Le (S : St B env ρ s) (S' : St B env ρ' s') : Prop where
  x : Ext S.G S'.G
  p : Pre S.θ S'.θ
theorem St.le (S : St B env ρ s) : S.Le S := ⟨.refl _, .refl _⟩
theorem St.Le.trans {ρ'' : Loc} {s'' : Shared} {S : St B env ρ s} {S' : St B env ρ' s'} {S'' : St B env ρ'' s''} (a : S.Le S') (b : S'.Le S'') : S.Le S'' := ⟨a.x.trans b.x, a.p.trans b.p⟩
noncomputable abbrev St.V (S : St B env ρ s) (v : AV) (w : Value) : Prop := VR B S.G S.θ v w
noncomputable abbrev St.Vs (S : St B env ρ s) (l : List AV) (vs : List Value) : Prop := VRs B S.G S.θ l vs
theorem St.Le.v {S : St B env ρ s} {S' : St B env ρ' s'} {v : AV} {w : Value} (h : S.Le S') (hv : S.V v w) : S'.V v w := hv.ext h.x h.p
theorem St.Le.vs {S : St B env ρ s} {S' : St B env ρ' s'} {l : List AV} {vs : List Value} (h : S.Le S') (hv : S.Vs l vs) : S'.Vs l vs := hv.ext h.x h.p
inductive Got (S : St B env ρ s) (Q : AV → Sto → Prop) (w : Value) (s' : Shared) : Prop
  | mk (S' : St B env ρ s') (v : AV) (le : S.Le S') (hv : S'.V v w) (q : Q v S'.σ)
inductive GotL (S : St B env ρ s) (k : Nat) (Q : List AV → Sto → Prop) (ws : List Value) (s' : Shared) : Prop
  | mk (S' : St B env ρ s') (l : List AV) (le : S.Le S') (hv : S'.Vs l ws) (hk : ws.length = k) (q : Q l S'.σ)
inductive Tru (S : St B env ρ s) (K : Bool → Sto → Prop) (c : Bool) (s' : Shared) : Prop
  | mk (S' : St B env ρ s') (le : S.Le S') (q : K c S'.σ)
inductive Did (S : St B env ρ s) (K : Loc → Sto → Prop) (u : Unit) (s' : Shared) : Prop
  | mk {ρ' : Loc} (S' : St B env ρ' s') (le : S.Le S') (q : K ρ' S'.σ)
noncomputable abbrev Wp (B : Base) (A : Around) {α : Type} (t : Sem α) (K : α → Shared → Prop) (s : Shared) : Prop := wpAny (model B.prog B.w) A t K NoE s
theorem then_ {S : St B env ρ s} {t : Sem Value} {Q : AV → Sto → Prop} {K : Value → Shared → Prop} (h : Wp B A t (Got S Q) s) (k : ∀ {w s'} (S' : St B env ρ s') {v}, S.Le S' → S'.V v w → Q v S'.σ → K w s') : Wp B A t K s :=
  wpAny_mono h (fun _ _ ⟨S', _, le, hv, q⟩ => k S' le hv q) fun _ _ q => q
theorem thenL {S : St B env ρ s} {t : Sem (List Value)} {n : Nat} {Q : List AV → Sto → Prop} {K : List Value → Shared → Prop} (h : Wp B A t (GotL S n Q) s) (k : ∀ {w s'} (S' : St B env ρ s') {v}, S.Le S' → S'.Vs v w → w.length = n → Q v S'.σ → K w s') : Wp B A t K s :=
  wpAny_mono h (fun _ _ ⟨S', _, le, hv, hn, q⟩ => k S' le hv hn q) fun _ _ q => q
theorem thenT {S : St B env ρ s} {t : Sem Bool} {Q : Bool → Sto → Prop} {K : Bool → Shared → Prop} (h : Wp B A t (Tru S Q) s) (k : ∀ {c s'} (S' : St B env ρ s'), S.Le S' → Q c S'.σ → K c s') : Wp B A t K s :=
  wpAny_mono h (fun _ _ ⟨S', le, q⟩ => k S' le q) fun _ _ q => q
theorem thenU {S : St B env ρ s} {t : Sem Unit} {Q : Loc → Sto → Prop} {K : Unit → Shared → Prop} (h : Wp B A t (Did S Q) s) (k : ∀ {s' ρ'} (S' : St B env ρ' s'), S.Le S' → Q ρ' S'.σ → K () s') : Wp B A t K s :=
  wpAny_mono h (fun _ _ ⟨S', le, q⟩ => k S' le q) fun _ _ q => q
noncomputable abbrev St.tok (S : St B env ρ s) (t : Nat) : St B env ρ { s with toks := t } := ⟨S.σ, S.G, S.θ, S.R.tok t⟩
noncomputable abbrev St.onHeap (S : St B env ρ s) {h' : Heap} {tk : Nat} (k : ∀ b o, s.heap.get? b = some o → h'.get? b = some o) : St B env ρ { s with heap := h', toks := tk } := ⟨S.σ, S.G, S.θ, S.R.onHeap k⟩
theorem St.inK (O : BOK B mg mb) (S : St B env ρ s) : B.K.In s.heap := let ⟨_, C, _⟩ := S.R; O.X.keeps C.fr.keep
section
variable {Z : Prop}
theorem in_opt {α : Type} {o : Option α} {k : α → Prop} (h : opt o k False) (z : ∀ a, o = some a → k a → Z) : Z := match o, h with | some a, h => z a rfl h
theorem in_br {c : Bool} {t : Prop} (h : br c t False) (z : c = true → t → Z) : Z := match c, h with | true, h => z rfl h
theorem in_brn {c : Bool} {t : Prop} (h : br c False t) (z : c = false → t → Z) : Z := match c, h with | false, h => z rfl h
end
section
variable {Z : AV → Prop} {v : AV}
@[elab_as_elim] theorem in_B {k : Bool → Prop} (h : asB v k False) (z : ∀ b, k b → Z (.bool b)) : Z v := by cases v with | bool b => exact z b h | _ => exact h.elim
@[elab_as_elim] theorem in_I {k : Int → Prop} (h : asI v k False) (z : ∀ b, k b → Z (.int b)) : Z v := by cases v with | int b => exact z b h | _ => exact h.elim
@[elab_as_elim] theorem in_T {k : List AV → Prop} (h : asT v k False) (z : ∀ b, k b → Z (.tup b)) : Z v := by cases v with | tup b => exact z b h | _ => exact h.elim
@[elab_as_elim] theorem in_F {k : List AV → Prop} (h : asF v k False) (z : ∀ b, k b → Z (.fl b)) : Z v := by cases v with | fl b => exact z b h | _ => exact h.elim
@[elab_as_elim] theorem in_L {k : Nat → Prop} (h : asL v k False) (z : ∀ b, k b → Z (.loc b)) : Z v := by cases v with | loc b => exact z b h | _ => exact h.elim
@[elab_as_elim] theorem in_Fn {k : Nat → Prop} (h : asFn v k False) (z : ∀ b, k b → Z (.fn b)) : Z v := by cases v with | fn b => exact z b h | _ => exact h.elim
@[elab_as_elim] theorem in_N {k : Prop} (h : asN v k False) (z : k → Z .none) : Z v := by cases v with | none => exact z h | _ => exact h.elim
end
end

section
variable {B : Base} {mg mb : Str → Option Value} {env : Env} {ρ : Loc} {s : Shared} {A : Around} {E : Value → Shared → Prop} {G : Gh} {θ : List Addr}
theorem look_two {n : Nat} : ∀ {fs : List (Nat × AV)}, look n fs = look2 n (fs.map (·.1)) (fs.map (·.2))
  | [] => rfl
  | p :: fs => congrArg (fun z => match Nat.beq n p.1 with | true => some p.2 | false => z) (look_two (fs := fs))
theorem look2_mem {n : Nat} {r : AV} : ∀ {ns : List Nat} {l : List AV}, look2 n ns l = some r → memN n ns = true
  | [], _, h => nomatch h
  | _ :: _, [], h => nomatch h
  | m :: ns, v :: l, h => by
    unfold look2 at h
    unfold memN
    cases q : Nat.beq n m with
    | true => rfl
    | false => rw [q] at h; exact look2_mem h
theorem getL_hit {n : Nat} {t : Tok} {e : DictEntry} {es : List DictEntry} (h : e.key = .str (nm n) t) : getL (nm n) (e :: es) = some (some e.val) := by
  unfold getL
  rw [List.find?_cons, show e.key.isStr (nm n) = true from h.symm ▸ (beq_self_eq_true _)]
theorem isStr_ne {n m : Nat} {t : Tok} {e : DictEntry} (h : e.key = .str (nm m) t) (q : Nat.beq n m = false) : e.key.isStr (nm n) = false := h.symm ▸ beq_eq_false_iff_ne.mpr fun z => nomatch (nm_inj z ▸ Nat.beq_refl m : Nat.beq n m = true).symm.trans q
theorem getL_skip {n m : Nat} {t : Tok} {e : DictEntry} {es : List DictEntry} (h : e.key = .str (nm m) t) (q : Nat.beq n m = false) : getL (nm n) (e :: es) = getL (nm n) es := by
  have h1 := isStr_ne h q
  have h2 : e.refKey = false := by unfold DictEntry.refKey; rw [h]
  unfold getL
  rw [List.find?_cons, h1, List.any_cons, h2, Bool.false_or]
theorem getL_of {n : Nat} {r : AV} : ∀ {ns : List Nat} {l : List AV} {es : List DictEntry}, FRs B G θ ns l es → look2 n ns l = some r → ∃ w, getL (nm n) es = some (some w) ∧ VR B G θ r w
  | [], _, _, _, h => nomatch h
  | _ :: _, [], _, _, h => nomatch h
  | m :: ns, v :: l, _, ⟨⟨t, e, es, rfl, h1, h2⟩, hv⟩, h => hv.consE (Z := fun vs => vs = e.val :: es.map (·.val) → _) (fun w ws a b eq => by
    cases eq
    unfold look2 at h
    cases q : Nat.beq n m with
    | true =>
      rw [q] at h; cases h
      obtain rfl := Nat.eq_of_beq_eq_true q
      exact ⟨_, getL_hit h1, a⟩
    | false =>
      rw [q] at h
      obtain ⟨w, g1, g2⟩ := getL_of ⟨h2, b⟩ h
      exact ⟨w, (getL_skip h1 q).trans g1, g2⟩) rfl
theorem getL_none {k : Nat} : ∀ {ns : List Nat} {es : List DictEntry}, KeysAre ns es → memN k ns = false → getL (nm k) es = some none
  | [], _, h, _ => (h : _ = []).symm ▸ rfl
  | m :: ns, _, ⟨t, e, es, rfl, h1, h2⟩, h => by
    unfold memN at h
    cases q : Nat.beq k m with
    | true => rw [q] at h; cases h
    | false => rw [q] at h; exact (getL_skip h1 q).trans (getL_none h2 h)
theorem instAt {a C dx : Addr} {h : Heap} {es : List DictEntry} {k : Nat} (h1 : h.get? a = some (instObj C dx)) (h2 : h.get? dx = some (dictOf es k)) : InstAt h a (instObj C dx) C (some (dictOf es k)) := ⟨h1, rfl, rfl, h2⟩
theorem VR.kind (v : AV) (w : Value) (h : VR B G θ v w) : handedIn w = true ∧ isSame w .none = pure (isNone v) :=
  have ref : ∀ {w : Value}, (∃ a, w = .ref a) → handedIn w = true ∧ isSame w .none = pure false := fun h => h.elim fun a e => e.symm ▸ ⟨rfl, rfl⟩
  AV.casesOn (motive_1 := fun v => VR B G θ v w → handedIn w = true ∧ isSame w .none = pure (isNone v)) v (fun h => h.noneE ⟨rfl, rfl⟩) (fun _ h => h.boolE ⟨rfl, rfl⟩) (fun _ h => h.intE fun _ => ⟨rfl, rfl⟩) (fun _ h => h.strE fun _ => ⟨rfl, rfl⟩) (fun h => h.elim fun _ e => e.symm ▸ ⟨rfl, rfl⟩)
    (fun _ h => ref (SeqR.ref h)) (fun _ h => ref (SeqR.ref h)) (fun _ _ h => ref (DctR.ref h)) (fun _ _ h => ref (DctR.ref h)) (fun _ _ h => ref (RcdR.ref h)) (fun _ h => ref (RgR.ref h)) (fun _ h => h.locE fun a _ => ref ⟨a, rfl⟩) (fun _ h => h.fnE (ref ⟨_, rfl⟩)) (fun _ h => h.clE (ref ⟨_, rfl⟩)) h
theorem VR.handed {v : AV} {w : Value} (h : VR B G θ v w) : handedIn w = true := (VR.kind v w h).1
inductive ObjIs (B : Base) (G : Gh) (θ : List Addr) (s : Shared) (c : Nat) (ns : List Nat) (l : List AV) : Value → Prop
  | mk {a dx : Addr} {es : List DictEntry} {n : Nat} (hc : IsCls B c) (hm : ∀ k, memN k ns = true → memN k (B.P.fields c) = true) (I : InstAt s.heap a (instObj (B.cls c) dx) (B.cls c) (some (dictOf es n))) (f : FRs B G θ ns l es) : ObjIs B G θ s c ns l (.ref a)
theorem St.inst (S : St B env ρ s) {i c : Nat} {fs : List (Nat × AV)} {w : Value} (h : cell S.σ i = some (.inst c fs)) (hv : S.V (.loc i) w) : ObjIs B S.G S.θ s c (fs.map (·.1)) (fs.map (·.2)) w :=
  hv.locE fun a hθ => have z : CR B S.G S.θ i a (.inst c fs) := S.R.at hθ h; z.2.2.elim fun dx h => h.elim fun es h => h.elim fun n h => ⟨z.1, z.2.1, instAt (S.R.get h.1.1) (S.R.get h.2.1.1), h.2.2⟩
theorem St.rcd (S : St B env ρ s) {c : Nat} {l : List AV} {w : Value} (hv : S.V (.rcd c l) w) : ObjIs B S.G S.θ s c (B.P.fields c) l w :=
  have hv : RcdR B (Has B S.G) c (VRs B S.G S.θ l) w := hv
  hv.2.elim fun a h => h.elim fun dx h => h.elim fun es h => h.elim fun n h => h.1.symm ▸ ⟨hv.1, fun _ h => h, instAt (S.R.has h.2.1) (S.R.has h.2.2.1), h.2.2.2⟩
theorem in_onC {Z : Prop} {o : Option Cell} {inst : Nat → List (Nat × AV) → Prop} {lst : List AV → Prop} {dct : List (Int × AV) → Prop} {sink : Nat → Prop} (h : onC o inst lst dct sink False) (z1 : ∀ c fs, o = some (.inst c fs) → inst c fs → Z) (z2 : ∀ l, o = some (.lst l) → lst l → Z) (z3 : ∀ l, o = some (.dct l) → dct l → Z) (z4 : ∀ n, o = some (.sink n) → sink n → Z) : Z :=
  match o, h with
  | some (.inst c fs), h => z1 c fs rfl h
  | some (.lst l), h => z2 l rfl h
  | some (.dct l), h => z3 l rfl h
  | some (.sink n), h => z4 n rfl h
  | some .hole, h => h.elim
  | .none, h => h.elim
theorem fieldsOf {v r : AV} {w : Value} {n : Nat} {P : Prg} (S : St B env ρ s) (hv : S.V v w) (h : attv B.P v n S.σ = some r) : ∃ c ns l, ObjIs B S.G S.θ s c ns l w ∧ look2 n ns l = some r := by
  unfold attv at h
  cases v with
  | loc i =>
    dsimp only at h
    cases e : cell S.σ i with
    | none => rw [e] at h; cases h
    | some d =>
      rw [e] at h
      cases d with
      | inst c fs => exact ⟨c, _, _, S.inst e hv, look_two.symm.trans h⟩
      | _ => cases h
  | rcd c l => exact ⟨c, _, _, S.rcd hv, h⟩
  | _ => cases h
theorem att_rule (O : BOK B mg mb) {s0 : Shared} {S0 : St B env ρ s0} (S : St B env ρ s) (le : S0.Le S) {v : AV} {w : Value} {n : Nat} {ex : Bool} {Q : AV → Sto → Prop} (hv : S.V v w) (h : opt (attv B.P v n S.σ) (fun r => Q r S.σ) False) : wpAny (model B.prog B.w) A (getAttr w (nm n) ex) (Got S0 Q) E s :=
  in_opt h fun r e q => by
    obtain ⟨c, ns, l, ⟨hc, hm, I, f⟩, e2⟩ := fieldsOf (P := B.P) S hv e
    have K := O.cls c hc
    obtain ⟨⟨attr, f1, f2⟩, _⟩ := K.fld n (hm _ (look2_mem e2))
    obtain ⟨w', g1, g2⟩ := getL_of f e2
    obtain ⟨m, C, _⟩ := S.R
    exact get_own C.fr O.X I (K.pg _) K.hd f1 f2 g1 g2.handed ⟨S.tok _, r, ⟨le.x, le.p⟩, g2, q⟩
theorem meth_rule (O : BOK B mg mb) (S : St B env ρ s) {v : AV} {x : Value} {c k f : Nat} (hv : S.V v x) (hc : clsOf v S.σ = some c) (hm : B.P.meth c k = some f) {pl : Sem Bool} {Q : Value × List Value → Shared → Prop} (hq : Q (.ref (B.fn f), [x]) s) : wpAny (model B.prog B.w) A (getMethod x (nm k) pl) Q E s := by
  have key : ∃ ns l, ObjIs B S.G S.θ s c ns l x := by
    unfold clsOf at hc
    cases v with
    | loc i =>
      dsimp only at hc
      cases e : cell S.σ i with
      | none => rw [e] at hc; cases hc
      | some d =>
        rw [e] at hc
        cases d with
        | inst c' fs => exact Option.some.inj hc ▸ ⟨_, _, S.inst e hv⟩
        | _ => cases hc
    | rcd c' l => exact Option.some.inj hc ▸ ⟨_, _, S.rcd hv⟩
    | _ => cases hc
  obtain ⟨ns, l, ⟨hcl, hmm, I, fr⟩⟩ := key
  have K := O.cls c hcl
  obtain ⟨m1, m2, m3⟩ := K.mth k f hm
  obtain ⟨m, C, _⟩ := S.R
  exact method_inst C.fr O.X I (K.pg _) m1 m2 (getL_none fr.1 (Bool.eq_false_iff.mpr fun h => nomatch (hmm _ h).symm.trans m3)) hq
end
end Mine
namespace Mine
open PySem PySem.W PyProof.Rows PySem.Calls PySem.SeqAt

noncomputable def toPy (v : AV) : PyData := AV.rec (motive_1 := fun _ => PyData) (motive_2 := fun _ => List PyData) .none (fun _ => .none) .int (fun n => .str (nm n)) .none (fun _ => .tuple) (fun _ => .list) (fun _ _ _ => .none) (fun _ _ _ => .none) (fun _ _ _ => .none) (fun _ => .none) (fun _ => .none) (fun _ => .none) (fun _ => .none) [] (fun _ _ => List.cons) v
noncomputable def toPys (l : List AV) : List PyData := l.map toPy
theorem toPys_eq : ∀ l : List AV, AV.rec_1 (motive_1 := fun _ => PyData) (motive_2 := fun _ => List PyData) .none (fun _ => .none) .int (fun n => .str (nm n)) .none (fun _ => .tuple) (fun _ => .list) (fun _ _ _ => .none) (fun _ _ _ => .none) (fun _ _ _ => .none) (fun _ => .none) (fun _ => .none) (fun _ => .none) (fun _ => .none) [] (fun _ _ => List.cons) l = toPys l
  | [] => rfl
  | v :: l => congrArg (List.cons (toPy v)) (toPys_eq l)
theorem toPy_tup (l : List AV) : toPy (.tup l) = .tuple (toPys l) := congrArg PyData.tuple (toPys_eq l)
theorem toPy_fl (l : List AV) : toPy (.fl l) = .list (toPys l) := congrArg PyData.list (toPys_eq l)
section
variable {B : Base} {mg mb : Str → Option Value} {env : Env} {ρ : Loc} {σ : Sto} {G : Gh} {θ : List Addr} {s : Shared} {A : Around} {E : Value → Shared → Prop}
noncomputable def RdOK (h₀ : Heap) (d : Nat) (p : PyData) (w : Value) : Prop := (∃ as, Reads h₀ w p as) ∧ p.canLay0 = true ∧ p.depth ≤ d
noncomputable def RdsOK (h₀ : Heap) (d : Nat) (p : List PyData) (ws : List Value) : Prop := (∃ as, ReadsAll h₀ ws p as) ∧ PyData.canLayAll0 p = true ∧ PyData.depthAll p ≤ d
theorem RdOK.tuple {h : Heap} {d : Nat} {p : List PyData} {a : Addr} {o : Obj} {vs : List Value} {k : Nat} (h1 : h.get? a = some o) (h2 : o.cls = .type "tuple") (h3 : o.data = .seq (List.toArray vs) k) (r : RdsOK h d p vs) : RdOK h (d + 1) (.tuple p) (.ref a) :=
  let ⟨⟨as, r1⟩, r2, r3⟩ := r; ⟨⟨as, .tuple h1 h2 h3 r1⟩, r2, Nat.succ_le_succ r3⟩
theorem RdOK.list {h : Heap} {d : Nat} {p : List PyData} {a : Addr} {o : Obj} {vs : List Value} {k : Nat} (h1 : h.get? a = some o) (h2 : o.cls = .type "list") (h3 : o.data = .seq (List.toArray vs) k) (r : RdsOK h d p vs) : RdOK h (d + 1) (.list p) (.ref a) :=
  let ⟨⟨as, r1⟩, r2, r3⟩ := r; ⟨⟨a :: as, .list h1 h2 h3 r1⟩, r2, Nat.succ_le_succ r3⟩
theorem RdsOK.cons {h : Heap} {d : Nat} {p : PyData} {ps : List PyData} {w : Value} {ws : List Value} (r : RdOK h d p w) (t : RdsOK h d ps ws) : RdsOK h d (p :: ps) (w :: ws) :=
  let ⟨⟨as, r1⟩, r2, r3⟩ := r; let ⟨⟨bs, t1⟩, t2, t3⟩ := t; ⟨⟨as ++ bs, .cons r1 t1⟩, Bool.and_eq_true_iff.mpr ⟨r2, t2⟩, Nat.max_le.mpr ⟨r3, t3⟩⟩
theorem VR.reads (h₀ : Heap) (k : ∀ a o, Has B G a o → h₀.get? a = some o) : ∀ (v : AV) (d : Nat) (w : Value), v.plain d = true → VR B G θ v w → RdOK h₀ d (toPy v) w :=
  AV.rec (motive_1 := fun v => ∀ d w, v.plain d = true → VR B G θ v w → RdOK h₀ d (toPy v) w) (motive_2 := fun l => ∀ d ws, AV.plains l d = true → VRs B G θ l ws → RdsOK h₀ d (toPys l) ws)
    (fun _ _ _ h => h.noneE ⟨⟨_, .none⟩, rfl, Nat.zero_le _⟩) (fun _ _ _ => nofun) (fun _ _ _ _ h => h.intE fun _ => ⟨⟨_, .int _ _⟩, rfl, Nat.zero_le _⟩) (fun n _ _ _ h => h.strE fun _ => ⟨⟨_, .str _ _⟩, nm_ok n, Nat.zero_le _⟩) (fun _ _ => nofun)
    (fun l ih d w q h => Nat.rec (motive := fun d => AV.plain (.tup l) d = true → RdOK h₀ d (toPy (.tup l)) w) nofun (fun d _ q => h.tupE fun a o vs j h1 h2 h3 h4 => (toPy_tup l).symm ▸ RdOK.tuple (k _ _ h1) h2 h3 (ih d vs q h4)) d q)
    (fun l ih d w q h => Nat.rec (motive := fun d => AV.plain (.fl l) d = true → RdOK h₀ d (toPy (.fl l)) w) nofun (fun d _ q => h.flE fun a o vs j h1 h2 h3 h4 => (toPy_fl l).symm ▸ RdOK.list (k _ _ h1) h2 h3 (ih d vs q h4)) d q)
    (fun _ _ _ _ _ => nofun) (fun _ _ _ _ _ => nofun) (fun _ _ _ _ _ => nofun) (fun _ _ _ => nofun) (fun _ _ _ => nofun) (fun _ _ _ => nofun) (fun _ _ _ => nofun)
    (fun _ _ _ h => h.nilE ⟨⟨_, .nil⟩, rfl, Nat.zero_le _⟩) (fun v l a b d ws q h => have q := Bool.and_eq_true_iff.mp q; h.consE fun w r h1 h2 => .cons (a d w q.1 h1) (b d r q.2 h2))
theorem VRs.reads (h₀ : Heap) (k : ∀ a o, Has B G a o → h₀.get? a = some o) (d : Nat) : ∀ {l : List AV} {ws : List Value}, AV.plains l d = true → VRs B G θ l ws → RdsOK h₀ d (toPys l) ws
  | [], _, _, h => h.nilE ⟨⟨_, .nil⟩, rfl, Nat.zero_le _⟩
  | v :: l, _, q, h => have q := Bool.and_eq_true_iff.mp q; h.consE fun w r h1 h2 => .cons (VR.reads h₀ k v d w q.1 h1) (VRs.reads h₀ k d q.2 h2)
theorem eqv_int {i j : Int} : (i == j) = decide (i = j) := rfl
theorem eqv_str {i j : Nat} : (nm i == nm j) = Nat.beq i j := by
  cases h : Nat.beq i j with
  | true => exact beq_iff_eq.mpr (congrArg nm (Nat.eq_of_beq_eq_true h))
  | false => exact beq_eq_false_iff_ne.mpr fun z => nomatch (nm_inj z ▸ Nat.beq_refl i : Nat.beq i j = true).symm.trans h
mutual
theorem veq_eqv : ∀ (v w : AV) (d : Nat), v.plain d = true → w.plain d = true → PyData.eqv (toPy v) (toPy w) = veq v w := fun v w d hv hw => by
  cases v with
  | none => cases w with
    | none | int | str | tup | fl => rfl
    | _ => exact ab hw
  | int i => cases w with
    | none | int | str | tup | fl => rfl
    | _ => exact ab hw
  | str i => cases w with
    | str j => exact eqv_str
    | none | int | tup | fl => rfl
    | _ => exact ab hw
  | tup l => cases w with
    | tup m => cases d with
      | zero => exact ab hv
      | succ d => rw [toPy_tup, toPy_tup]; exact veqs_eqv l m d hv hw
    | none | int | str | fl => rfl
    | _ => exact ab hw
  | fl l => cases w with
    | fl m => cases d with
      | zero => exact ab hv
      | succ d => rw [toPy_fl, toPy_fl]; exact veqs_eqv l m d hv hw
    | none | int | str | tup => rfl
    | _ => exact ab hw
  | _ => exact ab hv
theorem veqs_eqv : ∀ (v w : List AV) (d : Nat), AV.plains v d = true → AV.plains w d = true → PyData.eqvAll (toPys v) (toPys w) = veqs v w
  | [], [], _, _, _ => rfl
  | [], _ :: _, _, _, _ => rfl
  | _ :: _, [], _, _, _ => rfl
  | v :: r, w :: t, d, hv, hw => by
    have h1 := Bool.and_eq_true_iff.mp hv
    have h2 := Bool.and_eq_true_iff.mp hw
    show (PyData.eqv (toPy v) (toPy w) && PyData.eqvAll (toPys r) (toPys t)) = match veq v w with | true => veqs r t | false => false
    rw [veq_eqv v w d h1.1 h2.1, veqs_eqv r t d h1.2 h2.2]
    cases veq v w <;> rfl
end
theorem anyEq_any (v : AV) (d : Nat) (hv : v.plain d = true) : ∀ (l : List AV), AV.plains l d = true → ((toPys l).any fun y => PyData.eqv y (toPy v)) = anyEq v l
  | [], _ => rfl
  | w :: r, hl => by
    have h := Bool.and_eq_true_iff.mp hl
    show (PyData.eqv (toPy w) (toPy v) || (toPys r).any fun y => PyData.eqv y (toPy v)) = match veq w v with | true => true | false => anyEq v r
    rw [veq_eqv w v d h.1 hv, anyEq_any v d hv r h.2]
    cases veq w v <;> rfl
theorem eqAt_VR (k : ∀ a o, Has B G a o → s.heap.get? a = some o) {v w : AV} {x y : Value} {d : Nat} (hv : VR B G θ v x) (hw : VR B G θ w y) (pv : v.plain d = true) (pw : w.plain d = true) (hu : A.units + d < cLine) : EqAt A s x y (veq v w) := by
  obtain ⟨⟨as, r1⟩, c1, d1⟩ := VR.reads s.heap k v d x pv hv
  obtain ⟨⟨bs, r2⟩, c2, d2⟩ := VR.reads s.heap k w d y pw hw
  rw [← veq_eqv v w d pv pw]
  exact eqAt_reads _ _ A s x y as bs r1 r2 c1 c2 (Nat.lt_of_le_of_lt (Nat.add_le_add_left (Nat.le_trans (Nat.min_le_left _ _) d1) _) hu)

noncomputable def OrdZ (B : Base) (A : Around) (s : Shared) (op : CmpOp) (r fin : Bool) : List (Value × Value) → Prop
  | [] => fin = r
  | (x, y) :: l => (EqAt A s x y true ∧ OrdZ B A s op r fin l) ∨ (EqAt A s x y false ∧ ∀ (E : Value → Shared → Prop), wpAny (model B.prog B.w) A (richCompare op x y) (fun v s' => s' = s ∧ v = .bool r) E s)
set_option maxHeartbeats 1000000
theorem tup_run {a b : Addr} {oa ob : Obj} {xs ys : List Value} {n k : Nat} {r fin : Bool} (op : CmpOp) (F : Builtin) (hF : (op = .Lt ∧ F = Builtin.«tuple.__lt__») ∨ (op = .LtE ∧ F = Builtin.«tuple.__le__»)) (ha : s.heap.get? a = some oa) (ca : oa.cls = .type "tuple") (da : oa.data = .seq xs.toArray n)
    (hb : s.heap.get? b = some ob) (cb : ob.cls = .type "tuple") (db : ob.data = .seq ys.toArray k) (hf : Builtin.Tuple.tupleCompareSizes op xs.length ys.length = .bool fin) (h : OrdZ B A s op r fin (xs.zip ys)) :
    wpAny (model B.prog B.w) A (F ⟨[.ref a, .ref b], []⟩) (fun fin s' => ∃ v, fin = .done (.ret v) ∧ (v ≠ .notImplemented ∧ s' = s ∧ v = .bool r)) E s := by
  obtain ⟨hp, g, d, tk, os⟩ := s
  obtain ⟨oc, odi, oda, osl⟩ := oa
  obtain ⟨pc, pdi, pda, psl⟩ := ob
  dsimp only at ca da cb db
  subst ca da cb db
  have f2 := AutoSeq1.sub_tuple_tuple
  obtain ⟨Z, hZ⟩ : ∃ Z : List (Value × Value) → Prop, Z = OrdZ B A ⟨hp, g, d, tk, os⟩ op r fin := ⟨_, rfl⟩
  rw [← hZ] at h
  rcases hF with ⟨rfl, rfl⟩ | ⟨rfl, rfl⟩
  all_goals
    wp_walk using wpAny_loadPart' ha, wpAny_loadPart' hb, wpAny_forIn_list _ (fun rest z s' => z.1 = none ∧ s' = ⟨hp, g, d, tk, os⟩ ∧ Z rest) _
    case turn =>
      rintro ⟨x, y⟩ rest z s' ⟨hz, rfl, h⟩
      rw [hZ] at h
      rcases h with ⟨e, h⟩ | ⟨e, h⟩
      · refine wpAny_bind (e B.prog B.w _ _ ?_)
        wp_walk
        exact ⟨rfl, rfl, by rw [hZ]; exact h⟩
      · refine wpAny_bind (e B.prog B.w _ _ ?_)
        show wpAny _ _ (rule _ >>= fun _ => richCompare _ x y >>= _) _ _ _
        refine wpAny_bind (wpAny_rule (wpAny_bind (wpAny_mono (h E) (fun v s' hv => ?_) fun _ _ q => q)))
        obtain ⟨rfl, rfl⟩ := hv
        exact wpAny_bind (wpAny_pure (wpAny_pure (wpAny_pure ⟨_, rfl, nofun, rfl, rfl⟩)))
    case fin =>
      rintro ⟨z1, z2⟩ s' ⟨hz, rfl, h⟩
      have hz : z1 = none := hz
      subst hz
      rw [hZ] at h
      have h : fin = r := h
      subst h
      wp_walk
      exact ⟨_, rfl, hf.symm ▸ nofun, rfl, hf⟩
    case h => exact ⟨rfl, rfl, h⟩
structure OrdOp (B : Base) (o : Op) : Prop where
  int : ∀ {A : Around} {E : Value → Shared → Prop} {s : Shared} (i j : Int) (t u : Tok), wpAny (model B.prog B.w) A (richCompare (opOf o) (.int i t) (.int j u)) (fun v s' => s' = s ∧ v = .bool (icmpB o i j)) E s
  tup : ∀ {A : Around} {E : Value → Shared → Prop} {s : Shared} {a b : Addr} {oa ob : Obj} {xs ys : List Value} {n k : Nat} {r : Bool}, s.heap.get? a = some oa → oa.cls = .type "tuple" → oa.data = .seq xs.toArray n → s.heap.get? b = some ob → ob.cls = .type "tuple" → ob.data = .seq ys.toArray k → xs.length = ys.length → OrdZ B A.in1 s (opOf o) r (zcmpB o) (xs.zip ys) → A.units < cLine →
    wpAny (model B.prog B.w) A (richCompare (opOf o) (.ref a) (.ref b)) (fun v s' => s' = s ∧ v = .bool r) E s
theorem ord_lt : OrdOp B .lt := ⟨fun _ _ _ _ => lt_int ⟨rfl, rfl⟩, fun t1 c1 d1 t2 c2 d2 e Z hu => wpAny_richCompare_same_room ⟨_, t1, c1⟩ ⟨_, t2, c2⟩ F.slot_tuple_lt (wpAny_call_entry F.slot_tuple_lt ⟨_, t1, c1⟩ F.entry_tuple_lt (tup_run (fin := false) _ _ (.inl ⟨rfl, rfl⟩) t1 c1 d1 t2 c2 d2 (by rw [e]; exact congrArg Value.bool (decide_eq_false (Nat.lt_irrefl _))) Z) (F.args_tuple_lt_2 _ _)) hu⟩
theorem ord_le : OrdOp B .le := ⟨fun _ _ _ _ => le_int ⟨rfl, rfl⟩, fun t1 c1 d1 t2 c2 d2 e Z hu => wpAny_richCompare_same_room ⟨_, t1, c1⟩ ⟨_, t2, c2⟩ F.slot_tuple_le (wpAny_call_entry F.slot_tuple_le ⟨_, t1, c1⟩ F.entry_tuple_le (tup_run (fin := true) _ _ (.inr ⟨rfl, rfl⟩) t1 c1 d1 t2 c2 d2 (by rw [e]; exact congrArg Value.bool (decide_eq_true (Nat.le_refl _))) Z) (F.args_tuple_le_2 _ _)) hu⟩
theorem vordsOk_len : ∀ {l m : List AV}, vordsOk l m = true → l.length = m.length
  | [], [], _ => rfl
  | [], _ :: _, h => nomatch h
  | _ :: _, [], h => nomatch h
  | _ :: _, _ :: _, h => congrArg Nat.succ (vordsOk_len (Bool.and_eq_true_iff.mp h).2)
mutual
theorem ord_VR (k : ∀ a o, Has B G a o → s.heap.get? a = some o) {o : Op} (O : OrdOp B o) : ∀ (v w : AV) (d : Nat) (A : Around) (x y : Value) (E : Value → Shared → Prop), VR B G θ v x → VR B G θ w y → v.plain d = true → w.plain d = true → A.units + 2 * d + 4 < cLine → vordOk v w = true →
    wpAny (model B.prog B.w) A (richCompare (opOf o) x y) (fun u s' => s' = s ∧ u = .bool (vordB o v w)) E s := fun v w d A x y E hv hw pv pw hu h => by
  cases v with
  | int i => cases w with
    | int j => exact hv.intE fun t => hw.intE fun u => O.int i j t u
    | _ => exact ab h
  | tup l => cases w with
    | tup m => cases d with
      | zero => exact ab pv
      | succ d => exact hv.tupE fun a oa xs n h1 c1 d1 v1 => hw.tupE fun b ob ys m' h2 c2 d2 v2 => O.tup (k _ _ h1) c1 d1 (k _ _ h2) c2 d2 (v1.length.trans ((vordsOk_len h).trans v2.length.symm)) (ords_VR k O l m d A.in1 xs ys v1 v2 pv pw (by have : A.in1.units = A.units + 1 := rfl; omega) h) (by omega)
    | _ => exact ab h
  | _ => exact ab h
theorem ords_VR (k : ∀ a o, Has B G a o → s.heap.get? a = some o) {o : Op} (O : OrdOp B o) : ∀ (l m : List AV) (d : Nat) (A : Around) (xs ys : List Value), VRs B G θ l xs → VRs B G θ m ys → AV.plains l d = true → AV.plains m d = true → A.units + 2 * d + 4 < cLine → vordsOk l m = true → OrdZ B A s (opOf o) (vordsB o l m) (zcmpB o) (xs.zip ys)
  | [], [], _, _, _, _, hl, hm, _, _, _, _ => hl.nilE (hm.nilE rfl)
  | [], _ :: _, _, _, _, _, _, _, _, _, _, h => nomatch h
  | _ :: _, [], _, _, _, _, _, _, _, _, _, h => nomatch h
  | v :: l, w :: m, d, A, _, _, hl, hm, pl, pm, hu, h => hl.consE fun x xs a1 a2 => hm.consE fun y ys b1 b2 => by
    have p1 := Bool.and_eq_true_iff.mp pl
    have p2 := Bool.and_eq_true_iff.mp pm
    have q := Bool.and_eq_true_iff.mp h
    have e := eqAt_VR k a1 b1 p1.1 p2.1 (A := A) (by omega)
    have E1 := ords_VR k O l m d A _ _ a2 b2 p1.2 p2.2 hu q.2
    have E2 := fun E => ord_VR k O v w d A _ _ E a1 b1 p1.1 p2.1 hu q.1
    refine (?_ : OrdZ B A s (opOf o) (match veq v w with | true => vordsB o l m | false => vordB o v w) (zcmpB o) ((x, y) :: xs.zip ys))
    generalize veq v w = c at e ⊢
    cases c with
    | true => exact .inl ⟨e, E1⟩
    | false => exact .inr ⟨e, E2⟩
end
end
end Mine
namespace Mine
open PySem PySem.W PyProof.Rows PySem.Calls PySem.SeqAt

theorem zip_keys {α β : Type} : ∀ {ks : List α} {vs : List β}, vs.length = ks.length → (ks.zip vs).map (·.1) = ks
  | [], _, _ => rfl
  | _ :: _, [], h => nomatch h
  | k :: ks, _ :: _, h => congrArg (List.cons k) (zip_keys (Nat.succ.inj h))
section
variable {B : Base} {mg mb : Str → Option Value} {env : Env} {ρ : Loc} {σ : Sto} {G : Gh} {θ : List Addr} {s s0 : Shared} {A : Around} {E : Value → Shared → Prop}
theorem ZObj.len {l : List (Int × AV)} {o : Obj} {vs : List Value} (z : ZObj B G θ l o vs) : vs.length = (l.map (·.1)).length := let ⟨_, _, _, _, _, _, _, h⟩ := z; by rw [h.length, List.length_map, List.length_map]
theorem ZObj.vals {l : List (Int × AV)} {o : Obj} {vs : List Value} (z : ZObj B G θ l o vs) : VRs B G θ (l.map (·.2)) vs := let ⟨_, _, _, _, _, _, _, h⟩ := z; h
theorem ZObj.dictOf {h : Heap} {a : Addr} {l : List (Int × AV)} {o : Obj} {vs : List Value} (z : ZObj B G θ l o vs) (ho : h.get? a = some o) : h.DictOf (intKind B.prog B.w) a ((l.map (·.1)).zip vs) :=
  have e := zip_keys z.len
  let ⟨es, ep, z1, z2, z3, z4, z5, _⟩ := z; ⟨o, es, ep, ho, z1, z2, z3, z4, e.symm ▸ z5⟩
theorem lookZ_at {k : Int} : ∀ {l : List (Int × AV)} {vs : List Value}, VRs B G θ (l.map (·.2)) vs → match lookZ k l with
    | some r => ∃ w, valueAt ((l.map (·.1)).zip vs) k = some w ∧ VR B G θ r w
    | .none => valueAt ((l.map (·.1)).zip vs) k = none
  | [], _, _ => rfl
  | (m, v) :: l, _, h => h.consE fun w ws a b => by
    have ih := lookZ_at (k := k) b
    show match (match decide (k = m) with | true => some v | false => lookZ k l) with | some r => ∃ u, valueAt ((m, w) :: (l.map (·.1)).zip ws) k = some u ∧ VR B G θ r u | .none => valueAt ((m, w) :: (l.map (·.1)).zip ws) k = none
    have e1 : ∀ c, decide (m = k) = c → valueAt ((m, w) :: (l.map (·.1)).zip ws) k = match c with | true => some w | false => valueAt ((l.map (·.1)).zip ws) k := fun c hc => by
      unfold valueAt
      rw [List.find?_cons, hc]
      cases c <;> rfl
    cases q : decide (k = m) with
    | true => exact ⟨w, e1 true (decide_eq_true (of_decide_eq_true q).symm), a⟩
    | false => rw [e1 false (decide_eq_false fun z => of_decide_eq_false q z.symm)]; exact ih
theorem Rel.big (O : BOK B mg mb) (R : Rel B env ρ σ G θ s) {a : Addr} {o : Obj} (h : (a, o) ∈ G.L) : (a == sysModules) = false :=
  beq_eq_false_iff_ne.mpr fun e => absurd (Nat.lt_of_lt_of_le O.big (R.lo h)) (e ▸ Nat.lt_irrefl _)
theorem same_rule (S : St B env ρ s) {b : Bool} {v w : AV} {x y : Value} {k : AV → Prop} (hv : S.V v x) (hw : S.V w y) (h : isK False b v w S.σ k) {Q : Bool → Shared → Prop} (hq : ∀ c, k (.bool (flB b c)) → Q c s) : wpAny (model B.prog B.w) A (isSame x y) Q E s := by
  cases w with
  | none => exact hw.noneE ((VR.kind v x hv).2 ▸ wpAny_pure (hq _ h))
  | loc j => exact in_L (Z := fun v => S.V v x → _) h (fun i h hv => hv.locE fun a ta => hw.locE fun b tb => by
      refine in_onC h (fun c1 f1 e1 h => ?_) (fun _ _ => nofun) (fun _ _ => nofun) (fun _ _ => nofun)
      refine in_onC h (fun c2 f2 e2 h => ?_) (fun _ _ => nofun) (fun _ _ => nofun) (fun _ _ => nofun)
      obtain ⟨_, _, dx, es, n, a1, a3, _⟩ := S.R.at ta e1
      obtain ⟨_, _, dy, fs, m, b1, b3, _⟩ := S.R.at tb e2
      unfold isSame
      dsimp only
      cases q : Nat.beq i j with
      | true =>
        obtain rfl := Nat.eq_of_beq_eq_true q
        obtain rfl := Option.some.inj (ta.symm.trans tb)
        rw [if_pos (beq_self_eq_true a)]
        exact wpAny_pure (hq _ (q ▸ h))
      | false =>
        have e : (a == b) = false := beq_eq_false_iff_ne.mpr fun e => by
          subst e
          obtain rfl := Option.some.inj (congrArg Obj.dict (S.R.uniq a1.1 b1.1))
          exact nomatch (cell_inj (a3.2.symm.trans b3.2) ▸ Nat.beq_refl i : Nat.beq i j = true).symm.trans q
        rw [e, if_neg nofun]
        exact wpAny_bind (wpAny_load (S.R.get a1.1) (wpAny_bind (wpAny_load (S.R.get b1.1) (wpAny_pure (hq _ (q ▸ h))))))) hv
  | _ => exact h.elim
theorem in_rule (O : BOK B mg mb) (S : St B env ρ s) (hu : A.units + 200 < cLine) {b : Bool} {v w : AV} {x y : Value} {k : AV → Prop} (hv : S.V v x) (hw : S.V w y) (h : inK False b v w S.σ k) {Q : Value → Shared → Prop} (hq : ∀ {c s'}, Rel B env ρ S.σ S.G S.θ s' → k (.bool (flB b c)) → Q (.bool c) s') : wpAny (model B.prog B.w) A (compareOp .In x y) Q E s := by
  have kh : ∀ a o, Has B S.G a o → s.heap.get? a = some o := fun a o => S.R.has
  have seq : ∀ {l : List AV} {a : Addr} {o : Obj} {vs : List Value} {n : Nat} {T : String}, T = "tuple" ∨ T = "list" → s.heap.get? a = some o → o.cls = .type T → o.data = .seq vs.toArray n → S.Vs l vs → memK False b v l k → wpAny (model B.prog B.w) A (compareOp .In x (.ref a)) Q E s := fun {l a o vs n T} hT h1 h2 h3 h4 h => in_br h fun q h => by
    have q' := Bool.and_eq_true_iff.mp q
    obtain ⟨⟨as, r1⟩, c1, d1⟩ := VR.reads s.heap kh v 6 x q'.1 hv
    obtain ⟨⟨bs, r2⟩, c2, d2⟩ := VRs.reads s.heap kh 6 q'.2 h4
    have e := anyEq_any v 6 q'.1 l q'.2
    rcases hT with rfl | rfl
    · exact in_tuple_reads (.tuple h1 h2 h3 r2) r1 c2 c1 (by omega) (e.symm ▸ hq S.R h)
    · exact in_list_reads (.list h1 h2 h3 r2) r1 c2 c1 (by omega) (e.symm ▸ hq S.R h)
  cases w with
  | tup l => exact hw.tupE fun a o vs n h1 h2 h3 h4 => seq (.inl rfl) (kh _ _ h1) h2 h3 h4 h
  | loc i =>
    exact hw.locE fun a ta => in_onC h (fun _ _ _ => nofun) (fun l e h => let ⟨vs, n, h1, h5⟩ := S.R.at ta e; seq (.inr rfl) (S.R.get h1.1) rfl rfl h5 h)
      (fun l e h => in_I (Z := fun v => S.V v x → _) h (fun kk h hv => hv.intE fun t => by
        obtain ⟨o, vs, h1, z⟩ := S.R.at ta e
        refine PySem.wpAny_in_of (knd := intKind B.prog B.w) (k := kk) (beq_self_eq_true kk) (S.R.big O h1.1) (z.dictOf (S.R.get h1.1)).mapOf ?_
        have L := lookZ_at (k := kk) z.vals
        generalize lookZ kk l = q at L h
        cases q with
        | none => exact (show _ = none from L) ▸ hq (S.R.tok _) h
        | some r => obtain ⟨w, e, _⟩ := L; exact e.symm ▸ hq (S.R.tok _) h) hv) (fun _ _ => nofun)
  | _ => exact h.elim
theorem notIn_of {x y : Value} {Q : Value → Shared → Prop} (h : wpAny (model B.prog B.w) A (compareOp .In x y) (fun z s' => ∃ b, z = .bool b ∧ Q (.bool (!b)) s') E s) : wpAny (model B.prog B.w) A (compareOp .NotIn x y) Q E s := by
  have h' : wpAny (model B.prog B.w) A (contains y x >>= fun b => pure (Value.bool b)) (fun z s' => ∃ b, z = .bool b ∧ Q (.bool (!b)) s') E s := h
  show wpAny (model B.prog B.w) A (contains y x >>= fun b => pure (Value.bool (!b))) Q E s
  intro Γ p hΓ
  have z := h' Γ p hΓ
  rw [Sem.wp_bind'] at z ⊢
  refine Sem.wp_mono _ Γ _ (fun b p' s' hb => ?_) (fun _ _ _ q => q) p s z
  obtain ⟨b', e, hb⟩ := hb
  cases e; exact hb
theorem cmp_rule (O : BOK B mg mb) (S : St B env ρ s) (hu : A.units + 200 < cLine) {o : Op} {v w : AV} {x y : Value} {k : AV → Prop} (hv : S.V v x) (hw : S.V w y) (h : cmpK False o v w S.σ k) {Q : Value → Shared → Prop} (hq : ∀ {b s'}, Rel B env ρ S.σ S.G S.θ s' → k (.bool b) → Q (.bool b) s') :
    wpAny (model B.prog B.w) A (compareOp (opOf o) x y) Q E s := by
  have kh : ∀ a o, Has B S.G a o → s.heap.get? a = some o := fun a o => S.R.has
  have ord : ∀ {p : Op}, OrdOp B p → ordK False p v w k → wpAny (model B.prog B.w) A (richCompare (opOf p) x y) Q E s := fun {p} OO h => in_br h fun q h => in_br h fun h1 h => by
    have q' := Bool.and_eq_true_iff.mp q
    exact wpAny_mono (ord_VR kh OO v w 6 A x y E hv hw q'.1 q'.2 (by omega) h1) (fun u s' hu => hu.1.symm ▸ hu.2.symm ▸ hq S.R h) fun _ _ z => z
  have int : ∀ {p : Op}, (∀ (i j : Int) (t u : Tok), wpAny (model B.prog B.w) A (richCompare (opOf p) (.int i t) (.int j u)) (fun v s' => s' = s ∧ v = .bool (icmpB p i j)) E s) → asI v (fun i => asI w (fun j => k (.bool (icmpB p i j))) False) False → wpAny (model B.prog B.w) A (richCompare (opOf p) x y) Q E s := fun {p} f h =>
    in_I (Z := fun v => S.V v x → _) h (fun i h hv => in_I (Z := fun w => S.V w y → _) h (fun j h hw => hv.intE fun t => hw.intE fun u => wpAny_mono (f i j t u) (fun u s' hu => hu.1.symm ▸ hu.2.symm ▸ hq S.R h) fun _ _ z => z) hw) hv
  have eqs : ∀ {Z : Prop} {r : Prop}, br (v.plain 6 && w.plain 6) r False → (∀ as bs, Reads s.heap x (toPy v) as → Reads s.heap y (toPy w) bs → (toPy v).canLay0 = true → (toPy w).canLay0 = true → (toPy v).depth ≤ 6 → (toPy w).depth ≤ 6 → PyData.eqv (toPy v) (toPy w) = veq v w → r → Z) → Z := fun h z => in_br h fun q h => by
    have q' := Bool.and_eq_true_iff.mp q
    obtain ⟨⟨as, r1⟩, c1, d1⟩ := VR.reads s.heap kh v 6 x q'.1 hv
    obtain ⟨⟨bs, r2⟩, c2, d2⟩ := VR.reads s.heap kh w 6 y q'.2 hw
    exact z as bs r1 r2 c1 c2 d1 d2 (veq_eqv v w 6 q'.1 q'.2) h
  cases o with
  | eq => exact eqs h fun as bs r1 r2 c1 c2 d1 d2 e h => compareEq_reads r1 r2 c1 c2 (by omega) (e.symm ▸ hq S.R h)
  | ne => exact eqs h fun as bs r1 r2 c1 c2 d1 d2 e h => compareNe_reads r1 r2 c1 c2 (by omega) (e.symm ▸ hq S.R h)
  | lt => exact ord ord_lt h
  | le => exact ord ord_le h
  | gt => exact int (fun _ _ _ _ => gt_int ⟨rfl, rfl⟩) h
  | ge => exact int (fun _ _ _ _ => ge_int ⟨rfl, rfl⟩) h
  | is => exact wpAny_bind (same_rule S hv hw h fun c h => wpAny_pure (hq S.R h))
  | isnot => exact wpAny_bind (same_rule S hv hw h fun c h => wpAny_pure (hq S.R h))
  | inn => exact in_rule O S hu hv hw h fun R h => hq R h
  | notin => exact notIn_of (in_rule O S hu hv hw h fun R h => ⟨_, rfl, hq R h⟩)
end
end Mine
namespace Mine
open PySem PySem.W PyProof.Rows PySem.Calls PySem.SeqAt

section
variable {B : Base} {mg mb : Str → Option Value} {env : Env} {ρ : Loc} {σ : Sto} {G : Gh} {θ : List Addr} {s s0 : Shared} {A : Around} {E : Value → Shared → Prop} {S0 : St B env ρ s0}

theorem bits_small {i : Int} (h : small i = true) : Builtin.Int.intBits i ≤ 64 := by
  have h' : i.natAbs < 2 ^ 64 := Nat.le_of_ble_eq_true h
  unfold Builtin.Int.intBits
  split
  · decide
  · rename_i q
    exact (Nat.log2_lt (fun e => q (beq_iff_eq.mpr (Int.natAbs_eq_zero.mp e)))).mpr h'
theorem bin_rule {o : Bop} {i j : Int} {t u : Tok} {k : Int → Prop} (h : binK False o i j k) {Q : Value → Shared → Prop} (hq : ∀ {r t' tk}, k r → Q (.int r t') { s with toks := tk }) : wpAny (model B.prog B.w) A (binaryOp (bopOf o) (.int i t) (.int j u)) Q E s := by
  cases o with
  | add => exact add_int (hq h)
  | sub => exact sub_int (hq h)
  | mul => exact in_br h fun q h => mul_int (hq h) (((Bool.or_eq_true _ _).mp q).elim (fun q => IntMulOk.of_left (bits_small q)) fun q => IntMulOk.of_right (bits_small q))
  | fdiv =>
    refine in_brn h fun q h => ?_
    obtain ⟨q1, q2⟩ := Bool.or_eq_false_iff.mp q
    have q1 := of_decide_eq_false q1
    have q3 : small j = true := by cases e : small j <;> rw [e] at q2 <;> first | rfl | cases q2
    have h0 : j.natAbs ≠ 0 := fun e => q1 (Int.natAbs_eq_zero.mp e)
    exact floordiv_int q1 (hq h) (.inl (PyProof.noPylong_of_log2 (Nat.le_trans ((Nat.log2_lt h0).mpr (show j.natAbs < 2 ^ 64 from Nat.le_of_ble_eq_true q3)) (by decide))))
  | mod => exact in_brn h fun q h => mod_int' (of_decide_eq_false q) (hq h)
  | pow =>
    refine in_br h fun q1 h => in_br h fun q2 h => ?_
    obtain rfl := of_decide_eq_true q1
    obtain rfl := of_decide_eq_true q2
    exact pow_int (by decide) (by decide) (hq h)

theorem idx_ok {k : Int} (h : idx k = true) : 0 ≤ k ∧ k < 2 ^ 63 :=
  have z := Bool.and_eq_true_iff.mp h
  ⟨of_decide_eq_true z.1, Int.lt_trans (of_decide_eq_true z.2) (by decide)⟩
theorem lookZ2_zip {k : Int} : ∀ {ks : List Int} {l : List AV}, lookZ2 k ks l = lookZ k (ks.zip l)
  | [], [] => rfl
  | [], _ :: _ => rfl
  | _ :: _, [] => rfl
  | a :: ks, v :: l => congrArg (fun z => match decide (k = a) with | true => some v | false => z) (lookZ2_zip (ks := ks) (l := l))
theorem zip_snd {α β : Type} : ∀ {ks : List α} {vs : List β}, vs.length = ks.length → (ks.zip vs).map (·.2) = vs
  | [], [], _ => rfl
  | [], _ :: _, h => nomatch h
  | _ :: _, [], h => nomatch h
  | _ :: ks, v :: _, h => congrArg (List.cons v) (zip_snd (Nat.succ.inj h))
theorem look2_at {k : Nat} {r : AV} : ∀ {ks : List Nat} {l : List AV} {vs : List Value}, VRs B G θ l vs → look2 k ks l = some r → ∃ w, valueAt ((ks.map nm).zip vs) (nm k) = some w ∧ VR B G θ r w
  | [], _, _, _, h => nomatch h
  | _ :: _, [], _, _, h => nomatch h
  | m :: ks, v :: l, _, hv, h => hv.consE fun w ws a b => by
    unfold look2 at h
    unfold valueAt
    rw [List.map_cons, List.zip_cons_cons, List.find?_cons]
    cases q : Nat.beq k m with
    | true =>
      rw [q] at h; cases h
      rw [show decide (nm m = nm k) = true from decide_eq_true (congrArg nm (Nat.eq_of_beq_eq_true q).symm)]
      exact ⟨w, rfl, a⟩
    | false =>
      rw [q] at h
      rw [show decide (nm m = nm k) = false from decide_eq_false fun e => nomatch (nm_inj e ▸ Nat.beq_refl k : Nat.beq k m = true).symm.trans q]
      exact look2_at b h
theorem seqT {l : List AV} {a : Addr} {o : Obj} {vs : List Value} {n : Nat} {j : Int} {t : Tok} {r : AV} {value slice : Expr} {Q : Value → Shared → Prop} (hsub : ∀ o k, subscripted slice false o k = operate [o, k] (getItem o k)) (h1 : s.heap.get? a = some o) (h2 : o.cls = .type "tuple") (h3 : o.data = .seq vs.toArray n) (h4 : VRs B G θ l vs) (h5 : idx j = true) (h6 : nth l j.toNat = some r) (hq : ∀ {w}, VR B G θ r w → Q w s) :
    wpAny (model B.prog B.w) A (subscriptTail value slice (.ref a) (.int j t)) Q E s := by
  obtain ⟨w, e1, e2⟩ := h4.at h6
  obtain ⟨b1, b2⟩ := idx_ok h5
  have hl := nth_lt h6
  have hlen := h4.length
  refine item_tupleT (x := w) (j := j.toNat) ⟨o, h1, h2, n, h3⟩ (by omega) b2 ?_ e1 (hq e2) (hsub _ _)
  unfold seqIndex?
  rw [if_neg (Int.not_lt.mpr b1)]
  exact if_pos (Bool.and_eq_true_iff.mpr ⟨decide_eq_true b1, decide_eq_true (by omega)⟩)
theorem seqL {l : List AV} {a : Addr} {o : Obj} {vs : List Value} {n : Nat} {j : Int} {t : Tok} {r : AV} {value slice : Expr} {Q : Value → Shared → Prop} (hsub : ∀ o k, subscripted slice false o k = operate [o, k] (getItem o k)) (h1 : s.heap.get? a = some o) (h2 : o.cls = .type "list") (h3 : o.data = .seq vs.toArray n) (h4 : VRs B G θ l vs) (h5 : idx j = true) (h6 : nth l j.toNat = some r) (hq : ∀ {w}, VR B G θ r w → Q w s) :
    wpAny (model B.prog B.w) A (subscriptTail value slice (.ref a) (.int j t)) Q E s :=
  have ⟨w, e1, e2⟩ := h4.at h6
  have ⟨b1, b2⟩ := idx_ok h5
  tail_any (T := "list") ⟨o, h1, h2⟩ slot_list_getitem.lookup (getItem_listL ⟨o, h1, h2, n, h3⟩ b1 b2 e1 (hq e2)) (hsub _ _)
section
variable {v r : AV}
theorem io_I {Z : AV → Prop} {k : Int → Option AV} (h : asI v k .none = some r) (z : ∀ j, k j = some r → Z (.int j)) : Z v := by cases v with | int j => exact z j h | _ => exact nomatch (h : Option.none = some r)
theorem io_S {Z : AV → Prop} {k : Nat → Option AV} (h : asS v k .none = some r) (z : ∀ j, k j = some r → Z (.str j)) : Z v := by cases v with | str j => exact z j h | _ => exact nomatch (h : Option.none = some r)
theorem io_nth {Z : Prop} {l : List AV} {k : Int} (h : nthI l k = some r) (z : idx k = true → nth l k.toNat = some r → Z) : Z := by
  unfold nthI at h
  cases q : idx k with
  | true => rw [q] at h; exact z q h
  | false => rw [q] at h; cases h
theorem io_C {Z : Prop} {o : Option Cell} {f : List AV → Option AV} {g : List (Int × AV) → Option AV} (h : onC o (fun _ _ => .none) f g (fun _ => .none) .none = some r) (z1 : ∀ l, o = some (.lst l) → f l = some r → Z) (z2 : ∀ l, o = some (.dct l) → g l = some r → Z) : Z := match o, h with
  | some (.lst l), h => z1 l rfl h
  | some (.dct l), h => z2 l rfl h
end
section
variable {S : St B env ρ s} {r : AV} {value slice : Expr} {Q : Value → Shared → Prop} (O : BOK B mg mb) (hsub : ∀ o k, subscripted slice false o k = operate [o, k] (getItem o k)) {x k : Value} (hq : ∀ {w tk}, VR B S.G S.θ r w → Q w { s with toks := tk })
include hsub hq
theorem sub_fd {ks : List Int} {l : List AV} {j : Int} (hv : S.V (.fd ks l) x) (hi : S.V (.int j) k) (e : lookZ2 j ks l = some r) : wpAny (model B.prog B.w) A (subscriptTail value slice x k) Q E s := by
  obtain ⟨a, o, es, ep, vs, rfl, h1, h2, h3, h4, h5, h6, h7, h8⟩ := hv
  have L := lookZ_at (k := j) (l := ks.zip l) (vs := vs) ((zip_snd (VRs.length h8 ▸ h7.symm)).symm ▸ h8)
  rw [← lookZ2_zip, e, zip_keys (VRs.length h8 ▸ h7.symm)] at L
  obtain ⟨w, e1, e2⟩ := L
  have D : s.heap.DictOf (intKind B.prog B.w) a (ks.zip vs) := ⟨o, es, ep, S.R.has h1, h2, h3, h4, h5, (zip_keys h7.symm).symm ▸ h6⟩
  exact hi.intE fun t => tail_any D.typeIs slot_dict_getitem.lookup (PySem.wpAny_getItem_of (knd := intKind B.prog B.w) (k := j) (beq_self_eq_true j) D.mapOf e1 (hq e2)) (hsub _ _)
theorem sub_sd {ks : List Nat} {l : List AV} {j : Nat} (hv : S.V (.sd ks l) x) (hi : S.V (.str j) k) (e : look2 j ks l = some r) : wpAny (model B.prog B.w) A (subscriptTail value slice x k) Q E s := by
  obtain ⟨a, o, es, ep, vs, rfl, h1, h2, h3, h4, h5, h6, h7, h8⟩ := hv
  obtain ⟨w, e1, e2⟩ := look2_at h8 e
  have D : s.heap.DictOf (PySem.strKind B.prog B.w) a ((ks.map nm).zip vs) := ⟨o, es, ep, S.R.has h1, h2, h3, h4, h5, (zip_keys h7.symm).symm ▸ h6⟩
  exact hi.strE fun t => tail_any D.typeIs slot_dict_getitem.lookup (PySem.wpAny_getItem_of (knd := PySem.strKind B.prog B.w) (k := nm j) (beq_self_eq_true (nm j)) D.mapOf e1 (hq e2)) (hsub _ _)
include O in
theorem sub_loc {a0 : Nat} {j : Int} (hv : S.V (.loc a0) x) (hi : S.V (.int j) k) (e : onC (cell S.σ a0) (fun _ _ => .none) (fun l => nthI l j) (fun l => lookZ j l) (fun _ => .none) .none = some r) : wpAny (model B.prog B.w) A (subscriptTail value slice x k) Q E s :=
  hi.intE fun t => hv.locE fun a ti => io_C e (fun l ci e => have ⟨vs, n, h1, h5⟩ := S.R.at ti ci; io_nth e fun h6 h7 => seqL hsub (S.R.get h1.1) rfl rfl h5 h6 h7 fun h => hq (tk := s.toks) h) fun l ci e => by
    obtain ⟨o, vs, h1, z⟩ := S.R.at ti ci
    have L := lookZ_at (k := j) z.vals
    rw [e] at L
    obtain ⟨w, e1, e2⟩ := L
    exact tail_any (z.dictOf (S.R.get h1.1)).typeIs slot_dict_getitem.lookup (PySem.wpAny_getItem_of (knd := intKind B.prog B.w) (k := j) (beq_self_eq_true j) (z.dictOf (S.R.get h1.1)).mapOf e1 (hq e2)) (hsub _ _)
include O in
theorem sub_any : ∀ {v i : AV}, S.V v x → S.V i k → subv v i S.σ = some r → wpAny (model B.prog B.w) A (subscriptTail value slice x k) Q E s := fun {v i} hv hi e => by
  cases v with
  | tup l => exact io_I (Z := fun i => S.V i k → _) e (fun j e hi => hi.intE fun t => hv.tupE fun a o vs n h1 h2 h3 h4 => io_nth e fun h5 h6 => seqT hsub (S.R.has h1) h2 h3 h4 h5 h6 fun h => hq (tk := s.toks) h) hi
  | fl l => exact io_I (Z := fun i => S.V i k → _) e (fun j e hi => hi.intE fun t => hv.flE fun a o vs n h1 h2 h3 h4 => io_nth e fun h5 h6 => seqL hsub (S.R.has h1) h2 h3 h4 h5 h6 fun h => hq (tk := s.toks) h) hi
  | fd ks l => exact io_I (Z := fun i => S.V i k → _) e (fun j e hi => sub_fd hsub hq hv hi e) hi
  | sd ks l => exact io_S (Z := fun i => S.V i k → _) e (fun j e hi => sub_sd hsub hq hv hi e) hi
  | loc a0 => exact io_I (Z := fun i => S.V i k → _) e (fun j e hi => sub_loc O hsub hq hv hi e) hi
  | _ => exact nomatch (e : Option.none = some r)
end
theorem sub_rule (O : BOK B mg mb) (S : St B env ρ s) (le : S0.Le S) {v i : AV} {x k : Value} {value slice : Expr} (hs : notSlice slice = true) (hv : S.V v x) (hi : S.V i k) {Q : AV → Sto → Prop} (h : opt (subv v i S.σ) (fun r => Q r S.σ) False) : wpAny (model B.prog B.w) A (subscriptTail value slice x k) (Got S0 Q) E s :=
  in_opt h fun r e q => sub_any O (fun o k => by cases slice <;> first | rfl | exact ab hs) (fun {w tk} hw => ⟨S.tok tk, r, ⟨le.x, le.p⟩, hw, q⟩) hv hi e

theorem lenC_ok {n : Nat} {k : AV → Prop} {Z : Prop} (h : lenC False n k) (z : (n : Int) < 2 ^ 63 → k (.int n) → Z) : Z := in_br h fun q h => z (Int.lt_trans (Int.ofNat_lt.mpr (Nat.le_of_ble_eq_true q)) (by decide)) h
theorem len_rule (O : BOK B mg mb) (S : St B env ρ s) (le : S0.Le S) {v : AV} {x : Value} (hv : S.V v x) {Q : AV → Sto → Prop} (h : lenK False v S.σ fun r => Q r S.σ) : wpAny (model B.prog B.w) A (call (.builtin "len") [x]) (Got S0 Q) E s := by
  have fin : ∀ {n : Int} {t : Tok} {tk : Nat}, Q (.int n) S.σ → Got S0 Q (.int n t) { s with toks := tk } := fun q => ⟨S.tok _, _, ⟨le.x, le.p⟩, .int _ _, q⟩
  have lst : ∀ {l : List AV} {a : Addr} {o : Obj} {vs : List Value} {k : Nat}, s.heap.get? a = some o → o.cls = .type "list" → o.data = .seq vs.toArray k → S.Vs l vs → lenC False l.length (fun r => Q r S.σ) → wpAny (model B.prog B.w) A (call (.builtin "len") [.ref a]) (Got S0 Q) E s := fun {l a o vs k} h1 h2 h3 h4 h => by
    rw [← VRs.length h4] at h
    exact lenC_ok h fun hb h => len_list ⟨o, h1, h2, k, h3⟩ hb (fin h)
  cases v with
  | tup l =>
    refine hv.tupE fun a o vs k h1 h2 h3 h4 => ?_
    have h : lenC False l.length (fun r => Q r S.σ) := h
    rw [← VRs.length h4] at h
    exact lenC_ok h fun hb h => len_tuple ⟨o, S.R.has h1, h2, k, h3⟩ hb (fin h)
  | fl l => exact hv.flE fun a o vs k h1 h2 h3 h4 => lst (S.R.has h1) h2 h3 h4 h
  | loc i =>
    refine hv.locE fun a ti => in_onC h (fun _ _ _ => nofun) (fun l e h => ?_) (fun l e h => ?_) (fun _ _ => nofun)
    · obtain ⟨vs, k, h1, h5⟩ := S.R.at ti e
      exact lst (S.R.get h1.1) rfl rfl h5 h
    · obtain ⟨o, vs, h1, z⟩ := S.R.at ti e
      have hl : ((l.map (·.1)).zip vs).length = l.length := by rw [List.length_zip, z.len, Nat.min_self, List.length_map]
      rw [← hl] at h
      exact lenC_ok h fun hb h => call_len_dict (S.R.big O h1.1) (z.dictOf (S.R.get h1.1)) hb (fin h)
  | _ => exact h.elim
theorem f2_rule (hh : A.handled = none) (S : St B env ρ s) (le : S0.Le S) {o : B2} {i j : Int} {t u : Tok} {Q : AV → Sto → Prop} (q : Q (.int (f2I o i j)) S.σ) : wpAny (model B.prog B.w) A (call (.builtin (B2.casesOn o "max" "min")) [.int i t, .int j u]) (Got S0 Q) E s := by
  have fin : ∀ {r : Int} {t : Tok} {h' : Heap} {tk : Nat}, (∀ b o, s.heap.get? b = some o → h'.get? b = some o) → Q (.int r) S.σ → Got S0 Q (.int r t) { s with heap := h', toks := tk } := fun hk q => ⟨S.onHeap hk, _, ⟨le.x, le.p⟩, .int _ _, q⟩
  cases o with
  | mx =>
    refine max_two_ints hh fun h' tk hk => ?_
    have q : Q (.int (match decide (i < j) with | true => j | false => i)) S.σ := q
    by_cases c : j > i
    · rw [decide_eq_true (show i < j from c)] at q; rw [if_pos c]; exact fin hk q
    · rw [decide_eq_false (show ¬ i < j from c)] at q; rw [if_neg c]; exact fin hk q
  | mn =>
    refine min_two_ints hh fun h' tk hk => ?_
    have q : Q (.int (match decide (j < i) with | true => j | false => i)) S.σ := q
    by_cases c : j < i
    · rw [decide_eq_true c] at q; rw [if_pos c]; exact fin hk q
    · rw [decide_eq_false c] at q; rw [if_neg c]; exact fin hk q
noncomputable abbrev St.push (S : St B env ρ s) (o : Obj) (t : Tag) (hf : o.isFreed = false := by rfl) : St B env ρ { s with heap := s.heap.push o } := ⟨S.σ, S.G.push s.heap.objs.size o t, S.θ, S.R.push o t hf⟩
theorem St.Le.pushX {S : St B env ρ s} (le : S0.Le S) (o : Obj) (t : Tag) : Ext S0.G (S.G.push s.heap.objs.size o t) := le.x.trans (S.R.pushExt o t)
theorem rng_rule (S : St B env ρ s) (le : S0.Le S) {n : Int} {t : Tok} {Q : AV → Sto → Prop} (q : Q (.rg n) S.σ) : wpAny (model B.prog B.w) A (call (.type "range") [.int n t]) (Got S0 Q) E s :=
  call_range_1 ⟨(S.push _ .fix).tok _, .rg n, ⟨le.pushX _ _, le.p⟩, .rg (.inr push_new), q⟩
theorem tup_rule (S : St B env ρ s) (le : S0.Le S) {l : List AV} {vs : List Value} (h : S.Vs l vs) (hs : vs.length ≤ sizeLine) {Q : AV → Sto → Prop} (q : Q (.tup l) S.σ) : wpAny (model B.prog B.w) A (newTuple vs) (Got S0 Q) E s :=
  wpAny_newTuple ⟨S.push _ .fix, .tup l, ⟨le.pushX _ _, le.p⟩, .tup (.inr push_new) rfl rfl (h.ext (S.R.pushExt _ _) (.refl _)), q⟩ hs
theorem lst_rule (S : St B env ρ s) (le : S0.Le S) {fz : Bool} {l : List AV} {vs : List Value} (h : S.Vs l vs) (hs : vs.length ≤ sizeLine) {Q : AV → Sto → Prop} (q : br fz (Q (.fl l) S.σ) (Q (.loc S.σ.length) (S.σ ++ [.lst l]))) : wpAny (model B.prog B.w) A (newList vs) (Got S0 Q) E s := by
  refine wpAny_newList ?_ hs
  cases fz with
  | true => exact ⟨S.push _ .fix, .fl l, ⟨le.pushX _ _, le.p⟩, .fl (.inr push_new) rfl rfl (h.ext (S.R.pushExt _ _) (.refl _)), q⟩
  | false => exact ⟨⟨_, _, _, (S.R.push _ (.cell S.σ.length)).grow (.lst push_new (h.ext (S.R.pushExt _ _) (.app _ _)))⟩, _, ⟨le.pushX _ _, le.p.trans (.app _ _)⟩, .loc (S.R.new_at _), q⟩
theorem snk_rule (S : St B env ρ s) (le : S0.Le S) {Q : AV → Sto → Prop} (q : Q (.loc S.σ.length) (S.σ ++ [.sink 1000000])) : wpAny (model B.prog B.w) A (newList []) (Got S0 Q) E s :=
  wpAny_newList ⟨⟨_, _, _, (S.R.push _ (.cell S.σ.length)).grow (.sink (vs := []) push_new (Nat.le_refl _))⟩, _, ⟨le.pushX _ _, le.p.trans (.app _ _)⟩, .loc (S.R.new_at _), q⟩ (Nat.zero_le _)
end
end Mine
namespace Mine
open PySem PySem.W PyProof.Rows PySem.Calls PySem.SeqAt

section
variable {B : Base} {mg mb : Str → Option Value} {env : Env} {ρ : Loc} {σ : Sto} {G : Gh} {θ : List Addr} {s s' s0 : Shared} {A : Around} {E : Value → Shared → Prop} {S0 : St B env ρ s0}

theorem sliceApplied_to {sl : Addr} {a n : Nat} {u : Tok} {Q : Int × Int × Nat → Shared → Prop} (hs : s.heap.IsSliceOf sl .none (.int a u) .none) (ha : a ≤ n) (h : Q (0, 1, a) s) :
    wpAny (model B.prog B.w) A (Builtin.Slice.sliceApplied (.ref sl) (pure (n : Int))) Q E s := by
  obtain ⟨os, hos, hcs, hds⟩ := id hs
  unfold Builtin.Slice.sliceApplied Builtin.Slice.sliceFields
  refine wpAny_bind (wpAny_bind (wpAny_field hos hds (x := .none) rfl (wpAny_bind (wpAny_field hos hds (x := .int a u) rfl (wpAny_bind (wpAny_field hos hds (x := .none) rfl (wpAny_pure ?_)))))))
  refine wpAny_bind (slicePart_none ?_)
  show wpAny _ _ (if ((1 : Int) == 0) = true then _ else _) _ _ s
  rw [if_neg (by decide)]
  refine wpAny_bind (slicePart_none (wpAny_bind (slicePart_int (wpAny_bind (wpAny_pure ?_)))))
  show wpAny _ _ (match Builtin.Slice.sliceAdjust none (some (a : Int)) 1 (n : Int) with | (lo, hi) => pure (lo, (1 : Int), Builtin.Slice.slicePlaces lo hi 1)) _ _ s
  have e : Builtin.Slice.sliceAdjust none (some (a : Int)) 1 (n : Int) = ((0 : Int), (a : Int)) := by
    unfold Builtin.Slice.sliceAdjust
    have h1 : ¬ ((1 : Int) < 0) := by omega
    have h2 : ¬ ((a : Int) < 0) := by omega
    simp only [h1, h2, if_false]
    congr 1
    omega
  rw [e]
  show wpAny _ _ (pure ((0 : Int), (1 : Int), Builtin.Slice.slicePlaces 0 (a : Int) 1)) _ _ s
  have e2 : Builtin.Slice.slicePlaces 0 (a : Int) 1 = a := by
    unfold Builtin.Slice.slicePlaces
    have h1 : (1 : Int) > 0 := by omega
    simp only [h1, if_true, Int.ediv_one]
    split <;> omega
  rw [e2]
  exact wpAny_pure h
theorem pick_to (xs : Array Value) (a : Nat) : ((List.range a).filterMap fun (k : Nat) => xs[((0 : Int) + (k : Int) * 1).toNat]?).toArray = (xs.toList.take a).toArray := by
  have e : (fun (k : Nat) => xs[((0 : Int) + (k : Int) * 1).toNat]?) = fun k => xs[k]? := by
    funext k
    have : ((0 : Int) + (k : Int) * 1).toNat = k := by omega
    rw [this]
  rw [e]
  have := pick_run xs 0 a
  rw [List.filterMap_map] at this
  have e2 : ((fun x => xs[x]?) ∘ fun x => 0 + x) = fun k => xs[k]? := by funext k; simp
  rw [e2] at this
  rw [this]; simp
theorem getItem_tuple_to {t sl : Addr} {items : Array Value} {a : Nat} {u : Tok} {Q : Value → Shared → Prop} (ht : IsTup s.heap t items) (hs : s.heap.IsSliceOf sl .none (.int a u) .none) (ha : a < items.size)
    (h : Q (.ref s.heap.objs.size) { s with heap := s.heap.push { cls := .type "tuple", data := .seq (items.toList.take a).toArray } })
    (hsz : items.size ≤ sizeLine) : wpAny (model B.prog B.w) A (getItem (.ref t) (.ref sl)) Q E s := by
  have hdrop : sizeOk (.seq (items.toList.take a).toArray) := by
    show (items.toList.take a).toArray.size ≤ sizeLine
    rw [List.size_toArray, List.length_take, Array.length_toList]
    omega
  obtain ⟨os, hos, hcs, hds⟩ := id hs
  have hTs : s.TypeIs (.ref sl) "slice" := ⟨os, hos, hcs⟩
  unfold getItem
  try with_reducible refine wpAny_holding ?_
  first | refine wpAny_bind (wpAny_pure ?_) | skip
  refine wpAny_bind (wpAny_sequenceKey ht.typeIs (by decide) ?_)
  refine wpAny_bind (wpAny_callSpecial?_slot (name := Str.ofString "__getitem__") ht.typeIs PyProof.Rows.slot_tuple_getitem
    (wpAny_call_entry PyProof.Rows.slot_tuple_getitem ht.typeIs entry_tuple_getitem ?_ (args_tuple_getitem _ _)))
  show wpAny _ _ (Builtin.Tuple.tupleItemsOf (.ref t) >>= _) _ _ s
  refine wpAny_bind (tupleItemsOf_ ht ?_)
  refine wpAny_bind (wpAny_typeOf hTs ?_)
  rw [if_pos (by decide)]
  refine wpAny_bind (sliceApplied_to hs (Nat.le_of_lt ha) ?_)
  have hno : ¬ (((0 : Int) == 0 && (1 : Int) == 1 && (a == items.size)) = true) := by
    have : (a == items.size) = false := by rw [beq_eq_false_iff_ne]; omega
    rw [this]; simp
  show wpAny _ _ (if ((0 : Int) == 0 && (1 : Int) == 1 && (a == items.size)) = true then _ else _) _ _ s
  rw [if_neg hno, pick_to items a]
  first
    | exact wpAny_bind (m := Builtin.Tuple.tupleExact _) (wpAny_newObj_type (wpAny_pure ⟨_, rfl, wpAny_pure h⟩) hdrop)
    | exact wpAny_bind (m := Builtin.Tuple.tupleExact _) (wpAny_newObj_type (wpAny_bind (wpAny_pure (wpAny_pure ⟨_, rfl, wpAny_pure h⟩))) hdrop)
    | exact wpAny_bind (wpAny_bind (m := Builtin.Tuple.tupleExact _) (wpAny_newObj_type (wpAny_pure (wpAny_pure ⟨_, rfl, wpAny_pure h⟩)) hdrop))
    | exact wpAny_bind (wpAny_bind (m := Builtin.Tuple.tupleExact _) (wpAny_newObj_type (wpAny_pure ⟨_, rfl, wpAny_pure h⟩) hdrop))

theorem slc_rule (S : St B env ρ s) (le : S0.Le S) {l : List AV} {x : Value} {lo : Nat} {hi : Option Nat} {value : Expr} {a b : Option Expr} {p p' : Pos} (hv : S.V (.tup l) x) (hx : sliceX lo hi a b = true) {Q : AV → Sto → Prop} (h : br (sliceOk lo hi l.length) (Q (.tup (sliceV lo hi l)) S.σ) False) :
    wpAny (model B.prog B.w) A (eval (.Slice a b none p) env) (fun i s₂ => wpAny (model B.prog B.w) A (subscriptTail value (.Slice a b none p') x i) (Got S0 Q) E s₂) E s := by
  refine in_br h fun q h => ?_
  obtain ⟨q1, q2⟩ := Bool.and_eq_true_iff.mp q
  have hl : l.length ≤ 1000 := Nat.le_of_lt (Nat.le_of_ble_eq_true q1)
  refine wpAny_Slice ?_
  have fin : ∀ {o : Obj} {j : Nat} {vs : List Value} {l' : List AV} (tk : Nat) (ho : o.isFreed = false), S.Vs l' vs → Q (.tup l') S.σ → Got S0 Q (.ref (s.heap.push o).objs.size) { s with heap := (s.heap.push o).push { cls := .type "tuple", data := .seq vs.toArray j }, toks := tk } := fun {o j vs l'} tk ho h1 h2 =>
    ⟨⟨_, _, _, ((S.tok tk).push o .itr ho).R.push { cls := .type "tuple", data := .seq vs.toArray j } .fix⟩, .tup l', ⟨(le.pushX o .itr).trans (((S.tok tk).push o .itr ho).R.pushExt _ _), le.p⟩, .tup (.inr push_new) rfl rfl (h1.ext ((S.R.pushExt o .itr).trans (((S.tok tk).push o .itr ho).R.pushExt _ _)) (.refl _)), h2⟩
  refine hv.tupE fun ad o vs n g1 g2 g3 g4 => ?_
  have hlen := VRs.length g4
  have hsz : vs.toArray.size ≤ sizeLine := by rw [List.size_toArray]; show _ ≤ 2 ^ 24; omega
  have ho : ∀ (ob : Obj), (s.heap.push ob).get? ad = some o := fun ob => Heap.get?_push_of_some _ (S.R.has g1)
  cases hi with
  | some k =>
    obtain ⟨b1, b2⟩ := Bool.and_eq_true_iff.mp q2
    have b2 : k < l.length := Nat.le_of_ble_eq_true b2
    obtain ⟨hx1, hx2⟩ := Bool.and_eq_true_iff.mp hx
    revert hx2
    refine inNone hx1 ?_
    intro hx2
    refine inSome hx2 fun e he => inConst he fun c kd pc hc => inCI hc fun i hi => ?_
    obtain rfl := of_decide_eq_true hi
    refine wpAny_pure ?_
    rw [evalPart_some]
    refine wpAny_Constant_int (wpAny_pure (tail_any (T := "tuple") ⟨o, ho _, g2⟩ slot_tuple_getitem.lookup (getItem_tuple_to (a := k) (items := vs.toArray) ⟨o, ho _, g2, n, g3⟩ ⟨_, Heap.get?_push_size _ rfl, rfl, rfl⟩ (by rw [List.size_toArray]; omega) ?_ hsz) rfl))
    exact fin _ rfl (VRs.take k g4) h
  | none =>
    obtain ⟨b1, b2⟩ := Bool.and_eq_true_iff.mp q2
    have b1 : 1 ≤ lo := Nat.le_of_ble_eq_true b1
    have b2 : lo ≤ l.length := Nat.le_of_ble_eq_true b2
    obtain ⟨hx1, hx2⟩ := Bool.and_eq_true_iff.mp hx
    revert hx2
    refine inNone hx1 ?_
    intro hx2
    refine inSome hx2 fun e he => inConst he fun c kd pc hc => inCI hc fun i hi => ?_
    obtain rfl := of_decide_eq_true hi
    rw [evalPart_some]
    refine wpAny_Constant_int (wpAny_pure (wpAny_pure (tail_any (T := "tuple") ⟨o, ho _, g2⟩ slot_tuple_getitem.lookup (getItem_tuple_from (a := lo) (items := vs.toArray) ⟨o, ho _, g2, n, g3⟩ ⟨_, Heap.get?_push_size _ rfl, rfl, rfl⟩ b1 (by rw [List.size_toArray]; omega) ?_ hsz) rfl)))
    exact fin _ rfl (VRs.drop lo g4) h

theorem keysZ_rel : ∀ {l : List (Int × AV)} {vs : List Value}, vs.length = l.length → (∀ (j : Nat) (v : Value), vs[j]? = some v → ∃ k, (l.map (·.1))[j]? = some k ∧ Value.isInt k v = true) → lks_nums vs = l.map (·.1) ∧ kf_ints vs = true
  | [], [], _, _ => ⟨rfl, rfl⟩
  | [], _ :: _, h, _ => nomatch h
  | _ :: _, [], h, _ => nomatch h
  | (a, x) :: l, v :: vs, h, hp => by
    obtain ⟨k, h1, h2⟩ := hp 0 v rfl
    obtain ⟨r2, r3⟩ := keysZ_rel (l := l) (vs := vs) (Nat.succ.inj h) fun j v hv => hp (j + 1) v hv
    cases v with
    | int i t =>
      have e1 : i = k := eq_of_beq h2
      have e2 : a = k := Option.some.inj h1
      exact ⟨(congrArg (List.cons i) r2).trans (congrArg (fun z => z :: l.map (·.1)) (e1.trans e2.symm)), r3⟩
    | _ => exact ab h2
theorem lks_rel : ∀ {l : List (Int × AV)} {i : Nat} {t : Nat → Tok}, VRs B G θ (keysZ l) (lks_vals (l.map (·.1)) i t)
  | [], _, _ => .nil
  | _ :: _, _, _ => .cons (.int _ _) lks_rel
theorem incr_asc : ∀ {l : List (Int × AV)}, incr l = true → lks_asc (l.map (·.1)) = true
  | [], _ => rfl
  | [_], _ => rfl
  | (a, x) :: (b, y) :: l, h => by
    have h' := Bool.and_eq_true_iff.mp h
    have r := incr_asc (l := (b, y) :: l) h'.2
    have ab := of_decide_eq_true h'.1
    have r' := (Bool.and_eq_true_iff.mp r).1
    refine Bool.and_eq_true_iff.mpr ⟨?_, r⟩
    refine List.all_eq_true.mpr fun c hc => decide_eq_true ?_
    rcases List.mem_cons.mp hc with rfl | hc
    · exact Int.le_of_lt ab
    · exact Int.le_trans (Int.le_of_lt ab) (of_decide_eq_true (List.all_eq_true.mp r' c hc))
theorem srt_rule (O : BOK B mg mb) (hh : A.handled = none) (S : St B env ρ s) (le : S0.Le S) {v : AV} {x : Value} (hv : S.V v x) {Q : AV → Sto → Prop} (h : srtK False v S.σ fun r => Q r S.σ) : wpAny (model B.prog B.w) A (call (.builtin "sorted") [x]) (Got S0 Q) E s := by
  refine in_L (Z := fun v => S.V v x → _) h (fun i h hv => ?_) hv
  refine hv.locE fun a hθ => in_onC h (fun _ _ _ => nofun) (fun _ _ => nofun) (fun l hc h => in_br h fun q h => ?_) (fun _ _ => nofun)
  obtain ⟨q, h3⟩ := Bool.and_eq_true_iff.mp q
  obtain ⟨h1, h2⟩ := Bool.and_eq_true_iff.mp q
  have h2 : 0 < l.length := Nat.le_of_ble_eq_true h2
  have h3 : l.length < 64 := Nat.le_of_ble_eq_true h3
  obtain ⟨o, vs, c1, z⟩ := S.R.at hθ hc
  have kz := zip_keys z.len
  have kl : ((l.map (·.1)).zip vs).length = l.length := by rw [List.length_zip, z.len, Nat.min_self, List.length_map]
  obtain ⟨es, ep, c3, c4, c5, c6, c7, c8⟩ := z
  obtain ⟨m, C, Nm⟩ := S.R
  have D : s.heap.DictAt (intKind B.prog B.w) a ((l.map (·.1)).zip vs) ep := ⟨o, es, C.get c1.1, c3, c4, c5, c6, kz.symm ▸ c7⟩
  refine kdu_sorted (kdl_dict (knd := intKind B.prog B.w) (kvs := (l.map (·.1)).zip vs) (ep := ep) (S.R.big O c1.1)) hh C.fr C.N D (by rw [kl]; show _ ≤ 2 ^ 24; omega) fun D h' tk ws F' N' hlt hlen hP => ?_
  obtain ⟨k2, k3⟩ := keysZ_rel (l := l) (vs := ws) (hlen.trans kl) fun j v hv => by
    obtain ⟨k, x, e1, e2⟩ := hP j v hv
    exact ⟨k, by rw [← kz, List.getElem?_map, e1]; rfl, e2⟩
  have hD : ∀ q ∈ S.G.L, q.1 ≠ D := fun q hq => Nat.ne_of_lt (hlt q hq)
  have lo : B.h₀.objs.size ≤ D := Nat.le_of_lt (Nat.lt_of_le_of_lt (S.R.lo c1.1) (hlt _ c1.1))
  refine lks_sort (its := ws.toArray) (n := 0) (q := l.map (·.1)) (D := D) (news' := fun t => (D, listOf (lks_vals (l.map (·.1)) 0 t).toArray 2) :: S.G.L) F' N' (fun t => .head hD) k3 ?_ ?_ ?_ fun t h'' F'' N'' => ?_
  · show ((lks_nums ws).isPerm _ && lks_asc _) = true
    rw [k2, incr_asc h1, Bool.and_true]
    exact List.isPerm_iff.mpr (.refl _)
  · show ws.isEmpty = false
    cases ws with
    | nil => exact absurd (hlen.trans kl) (Nat.ne_of_lt h2)
    | cons => rfl
  · show ws.length < 64
    rw [hlen, kl]; exact h3
  · exact ⟨⟨_, _, _, m, C.add .fix hD lo F'' N'', Nm.extL (pushL hD) (.refl _)⟩, _, ⟨le.x.trans (pushL hD).ext, le.p⟩, .fl (.inr push_new) rfl rfl lks_rel, h⟩

theorem bools_at : ∀ {l : List AV} {bs : List Bool} {vs : List Value}, bools l = some bs → VRs B G θ l vs → vs = bs.map .bool
  | [], _, _, h, hv => hv.nilE (Option.some.inj h ▸ rfl)
  | v :: l, bs, _, h, hv => hv.consE fun w ws a b => by
    cases v with
    | bool c =>
      have h : (match bools l with | some r => some (c :: r) | .none => .none) = some bs := h
      cases q : bools l with
      | none => rw [q] at h; cases h
      | some r =>
        rw [q] at h; cases h
        exact a.boolE (congrArg (List.cons (Value.bool c)) (bools_at q b))
    | _ => cases h
theorem any_tr (bs : List Bool) : (List.range bs.length).any (fun i => bs.getD i false) = anyB bs := by
  have e : (List.range bs.length).any (fun i => bs.getD i false) = bs.any id := by
    rw [Bool.eq_iff_iff, List.any_eq_true, List.any_eq_true]
    constructor
    · rintro ⟨i, hi, h⟩
      have hi' := List.mem_range.mp hi
      refine ⟨bs[i], List.getElem_mem hi', ?_⟩
      simpa [List.getD_eq_getElem?_getD, hi'] using h
    · rintro ⟨b, hb, h⟩
      obtain ⟨i, hi, rfl⟩ := List.getElem_of_mem hb
      exact ⟨i, List.mem_range.mpr hi, by simpa [List.getD_eq_getElem?_getD, hi] using h⟩
  rw [e]
  clear e
  induction bs with
  | nil => rfl
  | cons b r ih => cases b <;> simp_all [anyB]
theorem all_tr (bs : List Bool) : (List.range bs.length).all (fun i => bs.getD i false) = allB bs := by
  have e : (List.range bs.length).all (fun i => bs.getD i false) = bs.all id := by
    rw [Bool.eq_iff_iff, List.all_eq_true, List.all_eq_true]
    constructor
    · intro h b hb
      obtain ⟨i, hi, rfl⟩ := List.getElem_of_mem hb
      have := h i (List.mem_range.mpr hi)
      simpa [List.getD_eq_getElem?_getD, hi] using this
    · intro h i hi
      have hi' := List.mem_range.mp hi
      have := h bs[i] (List.getElem_mem hi')
      simpa [List.getD_eq_getElem?_getD, hi'] using this
  rw [e]
  clear e
  induction bs with
  | nil => rfl
  | cons b r ih => cases b <;> simp_all [allB]
theorem truthOf_bools (bs : List Bool) : TruthOf B.prog B.w A (fun i v => (bs.map Value.bool).toArray[i]? = some v) (fun i => bs.getD i false) := fun i v s Q E h q => by
  have h' : (bs.map Value.bool)[i]? = some v := by simpa using h
  rw [List.getElem?_map] at h'
  cases hb : bs[i]? with
  | none => rw [hb] at h'; cases h'
  | some b =>
    rw [hb] at h'; cases h'
    have : bs.getD i false = b := by simp [List.getD_eq_getElem?_getD, hb]
    dsimp only at q
    rw [this] at q
    exact wpAny_truthy_bool q
theorem all_rule (hh : A.handled = none) (S : St B env ρ s) (le : S0.Le S) {o : Bool} {v : AV} {x : Value} (hv : S.V v x) {Q : AV → Sto → Prop} (h : allK False (match o with | true => anyB | false => allB) v fun r => Q r S.σ) : wpAny (model B.prog B.w) A (call (.builtin (match o with | true => "any" | false => "all")) [x]) (Got S0 Q) E s := by
  refine in_F (Z := fun v => S.V v x → _) h (fun l h hv => in_opt h fun bs hb h => hv.flE fun a o' vs n h1 h2 h3 h4 => ?_) hv
  obtain rfl := bools_at hb h4
  have ho := S.R.has h1
  have L : s.heap.IsList a (bs.map Value.bool).toArray := ⟨o', ho, h2, n, h3⟩
  have hne : a ≠ s.heap.objs.size := Nat.ne_of_lt (Heap.lt_size ho)
  have fin : ∀ {r : Bool} {h' : Heap} {tk : Nat} {ob : Obj}, (∀ b o, b ∉ [s.heap.objs.size] → (s.heap.push ob).get? b = some o → h'.get? b = some o) → Q (.bool r) S.σ → Got S0 Q (.bool r) { s with heap := h', toks := tk } := fun hk q =>
    ⟨S.onHeap fun b ob hb => hk b ob (fun e => Nat.ne_of_lt (Heap.lt_size hb) (List.mem_singleton.mp e)) (Heap.get?_push_of_some _ hb), _, ⟨le.x, le.p⟩, .bool _, q⟩
  have sz : (bs.map Value.bool).toArray.size = bs.length := List.length_map ..
  have W := Walks.list (prog := B.prog) (w := B.w) (A := A.in1) hh s.heap.objs.size a hne (bs.map Value.bool).toArray
  cases o with
  | true => exact call_any_walk (wpAny_pyIter_list L ⟨_, _, _, _, _, _, _, rfl, W, ⟨⟨_, Heap.get?_push_size _ rfl, rfl, rfl⟩, L.push _⟩, truthOf_bools bs, fun h' tk hk => by rw [sz, any_tr]; exact fin hk h⟩)
  | false => exact call_all_walk (wpAny_pyIter_list L ⟨_, _, _, _, _, _, _, rfl, W, ⟨⟨_, Heap.get?_push_size _ rfl, rfl, rfl⟩, L.push _⟩, truthOf_bools bs, fun h' tk hk => by rw [sz, all_tr]; exact fin hk h⟩)
end
end Mine
namespace Mine
open PySem PySem.W PyProof.Rows PySem.Calls PySem.SeqAt

theorem putL_len (n : Str) (hsh : Int) (k v : Value) : ∀ es : List DictEntry, (putL n hsh k v es).length ≤ es.length + 1
  | [] => Nat.le_refl _
  | e :: es => by
    unfold putL
    split
    · exact Nat.le_succ _
    · exact Nat.succ_le_succ (putL_len n hsh k v es)
theorem put_mem {n k : Nat} {v : AV} : ∀ {fs : List (Nat × AV)}, memN k ((put n v fs).map (·.1)) = true → k = n ∨ memN k (fs.map (·.1)) = true
  | [], h => by
    have h : (match Nat.beq k n with | true => true | false => false) = true := h
    cases q : Nat.beq k n with
    | true => exact .inl (Nat.eq_of_beq_eq_true q)
    | false => rw [q] at h; cases h
  | (m, u) :: fs, h => by
    have h : memN k ((match Nat.beq n m with | true => (m, v) :: fs | false => (m, u) :: put n v fs : List (Nat × AV)).map (·.1)) = true := h
    cases q : Nat.beq n m with
    | true => rw [q] at h; exact .inr h
    | false =>
      rw [q] at h
      have h : (match Nat.beq k m with | true => true | false => memN k ((put n v fs).map (·.1))) = true := h
      show _ ∨ (match Nat.beq k m with | true => true | false => memN k (fs.map (·.1))) = true
      cases q2 : Nat.beq k m with
      | true => exact .inr rfl
      | false => rw [q2] at h; exact put_mem h
section
variable {B : Base} {mg mb : Str → Option Value} {env : Env} {ρ : Loc} {σ : Sto} {G : Gh} {θ : List Addr} {s s' s0 : Shared} {A : Around} {E : Value → Shared → Prop} {S0 : St B env ρ s0}

theorem put_fields {n : Nat} {v : AV} {w : Value} {hsh : Int} {t : Tok} (hv : VR B G θ v w) : ∀ {fs : List (Nat × AV)} {es : List DictEntry}, FRs B G θ (fs.map (·.1)) (fs.map (·.2)) es → FRs B G θ ((put n v fs).map (·.1)) ((put n v fs).map (·.2)) (putL (nm n) hsh (.str (nm n) t) w es)
  | [], _, h => (h.1 : _ = []).symm ▸ ⟨⟨t, _, _, rfl, rfl, rfl⟩, .cons hv .nil⟩
  | (m, u) :: fs, _, ⟨⟨t', e, es, rfl, h1, h2⟩, h3⟩ => by
    obtain ⟨w', ws, e1, a, b⟩ := h3
    obtain ⟨rfl, rfl⟩ := List.cons.inj e1
    show FRs B G θ ((match Nat.beq n m with | true => (m, v) :: fs | false => (m, u) :: put n v fs : List (Nat × AV)).map (·.1)) ((match Nat.beq n m with | true => (m, v) :: fs | false => (m, u) :: put n v fs : List (Nat × AV)).map (·.2)) _
    unfold putL
    cases q : Nat.beq n m with
    | true =>
      obtain rfl := Nat.eq_of_beq_eq_true q
      rw [if_pos (show e.key.isStr (nm n) = true from h1.symm ▸ beq_self_eq_true _)]
      exact ⟨⟨t', _, es, rfl, h1, h2⟩, .cons hv b⟩
    | false =>
      rw [if_neg (fun z : e.key.isStr (nm n) = true => nomatch z.symm.trans (isStr_ne h1 q))]
      have ih := put_fields (n := n) (hsh := hsh) (t := t) hv (fs := fs) (es := es) ⟨h2, b⟩
      exact ⟨⟨t', e, _, rfl, h1, ih.1⟩, .cons a ih.2⟩
theorem keys_noref : ∀ {ns : List Nat} {es : List DictEntry}, KeysAre ns es → es.any (·.refKey) = false ∧ es.length = ns.length
  | [], _, h => (h : _ = []).symm ▸ ⟨rfl, rfl⟩
  | _ :: _, _, ⟨t, e, es, rfl, h1, h2⟩ => by
    obtain ⟨a, b⟩ := keys_noref h2
    refine ⟨?_, congrArg Nat.succ b⟩
    rw [List.any_cons, a, Bool.or_false]
    unfold DictEntry.refKey; rw [h1]
theorem getL_some {n : Str} {es : List DictEntry} (h : es.any (·.refKey) = false) : (getL n es).isSome = true := by
  unfold getL
  split
  · rfl
  · rw [h]; rfl
theorem split_at {Λ : List (Addr × Obj)} {a : Addr} {o : Obj} (h : (a, o) ∈ Λ) (nd : (Λ.map (·.1)).Nodup) (o' : Obj) : ∃ pre post, Λ = pre ++ (a, o) :: post ∧ (∀ p ∈ pre, p.1 ≠ a) ∧ (∀ p ∈ post, p.1 ≠ a) ∧ upd Λ a o' = pre ++ (a, o') :: post := by
  obtain ⟨pre, post, rfl⟩ := List.append_of_mem h
  rw [List.map_append, List.map_cons] at nd
  obtain ⟨n1, n2, n3⟩ := List.nodup_append.mp nd
  have h1 : ∀ p ∈ pre, p.1 ≠ a := fun p hp => n3 _ (List.mem_map_of_mem hp) _ (.head _)
  have h2 : ∀ p ∈ post, p.1 ≠ a := fun p hp e => (List.nodup_cons.mp n2).1 (List.mem_map.mpr ⟨p, hp, e⟩)
  have keep : ∀ l : List (Addr × Obj), (∀ p ∈ l, p.1 ≠ a) → l.map (fun p => if p.1 = a then (a, o') else p) = l := fun l hl => (List.map_congr_left fun p hp => if_neg (hl p hp)).trans (List.map_id _)
  refine ⟨pre, post, rfl, h1, h2, ?_⟩
  unfold upd
  rw [List.map_append, List.map_cons, keep pre h1, keep post h2, if_pos rfl]
theorem set_att_rule (O : BOK B mg mb) (S : St B env ρ s) (le : S0.Le S) {a : AV} {x w : Value} {n : Nat} {v : AV} (hx : S.V a x) (hv : S.V v w) {K : Loc → Sto → Prop}
    (h : asL a (fun i => onC (cell S.σ i) (fun c fs => br (Nat.blt fs.length 900 && memN n (B.P.fields c)) (K ρ (setc S.σ i (.inst c (put n v fs)))) False) (fun _ => False) (fun _ => False) (fun _ => False) False) False) : wpAny (model B.prog B.w) A (setAttr x (nm n) w) (Did S0 K) E s := by
  refine in_L (Z := fun v => S.V v x → _) h (fun i h hx => hx.locE fun a hθ => ?_) hx
  refine in_onC h (fun c fs hc h => in_br h fun q h => ?_) (fun _ _ => nofun) (fun _ _ => nofun) (fun _ _ => nofun)
  obtain ⟨q1, q2⟩ := Bool.and_eq_true_iff.mp q
  have q1 : fs.length < 900 := Nat.le_of_ble_eq_true q1
  obtain ⟨z1, z2, dx, es, k, h1, h3, h5⟩ := S.R.at hθ hc
  obtain ⟨m, C, Nm⟩ := S.R
  have K := O.cls c z1
  have I := instAt (C.get h1.1) (C.get h3.1)
  have XK := O.X.keeps C.fr.keep
  obtain ⟨nr, el⟩ := keys_noref h5.1
  obtain ⟨es', ee⟩ : ∃ es', es' = putL (nm n) (PyData.keyHash B.w.params (nm n)) (.str (nm n) (s.toks + 1)) w es := ⟨_, rfl⟩
  obtain ⟨k', ek⟩ : ∃ k', k' = putN (nm n) es k := ⟨_, rfl⟩
  have hl : es'.length ≤ 1000 := by rw [ee]; have := putL_len (nm n) (PyData.keyHash B.w.params (nm n)) (.str (nm n) (s.toks + 1)) w es; rw [List.length_map] at el; omega
  have f' : ∀ {G'}, Ext0 S.G G' → FRs B G' S.θ ((put n v fs).map (·.1)) ((put n v fs).map (·.2)) es' := fun x => ee ▸ (put_fields hv h5).ext0 x (.refl _)
  obtain ⟨pre, post, e1, p1, p2, e2⟩ := split_at h3.1 C.nd (dictOf es' k')
  refine set_plain XK I K.sa (osa_dict (s := { s with toks := s.toks + 1 }) (es := es') (n := k') (od' := dictOf es' k') C.fr (e1 ▸ C.N) XK I rfl K.po (K.fld n q2).2 K.hd (getL_some nr) p1 p2 (by rw [putName_dict, ee, ek]) rfl hl fun h' F' N' => ?_)
  have x0 : Ext0 S.G (S.G.upd dx (dictOf es' k')) := upd_ext0 fun e => nomatch h3.2.symm.trans e
  have xl := turnL (o' := dictOf es' k') h3
  have C' := C.turn (tk := s.toks + 1 + 1) h3 F' (e2.symm ▸ N') (c' := .inst c (put n v fs)) fun b hb => Option.some.inj (hθ.symm.trans hb) ▸ CR.inst z1 (fun k' hk' => (put_mem hk').elim (fun e => e.symm ▸ q2) (z2 k')) (x0 _ _ h1) (upd_eq h3) (f' x0)
  exact ⟨⟨_, _, _, m, C', Nm.extL xl (.refl _)⟩, ⟨le.x.trans xl.ext, le.p⟩, h⟩
theorem stored_hit {k : Int} {w w' : Value} {ks : List (Int × Value)} (h : ∀ p ∈ ks, p.1 ≠ k) : stored ((k, w') :: ks) k w = (k, w) :: ks := by
  unfold stored
  rw [if_pos (by rw [List.any_cons, decide_eq_true rfl]; rfl), List.map_cons, if_pos rfl]
  exact congrArg _ ((List.map_congr_left fun p hp => if_neg (h p hp)).trans (List.map_id _))
theorem stored_skip {k m : Int} {w w' : Value} {ks : List (Int × Value)} (h : m ≠ k) : stored ((m, w') :: ks) k w = (m, w') :: stored ks k w := by
  unfold stored
  rw [List.any_cons, decide_eq_false h, Bool.false_or]
  split
  · rw [List.map_cons, if_neg h]
  · rfl
theorem putZ_stored {k : Int} {v : AV} {w : Value} (hv : VR B G θ v w) : ∀ {l : List (Int × AV)} {vs : List Value}, (l.map (·.1)).Nodup → VRs B G θ (l.map (·.2)) vs →
    ∃ us, stored ((l.map (·.1)).zip vs) k w = ((putZ k v l).map (·.1)).zip us ∧ VRs B G θ ((putZ k v l).map (·.2)) us ∧ ((putZ k v l).map (·.1)).Nodup ∧ ∀ x ∈ (putZ k v l).map (·.1), x = k ∨ x ∈ l.map (·.1)
  | [], _, _, h => h.nilE ⟨[w], rfl, .cons hv .nil, List.nodup_cons.mpr ⟨List.not_mem_nil, List.nodup_nil⟩, fun x hx => .inl (List.mem_singleton.mp hx)⟩
  | (m, u) :: l, _, nd, h => h.consE fun w' vs hu hr => by
    obtain ⟨n1, n2⟩ := List.nodup_cons.mp nd
    by_cases q : k = m
    · subst q
      have e : putZ k v ((k, u) :: l) = (k, v) :: l := by unfold putZ; rw [decide_eq_true rfl]
      rw [e]
      exact ⟨w :: vs, stored_hit fun p hp e => n1 (e ▸ (List.of_mem_zip hp).1), .cons hv hr, nd, fun x hx => .inr hx⟩
    · have e : putZ k v ((m, u) :: l) = (m, u) :: putZ k v l := by
        show (match decide (k = m) with | true => _ | false => _) = _
        rw [decide_eq_false q]
      rw [e]
      obtain ⟨us, h1, h2, h3, h4⟩ := putZ_stored hv n2 hr
      refine ⟨w' :: us, (stored_skip fun e => q e.symm).trans (congrArg _ h1), .cons hu h2, List.nodup_cons.mpr ⟨fun hm => (h4 _ hm).elim (fun e => q e.symm) n1, h3⟩, fun x hx => ?_⟩
      rcases List.mem_cons.mp hx with rfl | hx
      · exact .inr (.head _)
      · exact (h4 _ hx).imp id (.tail _)
theorem St.turned (S : St B env ρ s) (le : S0.Le S) {i : Nat} {a : Addr} {o o' : Obj} {h' : Heap} {tk : Nat} {c' : Cell} (hθ : S.θ[i]? = some a) (h : In S.G (.cell i) a o) (hs : Heap.SameBut a s.heap h') (ho : h'.get? a = some o') (hq : ∀ G', Ext0 S.G G' → In G' (.cell i) a o' → CR B G' S.θ i a c') :
    ∃ S' : St B env ρ { s with heap := h', toks := tk }, S0.Le S' ∧ S'.σ = setc S.σ i c' :=
  have xl := turnL (o' := o') h
  ⟨⟨_, _, _, S.R.lift (fun _ C => C.turnBut h hs ho fun b hb => Option.some.inj (hθ.symm.trans hb) ▸ hq _ xl.ext.fixes (upd_eq h)) xl (.refl _)⟩, ⟨le.x.trans xl.ext, le.p⟩, rfl⟩
theorem seq_map {f : Array Value → Array Value} {vs : List Value} {n : Nat} : ∃ n', Obj.mapSeq f (listOf vs.toArray n) = listOf (f vs.toArray) n' := ⟨_, rfl⟩
theorem St.mapped (S : St B env ρ s) (le : S0.Le S) {i : Nat} {a : Addr} {vs vs' : List Value} {n : Nat} {f : Array Value → Array Value} {tk : Nat} {c' : Cell} (hθ : S.θ[i]? = some a) (h : In S.G (.cell i) a (listOf vs.toArray n)) (hf : f vs.toArray = vs'.toArray) (hq : ∀ G' n', Ext0 S.G G' → In G' (.cell i) a (listOf vs'.toArray n') → CR B G' S.θ i a c') :
    ∃ S' : St B env ρ { s with heap := s.heap.update a (Obj.mapSeq f), toks := tk }, S0.Le S' ∧ S'.σ = setc S.σ i c' := by
  have ho := S.R.get h.1
  obtain ⟨n', e⟩ := seq_map (f := f) (vs := vs) (n := n)
  rw [hf] at e
  exact St.turned S le hθ h (Heap.SameBut.update s.heap a _) (by rw [Heap.get?_update_self _ ho (by rw [e]; rfl), e]) fun G' x hm => hq G' n' x hm
theorem set_item_rule (O : BOK B mg mb) (S : St B env ρ s) (le : S0.Le S) {u i v : AV} {x y w : Value} (hx : S.V u x) (hi : S.V i y) (hv : S.V v w) {K : Loc → Sto → Prop}
    (h : asL u (fun a => asI i (fun n => onC (cell S.σ a) (fun _ _ => False) (fun l => br (idx n) (br (decide (n < l.length)) (K ρ (setc S.σ a (.lst (setn l n.toNat v)))) False) False) (fun l => br (Nat.blt l.length 1000000) (K ρ (setc S.σ a (.dct (putZ n v l)))) False) (fun _ => False) False) False) False) : wpAny (model B.prog B.w) A (setItem x y w) (Did S0 K) E s := by
  refine in_L (Z := fun u => S.V u x → _) h (fun a0 h hx => in_I (Z := fun i => S.V i y → _) h (fun n h hi => hx.locE fun a hθ => hi.intE fun t => ?_) hi) hx
  refine in_onC h (fun _ _ _ => nofun) (fun l hc h => in_br h fun q1 h => in_br h fun q2 h => ?_) (fun l hc h => in_br h fun q h => ?_) (fun _ _ => nofun)
  · obtain ⟨vs, k, h1, h5⟩ := S.R.at hθ hc
    obtain ⟨b1, b2⟩ := idx_ok q1
    have b3 := of_decide_eq_true q2
    have hlen := VRs.length h5
    obtain ⟨S', le', e⟩ := St.mapped S le (f := (·.setIfInBounds n.toNat w)) (tk := s.toks) (vs' := vs.set n.toNat w) (c' := .lst (setn l n.toNat v)) hθ h1 (List.setIfInBounds_toArray ..) fun G' n' x hm => .lst hm ((VRs.setn hv h5).ext0 x (.refl _))
    exact ki_setAt (S.R.get h1.1) b1 b2 (by rw [List.size_toArray]; omega) ⟨S', le', e.symm ▸ h⟩
  · have q : l.length < 1000000 := Nat.le_of_ble_eq_true q
    obtain ⟨o, vs, h1, z⟩ := S.R.at hθ hc
    have hl' : ((l.map (·.1)).zip vs).length ≤ sizeLine := by rw [List.length_zip, z.len, Nat.min_self, List.length_map]; show _ ≤ 2 ^ 24; omega
    refine wpAny_setItem_pairs (knd := intKind B.prog B.w) (k := n) (beq_self_eq_true n) (z.dictOf (S.R.get h1.1)) (fun h' D' hs => ?_) hl'
    obtain ⟨_, _, _, _, _, _, znd, zv⟩ := z
    obtain ⟨us, p1, p2, p3, p4⟩ := putZ_stored (k := n) hv znd zv
    rw [p1] at D'
    obtain ⟨o', es', ep', d1, d2, d3, d4, d5, d6⟩ := D'
    obtain ⟨S', le', e⟩ := St.turned S le (tk := _) (c' := .dct (putZ n v l)) hθ h1 hs d1 fun G' x hm => .dct hm ⟨es', ep', d2, d3, d4, d5, p3, p2.ext0 x (.refl _)⟩
    exact ⟨S', le', e.symm ▸ h⟩
theorem append_at {l : Addr} {items : Array Value} {k : Nat} {x : Value} {Q : Value → Shared → Prop} (ho : s.heap.get? l = some (listOf items k))
    (hQ : Q .none { s with heap := s.heap.update l (Obj.mapSeq (·.push x)) }) (hsz : items.size ≤ sizeLine) :
    wpAny (model B.prog B.w) A (call (.builtin "list.append") [.ref l, x]) Q E s := by
  have hl : s.heap.IsList l items := ⟨_, ho, rfl, k, rfl⟩
  refine wpAny_call_entry PySem.slot_list_append hl.typeIs PySem.entry_list_append ?_ (PySem.args_list_append _ _)
  show wpAny _ _ (updateSeq l (·.push x) >>= fun _ => ret .none) _ _ s
  refine wpAny_bind ?_
  exact wpAny_updateSeq ho rfl (wpAny_pure ⟨.none, rfl, hQ⟩)
theorem app_rule (O : BOK B mg mb) (S : St B env ρ s) (le : S0.Le S) {i : Nat} {v : AV} {a : Addr} {w : Value} (hθ : S.θ[i]? = some a) (hv : S.V v w) {Q : AV → Sto → Prop}
    (h : onC (cell S.σ i) (fun _ _ => False) (fun l => br (Nat.blt l.length 1000000) (Q .none (setc S.σ i (.lst (l ++ [v])))) False) (fun _ => False) (fun n => match n with | 0 => False | m + 1 => Q .none (setc S.σ i (.sink m))) False) : wpAny (model B.prog B.w) A (call (.builtin "list.append") [.ref a, w]) (Got S0 Q) E s := by
  have key : ∀ {vs : List Value} {n : Nat} {c' : Cell}, In S.G (.cell i) a (listOf vs.toArray n) → vs.length < 1000000 → (∀ G' n', Ext0 S.G G' → In G' (.cell i) a (listOf (vs ++ [w]).toArray n') → CR B G' S.θ i a c') → Q .none (setc S.σ i c') → wpAny (model B.prog B.w) A (call (.builtin "list.append") [.ref a, w]) (Got S0 Q) E s := fun {vs n c'} h1 hl hq h => by
    obtain ⟨S', le', e⟩ := St.mapped S le (f := (·.push w)) (tk := s.toks) (vs' := vs ++ [w]) (c' := c') hθ h1 (List.push_toArray ..) hq
    exact append_at (S.R.get h1.1) ⟨S', .none, le', .none, e.symm ▸ h⟩ (by rw [List.size_toArray]; show _ ≤ 2 ^ 24; omega)
  refine in_onC h (fun _ _ _ => nofun) (fun l hc h => in_br h fun q h => ?_) (fun _ _ => nofun) (fun n hc h => ?_)
  · obtain ⟨vs, k, h1, h5⟩ := S.R.at hθ hc
    exact key h1 (VRs.length h5 ▸ Nat.le_of_ble_eq_true q) (fun G' n' x hm => .lst hm ((VRs.app hv h5).ext0 x (.refl _))) h
  · cases n with
    | zero => exact h.elim
    | succ n =>
      obtain ⟨vs, k, h1, h5⟩ := S.R.at hθ hc
      exact key h1 (by omega) (fun G' n' x hm => .sink hm (by rw [List.length_append]; show vs.length + 1 + n ≤ _; omega)) h
theorem get_append (S : St B env ρ s) {i : Nat} {a : Addr} {l : List Value} {n : Nat} (h : In S.G (.cell i) a (listOf l.toArray n)) {pl : Sem Bool} {Q : Value × List Value → Shared → Prop} (q : Q (.builtin "list.append", [.ref a]) s) : wpAny (model B.prog B.w) A (getMethod (.ref a) "append" pl) Q E s := Calls.getMethod_list_append (S.R.get h.1) rfl rfl q
end
end Mine
namespace Mine
open PySem PySem.W PyProof.Rows PySem.Calls PySem.SeqAt

section
variable {B : Base} {mg mb : Str → Option Value} {env : Env} {ρ : Loc} {s s0 : Shared} {A : Around} {E : Value → Shared → Prop} {S0 : St B env ρ s0}
theorem in_kind {sc : Scope} {x : Str} {a b c d : Bool} {Z : Prop} (h : kindIn sc x a b c d = true) (z1 : a = true → sc.names.lookup x = some .local → Z) (z2 : b = true → sc.names.lookup x = some .cell → Z) (z3 : c = true → sc.names.lookup x = some .free → Z) (z4 : d = true → sc.names.lookup x = some .globalImplicit → Z) : Z := by
  unfold kindIn at h
  cases q : sc.names.lookup x with
  | none => rw [q] at h; cases h
  | some kd =>
    rw [q] at h
    cases kd with
    | «local» => exact z1 h q
    | cell => exact z2 h q
    | free => exact z3 h q
    | globalImplicit => exact z4 h q
    | globalExplicit => cases h
theorem in_loc {sc : Scope} {x : Str} {Z : Prop} (h : locOk sc x = true) (z : x ≠ (".0" : Str) → (x == ("__debug__" : Str)) = false → (x == ("__classdict__" : Str)) = false → kindIn sc x true true true false = true → Z) : Z := an h fun h1 h => an h fun h2 h => an h fun h3 h => z (beq_eq_false_iff_ne.mp (nt h1)) (nt h2) (nt h3) h
theorem nam_rule (V : EnvOK env) (S : St B env ρ s) (le : S0.Le S) {n : Nat} {x : Str} {p : Pos} (hs : same n x = true) (hk : locOk env.scope x = true) {Q : AV → Sto → Prop} (h : opt (look n ρ) (fun v => Q v S.σ) False) : wpAny (model B.prog B.w) A (eval (.Name x p) env) (Got S0 Q) E s := by
  obtain rfl := same_eq hs
  refine in_opt h fun v hl q => in_loc hk fun k0 k1 k2 k3 => ?_
  obtain ⟨m, C, Nm⟩ := S.R
  obtain ⟨a, b⟩ := Nm.vals n v hl k0
  have hq : ∀ {w}, S.V v w → Got S0 Q w s := fun hw => ⟨S, v, le, hw, q⟩
  refine wpAny_Name (in_kind k3 (fun _ e => ?_) (fun _ e => ?_) (fun _ e => ?_) nofun) k1
  · obtain ⟨w, h1, h2⟩ := a e
    exact wpAny_loadName_local V.kind e C.fr.ns h1 (hq h2)
  · obtain ⟨c, o, w, h1, h2, h3, h4⟩ := b (.inl e)
    exact wpAny_loadName_cell V.kind e h1 ⟨o, C.get h2.1, h3⟩ (hq h4)
  · obtain ⟨c, o, w, h1, h2, h3, h4⟩ := b (.inr e)
    exact wpAny_loadName_free V.kind e h1 ⟨o, C.get h2.1, h3⟩ (hq h4) k2
theorem glb_kind {x : Str} (hk : glbOk env.scope x = true) : (x == ("__debug__" : Str)) = false ∧ env.kindOf x = some .globalImplicit := an hk fun h1 h => ⟨nt h1, in_kind h nofun nofun nofun fun _ e => e⟩
theorem glb_rule (O : BOK B mg mb) (V : EnvOK env) (S : St B env ρ s) {n : Nat} {x : Str} {p : Pos} {v : AV} (hl : look n B.P.glbs = some v) (hs : same n x = true) (hk : glbOk env.scope x = true) {Q : Value → Shared → Prop} (hq : ∀ w, VR B G0 [] v w → Q w s) : wpAny (model B.prog B.w) A (eval (.Name x p) env) Q E s := by
  obtain rfl := same_eq hs
  obtain ⟨k1, k2⟩ := glb_kind hk
  obtain ⟨m, C, _⟩ := S.R
  obtain ⟨w, e, h⟩ := O.glb n v hl
  exact Name_function_global V.kind k2 (loadGlobal_global (V.glob.symm ▸ O.g.keeps C.fr.keep) (mg_of O.X O.g e) (hq w h)) k1
theorem bi_name (O : BOK B mg mb) (V : EnvOK env) (S : St B env ρ s) {x : Str} {p : Pos} {v : Value} (hx : x ∈ biNames) (hv : bootBuiltins x = some v) (hn : x ≠ "__name__") (hk : glbOk env.scope x = true) {Q : Value → Shared → Prop} (hq : Q v s) : wpAny (model B.prog B.w) A (eval (.Name x p) env) Q E s := by
  obtain ⟨k1, k2⟩ := glb_kind hk
  obtain ⟨m, C, _⟩ := S.R
  exact Name_function_global V.kind k2 (loadGlobal_builtin (V.glob.symm ▸ O.g.keeps C.fr.keep) (ns_none_of O.X O.g (O.bns x hx)) (V.blt.symm ▸ O.b.keeps C.fr.keep) ((O.bi x hn).trans hv) hq) k1

theorem look_put_if {n k : Nat} {v : AV} : ∀ {ρ : Loc}, look k (put n v ρ) = match Nat.beq k n with | true => some v | false => look k ρ
  | [] => rfl
  | (m, w) :: ρ => by
    show look k (match Nat.beq n m with | true => (m, v) :: ρ | false => (m, w) :: put n v ρ) = match Nat.beq k n with | true => some v | false => match Nat.beq k m with | true => some w | false => look k ρ
    cases q : Nat.beq n m with
    | true =>
      obtain rfl := Nat.eq_of_beq_eq_true q
      show (match Nat.beq k n with | true => some v | false => look k ρ) = _
      cases Nat.beq k n <;> rfl
    | false =>
      show (match Nat.beq k m with | true => some w | false => look k (put n v ρ)) = _
      rw [look_put_if (ρ := ρ)]
      cases e : Nat.beq k m with
      | false => rfl
      | true =>
        obtain rfl := Nat.eq_of_beq_eq_true e
        cases e2 : Nat.beq k n with
        | false => rfl
        | true => exact nomatch (Nat.eq_of_beq_eq_true e2 ▸ Nat.beq_refl k : Nat.beq n k = true).symm.trans q
theorem in_put {n k : Nat} {v u : AV} {ρ : Loc} {Z : Prop} (h : look k (put n v ρ) = some u) (z1 : k = n → v = u → Z) (z2 : k ≠ n → look k ρ = some u → Z) : Z := by
  rw [look_put_if] at h
  cases q : Nat.beq k n with
  | true => rw [q] at h; exact z1 (Nat.eq_of_beq_eq_true q) (Option.some.inj h)
  | false => rw [q] at h; exact z2 (fun e => nomatch (e ▸ Nat.beq_refl k : Nat.beq k n = true).symm.trans q) h
theorem notClass (V : EnvOK env) : (env.scope.kind == .class || (env.scope.kind == .module && env.locals != env.globals)) = false := by rw [V.kind]; rfl
theorem Rel.setLocal {σ : Sto} {G : Gh} {θ : List Addr} (R : Rel B env ρ σ G θ s) {m : Str → Option Value} {h' : Heap} {tk : Nat} {n : Nat} {v : AV} {w : Value} (C : Core B env.locals σ G θ m s) (Nm : Names B G θ env ρ m) (hk : env.kindOf (nm n) = some .local) (hn : h'.Ns env.locals fun x => if x = nm n then some w else m x) (hs : Heap.SameBut env.locals s.heap h') (hv : VR B G θ v w) :
    Rel B env (put n v ρ) σ G θ { s with heap := h', toks := tk } :=
  ⟨_, C.lift rfl rfl (C.fr.set hn hs) (C.N.set hs) C.nd C.lo (fun _ _ h => h) fun _ _ _ h => h, fun k u hu h0 => in_put hu
    (fun e1 e2 => by
      subst e1 e2
      exact ⟨fun _ => ⟨w, if_pos rfl, hv⟩, fun e => by rw [hk] at e; rcases e with e | e <;> cases e⟩)
    fun ne hu => (Nm.vals k u hu h0).imp (fun a e => (a e).imp fun w' h => ⟨(if_neg fun e => ne (nm_inj e)).trans h.1, h.2⟩) id, Nm.cells⟩
theorem put_local (V : EnvOK env) (S : St B env ρ s) {n : Nat} {v : AV} {w : Value} (hk : env.kindOf (nm n) = some .local) (hv : S.V v w) {Q : Unit → Shared → Prop} (hq : ∀ s', Rel B env (put n v ρ) S.σ S.G S.θ s' → Q () s') : wpAny (model B.prog B.w) A (storeName env (nm n) w) Q E s := by
  obtain ⟨m, C, Nm⟩ := S.R
  exact wpAny_storeName_local hk C.fr.ns (fun h' hn hs => hq _ (S.R.setLocal C Nm hk hn hs hv)) (notClass V)
theorem put_cell (V : EnvOK env) (hfr : env.frame = some env.locals) (S : St B env ρ s) (le : S0.Le S) {n : Nat} {v : AV} {w : Value} (hk : env.kindOf (nm n) = some .cell) (hv : S.V v w) {K : Loc → Sto → Prop} (q : K (put n v ρ) S.σ) : wpAny (model B.prog B.w) A (storeName env (nm n) w) (Did S0 K) E s := by
  obtain ⟨m, C, Nm⟩ := S.R
  obtain ⟨c, hc⟩ := V.cel _ hk
  obtain ⟨o, v₀, h1, h3⟩ := Nm.cells _ _ hc
  have ht : lcTag env = .loc := if_pos hfr
  rw [ht] at h1
  refine wpAny_storeName_cell V.kind hk hc ⟨o, C.get h1.1, h3⟩ fun h' I hs => ?_
  obtain ⟨o', d1, d2⟩ := I
  have x0 : Ext0 S.G (S.G.upd c o') := upd_ext0 fun e => nomatch h1.2.symm.trans e
  have oth : ∀ {t : Tag} {a : Addr} {ob : Obj}, In S.G t a ob → t ≠ .loc → In (S.G.upd c o') t a ob := fun h e => upd_ne (ne_of h h1.2 e) h
  refine ⟨⟨S.σ, _, S.θ, m, C.lift rfl rfl (C.fr.change hs (C.N _ h1.1).2.1 (C.N _ h1.1).2.2) (C.N.replace hs d1) (upd_lo C o').1 (upd_lo C o').2 x0 fun _ _ _ h => oth h nofun, fun k u hu h0 => in_put hu (fun e1 e2 => ?_) fun ne hu => ?_, fun n' c' hn' => ?_⟩, ⟨le.x.trans (fun a ob ha ta => oth ⟨ha, rfl⟩ (fun e => nomatch (e ▸ ta : Tag.stays .loc = true))), le.p⟩, q⟩
  · subst e1 e2
    refine ⟨fun e => ?_, fun e => ⟨c, o', w, hc, ht ▸ upd_eq h1, d2, hv.ext0 x0 (.refl _)⟩⟩
    rw [hk] at e; cases e
  · refine (Nm.vals k u hu h0).imp (fun a e => (a e).imp fun w' h => ⟨h.1, h.2.ext0 x0 (.refl _)⟩) fun b e => ?_
    obtain ⟨c', ob, w', g1, g2, g3, g4⟩ := b e
    exact ⟨c', ob, w', g1, upd_ne (fun e' => ne (nm_inj (V.inj _ _ _ (e' ▸ g1) hc))) g2, g3, g4.ext0 x0 (.refl _)⟩
  · obtain ⟨ob, v1, g1, g3⟩ := Nm.cells n' c' hn'
    by_cases e : c' = c
    · subst e; exact ⟨o', some w, ht ▸ upd_eq h1, d2⟩
    · exact ⟨ob, v1, upd_ne e g1, g3⟩
theorem put_name (V : EnvOK env) (hfr : env.frame = some env.locals) (S : St B env ρ s) (le : S0.Le S) {k : Nat} {v : AV} {w : Value} (hk : locOk env.scope (nm k) = true) (hf : env.scope.names.lookup (nm k) ≠ some .free) (hv : S.V v w) {K : Loc → Sto → Prop} (q : K (put k v ρ) S.σ) : wpAny (model B.prog B.w) A (storeName env (nm k) w) (Did S0 K) E s :=
  in_loc hk fun _ _ _ h => in_kind h (fun _ e => put_local V S e hv fun s' R' => ⟨⟨_, _, _, R'⟩, ⟨le.x, le.p⟩, q⟩) (fun _ e => put_cell V hfr S le e hv q) (fun _ e => absurd e hf) nofun
end
end Mine
namespace Mine
open PySem PySem.W PyProof.Rows PySem.Calls PySem.SeqAt

inductive Back (B : Base) (L : Addr) (G : Gh) (θ : List Addr) (m : Str → Option Value) (Q : AV → Sto → Prop) : Result → Shared → Prop
  | mk {w : Value} {v : AV} {σ' : Sto} {G' : Gh} {θ' : List Addr} {s' : Shared} (x : ExtL G G') (p : Pre θ θ') (C : Core B L σ' G' θ' m s') (h : VR B G' θ' v w) (q : Q v σ') : Back B L G θ m Q (.ok (.ret w)) s'
structure CallsOK (B : Base) (C : KCalls Prop) (n : Nat) : Prop where
  run : ∀ {f : Nat} {args : List AV} {σ : Sto} {Q : AV → Sto → Prop}, C f args σ Q → ∀ {A : Around} {L : Addr} {G : Gh} {θ : List Addr} {m : Str → Option Value} {s : Shared} {a : Args} {full : List Value}, Room A n → Core B L σ G θ m s → VRs B G θ args full → Binds B f a full →
    codeAny (model B.prog B.w) A (.call (.ref (B.fn f)) a) (Back B L G θ m Q) s
  len : ∀ {f : Nat} {args : List AV} {σ : Sto} {Q : AV → Sto → Prop}, C f args σ Q → ∃ fn, fnAt B.P.fns f = some fn ∧ args.length = fn.params.length

structure FnFacts (B : Base) (f : Nat) (fn : Fn) (o : Obj) (fd : FuncData) (b : List Stmt) : Prop where
  look : B.K.lookup (B.fn f) = some o
  data : o.data = .func fd
  body : fd.body = .stmts b
  chk : chkSs B.P fn.body fd.scope b = true
  code : codeIn B.K fd.code fd.qualname = true
  glob : fd.globals = mainGlobals
  blt : fd.builtins = builtinsNs
  clo : fd.closure = []
  kind : fd.scope.kind = .function
  nco : fd.scope.isCoroutine = false
  ngen : fd.scope.isGenerator = false
  pos : fd.params.posonlyargs = []
  args : fd.params.args.map (·.arg) = fn.params.map nm
  va : fd.params.vararg = none
  ko : fd.params.kwonlyargs = []
  kw : fd.params.kwarg = none
  nd : fn.params.Nodup
  loc : ∀ n, n ∈ fn.params → fd.scope.names.lookup (nm n) = some .local ∨ fd.scope.names.lookup (nm n) = some .cell
  dfl : seqIn B.K fd.defaults = true
section
variable {B : Base} {mg mb : Str → Option Value} {env : Env} {ρ : Loc} {s s0 : Shared} {A : Around} {E : Value → Shared → Prop} {S0 : St B env ρ s0} {C : KCalls Prop} {n : Nat}
theorem fn_facts (O : BOK B mg mb) {f : Nat} {fn : Fn} (h : fnAt B.P.fns f = some fn) : ∃ o fd b, FnFacts B f fn o fd b := by
  have k := O.fn f fn h
  unfold chkFn at k
  have key : ∀ (x : Option Obj), onSome x (fun o => onFunc o.data (fdOk B.P B.K fn)) = true → ∃ o fd, x = some o ∧ o.data = .func fd ∧ fdOk B.P B.K fn fd = true := fun x k => inSome k fun o k => inFunc (Z := fun d => o.data = d → _) k (fun fd k e => ⟨o, fd, rfl, e, k⟩) rfl
  obtain ⟨o, fd, e1, e2, k⟩ := key _ k
  refine an k fun k0 k => an k fun k1 k => an k fun k2 k => an k fun k3 k => an k fun k4 k => an k fun k5 k => an k fun k6 k => an k fun k7 k => an k fun k8 k => an k fun k14 k15 => ?_
  have body : ∃ b, fd.body = .stmts b ∧ chkSs B.P fn.body fd.scope b = true := by
    generalize fd.body = y at k0
    cases y with
    | stmts b => exact ⟨b, rfl, k0⟩
    | _ => cases k0
  obtain ⟨b, e3, e4⟩ := body
  refine an k8 fun j1 k8 => an k8 fun j2 k8 => an k8 fun j3 k8 => an k8 fun j4 k8 => an k8 fun j5 j6 => ?_
  exact ⟨o, fd, b, e1, e2, e3, e4, k1, of_decide_eq_true k2, of_decide_eq_true k3, List.isEmpty_iff.mp k4, of_decide_eq_true k5, nt k6, nt k7, List.isEmpty_iff.mp j1, of_decide_eq_true j2, Option.isNone_iff_eq_none.mp j3, List.isEmpty_iff.mp j4, Option.isNone_iff_eq_none.mp j5, of_decide_eq_true j6,
    fun n hn => in_kind (List.all_eq_true.mp k14 n hn) (fun _ e => .inl e) (fun _ e => .inr e) nofun nofun, k15⟩
theorem names_nd {l : List Nat} (h : l.Nodup) : (l.map nm).Nodup := List.nodup_iff_pairwise_ne.mpr (List.pairwise_map.mpr ((List.nodup_iff_pairwise_ne.mp h).imp fun hne e => hne (nm_inj e)))
theorem binds_plain (O : BOK B mg mb) {f : Nat} {fn : Fn} {vs : List Value} (h : fnAt B.P.fns f = some fn) (hl : vs.length = fn.params.length) : Binds B f ⟨vs, []⟩ vs := fun fn' o' fd' A E Q s hf hk hd X hq => by
  obtain rfl := Option.some.inj (h.symm.trans hf)
  obtain ⟨o, fd, b, W⟩ := fn_facts O h
  obtain rfl := Option.some.inj (W.look.symm.trans hk)
  obtain rfl := Data.func.inj (W.data.symm.trans hd)
  refine bind_plain (ps := fn.params.map nm) W.pos W.args W.va W.ko W.kw (by rw [hl, List.length_map]) (names_nd W.nd) (fun Q hQ => ?_) hq
  have k := W.dfl
  generalize fd.defaults = d at k ⊢
  cases d with
  | none => exact wpAny_pure (hQ _)
  | ref a =>
    have key : ∀ (y : Option Obj), onSome y (fun o => match o.data with | .seq _ _ => true | _ => false) = true → ∃ o its n, y = some o ∧ o.data = .seq its n := fun y k => inSome k fun o k => by
      cases e : o.data with
      | seq its n => exact ⟨o, its, n, rfl, e⟩
      | _ => rw [e] at k; cases k
    obtain ⟨o, its, n, e1, e2⟩ := key _ k
    unfold seqItems?
    refine wpAny_bind (wpAny_load (X _ _ e1) ?_)
    rw [e2]
    exact wpAny_pure (hQ _)
  | _ => cases k

theorem call_rule (CO : CallsOK B C n) (hr : Room A n) (S : St B env ρ s) (le : S0.Le S) {f : Nat} {args : List AV} {full : List Value} {pos : List Value} {kw : List (Str × Value)} {Q : AV → Sto → Prop} (hC : C f args S.σ Q) (hv : S.Vs args full) (hb : Binds B f ⟨pos, kw⟩ full) : wpAny (model B.prog B.w) A (call (.ref (B.fn f)) pos kw) (Got S0 Q) E s := by
  obtain ⟨m, Co, Nm⟩ := S.R
  refine wpAny_call (codeAny_mono (CO.run hC hr Co hv hb) fun r s' h => ?_)
  cases h with
  | mk x p C' h q => exact ⟨⟨_, _, _, m, C', Nm.extL x p⟩, _, ⟨le.x.trans x.ext, le.p.trans p⟩, h, q⟩
theorem valsOf_rel : ∀ {ns : List Nat} {fs : List (Nat × AV)} {l : List AV}, valsOf ns fs = some l → fs.map (·.1) = ns ∧ fs.map (·.2) = l
  | [], [], _, h => ⟨rfl, Option.some.inj h⟩
  | [], _ :: _, _, h => nomatch h
  | _ :: _, [], _, h => nomatch h
  | n :: ns, (k, v) :: fs, l, h => by
    have h : (match Nat.beq n k with | true => (match valsOf ns fs with | some l => some (v :: l) | .none => .none) | false => .none) = some l := h
    cases q : Nat.beq n k with
    | false => rw [q] at h; cases h
    | true =>
      rw [q] at h
      cases e : valsOf ns fs with
      | none => rw [e] at h; cases h
      | some l' =>
        rw [e] at h
        obtain ⟨a, b⟩ := valsOf_rel e
        exact ⟨(congrArg (List.cons k) a).trans (congrArg (fun z => z :: ns) (Nat.eq_of_beq_eq_true q).symm), (congrArg (List.cons v) b).trans (Option.some.inj h)⟩
theorem in_inst1 {τ : Sto} {k : Nat → List (Nat × AV) → Prop} (h : inst1 τ k False) : ∃ d fs, τ = [.inst d fs] ∧ k d fs := match τ, h with
  | [.inst d fs], h => ⟨d, fs, rfl, h⟩
theorem is_N {v : AV} {k : Prop} (h : asN v k False) : v = .none ∧ k := in_N (Z := fun v => v = .none ∧ k) h fun h => ⟨rfl, h⟩
theorem under_room {m : Nat} {v : Addr} {pos : List Value} {kw : List (Str × Value)} (hr : Room A (m + 1)) : Room (A.under (.builtin "type.__call__" ⟨.ref v :: pos, kw⟩)) m := ⟨hr.hh, by show A.depth + 1 + _ ≤ _; have := hr.depth; omega, by show A.units + 1 + _ + _ ≤ _; have := hr.units; omega⟩
theorem make_rule (O : BOK B mg mb) (CO : CallsOK B C n) (hr : Room A (n + 1)) (S : St B env ρ s) (le : S0.Le S) {c : Nat} {args : List AV} {full : List Value} {pos : List Value} {kw : List (Str × Value)} (hc : IsCls B c) {Q : AV → Sto → Prop} (hC : makeK B.P C False c args S.σ Q)
    (hv : S.Vs args full) (hb : ∀ x, Binds B (B.P.inix c) ⟨.ref x :: pos, kw⟩ (.ref x :: full)) : wpAny (model B.prog B.w) A (call (.ref (B.cls c)) pos kw) (Got S0 Q) E s := by
  obtain ⟨σ, G, θ, m, Co, Nm⟩ := S
  have K := O.cls c hc
  have XK := O.X.keeps Co.fr.keep
  obtain ⟨hp, gn, dr, tk, os⟩ := s
  obtain ⟨dx, hdx0⟩ : ∃ dx, dx = hp.objs.size := ⟨_, rfl⟩
  obtain ⟨x, hx0⟩ : ∃ x, x = hp.objs.size + 1 := ⟨_, rfl⟩
  obtain ⟨h', hh'⟩ : ∃ h', h' = (hp.push emptyDict).push (instObj (B.cls c) hp.objs.size) := ⟨_, rfl⟩
  refine wpAny_call (make_core (makes_of XK K.mks) (looks_findIn XK K.ini) (fun self => bind_fn XK self K.iniF) (.inl rfl) ?_)
  rw [← hh', ← hx0]
  have F' : Fr B.h₀ env.locals h' m := hh' ▸ (Co.fr.push _).push _
  have N' : News B.h₀ env.locals h' ((x, instObj (B.cls c) dx) :: (dx, emptyDict) :: G.L) := by
    have := (Co.N.push Co.fr emptyDict).push (Co.fr.push _) (instObj (B.cls c) hp.objs.size)
    rw [Heap.size_push] at this
    rw [hx0, hdx0, hh']; exact this
  have l1 : ∀ q ∈ G.L, q.1 ≠ dx := hdx0 ▸ Co.fresh
  have l2 : dx < x := hdx0 ▸ hx0 ▸ Nat.lt_succ_self _
  have lo1 : B.h₀.objs.size ≤ dx := hdx0 ▸ Co.sizeLe
  have l3 : ∀ q ∈ G.L, q.1 ≠ x := fun q hq => Nat.ne_of_lt (Nat.lt_trans (hdx0 ▸ Co.lt (a := q.1) (o := q.2) hq) l2)
  have hr' := under_room (v := B.cls c) (pos := pos) (kw := kw) hr
  have room : ∀ {σ : Sto} {Γ : Gh} {θ : List Addr} (t : Tag), Γ.L = G.L → Core B env.locals σ Γ θ m ⟨hp, gn, dr, tk, os⟩ → Core B env.locals σ ((Γ.push dx emptyDict t).push x (instObj (B.cls c) dx) .fix) θ m ⟨h', gn, dr, tk, os⟩ ∧ ExtL Γ ((Γ.push dx emptyDict t).push x (instObj (B.cls c) dx) .fix) ∧ In ((Γ.push dx emptyDict t).push x (instObj (B.cls c) dx) .fix) t dx emptyDict := fun {σ Γ θ} t e C => by
    have d1 : ∀ q ∈ Γ.L, q.1 ≠ dx := e.symm ▸ l1
    have d2 : ∀ q ∈ (Γ.push dx emptyDict t).L, q.1 ≠ x := fun q hq => (List.mem_cons.mp hq).elim (fun e => e ▸ Nat.ne_of_lt l2) fun hq => l3 q (e ▸ hq)
    exact ⟨((C.add (tk := tk) t d1 lo1 F' (e.symm ▸ N'.tail')).add (tk := tk) .fix d2 (Nat.le_trans lo1 (Nat.le_of_lt l2)) F' (by show News _ _ _ (_ :: (dx, emptyDict) :: Γ.L); exact e.symm ▸ N')), (pushL d1).trans (pushL d2), push_old (Nat.ne_of_lt l2) push_new⟩
  have empty : ∀ {Γ : Gh} {θ : List Addr} {i : Nat}, In Γ .fix x (instObj (B.cls c) dx) → In Γ (.cell i) dx emptyDict → CR B Γ θ i x (.inst c []) := fun h1 h2 => .inst hc nofun h1 h2 ⟨rfl, .nil⟩
  have hC : br (B.P.frozen c) _ _ := hC
  cases hf : B.P.frozen c with
  | false =>
    rw [hf] at hC
    have hC : C (B.P.inix c) (.loc σ.length :: args) (σ ++ [.inst c []]) fun u σ' => asN u (onC (cell σ' σ.length) (fun _ _ => Q (.loc σ.length) σ') (fun _ => False) (fun _ => False) (fun _ => False) False) False := hC
    obtain ⟨C2, x2, hdx⟩ := room (.cell σ.length) rfl Co
    have C3 := C2.grow (a := x) (empty push_new hdx)
    have hl := new_at Co x
    refine codeAny_mono (CO.run hC hr' C3 (.cons (.loc hl) (hv.ext x2.ext (.app _ _))) (hb x)) fun r s' h => ?_
    cases h with
    | mk y p Co' h q =>
      obtain ⟨rfl, q⟩ := is_N q
      obtain rfl : _ = Value.none := h
      refine in_onC q (fun _ _ _ q => ?_) (fun _ _ => nofun) (fun _ _ => nofun) (fun _ _ => nofun)
      exact ⟨rfl, ⟨_, _, _, m, Co', Nm.extL (x2.trans y) ((Pre.app _ _).trans p)⟩, _, ⟨le.x.trans (x2.trans y).ext, le.p.trans ((Pre.app _ _).trans p)⟩, .loc (p _ _ hl), q⟩
  | true =>
    rw [hf] at hC
    refine in_br hC fun e0 hC => ?_
    obtain ⟨C2, xh, hdx⟩ := room (Γ := G.hide) (.cell 0) rfl Co.hide
    have C3 := C2.grow (a := x) (empty push_new hdx)
    have hargs : VRs B _ [x] args full := VRs.free e0 (hv.ext0 (fun a o h => xh.ext.fix (hide_in h rfl)) (.refl _))
    refine codeAny_mono (CO.run (f := B.P.inix c) (σ := [.inst c []]) hC hr' C3 (.cons (.loc rfl) hargs) (hb x)) fun r s' h => ?_
    cases h with
    | mk y p Co' h q =>
      obtain ⟨rfl, q⟩ := is_N q
      obtain rfl : _ = Value.none := h
      obtain ⟨d, fs, rfl, q⟩ := in_inst1 q
      refine in_br q fun q1 q => in_opt q fun l q2 q => in_br q fun q3 qq => ?_
      obtain rfl := Nat.eq_of_beq_eq_true q1
      have fx : ∀ b, (b == dx) = true → hasK G.L b = false := fun b hb => Bool.eq_false_iff.mpr fun k => by
        obtain ⟨o, k⟩ := hasK_iff.mp k
        exact l1 _ k (eq_of_beq hb)
      obtain ⟨z1, z2, z3⟩ := Co.unhide (fx := fun b => b == dx) fx Co' (xh.trans y)
      obtain ⟨ax, hax, hcr⟩ := Co'.cs 0 _ rfl
      obtain rfl := Option.some.inj (hax.symm.trans (p 0 x rfl))
      obtain ⟨y1, y2, dy, es, k, g1, g3, g5⟩ := hcr
      obtain rfl := Option.some.inj (congrArg Obj.dict (Co'.uniq g1.1 (y.ext.fix push_new).1))
      obtain ⟨v1, v2⟩ := valsOf_rel q2
      refine ⟨rfl, ⟨σ, _, θ, m, z1, Nm.extL z2 (.refl _)⟩, _, ⟨le.x.trans z2.ext, le.p⟩, .rcd hc (.inr (z3 _ _ g1)) (.inr ⟨g3.1, if_pos (beq_self_eq_true _)⟩) (v1 ▸ g5.1) ?_, qq⟩
      exact VRs.free (l := l) q3 (v2 ▸ VRs.ext0 z3 (.refl _) g5.2)
end
end Mine
namespace Mine
open PySem PySem.W PyProof.Rows PySem.Calls PySem.SeqAt

noncomputable def trees (env : Env) (xs : List Expr) : List (Bool × Sem Value) := xs.map fun x => (false, eval x env)
section
variable {B : Base} {env : Env} {ρ : Loc} {s s0 : Shared} {A : Around}
structure Both (A : Around) (S : St B env ρ s) (Q : AV → Sto → Prop) (x : Expr) : Prop where
  e : Wp B A (eval x env) (Got S Q) s
  t : ∀ {K : Bool → Sto → Prop}, (∀ v σ, Q v σ → asB v (fun c => K c σ) False) → Wp B A (isTrue x env (eval x env)) (Tru S K) s
end
noncomputable abbrev Snd (B : Base) (env : Env) (A : Around) (f : Sm Prop) (x : Expr) : Prop := ∀ (ρ : Loc) (s : Shared) (S : St B env ρ s) (Q : AV → Sto → Prop), f ρ S.σ Q → Both A S Q x
structure SndL (B : Base) (env : Env) (A : Around) (fs : List (Sm Prop)) (xs : List Expr) : Prop where
  st : starEach xs env = trees env xs
  nl : xs.isEmpty = true → fs = []
  ev : ∀ (ρ : Loc) (s : Shared) (S : St B env ρ s) (Q : List AV → Sto → Prop), evsK fs ρ S.σ Q → Wp B A (spliced (trees env xs)) (GotL S xs.length Q) s
  aE : ∀ (ρ : Loc) (s : Shared) (S : St B env ρ s) (Q : AV → Sto → Prop) (p : Pos), evAndK False fs ρ S.σ Q → xs.isEmpty = false → Wp B A (eval (.BoolOp .And xs p) env) (Got S Q) s
  aT : ∀ (ρ : Loc) (s : Shared) (S : St B env ρ s) (Q : AV → Sto → Prop) (p : Pos) (whole : Sem Value) {K : Bool → Sto → Prop}, evAndK False fs ρ S.σ Q → (∀ v σ, Q v σ → asB v (fun c => K c σ) False) → Wp B A (isTrue (.BoolOp .And xs p) env whole) (Tru S K) s
  oE : ∀ (ρ : Loc) (s : Shared) (S : St B env ρ s) (Q : AV → Sto → Prop) (p : Pos), evOrK False fs ρ S.σ Q → xs.isEmpty = false → Wp B A (eval (.BoolOp .Or xs p) env) (Got S Q) s
  oT : ∀ (ρ : Loc) (s : Shared) (S : St B env ρ s) (Q : AV → Sto → Prop) (p : Pos) (whole : Sem Value) {K : Bool → Sto → Prop}, evOrK False fs ρ S.σ Q → (∀ v σ, Q v σ → asB v (fun c => K c σ) False) → Wp B A (isTrue (.BoolOp .Or xs p) env whole) (Tru S K) s
noncomputable abbrev COK (B : Base) (n : Nat) (c : CK) (f : Sm Prop) : Prop := ∀ (env : Env) (A : Around), EnvOK env → Room A (n + 1) → ∀ x, c env.scope x = true → Snd B env A f x
noncomputable abbrev COKs (B : Base) (n : Nat) (c : CKs) (fs : List (Sm Prop)) : Prop := ∀ (env : Env) (A : Around), EnvOK env → Room A (n + 1) → ∀ xs, c env.scope xs = true → SndL B env A fs xs
structure Hyp (B : Base) (mg mb : Str → Option Value) (C : KCalls Prop) (n : Nat) : Prop where
  O : BOK B mg mb
  CO : CallsOK B C n

section
variable {B : Base} {mg mb : Str → Option Value} {env : Env} {ρ : Loc} {s s0 : Shared} {A : Around} {C : KCalls Prop} {n : Nat} {S0 : St B env ρ s0} {G : Gh} {θ : List Addr}
section
variable {S : St B env ρ s} {v : AV} {w : Value} {Z : Value → Prop}
@[elab_as_elim] theorem isB {k : Bool → Prop} (hv : VR B G θ v w) (q : asB v k False) (z : ∀ b, k b → Z (.bool b)) : Z w := in_B (Z := fun v => VR B G θ v w → Z w) q (fun b q hv => VR.boolE (Z := Z) hv (z b q)) hv
@[elab_as_elim] theorem isI {k : Int → Prop} (hv : VR B G θ v w) (q : asI v k False) (z : ∀ b t, k b → Z (.int b t)) : Z w := in_I (Z := fun v => VR B G θ v w → Z w) q (fun b q hv => VR.intE (Z := Z) hv fun t => z b t q) hv
end
theorem Both.le {S : St B env ρ s} {Q : AV → Sto → Prop} {x : Expr} (h : Both A S Q x) (le : S0.Le S) : Wp B A (eval x env) (Got S0 Q) s := then_ h.e fun S' _ l hv q => ⟨S', _, le.trans l, hv, q⟩
theorem Both.leT {S : St B env ρ s} {Q : AV → Sto → Prop} {x : Expr} {K : Bool → Sto → Prop} (h : Both A S Q x) (le : S0.Le S) (k : ∀ v σ, Q v σ → asB v (fun c => K c σ) False) : Wp B A (isTrue x env (eval x env)) (Tru S0 K) s := thenT (h.t k) fun S' l q => ⟨S', le.trans l, q⟩
theorem Got.tru {S : St B env ρ s} {Q : AV → Sto → Prop} {K : Bool → Sto → Prop} {w : Value} {s' : Shared} (k : ∀ v σ, Q v σ → asB v (fun c => K c σ) False) : Got S Q w s' → wpAny (model B.prog B.w) A (truthy w) (Tru S K) NoE s' := fun ⟨S', v, le, hv, q⟩ => isB hv (k _ _ q) fun b q => wpAny_truthy_bool ⟨S', le, q⟩
theorem Both.of {S : St B env ρ s} {Q : AV → Sto → Prop} {x : Expr} (h : Wp B A (eval x env) (Got S Q) s) (he : PySem.isTrue x env (eval x env) = (do let v ← eval x env; standAt x.pos; holding [v] (truthy v)) := by rfl) : Both A S Q x :=
  ⟨h, fun k => isTrue_plain (wpAny_mono h (fun _ _ g => g.tru k) fun _ _ q => q) he⟩
theorem St.Le.tok {S : St B env ρ s} (le : S0.Le S) (t : Nat) : S0.Le (S.tok t) := ⟨le.x, le.p⟩
theorem con_val {v : AV} {c : Const} {kd p} {E : Value → Shared → Prop} {Q : Value → Shared → Prop} (hc : conOk v c = true) (h : ∀ w tk, VR B G θ v w → Q w { s with toks := tk }) : wpAny (model B.prog B.w) A (eval (.Constant c kd p) env) Q E s := by
  cases v with
  | none => exact inCN (Z := fun c => wpAny (model B.prog B.w) A (eval (.Constant c kd p) env) Q E s) hc (wpAny_Constant_none (h _ s.toks .none))
  | bool b => exact inCB (Z := fun c => wpAny (model B.prog B.w) A (eval (.Constant c kd p) env) Q E s) hc fun d hc => eq_of_beq hc ▸ wpAny_Constant_bool (h _ s.toks (.bool _))
  | int b => exact inCI (Z := fun c => wpAny (model B.prog B.w) A (eval (.Constant c kd p) env) Q E s) hc fun d hc => of_decide_eq_true hc ▸ wpAny_Constant_int (h _ _ (.int _ _))
  | str b => exact inCS (Z := fun c => wpAny (model B.prog B.w) A (eval (.Constant c kd p) env) Q E s) hc fun d hc => (same_eq hc).symm ▸ wpAny_Constant_str (h _ _ (.str _ _))
  | _ => exact ab hc
theorem e_con {v : AV} : COK B n (cCon v) (kCon v) := fun env A V hr x (hc : onConst x (conOk v) = true) => inConst hc fun c kd p hc ρ s S Q h => .of (con_val hc fun w tk hw => ⟨S.tok tk, v, S.le.tok _, hw, h⟩)
theorem e_nam {b : Nat} : COK B n (cNam b) (kNam False b) := fun env A V hr x (hc : onName x (fun y => same b y && locOk env.scope y) = true) => inName hc fun y p hc ρ s S Q h => an hc fun c1 c2 => .of (nam_rule V S S.le c1 c2 h)
theorem e_glb (H : Hyp B mg mb C n) {b : Nat} : COK B n (cGlb b) (kGlb B.P False b) := fun env A V hr x (hc : onName x (fun y => same b y && glbOk env.scope y) = true) => inName hc fun y p hc ρ s S Q h => an hc fun c1 c2 => in_opt h fun v hl q => .of (glb_rule H.O V S hl c1 c2 fun w hw => ⟨S, v, S.le, hw.zero, q⟩)
theorem e_not {c : CK} {f : Sm Prop} (ha : COK B n c f) : COK B n (cUn .Not c) (kNot False f) := fun env A V hr x (hc : onUn x (fun op y => decide (op = .Not) && c env.scope y) = true) => inUn hc fun o y p hc ρ s S Q h => an hc fun c1 c2 => by
  obtain rfl := of_decide_eq_true c1
  have z := ha env A V hr y c2 ρ s S _ h
  exact ⟨UnaryOp_ (then_ z.e fun S1 _ le hv q => isB hv q fun b q => not_of (wpAny_truthy_bool ⟨S1, _, le, .bool _, q⟩)),
    fun {K} k => isTrue_not (thenT (z.t (K := fun c σ => K (!c) σ) fun v σ q => in_B q fun b q => k _ _ q) fun S' le q => ⟨S', le, q⟩)⟩
theorem e_neg {c : CK} {f : Sm Prop} (ha : COK B n c f) : COK B n (cUn .USub c) (kNeg False f) := fun env A V hr x (hc : onUn x (fun op y => decide (op = .USub) && c env.scope y) = true) => inUn hc fun o y p hc ρ s S Q h => an hc fun c1 c2 => by
  obtain rfl := of_decide_eq_true c1
  exact .of (UnaryOp_ (then_ (ha env A V hr y c2 ρ s S _ h).e fun S1 _ le hv q => isI hv q fun b t q => PyProof.Rows.neg_int ⟨S1.tok _, _, le.tok _, .int _ _, q⟩))
theorem e_cmp (H : Hyp B mg mb C n) {o : Op} {c d : CK} {f g : Sm Prop} (ha : COK B n c f) (hb : COK B n d g) : COK B n (cCmp o c d) (kCmp False o f g) := fun env A V hr x (hc : onCmp x (fun l os rs => on1 os fun op => on1 rs fun r => decide (op = opOf o) && (!behindInMarks op r && (c env.scope l && d env.scope r))) = true) => inCmp hc fun l os rs p hc => in1 hc fun op hc => in1 hc fun r hc ρ s S Q h => an hc fun c1 hc => an hc fun c2 hc => an hc fun c3 c4 => by
  obtain rfl := of_decide_eq_true c1
  have key : ∀ {R : Value → Shared → Prop}, (∀ {z s'}, Got S Q z s' → R z s') → wpAny (model B.prog B.w) A (eval l env) (fun a s₁ => wpAny (model B.prog B.w) A (eval r env) (fun b s₂ => wpAny (model B.prog B.w) A (compareOp (opOf o) a b) R NoE s₂) NoE s₁) NoE s := fun hR =>
    then_ (ha env A V hr l c3 ρ s S _ h).e fun S1 _ le hv q => then_ (hb env A V hr r c4 ρ _ S1 _ q).e fun S2 _ le2 hw q => cmp_rule H.O S2 hr.u (le2.v hv) hw q fun R' q => hR ⟨⟨_, _, _, R'⟩, _, ⟨(le.trans le2).x, (le.trans le2).p⟩, .bool _, q⟩
  exact ⟨wpAny_Compare1 (key fun g => g) (nt c2), fun k => wpAny_isTrue_Compare1 (key fun g => g.tru k) (nt c2)⟩
theorem br_if {c : Bool} {X Y X' Y' : Prop} (q : br c X Y) (f : X → X') (g : Y → Y') : if c = true then X' else Y' := by cases c; exact g q; exact f q
theorem e_ite {c d e : CK} {f g h : Sm Prop} (hc : COK B n c f) (ha : COK B n d g) (hb : COK B n e h) : COK B n (cIte c d e) (kIte False f g h) := fun env A V hr x (hx : onIte x (fun u y z => c env.scope u && (d env.scope y && e env.scope z)) = true) => inIte hx fun u y z p hx ρ s S Q q => an hx fun c1 hx => an hx fun c2 c3 => by
  have t := (hc env A V hr u c1 ρ s S _ q).t (K := fun c σ₁ => br c (g ρ σ₁ Q) (h ρ σ₁ Q)) fun v σ q => q
  exact ⟨IfExp_ (thenT t fun S' le q => br_if q (fun q => (ha env A V hr y c2 ρ _ S' _ q).le le) fun q => (hb env A V hr z c3 ρ _ S' _ q).le le),
    fun k => isTrue_IfExp (thenT t fun S' le q => br_if q (fun q => (ha env A V hr y c2 ρ _ S' _ q).leT le k) fun q => (hb env A V hr z c3 ρ _ S' _ q).leT le k)⟩
theorem e_bin {o : Bop} {c d : CK} {f g : Sm Prop} (ha : COK B n c f) (hb : COK B n d g) : COK B n (cBin o c d) (kBin False o f g) := fun env A V hr x (hc : onBin x (fun l op r => decide (op = bopOf o) && (c env.scope l && d env.scope r)) = true) => inBin hc fun l op r p hc ρ s S Q h => an hc fun c1 hc => an hc fun c2 c3 => by
  obtain rfl := of_decide_eq_true c1
  exact .of (wpAny_BinOp (then_ (ha env A V hr l c2 ρ s S _ h).e fun S1 _ le hv q => isI hv q fun i t q => then_ (hb env A V hr r c3 ρ _ S1 _ q).e fun S2 _ le2 hw q => isI hw q fun j u q => bin_rule q fun q => ⟨S2.tok _, _, (le.trans le2).tok _, .int _ _, q⟩))
theorem base_plain {o : Expr} {name : Str} (h : notSuper o = true) {whole : Sem Value} : attributeBase o name env whole = whole := by
  unfold attributeBase
  split
  · cases h
  · rfl
theorem e_att (H : Hyp B mg mb C n) {k : Nat} {c : CK} {f : Sm Prop} (ha : COK B n c f) : COK B n (cAtt k c) (kAtt B.P False f k) := fun env A V hr x (hc : onAttr x (fun v y _ => same k y && (notSuper v && c env.scope v)) = true) => inAttr hc fun y nmx p hc ρ s S Q h => an hc fun c1 hc => an hc fun c2 c3 => by
  obtain rfl := same_eq c1
  exact .of (Attribute_any_ (then_ (ha env A V hr y c3 ρ s S _ h).e fun S1 _ le hv q => att_rule H.O S1 le hv q) (by rw [arm_eval_Attribute, base_plain c2]))
theorem e_sub (H : Hyp B mg mb C n) {c d : CK} {f g : Sm Prop} (ha : COK B n c f) (hb : COK B n d g) : COK B n (cSub c d) (kSub False f g) := fun env A V hr x (hc : onSub x (fun v k => notSlice k && (c env.scope v && d env.scope k)) = true) => inSub hc fun y k p hc ρ s S Q h => an hc fun c1 hc => an hc fun c2 c3 =>
  .of (Subscript_ (then_ (ha env A V hr y c2 ρ s S _ h).e fun S1 _ le hv q => then_ (hb env A V hr k c3 ρ _ S1 _ q).e fun S2 _ le2 hi q => sub_rule H.O S2 (le.trans le2) c1 (le2.v hv) hi q))
theorem e_slc {lo : Nat} {hi : Option Nat} {c : CK} {f : Sm Prop} (ha : COK B n c f) : COK B n (cSlc lo hi c) (kSlc False f lo hi) := fun env A V hr x (hc : onSub x (fun v k => c env.scope v && onSlice k fun l u st => st.isNone && sliceX lo hi l u) = true) => inSub hc fun y k p hc => an hc fun c1 hc => inSlice hc fun l u st p' hc => an hc fun c2 c3 => inNone c2 fun ρ s S Q h =>
  .of (Subscript_ (then_ (ha env A V hr y c1 ρ s S _ h).e fun S1 _ le hv q => in_T (Z := fun v => S1.V v _ → _) q (fun b q hv => slc_rule S1 le hv c3 q) hv))
end
end Mine
namespace Mine
open PySem PySem.W PyProof.Rows PySem.Calls PySem.SeqAt

section
variable {B : Base} {mg mb : Str → Option Value} {env : Env} {ρ : Loc} {s s0 : Shared} {A : Around} {C : KCalls Prop} {n : Nat} {S0 : St B env ρ s0} {G : Gh} {θ : List Addr}
theorem star_cons {x : Expr} {xs : List Expr} (h : notStar x = true) : starEach (x :: xs) env = (false, eval x env) :: starEach xs env := by
  cases x with
  | Starred a p => cases h
  | _ => rfl
theorem back_trees (p : Pos) (xs : List Expr) : backTo p (trees env xs) = trees env xs := by
  unfold backTo trees
  rw [List.map_map]
  exact List.map_congr_left fun x _ => rfl
theorem trees_plain : ∀ (xs : List Expr), (trees env xs).any (·.1) = false
  | [] => rfl
  | x :: xs => (Bool.false_or _).trans (trees_plain xs)
theorem SndL.back {fs : List (Sm Prop)} {xs : List Expr} (h : SndL B env A fs xs) (p : Pos) : backTo p (starEach xs env) = trees env xs := h.st.symm ▸ back_trees p xs
theorem es_nil : COKs B n cNil [] := fun env A V hr xs hc => inNil hc ⟨rfl, fun _ => rfl, fun ρ s S Q h => spliced_nil ⟨S, [], S.le, .nil, rfl, h⟩, fun _ _ _ _ _ _ => nofun, fun ρ s S Q p w K h k => isTrue_and_nil ⟨S, S.le, k _ _ h⟩, fun _ _ _ _ _ _ => nofun, fun ρ s S Q p w K h k => isTrue_or_nil ⟨S, S.le, k _ _ h⟩⟩
theorem Got.le {S : St B env ρ s} {Q : AV → Sto → Prop} {w : Value} {s' : Shared} (le : S0.Le S) : Got S Q w s' → Got S0 Q w s' := fun ⟨S', v, l, hv, q⟩ => ⟨S', v, le.trans l, hv, q⟩
theorem Tru.le {S : St B env ρ s} {K : Bool → Sto → Prop} {w : Bool} {s' : Shared} (le : S0.Le S) : Tru S K w s' → Tru S0 K w s' := fun ⟨S', l, q⟩ => ⟨S', le.trans l, q⟩
theorem es_cons {c : CK} {f : Sm Prop} {d : CKs} {fs : List (Sm Prop)} (ha : COK B n c f) (hs : COKs B n d fs) : COKs B n (cCons c d) (f :: fs) := fun env A V hr xs (hc : onCons xs (fun x r => notStar x && (c env.scope x && d env.scope r)) = true) => inCons hc fun x r hc => an hc fun c1 hc => an hc fun c2 c3 => by
  have hx := ha env A V hr x c2
  have hr := hs env A V hr r c3
  refine ⟨(star_cons c1).trans (congrArg _ hr.st), nofun, fun ρ s S Q h => spliced_cons (then_ (hx ρ s S _ h).e fun S1 _ le hv q => thenL (hr.ev ρ _ S1 _ q) fun S2 _ le2 hvs hl q => ⟨S2, _, le.trans le2, .cons (le2.v hv) hvs, congrArg (· + 1) hl, q⟩), fun ρ s S Q p h _ => ?_, fun ρ s S Q p w K h k => isTrue_and ?_, fun ρ s S Q p h _ => ?_, fun ρ s S Q p w K h k => isTrue_or ?_⟩
  · have hx := (hx ρ s S _ h).e
    cases r with
    | nil =>
      obtain rfl := hr.nl rfl
      refine BoolOp_one (then_ hx fun S1 _ le hv q => isB hv q fun b q => ⟨S1, .bool b, le, .bool _, ?_⟩)
      cases b with
      | false => exact q
      | true => exact q
    | cons y ys =>
      refine BoolOp_and (then_ hx fun S1 _ le hv q => isB hv q fun b q => wpAny_truthy_bool ?_)
      cases b with
      | false => exact ⟨S1, _, le, .bool _, q⟩
      | true => exact wpAny_mono (hr.aE ρ _ S1 _ p q rfl) (fun _ _ g => g.le le) fun _ _ q => q
  · exact thenT ((hx ρ s S _ h).t (K := fun b σ₁ => br b (evAndK False fs ρ σ₁ Q) (Q (.bool false) σ₁)) fun v σ q => q) fun {c s'} S1 le q => by
      cases c with
      | false => exact ⟨S1, le, k _ _ q⟩
      | true => exact wpAny_mono (hr.aT ρ _ S1 Q p w q k) (fun _ _ g => g.le le) fun _ _ q => q
  · have hx := (hx ρ s S _ h).e
    cases r with
    | nil =>
      obtain rfl := hr.nl rfl
      refine BoolOp_one (then_ hx fun S1 _ le hv q => isB hv q fun b q => ⟨S1, .bool b, le, .bool _, ?_⟩)
      cases b with
      | false => exact q
      | true => exact q
    | cons y ys =>
      refine BoolOp_or (then_ hx fun S1 _ le hv q => isB hv q fun b q => wpAny_truthy_bool ?_)
      cases b with
      | true => exact ⟨S1, _, le, .bool _, q⟩
      | false => exact wpAny_mono (hr.oE ρ _ S1 _ p q rfl) (fun _ _ g => g.le le) fun _ _ q => q
  · exact thenT ((hx ρ s S _ h).t (K := fun b σ₁ => br b (Q (.bool true) σ₁) (evOrK False fs ρ σ₁ Q)) fun v σ q => q) fun {c s'} S1 le q => by
      cases c with
      | true => exact ⟨S1, le, k _ _ q⟩
      | false => exact wpAny_mono (hr.oT ρ _ S1 Q p w q k) (fun _ _ g => g.le le) fun _ _ q => q
theorem e_and {c : CKs} {fs : List (Sm Prop)} (hs : COKs B n c fs) : COK B n (cBool .And c) (evAndK False fs) := fun env A V hr x (hc : onBool x (fun op xs => decide (op = .And) && (!xs.isEmpty && c env.scope xs)) = true) => inBool hc fun o xs p hc ρ s S Q h => an hc fun c1 hc => an hc fun c2 c3 => by
  obtain rfl := of_decide_eq_true c1
  exact ⟨(hs env A V hr xs c3).aE ρ s S Q p h (nt c2), (hs env A V hr xs c3).aT ρ s S Q p _ h⟩
theorem e_or {c : CKs} {fs : List (Sm Prop)} (hs : COKs B n c fs) : COK B n (cBool .Or c) (evOrK False fs) := fun env A V hr x (hc : onBool x (fun op xs => decide (op = .Or) && (!xs.isEmpty && c env.scope xs)) = true) => inBool hc fun o xs p hc ρ s S Q h => an hc fun c1 hc => an hc fun c2 c3 => by
  obtain rfl := of_decide_eq_true c1
  exact ⟨(hs env A V hr xs c3).oE ρ s S Q p h (nt c2), (hs env A V hr xs c3).oT ρ s S Q p _ h⟩
theorem few {a b : Nat} (h : Nat.blt b 1000 = true) (e : a = b) : a ≤ sizeLine := e ▸ Nat.le_trans (Nat.le_of_ble_eq_true h) (by show 1000 ≤ 2 ^ 24 + 1; decide) |> Nat.le_of_succ_le_succ
theorem e_tup {c : CKs} {fs : List (Sm Prop)} (hs : COKs B n c fs) : COK B n (cTup c) (kTup fs) := fun env A V hr x (hc : onTup x (fun xs => Nat.blt xs.length 1000 && c env.scope xs) = true) => inTup hc fun xs u p hc ρ s S Q h => an hc fun c1 c2 => by
  have z := hs env A V hr xs c2
  refine .of (Tuple_ ?_)
  rw [z.back]
  exact thenL (z.ev ρ s S _ h) fun S1 _ le hv hl q => tup_rule S1 le hv (few c1 hl) q
theorem e_lst {fz : Bool} {c : CKs} {fs : List (Sm Prop)} (hs : COKs B n c fs) : COK B n (cLst c) (kLst fz fs) := fun env A V hr x (hc : onList x (fun xs => Nat.blt xs.length 1000 && c env.scope xs) = true) => inList hc fun xs p hc ρ s S Q h => an hc fun c1 c2 => by
  have z := hs env A V hr xs c2
  refine .of (List_ ?_)
  rw [z.back]
  exact thenL (z.ev ρ s S _ h) fun S1 _ le hv hl q => lst_rule S1 le hv (few c1 hl) q
theorem e_snk : COK B n cSnk kSnk := fun env A V hr x (hc : onList x List.isEmpty = true) => inList hc fun xs p hc => inNil hc fun ρ s S Q h => .of (List_ (spliced_nil (snk_rule S S.le h)))

theorem args_then (O : BOK B mg mb) {xs : List Expr} {fs : List (Sm Prop)} (hs : SndL B env A fs xs) {f : Value} {first : List Value} {pos : Pos} (S : St B env ρ s) (hk : keepIn B.K f = true) {Q : List AV → Sto → Prop} (h : evsK fs ρ S.σ Q) {K : Value → Shared → Prop}
    (k : ∀ {ws s'} (S' : St B env ρ s') {l}, S.Le S' → S'.Vs l ws → ws.length = xs.length → Q l S'.σ → wpAny (model B.prog B.w) A (call f (first ++ ws) []) K NoE s') : Wp B A (callWith pos f first (trees env xs) []) K s := by
  refine callWith_of (P := fun h => B.K.In h) ((Bool.or_false _).trans (trees_plain xs)) (keeps_K hk) ?_
  cases xs with
  | nil =>
    obtain rfl := hs.nl rfl
    exact evalArgs_nil3 ⟨S.inK O, k S S.le .nil rfl h⟩
  | cons x xs => exact evalArgs_plain (thenL (hs.ev ρ s S _ h) fun S1 _ le hv hl q => ⟨S1.inK O, k S1 le hv hl q⟩)
theorem Room.d {n : Nat} (hr : Room A (n + 1)) : Room A n := ⟨hr.hh, Nat.le_trans (by omega) hr.depth, Nat.le_trans (by omega) hr.units⟩
theorem fn_run (H : Hyp B mg mb C n) (hr : Room A (n + 1)) (S : St B env ρ s) (le : S0.Le S) {f : Nat} {l : List AV} {ws : List Value} {Q : AV → Sto → Prop} (hv : S.Vs l ws) (q : C f l S.σ Q) : Wp B A (call (.ref (B.fn f)) ws []) (Got S0 Q) s := by
  obtain ⟨fn, h1, h2⟩ := H.CO.len q
  exact call_rule H.CO hr.d S le q hv (binds_plain H.O h1 (hv.length.trans h2))
theorem e_cal (H : Hyp B mg mb C n) {f k : Nat} {c : CKs} {fs : List (Sm Prop)} (hs : COKs B n c fs) : COK B n (cCal B.P f k c) (kCal C f fs) := fun env A V hr x (hc : onCall x (fun fx as kws _ => onName fx fun y => (same k y && (glbOk env.scope y && fnIs B.P k f)) && (kws.isEmpty && c env.scope as)) = true) => inCall hc fun fx as kws p hc => inName hc fun y pp hc => an hc fun c0 hc => an hc fun c4 c5 => an c0 fun c1 c0 => an c0 fun c2 c3 => inNil c4 fun ρ s S Q h => by
  have z := hs env A V hr as c5
  have key : look k B.P.glbs = some (.fn f) := inSome (Z := fun o => o = some (.fn f)) c3 fun v e => by
    cases v with
    | fn g => rw [Nat.eq_of_beq_eq_true e]
    | _ => cases e
  exact .of (Call_Name (z.back p) (glb_rule H.O V S key c1 c2 fun w hw => hw.fnE (args_then H.O z S (H.O.kp f) h fun S1 _ le hv hl q => fn_run H hr S1 le hv q)))
theorem e_cav (H : Hyp B mg mb C n) {k : Nat} {c : CKs} {fs : List (Sm Prop)} (hs : COKs B n c fs) : COK B n (cCav k c) (kCav C False k fs) := fun env A V hr x (hc : onCall x (fun fx as kws _ => onName fx fun y => (same k y && locOk env.scope y) && (kws.isEmpty && c env.scope as)) = true) => inCall hc fun fx as kws p hc => inName hc fun y pp hc => an hc fun c0 hc => an hc fun c4 c5 => an c0 fun c1 c2 => inNil c4 fun ρ s S Q h => by
  have z := hs env A V hr as c5
  exact .of (Call_Name (z.back p) (then_ (nam_rule V S S.le c1 c2 (Q := fun v σ => asFn v (fun f => evsK fs ρ σ fun l σ₁ => C f l σ₁ Q) False) h) fun {w s'} S0 v le0 hv q => in_Fn (Z := fun v => S0.V v w → Wp B A (callWith p w [] (trees env as) []) (Got S Q) s') q (fun f q hv => hv.fnE (args_then H.O z S0 (H.O.kp f) q fun S1 _ le hv hl q => fn_run H hr S1 (le0.trans le) hv q)) hv))
theorem cl_is {k c : Nat} {P : Prg} (h : clIs P k c = true) : look k P.glbs = some (.cl c) := inSome (Z := fun o => o = some (.cl c)) h fun v e => by
  cases v with
  | cl g => rw [Nat.eq_of_beq_eq_true e]
  | _ => cases e
end
end Mine
namespace Mine
open PySem PySem.W PyProof.Rows PySem.Calls PySem.SeqAt

section
variable {B : Base} {mg mb : Str → Option Value} {env : Env} {ρ : Loc} {s s0 : Shared} {A : Around} {C : KCalls Prop} {n : Nat} {S0 : St B env ρ s0} {G : Gh} {θ : List Addr}
theorem e_cls (H : Hyp B mg mb C n) {i k : Nat} {c : CKs} {fs : List (Sm Prop)} (hs : COKs B n c fs) : COK B n (cCls B.P i k c) (kCls B.P C False i fs) := fun env A V hr x (hc : onCall x (fun fx as kws _ => onName fx fun y => (same k y && (glbOk env.scope y && clIs B.P k i)) && (kws.isEmpty && c env.scope as)) = true) => inCall hc fun fx as kws p hc => inName hc fun y pp hc => an hc fun c0 hc => an hc fun c4 c5 => an c0 fun c1 c0 => an c0 fun c2 c3 => inNil c4 fun ρ s S Q h => by
  have z := hs env A V hr as c5
  have hk := cl_is c3
  have hcl : IsCls B i := ⟨k, hk⟩
  exact .of (Call_Name (z.back p) (glb_rule H.O V S hk c1 c2 fun w hw => hw.clE (args_then H.O z S (H.O.cls i hcl).kp h fun S1 _ le hv hl q => in_opt q fun d q3 q =>
    let ⟨dv, hd, hb⟩ := H.O.dfP i _ d q3 _ hv.length
    make_rule H.O H.CO hr S1 le hcl q (VRs.append hd.zero hv) hb)))
theorem e_clk (H : Hyp B mg mb C n) {i k kn : Nat} {c : CKs} {fs : List (Sm Prop)} {d : CK} {f : Sm Prop} (hs : COKs B n c fs) (ha : COK B n d f) : COK B n (cClk B.P i k kn c d) (kClk B.P C False i fs kn f) := fun env A V hr x (hc : onCall x (fun fx as kws _ => onName fx fun y => (same k y && (glbOk env.scope y && clIs B.P k i)) && (!as.isEmpty && (c env.scope as && on1 kws fun kw => onSome kw.arg (same kn) && d env.scope kw.value))) = true) => inCall hc fun fx as kws p hc => inName hc fun y pp hc => an hc fun c0 hc => an hc fun c4 hc => an hc fun c5 hc => an c0 fun c1 c0 => an c0 fun c2 c3 => in1 hc fun kw hc => by
  obtain ⟨ka, vx, kp⟩ := kw
  refine an hc fun (c6 : onSome ka (same kn) = true) c7 => ?_
  revert c6
  refine fun c6 => inSome (Z := fun ka => Snd B env A (kClk B.P C False i fs kn f) (.Call (.Name y pp) as [⟨ka, vx, kp⟩] p)) c6 fun ky c6 => ?_
  obtain rfl := same_eq c6
  intro ρ s S Q h
  have z := hs env A V hr as c5
  have hk := cl_is c3
  have hcl : IsCls B i := ⟨k, hk⟩
  refine .of ?_
  show wpAny _ A (do let f ← eval (.Name y pp) env; callWith p f [] (backTo p (starEach as env)) (backToKw p (keywordEach [⟨some (nm kn), vx, kp⟩] env))) _ _ s
  rw [z.back]
  refine wpAny_bind (glb_rule H.O V S hk c1 c2 fun w hw => hw.clE (callWith_of (P := fun h => B.K.In h) ((Bool.or_false _).trans (trees_plain as)) (keeps_K (H.O.cls i hcl).kp) ?_))
  have key : ∀ {ws : List Value} {s₁ : Shared} (S1 : St B env ρ s₁) {us : List AV}, S.Le S1 → S1.Vs us ws → f ρ S1.σ (fun v σ₂ => opt (findK i us.length kn B.P.dflK) (fun p => makeK B.P C False i (us ++ setn p.2 p.1 v) σ₂ Q) False) →
      wpAny (model B.prog B.w) A (evalAll ((backToKw p (keywordEach [⟨some (nm kn), vx, kp⟩] env)).map (·.2))) (fun ks s₂ => B.K.In s₂.heap ∧ wpAny (model B.prog B.w) A (call (.ref (B.cls i)) ([] ++ ws) (((backToKw p (keywordEach [⟨some (nm kn), vx, kp⟩] env)).filterMap (·.1)).zip ks)) (Got S Q) NoE s₂) NoE s₁ := fun {ws s₁} S1 {us} le hv q =>
    wpAny_bind (wpAny_bind (then_ (ha env A V hr vx c7 ρ _ S1 _ q).e fun S2 _ le2 hw q => wpAny_bind (wpAny_standAt (wpAny_pure (wpAny_bind (wpAny_holding (wpAny_pure (wpAny_pure ⟨S2.inK H.O, in_opt q fun dd q3 q => by
      obtain ⟨j, dd⟩ := dd
      obtain ⟨dv, hd, hb⟩ := H.O.dfK i _ kn j dd q3 ws _ hv.length
      exact make_rule H.O H.CO hr S2 (le.trans le2) hcl q (VRs.append (VRs.setn hw hd.zero) (le2.vs hv)) hb⟩))))))))
  cases as with
  | nil => cases c4
  | cons a as => exact evalArgs_kw rfl (thenL (z.ev ρ s S _ h) fun S1 _ le hv hl q => key S1 le hv q)

theorem mth_call {o : Expr} {name : Str} {apos pos : Pos} {args : List Expr} (hst : starEach args env = trees env args) (hn : Nat.blt args.length 20 = true) (hl : (apos.endLine == pos.line) = true) (ho : notSuper o = true) {E : Value → Shared → Prop} {Q : Value → Shared → Prop}
    (h : wpAny (model B.prog B.w) A (eval o env) (fun ov s₁ => wpAny (model B.prog B.w) A (getMethod ov name (do return (← importBound o env).getD true)) (fun fx s₂ => wpAny (model B.prog B.w) A (callWith pos fx.1 fx.2 (trees env args) []) Q E s₂) E s₁) E s) :
    wpAny (model B.prog B.w) A (eval (.Call (.Attribute o name apos) args [] pos) env) Q E s := by
  rw [arm_eval_Call, base_plain ho, hst, back_trees]
  refine wpAny_bind (wpAny_mono h (fun ov s₁ h₁ => wpAny_bind (wpAny_standAt ?_)) fun _ _ x => x)
  have few : methodCallForm (args.length + ([] : List Keyword).length) (trees env args) (backToKw pos (keywordEach [] env)) = true := by
    have h1 : (trees env args).all (fun x => !x.1) = true := List.all_eq_true.mpr fun p hp => Bool.not_eq_true' _ ▸ Bool.eq_false_iff.mpr fun e => Bool.eq_false_iff.mp (trees_plain (env := env) args) (List.any_eq_true.mpr ⟨p, hp, e⟩)
    have h2 : (backToKw pos (keywordEach [] env)) = [] := rfl
    have h3 : args.length ≤ 20 := Nat.le_of_lt (Nat.le_of_ble_eq_true hn)
    unfold methodCallForm
    rw [h1, h2]
    exact decide_eq_true (by simp only [List.isEmpty_nil, if_true, List.length_nil, Nat.add_zero]; omega)
  unfold methodCall
  rw [few]
  refine wpAny_bind (wpAny_holding ?_)
  unfold calleeOf
  rw [if_pos rfl]
  refine wpAny_mono h₁ (fun fx s₂ h₂ => ?_) fun _ _ x => x
  obtain ⟨f, first⟩ := fx
  dsimp only
  unfold methodCallPos
  rw [hl]
  exact wpAny_bind (wpAny_pure h₂)
theorem e_mth (H : Hyp B mg mb C n) {k : Nat} {c : CK} {f : Sm Prop} {d : CKs} {fs : List (Sm Prop)} (ha : COK B n c f) (hs : COKs B n d fs) : COK B n (cMth k c d) (kMth B.P C False f k fs) := fun env A V hr x (hc : onCall x (fun fx as kws pos => onAttr fx fun o y apos => kws.isEmpty && (same k y && (notSuper o && ((apos.endLine == pos.line) && (c env.scope o && (Nat.blt as.length 20 && d env.scope as)))))) = true) => inCall hc fun fx as kws p hc => inAttr hc fun o y apos hc => an hc fun c0 hc => inNil c0 (an hc fun c1 hc => an hc fun c2 hc => an hc fun c3 hc => an hc fun c4 hc => an hc fun c5 c6 => fun ρ s S Q h => by
  obtain rfl := same_eq c1
  have z := hs env A V hr as c6
  refine .of (mth_call z.st c5 c3 c2 (then_ (ha env A V hr o c4 ρ s S _ h).e fun S1 _ le hv q => in_opt q fun i q1 q => in_opt q fun g q2 q => meth_rule H.O S1 hv q1 q2 (args_then H.O z S1 (H.O.kp g) q fun S2 _ le2 hvs hl q => fn_run H hr S2 (le.trans le2) (.cons (le2.v hv) hvs) q))))
theorem e_app (H : Hyp B mg mb C n) {c d : CK} {f g : Sm Prop} (ha : COK B n c f) (hb : COK B n d g) : COK B n (cApp c d) (kApp False f g) := fun env A V hr x (hc : onCall x (fun fx as kws pos => onAttr fx fun o y apos => kws.isEmpty && (decide (y = ("append" : Str)) && (notSuper o && ((apos.endLine == pos.line) && (c env.scope o && (Nat.blt as.length 20 && on1 as fun a => notStar a && d env.scope a)))))) = true) => inCall hc fun fx as kws p hc => inAttr hc fun o y apos hc => an hc fun c0 hc => inNil c0 (an hc fun c1 hc => an hc fun c2 hc => an hc fun c3 hc => an hc fun c4 hc => an hc fun c5 c6 => (fun c5 => in1 (Z := fun as => Nat.blt as.length 20 = true → Snd B env A (kApp False f g) (.Call (.Attribute o y apos) as [] p)) c6 (fun a c6 c5 ρ s S Q h => an c6 fun c6 c7 => by
  obtain rfl := of_decide_eq_true c1
  have go : ∀ {s₁ : Shared} (S1 : St B env ρ s₁) {i : Nat} {b : Addr} {K : AV → Sto → Prop}, S.Le S1 → S1.θ[i]? = some b → g ρ S1.σ K → (∀ v σ, K v σ → onC (cell σ i) (fun _ _ => False) (fun l => br (Nat.blt l.length 1000000) (Q .none (setc σ i (.lst (l ++ [v])))) False) (fun _ => False) (fun n => match n with | 0 => False | m + 1 => Q .none (setc σ i (.sink m))) False) →
      wpAny (model B.prog B.w) A (callWith p (.builtin "list.append") [.ref b] (trees env [a]) []) (Got S Q) NoE s₁ := fun {s₁} S1 {i b K} le hθ q hK =>
    Calls.callWith_builtin rfl (Calls.evalArgs_plain (Calls.spliced_cons (then_ (hb env A V hr a c7 ρ _ S1 _ q).e fun S2 _ le2 hw q => Calls.spliced_nil (app_rule H.O S2 (le.trans le2) (le2.p _ _ hθ) hw (hK _ _ q)))))
  refine .of (mth_call (star_cons c6) c5 c3 c2 (then_ (ha env A V hr o c4 ρ s S _ h).e fun {w s'} S1 v le hv q => in_L (Z := fun v => S1.V v w → _) q (fun i q hv => hv.locE fun b hθ => in_onC q (fun _ _ _ => nofun) (fun l e q => ?_) (fun _ _ => nofun) fun m e q => ?_) hv))
  · obtain ⟨vs, k, h1, _⟩ : CR B S1.G S1.θ i b (.lst l) := S1.R.at hθ e
    exact get_append S1 h1 (go S1 le hθ q fun v σ q => in_onC q (fun _ _ _ => nofun) (fun l e q => e ▸ q) (fun _ _ => nofun) fun _ _ => nofun)
  · obtain ⟨vs, k, h1, _⟩ : CR B S1.G S1.θ i b (.sink m) := S1.R.at hθ e
    exact get_append S1 h1 (go S1 le hθ q fun v σ q => in_onC q (fun _ _ _ => nofun) (fun _ _ => nofun) (fun _ _ => nofun) fun _ e q => e ▸ q)) c5) c5)
end
end Mine
namespace Mine
open PySem PySem.W PyProof.Rows PySem.Calls PySem.SeqAt

section
variable {B : Base} {mg mb : Str → Option Value} {env : Env} {ρ : Loc} {s s0 : Shared} {A : Around} {C : KCalls Prop} {n : Nat} {S0 : St B env ρ s0} {G : Gh} {θ : List Addr}
noncomputable def b1V (o : B1) : Value := B1.casesOn o (.builtin "len") (.type "int") (.builtin "sorted") (.builtin "any") (.builtin "all") (.type "range")
noncomputable def b2I (o : B2) : String := B2.casesOn o "max" "min"
theorem b1_boot (o : B1) : bootBuiltins (b1Name o) = some (b1V o) := by cases o <;> kernel_rfl
theorem b2_boot (o : B2) : bootBuiltins (b2Name o) = some (.builtin (b2I o)) := by cases o <;> kernel_rfl
theorem b1_mem (o : B1) : b1Name o ∈ biNames ∧ b1Name o ≠ "__name__" := by cases o <;> exact ⟨by decide, by decide⟩
theorem b2_mem (o : B2) : b2Name o ∈ biNames ∧ b2Name o ≠ "__name__" := by cases o <;> exact ⟨by decide, by decide⟩
theorem bi1 {o : B1} {d : Expr} {pos : Pos} {K : Value → Shared → Prop} (h : wpAny (model B.prog B.w) A (eval d env) (fun w s₁ => wpAny (model B.prog B.w) A (call (b1V o) [w]) K NoE s₁) NoE s) : Wp B A (callWith pos (b1V o) [] (trees env [d]) []) K s := by
  have ty : ∀ id, b1V o = .type id → Wp B A (callWith pos (b1V o) [] (trees env [d]) []) K s := fun id e => by
    rw [e] at h ⊢
    exact PyProof.Rows.callWith_type rfl (Calls.evalArgs_plain (Calls.spliced_cons (wpAny_mono h (fun w s₁ k => Calls.spliced_nil k) fun _ _ q => q)))
  have bi : ∀ id, b1V o = .builtin id → Wp B A (callWith pos (b1V o) [] (trees env [d]) []) K s := fun id e => by
    rw [e] at h ⊢
    exact Calls.callWith_builtin rfl (Calls.evalArgs_plain (Calls.spliced_cons (wpAny_mono h (fun w s₁ k => Calls.spliced_nil k) fun _ _ q => q)))
  exact B1.casesOn (motive := fun o' => o = o' → _) o (fun e => bi _ (congrArg b1V e)) (fun e => ty _ (congrArg b1V e)) (fun e => bi _ (congrArg b1V e)) (fun e => bi _ (congrArg b1V e)) (fun e => bi _ (congrArg b1V e)) (fun e => ty _ (congrArg b1V e)) rfl
theorem f1_rule (O : BOK B mg mb) (hh : A.handled = none) (S : St B env ρ s) (le : S0.Le S) {o : B1} {v : AV} {w : Value} (hv : S.V v w) {Q : AV → Sto → Prop} (h : f1K False o v S.σ fun r => Q r S.σ) : wpAny (model B.prog B.w) A (call (b1V o) [w]) (Got S0 Q) NoE s := by
  cases o with
  | len => exact len_rule O S le hv h
  | toi =>
    have h : toiK False v (fun r => Q r S.σ) := h
    cases v with
    | int i => exact hv.intE fun t => call_int_int ⟨S, _, le, .int _ _, h⟩
    | bool b => exact hv.boolE (call_int_bool (by cases b; exact ⟨S.tok _, .int 0, le.tok _, .int _ _, h⟩; exact ⟨S.tok _, .int 1, le.tok _, .int _ _, h⟩))
    | _ => exact h.elim
  | srt => exact srt_rule O hh S le hv h
  | anyb => exact all_rule hh S le (o := true) hv h
  | allb => exact all_rule hh S le (o := false) hv h
  | rng => exact isI hv h fun b t q => in_br q fun _ q => rng_rule S le q
theorem e_f1 (H : Hyp B mg mb C n) {o : B1} {c : CK} {f : Sm Prop} (ha : COK B n c f) : COK B n (cF1 o c) (kF1 False o f) := fun env A V hr x (hc : onCall x (fun fx as kws _ => onName fx fun y => (decide (y = b1Name o) && glbOk env.scope y) && (kws.isEmpty && on1 as fun a => notStar a && c env.scope a)) = true) => inCall hc fun fx as kws p hc => inName hc fun y pp hc => an hc fun c0 hc => an hc fun c4 c5 => an c0 fun c1 c2 => inNil c4 (in1 c5 fun d hc => an hc fun c6 c7 ρ s S Q h => by
  obtain rfl := of_decide_eq_true c1
  exact .of (Call_Name (trees := trees env [d]) (by rw [star_cons c6]; exact back_trees p [d]) (bi_name H.O V S (b1_mem o).1 (b1_boot o) (b1_mem o).2 c2 (bi1 (then_ (ha env A V hr d c7 ρ s S _ h).e fun S1 _ le hv q => f1_rule H.O hr.hh S1 le hv q)))))
theorem e_f2 (H : Hyp B mg mb C n) {o : B2} {c d : CK} {f g : Sm Prop} (ha : COK B n c f) (hb : COK B n d g) : COK B n (cF2 o c d) (kF2 False o f g) := fun env A V hr x (hc : onCall x (fun fx as kws _ => onName fx fun y => (decide (y = b2Name o) && glbOk env.scope y) && (kws.isEmpty && on2 as fun a b => notStar a && (notStar b && (c env.scope a && d env.scope b)))) = true) => inCall hc fun fx as kws p hc => inName hc fun y pp hc => an hc fun c0 hc => an hc fun c4 c5 => an c0 fun c1 c2 => inNil c4 (in2 c5 fun a b hc => an hc fun c6 hc => an hc fun c7 hc => an hc fun c8 c9 ρ s S Q h => by
  obtain rfl := of_decide_eq_true c1
  exact .of (Call_Name (trees := trees env [a, b]) (by rw [star_cons c6, star_cons c7]; exact back_trees p [a, b]) (bi_name H.O V S (b2_mem o).1 (b2_boot o) (b2_mem o).2 c2 (Calls.callWith_builtin rfl (Calls.evalArgs_plain (Calls.spliced_cons
    (then_ (ha env A V hr a c8 ρ s S _ h).e fun S1 _ le hv q => isI hv q fun i t q => Calls.spliced_cons (then_ (hb env A V hr b c9 ρ _ S1 _ q).e fun S2 _ le2 hw q => isI hw q fun j u q => Calls.spliced_nil (f2_rule hr.hh S2 (le.trans le2) q)))))))))

theorem pairs_walk {p : Pos} {sc : Scope} : ∀ {ks : List Int} {keys : List (Option Expr)} {es : Es} {xs : List Expr}, keysOk ks keys = true → constEs es = true → chkEs B.P es sc xs = true → keys.length = xs.length →
    ∃ l : List AV, (∀ ρ σ (Q : List AV → Sto → Prop), evsK (evL B.P C False es) ρ σ Q → Q l σ) ∧ keys.all (·.isSome) = true ∧ ks.length = keys.length ∧ ∀ (Q : List (Value × Value) → Shared → Prop) (s : Shared), (∀ vs ws k, Carries (intKind B.prog B.w) vs (ks.zip ws) → VRs B G θ l ws → vs.length = ws.length → ws.length = xs.length → Q vs { s with toks := k }) →
      wpAny (model B.prog B.w) A (evalPairs (pairTrees keys xs env p)) Q NoE s
  | [], keys, es, xs, h1, h2, h3, h4 => inNil (Z := fun keys => keys.length = xs.length → ∃ l : List AV, (∀ ρ σ (Q : List AV → Sto → Prop), evsK (evL B.P C False es) ρ σ Q → Q l σ) ∧ keys.all (·.isSome) = true ∧ ([] : List Int).length = keys.length ∧ ∀ (Q : List (Value × Value) → Shared → Prop) (s : Shared), (∀ vs ws k, Carries (intKind B.prog B.w) vs (([] : List Int).zip ws) → VRs B G θ l ws → vs.length = ws.length → ws.length = xs.length → Q vs { s with toks := k }) →
      wpAny (model B.prog B.w) A (evalPairs (pairTrees keys xs env p)) Q NoE s) h1 (fun h4 => by
    cases xs with
    | cons => cases h4
    | nil =>
      cases es with
      | cons e es => cases h3
      | nil => exact ⟨[], fun _ _ _ h => h, rfl, rfl, fun Q s h => pairTrees_nil_walk (h [] [] s.toks trivial .nil rfl rfl)⟩) h4
  | k :: ks, keys, es, xs, h1, h2, h3, h4 => by
    cases keys with
    | nil => cases h1
    | cons ke keys =>
    cases xs with
    | nil => cases h4
    | cons x xs =>
    cases es with
    | nil => cases h3
    | cons e es =>
      refine an (show (onSome ke (fun e => onConst e fun c => onCI c fun i => decide (i = k)) && keysOk ks keys) = true from h1) fun k1 k2 => an (show (isCon e && constEs es) = true from h2) fun i1 i2 => an (show (notStar x && (chkE B.P e sc x && chkEs B.P es sc xs)) = true from h3) fun j0 j => an j fun j1 j2 => ?_
      obtain ⟨l, w1, w2, w3, w4⟩ := pairs_walk k2 i2 j2 (Nat.succ.inj h4)
      cases e with
      | con v =>
        have hx : ∀ {Q : Value → Shared → Prop} {s : Shared}, (∀ w tk, VR B G θ v w → Q w { s with toks := tk }) → wpAny (model B.prog B.w) A (eval x env) Q NoE s := fun {Q s} hQ => inConst (Z := fun x => wpAny (model B.prog B.w) A (eval x env) Q NoE s) (show onConst x (conOk v) = true from j1) fun c kd p hc => con_val hc hQ
        refine ⟨v :: l, fun ρ σ Q h => w1 ρ σ _ h, ?_, congrArg (· + 1) w3, ?_⟩
        · exact inSome (Z := fun ke => (ke :: keys).all (·.isSome) = true) k1 fun _ _ => w2
        · refine inSome (Z := fun ke => ∀ (Q : List (Value × Value) → Shared → Prop) (s : Shared), (∀ vs ws t, Carries (intKind B.prog B.w) vs ((k :: ks).zip ws) → VRs B G θ (v :: l) ws → vs.length = ws.length → ws.length = (x :: xs).length → Q vs { s with toks := t }) → wpAny (model B.prog B.w) A (evalPairs (pairTrees (ke :: keys) (x :: xs) env p)) Q NoE s) k1 fun ke k1 => inConst k1 fun c kd pp k1 => inCI k1 fun i k1 Q s hQ => ?_
          obtain rfl := of_decide_eq_true k1
          exact pairTrees_cons_walk (wpAny_Constant_int (hx fun w t hw => w4 _ _ fun vs ws t2 a b c d => hQ _ (w :: ws) _ ⟨beq_self_eq_true (α := Int) _, rfl, a⟩ (.cons hw b) (congrArg (· + 1) c) (congrArg (· + 1) d)))
      | _ => cases i1
theorem zipK_zip : ∀ (ks : List Int) (l : List AV), zipK ks l = ks.zip l
  | [], _ => rfl
  | _ :: _, [] => rfl
  | k :: ks, v :: l => congrArg (List.cons (k, v)) (zipK_zip ks l)
theorem dct_done (S : St B env ρ s) {fz : Bool} {ks : List Int} {l : List AV} {ws : List Value} {h' : Heap} {tk : Nat} (hs : Heap.SameBut s.heap.objs.size (s.heap.push { cls := .type "dict", data := .dict #[] }) h')
    (hd : h'.DictOf (intKind B.prog B.w) s.heap.objs.size (ks.zip ws)) (hv : S.Vs l ws) (hl : ws.length = ks.length) (nd : ks.Nodup) {Q : AV → Sto → Prop} (q : br fz (Q (.fd ks l) S.σ) (Q (.loc S.σ.length) (S.σ ++ [.dct (zipK ks l)]))) : Got S Q (.ref s.heap.objs.size) { s with heap := h', toks := tk } := by
  obtain ⟨o, es, ep, d1, d2, d3, d4, d5, d6⟩ := hd
  have R : ∀ t, Rel B env ρ S.σ (S.G.push s.heap.objs.size o t) S.θ { s with heap := h', toks := tk } := fun t => S.R.lift (fun m C => C.add t S.R.fresh S.R.sizeLe (C.fr.filled hs) (C.N.filled C.fr hs d1)) (pushL S.R.fresh) (.refl _)
  cases fz with
  | true => exact ⟨⟨_, _, _, R .fix⟩, .fd ks l, ⟨S.R.pushExt _ _, .refl _⟩, (show DctR B (Has B (S.G.push s.heap.objs.size o .fix)) (intKind B.prog B.w) ks (VRs B (S.G.push s.heap.objs.size o .fix) S.θ l) (.ref s.heap.objs.size) from ⟨_, o, es, ep, ws, rfl, .inr push_new, d2, d3, d4, d5, nd, hl.symm, hv.ext (S.R.pushExt _ _) (.refl _)⟩), q⟩
  | false =>
    have e := hv.length.symm.trans hl
    have z1 : (zipK ks l).map (·.1) = ks := (congrArg _ (zipK_zip ks l)).trans (zip_keys e)
    have z2 : (zipK ks l).map (·.2) = l := (congrArg _ (zipK_zip ks l)).trans (zip_snd e)
    exact ⟨⟨_, _, _, (R (.cell S.σ.length)).grow (.dct push_new ⟨es, ep, d2, d3, d4, z1.symm ▸ d5, z1.symm ▸ nd, z2.symm ▸ hv.ext (S.R.pushExt _ _) (.app _ _)⟩)⟩, _, ⟨S.R.pushExt _ _, .app _ _⟩, .loc (S.R.new_at _), q⟩
theorem e_dct {fz : Bool} {ks : List Int} {es : Es} : COK B n (cDct ks es (chkEs B.P es)) (kDct fz ks (evL B.P C False es)) := fun env A V hr x (hc : onDict x (fun keys vs => keysOk ks keys && (constEs es && (Nat.blt vs.length 15 && (decide ks.Nodup && (Nat.beq keys.length vs.length && chkEs B.P es env.scope vs))))) = true) => inDict hc fun keys xs p hc ρ s S Q h => an hc fun c1 hc => an hc fun c2 hc => an hc fun c3 hc => an hc fun c4 hc => an hc fun c5 c6 => by
  have nd := of_decide_eq_true c4
  have hl := Nat.eq_of_beq_eq_true c5
  have hnew : (s.heap.push { cls := .type "dict", data := .dict #[] }).DictOf (intKind B.prog B.w) s.heap.objs.size [] := Heap.DictOf.new _
  obtain ⟨l, w1, w2, w3, w4⟩ := pairs_walk (C := C) (A := A) (env := env) (G := S.G) (θ := S.θ) (p := p) c1 c2 c6 hl
  have q := w1 _ _ _ h
  refine .of ?_
  cases keys with
  | nil =>
    cases ks with
    | cons => cases w3
    | nil =>
    cases xs with
    | cons => cases hl
    | nil =>
    cases es with
    | cons => cases c6
    | nil => exact wpAny_Dict_empty (dct_done (ks := []) (l := []) (tk := s.toks) (ws := []) S (.refl _ _) hnew .nil rfl nd h)
  | cons ke keys => exact wpAny_Dict_walk w2 hl nofun (hl ▸ Nat.le_of_lt (Nat.le_of_ble_eq_true c3)) (w4 _ _ fun vs ws k a b c d => ⟨ks.zip ws, a, hnew, fun h' D' S' => dct_done S S' (by rw [merged_nil_of_nodup _ (by rw [zip_keys (d.trans (hl.symm.trans w3.symm))]; exact nd)] at D'; exact D') b (d.trans (hl.symm.trans w3.symm)) nd q⟩)
end
end Mine
namespace Mine
open PySem PySem.W PyProof.Rows PySem.Calls PySem.SeqAt

section
variable {B : Base} {mg mb : Str → Option Value} {env env' : Env} {ρ ρ' : Loc} {σ σ' : Sto} {G G' Gb : Gh} {θ θ' : List Addr} {s s' : Shared} {A : Around} {E : Value → Shared → Prop} {a I D : Addr} {o o' : Obj} {l : List AV} {i : Nat}
noncomputable def Stays (B : Base) (G : Gh) (a : Addr) : Prop := ∃ o, B.h₀.get? a = some o ∨ ∃ t, t.stays = true ∧ In G t a o
theorem Stays.ext (h : Stays B G a) (x : Ext G G') : Stays B G' a := h.imp fun o h => h.imp id fun ⟨t, e, h⟩ => ⟨t, e, x.at h e⟩
theorem Has.stays (h : Has B G a o) : Stays B G a := ⟨o, h.imp id fun h => ⟨.fix, rfl, h⟩⟩
theorem Stays.frame (h : Stays B G a) (R : Rel B env ρ σ G θ s) (x : Ext G G') (R' : Rel B env' ρ' σ' G' θ' s') (e : s.heap.get? a = some o) : s'.heap.get? a = some o := by
  obtain ⟨o', h | ⟨t, k, h⟩⟩ := h
  · exact Option.some.inj ((R.keep h).symm.trans e) ▸ R'.keep h
  · exact Option.some.inj ((R.get h.1).symm.trans e) ▸ R'.get (x.at h k).1

noncomputable abbrev owners : List String := ["enumerate", "zip", "dict_itemiterator", "dict_reverseitemiterator", "odict_iterator", "itertools.zip_longest", "itertools.pairwise"]
structure Iter (B : Base) (A : Around) (G : Gh) (θ : List Addr) (I : Addr) (l : List AV) (St : Nat → Heap → Prop) : Prop where
  wk : ∃ fp P, Walks B.prog B.w A I fp [I] l.length P St ∧ (∀ b ∈ fp, b = I ∨ (b < I ∧ Stays B G b)) ∧ ∀ i v, i < l.length → P i v → ∃ u, nth l i = some u ∧ VR B G θ u v
  there : ∀ i h, St i h → ∃ o T vs, h.get? I = some o ∧ o.cls = .type T ∧ o.data = .fields vs ∧ owners.contains T = false
variable {W : Nat → Heap → Prop}
theorem Iter.nc (h : Iter B A G θ I l W) (R : Rel B env ρ σ G θ s) (hI : In G .itr I o) (st : W i s.heap) : ∀ v, o.data ≠ .cell v := fun v e => by
  obtain ⟨o2, T, vs, e1, e2, e3, e4⟩ := h.there _ _ st
  obtain rfl := Option.some.inj (e1.symm.trans (R.get hI.1))
  exact nomatch e3.symm.trans e
theorem Iter.ext (h : Iter B A G θ I l W) (x : Ext G G') (p : Pre θ θ') : Iter B A G' θ' I l W := by
  obtain ⟨fp, P, w, a, b⟩ := h.wk
  exact ⟨⟨fp, P, w, fun c hc => (a c hc).imp id (And.imp id fun k => k.ext x), fun i v hi hv => (b i v hi hv).imp fun u => And.imp id fun k => k.ext x p⟩, h.there⟩
theorem Iter.keep (h : Iter B A G θ I l W) (R : Rel B env ρ σ G θ s) (hI : In G .itr I o) (st : W i s.heap) (x : Ext G G') (R' : Rel B env' ρ' σ' G' θ' s') : W i s'.heap := by
  obtain ⟨fp, P, w, a, b⟩ := h.wk
  refine w.frame i _ _ st fun c hc ob hob => ?_
  rcases a c hc with rfl | ⟨_, k⟩
  · exact Option.some.inj ((R.get hI.1).symm.trans hob) ▸ R'.get (x.itr hI).1
  · exact k.frame R x R' hob
theorem Iter.next (h : Iter B A G θ I l W) (R : Rel B env ρ σ G θ s) (hI : In G .itr I o) (st : W i s.heap) (hi : i < l.length) {Q : Option Value → Shared → Prop}
    (hq : ∀ v u o' s', nth l i = some u → VR B (G.upd I o') θ u v → Rel B env ρ σ (G.upd I o') θ s' → In (G.upd I o') .itr I o' → W (i + 1) s'.heap → Iter B A (G.upd I o') θ I l W → Q (some v) s') :
    wpAny (model B.prog B.w) A (pyNext (.ref I)) Q E s := by
  have nc := h.nc R hI st
  obtain ⟨fp, P, w, a, b⟩ := h.wk
  refine w.item i s Q E hi st fun v h' tk hP st' hk => ?_
  obtain ⟨u, h1, h2⟩ := b i v hi hP
  obtain ⟨o', _, _, ho', _⟩ := h.there _ _ st'
  have x0 : Ext0 G (G.upd I o') := upd_ext0 fun e => nomatch hI.2.symm.trans e
  have new : In (G.upd I o') .itr I o' := upd_eq hI
  have stay : ∀ c, Stays B G c → Stays B (G.upd I o') c := fun c ⟨ob, k⟩ => (Nat.decEq c I).byCases (fun e => by rw [e]; exact ⟨o', .inr ⟨.itr, rfl, new⟩⟩) fun e => ⟨ob, k.imp id fun ⟨t, q, k⟩ => ⟨t, q, upd_ne e k⟩⟩
  exact hq v u o' _ h1 (h2.ext0 x0 (.refl _)) (R.turnItr hI nc (fun b ob hb => hk b ob (fun m => hb (List.mem_singleton.mp m))) ho') new st' ⟨⟨fp, P, w, fun c hc => (a c hc).imp id (And.imp id (stay c)), fun i v hi hv => (b i v hi hv).imp fun u => And.imp id fun k => k.ext0 x0 (.refl _)⟩, h.there⟩
theorem Iter.owned (h : Iter B A G θ I l W) (st : W i s.heap) {t : Expr} {v : Value} {Q : Unit → Shared → Prop} (hq : Q () s) : wpAny (model B.prog B.w) A (letOwnedTupleGo t (.ref I) v) Q E s := by
  obtain ⟨o, T, vs, h1, h2, h3, h4⟩ := h.there i _ st
  have key : wpAny (model B.prog B.w) A (match (Value.ref I, v) with
    | (.ref r, .ref a) => do
      let o ← load r
      match o.cls, o.data with
      | .type n, .fields vs =>
        if ["enumerate", "zip", "dict_itemiterator", "dict_reverseitemiterator", "odict_iterator", "itertools.zip_longest", "itertools.pairwise"].contains n && vs[0]? == some (rawInt a) then
          rule "for.unpacks-the-owned-tuple"
          updateField r 0 .none
      | _, _ => pure ()
    | _ => pure ()) Q E s := by
    cases v with
    | ref a =>
      refine wpAny_bind (wpAny_load h1 ?_)
      rw [h2, h3]
      dsimp only
      rw [h4, Bool.false_and, if_neg nofun]
      exact wpAny_pure hq
    | _ => exact wpAny_pure hq
  unfold letOwnedTupleGo
  split
  · exact key
  · exact key
  · exact wpAny_pure hq
theorem Iter.other (h : Iter B A G θ I l W) (hD : I < D) {h1 h2 : Heap} (st : W i h1) (k : ∀ b o, b ≠ D → h1.get? b = some o → h2.get? b = some o) : W i h2 := by
  obtain ⟨fp, P, w, a, b⟩ := h.wk
  exact w.frame i _ _ st fun c hc ob => k _ _ (Nat.ne_of_lt ((a c hc).elim (fun e => e.symm ▸ hD) fun e => Nat.lt_trans e.1 hD))
theorem Iter.updD (h : Iter B A G θ I l W) (hD : I < D) (x : Ext0 G (G.upd D o)) : Iter B A (G.upd D o) θ I l W := by
  obtain ⟨fp, P, w, a, b⟩ := h.wk
  exact ⟨⟨fp, P, w, fun c hc => (a c hc).imp id fun ⟨hlt, ob, hob⟩ => ⟨hlt, ob, hob.imp id fun ⟨t, q, k⟩ => ⟨t, q, upd_ne (Nat.ne_of_lt (Nat.lt_trans hlt hD)) k⟩⟩, fun i v hi hv => (b i v hi hv).imp fun u => And.imp id fun k => k.ext0 x (.refl _)⟩, h.there⟩
theorem Iter.self (h : Iter B A G θ I l W) (st : W i s.heap) {Q : Value → Shared → Prop} (hq : Q (.ref I) s) : wpAny (model B.prog B.w) A (pyIter (.ref I)) Q E s :=
  let ⟨_, _, w, _, _⟩ := h.wk; w.self i s Q E st hq
theorem Iter.fin (h : Iter B A G θ I l W) (st : W l.length s.heap) {Q : Option Value → Shared → Prop} (hq : ∀ h' tk, (∀ b ob, b ≠ I → s.heap.get? b = some ob → h'.get? b = some ob) → Q none { s with heap := h', toks := tk }) : wpAny (model B.prog B.w) A (pyNext (.ref I)) Q E s :=
  let ⟨_, _, w, _, _⟩ := h.wk; w.done s Q E st fun h' tk hk => hq h' tk fun b ob hb => hk b ob fun m => hb (List.mem_singleton.mp m)

theorem nth_of : ∀ {l : List AV} {vs : List Value} {i : Nat} {v : Value}, VRs B G θ l vs → vs[i]? = some v → ∃ u, nth l i = some u ∧ VR B G θ u v
  | [], vs, i, v, h, e => h.nilE (Z := fun vs => vs[i]? = some v → _) (fun e => nomatch e) e
  | u :: l, vs, i, v, h, e => h.consE (Z := fun vs => vs[i]? = some v → _) (fun w ws a b e => match i, e with
    | 0, e => ⟨u, rfl, Option.some.inj e ▸ a⟩
    | i + 1, e => show ∃ x, nth l i = some x ∧ _ from nth_of (l := l) (i := i) b e) e
theorem toA {vs : List Value} {v : Value} (h : vs.toArray[i]? = some v) : vs[i]? = some v := by rw [List.getElem?_toArray] at h; exact h
theorem nth_upto {i : Int} : ∀ {n k : Nat}, k < n → nth (upto i n) k = some (.int (i + k))
  | 0, k, h => absurd h (Nat.not_lt_zero _)
  | n + 1, 0, _ => congrArg (fun z => some (AV.int z)) (Int.add_zero i).symm
  | n + 1, k + 1, h => (nth_upto (i := i + 1) (Nat.lt_of_succ_lt_succ h)).trans (congrArg (fun z => some (AV.int z)) (by omega))
theorem upto_len {i : Int} : ∀ {n : Nat}, (upto i n).length = n
  | 0 => rfl
  | n + 1 => congrArg (· + 1) (upto_len (i := i + 1) (n := n))
noncomputable abbrev Begins (B : Base) (A : Around) (env : Env) (ρ : Loc) (σ : Sto) (G : Gh) (θ : List Addr) (s : Shared) (l : List AV) (Q : Value → Shared → Prop) : Prop := ∀ (io : Obj) (W : Nat → Heap → Prop), Rel B env ρ σ (G.push s.heap.objs.size io .itr) θ { s with heap := s.heap.push io } →
  W 0 (s.heap.push io) → Iter B A (G.push s.heap.objs.size io .itr) θ s.heap.objs.size l W → Q (.ref s.heap.objs.size) { s with heap := s.heap.push io }
section
variable {Q : Value → Shared → Prop} {vs : List Value} {k : Nat}
theorem two {fp : List Addr} (e : fp = [I, a]) (h1 : a < I) (h2 : Stays B G a) : ∀ b ∈ fp, b = I ∨ (b < I ∧ Stays B G b) := fun b hb => (List.mem_cons.mp (e ▸ hb : b ∈ [I, a])).imp id fun hb => by rw [List.mem_singleton.mp hb]; exact ⟨h1, h2⟩
theorem lst_iter (hh : A.handled = none) (R : Rel B env ρ σ G θ s) (ho : s.heap.get? a = some o) (h2 : o.cls = .type "list") (h3 : o.data = .seq vs.toArray k) (h4 : VRs B G θ l vs) (h5 : Stays B G a) (hq : Begins B A env ρ σ G θ s l Q) : wpAny (model B.prog B.w) A (pyIter (.ref a)) Q E s := by
  have hlt := Heap.lt_size ho
  have L : s.heap.IsList a vs.toArray := ⟨o, ho, h2, k, h3⟩
  refine wpAny_pyIter_list L (hq _ (fun i h => h.IsListIter s.heap.objs.size a i ∧ h.IsList a vs.toArray) (R.push _ .itr) ⟨⟨_, Heap.get?_push_size _ rfl, rfl, rfl⟩, L.push _⟩ ⟨⟨_, (fun i v => vs.toArray[i]? = some v), (show vs.toArray.size = l.length from h4.length) ▸ Walks.list (prog := B.prog) (w := B.w) (A := A) hh s.heap.objs.size a (Nat.ne_of_lt hlt) vs.toArray, two rfl hlt (h5.ext (R.pushExt _ _)), fun i v hi hv => nth_of (h4.ext (R.pushExt _ _) (.refl _)) (toA hv)⟩, fun i h hst => ?_⟩)
  obtain ⟨⟨o2, h1, h2, h3⟩, _⟩ := hst
  exact ⟨o2, _, _, h1, h2, h3, by decide⟩
theorem tup_iter (hh : A.handled = none) (R : Rel B env ρ σ G θ s) (ho : s.heap.get? a = some o) (h2 : o.cls = .type "tuple") (h3 : o.data = .seq vs.toArray k) (h4 : VRs B G θ l vs) (h5 : Stays B G a) (hq : Begins B A env ρ σ G θ s l Q) : wpAny (model B.prog B.w) A (pyIter (.ref a)) Q E s := by
  have hlt := Heap.lt_size ho
  have L : s.heap.IsTuple a vs.toArray := ⟨o, ho, h2, k, h3⟩
  refine wpAny_pyIter_tuple L (hq _ (fun i h => h.IsTupleIter s.heap.objs.size a i ∧ h.IsTuple a vs.toArray) (R.push _ .itr) ⟨⟨_, Heap.get?_push_size _ rfl, rfl, rfl⟩, L.push _⟩ ⟨⟨_, (fun i v => vs.toArray[i]? = some v), (show vs.toArray.size = l.length from h4.length) ▸ Walks.tuple (prog := B.prog) (w := B.w) (A := A) hh s.heap.objs.size a (Nat.ne_of_lt hlt) vs.toArray, two rfl hlt (h5.ext (R.pushExt _ _)), fun i v hi hv => nth_of (h4.ext (R.pushExt _ _) (.refl _)) (toA hv)⟩, fun i h hst => ?_⟩)
  obtain ⟨⟨o2, h1, h2, h3⟩, _⟩ := hst
  exact ⟨o2, _, _, h1, h2, h3, by decide⟩
theorem rng_iter (hh : A.handled = none) (R : Rel B env ρ σ G θ s) {n : Int} {w : Value} (h : VR B G θ (.rg n) w) (qi : idx n = true) (hq : Begins B A env ρ σ G θ s (upto 0 n.toNat) Q) : wpAny (model B.prog B.w) A (pyIter w) Q E s := by
  obtain ⟨a, t, u, v, rfl, h1⟩ := (h : RgR (Has B G) n w)
  obtain ⟨b1, b2⟩ := idx_ok qi
  have hsz : Builtin.Range.rangeSize 0 n 1 = n := by
    unfold Builtin.Range.rangeSize
    rw [if_pos (by decide)]
    split <;> omega
  have hsml : Builtin.Range.small 0 n 1 = true := by
    unfold Builtin.Range.small
    rw [hsz]
    unfold Builtin.Range.rangeFitsLong
    have c1 : decide (-(2 ^ 63 : Int) ≤ n) = true := decide_eq_true (by omega)
    have c2 : decide (n < (2 ^ 63 : Int)) = true := decide_eq_true b2
    simp [c1, c2, b2]
    omega
  refine wpAny_pyIter_range (a := 0) (b := n) (c := 1) (R.has h1) hsml ?_
  rw [hsz]
  refine hq _ (fun i h => IsRangeIter h s.heap.objs.size (0 + (i : Int) * 1) ((n.toNat : Int) - i) 1) (R.push _ .itr) ?_ ⟨⟨[s.heap.objs.size], (fun i v => ∃ t, v = .int (0 + (i : Int) * 1) t), upto_len.symm ▸ Walks.range (prog := B.prog) (w := B.w) (A := A) hh s.heap.objs.size 0 1 n.toNat, fun b hb => .inl (List.mem_singleton.mp hb), fun i v hi hv => ?_⟩, fun i h hst => ⟨_, _, _, hst, rfl, rfl, by decide⟩⟩
  · rw [show ((n.toNat : Int) - ((0 : Nat) : Int)) = n by omega]
    exact Heap.get?_push_size _ rfl
  · obtain ⟨t', rfl⟩ := hv
    exact ⟨_, nth_upto (Nat.lt_of_lt_of_eq hi upto_len), (Int.mul_one (i : Int)).symm ▸ .int _ _⟩
theorem keysZ_len : ∀ l : List (Int × AV), (keysZ l).length = l.length
  | [] => rfl
  | p :: l => congrArg (· + 1) (keysZ_len l)
theorem keysZ_nth : ∀ (l : List (Int × AV)) (i : Nat) (k : Int), (l.map (·.1))[i]? = some k → nth (keysZ l) i = some (.int k)
  | [], i, k, h => nomatch h
  | p :: l, 0, k, h => congrArg (fun z => some (AV.int z)) (Option.some.inj h)
  | p :: l, i + 1, k, h => keysZ_nth l i k h
theorem dct_iter (O : BOK B mg mb) (hh : A.handled = none) (R : Rel B env ρ σ G θ s) {l : List (Int × AV)} {G₁ : Gh} (hb : (a == sysModules) = false) (ho : s.heap.get? a = some o) (z : ZObj B G₁ θ l o vs) (h5 : Stays B G a) (hq : Begins B A env ρ σ G θ s (keysZ l) Q) : wpAny (model B.prog B.w) A (pyIter (.ref a)) Q E s := by
  obtain ⟨es, ep, c3, c4, c5, c6, c7, c8⟩ := z
  have hlt := Heap.lt_size ho
  have hl : vs.length = (l.map (·.1)).length := by rw [c8.length, List.length_map, List.length_map]
  have kz : ((l.map (·.1)).zip vs).map (·.1) = l.map (·.1) := zip_keys hl
  have kl : ((l.map (·.1)).zip vs).length = (keysZ l).length := by rw [List.length_zip, hl, Nat.min_self, List.length_map, keysZ_len]
  have D : s.heap.DictAt (intKind B.prog B.w) a ((l.map (·.1)).zip vs) ep := ⟨o, es, ho, c3, c4, c5, c6, by rw [kz]; exact c7⟩
  have Wk := Walks.dictKeys (knd := intKind B.prog B.w) (prog := B.prog) (w := B.w) (A := A) hh s.heap.objs.size a (Nat.ne_of_lt hlt) ((l.map (·.1)).zip vs) ep
  rw [kl] at Wk
  refine wpAny_pyIter_dict hb D ?_
  rw [kl]
  refine hq _ _ (R.push _ .itr) ⟨⟨_, Heap.get?_push_size _ rfl, rfl, rfl⟩, D.push _⟩ ⟨⟨_, _, Wk, two rfl hlt (h5.ext (R.pushExt _ _)), fun i v hi hv => ?_⟩, fun i h hst => ?_⟩
  · obtain ⟨k, x, e1, e2⟩ := hv
    have e3 : (l.map (·.1))[i]? = some k := by rw [← kz, List.getElem?_map, e1]; rfl
    refine ⟨_, keysZ_nth _ _ _ e3, ?_⟩
    cases v with
    | int j t => exact (eq_of_beq e2 : j = k) ▸ .int _ _
    | _ => cases e2
  · obtain ⟨⟨o2, h1, h2, h3⟩, _⟩ := hst
    exact ⟨o2, _, _, h1, h2, h3, by decide⟩
end
structure Aside (S : St B env ρ s) (Gb : Gh) (h : Option (Nat × Cell)) : Prop where
  R : Rel B env ρ (hideC h S.σ) Gb S.θ s
  nl : h = Option.none → Gb = S.G
  back : ∀ {ρ' : Loc} {σ' : Sto} {G' : Gh} {θ' : List Addr} {s' : Shared}, Ext Gb G' → Pre S.θ θ' → Rel B env ρ' σ' G' θ' s' → ∃ G'', Rel B env ρ' (showC h σ') G'' θ' s' ∧ Ext S.G G'' ∧ Ext0 G' G''
theorem Aside.none (S : St B env ρ s) : Aside S S.G Option.none := ⟨S.R, fun _ => rfl, fun x _ R => ⟨_, R, x, fun _ _ h => h⟩⟩
theorem Aside.some (S : St B env ρ s) {c : Cell} (hθ : S.θ[i]? = Option.some a) (h : In S.G (.cell i) a o) (hnc : ∀ v, o.data ≠ .cell v) (hc : ∀ {G'' θ'}, Ext0 S.G G'' → Pre S.θ θ' → In G'' (.cell i) a o → CR B G'' θ' i a c) : Aside S (S.G.retag a .itr) (Option.some (i, c)) := by
  have q : ∀ {G' : Gh}, Ext (S.G.retag a .itr) G' → Ext S.G (G'.retag a (.cell i)) := fun {G'} x b ob hb ht => by
    have ne : b ≠ a := fun e => by rw [e, h.2] at ht; cases ht
    exact retag_ne ne (x.at (retag_ne ne ⟨hb, rfl⟩) ht)
  refine ⟨S.R.liftNot (fun m C => C.hideC h) (fun b ob hb => retag_ne (ne_of hb h.2 nofun) hb) (.refl _) h.1 hnc fun t b ob hb => retag_ne hb, nofun, fun {ρ' σ' G' θ' s'} x p R => ?_⟩
  have m := x.itr (retag_eq h.1)
  exact ⟨_, R.liftNot (fun m' C => C.showC m.2 (p _ _ hθ) (hc (q x).fixes p (retag_eq m.1))) (retag_ext0 m.2) (.refl _) m.1 hnc fun t b ob hb => retag_ne hb, q x, retag_ext0 m.2⟩
theorem iter_rule (O : BOK B mg mb) (hh : A.handled = none) (S : St B env ρ s) {v : AV} {w : Value} (hv : S.V v w) {K : List AV → Option (Nat × Cell) → Prop} (h : itemsK False v S.σ K) {Q : Value → Shared → Prop}
    (hq : ∀ l hd Gb, K l hd → Aside S Gb hd → Begins B A env ρ (hideC hd S.σ) Gb S.θ s l Q) : wpAny (model B.prog B.w) A (pyIter w) Q E s := by
  cases v with
  | tup l =>
    obtain ⟨a, o, vs, k, rfl, h1, h2, h3, h4⟩ := (hv : SeqR (Has B S.G) "tuple" (VRs B S.G S.θ l) w)
    exact tup_iter hh S.R (S.R.has h1) h2 h3 h4 h1.stays (hq l .none _ h (.none S))
  | fl l =>
    obtain ⟨a, o, vs, k, rfl, h1, h2, h3, h4⟩ := (hv : SeqR (Has B S.G) "list" (VRs B S.G S.θ l) w)
    exact lst_iter hh S.R (S.R.has h1) h2 h3 h4 h1.stays (hq l .none _ h (.none S))
  | rg n => exact in_br h fun qi h => rng_iter hh S.R hv qi (hq _ .none _ h (.none S))
  | loc i =>
    refine hv.locE fun a hθ => in_onC h (fun _ _ _ => nofun) (fun l e q => ?_) (fun l e q => ?_) fun _ _ => nofun
    · obtain ⟨vs, k, h1, h5⟩ : CR B S.G S.θ i a (.lst l) := S.R.at hθ e
      have As := Aside.some S (c := .lst l) hθ h1 nofun fun x p m => .lst m (h5.ext0 x p)
      exact lst_iter hh As.R (S.R.get h1.1) rfl rfl (h5.ext0 (fun b ob hb => retag_ne (ne_of hb h1.2 nofun) hb) (.refl _)) ⟨_, .inr ⟨.itr, rfl, retag_eq h1.1⟩⟩ (hq _ _ _ q As)
    · obtain ⟨o, vs, h1, z⟩ : CR B S.G S.θ i a (.dct l) := S.R.at hθ e
      have As := Aside.some S (c := .dct l) hθ h1 (fun v e => let ⟨_, _, _, c4, _⟩ := z; nomatch c4.symm.trans e) fun x p m => .dct m (z.mono fun h => h.ext0 x p)
      exact dct_iter O hh As.R (S.R.big O h1.1) (S.R.get h1.1) z ⟨_, .inr ⟨.itr, rfl, retag_eq h1.1⟩⟩ (hq _ _ _ q As)
  | _ => exact (h : False).elim
end
end Mine
namespace Mine
open PySem PySem.W PyProof.Rows PySem.Calls PySem.SeqAt

noncomputable def clOf (cells : List (Str × Addr)) : List (Str × NameKind) → List (Str × Addr) → List (Str × Addr)
  | [], acc => acc
  | p :: r, acc => if p.2 == .free then clOf cells r ((p.1, (cells.lookup p.1).getD 0) :: acc) else clOf cells r acc
section
variable {env : Env} {cells : List (Str × Addr)} {x : Str}
theorem clOf_eq : ∀ (names : List (Str × NameKind)) (acc : List (Str × Addr)), (∀ p ∈ names, p.2 = .free → ∃ c, env.cells.lookup p.1 = some c) →
    (forIn names acc (fun (x : Str × NameKind) (cs : List (Str × Addr)) => if (x.2 == NameKind.free) = true then (do let a ← cellOf env x.1; pure (ForInStep.yield ((x.1, a) :: cs))) else pure (ForInStep.yield cs) : Str × NameKind → List (Str × Addr) → Sem (ForInStep (List (Str × Addr))))) = (pure (clOf env.cells names acc) : Sem (List (Str × Addr)))
  | [], acc, _ => List.forIn_nil
  | p :: r, acc, h => by
    have hr := fun acc => clOf_eq r acc fun p hp => h p (.tail _ hp)
    rw [List.forIn_cons]
    unfold clOf
    cases q : (p.2 == NameKind.free) with
    | true =>
      obtain ⟨c, hc⟩ := h p (.head _) (eq_of_beq q)
      have e : cellOf env p.1 = pure c := by unfold cellOf; rw [hc]
      rw [if_pos rfl, if_pos rfl, e, hc]
      exact hr _
    | false => rw [if_neg nofun, if_neg nofun]; exact hr _
theorem closure_eq {sc : Scope} (h : ∀ p ∈ sc.names, p.2 = .free → ∃ c, env.cells.lookup p.1 = some c) : closureFor sc env = pure (clOf env.cells sc.names []) := (congrArg (fun t => t >>= fun s => pure s) (clOf_eq sc.names [] h)).trans rfl
theorem lookup_cons_eq {α : Type} {y n : Str} {a : α} {r : List (Str × α)} {Z : Option α → Prop} (z1 : y = n → Z (some a)) (z2 : y ≠ n → Z (r.lookup y)) : Z (((n, a) :: r).lookup y) := by
  rw [List.lookup_cons]
  cases e : y == n with
  | true => exact z1 (eq_of_beq e)
  | false => exact z2 (beq_eq_false_iff_ne.mp e)
theorem lookup_mem {α : Type} {y : Str} {a : α} : ∀ {r : List (Str × α)}, r.lookup y = some a → (y, a) ∈ r
  | [], h => nomatch h
  | (n, b) :: r, h => lookup_cons_eq (Z := fun o => o = some a → _) (fun e h => by rw [e, Option.some.inj h]; exact .head _) (fun _ h => .tail _ (lookup_mem h)) h
theorem clOf_sub {c : Addr} : ∀ {names : List (Str × NameKind)} {acc : List (Str × Addr)}, (∀ p ∈ names, p.2 = .free → ∃ c, cells.lookup p.1 = some c) → (clOf cells names acc).lookup x = some c → acc.lookup x = some c ∨ cells.lookup x = some c
  | [], acc, _, h => .inl h
  | p :: r, acc, hf, h => by
    have hf' : ∀ p ∈ r, p.2 = .free → ∃ c, cells.lookup p.1 = some c := fun p hp => hf p (.tail _ hp)
    unfold clOf at h
    cases q : (p.2 == NameKind.free) with
    | true =>
      obtain ⟨d, hd⟩ := hf p (.head _) (eq_of_beq q)
      rw [q, if_pos rfl, hd] at h
      exact (clOf_sub hf' h).elim (lookup_cons_eq (Z := fun o => o = some c → _) (fun e g => .inr (by rw [e, hd]; exact g)) fun _ g => .inl g) .inr
    | false => rw [q, if_neg nofun] at h; exact clOf_sub hf' h
theorem clOf_has : ∀ {names : List (Str × NameKind)} {acc : List (Str × Addr)}, ((x, NameKind.free) ∈ names ∨ ∃ c, acc.lookup x = some c) → ∃ c, (clOf cells names acc).lookup x = some c
  | [], acc, h => h.elim (fun h => nomatch h) id
  | p :: r, acc, h => by
    unfold clOf
    cases q : (p.2 == NameKind.free) with
    | true =>
      rw [if_pos rfl]
      refine clOf_has (lookup_cons_eq (Z := fun o => _ ∨ ∃ c, o = some c) (fun _ => .inr ⟨_, rfl⟩) fun hne => h.imp (fun h => (List.mem_cons.mp h).elim (fun e => absurd (congrArg Prod.fst e) hne) id) id)
    | false =>
      rw [if_neg nofun]
      refine clOf_has (h.imp (fun h => (List.mem_cons.mp h).elim (fun e => ?_) id) id)
      subst e; cases q
theorem rel_look {y : Str} : ∀ names : List (Str × NameKind), (names.map fun (n, k) => if (k == NameKind.free && env.scope.kind == .function && env.kindOf n == some .cell) then (n, NameKind.cell) else (n, k)).lookup y = (names.lookup y).map fun k => if (k == NameKind.free && env.scope.kind == .function && env.kindOf y == some .cell) then .cell else k
  | [] => rfl
  | (a, ka) :: r => by
    have e : (if (ka == NameKind.free && env.scope.kind == .function && env.kindOf a == some .cell) = true then (a, NameKind.cell) else (a, ka)) = (a, if (ka == NameKind.free && env.scope.kind == .function && env.kindOf a == some .cell) = true then .cell else ka) := by split <;> rfl
    rw [List.map_cons]
    dsimp only
    rw [e, List.lookup_cons, List.lookup_cons]
    cases q : y == a with
    | true => rw [eq_of_beq q]; rfl
    | false => exact rel_look r
end
noncomputable def dropN (x : Nat) : Loc → Loc
  | [] => []
  | p :: r => match Nat.beq x p.1 with
    | true => dropN x r
    | false => p :: dropN x r
theorem look_dropN {x n : Nat} : ∀ {ρ : Loc}, look n (dropN x ρ) = match Nat.beq n x with | true => none | false => look n ρ
  | [] => by
    show none = _
    split <;> rfl
  | p :: ρ => by
    have ih := look_dropN (x := x) (n := n) (ρ := ρ)
    unfold dropN
    show _ = match Nat.beq n x with | true => none | false => (match Nat.beq n p.1 with | true => some p.2 | false => look n ρ)
    cases q : Nat.beq x p.1 with
    | true =>
      dsimp only
      rw [ih, ← Nat.eq_of_beq_eq_true q]
      cases Nat.beq n x <;> rfl
    | false =>
      show (match Nat.beq n p.1 with | true => some p.2 | false => look n (dropN x ρ)) = _
      rw [ih]
      cases e : Nat.beq n p.1 with
      | true => rw [show Nat.beq n x = false from Bool.eq_false_iff.mpr fun z => nomatch (Nat.eq_of_beq_eq_true z ▸ Nat.eq_of_beq_eq_true e ▸ Nat.beq_refl n : Nat.beq x p.1 = true).symm.trans q]
      | false => rfl
structure CompE (env : Env) (x : Nat) (E : Env) : Prop where
  V : EnvOK E
  kx : E.kindOf (nm x) = some .local
  sub : ∀ y c, E.cells.lookup y = some c → env.cells.lookup y = some c
  loc : ∀ y, E.kindOf y = some .local → y = nm x ∨ y = (".0" : Str)
  cel : ∀ y, E.kindOf y = some .cell ∨ E.kindOf y = some .free → env.kindOf y = some .cell ∧ ∃ c, E.cells.lookup y = some c
structure CompP (env : Env) (cs : Scope) : Prop where
  kind : cs.kind = .function
  nc : ∀ p ∈ cs.names, p.2 ≠ .cell
  loc : ∀ p ∈ cs.names, p.2 = .local → cs.names.lookup p.1 = some .local
  clo : closureFor cs env = pure (clOf env.cells cs.names [])
theorem comp_env {env : Env} (V : EnvOK env) {x : Nat} {cs : Scope} (h1 : compOk x cs = true) (h2 : freeOk cs env.scope = true) : CompP env cs ∧ ∀ D : Addr, env.locals < D → CompE env x (compEnvC cs (clOf env.cells cs.names []) D env) := by
  refine an h1 fun k1 h1 => an h1 fun k2 h1 => an h1 fun k3 h1 => an h1 fun k4 k5 => ?_
  have k1 := of_decide_eq_true k1
  have k3 := of_decide_eq_true k3
  have k2' := List.all_eq_true.mp k2
  have h2' : ∀ p ∈ cs.names, p.2 = .free → env.scope.names.lookup p.1 = some .cell ∧ cs.names.lookup p.1 = some .free := fun p hp e => by
    have z := List.all_eq_true.mp h2 p hp
    rw [e] at z
    exact (Bool.and_eq_true_iff.mp z).imp of_decide_eq_true of_decide_eq_true
  have fcell : ∀ p ∈ cs.names, p.2 = .free → ∃ c, env.cells.lookup p.1 = some c := fun p hp e => V.cel _ (h2' p hp e).1
  have nocell : ∀ p ∈ cs.names, p.2 ≠ .cell := fun p hp e => by
    have z := k2' p hp
    rw [e] at z; cases z
  have loc : ∀ p ∈ cs.names, p.2 = .local → p.1 = nm x ∨ p.1 = (".0" : Str) := fun p hp e => by
    have z := k2' p hp
    rw [e] at z
    exact (Bool.or_eq_true_iff.mp z).imp of_decide_eq_true of_decide_eq_true
  refine ⟨⟨k1, nocell, fun p hp e => (loc p hp e).elim (fun e => e ▸ k3) fun e => e ▸ of_decide_eq_true k4, closure_eq fcell⟩, fun D hD => ?_⟩
  have kinds : ∀ {y : Str} {k : NameKind}, (compEnvC cs (clOf env.cells cs.names []) D env).kindOf y = some k → ∃ k', cs.names.lookup y = some k' ∧ (if (k' == NameKind.free && env.scope.kind == .function && env.kindOf y == some .cell) then NameKind.cell else k') = k := fun h => Option.map_eq_some_iff.mp ((rel_look cs.names).symm.trans h)
  have sub : ∀ y c, (clOf env.cells cs.names []).lookup y = some c → env.cells.lookup y = some c := fun y c h => (clOf_sub fcell h).elim (fun h => nomatch h) id
  have cel : ∀ y, (compEnvC cs (clOf env.cells cs.names []) D env).kindOf y = some .cell ∨ (compEnvC cs (clOf env.cells cs.names []) D env).kindOf y = some .free → env.kindOf y = some .cell ∧ ∃ c, (clOf env.cells cs.names []).lookup y = some c := fun y h => by
    have fr : ∀ {k k'}, k = NameKind.cell ∨ k = .free → cs.names.lookup y = some k' → (if (k' == NameKind.free && env.scope.kind == .function && env.kindOf y == some .cell) then NameKind.cell else k') = k → env.kindOf y = some .cell ∧ ∃ c, (clOf env.cells cs.names []).lookup y = some c := fun {k k'} hk e1 e2 => by
      have hm := lookup_mem e1
      cases k' with
      | free => exact ⟨(h2' _ hm rfl).1, clOf_has (.inl hm)⟩
      | cell => exact absurd rfl (nocell _ hm)
      | _ => exact hk.elim (fun e => nomatch e2.trans e) fun e => nomatch e2.trans e
    exact h.elim (fun h => let ⟨_, e1, e2⟩ := kinds h; fr (.inl rfl) e1 e2) fun h => let ⟨_, e1, e2⟩ := kinds h; fr (.inr rfl) e1 e2
  obtain ⟨fa, hfa, hfl⟩ := V.frm
  refine ⟨⟨k1, V.glob, V.blt, fun a b c ha hb => V.inj a b c (sub _ _ ha) (sub _ _ hb), fun y hy => (cel y (.inl hy)).2, fa, hfa, Nat.le_of_lt (Nat.lt_of_le_of_lt hfl hD)⟩, lookup_relabel_local k3, sub, fun y hy => ?_, cel⟩
  obtain ⟨k', e1, e2⟩ := kinds hy
  have hm := lookup_mem e1
  cases k' with
  | «local» => exact loc _ hm rfl
  | cell => exact absurd rfl (nocell _ hm)
  | free => revert e2; split <;> exact nofun
  | _ => exact nomatch e2
end Mine
namespace Mine
open PySem PySem.W PyProof.Rows PySem.Calls PySem.SeqAt

section
variable {B : Base} {mg mb : Str → Option Value} {env E : Env} {ρ ρ' : Loc} {σ σ' : Sto} {G G' G₃ Gb : Gh} {θ θ' θb : List Addr} {s s' s₁ s₃ : Shared} {A : Around} {C : KCalls Prop} {n : Nat} {L L' K I D : Addr} {m m₃ : Str → Option Value} {oL oK : Obj}
theorem nth_drop {u : AV} : ∀ {l : List AV} {i : Nat}, nth l i = some u → l.drop i = u :: l.drop (i + 1)
  | [], _, h => nomatch h
  | v :: l, 0, h => congrArg (fun z => z :: l) (Option.some.inj h)
  | v :: l, i + 1, h => nth_drop (l := l) (i := i) h
theorem ext_upd {a : Addr} {o : Obj} (x : Ext Gb G) (h : ∀ p ∈ Gb.L, p.1 ≠ a) : Ext Gb (G.upd a o) := fun b ob hb tb => upd_ne (h _ hb) (x b ob hb tb)
theorem ext_drop {a : Addr} (x : Ext Gb G) (h : ∀ p ∈ Gb.L, p.1 ≠ a) : Ext Gb (G.drop a) := fun b ob hb tb => drop_in (h _ hb) (x b ob hb tb)
theorem enter_mono (C : Core B L σ G θ m s) (H : EnterH s s₁ L L' oL []) (C3 : Core B L σ' G₃ θ' m₃ s₃) (H3 : EnterH s₃ s₁ L L' oL []) (x : ExtL G G₃) : Ext (G.enter L oL []) (G₃.enter L oL []) := fun a o h t => (List.mem_cons.mp h).elim
  (fun e => by cases e; exact (C.enterL H).2.symm ▸ C3.enterL H3) fun h => by
    cases e : G.tg a with
    | loc => exact (C.enterLoc H ⟨h, e⟩).2.symm ▸ C3.enterLoc H3 (x.at ⟨h, e⟩ nofun)
    | cell i => rw [(C.enterIn H ⟨h, e⟩ rfl).2] at t; cases t
    | fix => exact (C.enterIn H ⟨h, e⟩ rfl).2.symm ▸ C3.enterIn H3 (x.at ⟨h, e⟩ nofun) rfl
    | itr => exact (C.enterIn H ⟨h, e⟩ rfl).2.symm ▸ C3.enterIn H3 (x.at ⟨h, e⟩ nofun) rfl
theorem Rel.dropNot {h' : Heap} {tk : Nat} (R : Rel B env ρ σ G θ s) (hK : In G .itr K oK) (nc : ∀ v, oK.data ≠ .cell v) (hs : ∀ b o, b ≠ K → s.heap.get? b = some o → h'.get? b = some o) : Rel B env ρ σ (G.drop K) θ { s with heap := h', toks := tk } :=
  R.liftNot (fun m C => (C.drop hK.2).onHeapNot (fun p hp => (drop_mem.mp hp).2) (C.N _ hK.1).2.1 (C.N _ hK.1).2.2 hs) (drop_ext0 hK.2) (.refl _) hK.1 nc fun t c o ne h => drop_in ne h
theorem St.dropHeap {S0 : St B env ρ s} {mk : Str → Option Value} {h' : Heap} {tk : Nat} (S : St B env ρ' s') (le : S0.Le S) (hK : In S.G .itr K oK) (ns : s'.heap.Ns K mk) (hs : Heap.SameBut K s'.heap h') (x : Ext S0.G (S.G.drop K)) :
    ∃ S' : St B env ρ' { s' with heap := h', toks := tk }, S0.Le S' ∧ S'.σ = S.σ ∧ ∀ {v w}, S.V v w → S'.V v w := by
  have nc : ∀ v, oK.data ≠ .cell v := fun v e => by
    obtain ⟨o, es, ep, h1, h2, _⟩ := ns
    obtain rfl := Option.some.inj ((S.R.get hK.1).symm.trans h1)
    exact nomatch h2.symm.trans e
  exact ⟨⟨_, _, _, S.R.dropNot hK nc fun b o hb => (hs.2 b hb).trans⟩, ⟨x, le.p⟩, rfl, fun h => h.ext0 (drop_ext0 hK.2) (.refl _)⟩
inductive CInv (B : Base) (A : Around) (E : Env) (ρ : Loc) (f : AV → Sto → (AV → Sto → Prop) → Prop) (l : List AV) (Gb : Gh) (θb : List Addr) (I D : Addr) (W : Nat → Heap → Prop) (Q : AV → Sto → Prop) (k : Nat) (s : Shared) : Prop
  | mk {σ : Sto} {G : Gh} {θ : List Addr} {done : List AV} {dv : List Value} {o : Obj} {dk : Nat} {κ : List AV → Sto → Prop} (hk : done.length + k = l.length) (q : loopLK f (l.drop done.length) σ κ) (hκ : ∀ ws σ', κ ws σ' → Q (.fl (done ++ ws)) σ')
    (R : Rel B E ρ σ G θ s) (x : Ext Gb G) (p : Pre θb θ) (hI : In G .itr I o) (hD : In G .itr D (listOf (List.toArray dv) dk)) (hv : VRs B G θ done dv) (w : W done.length s.heap) (It : Iter B A G θ I l W) : CInv B A E ρ f l Gb θb I D W Q k s
variable {l : List AV} {W : Nat → Heap → Prop} {Q : AV → Sto → Prop} {x : Nat}
theorem thenE {EE : Value → Shared → Prop} {S : St B env ρ s} {t : Sem Value} {Q : AV → Sto → Prop} {K : Value → Shared → Prop} (h : Wp B A t (Got S Q) s) (k : ∀ {w s'} (S' : St B env ρ s') {v}, S.Le S' → S'.V v w → Q v S'.σ → K w s') : wpAny (model B.prog B.w) A t K EE s :=
  wpAny_mono h (fun _ _ ⟨S', _, le, hv, q⟩ => k S' le hv q) fun _ _ q => q.elim
theorem comp_turn {c : CK} {f : Sm Prop} (he : COK B n c f) (V : EnvOK E) (kx : E.kindOf (nm x) = some .local) {y : Expr} {zp : Pos} (hc : c E.scope y = true) (hr : Room A (n + 1)) (hl : l.length < 1000000) (hID : I < D) (fr : ∀ p ∈ Gb.L, p.1 ≠ I ∧ p.1 ≠ D) {k : Nat} {R : Shared → Prop} {EE : Value → Shared → Prop}
    (h : CInv B A E (dropN x ρ) (fun u τ k' => f ((x, u) :: ρ) τ k') l Gb θb I D W Q k s)
    (fin : ∀ {σ : Sto} {G : Gh} {θ : List Addr} {done : List AV} {dv : List Value} {dk : Nat} {h' : Heap} {tk : Nat}, Rel B E (dropN x ρ) σ (G.drop I) θ { s with heap := h', toks := tk } → Ext Gb (G.drop I) → Pre θb θ → In (G.drop I) .itr D (listOf (List.toArray dv) dk) → VRs B (G.drop I) θ done dv → Q (.fl done) σ → R { s with heap := h', toks := tk }) :
    wpAny (model B.prog B.w) A (pyNext (.ref I)) (fun r s₁ => match r with
      | none => R s₁
      | some v => wpAny (model B.prog B.w) A (assign (.Name (nm x) zp) E v) (fun _ s₂ => wpAny (model B.prog B.w) A (eval y E) (fun w s₃ =>
          wpAny (model B.prog B.w) A (call (.builtin "list.append") [.ref D, w]) (fun _ s₄ => ∃ j, j < k ∧ CInv B A E (dropN x ρ) (fun u τ k' => f ((x, u) :: ρ) τ k') l Gb θb I D W Q j s₄) EE s₃) EE s₂) EE s₁) EE s := by
  obtain ⟨hk, q, hκ, R, ex, p, hI, hD, hv, w, It⟩ := h
  rename_i σ G θ done dv o dk κ
  have neD : D ≠ I := (Nat.ne_of_lt hID).symm
  cases k with
  | zero =>
    have hk : done.length = l.length := hk
    rw [hk, List.drop_length] at q
    rw [hk] at w
    have nc := It.nc R hI w
    exact It.fin w fun h5 tk hk5 => fin (R.dropNot hI nc hk5) (ext_drop ex fun p hp => (fr p hp).1) p (drop_in neD hD) (hv.ext0 (drop_ext0 hI.2) (.refl _)) (List.append_nil done ▸ hκ _ _ q)
  | succ k =>
    have hlt : done.length < l.length := by omega
    refine It.next R hI w hlt fun v0 u0 o' s5 g1 g2 g3 g4 g7 g8 => ?_
    have g5 : In (G.upd I o') .itr D (listOf (List.toArray dv) dk) := upd_ne neD hD
    rw [nth_drop g1] at q
    have q : f ((x, u0) :: ρ) σ fun w σ' => loopLK (fun u τ k' => f ((x, u) :: ρ) τ k') (l.drop (done.length + 1)) σ' fun ws σ'' => κ (w :: ws) σ'' := q
    refine wpAny_assign_Name (put_local V ⟨_, _, _, g3⟩ kx g2 fun s6 R6 => ?_)
    have R6' : Rel B E ((x, u0) :: ρ) σ (G.upd I o') θ s6 := R6.congr (fun j v h => by
      rw [look_put_if, look_dropN]
      unfold look at h
      revert h
      cases Nat.beq j x <;> exact id)
    refine thenE (he E A V hr y hc _ _ ⟨_, _, _, R6'⟩ _ q).e fun {w2 s7} S7 v7 le hv7 q => ?_
    have D7 := le.x.itr g5
    have I7 := le.x.itr g4
    have hdl := hv.length
    refine append_at (S7.R.get D7.1) ?_ (by show dv.length ≤ 2 ^ 24; omega)
    obtain ⟨dk', e7⟩ := seq_map (f := (·.push w2)) (vs := dv) (n := dk)
    have e7 := e7.trans (congrArg (fun z => listOf z dk') (List.push_toArray ..))
    have d7 : (s7.heap.update D (Obj.mapSeq (·.push w2))).get? D = some (listOf (List.toArray (dv ++ [w2])) dk') := (Heap.get?_update_self _ (S7.R.get D7.1) (by rw [e7]; rfl)).trans (congrArg some e7)
    have keep : ∀ b ob, b ≠ D → s7.heap.get? b = some ob → (s7.heap.update D (Obj.mapSeq (·.push w2))).get? b = some ob := fun b ob hb => ((Heap.SameBut.update s7.heap D _).2 b hb).trans
    have R8 := S7.R.turnItr (tk := s7.toks) D7 nofun keep d7
    have x8 : Ext0 S7.G (S7.G.upd D (listOf (List.toArray (dv ++ [w2])) dk')) := upd_ext0 fun e => nomatch D7.2.symm.trans e
    have w8 : W (done.length + 1) s7.heap := g8.keep g3 g4 g7 le.x S7.R
    have ln : (done ++ [v7]).length = done.length + 1 := List.length_append
    have xi : Ext0 G (G.upd I o') := upd_ext0 fun e => nomatch hI.2.symm.trans e
    refine ⟨k, Nat.lt_succ_self _, .mk (by rw [ln]; omega) (by rw [ln]; exact q) (fun ws σ' h => by rw [List.append_assoc]; exact hκ _ _ h) (R8.congr fun j v h => ?_) (ext_upd ((ext_upd ex fun p hp => (fr p hp).1).trans le.x) fun p hp => (fr p hp).2) (p.trans le.p) (upd_ne neD.symm I7) (upd_eq D7)
      (VRs.app (hv7.ext0 x8 (.refl _)) (((hv.ext0 xi (.refl _)).ext le.x le.p).ext0 x8 (.refl _))) (by rw [ln]; exact g8.other hID w8 keep) ((g8.ext le.x le.p).updD hID x8)⟩
    rw [look_dropN] at h
    unfold look
    revert h
    cases Nat.beq j x
    · exact id
    · exact nofun
end
end Mine
namespace Mine
open PySem PySem.W PyProof.Rows PySem.Calls PySem.SeqAt

section
variable {B : Base} {mg mb : Str → Option Value} {env E : Env} {ρ : Loc} {s s0 : Shared} {A : Around} {C : KCalls Prop} {n : Nat} {S0 : St B env ρ s0}
theorem notSet_ok {i : Expr} (h : notSet i = true) (w : Value) : foldedSetIterable i env w = pure w := by
  unfold foldedSetIterable
  split
  · cases h
  · rfl
theorem comp_names {x : Nat} {G Ge : Gh} {θ : List Addr} {m : Str → Option Value} (Nm : Names B G θ env ρ m) (W : CompE env x E) (hE : lcTag E = .itr) (x0 : Ext0 G Ge) (old : ∀ c o, In G (lcTag env) c o → In Ge .itr c o) : Names B Ge θ E (dropN x ρ) fun _ => none where
  vals := fun k u hk h0 => by
    rw [look_dropN] at hk
    cases e : Nat.beq k x with
    | true => rw [e] at hk; cases hk
    | false =>
      rw [e] at hk
      refine ⟨fun h => (W.loc _ h).elim (fun q => absurd (nm_inj q ▸ Nat.beq_refl k) (Bool.eq_false_iff.mp e)) fun q => absurd q h0, fun h => ?_⟩
      obtain ⟨e1, c, e2⟩ := W.cel _ h
      obtain ⟨c', o, w, g1, g2, g3, g4⟩ := (Nm.vals k u hk h0).2 (.inl e1)
      obtain rfl := Option.some.inj ((W.sub _ _ e2).symm.trans g1)
      exact ⟨c, o, w, e2, hE.symm ▸ old _ _ g2, g3, g4.ext0 x0 (.refl _)⟩
  cells := fun y c hy => let ⟨o, v, h1, h2⟩ := Nm.cells y c (W.sub _ _ hy); ⟨o, v, hE.symm ▸ old _ _ h1, h2⟩
theorem lcp_run {ce : CK} {fe : Sm Prop} {x : Nat} (he : COK B n ce fe) (V : EnvOK env) (hr : Room A (n + 1)) {y i : Expr} {zp p : Pos} {cs : Scope} {Kf I D : Addr} (W : CompE env x E) (hEl : E.locals = Kf) (hEf : E.frame = env.frame) (hce : ce E.scope y = true) (S : St B env ρ s) {s₃ s₄ : Shared} {G₃ : Gh} {io : Obj} {l : List AV} {W0 : Nat → Heap → Prop}
    (x3 : ExtL S.G G₃) (R₃ : Rel B env ρ S.σ G₃ S.θ s₃) (gI : In G₃ .itr I io) (gD : In G₃ .itr D (listOf #[] 0)) (hI : s.heap.objs.size = I) (ID : I < D) (hK : s₃.heap.objs.size = Kf) (IK : I ≤ Kf) (k13 : ∀ b o, s.heap.get? b = some o → s₃.heap.get? b = some o) (k34 : ∀ b o, s₃.heap.get? b = some o → s₄.heap.get? b = some o)
    (ns : s₄.heap.Ns Kf fun _ => none) (g3 : s₃.gens = s.gens ∧ s₃.os = s.os) (g4 : s₄.gens = s.gens ∧ s₄.os = s.os) (It : Iter B A G₃ S.θ I l W0) (w : W0 0 s₃.heap) {Q : AV → Sto → Prop} (q : loopLK (fun u τ k' => fe ((x, u) :: ρ) τ k') l S.σ fun ws σ => Q (.fl ws) σ) (hl : l.length < 1000000) (use : Option (Value → Sem Unit)) (K : Value → Shared → Prop)
    (fin : ∀ {mk : Str → Option Value} {oK : Obj} {s' : Shared} (S' : St B env ρ s') {v : AV}, S.Le S' → In S'.G .itr Kf oK → s'.heap.Ns Kf mk → Ext S.G (S'.G.drop Kf) → S'.V v (.ref D) → Q v S'.σ → compPost (model B.prog B.w) A NoE use K (.ref D) Kf (.ok .next) s') :
    codeAny (model B.prog B.w) A (.compStart (.ListComp y [⟨.Name (nm x) zp, i, [], 0⟩] cs p) 0 (.ref I) (.ref D) E) (compPost (model B.prog B.w) A NoE use K (.ref D) Kf) s₄ := by
  obtain ⟨m₁, C₁, Nm₁⟩ := S.R.core
  obtain ⟨m₃, C₃, _⟩ := R₃.core
  obtain ⟨oL, hoL⟩ : ∃ oL, s.heap.get? env.locals = some oL := let ⟨o, _, _, h, _⟩ := C₁.fr.ns; ⟨o, h⟩
  have e1K : s.heap.objs.size ≤ Kf := hI ▸ IK
  have H1 : EnterH s s₄ env.locals Kf oL [] := ⟨fun b o h => k34 _ _ (k13 _ _ h), hoL, e1K, (fun p hp => nomatch hp), List.nodup_nil, g4.1, g4.2⟩
  have H3 : EnterH s₃ s₄ env.locals Kf oL [] := ⟨k34, k13 _ _ hoL, Nat.le_of_eq hK, (fun p hp => nomatch hp), List.nodup_nil, g4.1.trans g3.1.symm, g4.2.trans g3.2.symm⟩
  have hLK : env.locals < Kf := Nat.lt_of_lt_of_le C₁.fr.ns.lt e1K
  have C₄ := C₃.enter H3 ns
  have xE := enter_mono C₁ H1 C₃ H3 x3
  have x34 := C₃.enterExt H3
  have hlct : lcTag E = .itr := if_neg fun e => by
    obtain ⟨fa, f1, f2⟩ := V.frm
    rw [hEf, hEl] at e
    exact absurd (Nat.lt_of_le_of_lt f2 hLK) (Option.some.inj (f1.symm.trans e) ▸ Nat.lt_irrefl _)
  have old : ∀ c o, In S.G (lcTag env) c o → In (G₃.enter env.locals oL []) .itr c o := fun c o h => by
    unfold lcTag at h
    split at h
    · exact C₃.enterLoc H3 (x3.at h nofun)
    · exact C₃.enterIn H3 (x3.at h nofun) rfl
  have R₄ : Rel B E (dropN x ρ) S.σ (G₃.enter env.locals oL []) S.θ s₄ := ⟨_, hEl.symm ▸ C₄, comp_names Nm₁ W hlct (x3.ext.trans x34).fixes old⟩
  have fresh : ∀ p ∈ (S.G.enter env.locals oL []).L, p.1 ≠ I ∧ p.1 ≠ D := fun p hp => by
    have h1 : p.1 < I := hI ▸ (List.mem_cons.mp hp).elim (fun e => e ▸ C₁.fr.ns.lt) fun hp => Heap.lt_size (C₁.N p hp).1
    exact ⟨Nat.ne_of_lt h1, Nat.ne_of_lt (Nat.lt_trans h1 ID)⟩
  have w4 := It.keep R₃ gI w x34 R₄
  have It4 := It.ext x34 (.refl _)
  refine (fun loop => codeAny_compStart_list loop (It4.self w4 loop)) (codeAny_compLoop_list (CInv B A E (dropN x ρ) (fun u τ k' => fe ((x, u) :: ρ) τ k') l (S.G.enter env.locals oL []) S.θ I D W0 Q) (fun k s hk => ?_) l.length (.mk (done := []) (dv := []) (Nat.zero_add _) q (fun _ _ h => h) R₄ xE (.refl _) (x34.itr gI) (x34.itr gD) .nil w4 It4))
  refine comp_turn (zp := zp) (R := fun s => compPost (model B.prog B.w) A NoE use K (.ref D) Kf (.ok .next) s) he W.V W.kx hce hr hl ID fresh hk ?_
  intro σ G θ done dv dk h' tk R ex p hD hv q
  obtain ⟨mk, Ck, _⟩ := R.core
  rw [hEl] at Ck
  obtain ⟨Cl, xl, x0l⟩ := C₁.leave H1 Ck ex
  have nD : ∀ p ∈ S.G.L, p.1 ≠ D := fun p hp => (fresh p (.tail _ hp)).2
  have nK : ∀ p ∈ (S.G.leave (G.drop I) env.locals).L, p.1 ≠ Kf := fun p hp => (Ck.N p (List.mem_filter.mp hp).1).2.1
  have tD : (S.G.leave (G.drop I) env.locals).tg D = .itr := (if_neg fun e => let ⟨ob, q⟩ := hasK_iff.mp e.1; nD _ q rfl).trans hD.2
  have mD : (D, listOf (List.toArray dv) dk) ∈ (S.G.leave (G.drop I) env.locals).L := List.mem_filter.mpr ⟨hD.1, decide_eq_true fun e => (fresh (env.locals, oL) (.head _)).2 (Eq.symm e)⟩
  have Cr := Cl.retagFix tD
  obtain ⟨oK, hoK⟩ : ∃ oK, h'.get? Kf = some oK := let ⟨o, _, _, h, _⟩ := Ck.fr.ns; ⟨o, h⟩
  have lo : B.h₀.objs.size ≤ Kf := Nat.le_trans S.R.sizeLe e1K
  have CK := Cr.add (D := Kf) (o := oK) (h' := h') (tk := tk) .itr nK lo Cr.fr fun p hp => (List.mem_cons.mp hp).elim (fun e => e ▸ ⟨hoK, Nat.ne_of_gt hLK, Heap.get?_none_of_le lo⟩) (Cr.N p)
  have xK : ExtL ((S.G.leave (G.drop I) env.locals).retag D .fix) (((S.G.leave (G.drop I) env.locals).retag D .fix).push Kf oK .itr) := pushL nK
  have xr : ExtL S.G ((S.G.leave (G.drop I) env.locals).retag D .fix) := fun a o h t => retag_ne (nD _ h) (xl a o h t)
  have x := (xr.trans xK).ext
  exact fin ⟨σ, _, θ, m₁, CK, Nm₁.extL (xr.trans xK) p⟩ ⟨x, p⟩ push_new Ck.fr.ns (ext_drop x fun p hp => Nat.ne_of_lt (Nat.lt_of_lt_of_le (S.R.lt hp) e1K))
    (.fl (o := listOf (List.toArray dv) dk) (vs := dv) (k := dk) (.inr (push_old (nK _ mD) (retag_eq mD))) rfl rfl (((hv.ext0 x0l (.refl _)).ext0 (retag_ext0 tD) (.refl _)).ext xK.ext (.refl _))) q
theorem lcp_gen (H : Hyp B mg mb C n) {ce ci : CK} {fe fi : Sm Prop} {x : Nat} (he : COK B n ce fe) (hi : COK B n ci fi) (V : EnvOK env) (hr : Room A (n + 1)) {y i : Expr} {zp p : Pos} {cs : Scope} (c2 : compOk x cs = true) (c3 : freeOk cs env.scope = true) (c4 : notSet i = true) (c5 : ci env.scope i = true) (c6 : ce (relab cs env.scope) y = true)
    (S : St B env ρ s) {Q : AV → Sto → Prop} (h : kLcp False fe x fi ρ S.σ Q) (use : Option (Value → Sem Unit)) (K : Value → Shared → Prop)
    (fin : ∀ {D Kf : Addr} {mk : Str → Option Value} {oK : Obj} {s' : Shared} (S' : St B env ρ s') {v : AV}, S.Le S' → In S'.G .itr Kf oK → s'.heap.Ns Kf mk → Ext S.G (S'.G.drop Kf) → S'.V v (.ref D) → Q v S'.σ → compPost (model B.prog B.w) A NoE use K (.ref D) Kf (.ok .next) s') :
    wpAny (model B.prog B.w) A (comprehension (.ListComp y [⟨.Name (nm x) zp, i, [], 0⟩] cs p) cs env (firstIterPos [⟨.Name (nm x) zp, i, [], 0⟩] p) (newList []) false (eval i env) use) K NoE s := by
  obtain ⟨P, W⟩ := comp_env V c2 c3
  refine wpAny_comprehension_free (use := use) rfl (notSet_ok c4) P.clo P.kind P.loc ?_
  refine then_ (hi env A V hr i c5 ρ s S _ h).e fun {w s₁} S1 u le hw q => iter_rule H.O hr.hh S1 hw q fun l hd Gb q As io W0 R₂ st0 It => ?_
  cases hd with
  | some _ => exact (q : False).elim
  | none =>
  obtain rfl := As.nl rfl
  refine in_br (q : br (Nat.blt l.length 1000000) (loopLK (fun u τ k' => fe ((x, u) :: ρ) τ k') l S1.σ fun ws σ₂ => Q (.fl ws) σ₂) False) fun qlen q => ?_
  have R₂ : Rel B env ρ S1.σ (S1.G.push s₁.heap.objs.size io .itr) S1.θ { s₁ with heap := s₁.heap.push io } := R₂
  refine wpAny_newList (wpAny_newFunctionEnv P.nc (fun x hx => nomatch hx) (fun h' hns hsb => ?_) P.kind) (by show 0 ≤ _; exact Nat.zero_le _)
  have R₃ := R₂.push (listOf #[] 0) .itr
  have sD : (s₁.heap.push io).objs.size = s₁.heap.objs.size + 1 := Heap.size_push _ _
  have sK : ((s₁.heap.push io).push (listOf #[] 0)).objs.size = s₁.heap.objs.size + 1 + 1 := (Heap.size_push _ _).trans (congrArg (· + 1) sD)
  have e1 : s₁.heap.objs.size ≤ ((s₁.heap.push io).push (listOf #[] 0)).objs.size := by omega
  have e2 : s₁.heap.objs.size < (s₁.heap.push io).objs.size := by omega
  have gI := push_new (G := S1.G) (a := s₁.heap.objs.size) (o := io) (t := .itr)
  have x23 := pushL (o := listOf #[] 0) (t := .itr) R₂.fresh
  exact lcp_run (s₄ := { s₁ with heap := h', toks := s₁.toks + 0 }) he V hr (W _ (Nat.lt_of_lt_of_le (let ⟨_, C, _⟩ := S1.R; C.fr.ns.lt) e1)) rfl rfl c6 S1 ((pushL S1.R.fresh).trans x23) R₃ (x23.at gI nofun) push_new rfl e2 rfl e1 (fun b o h => Heap.get?_push_of_some _ (Heap.get?_push_of_some _ h)) (fun b o h => hsb.extBut b o (Nat.ne_of_lt (Heap.lt_size h)) (Heap.get?_push_of_some _ h))
    hns ⟨rfl, rfl⟩ ⟨rfl, rfl⟩ (It.ext x23.ext (.refl _)) (It.keep R₂ gI st0 x23.ext R₃) q (Nat.le_of_ble_eq_true qlen) use K fun S' v l a b c hv q => fin S' (le.trans l) a b (le.x.trans c) hv q
theorem lcp_shape {x : Nat} {cs sc : Scope} {ci ce : CK} {y : Expr} {Z : List Comprehension → Prop} {gs : List Comprehension} (h : on1 gs (fun g => onName g.target fun z => same x z && (g.ifs.isEmpty && (decide (g.is_async = 0) && (compOk x cs && (freeOk cs sc && (notSet g.iter && (ci sc g.iter && ce (relab cs sc) y))))))) = true)
    (z : ∀ zp i, compOk x cs = true → freeOk cs sc = true → notSet i = true → ci sc i = true → ce (relab cs sc) y = true → Z [⟨.Name (nm x) zp, i, [], 0⟩]) : Z gs := in1 h fun g h => by
  obtain ⟨t, i, ifs, a⟩ := g
  refine inName (Z := fun t => Z [⟨t, i, ifs, a⟩]) h fun n zp h => an h fun h1 h => an h fun h2 h => an h fun h3 h => an h fun h4 h => an h fun h5 h => an h fun h6 h => an h fun h7 h8 => ?_
  obtain rfl := same_eq h1
  obtain rfl : ifs = [] := List.isEmpty_iff.mp h2
  obtain rfl : a = 0 := of_decide_eq_true h3
  exact z zp i h4 h5 h6 h7 h8
theorem e_lcp (H : Hyp B mg mb C n) {ce ci : CK} {fe fi : Sm Prop} {x : Nat} (he : COK B n ce fe) (hi : COK B n ci fi) : COK B n (cLcp x ce ci) (kLcp False fe x fi) := fun env A V hr y (hc : onLcp y (fun y gs cs _ => on1 gs fun g => onName g.target fun z => same x z && (g.ifs.isEmpty && (decide (g.is_async = 0) && (compOk x cs && (freeOk cs env.scope && (notSet g.iter && (ci env.scope g.iter && ce (relab cs env.scope) y))))))) = true) =>
  inLcp hc fun y gs cs p hc => lcp_shape (Z := fun gs => Snd B env A (kLcp False fe x fi) (.ListComp y gs cs p)) hc fun zp i c2 c3 c4 c5 c6 ρ s S Q h => .of (by
    rw [arm_eval_ListComp]
    exact lcp_gen H he hi V hr c2 c3 c4 c5 c6 S h none _ fun {D Kf mk oK s'} S' v le hK ns x hv q => ⟨mk, ns, fun h6 hs6 => let ⟨S6, le6, e6, k6⟩ := St.dropHeap (tk := s'.toks) S' le hK ns hs6 x; ⟨S6, v, le6, k6 hv, e6.symm ▸ q⟩⟩)
theorem e_bad : COK B n cBad (kBad False) := fun env A V hr x hc ρ s S Q h => (h : False).elim
end
theorem ev_snd {B : Base} {mg mb : Str → Option Value} {C : KCalls Prop} {n : Nat} (H : Hyp B mg mb C n) (e : E) : COK B n (chkE B.P e) (evK B.P C False e) :=
  E.rec (motive_1 := fun e => COK B n (chkE B.P e) (evK B.P C False e)) (motive_2 := fun es => COKs B n (chkEs B.P es) (evL B.P C False es))
    (fun _ => e_con) (fun _ => e_nam) (fun _ => e_glb H) (fun _ hs => e_and hs) (fun _ hs => e_or hs) (fun _ a => e_not a) (fun _ a => e_neg a) (fun _ _ _ a b => e_cmp H a b) (fun _ _ _ t a b => e_ite t a b) (fun _ _ _ a b => e_bin a b) (fun _ _ a => e_att H a) (fun _ _ a b => e_sub H a b) (fun _ _ _ a => e_slc a)
    (fun _ hs => e_tup hs) (fun _ _ hs => e_lst hs) e_snk (fun _ _ es _ => e_dct) (fun _ _ _ hs => e_cal H hs) (fun _ _ _ hs => e_cls H hs) (fun _ _ _ _ _ hs a => e_clk H hs a) (fun _ _ _ a hs => e_mth H a hs) (fun _ _ a b => e_app H a b) (fun _ _ hs => e_cav H hs)
    (fun _ _ a => e_f1 H a) (fun _ _ _ a b => e_f2 H a b) (fun _ _ _ a b => e_lcp H a b) e_bad es_nil (fun _ _ a hs => es_cons a hs) e
end Mine
namespace Mine
open PySem PySem.W PyProof.Rows PySem.Calls PySem.SeqAt

structure EnvFn (env : Env) : Prop where
  ok : EnvOK env
  own : env.frame = some env.locals
inductive FR {B : Base} {env : Env} {ρ : Loc} {s : Shared} (S : St B env ρ s) (Q : Fl → Loc → Sto → Prop) : Flow → Shared → Prop
  | nxt {ρ' : Loc} {s' : Shared} (S' : St B env ρ' s') (le : S.Le S') (q : Q .nxt ρ' S'.σ) : FR S Q .next s'
  | cont {ρ' : Loc} {s' : Shared} (S' : St B env ρ' s') (le : S.Le S') (q : Q .cont ρ' S'.σ) : FR S Q .cont s'
  | ret {ρ' : Loc} {s' : Shared} {v : AV} {w : Value} (S' : St B env ρ' s') (le : S.Le S') (hv : S'.V v w) (q : Q (.ret v) ρ' S'.σ) : FR S Q (.ret w) s'
structure TSnd (B : Base) (env : Env) (A : Around) (f : Tm Prop) (x : Expr) : Prop where
  star : ∀ xs, assignEach (x :: xs) env = (false, assign x env) :: assignEach xs env
  sw : ∀ v, plainSt x v = true → swappedStores [x] v env = pure none
  a : ∀ (ρ : Loc) (s : Shared) (S : St B env ρ s) (v : AV) (w : Value) (K : Loc → Sto → Prop), S.V v w → f v ρ S.σ K → Wp B A (assign x env w) (Did S K) s
noncomputable abbrev TOK (B : Base) (n : Nat) (c : CK) (f : Tm Prop) : Prop := ∀ (env : Env) (A : Around), EnvFn env → Room A (n + 1) → ∀ x, c env.scope x = true → TSnd B env A f x
noncomputable abbrev SOK (B : Base) (n : Nat) (c : SK) (f : Xm Prop) : Prop := ∀ (env : Env) (A : Around), EnvFn env → Room A (n + 1) → ∀ x, c env.scope x = true → ∀ (ρ : Loc) (s : Shared) (S : St B env ρ s) (Q : Fl → Loc → Sto → Prop), f ρ S.σ Q → Wp B A (exec x env) (FR S Q) s
noncomputable abbrev SOKs (B : Base) (n : Nat) (c : SKs) (f : Xm Prop) : Prop := ∀ (env : Env) (A : Around), EnvFn env → Room A (n + 1) → ∀ xs, c env.scope xs = true → ∀ (ρ : Loc) (s : Shared) (S : St B env ρ s) (Q : Fl → Loc → Sto → Prop), f ρ S.σ Q → Wp B A (execs xs env) (FR S Q) s
theorem in_P {Z : AV → Prop} {v : AV} {k : AV → AV → Prop} (h : asP v k False) (z : ∀ a b, k a b → Z (.tup [a, b])) : Z v := by
  unfold asP at h
  split at h
  · exact z _ _ h
  · exact h.elim
theorem two_names {a b : Expr} (h : (notName a || notName b) = true) (f : Expr → Option Str) (hf : ∀ x, notName x = true → f x = none) : ([a, b].filterMap f).length ≠ 2 := fun e => by
  have l1 := List.length_filterMap_le f [b]
  rcases Bool.or_eq_true_iff.mp h with h | h
  · rw [List.filterMap_cons, hf a h] at e
    have e2 : ([b].filterMap f).length = 2 := e
    exact absurd (Nat.le_trans (Nat.le_of_eq e2.symm) l1) (by show ¬ 2 ≤ 1; decide)
  · rw [List.filterMap_cons, List.filterMap_cons, hf b h] at e
    revert e
    cases f a <;> exact nofun
theorem not_swapped {env : Env} {v a b : Expr} {u : Nat} {p : Pos} (h : (!Nat.beq v.ctorIdx 25 || (notName a || notName b)) = true) : swappedStores [.Tuple [a, b] u p] v env = pure none := by
  unfold swappedStores
  dsimp only
  split
  · rename_i ts vs e
    split at e
    · rename_i ts' _ _ vs' _ _ e1
      obtain ⟨e2, _⟩ := List.cons.inj e1
      obtain ⟨e2, _⟩ := Expr.Tuple.inj e2
      obtain ⟨e3, e4⟩ := Prod.mk.inj (Option.some.inj e)
      obtain rfl := e3.symm.trans e2.symm
      have h : (notName a || notName b) = true := h
      split
      · rfl
      · split
        · rfl
        · rw [if_pos]
          refine Bool.or_eq_true_iff.mpr (.inl (bne_iff_ne.mpr (two_names h _ fun x hx => ?_)))
          split
          · cases hx
          · rfl
    · rename_i e1; exact nomatch (List.cons.inj e1).1
    · cases e
  · rfl
theorem sole_false {env : Env} {v t : Expr} {line : Nat} (h : (notComp v || notName t) = true) : swapsWithSole [t] v line env = pure false := by
  show swapsWith v (some t) line env = pure false
  unfold swapsWith
  split
  · rename_i sc e
    have ht : notName t = true := (Bool.or_eq_true_iff.mp h).elim (fun h => by split at e <;> first | cases h | cases e) id
    split
    · rename_i e; cases e
    · rename_i e; cases e; cases ht
    · rfl
  · rfl
theorem none_false {env : Env} {v : Expr} {line : Nat} (h : notComp v = true) : swapsWith v none line env = pure false := by
  unfold swapsWith
  split
  · rename_i sc e
    split at e
    · cases h
    · cases h
    · cases h
    · cases e
  · rfl
section
variable {B : Base} {mg mb : Str → Option Value} {env : Env} {ρ ρ' : Loc} {s s' s0 : Shared} {A : Around} {C : KCalls Prop} {n : Nat} {S0 : St B env ρ s0}
theorem FR.le {ρ0 : Loc} {S0 : St B env ρ0 s0} {S : St B env ρ s} {Q : Fl → Loc → Sto → Prop} {fl : Flow} (le : S0.Le S) : FR S Q fl s' → FR S0 Q fl s'
  | .nxt S' l q => .nxt S' (le.trans l) q
  | .cont S' l q => .cont S' (le.trans l) q
  | .ret S' l hv q => .ret S' (le.trans l) hv q
theorem thenD {t : Sem Unit} {Q : Loc → Sto → Prop} {K : Unit → Shared → Prop} (h : Wp B A t (Did S0 Q) s) (k : ∀ {s' ρ'} (S' : St B env ρ' s'), S0.Le S' → Q ρ' S'.σ → K () s') : Wp B A t K s :=
  wpAny_mono h (fun _ _ ⟨S', le, q⟩ => k S' le q) fun _ _ q => q
theorem TSnd.next {f : Tm Prop} {x : Expr} (T : TSnd B env A f x) (S : St B env ρ s) (le : S0.Le S) {v : AV} {w : Value} {K : Loc → Sto → Prop} (hv : S.V v w) (h : f v ρ S.σ K) {R : Unit → Shared → Prop} (k : ∀ {s' ρ'} (S' : St B env ρ' s'), S0.Le S' → K ρ' S'.σ → R () s') : Wp B A (assign x env w) R s :=
  thenU (T.a ρ s S v w K hv h) fun S' l q => k S' (le.trans l) q
theorem tg_nam {k : Nat} : TOK B n (dNam k) (tNam k) := fun env A V hr x (hc : onName x (fun y => same k y && (locOk env.scope y && !(decide (env.scope.names.lookup y = some .free)))) = true) => inName hc fun y p hc => an hc fun c1 hc => an hc fun c2 c3 => by
  obtain rfl := same_eq c1
  exact ⟨fun _ => rfl, fun _ _ => rfl, fun ρ s S v w K hv h => wpAny_assign_Name (put_name V.ok V.own S S.le c2 (of_decide_eq_false (nt c3)) hv h)⟩
theorem tg_att (H : Hyp B mg mb C n) {e : E} {k : Nat} : TOK B n (dAtt B.P e k) (tAtt B.P False (evK B.P C False e) k) := fun env A V hr x (hc : onAttr x (fun o y _ => same k y && chkE B.P e env.scope o) = true) => inAttr hc fun o y p hc => an hc fun c1 c2 => by
  obtain rfl := same_eq c1
  refine ⟨fun _ => rfl, fun _ _ => rfl, fun ρ s S v w K hv h => ?_⟩
  rw [assign_Attribute]
  exact wpAny_bind (wpAny_holding (then_ (ev_snd H e env A V.ok hr o c2 ρ s S _ h).e fun S1 u le hu q => wpAny_bind (wpAny_standAt (wpAny_bind (wpAny_holding (thenD (set_att_rule H.O S1 le hu (le.v hv) q) fun S2 le2 q => wpAny_release ⟨S2, le2, q⟩))))))
theorem in_L' {v : AV} {k : Nat → Prop} (h : asL v k False) : ∃ a, v = .loc a ∧ k a := in_L (Z := fun v => ∃ a, v = .loc a ∧ k a) h fun a h => ⟨a, rfl, h⟩
theorem tg_sub (H : Hyp B mg mb C n) {e i : E} : TOK B n (dSub B.P e i) (tSub False (evK B.P C False e) (evK B.P C False i)) := fun env A V hr x (hc : onSub x (fun o k => notSlice k && (chkE B.P e env.scope o && chkE B.P i env.scope k)) = true) => inSub hc fun o k p hc => an hc fun c1 hc => an hc fun c2 c3 => by
  refine ⟨fun _ => rfl, fun _ _ => rfl, fun ρ s S v w K hv h => ?_⟩
  have go : wpAny (model B.prog B.w) A (eval o env) (fun ov s₁ => wpAny (model B.prog B.w) A (eval k env) (fun iv s₂ => wpAny (model B.prog B.w) A (setItem ov iv w) (Did S K) NoE s₂) NoE s₁) NoE s :=
    then_ (ev_snd H e env A V.ok hr o c2 ρ s S _ h).e fun S1 u le hu q => by
      obtain ⟨a, rfl, q⟩ := in_L' q
      exact then_ (ev_snd H i env A V.ok hr k c3 ρ _ S1 _ q).e fun S2 j le2 hi q => set_item_rule H.O S2 (le.trans le2) (le2.v hu) hi ((le.trans le2).v hv) q
  rw [assign_Subscript]
  exact wpAny_bind (wpAny_holding (wpAny_mono go (fun ov s₁ h₁ => wpAny_bind (wpAny_holding (wpAny_mono h₁ (fun iv s₂ h₂ => wpAny_bind (wpAny_standAt (wpAny_bind (wpAny_holding (wpAny_mono h₂ (fun _ s₃ h₃ => wpAny_release h₃) fun _ _ q => q))))) fun _ _ q => q))) fun _ _ q => q))
theorem tup2 {S : St B env ρ s} {a b : AV} {w : Value} (hv : S.V (.tup [a, b]) w) : ∃ t w1 w2, w = .ref t ∧ IsTup s.heap t #[w1, w2] ∧ S.V a w1 ∧ S.V b w2 := by
  obtain ⟨t, o, vs, k, rfl, h1, h2, h3, h4⟩ := (hv : SeqR (Has B S.G) "tuple" (VRs B S.G S.θ [a, b]) w)
  obtain ⟨w1, ws, rfl, ha, h4⟩ := (h4 : ConsR (VR B S.G S.θ a) (VRs B S.G S.θ [b]) vs)
  obtain ⟨w2, ws, rfl, hb, h4⟩ := (h4 : ConsR (VR B S.G S.θ b) (VRs B S.G S.θ []) ws)
  obtain rfl : ws = [] := h4
  exact ⟨t, w1, w2, rfl, ⟨o, S.R.has h1, h2, k, h3⟩, ha, hb⟩
theorem tg_two {c d : CK} {f g : Tm Prop} (h1 : TOK B n c f) (h2 : TOK B n d g) : TOK B n (dTwo c d) (tTwo False f g) := fun env A V hr x (hc : onTup x (fun xs => on2 xs fun a b => (notStar a && notStar b) && (c env.scope a && d env.scope b)) = true) => inTup hc fun xs u p hc => in2 hc fun a b hc => an hc fun _ hc => an hc fun c1 c2 => by
  have T1 := h1 env A V hr a c1
  have T2 := h2 env A V hr b c2
  refine ⟨fun _ => rfl, fun v hp => not_swapped (an hp fun _ hp => hp), fun ρ s S v w K hv h => in_P (Z := fun v => S.V v w → _) h (fun va vb h hv => ?_) hv⟩
  obtain ⟨t, w1, w2, rfl, ht, ga, gb⟩ := tup2 hv
  have ea : assignEach [a, b] env = [(false, assign a env), (false, assign b env)] := (T1.star _).trans (congrArg _ (T2.star _))
  refine assign_Tuple_tuple (items := #[w1, w2]) hr.hh ht (by rw [ea]; rfl) (by rw [ea]; rfl) fun h' hx => ?_
  rw [ea]
  have R1 : Rel B env ρ S.σ S.G S.θ { s with heap := h' } := S.R.onHeap (tk := s.toks) fun b ob hb => hx b ob (Nat.ne_of_lt (Heap.lt_size hb)) hb
  exact assignInOrder_cons (thenU (T1.a ρ _ ⟨_, _, _, R1⟩ _ _ _ ga h) fun S1 le q => assignInOrder_cons (thenU (T2.a _ _ S1 _ _ _ (le.v gb) q) fun S2 le2 q => assignInOrder_nil ⟨S2, ⟨le.x.trans le2.x, le.p.trans le2.p⟩, q⟩))
theorem tg_snd (H : Hyp B mg mb C n) (t : T) : TOK B n (chkT B.P t) (asgnK B.P C False t) := T.rec (motive := fun t => TOK B n (chkT B.P t) (asgnK B.P C False t)) (fun _ => tg_nam) (fun _ _ => tg_att H) (fun _ _ => tg_sub H) (fun _ _ h1 h2 => tg_two h1 h2) t

theorem s_exp (H : Hyp B mg mb C n) {e : E} : SOK B n (xExpC B.P e) (xExp False (evK B.P C False e)) := fun env A V hr x (hc : onExpr x (fun y => notComp y && chkE B.P e env.scope y) = true) => inExpr hc fun y p hc ρ s S Q h => an hc fun c1 c2 => by
  refine wpAny_Expr (then_ (ev_snd H e env A V.ok hr y c2 ρ s S _ h).e fun {w s₁} S1 u le hv q => ?_) (by unfold interactive; rw [V.ok.kind]; rfl) (none_false c1)
  cases u with
  | none => exact hv.noneE (.nxt S1 le q)
  | bool b => exact hv.boolE (.nxt S1 le q)
  | _ => exact (q : False).elim
theorem s_ret (H : Hyp B mg mb C n) {e : E} : SOK B n (xRetC B.P e) (xRet (evK B.P C False e)) := fun env A V hr x (hc : onRet x (fun o => onSome o (chkE B.P e env.scope)) = true) => inRet hc fun o p hc => inSome hc fun y hc ρ s S Q h =>
  wpAny_Return_some (then_ (ev_snd H e env A V.ok hr y hc ρ s S _ h).e fun S1 u le hv q => .ret S1 le hv q)
theorem s_retn : SOK B n xRetnC xRetn := fun env A V hr x (hc : onRet x Option.isNone = true) => inRet hc fun o p hc => inNone hc fun ρ s S Q h => wpAny_Return_none (.ret S S.le .none h)
theorem s_cont : SOK B n xContC xCont := fun env A V hr x (hc : onCont x (fun _ => true) = true) => inCont hc fun p _ ρ s S Q h => wpAny_Continue (.cont S S.le h)
theorem s_bad : SOK B n xBadC (xBad False) := fun env A V hr x hc ρ s S Q h => (h : False).elim
theorem s_iff (H : Hyp B mg mb C n) {t : E} {c d : SKs} {f g : Xm Prop} (ha : SOKs B n c f) (hb : SOKs B n d g) : SOK B n (xIffC B.P t c d) (xIff False (evK B.P C False t) f g) := fun env A V hr x (hc : onIf x (fun y u v => chkE B.P t env.scope y && (c env.scope u && d env.scope v)) = true) => inIf hc fun y u v p hc ρ s S Q h => an hc fun c1 hc => an hc fun c2 c3 =>
  wpAny_If (thenT ((ev_snd H t env A V.ok hr y c1 ρ s S _ h).t (K := fun c σ₁ => br c (f ρ σ₁ Q) (g ρ σ₁ Q)) fun v σ q => q) fun S1 le q => br_if q (fun q => wpAny_mono (ha env A V hr u c2 ρ _ S1 Q q) (fun _ _ k => k.le le) fun _ _ q => q) fun q => wpAny_mono (hb env A V hr v c3 ρ _ S1 Q q) (fun _ _ k => k.le le) fun _ _ q => q)
theorem ss_nil : SOKs B n xNilC xNil := fun env A V hr xs hc => inNil hc fun ρ s S Q h => wpAny_execs_nil (.nxt S S.le h)
theorem ss_cons {c : SK} {f : Xm Prop} {d : SKs} {g : Xm Prop} (ha : SOK B n c f) (hb : SOKs B n d g) : SOKs B n (xConsC c d) (xSeq f g) := fun env A V hr xs (hc : onCons xs (fun x r => c env.scope x && d env.scope r) = true) => inCons hc fun x r hc ρ s S Q h => an hc fun c1 c2 =>
  wpAny_execs_cons (wpAny_mono (ha env A V hr x c1 ρ s S _ h) (fun fl s₁ k => by
    cases k with
    | nxt S1 le q => exact wpAny_mono (hb env A V hr r c2 _ _ S1 Q q) (fun _ _ k => k.le le) fun _ _ q => q
    | cont S1 le q => exact .cont S1 le q
    | ret S1 le hv q => exact .ret S1 le hv q) fun _ _ q => q)
end
end Mine
namespace Mine
open PySem PySem.W PyProof.Rows PySem.Calls PySem.SeqAt

noncomputable def starX : Expr → Bool
  | .Starred .. => true
  | _ => false
theorem star_no {e : Expr} (h : notStar e = true) : starX e = false := by
  unfold starX
  split
  · cases h
  · rfl
section
variable {B : Base} {mg mb : Str → Option Value} {env : Env} {ρ ρ' : Loc} {s s' s0 : Shared} {A : Around} {C : KCalls Prop} {n : Nat} {S0 : St B env ρ s0}
theorem blockFn (V : EnvOK env) : env.blockKind = .function := by unfold Env.blockKind; rw [V.kind]; rfl
theorem asg_used (H : Hyp B mg mb C n) {k x : Nat} {elt it : E} (V : EnvFn env) (hr : Room A (n + 1)) {y : Str} {p q pos : Pos} {el : Expr} {gs : List Comprehension} {cs : Scope} (c1 : same k y = true) (c2 : chkE B.P (.lcp elt x it) env.scope (.ListComp el gs cs q) = true) (hu : useOk env.scope cs y p q pos = true)
    (S : St B env ρ s) {Q : Fl → Loc → Sto → Prop} (h : xAsg (tNam k) (evK B.P C False (.lcp elt x it)) ρ S.σ Q) : Wp B A (exec (.Assign [.Name y p] (.ListComp el gs cs q) pos) env) (FR S Q) s := by
  obtain rfl := same_eq c1
  refine an hu fun u1 hu => an hu fun u2 hu => an hu fun u3 u4 => ?_
  have u1 : env.kindOf (nm k) = some .local := of_decide_eq_true u1
  refine lcp_shape (ci := chkE B.P it) (ce := chkE B.P elt) (Z := fun gs => Wp B A (exec (.Assign [.Name (nm k) p] (.ListComp el gs cs q) pos) env) (FR S Q) s) c2 fun zp i c2 c3 c4 c5 c6 => ?_
  have hsw : swapsWith (.ListComp el [⟨.Name (nm x) zp, i, [], 0⟩] cs q) (some (.Name (nm k) p)) pos.line env = pure true := by
    show (pure (env.blockKind == .function && env.kindOf (nm k) == some .local && p.line == q.line && !(cs.names.any fun (n, k_1) => n == nm k && (k_1 == .local || k_1 == .cell))) : Sem Bool) = pure true
    rw [blockFn V.ok, u1, nt u4, u3]
    rfl
  rw [exec_Assign_Name_used _ _ _ _ hsw, arm_evalThenUse_ListComp]
  refine wpAny_bind (wpAny_standAt (wpAny_bind (wpAny_bind (wpAny_mono (lcp_gen H (ev_snd H elt) (ev_snd H it) V.ok hr c2 c3 c4 c5 c6 S (Q := fun v σ => Q .nxt (put k v ρ) σ) h (some (assign (.Name (nm k) p) env)) (fun _ s' => FR S Q .next s') fun {D Kf mk oK s'} S' v le hK ns x hv q => ?_) (fun _ s' h => wpAny_pure (wpAny_pure h)) fun _ _ q => q))))
  refine wpAny_assign_Name (put_local V.ok S' u1 hv fun s2 R2 => ?_)
  have ns2 : s2.heap.Ns Kf mk := ns.at' fun o ho => Option.some.inj ((S'.R.get hK.1).symm.trans ho) ▸ R2.get hK.1
  exact ⟨mk, ns2, fun h6 hs6 => let ⟨S6, le6, e6, _⟩ := St.dropHeap (S0 := S) (tk := s2.toks) ⟨S'.σ, S'.G, S'.θ, R2⟩ ⟨le.x, le.p⟩ hK ns2 hs6 x; .nxt S6 le6 (e6.symm ▸ q)⟩
theorem s_asg (H : Hyp B mg mb C n) {t : T} {e : E} : SOK B n (xAsgC B.P t e) (xAsg (asgnK B.P C False t) (evK B.P C False e)) := fun env A V hr x (hc : onAsg x (fun ts v pos => on1 ts fun tg => chkT B.P t env.scope tg && (chkE B.P e env.scope v && (((notComp v || notName tg) && plainSt tg v) || usedOk env.scope pos t e tg v))) = true) => inAsg hc fun ts v pos hc => in1 hc fun tg hc ρ s S Q h => an hc fun c1 hc => an hc fun c2 c3 => by
  rcases Bool.or_eq_true_iff.mp c3 with c3 | c3
  · refine an c3 fun c3 c4 => ?_
    have T := tg_snd H t env A V hr tg c1
    refine wpAny_Assign_stores (then_ (ev_snd H e env A V.ok hr v c2 ρ s S _ h).e fun {w s₁} S1 u le hv q => ?_) (sole_false c3) (T.sw v c4)
    rw [T.star]
    exact thenU (T.a ρ _ S1 u w _ hv q) fun S2 le2 q => .nxt S2 ⟨le.x.trans le2.x, le.p.trans le2.p⟩ q
  · unfold usedOk at c3
    refine an c3 fun k0 c3 => ?_
    split at k0
    · refine inNameP (Z := fun tg => chkT B.P _ env.scope tg = true → Wp B A (exec (.Assign [tg] v pos) env) (FR S Q) s) c3 (fun y p c3 c1 => inLcp (Z := fun v => chkE B.P _ env.scope v = true → Wp B A (exec (.Assign [.Name y p] v pos) env) (FR S Q) s) c3 (fun el gs cs q c3 c2 => ?_) c2) c1
      exact an (show (same _ y && _) = true from c1) fun c1 _ => asg_used H V hr c1 c2 c3 S h
    · cases k0
theorem s_swp (H : Hyp B mg mb C n) {x y : Nat} {a b : E} : SOK B n (xSwpC B.P x y a b) (xSwp x y (evK B.P C False a) (evK B.P C False b)) := fun env A V hr st (hc : onAsg st (fun ts v _ => on1 ts fun tg => onTup tg fun l => on2 l fun t1 t2 => onNameP t1 fun na pa => onNameP t2 fun nb pb => onTup v fun vs => on2 vs fun u w => swapOk x y env.scope na nb pa pb u w && ((notStar u && notStar w) && (chkE B.P a env.scope u && chkE B.P b env.scope w))) = true) =>
  inAsg hc fun ts v pos hc => in1 hc fun tg hc => inTup hc fun l tk tp hc => in2 hc fun t1 t2 hc => inNameP hc fun na pa hc => inNameP hc fun nb pb hc => inTup hc fun vs vk vp hc => in2 hc fun u w hc ρ s S Q h => an hc fun c1 hc => an hc fun c0 hc => an c0 fun z1 z2 => an hc fun c2 c3 => by
  refine an c1 fun s1 c1 => an c1 fun s2 c1 => an c1 fun s3 c1 => an c1 fun s4 c1 => an c1 fun s5 c1 => an c1 fun s6 c1 => an c1 fun s7 s8 => ?_
  obtain rfl := same_eq s1
  obtain rfl := same_eq s2
  have k1 : env.kindOf (nm x) = some .local := of_decide_eq_true s3
  have k2 : env.kindOf (nm y) = some .local := of_decide_eq_true s4
  have hsw : swappedStores [.Tuple [.Name (nm x) pa, .Name (nm y) pb] tk tp] (.Tuple [u, w] vk vp) env = pure (some [nm x, nm y]) := by
    unfold swappedStores
    dsimp only
    rw [if_neg, if_neg]
    · simp only [List.filterMap_cons, List.filterMap_nil, k1, k2, List.head?_cons, Option.map_some, Option.getD_some, Expr.pos, beq_self_eq_true, Bool.true_and, if_true, s5]
      have e2 : ([nm x, nm y].eraseDups).length = 2 := by simp [List.eraseDups_cons, nt s6]
      rw [e2, if_neg, if_neg, if_neg]
      · rw [List.all_cons, List.all_cons, List.all_nil, Bool.and_true, nt s8]; exact nofun
      · rw [List.all_cons, List.all_cons, List.all_nil, Bool.and_true, nt s7]; exact nofun
      · show ¬ ((2 != 2 || 2 != 2) = true)
        decide
    · intro h
      have h : (starX u || (starX w || false)) = true := h
      rw [star_no z1, star_no z2] at h
      cases h
    · rw [blockFn V.ok]
      show ¬ ((!(2 == 2 || 2 == 3) || 2 != 2 || ScopeKind.function != ScopeKind.function) = true)
      decide
  have ct : cTup (cCons (chkE B.P a) (cCons (chkE B.P b) cNil)) env.scope (.Tuple [u, w] vk vp) = true := by
    show (true && (notStar u && (chkE B.P a env.scope u && (notStar w && (chkE B.P b env.scope w && true))))) = true
    rw [z1, z2, c2, c3]; rfl
  rw [exec_Assign_arm]
  refine wpAny_bind (wpAny_standAt ?_)
  rw [sole_false (by rfl)]
  refine wpAny_bind (wpAny_pure ?_)
  rw [if_neg (by decide)]
  refine wpAny_bind (then_ (e_tup (es_cons (ev_snd H a) (es_cons (ev_snd H b) es_nil)) env A V.ok hr _ ct ρ s S (fun v σ => asP v (fun a b => Q .nxt (put x a (put y b ρ)) σ) False) h).e fun {w0 s₁} S1 v0 le hv q => ?_)
  rw [hsw]
  refine wpAny_bind (wpAny_pure (in_P (Z := fun v => S1.V v w0 → _) q (fun va vb q hv => ?_) hv))
  obtain ⟨t, w1, w2, rfl, ht, ga, gb⟩ := tup2 hv
  show wpAny _ A (do rule "assign.swapped-stores"; let items ← unpackItems (.ref t) 2 none; assignInOrder ([bindName env (nm y), bindName env (nm x)]) items.reverse; pure Flow.next) _ _ s₁
  refine wpAny_bind (wpAny_rule (wpAny_bind (unpackItems_tuple (items := #[w1, w2]) hr.hh ht fun h' hx => ?_)))
  have R1 : Rel B env ρ S1.σ S1.G S1.θ { s₁ with heap := h' } := S1.R.onHeap (tk := s₁.toks) fun b ob hb => hx b ob (Nat.ne_of_lt (Heap.lt_size hb)) hb
  have bind : ∀ {ρ : Loc} {s : Shared} (S : St B env ρ s) {k : Nat} {v : AV} {w : Value} {R : Unit → Shared → Prop}, env.kindOf (nm k) = some .local → S.V v w → (∀ s', Rel B env (put k v ρ) S.σ S.G S.θ s' → R () s') → wpAny (model B.prog B.w) A (bindName env (nm k) w) R NoE s := fun S k v w R hk hv hq Γ p hΓ => by
    rw [Sem.wp_bindName]
    exact put_local V.ok S hk hv hq Γ p hΓ
  exact wpAny_bind (assignInOrder_cons (bind ⟨_, _, _, R1⟩ k2 gb fun s2 R2 => assignInOrder_cons (bind ⟨_, _, _, R2⟩ k1 ga fun s3 R3 => assignInOrder_nil (wpAny_pure (.nxt ⟨_, _, _, R3⟩ ⟨le.x, le.p⟩ q)))))
end
end Mine
namespace Mine
open PySem PySem.W PyProof.Rows PySem.Calls PySem.SeqAt

inductive FInv {B : Base} {env : Env} {ρ : Loc} {s : Shared} (A : Around) (S : St B env ρ s) (f : AV → Loc → Sto → (Fl → Loc → Sto → Prop) → Prop) (l : List AV) (I : Addr) (W : Nat → Heap → Prop) (κ : Fl → Loc → Sto → Prop) (k : Nat) (s' : Shared) : Prop
  | mk {ρ' : Loc} {i : Nat} {o : Obj} (hk : i + k = l.length) (S' : St B env ρ' s') (q : loopFK f (l.drop i) ρ' S'.σ κ) (x : Ext S.G S'.G) (p : Pre S.θ S'.θ) (hI : In S'.G .itr I o) (w : W i s'.heap) (It : Iter B A S'.G S'.θ I l W) : FInv A S f l I W κ k s'
section
variable {B : Base} {mg mb : Str → Option Value} {env : Env} {ρ ρ' : Loc} {s s' s0 : Shared} {A : Around} {C : KCalls Prop} {n : Nat} {S0 : St B env ρ s0}
theorem for_loop {c : CK} {d : SKs} {ft : Tm Prop} {fb : Xm Prop} (ht : TOK B n c ft) (hb : SOKs B n d fb) (V : EnvFn env) (hr : Room A (n + 1)) {tg : Expr} {body : List Stmt} (c1 : c env.scope tg = true) (c2 : d env.scope body = true) (S : St B env ρ s) {l : List AV} {io : Obj} {W : Nat → Heap → Prop} {κ : Fl → Loc → Sto → Prop} {R : Result → Shared → Prop}
    (R1 : Rel B env ρ S.σ (S.G.push s.heap.objs.size io .itr) S.θ { s with heap := s.heap.push io }) (w : W 0 (s.heap.push io)) (It : Iter B A (S.G.push s.heap.objs.size io .itr) S.θ s.heap.objs.size l W)
    (q : loopFK (fun u ρ' τ k' => ft u ρ' τ fun ρ₁ τ₁ => fb ρ₁ τ₁ k') l ρ S.σ κ) (hQ : ∀ {fl s'}, FR S κ fl s' → R (.ok fl) s') : codeAny (model B.prog B.w) A (.forLoop tg (.ref s.heap.objs.size) body [] env) R { s with heap := s.heap.push io } := by
  have fr : ∀ p ∈ S.G.L, p.1 ≠ s.heap.objs.size := S.R.fresh
  have x1 := S.R.pushExt io .itr
  have gI := push_new (G := S.G) (a := s.heap.objs.size) (o := io) (t := .itr)
  revert R1 w It x1 gI
  generalize S.G.push s.heap.objs.size io .itr = G1
  intro R1 w It x1 gI
  have noE : ∀ (e : Value) (s' : Shared), NoE e s' → notedBy (model B.prog B.w) A env (fun e s' => R (.error e) s') e s' := fun _ _ f => f.elim
  refine codeAny_forLoop_any (FInv A S (fun u ρ' τ k' => ft u ρ' τ fun ρ₁ τ₁ => fb ρ₁ τ₁ k') l s.heap.objs.size W κ) (fun k sk hk => ?_) l.length (.mk (i := 0) (Nat.zero_add _) ⟨_, _, _, R1⟩ q x1 (.refl _) gI w It)
  obtain ⟨hk, S', q, x, p, hI, w, It⟩ := hk
  rename_i ρ' i o
  cases k with
  | zero =>
    have hk : i = l.length := hk
    rw [hk, List.drop_length] at q
    rw [hk] at w
    exact It.fin w fun h5 tk hk5 => wpAny_execs_nil (hQ (.nxt ⟨_, _, _, S'.R.dropNot hI (It.nc S'.R hI w) hk5⟩ ⟨ext_drop x fr, p⟩ q))
  | succ k =>
    have hlt : i < l.length := by omega
    refine It.next S'.R hI w hlt fun v0 u0 o' s5 g1 g2 g3 g4 g7 g8 => ?_
    rw [nth_drop g1] at q
    refine g8.owned g7 (wpAny_mono ((ht env A V hr tg c1).a ρ' _ ⟨_, _, _, g3⟩ u0 v0 _ g2 q) (fun _ s6 h6 => ?_) noE)
    obtain ⟨S6, le6, q⟩ := h6
    have x6 : Ext S.G S6.G := (ext_upd x fr).trans le6.x
    have p6 : Pre S.θ S6.θ := p.trans le6.p
    refine wpAny_mono (hb env A V hr body c2 _ _ S6 _ q) (fun fl s7 h7 => ?_) noE
    have again : ∀ {ρ7 : Loc} (S7 : St B env ρ7 s7), S6.Le S7 → loopFK (fun u ρ' τ k' => ft u ρ' τ fun ρ₁ τ₁ => fb ρ₁ τ₁ k') (l.drop (i + 1)) ρ7 S7.σ κ → ∃ m, m < k + 1 ∧ FInv A S (fun u ρ' τ k' => ft u ρ' τ fun ρ₁ τ₁ => fb ρ₁ τ₁ k') l s.heap.objs.size W κ m s7 := fun S7 l7 q =>
      have x7 := le6.x.trans l7.x
      ⟨k, Nat.lt_succ_self _, .mk (i := i + 1) (by omega) S7 q (x6.trans l7.x) (p6.trans l7.p) (x7.itr g4) (g8.keep g3 g4 g7 x7 S7.R) (g8.ext x7 (le6.p.trans l7.p))⟩
    cases h7 with
    | nxt S7 l7 q => exact again S7 l7 q
    | cont S7 l7 q => exact again S7 l7 q
    | ret S7 l7 hv q => exact hQ (.ret S7 ⟨x6.trans l7.x, p6.trans l7.p⟩ hv q)
theorem s_for (H : Hyp B mg mb C n) {t : T} {it : E} {d : SKs} {fb : Xm Prop} (hb : SOKs B n d fb) : SOK B n (xForC B.P t it d) (xFor False (asgnK B.P C False t) (evK B.P C False it) fb) := fun env A V hr x (hc : onFor x (fun x i u e => e.isEmpty && (notSet i && (chkT B.P t env.scope x && (chkE B.P it env.scope i && d env.scope u)))) = true) => inFor hc fun tg i u e p hc => an hc fun c0 hc => inNil c0 (an hc fun c4 hc => an hc fun c1 hc => an hc fun c2 c3 ρ s S Q h => by
  refine wpAny_For (then_ (ev_snd H it env A V.ok hr i c2 ρ s S _ h).e fun {w s₁} S1 v le hv q => iter_rule H.O hr.hh S1 hv q fun l hd Gb q As io W R1 w It => ?_) (notSet_ok c4)
  refine for_loop (tg_snd H t) hb V hr c1 c3 ⟨_, Gb, S1.θ, As.R⟩ R1 w It q fun {fl s'} h => ?_
  cases h with
  | nxt S' l q => obtain ⟨G2, R2, x2, y2⟩ := As.back l.x l.p S'.R; exact .nxt ⟨_, G2, _, R2⟩ ⟨le.x.trans x2, le.p.trans l.p⟩ q
  | cont S' l q => obtain ⟨G2, R2, x2, y2⟩ := As.back l.x l.p S'.R; exact .cont ⟨_, G2, _, R2⟩ ⟨le.x.trans x2, le.p.trans l.p⟩ q
  | ret S' l hv q => obtain ⟨G2, R2, x2, y2⟩ := As.back l.x l.p S'.R; exact .ret ⟨_, G2, _, R2⟩ ⟨le.x.trans x2, le.p.trans l.p⟩ (hv.ext0 y2 (.refl _)) q)
end
theorem ss_snd {B : Base} {mg mb : Str → Option Value} {C : KCalls Prop} {n : Nat} (H : Hyp B mg mb C n) (b : Ss) : SOKs B n (chkSs B.P b) (exsK B.P C False b) :=
  Ss.rec (motive_1 := fun t => SOK B n (chkS B.P t) (exK B.P C False t)) (motive_2 := fun b => SOKs B n (chkSs B.P b) (exsK B.P C False b))
    (fun _ => s_exp H) (fun _ => s_ret H) s_retn (fun _ _ => s_asg H) (fun _ _ _ _ => s_swp H) (fun _ _ _ a b => s_iff H a b) (fun _ _ _ b => s_for H b) s_cont s_bad ss_nil (fun _ _ a b => ss_cons a b) b
end Mine
namespace Mine
open PySem PySem.W PyProof.Rows PySem.Calls PySem.SeqAt

theorem cellsFrom_has {x : Str} : ∀ {names : List (Str × NameKind)} {k : Nat} {acc : List (Str × Addr)}, ((x, NameKind.cell) ∈ names ∨ ∃ c, acc.lookup x = some c) → ∃ c, (cellsFrom k names acc).lookup x = some c
  | [], k, acc, h => h.elim (fun h => nomatch h) id
  | (n, kd) :: r, k, acc, h => by
    unfold cellsFrom
    cases q : (kd == NameKind.cell) with
    | true =>
      rw [if_pos rfl]
      refine cellsFrom_has (lookup_cons_eq (Z := fun o => _ ∨ ∃ c, o = some c) (fun _ => .inr ⟨_, rfl⟩) fun hne => h.imp (fun h => (List.mem_cons.mp h).elim (fun e => absurd (congrArg Prod.fst e) hne) id) id)
    | false =>
      rw [if_neg nofun]
      refine cellsFrom_has (h.imp (fun h => (List.mem_cons.mp h).elim (fun e => ?_) id) id)
      cases e; cases q
theorem bindp_cons {n : Nat} {ns : List Nat} {v : AV} {l : List AV} {ρ : Loc} (h : bindp (n :: ns) (v :: l) = some ρ) : ∃ r, bindp ns l = some r ∧ ρ = (n, v) :: r := by
  unfold bindp at h
  cases q : bindp ns l with
  | none => rw [q] at h; cases h
  | some r => rw [q] at h; exact ⟨r, rfl, (Option.some.inj h).symm⟩
theorem bindp_len : ∀ {ns : List Nat} {l : List AV} {ρ : Loc}, bindp ns l = some ρ → l.length = ns.length
  | [], [], _, _ => rfl
  | [], _ :: _, _, h => nomatch h
  | _ :: _, [], _, h => nomatch h
  | n :: ns, v :: l, ρ, h => let ⟨_, q, _⟩ := bindp_cons h; congrArg (· + 1) (bindp_len q)
section
variable {B : Base} {G : Gh} {θ : List Addr}
theorem bindp_at {k : Nat} {v : AV} : ∀ {ns : List Nat} {l : List AV} {vs : List Value} {ρ : Loc}, bindp ns l = some ρ → VRs B G θ l vs → look k ρ = some v → ∃ w, (nm k, w) ∈ (ns.map nm).zip vs ∧ VR B G θ v w ∧ k ∈ ns
  | [], [], _, ρ, h, _, hl => by cases h; cases hl
  | [], _ :: _, _, _, h, _, _ => nomatch h
  | _ :: _, [], _, _, h, _, _ => nomatch h
  | n :: ns, u :: l, _, ρ, h, hv, hl => by
    obtain ⟨r, q, rfl⟩ := bindp_cons h
    obtain ⟨w, vs, rfl, a, b⟩ := (hv : ConsR (VR B G θ u) (VRs B G θ l) _)
    unfold look at hl
    cases e : Nat.beq k n with
    | true =>
      rw [e] at hl; cases hl
      obtain rfl := Nat.eq_of_beq_eq_true e
      exact ⟨w, .head _, a, .head _⟩
    | false =>
      rw [e] at hl
      obtain ⟨w', h1, h2, h3⟩ := bindp_at q b hl
      exact ⟨w', .tail _ h1, h2, .tail _ h3⟩
end
section
variable {kd : Str → Option NameKind} {x : Str} {w : Value}
theorem bindL_other : ∀ {bs : List (Str × Value)} {m : Str → Option Value}, (∀ p ∈ bs, p.1 ≠ x) → bindL kd bs m x = m x
  | [], m, _ => rfl
  | (a, v) :: r, m, h => by
    unfold bindL
    rw [bindL_other fun p hp => h p (.tail _ hp)]
    split
    · exact if_neg fun e => h (a, v) (.head _) e.symm
    · rfl
theorem bindL_at : ∀ {bs : List (Str × Value)} {m : Str → Option Value}, (bs.map (·.1)).Nodup → (x, w) ∈ bs → kd x = some .local → bindL kd bs m x = some w
  | [], _, _, h, _ => nomatch h
  | (a, v) :: r, m, nd, h, hk => by
    obtain ⟨n1, n2⟩ := List.nodup_cons.mp nd
    unfold bindL
    rcases List.mem_cons.mp h with e | h
    · cases e
      rw [bindL_other fun p hp e => n1 (List.mem_map.mpr ⟨p, hp, e⟩), if_pos hk]
      exact if_pos rfl
    · exact bindL_at n2 h hk
theorem bindC_other : ∀ {bs : List (Str × Value)} {m : Str → Option Value}, (∀ p ∈ bs, p.1 ≠ x) → bindC kd bs m x = m x
  | [], m, _ => rfl
  | (a, v) :: r, m, h => by
    unfold bindC
    rw [bindC_other fun p hp => h p (.tail _ hp)]
    split
    · rfl
    · exact if_neg fun e => h (a, v) (.head _) e.symm
theorem bindC_at : ∀ {bs : List (Str × Value)} {m : Str → Option Value}, (bs.map (·.1)).Nodup → (x, w) ∈ bs → kd x ≠ some .local → bindC kd bs m x = some w
  | [], _, _, h, _ => nomatch h
  | (a, v) :: r, m, nd, h, hk => by
    obtain ⟨n1, n2⟩ := List.nodup_cons.mp nd
    unfold bindC
    rcases List.mem_cons.mp h with e | h
    · cases e
      rw [bindC_other fun p hp e => n1 (List.mem_map.mpr ⟨p, hp, e⟩), if_neg hk]
      exact if_pos rfl
    · exact bindC_at n2 h hk
end
theorem apart_uniq {x y : Str} {c : Addr} : ∀ {l : List (Str × Addr)}, l.Pairwise (fun a b => a.2 ≠ b.2) → (x, c) ∈ l → (y, c) ∈ l → x = y
  | [], _, h, _ => nomatch h
  | p :: r, hp, h1, h2 => by
    obtain ⟨p1, p2⟩ := List.pairwise_cons.mp hp
    rcases List.mem_cons.mp h1 with e1 | h1 <;> rcases List.mem_cons.mp h2 with e2 | h2
    · exact congrArg Prod.fst (e1.trans e2.symm)
    · exact (p1 _ h2 (e1 ▸ rfl)).elim
    · exact (p1 _ h1 (e2 ▸ rfl)).elim
    · exact apart_uniq p2 h1 h2
section
variable {B : Base} {mg mb : Str → Option Value} {σ : Sto} {G : Gh} {θ : List Addr} {s : Shared} {A : Around} {C : KCalls Prop} {n : Nat} {L : Addr} {m : Str → Option Value}
theorem body_call (H : Hyp B mg mb C n) {f : Nat} {fn : Fn} (hf : fnAt B.P.fns f = some fn) {args : List AV} {Q : AV → Sto → Prop} (he : bodyK B.P C False fn args σ Q) {a : Args} {full : List Value} (hr : Room A (n + 2)) (Co : Core B L σ G θ m s) (hv : VRs B G θ args full) (hb : Binds B f a full) :
    codeAny (model B.prog B.w) A (.call (.ref (B.fn f)) a) (Back B L G θ m Q) s := by
  obtain ⟨o, fd, bd, W⟩ := fn_facts H.O hf
  have XK : B.K.In s.heap := H.O.X.keeps Co.fr.keep
  refine in_opt he fun ρ₀ q1 he => ?_
  have hlen : full.length = fn.params.length := hv.length.trans (bindp_len q1)
  have zk : ((fn.params.map nm).zip full).map (·.1) = fn.params.map nm := zip_keys (by rw [hlen, List.length_map])
  have ndp : (((fn.params.map nm).zip full).map (·.1)).Nodup := zk.symm ▸ names_nd W.nd
  refine codeAny_call_function (by have := hr.depth; show A.depth < 1000; omega) (XK _ _ W.look) W.data W.nco W.ngen W.body (codeRec_of XK W.code) (hb fn o fd A.in1 _ _ s hf W.look W.data XK ?_)
  rw [W.clo]
  refine wpAny_newFunctionEnv_cells W.kind (fun x hx => ?_) fun E eE s₂ I => ?_
  · obtain ⟨k, hk, e⟩ := List.mem_map.mp (zk ▸ List.mem_map_of_mem (f := (·.1)) hx : x.1 ∈ fn.params.map nm)
    refine (W.loc k hk).imp (fun h => e ▸ h) fun h => ⟨e ▸ h, ?_⟩
    obtain ⟨c, hc⟩ := cellsFrom_has (k := s.heap.objs.size + 1) (acc := []) (.inl (lookup_mem (e ▸ h)))
    rw [hc]; rfl
  have hEs : E.scope = fd.scope := eE ▸ rfl
  have hEk : ∀ x, E.kindOf x = fd.scope.names.lookup x := fun x => by unfold Env.kindOf; rw [hEs]
  have hEf : E.frame = some E.locals := eE ▸ rfl
  have V : EnvFn E := ⟨⟨hEs ▸ W.kind, eE ▸ W.glob, eE ▸ W.blt, fun x y c hx hy => apart_uniq I.apart (lookup_mem hx) (lookup_mem hy), fun x hx => by
    rw [hEk] at hx
    rw [eE]
    exact cellsFrom_has (.inl (lookup_mem hx)), ⟨E.locals, hEf, Nat.le_refl _⟩⟩, hEf⟩
  obtain ⟨oL, hoL⟩ : ∃ oL, s.heap.get? L = some oL := let ⟨o, _, _, h, _⟩ := Co.fr.ns; ⟨o, h⟩
  obtain ⟨X, eX⟩ : ∃ X : List (Addr × Obj), X = (E.cells.filter fun p => decide (E.cells.lookup p.1 = some p.2)).map fun p => (p.2, (s₂.heap.get? p.2).getD { cls := .none, data := .plain }) := ⟨_, rfl⟩
  have Xmem : ∀ x c, E.cells.lookup x = some c → ∃ o, (c, o) ∈ X ∧ s₂.heap.get? c = some o ∧ o.data = .cell (bindC E.kindOf ((fn.params.map nm).zip full) (fun _ => none) x) := fun x c hx => by
    obtain ⟨o, h1, h2⟩ := I.cell x c hx
    exact ⟨o, eX ▸ List.mem_map.mpr ⟨(x, c), List.mem_filter.mpr ⟨lookup_mem hx, decide_eq_true hx⟩, by rw [h1]; rfl⟩, h1, h2⟩
  have Xinv : ∀ p ∈ X, ∃ x, E.cells.lookup x = some p.1 ∧ s₂.heap.get? p.1 = some p.2 := fun p hp => by
    rw [eX] at hp
    obtain ⟨q, hq, rfl⟩ := List.mem_map.mp hp
    have q3 := of_decide_eq_true (List.mem_filter.mp hq).2
    obtain ⟨o, h1, h2⟩ := I.cell _ _ q3
    exact ⟨q.1, q3, by rw [h1]; rfl⟩
  have II := I.toInCall
  obtain ⟨h2, tk2, es2⟩ := II.same
  have EH : EnterH s s₂ L E.locals oL X := by
    refine ⟨II.keep, hoL, II.fresh, fun p hp => ?_, ?_, by rw [es2], by rw [es2]⟩
    · obtain ⟨x, h1, h2⟩ := Xinv p hp
      have ab := I.above _ _ (lookup_mem h1)
      exact ⟨h2, Nat.ne_of_gt ab, Nat.le_trans II.fresh (Nat.le_of_lt ab)⟩
    · rw [eX, List.map_map]
      exact List.nodup_iff_pairwise_ne.mpr (List.pairwise_map.mpr (I.apart.filter _))
  have C₂ := Co.enter EH II.ns
  have x12 := Co.enterExt EH
  have hlc : lcTag E = .loc := if_pos hEf
  have newX : ∀ {c : Addr} {o : Obj}, (c, o) ∈ X → In (G.enter L oL X) (lcTag E) c o := fun {c o} h => ⟨List.mem_append_left _ h, (if_pos (hasK_iff.mpr ⟨o, h⟩)).trans hlc.symm⟩
  have Nm : Names B (G.enter L oL X) θ E ρ₀ (bindL E.kindOf ((fn.params.map nm).zip full) fun _ => none) := ⟨fun k u hk h0 => by
    obtain ⟨w, h1, h2, h3⟩ := bindp_at q1 hv hk
    refine ⟨fun e => ⟨w, bindL_at ndp h1 e, h2.ext x12 (.refl _)⟩, fun e => ?_⟩
    have hc : E.kindOf (nm k) = some .cell := (W.loc k h3).elim (fun h => by rw [hEk, h] at e; rcases e with e | e <;> cases e) fun h => (hEk _).trans h
    obtain ⟨c, hcl⟩ := V.ok.cel _ hc
    obtain ⟨o, g1, g2, g3⟩ := Xmem _ _ hcl
    rw [bindC_at ndp h1 (by rw [hc]; exact nofun)] at g3
    exact ⟨c, o, w, hcl, newX g1, g3, h2.ext x12 (.refl _)⟩, fun x c hx => let ⟨o, g1, _, g3⟩ := Xmem _ _ hx; ⟨o, _, newX g1, g3⟩⟩
  refine ⟨H.O.nolimit.keeps C₂.fr.keep, codeAny_func ?_⟩
  have hr2 : Room (A.deeper E) (n + 1) := ⟨hr.hh, by show A.depth + 1 + _ ≤ _; have := hr.depth; omega, by show A.units + 3 + _ + _ ≤ _; have := hr.units; omega⟩
  refine wpAny_mono (ss_snd H fn.body E (A.deeper E) V hr2 bd (hEs.symm ▸ W.chk) ρ₀ s₂ ⟨σ, _, θ, _, C₂, Nm⟩ _ he) (fun fl s₃ h => ?_) fun _ _ f => f.elim
  have fin : ∀ {ρ' : Loc} (S3 : St B E ρ' s₃) {v : AV} {w : Value}, St.Le (⟨σ, _, θ, _, C₂, Nm⟩ : St B E ρ₀ s₂) S3 → S3.V v w → trimK False fn.trim σ.length v S3.σ Q → Back B L G θ m Q (.ok (.ret w)) s₃ := fun {ρ'} S3 {v w} le hv q => by
    obtain ⟨m3, C₃, _⟩ := S3.R
    obtain ⟨Cl, xl, x0l⟩ := Co.leave EH C₃ le.x
    have hv := hv.ext0 x0l (.refl _)
    unfold trimK at q
    cases ht : fn.trim with
    | false => rw [ht] at q; exact .mk xl le.p Cl hv q
    | true =>
      rw [ht] at q
      exact in_br (show br _ _ False from q) fun q1 q => in_br q fun q2 q => .mk xl (le.p.take (Nat.le_of_eq Co.th)) (Cl.trim q2) (hv.on (fun j b hj hb => take_get (Nat.le_of_ble_eq_true hj) hb) q1) q
  cases h with
  | nxt S3 le q => exact fin S3 le .none q
  | cont S3 le q => exact fin S3 le .none q
  | ret S3 le hv q => exact fin S3 le hv q
theorem step_ok (H : Hyp B mg mb C n) : CallsOK B (stepK B.P C False) (n + 2) where
  run := fun {f args σ Q} he {A L G θ m s a full} hr Co hv hb => in_opt he fun fn hf he => by
    cases hi : fn.iso with
    | false => rw [hi] at he; exact body_call H hf he hr Co hv hb
    | true =>
      rw [hi] at he
      refine in_br (show br _ _ False from he) fun h1 he => ?_
      refine codeAny_mono (body_call H hf he hr Co.hide (VRs.free h1 (hv.ext0 hide_ext0 (.refl _))) hb) fun r s' h => ?_
      cases h with
      | mk x p C' hw q =>
        obtain ⟨z1, z2, z3⟩ := Co.unhide (fx := fun _ => false) (fun _ h => nomatch h) C' x
        exact in_br q fun h3 q => .mk z2 (.refl _) z1 (VR.free h3 (hw.ext0 z3 (.refl _))) q
  len := fun {f args σ Q} he => in_opt he fun fn hf he => ⟨fn, hf, by
    have key : ∀ {σ : Sto} {Q : AV → Sto → Prop}, bodyK B.P C False fn args σ Q → args.length = fn.params.length := fun h => in_opt h fun ρ q _ => bindp_len q
    cases hi : fn.iso with
    | false => rw [hi] at he; exact key he
    | true => rw [hi] at he; exact in_br (show br _ _ False from he) fun _ he => key he⟩
theorem run_ok (O : BOK B mg mb) : ∀ k : Nat, CallsOK B (runK B.P False k) (2 * k)
  | 0 => ⟨fun he => he.elim, fun he => he.elim⟩
  | k + 1 => step_ok ⟨O, run_ok O k⟩
end
end Mine
namespace Mine
open PySem PySem.W PyProof.Rows PySem.Calls

noncomputable def natAt : List Nat → Nat → Nat
  | [], _ => 61
  | a :: _, 0 => a
  | _ :: r, n + 1 => natAt r n
noncomputable def fnTab : List Nat := [61, 68, 75, 82, 89, 96, 103, 110, 125, 132, 139, 161, 196, 203, 210, 217, 224, 231, 238, 245, 252, 259, 266, 273, 280, 287, 294, 301, 308, 315, 322, 327, 334, 341, 348, 355, 362, 369, 376, 383, 390, 397, 404, 411, 418, 425, 440, 447, 468, 503, 510, 517, 538, 545, 552, 566, 581, 588, 595, 600, 608, 615, 622, 629, 643, 650, 664, 671, 678, 685, 699, 713, 720, 741, 762, 769, 783, 790, 797, 805, 812, 819, 826, 833, 840, 845, 850]
noncomputable def clsTab : List Nat := [772, 569, 485, 520, 450, 142, 178]
noncomputable def fnA (f : Nat) : Addr := natAt fnTab f
noncomputable def clsA (c : Nat) : Addr := natAt clsTab c
noncomputable def mkB (prog : Program) (w : World) (h₀ : Heap) (K : Frag) (os : OsState) : Base := ⟨prog, w, h₀, K, prg, clsA, fnA, os⟩
noncomputable def vInt (i : Int) (w : Value) : Bool := match w with
  | .int j _ => decide (i = j)
  | _ => false
noncomputable def vStr (n : Nat) (w : Value) : Bool := match w with
  | .str x _ => decide (nm n = x)
  | _ => false
noncomputable def vTup (K : Frag) (k : List Value → Bool) (w : Value) : Bool := match w with
  | .ref a => onSome (K.lookup a) fun o => decide (o.cls = .type "tuple") && match o.data with
    | .seq vs _ => k vs.toList
    | _ => false
  | _ => false
noncomputable def vsCons (k : Value → Bool) (ks : List Value → Bool) : List Value → Bool
  | [] => false
  | w :: ws => k w && ks ws
noncomputable def valChk (K : Frag) (v : AV) : Value → Bool := AV.rec (motive_1 := fun _ => Value → Bool) (motive_2 := fun _ => List Value → Bool) (fun w => decide (w = .none)) (fun b w => decide (w = .bool b)) vInt vStr (fun _ => false) (fun _ => vTup K) (fun _ _ _ => false) (fun _ _ _ _ => false) (fun _ _ _ _ => false) (fun _ _ _ _ => false) (fun _ _ => false) (fun _ _ => false) (fun f w => decide (w = .ref (fnA f))) (fun c w => decide (w = .ref (clsA c)))
  List.isEmpty (fun _ _ => vsCons) v
noncomputable def valsChk (K : Frag) (l : List AV) : List Value → Bool := AV.rec_1 (motive_1 := fun _ => Value → Bool) (motive_2 := fun _ => List Value → Bool) (fun w => decide (w = .none)) (fun b w => decide (w = .bool b)) vInt vStr (fun _ => false) (fun _ => vTup K) (fun _ _ _ => false) (fun _ _ _ _ => false) (fun _ _ _ _ => false) (fun _ _ _ _ => false) (fun _ _ => false) (fun _ _ => false) (fun f w => decide (w = .ref (fnA f))) (fun c w => decide (w = .ref (clsA c)))
  List.isEmpty (fun _ _ => vsCons) l
noncomputable abbrev nRoles : Nat := 388696840280882835244115
noncomputable abbrev rolesV : AV := .sd [1919905652, 474108085730319881495908, 1797149157945373717605, 108170419336560, 7235441138447705444] [.str 1919905652, .str 474108085730319881495908, .str 1797149157945373717605, .str 1797149157945373717605, .str 1852796517]
noncomputable def glbChk (K : Frag) : List (Nat × AV) → Bool
  | [] => true
  | p :: r => (match Nat.beq p.1 nRoles with
    | true => decide (nsIn K mainGlobals (nm p.1) = some (some (.ref 601)))
    | false => onSome (nsIn K mainGlobals (nm p.1)) fun o => onSome o (valChk K p.2)) && glbChk K r
noncomputable def fnsChk (K : Frag) : Nat → List Fn → Bool
  | _, [] => true
  | i, fn :: r => chkFn prg K (fnA i) fn && fnsChk K (i + 1) r
noncomputable def fldChk (K : Frag) (a : Addr) (l : List Nat) : Bool := l.all fun n => onSome (findIn K (.ref a) (nm n)) (noGet K) && decide (takerIn K a (nm n) = some none)
noncomputable def mthChk (K : Frag) (a : Addr) (fs : List Nat) (l : List (Nat × Nat)) : Bool := l.all fun p => decide (findIn K (.ref a) (nm p.1) = some (some (.ref (fnA p.2)))) && (isFn K (.ref (fnA p.2)) && !memN p.1 fs)
noncomputable def clsChk (K : Frag) (c : Nat) : Bool :=
  plainGet K (clsA c) "x" && (hasDictIn K (clsA c) && (decide (findIn K (.ref (clsA c)) "__setattr__" = some (some (.builtin "object.__setattr__"))) && (plainOver K (clsA c) && (makesIn K (clsA c) && (decide (findIn K (.ref (clsA c)) "__init__" = some (some (.ref (fnA (initOf c))))) &&
    (decide (typeIn K (.ref (fnA (initOf c))) = some (.type "function")) && (keepIn K (.ref (clsA c)) && (fldChk K (clsA c) (fieldsC c) && mthChk K (clsA c) (fieldsC c) (methL c)))))))))
noncomputable def clssChk (K : Frag) : Nat → Bool
  | 0 => true
  | n + 1 => clsChk K n && clssChk K n
noncomputable def bindP (K : Frag) (f : Nat) (S : Setting) (args : Args) : Option (List (Str × Value)) := match K.lookup (fnA f) with
  | some ⟨_, _, .func fd, _⟩ => peek K S (bindArgs fd args)
  | _ => none
noncomputable def parN (f : Nat) : List Str := match fnAt fnL f with
  | some fn => fn.params.map nm
  | none => []
noncomputable def roleObj (P : Params) : Obj := ⟨.type "dict", none, .dict #[⟨PyData.keyHash P (nm 1919905652), .str (nm 1919905652) 999, .str (nm 1919905652) 1000⟩, ⟨PyData.keyHash P (nm 474108085730319881495908), .str (nm 474108085730319881495908) 1001, .str (nm 474108085730319881495908) 1002⟩,
  ⟨PyData.keyHash P (nm 1797149157945373717605), .str (nm 1797149157945373717605) 1003, .str (nm 1797149157945373717605) 1004⟩, ⟨PyData.keyHash P (nm 108170419336560), .str (nm 108170419336560) 1005, .str (nm 1797149157945373717605) 1006⟩,
  ⟨PyData.keyHash P (nm 7235441138447705444), .str (nm 7235441138447705444) 1007, .str (nm 1852796517) 1008⟩] 5, #[]⟩
structure HeadOK (K : Frag) (P : Params) : Prop where
  glb : glbChk K glbL = true
  fns : fnsChk K 0 fnL = true
  kps : fnTab.all (fun a => keepIn K (.ref a)) = true
  cls : clssChk K 7 = true
  bns : biNames.all (fun x => decide (nsIn K mainGlobals x = some none)) = true
  roles : K.lookup 601 = some (roleObj P)
  top : (K.lookup 850).isSome = true
  p8 : ∀ (S : Setting) (x a b c d : Value), bindP K 8 S ⟨[x, a, b, c, d], []⟩ = some ((parN 8).zip [x, a, b, c, d])
  p11 : ∀ (S : Setting) (x a1 a2 a3 a4 a5 a6 a7 a8 a9 a10 a11 a12 : Value), bindP K 11 S ⟨[x, a1, a2, a3, a4, a5, a6, a7, a8, a9, a10, a11, a12], []⟩ = some ((parN 11).zip [x, a1, a2, a3, a4, a5, a6, a7, a8, a9, a10, a11, a12])
  p48 : ∀ (S : Setting) (x : Value), bindP K 48 S ⟨[x], []⟩ = some ((parN 48).zip [x])
  p49 : ∀ (S : Setting) (x : Value), bindP K 49 S ⟨[x], []⟩ = some ((parN 49).zip [x])
  p52 : ∀ (S : Setting) (x a b c : Value), bindP K 52 S ⟨[x, a, b, c], []⟩ = some ((parN 52).zip [x, a, b, c])
  b0 : ∀ (S : Setting) (x a b c : Value), bindP K 66 S ⟨[x, a, b, c], []⟩ = some ((parN 66).zip [x, a, b, c, .int 6 1086])
  b4 : ∀ (S : Setting) (x a b c : Value), bindP K 46 S ⟨[x, a, b, c], []⟩ = some ((parN 46).zip [x, a, b, c, .bool false, .bool true])
  b6 : ∀ (S : Setting) (x a1 a2 a3 a4 a5 a6 a7 a8 a9 a10 a11 : Value), bindP K 11 S ⟨[x, a1, a2, a3, a4, a5, a6, a7, a8, a9, a10, a11], []⟩ = some ((parN 11).zip [x, a1, a2, a3, a4, a5, a6, a7, a8, a9, a10, a11, .bytes #[] 383])
  k6 : ∀ (S : Setting) (x a1 a2 a3 a4 u : Value), bindP K 11 S ⟨[x, a1, a2, a3, a4], [(nm 1919904869, u)]⟩ = some ((parN 11).zip [x, a1, a2, a3, a4, .bool false, .bool false, .bool false, .bool false, u, .bool false, .bool false, .bytes #[] 383])

theorem some_ex {α : Type} {x : Option α} {k : α → Bool} (h : onSome x k = true) : ∃ a, x = some a ∧ k a = true := inSome (Z := fun x => ∃ a, x = some a ∧ k a = true) h fun a h => ⟨a, rfl, h⟩
section
variable {prog : Program} {w : World} {h₀ : Heap} {K : Frag} {os : OsState} {mg mb : Str → Option Value}
theorem valChk_ok (X : K.In h₀) (v : AV) : ∀ u, valChk K v u = true → VR (mkB prog w h₀ K os) G0 [] v u :=
  AV.rec (motive_1 := fun v => ∀ u, valChk K v u = true → VR (mkB prog w h₀ K os) G0 [] v u) (motive_2 := fun l => ∀ us, valsChk K l us = true → VRs (mkB prog w h₀ K os) G0 [] l us)
    (fun u h => show u = Value.none from of_decide_eq_true h) (fun b u h => show u = Value.bool b from of_decide_eq_true h)
    (fun i u (h : vInt i u = true) => by
      unfold vInt at h
      split at h
      · exact of_decide_eq_true h ▸ .int i _
      · cases h)
    (fun i u (h : vStr i u = true) => by
      unfold vStr at h
      split at h
      · exact of_decide_eq_true h ▸ .str i _
      · cases h)
    (fun _ h => ab h)
    (fun l ih u (h : vTup K (valsChk K l) u = true) => by
      unfold vTup at h
      split at h
      · rename_i a
        obtain ⟨o, e, h⟩ := some_ex h
        refine an h fun h1 h2 => ?_
        split at h2
        · rename_i vs k e2
          exact .tup (vs := vs.toList) (k := k) (.inl (X a _ e)) (of_decide_eq_true h1) (e2.trans (congrArg (fun z => Data.seq z k) (Array.toArray_toList ..).symm)) (ih _ h2)
        · cases h2
      · cases h)
    (fun _ _ _ h => ab h) (fun _ _ _ _ h => ab h) (fun _ _ _ _ h => ab h) (fun _ _ _ _ h => ab h) (fun _ _ h => ab h) (fun _ _ h => ab h) (fun f u h => show u = Value.ref (fnA f) from of_decide_eq_true h) (fun c u h => show u = Value.ref (clsA c) from of_decide_eq_true h)
    (fun us h => List.isEmpty_iff.mp h) (fun v l ih ihs us (h : vsCons (valChk K v) (valsChk K l) us = true) => by
      cases us with
      | nil => cases h
      | cons u us => exact an h fun h1 h2 => .cons (ih _ h1) (ihs _ h2)) v
theorem glbChk_ok : ∀ {l : List (Nat × AV)} {n : Nat} {v : AV}, glbChk K l = true → look n l = some v → (n = nRoles ∧ nsIn K mainGlobals (nm n) = some (some (.ref 601))) ∨ ∃ u, nsIn K mainGlobals (nm n) = some (some u) ∧ valChk K v u = true
  | [], _, _, _, h => nomatch h
  | p :: r, n, v, h, hl => an h fun h1 h2 => by
    have hl : (match Nat.beq n p.1 with | true => some p.2 | false => look n r) = some v := hl
    cases e : Nat.beq n p.1 with
    | false => rw [e] at hl; exact glbChk_ok h2 hl
    | true =>
      rw [e] at hl
      obtain rfl := Nat.eq_of_beq_eq_true e
      obtain rfl := Option.some.inj hl
      cases e2 : Nat.beq p.1 nRoles with
      | true => rw [e2] at h1; exact .inl ⟨Nat.eq_of_beq_eq_true e2, of_decide_eq_true h1⟩
      | false =>
        rw [e2] at h1
        exact .inr (inSome (Z := fun x => ∃ u, x = some (some u) ∧ valChk K p.2 u = true) h1 fun o h1 => inSome (Z := fun o => ∃ u, some o = some (some u) ∧ valChk K p.2 u = true) h1 fun u h1 => ⟨u, rfl, h1⟩)
theorem fnsChk_ok : ∀ {l : List Fn} {i j : Nat} {fn : Fn}, fnsChk K i l = true → fnAt l j = some fn → chkFn prg K (fnA (i + j)) fn = true
  | [], _, _, _, _, h => nomatch h
  | f :: r, i, 0, fn, h, hf => an h fun h1 _ => Option.some.inj hf ▸ h1
  | f :: r, i, j + 1, fn, h, hf => an h fun _ h2 => by
    have z := fnsChk_ok (i := i + 1) (j := j) h2 hf
    rw [Nat.add_right_comm] at z
    exact z
theorem natAt_all {p : Nat → Bool} (h0 : p 61 = true) : ∀ {l : List Nat} {f : Nat}, l.all p = true → p (natAt l f) = true
  | [], _, _ => h0
  | a :: r, 0, h => an h fun h1 _ => h1
  | a :: r, f + 1, h => an h fun _ h2 => natAt_all h0 (l := r) h2
theorem memN_in {n : Nat} : ∀ {l : List Nat}, memN n l = true → n ∈ l
  | [], h => nomatch h
  | m :: r, h => by
    unfold memN at h
    cases e : Nat.beq n m with
    | true => exact Nat.eq_of_beq_eq_true e ▸ .head _
    | false => rw [e] at h; exact .tail _ (memN_in h)
theorem lookN_in {n f : Nat} : ∀ {l : List (Nat × Nat)}, lookN n l = some f → (n, f) ∈ l
  | [], h => nomatch h
  | (m, g) :: r, h => by
    unfold lookN at h
    cases e : Nat.beq n m with
    | true => rw [e] at h; exact Nat.eq_of_beq_eq_true e ▸ Option.some.inj h ▸ .head _
    | false => rw [e] at h; exact .tail _ (lookN_in h)
theorem look_in {n : Nat} {f : AV} : ∀ {l : List (Nat × AV)}, look n l = some f → (n, f) ∈ l
  | [], h => nomatch h
  | (m, g) :: r, h => by
    unfold look at h
    cases e : Nat.beq n m with
    | true => rw [e] at h; exact Nat.eq_of_beq_eq_true e ▸ Option.some.inj h ▸ .head _
    | false => rw [e] at h; exact .tail _ (look_in h)
theorem clssChk_ok {c : Nat} : ∀ {n : Nat}, clssChk K n = true → c < n → clsChk K c = true
  | 0, _, h => absurd h (Nat.not_lt_zero _)
  | n + 1, h, hc => an h fun h1 h2 => (Nat.lt_succ_iff_lt_or_eq.mp hc).elim (clssChk_ok h2) fun e => e ▸ h1
theorem clsChk_ok {c : Nat} (h : clsChk K c = true) : ClsOK (mkB prog w h₀ K os) c :=
  an h fun h1 h => an h fun h2 h => an h fun h3 h => an h fun h4 h => an h fun h5 h => an h fun h6 h => an h fun h7 h => an h fun h8 h => an h fun h9 h10 =>
  ⟨fun _ => h1, h2, of_decide_eq_true h3, h4, h5, of_decide_eq_true h6, of_decide_eq_true h7, h8, fun n hn => an (List.all_eq_true.mp h9 n (memN_in hn)) fun a b => ⟨inSome (Z := fun x => ∃ attr, x = some attr ∧ noGet K attr = true) a fun t a => ⟨t, rfl, a⟩, of_decide_eq_true b⟩,
    fun n f hf => an (List.all_eq_true.mp h10 (n, f) (lookN_in hf)) fun a b => an b fun b d => ⟨of_decide_eq_true a, b, nt d⟩⟩
noncomputable def clsLt (v : AV) : Bool := asCl v (fun c => Nat.blt c 7) true
theorem cls_lt {c : Nat} (h : IsCls (mkB prog w h₀ K os) c) : c < 7 := by
  obtain ⟨n, hn⟩ := h
  have all : glbL.all (fun p => clsLt p.2) = true := by decide +kernel
  exact Nat.le_of_ble_eq_true (List.all_eq_true.mp all _ (look_in hn) : Nat.blt c 7 = true)
theorem binds_of {f : Nat} {args : Args} {full : List Value} (e : ∀ S, bindP K f S args = some ((parN f).zip full)) : Binds (mkB prog w h₀ K os) f args full := fun fn o fd A E Q s hf hk hd X hq => by
  have hk : K.lookup (fnA f) = some o := hk
  have hf : fnAt fnL f = some fn := hf
  have e' : ∀ S, peek K S (bindArgs fd args) = some ((parN f).zip full) := fun S => by
    have z := e S
    unfold bindP at z
    rw [hk] at z
    obtain ⟨c, d, dt, sl⟩ := o
    cases hd
    exact z
  have hp : parN f = fn.params.map nm := by unfold parN; rw [hf]
  rw [hp] at e'
  exact kp_binds X e' (model prog w) A E Q hq
theorem findP_cons {c k c' k' : Nat} {d' : List AV} {r : List (Nat × Nat × List AV)} {d : List AV} {Z : Prop} (h : findP c k ((c', k', d') :: r) = some d) (z1 : c = c' → k = k' → d' = d → Z) (z2 : findP c k r = some d → Z) : Z := by
  unfold findP at h
  cases e : Nat.beq c c' && Nat.beq k k' with
  | false => rw [e] at h; exact z2 h
  | true => rw [e] at h; exact an e fun a b => z1 (Nat.eq_of_beq_eq_true a) (Nat.eq_of_beq_eq_true b) (Option.some.inj h)
theorem findK_cons {c k n c' k' n' j' j : Nat} {d' : List AV} {r : List (Nat × Nat × Nat × Nat × List AV)} {d : List AV} {Z : Prop} (h : findK c k n ((c', k', n', j', d') :: r) = some (j, d)) (z1 : c = c' → k = k' → n = n' → (j', d') = (j, d) → Z) (z2 : findK c k n r = some (j, d) → Z) : Z := by
  unfold findK at h
  cases e : Nat.beq c c' && Nat.beq k k' && Nat.beq n n' with
  | false => rw [e] at h; exact z2 h
  | true => rw [e] at h; exact an e fun a b => an a fun a b' => z1 (Nat.eq_of_beq_eq_true a) (Nat.eq_of_beq_eq_true b') (Nat.eq_of_beq_eq_true b) (Option.some.inj h)
theorem lenS {α : Type} {Z : List α → Prop} {n : Nat} (z : ∀ a r, r.length = n → Z (a :: r)) : ∀ l, l.length = n + 1 → Z l
  | [], h => nomatch h
  | a :: r, h => z a r (Nat.succ.inj h)
theorem len0 {α : Type} {Z : List α → Prop} (z : Z []) : ∀ l : List α, l.length = 0 → Z l
  | [], _ => z
end
end Mine
namespace Mine
open PySem PySem.W PyProof.Rows PySem.Calls

section
variable {prog : Program} {w : World} {h₀ : Heap} {K : Frag} {os : OsState} {mg mb : Str → Option Value}
theorem roles_vr (X : K.In h₀) (hr : K.lookup 601 = some (roleObj w.params)) : VR (mkB prog w h₀ K os) G0 [] rolesV (.ref 601) := by
  have is : ∀ (x : Str) (t : Tok), (PySem.strKind prog w).is x (.str x t) = true := fun x t => beq_self_eq_true x
  refine (show DctR (mkB prog w h₀ K os) (Has (mkB prog w h₀ K os) G0) (PySem.strKind prog w) _ (VRs (mkB prog w h₀ K os) G0 [] _) _ from ⟨601, _, _, _, [.str (nm 1919905652) 1000, .str (nm 474108085730319881495908) 1002, .str (nm 1797149157945373717605) 1004, .str (nm 1797149157945373717605) 1006, .str (nm 1852796517) 1008], rfl, .inl (X _ _ hr), ⟨rfl, rfl, rfl⟩, rfl, ?_, ?_, by decide, rfl, .cons (.str _ _) (.cons (.str _ _) (.cons (.str _ _) (.cons (.str _ _) (.cons (.str _ _) .nil))))⟩)
  · intro e he
    simp only [List.mem_toArray, List.mem_cons, List.not_mem_nil, or_false] at he
    rcases he with rfl | rfl | rfl | rfl | rfl <;> exact ⟨_, is _ _, rfl⟩
  · exact .cons (is _ _) rfl (.cons (is _ _) rfl (.cons (is _ _) rfl (.cons (is _ _) rfl (.cons (is _ _) rfl .nil))))
theorem bok_of (X : K.In h₀) (H : HeadOK K w.params) (g : h₀.Ns mainGlobals mg) (b : h₀.Ns builtinsNs mb) (nl : h₀.NoLimit) (bi : ∀ x : Str, x ≠ "__name__" → mb x = bootBuiltins x) : BOK (mkB prog w h₀ K os) mg mb where
  X := X
  g := g
  b := b
  nolimit := nl
  bi := bi
  big := let ⟨o, ho⟩ := Option.isSome_iff_exists.mp H.top; Nat.lt_trans (by decide : sysModules < 850) (Heap.lt_size (X _ _ ho))
  glb := fun n v hn => by
    rcases glbChk_ok H.glb hn with ⟨rfl, h2⟩ | ⟨u, h1, h2⟩
    · have e : look nRoles glbL = some rolesV := by kernel_rfl
      obtain rfl := Option.some.inj (e.symm.trans hn)
      exact ⟨_, h2, roles_vr X H.roles⟩
    · exact ⟨u, h1, valChk_ok X _ _ h2⟩
  bns := fun x hx => of_decide_eq_true (List.all_eq_true.mp H.bns x hx)
  fn := fun f fn hf => by
    have z := fnsChk_ok (i := 0) (j := f) H.fns hf
    rw [Nat.zero_add] at z
    exact z
  kp := fun f => natAt_all (p := fun a => keepIn K (.ref a)) (l := fnTab) (an H.kps fun a _ => a) H.kps
  cls := fun c hc => clsChk_ok (clssChk_ok H.cls (cls_lt hc))
  dfP := fun c k d hd => by
    have hd : findP c k dflPL = some d := hd
    refine findP_cons hd (fun h1 h2 h3 => ?_) fun hd => findP_cons hd (fun h1 h2 h3 => ?_) fun hd => findP_cons hd (fun h1 h2 h3 => ?_) fun hd => findP_cons hd (fun h1 h2 h3 => ?_) fun hd => findP_cons hd (fun h1 h2 h3 => ?_) fun hd => findP_cons hd (fun h1 h2 h3 => ?_) fun hd => findP_cons hd (fun h1 h2 h3 => ?_) fun hd => findP_cons hd (fun h1 h2 h3 => ?_) fun hd => nomatch (hd : Option.none = some d)
    · subst h1 h2 h3; exact lenS fun a1 => lenS fun a2 => lenS fun a3 => lenS fun a4 => len0 ⟨[], .nil, fun x => binds_of fun S => H.p8 S (.ref x) a1 a2 a3 a4⟩
    · subst h1 h2 h3; exact lenS fun a1 => lenS fun a2 => lenS fun a3 => lenS fun a4 => lenS fun a5 => lenS fun a6 => lenS fun a7 => lenS fun a8 => lenS fun a9 => lenS fun a10 => lenS fun a11 => lenS fun a12 => len0 ⟨[], .nil, fun x => binds_of fun S => H.p11 S (.ref x) a1 a2 a3 a4 a5 a6 a7 a8 a9 a10 a11 a12⟩
    · subst h1 h2 h3; exact len0 ⟨[], .nil, fun x => binds_of fun S => H.p49 S (.ref x)⟩
    · subst h1 h2 h3; exact len0 ⟨[], .nil, fun x => binds_of fun S => H.p48 S (.ref x)⟩
    · subst h1 h2 h3; exact lenS fun a1 => lenS fun a2 => lenS fun a3 => lenS fun a4 => lenS fun a5 => lenS fun a6 => lenS fun a7 => lenS fun a8 => lenS fun a9 => lenS fun a10 => lenS fun a11 => len0 ⟨[.bytes #[] 383], .cons (.byt _) .nil, fun x => binds_of fun S => H.b6 S (.ref x) a1 a2 a3 a4 a5 a6 a7 a8 a9 a10 a11⟩
    · subst h1 h2 h3; exact lenS fun a1 => lenS fun a2 => lenS fun a3 => len0 ⟨[], .nil, fun x => binds_of fun S => H.p52 S (.ref x) a1 a2 a3⟩
    · subst h1 h2 h3; exact lenS fun a1 => lenS fun a2 => lenS fun a3 => len0 ⟨[.int 6 1086], .cons (.int _ _) .nil, fun x => binds_of fun S => H.b0 S (.ref x) a1 a2 a3⟩
    · subst h1 h2 h3; exact lenS fun a1 => lenS fun a2 => lenS fun a3 => len0 ⟨[.bool false, .bool true], .cons (.bool _) (.cons (.bool _) .nil), fun x => binds_of fun S => H.b4 S (.ref x) a1 a2 a3⟩
  dfK := fun c k n j d hd vals u => by
    have hd : findK c k n dflKL = some (j, d) := hd
    refine findK_cons hd (fun h1 h2 h3 h4 => ?_) fun hd => nomatch (hd : Option.none = some (j, d))
    cases h4
    subst h1 h2 h3
    revert vals
    exact lenS fun a1 => lenS fun a2 => lenS fun a3 => lenS fun a4 => len0 ⟨[.bool false, .bool false, .bool false, .bool false, .str (nm 1852796517) 382, .bool false, .bool false, .bytes #[] 383], .cons (.bool _) (.cons (.bool _) (.cons (.bool _) (.cons (.bool _) (.cons (.str _ _) (.cons (.bool _) (.cons (.bool _) (.cons (.byt _) .nil))))))), fun x => binds_of fun S => H.k6 S (.ref x) a1 a2 a3 a4 u⟩
end
theorem ints_vr {B : Base} {G : Gh} {θ : List Addr} {vs : List Value} {ns : List Int} (h : IntsAre vs ns) : VRs B G θ (ns.map .int) vs := by
  induction h with
  | nil => exact .nil
  | cons n t _ ih => exact .cons (.int n t) ih
theorem one_look {x n : Str} {c d : Addr} (h : List.lookup n [(x, c)] = some d) : n = x ∧ d = c := by
  rw [List.lookup_cons] at h
  cases e : n == x with
  | true => rw [e] at h; exact ⟨eq_of_beq e, (Option.some.inj h).symm⟩
  | false => rw [e] at h; cases h
theorem env_ok {name : Str} {scope : Scope} {L a : Addr} {cd : Value} {x : Str} (hk : scope.kind = .function) (hc : cellsFrom (L + 1) scope.names [] = [(x, L + 1)]) : EnvFn (envOfC name scope L a cd) := by
  refine ⟨⟨hk, rfl, rfl, fun n n' d h1 h2 => ?_, fun y hy => ?_, L, rfl, Nat.le_refl _⟩, rfl⟩
  · have h1 : (cellsFrom (L + 1) scope.names []).lookup n = some d := h1
    have h2 : (cellsFrom (L + 1) scope.names []).lookup n' = some d := h2
    rw [hc] at h1 h2
    exact (one_look h1).1.trans (one_look h2).1.symm
  · exact cellsFrom_has (.inl (lookup_mem (show scope.names.lookup y = some .cell from hy)))
noncomputable abbrev LawPost (s₁ : Shared) (fl : Flow) (s' : Shared) : Prop := fl = .ret (.bool true) ∧ (∃ L' m', Fr s₁.heap L' s'.heap m') ∧ s'.gens = #[] ∧ s'.os = s₁.os
theorem law_enter {prog : Program} {w : World} {s₁ : Shared} {K : Frag} {mg mb : Str → Option Value} (O : BOK (mkB prog w s₁.heap K s₁.os) mg mb) {env : Env} {body : List Stmt} {A : Around} {h₁ : Heap} {tk : Nat} {m : Str → Option Value} {c a : Addr} {ob : Obj} {v0 : Option Value} {vs : List Value} {zl : List Int} {k : Nat} {b : Ss} {C : KCalls Prop} (CO : CallsOK (mkB prog w s₁.heap K s₁.os) C k)
    (hE : EnvFn env) (hchk : chkSs prg b env.scope body = true) (hr : Room A (k + 1)) (hg : s₁.gens = #[]) (F : Fr s₁.heap env.locals h₁ m) (N : News s₁.heap env.locals h₁ [(c, ob)]) (hc : s₁.heap.objs.size ≤ c) (hob : ob.data = .cell v0)
    (hcl : ∀ n d, env.cells.lookup n = some d → d = c) (hk : env.kindOf (nm 126870958469236) = some .local) (hm : m (nm 126870958469236) = some (.ref a)) (hL : s₁.heap.IsList a vs.toArray) (hI : IntsAre vs zl) {Q : Fl → Loc → Sto → Prop}
    (hx : exsK prg C False b [(126870958469236, .fl (zl.map .int))] [] Q) (hQ : ∀ {f ρ σ}, Q f ρ σ → f = .ret (.bool true)) :
    wpAny (model prog w) A (execs body env) (LawPost s₁) NoE ⟨h₁, s₁.gens, s₁.drawn, tk, s₁.os⟩ := by
  obtain ⟨o, ho, ocl, n, odt⟩ := hL
  have R : Rel (mkB prog w s₁.heap K s₁.os) env [(126870958469236, .fl (zl.map .int))] [] ⟨[(c, ob)], fun _ => lcTag env⟩ [] ⟨h₁, s₁.gens, s₁.drawn, tk, s₁.os⟩ := by
    refine ⟨m, ⟨hg, rfl, F, N, List.nodup_cons.mpr ⟨fun h => (nomatch h), List.nodup_nil⟩, fun p hp => List.mem_singleton.mp hp ▸ hc, rfl, fun i c hc => (nomatch hc)⟩, fun i v hv h0 => ?_, fun x d hd => ⟨ob, v0, ⟨hcl x d hd ▸ .head _, rfl⟩, hob⟩⟩
    unfold look at hv
    cases e : Nat.beq i 126870958469236 with
    | false => rw [e] at hv; cases hv
    | true =>
      rw [e] at hv
      obtain rfl := Nat.eq_of_beq_eq_true e
      obtain rfl := Option.some.inj hv
      refine ⟨fun _ => ⟨_, hm, .fl (.inl ho) ocl odt (ints_vr hI)⟩, fun h => ?_⟩
      rw [hk] at h
      rcases h with h | h <;> cases h
  refine wpAny_mono (ss_snd (C := C) ⟨O, CO⟩ b env A hE hr body hchk _ _ ⟨_, _, _, R⟩ Q hx) (fun fl s' h => ?_) fun _ _ h => h
  cases h with
  | nxt S' le q => cases hQ q
  | cont S' le q => cases hQ q
  | ret S' le hv q =>
    obtain rfl : _ = AV.bool true := congrArg retv (hQ q)
    obtain ⟨m', C', _⟩ := S'.R
    exact ⟨hv.boolE rfl, ⟨_, m', C'.fr⟩, C'.gens, C'.os⟩
end Mine
namespace Mine
open PySem PySem.W PyProof.Rows PySem.Calls
theorem len_of {zl : List Int} (h : ¬ ((63 : Nat) : Int) < (zl.length : Int)) : zl.length ≤ 63 := by omega
theorem law_gen {prog : Program} {w : World} {s₁ : Shared} {K : Frag} {mg mb : Str → Option Value} (O : BOK (mkB prog w s₁.heap K s₁.os) mg mb) {C : KCalls Prop} (CO : CallsOK (mkB prog w s₁.heap K s₁.os) C 24) (h1 : Pl.RightC C) (h2 : Pl.Take C) (h3 : Pl.VecC C) {zl : List Int} (h4 : ∀ {Q : AV → Sto → Prop}, (∀ x y, Q (.loc 0) (Pl.src x y)) → C 76 [.fl (zl.map .int), .int 0] [] Q)
    {env : Env} {body : List Stmt} {A : Around} {h₁ : Heap} {tk : Nat} {m : Str → Option Value} {c a : Addr} {ob : Obj} {v0 : Option Value} {vs : List Value}
    (hE : EnvFn env) (hchk : chkSs prg Pl.lawB env.scope body = true) (hr : Room A 25) (hg : s₁.gens = #[]) (F : Fr s₁.heap env.locals h₁ m) (N : News s₁.heap env.locals h₁ [(c, ob)]) (hc : s₁.heap.objs.size ≤ c) (hob : ob.data = .cell v0)
    (hcl : ∀ n d, env.cells.lookup n = some d → d = c) (hk : env.kindOf (nm 126870958469236) = some .local) (hm : m (nm 126870958469236) = some (.ref a)) (hL : s₁.heap.IsList a vs.toArray) (hI : IntsAre vs zl) (hl : zl.length ≤ 63) :
    wpAny (model prog w) A (execs body env) (LawPost s₁) NoE ⟨h₁, s₁.gens, s₁.drawn, tk, s₁.os⟩ :=
  law_enter O CO hE hchk hr hg F N hc hob hcl hk hm hL hI (Pl.law_exs (K := fun f _ _ => f = .ret (.bool true)) hl h1 h2 h3 h4 fun _ _ => rfl).h fun h => h
theorem calls12 {prog : Program} {w : World} {h₀ : Heap} {K : Frag} {os : OsState} {mg mb : Str → Option Value} (O : BOK (mkB prog w h₀ K os) mg mb) : CallsOK (mkB prog w h₀ K os) (runK prg False 12) 24 := run_ok O 12
theorem law_top {prog : Program} {w : World} {s₁ : Shared} {K : Frag} {mg mb : Str → Option Value} (X : K.In s₁.heap) (HO : HeadOK K w.params) (g : s₁.heap.Ns mainGlobals mg) (b : s₁.heap.Ns builtinsNs mb) (nl : s₁.heap.NoLimit) (bi : ∀ x : Str, x ≠ "__name__" → mb x = bootBuiltins x)
    {env : Env} {body : List Stmt} {A : Around} {h₁ : Heap} {tk : Nat} {m : Str → Option Value} {c a : Addr} {ob : Obj} {v0 : Option Value} {vs : List Value} {zl : List Int}
    (hE : EnvFn env) (hchk : chkSs prg Pl.lawB env.scope body = true) (hr : Room A 25) (hg : s₁.gens = #[]) (F : Fr s₁.heap env.locals h₁ m) (N : News s₁.heap env.locals h₁ [(c, ob)]) (hc : s₁.heap.objs.size ≤ c) (hob : ob.data = .cell v0)
    (hcl : ∀ n d, env.cells.lookup n = some d → d = c) (hk : env.kindOf (nm 126870958469236) = some .local) (hm : m (nm 126870958469236) = some (.ref a)) (hL : s₁.heap.IsList a vs.toArray) (hI : IntsAre vs zl) (hl : ¬ ((63 : Nat) : Int) < (zl.length : Int)) :
    wpAny (model prog w) A (execs body env) (LawPost s₁) NoE ⟨h₁, s₁.gens, s₁.drawn, tk, s₁.os⟩ :=
  have O := bok_of X HO g b nl bi
  law_gen O (calls12 O) Pl.right_ok (Pl.take_ok (n := 11)) (Pl.vector_ok (n := 9)) (fun {Q} q => Pl.pool_run (n := 11) (len_of hl) q) hE hchk hr hg F N hc hob hcl hk hm hL hI (len_of hl)
end Mine
namespace Mine.hd
noncomputable def tw10012880186880212623 : Nat := 0
noncomputable def tw10024716035694756283 : Nat := 0
noncomputable def tw10030107230732127627 : Nat := 0
noncomputable def tw100483095206116625 : Nat := 0
noncomputable def tw10098268173465320503 : Nat := 0
noncomputable def tw10111801491309104144 : Nat := 0
noncomputable def tw10117440562283002822 : Nat := 0
noncomputable def tw1013155817946168525 : Nat := 0
noncomputable def tw10170382586518783626 : Nat := 0
noncomputable def tw10203026625882799534 : Nat := 0
noncomputable def tw10216474801634566288 : Nat := 0
noncomputable def tw10246146449241189800 : Nat := 0
noncomputable def tw10258999931320997221 : Nat := 0
noncomputable def tw10264135568141901301 : Nat := 0
noncomputable def tw10286656452748174568 : Nat := 0
noncomputable def tw10292235466723388172 : Nat := 0
noncomputable def tw1033889070964956483 : Nat := 0
noncomputable def tw10365702040365258594 : Nat := 0
noncomputable def tw10403243965636340961 : Nat := 0
noncomputable def tw10404513684093684653 : Nat := 0
noncomputable def tw10424393626065333798 : Nat := 0
noncomputable def tw1043307727769730188 : Nat := 0
noncomputable def tw10458740792067480800 : Nat := 0
noncomputable def tw10465514089279642386 : Nat := 0
noncomputable def tw10491609206876299696 : Nat := 0
noncomputable def tw10507497572311344420 : Nat := 0
noncomputable def tw1051681510052472703 : Nat := 0
noncomputable def tw10525666975642140466 : Nat := 0
noncomputable def tw10531373872144210542 : Nat := 0
noncomputable def tw10583446816852156582 : Nat := 0
noncomputable def tw10601615944963115059 : Nat := 0
noncomputable def tw10603584201595350602 : Nat := 0
noncomputable def tw10604169790165778682 : Nat := 0
noncomputable def tw10614716105012338702 : Nat := 0
noncomputable def tw10727248033764811480 : Nat := 0
noncomputable def tw10743916045514856203 : Nat := 0
noncomputable def tw10778257442750969130 : Nat := 0
noncomputable def tw10781468475247234061 : Nat := 0
noncomputable def tw10788059911547816233 : Nat := 0
noncomputable def tw10806950440038215891 : Nat := 0
noncomputable def tw10841399608879689956 : Nat := 0
noncomputable def tw10844753989422098599 : Nat := 0
noncomputable def tw10860895700388868024 : Nat := 0
noncomputable def tw10879034167726328663 : Nat := 0
noncomputable def tw10883786394301105576 : Nat := 0
noncomputable def tw10905682514733158466 : Nat := 0
noncomputable def tw10955317050725887447 : Nat := 0
noncomputable def tw11011131195910976488 : Nat := 0
noncomputable def tw11032806212648032379 : Nat := 0
noncomputable def tw11034497122203965937 : Nat := 0
noncomputable def tw11053918530259517922 : Nat := 0
noncomputable def tw11054480109507316185 : Nat := 0
noncomputable def tw11079593142295127227 : Nat := 0
noncomputable def tw11115866451450875312 : Nat := 0
noncomputable def tw11136197038861592535 : Nat := 0
noncomputable def tw11162318198679636149 : Nat := 0
noncomputable def tw1118553966540926140 : Nat := 0
noncomputable def tw11213053971927718326 : Nat := 0
noncomputable def tw11232374478483605306 : Nat := 0
noncomputable def tw11249132867342737325 : Nat := 0
noncomputable def tw11283319371284918911 : Nat := 0
noncomputable def tw11319097763535126812 : Nat := 0
noncomputable def tw11364443708160879001 : Nat := 0
noncomputable def tw11389486352061984695 : Nat := 0
noncomputable def tw11399449904127653305 : Nat := 0
noncomputable def tw11402939732021071671 : Nat := 0
noncomputable def tw11465210709893060100 : Nat := 0
noncomputable def tw11472165163037031739 : Nat := 0
noncomputable def tw11507959949525687343 : Nat := 0
noncomputable def tw11513968764499736323 : Nat := 0
noncomputable def tw11587034568685482758 : Nat := 0
noncomputable def tw11623594800819314181 : Nat := 0
noncomputable def tw11631869004601391166 : Nat := 0
noncomputable def tw11631947586910100387 : Nat := 0
noncomputable def tw11632984921778587759 : Nat := 0
noncomputable def tw11652457597714270106 : Nat := 0
noncomputable def tw11660266114150955751 : Nat := 0
noncomputable def tw11663481321943121269 : Nat := 0
noncomputable def tw11672842613191775419 : Nat := 0
noncomputable def tw11709330566771433103 : Nat := 0
noncomputable def tw11713075325732132258 : Nat := 0
noncomputable def tw11749099774412794130 : Nat := 0
noncomputable def tw11754176132448286083 : Nat := 0
noncomputable def tw11778180911958503814 : Nat := 0
noncomputable def tw11801993109049149486 : Nat := 0
noncomputable def tw11814627755841444246 : Nat := 0
noncomputable def tw11852641145169952659 : Nat := 0
noncomputable def tw11893437276241958245 : Nat := 0
noncomputable def tw11905163887095721015 : Nat := 0
noncomputable def tw11912922877643110818 : Nat := 0
noncomputable def tw11917015161858427179 : Nat := 0
noncomputable def tw11953376511379268794 : Nat := 0
noncomputable def tw11968265576560266318 : Nat := 0
noncomputable def tw12023040214023829324 : Nat := 0
noncomputable def tw12050417470231563642 : Nat := 0
noncomputable def tw12058812876911547015 : Nat := 0
noncomputable def tw12070051907170230399 : Nat := 0
noncomputable def tw12070654863422294720 : Nat := 0
noncomputable def tw1208734638264122097 : Nat := 0
noncomputable def tw12092154237167983948 : Nat := 0
noncomputable def tw12112201142124510154 : Nat := 0
noncomputable def tw12127338746724423809 : Nat := 0
noncomputable def tw12131494931117144662 : Nat := 0
noncomputable def tw12173100003817136821 : Nat := 0
noncomputable def tw1222794163293265305 : Nat := 0
noncomputable def tw12239354291974867115 : Nat := 0
noncomputable def tw12268275109542032366 : Nat := 0
noncomputable def tw12337632362937886050 : Nat := 0
noncomputable def tw12350410155528471161 : Nat := 0
noncomputable def tw12364972598781006883 : Nat := 0
noncomputable def tw12394076208661396346 : Nat := 0
noncomputable def tw12399718760709695909 : Nat := 0
noncomputable def tw1241404454085649124 : Nat := 0
noncomputable def tw12414669353804360901 : Nat := 0
noncomputable def tw12459740579856956213 : Nat := 0
noncomputable def tw12480425521718506038 : Nat := 0
noncomputable def tw12487502673411948298 : Nat := 0
noncomputable def tw12509009523430927325 : Nat := 0
noncomputable def tw12521463284412890351 : Nat := 0
noncomputable def tw12575139184659369484 : Nat := 0
noncomputable def tw12588582704262371052 : Nat := 0
noncomputable def tw12590977762386282803 : Nat := 0
noncomputable def tw12591134339009171964 : Nat := 0
noncomputable def tw12602439190401603521 : Nat := 0
noncomputable def tw12611767792052310623 : Nat := 0
noncomputable def tw12614811148066621264 : Nat := 0
noncomputable def tw12629568148972539762 : Nat := 0
noncomputable def tw12631932088317031055 : Nat := 0
noncomputable def tw12647368939536790636 : Nat := 0
noncomputable def tw12659318050587179527 : Nat := 0
noncomputable def tw12744807935193187038 : Nat := 0
noncomputable def tw12832683148521936107 : Nat := 0
noncomputable def tw128412058910260475 : Nat := 0
noncomputable def tw12861998865439983172 : Nat := 0
noncomputable def tw12900700647772717614 : Nat := 0
noncomputable def tw12901994302517312135 : Nat := 0
noncomputable def tw12936449754285732098 : Nat := 0
noncomputable def tw12952509933414984302 : Nat := 0
noncomputable def tw1299046323782801668 : Nat := 0
noncomputable def tw12994019391074448376 : Nat := 0
noncomputable def tw13047593935725612058 : Nat := 0
noncomputable def tw13066319289922817542 : Nat := 0
noncomputable def tw13092906067662860646 : Nat := 0
noncomputable def tw13122850982685727845 : Nat := 0
noncomputable def tw13132618709999183898 : Nat := 0
noncomputable def tw13171141561276507362 : Nat := 0
noncomputable def tw13217225542625558698 : Nat := 0
noncomputable def tw13218659294841961345 : Nat := 0
noncomputable def tw13220430256171166289 : Nat := 0
noncomputable def tw13225837485096350037 : Nat := 0
noncomputable def tw13267510147771200024 : Nat := 0
noncomputable def tw13277076834127875243 : Nat := 0
noncomputable def tw13280443560766958183 : Nat := 0
noncomputable def tw13285133528070534704 : Nat := 0
noncomputable def tw13289513938125300765 : Nat := 0
noncomputable def tw13293453174229064190 : Nat := 0
noncomputable def tw13315533130655954831 : Nat := 0
noncomputable def tw13322179722446271537 : Nat := 0
noncomputable def tw13330244855972007585 : Nat := 0
noncomputable def tw13342606739435360313 : Nat := 0
noncomputable def tw13365295217650922812 : Nat := 0
noncomputable def tw13368278939475635651 : Nat := 0
noncomputable def tw13372043803930879067 : Nat := 0
noncomputable def tw13409441903868389331 : Nat := 0
noncomputable def tw13431754692932380062 : Nat := 0
noncomputable def tw13466754112058979494 : Nat := 0
noncomputable def tw13468300074154594103 : Nat := 0
noncomputable def tw13474097485772985973 : Nat := 0
noncomputable def tw13475242022060392486 : Nat := 0
noncomputable def tw13483081372092288885 : Nat := 0
noncomputable def tw13518370688599389936 : Nat := 0
noncomputable def tw13531707123254989501 : Nat := 0
noncomputable def tw13532847315355080253 : Nat := 0
noncomputable def tw13566260322249332789 : Nat := 0
noncomputable def tw1359830224848277088 : Nat := 0
noncomputable def tw13609717118414637909 : Nat := 0
noncomputable def tw13628142620392400109 : Nat := 0
noncomputable def tw13638418597567726942 : Nat := 0
noncomputable def tw13642289790063256904 : Nat := 0
noncomputable def tw13770079208771991547 : Nat := 0
noncomputable def tw137786328141462057 : Nat := 0
noncomputable def tw13790719812936386609 : Nat := 0
noncomputable def tw1379335367625716243 : Nat := 0
noncomputable def tw13828106393651249627 : Nat := 0
noncomputable def tw1382963296337349011 : Nat := 0
noncomputable def tw13855946660403688772 : Nat := 0
noncomputable def tw13893168526513508166 : Nat := 0
noncomputable def tw13903934854276604550 : Nat := 0
noncomputable def tw13919464512627920130 : Nat := 0
noncomputable def tw13931416462566266981 : Nat := 0
noncomputable def tw13994979335412520660 : Nat := 0
noncomputable def tw14006173549557618073 : Nat := 0
noncomputable def tw14029546391885035639 : Nat := 0
noncomputable def tw14060154772996877548 : Nat := 0
noncomputable def tw14081959909532527916 : Nat := 0
noncomputable def tw1409312971732116557 : Nat := 0
noncomputable def tw14120982254508448379 : Nat := 0
noncomputable def tw1413172679324656950 : Nat := 0
noncomputable def tw14137390275340422267 : Nat := 0
noncomputable def tw14176624398918483544 : Nat := 0
noncomputable def tw14294001040229213422 : Nat := 0
noncomputable def tw14294344414604881677 : Nat := 0
noncomputable def tw14400467628812073631 : Nat := 0
noncomputable def tw14438451200097066615 : Nat := 0
noncomputable def tw14439243815434019604 : Nat := 0
noncomputable def tw14457593812595234344 : Nat := 0
noncomputable def tw14462709497994964445 : Nat := 0
noncomputable def tw14478148883734587675 : Nat := 0
noncomputable def tw14492701947808656938 : Nat := 0
noncomputable def tw1452849714261714991 : Nat := 0
noncomputable def tw14553816603554493358 : Nat := 0
noncomputable def tw14560493823538711346 : Nat := 0
noncomputable def tw14598272352848978880 : Nat := 0
noncomputable def tw14612060388864693735 : Nat := 0
noncomputable def tw14620637471214046174 : Nat := 0
noncomputable def tw14667805832236412624 : Nat := 0
noncomputable def tw14683707025165767436 : Nat := 0
noncomputable def tw14685462170515437407 : Nat := 0
noncomputable def tw14705683404202351889 : Nat := 0
noncomputable def tw14706022693812145444 : Nat := 0
noncomputable def tw14743440263598761229 : Nat := 0
noncomputable def tw14745743045033390146 : Nat := 0
noncomputable def tw14768889098011018680 : Nat := 0
noncomputable def tw14852329139284432860 : Nat := 0
noncomputable def tw14859038896228082724 : Nat := 0
noncomputable def tw14896477498954680388 : Nat := 0
noncomputable def tw14906377314874228009 : Nat := 0
noncomputable def tw14984183105004643987 : Nat := 0
noncomputable def tw15042006015671813226 : Nat := 0
noncomputable def tw15043168886218598503 : Nat := 0
noncomputable def tw15048261121198461528 : Nat := 0
noncomputable def tw1506431575118746342 : Nat := 0
noncomputable def tw15083628210047938546 : Nat := 0
noncomputable def tw15089522573102190283 : Nat := 0
noncomputable def tw15152743547302097792 : Nat := 0
noncomputable def tw15166520500009309586 : Nat := 0
noncomputable def tw15179676742415161110 : Nat := 0
noncomputable def tw15199589371867527261 : Nat := 0
noncomputable def tw15213948185873263833 : Nat := 0
noncomputable def tw15277330632498426303 : Nat := 0
noncomputable def tw15278966056882409248 : Nat := 0
noncomputable def tw15279998641719260112 : Nat := 0
noncomputable def tw15348815342697509953 : Nat := 0
noncomputable def tw1535757262459896012 : Nat := 0
noncomputable def tw15368132723985388332 : Nat := 0
noncomputable def tw15411387601460861337 : Nat := 0
noncomputable def tw15416985209724490359 : Nat := 0
noncomputable def tw15422856539912107476 : Nat := 0
noncomputable def tw15427206886491885616 : Nat := 0
noncomputable def tw15463257786427224491 : Nat := 0
noncomputable def tw15508949281206285077 : Nat := 0
noncomputable def tw15527848837575444561 : Nat := 0
noncomputable def tw15529170255622000948 : Nat := 0
noncomputable def tw15578025631644234493 : Nat := 0
noncomputable def tw15615420239508185596 : Nat := 0
noncomputable def tw15615537253650120727 : Nat := 0
noncomputable def tw15616948245753086127 : Nat := 0
noncomputable def tw1563692795949630186 : Nat := 0
noncomputable def tw15642763164714097627 : Nat := 0
noncomputable def tw15643275761693703936 : Nat := 0
noncomputable def tw15673258824015622330 : Nat := 0
noncomputable def tw15675198926951892251 : Nat := 0
noncomputable def tw15687388767607454252 : Nat := 0
noncomputable def tw15719865888441537101 : Nat := 0
noncomputable def tw15759970867653108152 : Nat := 0
noncomputable def tw15766259241364953331 : Nat := 0
noncomputable def tw1580110805410547442 : Nat := 0
noncomputable def tw15813434630575017362 : Nat := 0
noncomputable def tw15837987909243819085 : Nat := 0
noncomputable def tw15852365999677673905 : Nat := 0
noncomputable def tw1589133516308662214 : Nat := 0
noncomputable def tw15924899543223041283 : Nat := 0
noncomputable def tw15946356160694317329 : Nat := 0
noncomputable def tw15946388913382835224 : Nat := 0
noncomputable def tw15967140613478806237 : Nat := 0
noncomputable def tw15987713032478767096 : Nat := 0
noncomputable def tw15992342658441690333 : Nat := 0
noncomputable def tw1600037746751723098 : Nat := 0
noncomputable def tw16006246977917349235 : Nat := 0
noncomputable def tw16009884308244765898 : Nat := 0
noncomputable def tw16011055738799735888 : Nat := 0
noncomputable def tw16029623286316568529 : Nat := 0
noncomputable def tw1603739661141634737 : Nat := 0
noncomputable def tw16037735763661986305 : Nat := 0
noncomputable def tw16053994301053490033 : Nat := 0
noncomputable def tw16064382804478563927 : Nat := 0
noncomputable def tw16091413853298234908 : Nat := 0
noncomputable def tw1610171440888473627 : Nat := 0
noncomputable def tw16138627921320673191 : Nat := 0
noncomputable def tw16154546982801380032 : Nat := 0
noncomputable def tw16155205043701107222 : Nat := 0
noncomputable def tw16157073509204512506 : Nat := 0
noncomputable def tw16169374299450900766 : Nat := 0
noncomputable def tw16178712458983371728 : Nat := 0
noncomputable def tw16200623403803356285 : Nat := 0
noncomputable def tw16211521421427940678 : Nat := 0
noncomputable def tw16240987189780228909 : Nat := 0
noncomputable def tw16257038226119295666 : Nat := 0
noncomputable def tw16259696140248634718 : Nat := 0
noncomputable def tw162610821266807592 : Nat := 0
noncomputable def tw1627912709990685506 : Nat := 0
noncomputable def tw16299908979028503884 : Nat := 0
noncomputable def tw16302227732802510677 : Nat := 0
noncomputable def tw16357263729072622229 : Nat := 0
noncomputable def tw16376525773666504680 : Nat := 0
noncomputable def tw16412773359747925120 : Nat := 0
noncomputable def tw16443024508289211202 : Nat := 0
noncomputable def tw16456969618363192440 : Nat := 0
noncomputable def tw16473244170626142550 : Nat := 0
noncomputable def tw16477043939570097188 : Nat := 0
noncomputable def tw16487816990975572028 : Nat := 0
noncomputable def tw16502264421070913907 : Nat := 0
noncomputable def tw16547865195752855329 : Nat := 0
noncomputable def tw16634568088961857937 : Nat := 0
noncomputable def tw16640546478005224243 : Nat := 0
noncomputable def tw16649331688326792143 : Nat := 0
noncomputable def tw1666387254794493845 : Nat := 0
noncomputable def tw16684818696116721337 : Nat := 0
noncomputable def tw16694946328126371552 : Nat := 0
noncomputable def tw16698745307106531279 : Nat := 0
noncomputable def tw16713699803418581334 : Nat := 0
noncomputable def tw16722109127936396110 : Nat := 0
noncomputable def tw16772102934027710169 : Nat := 0
noncomputable def tw16794629799341752650 : Nat := 0
noncomputable def tw16828662820484618922 : Nat := 0
noncomputable def tw16828841361933241965 : Nat := 0
noncomputable def tw16853341256802265648 : Nat := 0
noncomputable def tw16858285156579221889 : Nat := 0
noncomputable def tw16868993833207775613 : Nat := 0
noncomputable def tw16904818350239718627 : Nat := 0
noncomputable def tw16920754564084929960 : Nat := 0
noncomputable def tw16945582573551092051 : Nat := 0
noncomputable def tw16967832588854946220 : Nat := 0
noncomputable def tw1699103778626983548 : Nat := 0
noncomputable def tw17001982702790524580 : Nat := 0
noncomputable def tw17047115858639842297 : Nat := 0
noncomputable def tw17054507655720011243 : Nat := 0
noncomputable def tw17066044127408595049 : Nat := 0
noncomputable def tw17070941380808615275 : Nat := 0
noncomputable def tw17076082267592564974 : Nat := 0
noncomputable def tw17087091549796120035 : Nat := 0
noncomputable def tw1712922718373300912 : Nat := 0
noncomputable def tw17143205804819765802 : Nat := 0
noncomputable def tw17157681369570327122 : Nat := 0
noncomputable def tw17172931820748874959 : Nat := 0
noncomputable def tw17177331786930743035 : Nat := 0
noncomputable def tw17213754286329925777 : Nat := 0
noncomputable def tw17252143746492648416 : Nat := 0
noncomputable def tw17258206423299326598 : Nat := 0
noncomputable def tw17311223219408574766 : Nat := 0
noncomputable def tw17312999752573914782 : Nat := 0
noncomputable def tw17330132731328240911 : Nat := 0
noncomputable def tw17330945745186091897 : Nat := 0
noncomputable def tw17336936450418997793 : Nat := 0
noncomputable def tw17386561741084979693 : Nat := 0
noncomputable def tw17387473266821786944 : Nat := 0
noncomputable def tw17447410573909459338 : Nat := 0
noncomputable def tw17454471701868102899 : Nat := 0
noncomputable def tw17471934795394947791 : Nat := 0
noncomputable def tw17491280204586788870 : Nat := 0
noncomputable def tw17495340751864218003 : Nat := 0
noncomputable def tw17542962492245011380 : Nat := 0
noncomputable def tw17562767543260142214 : Nat := 0
noncomputable def tw17583924267553061668 : Nat := 0
noncomputable def tw17588044629489971554 : Nat := 0
noncomputable def tw17599816209265215132 : Nat := 0
noncomputable def tw1760603350576429475 : Nat := 0
noncomputable def tw17606422857730326317 : Nat := 0
noncomputable def tw17628472586750557451 : Nat := 0
noncomputable def tw17650839729002327288 : Nat := 0
noncomputable def tw17672654358674132775 : Nat := 0
noncomputable def tw17673860158736603733 : Nat := 0
noncomputable def tw17681399029576232318 : Nat := 0
noncomputable def tw17696971302532935780 : Nat := 0
noncomputable def tw17714235663813219645 : Nat := 0
noncomputable def tw17737187407176874954 : Nat := 0
noncomputable def tw17739348878880393726 : Nat := 0
noncomputable def tw17772917993097084435 : Nat := 0
noncomputable def tw17789176322338366841 : Nat := 0
noncomputable def tw1779329888486165629 : Nat := 0
noncomputable def tw1781861727890032366 : Nat := 0
noncomputable def tw17843490464661113860 : Nat := 0
noncomputable def tw17893044597097874663 : Nat := 0
noncomputable def tw17895171251205151618 : Nat := 0
noncomputable def tw17901334829092211166 : Nat := 0
noncomputable def tw17902569758825723728 : Nat := 0
noncomputable def tw17903497710992402801 : Nat := 0
noncomputable def tw17919194246423945575 : Nat := 0
noncomputable def tw17925215291927510665 : Nat := 0
noncomputable def tw1792636949448641307 : Nat := 0
noncomputable def tw17948085552500728524 : Nat := 0
noncomputable def tw17950676927832955104 : Nat := 0
noncomputable def tw17956543221229664512 : Nat := 0
noncomputable def tw17975533764899295144 : Nat := 0
noncomputable def tw17986969038992634876 : Nat := 0
noncomputable def tw17989097746536338734 : Nat := 0
noncomputable def tw18093812233618175256 : Nat := 0
noncomputable def tw18095200977026478895 : Nat := 0
noncomputable def tw18103342009636024947 : Nat := 0
noncomputable def tw18103420901670897651 : Nat := 0
noncomputable def tw18163647496604598072 : Nat := 0
noncomputable def tw18176940659606848779 : Nat := 0
noncomputable def tw18185175575083235020 : Nat := 0
noncomputable def tw18241275227582772068 : Nat := 0
noncomputable def tw18245042118932799458 : Nat := 0
noncomputable def tw18264374347568628810 : Nat := 0
noncomputable def tw18268791191939849864 : Nat := 0
noncomputable def tw18291419657060728153 : Nat := 0
noncomputable def tw18293732401869909652 : Nat := 0
noncomputable def tw18293851220164018083 : Nat := 0
noncomputable def tw18300207936620678264 : Nat := 0
noncomputable def tw18330183385023645277 : Nat := 0
noncomputable def tw18343703819029505601 : Nat := 0
noncomputable def tw1836080755315867724 : Nat := 0
noncomputable def tw1847840615245081061 : Nat := 0
noncomputable def tw1848646778235469078 : Nat := 0
noncomputable def tw185848376630758926 : Nat := 0
noncomputable def tw1865391376527767206 : Nat := 0
noncomputable def tw189712035060473897 : Nat := 0
noncomputable def tw190519026028168232 : Nat := 0
noncomputable def tw1954109241102656831 : Nat := 0
noncomputable def tw1997569388931296116 : Nat := 0
noncomputable def tw2001351230973187099 : Nat := 0
noncomputable def tw2040990291671593033 : Nat := 0
noncomputable def tw2042292140826266357 : Nat := 0
noncomputable def tw2051048951616859547 : Nat := 0
noncomputable def tw2068664650715991707 : Nat := 0
noncomputable def tw2101469004524951375 : Nat := 0
noncomputable def tw2114630138375439770 : Nat := 0
noncomputable def tw212345690472687942 : Nat := 0
noncomputable def tw2134215046882385847 : Nat := 0
noncomputable def tw2195365466389143174 : Nat := 0
noncomputable def tw2216850387143573719 : Nat := 0
noncomputable def tw2252305205657439004 : Nat := 0
noncomputable def tw22551697357593593 : Nat := 0
noncomputable def tw2263123870574935043 : Nat := 0
noncomputable def tw226724450230711188 : Nat := 0
noncomputable def tw2274498078352570744 : Nat := 0
noncomputable def tw2284436838669742495 : Nat := 0
noncomputable def tw2304311442786299043 : Nat := 0
noncomputable def tw2315301623876862497 : Nat := 0
noncomputable def tw2323474266016966308 : Nat := 0
noncomputable def tw2327210489368252092 : Nat := 0
noncomputable def tw2329189449893159454 : Nat := 0
noncomputable def tw2386827423013361158 : Nat := 0
noncomputable def tw2391449824757734642 : Nat := 0
noncomputable def tw242841246431481386 : Nat := 0
noncomputable def tw243823211424636713 : Nat := 0
noncomputable def tw2442259710966052079 : Nat := 0
noncomputable def tw2457190517430149469 : Nat := 0
noncomputable def tw2480057099694739299 : Nat := 0
noncomputable def tw2483235414948986876 : Nat := 0
noncomputable def tw250903467453971090 : Nat := 0
noncomputable def tw257007361410690125 : Nat := 0
noncomputable def tw2595994805191909183 : Nat := 0
noncomputable def tw2603259988358896889 : Nat := 0
noncomputable def tw2608437505485318709 : Nat := 0
noncomputable def tw2616952524820836436 : Nat := 0
noncomputable def tw262745018181394680 : Nat := 0
noncomputable def tw26425463804135960 : Nat := 0
noncomputable def tw2658526732547218105 : Nat := 0
noncomputable def tw2708950531961675432 : Nat := 0
noncomputable def tw2781682124601125471 : Nat := 0
noncomputable def tw2783992281797965187 : Nat := 0
noncomputable def tw2788664435532181463 : Nat := 0
noncomputable def tw2799067240506288376 : Nat := 0
noncomputable def tw2799716289819351777 : Nat := 0
noncomputable def tw280609765759037681 : Nat := 0
noncomputable def tw2808349399557158395 : Nat := 0
noncomputable def tw2845207389951388047 : Nat := 0
noncomputable def tw2845679848157327705 : Nat := 0
noncomputable def tw2855845756224970109 : Nat := 0
noncomputable def tw2867327485932766208 : Nat := 0
noncomputable def tw2886944701177904103 : Nat := 0
noncomputable def tw2887051446865420828 : Nat := 0
noncomputable def tw2922222751358710265 : Nat := 0
noncomputable def tw2930668341846507884 : Nat := 0
noncomputable def tw2999033326186475339 : Nat := 0
noncomputable def tw3044193314922437478 : Nat := 0
noncomputable def tw3058821109629397610 : Nat := 0
noncomputable def tw307737655149646647 : Nat := 0
noncomputable def tw3085183777334472315 : Nat := 0
noncomputable def tw3109861748172591687 : Nat := 0
noncomputable def tw313027258313007627 : Nat := 0
noncomputable def tw3173010612589774626 : Nat := 0
noncomputable def tw3182187488490625086 : Nat := 0
noncomputable def tw3196399650302076718 : Nat := 0
noncomputable def tw3219085151875037572 : Nat := 0
noncomputable def tw3229955645248102723 : Nat := 0
noncomputable def tw3309697970292668127 : Nat := 0
noncomputable def tw3333446698644548216 : Nat := 0
noncomputable def tw3350844169311001129 : Nat := 0
noncomputable def tw3350930974749635488 : Nat := 0
noncomputable def tw3381375190539634487 : Nat := 0
noncomputable def tw3386092968808520798 : Nat := 0
noncomputable def tw3404104791013757517 : Nat := 0
noncomputable def tw3419581819265744254 : Nat := 0
noncomputable def tw3429492842335990350 : Nat := 0
noncomputable def tw3434918251397683217 : Nat := 0
noncomputable def tw3442329435671937591 : Nat := 0
noncomputable def tw3451239065008710300 : Nat := 0
noncomputable def tw3452082135128663414 : Nat := 0
noncomputable def tw3484992998616243462 : Nat := 0
noncomputable def tw3493717111155160527 : Nat := 0
noncomputable def tw3513125359445811510 : Nat := 0
noncomputable def tw351447617903366461 : Nat := 0
noncomputable def tw3530705653197291679 : Nat := 0
noncomputable def tw3608708970678896270 : Nat := 0
noncomputable def tw3646829019195819677 : Nat := 0
noncomputable def tw3673020696563887462 : Nat := 0
noncomputable def tw3694398316872202419 : Nat := 0
noncomputable def tw3704167492566942397 : Nat := 0
noncomputable def tw3722166409189360004 : Nat := 0
noncomputable def tw3759623122121258479 : Nat := 0
noncomputable def tw3789350110615891812 : Nat := 0
noncomputable def tw3795277891434052102 : Nat := 0
noncomputable def tw3816877163431070358 : Nat := 0
noncomputable def tw3828038474966422129 : Nat := 0
noncomputable def tw3876449026389394717 : Nat := 0
noncomputable def tw3878383114103592795 : Nat := 0
noncomputable def tw3919010098100093602 : Nat := 0
noncomputable def tw3920623390966001496 : Nat := 0
noncomputable def tw3940546777539579641 : Nat := 0
noncomputable def tw3941438180925939637 : Nat := 0
noncomputable def tw395138700845864316 : Nat := 0
noncomputable def tw3953601041324332601 : Nat := 0
noncomputable def tw4014540891139286612 : Nat := 0
noncomputable def tw4015398097383911347 : Nat := 0
noncomputable def tw4021928978595405253 : Nat := 0
noncomputable def tw402640490398009360 : Nat := 0
noncomputable def tw4065347644161347641 : Nat := 0
noncomputable def tw4086058157674990017 : Nat := 0
noncomputable def tw4091639524402994376 : Nat := 0
noncomputable def tw4098362415840021955 : Nat := 0
noncomputable def tw4111692666942324129 : Nat := 0
noncomputable def tw4115565904173853331 : Nat := 0
noncomputable def tw4126306136578151734 : Nat := 0
noncomputable def tw4138081844389336918 : Nat := 0
noncomputable def tw4159134105002834734 : Nat := 0
noncomputable def tw4172343393113369950 : Nat := 0
noncomputable def tw4225703048834024713 : Nat := 0
noncomputable def tw423979275157427843 : Nat := 0
noncomputable def tw4272726840584523970 : Nat := 0
noncomputable def tw4282304852377368616 : Nat := 0
noncomputable def tw4315991029959535628 : Nat := 0
noncomputable def tw432457690288141553 : Nat := 0
noncomputable def tw4360684699965382250 : Nat := 0
noncomputable def tw4363365295628954845 : Nat := 0
noncomputable def tw4367231431732253908 : Nat := 0
noncomputable def tw4367455430839740993 : Nat := 0
noncomputable def tw4377701919642642989 : Nat := 0
noncomputable def tw4383666589626881386 : Nat := 0
noncomputable def tw4402725079659364252 : Nat := 0
noncomputable def tw442638132926106271 : Nat := 0
noncomputable def tw4449123307109862055 : Nat := 0
noncomputable def tw4478166936697009375 : Nat := 0
noncomputable def tw4478177076189095293 : Nat := 0
noncomputable def tw4478964076566166474 : Nat := 0
noncomputable def tw4523669819894539328 : Nat := 0
noncomputable def tw461538923250603899 : Nat := 0
noncomputable def tw4642405928176397000 : Nat := 0
noncomputable def tw464777395874653626 : Nat := 0
noncomputable def tw4654797750381630734 : Nat := 0
noncomputable def tw4702841417184801058 : Nat := 0
noncomputable def tw4725425184044842548 : Nat := 0
noncomputable def tw4734902545126651661 : Nat := 0
noncomputable def tw4768578896829404305 : Nat := 0
noncomputable def tw4790547091431630005 : Nat := 0
noncomputable def tw4817003022231809500 : Nat := 0
noncomputable def tw4833718069199227053 : Nat := 0
noncomputable def tw4851647983119433812 : Nat := 0
noncomputable def tw4856431653887292112 : Nat := 0
noncomputable def tw4870687313549177768 : Nat := 0
noncomputable def tw4971549296188076032 : Nat := 0
noncomputable def tw4990156530697904881 : Nat := 0
noncomputable def tw4993660671451451078 : Nat := 0
noncomputable def tw500953250457666378 : Nat := 0
noncomputable def tw5009564483982726761 : Nat := 0
noncomputable def tw5010264101278932077 : Nat := 0
noncomputable def tw5036846961687405229 : Nat := 0
noncomputable def tw5054737718236178183 : Nat := 0
noncomputable def tw5074306521899617757 : Nat := 0
noncomputable def tw5130813555471234732 : Nat := 0
noncomputable def tw5138769234217329475 : Nat := 0
noncomputable def tw5148922909946612681 : Nat := 0
noncomputable def tw5167245352685981253 : Nat := 0
noncomputable def tw5174551420813472067 : Nat := 0
noncomputable def tw5190246844813560578 : Nat := 0
noncomputable def tw5238241317806426387 : Nat := 0
noncomputable def tw5247051413645994129 : Nat := 0
noncomputable def tw526207354791536317 : Nat := 0
noncomputable def tw5278057926702712004 : Nat := 0
noncomputable def tw5282504435634884242 : Nat := 0
noncomputable def tw5292301768408028288 : Nat := 0
noncomputable def tw5318216170032084099 : Nat := 0
noncomputable def tw5343241284826551009 : Nat := 0
noncomputable def tw5363564295841288755 : Nat := 0
noncomputable def tw5366084841770067474 : Nat := 0
noncomputable def tw5373601922739893978 : Nat := 0
noncomputable def tw5388632664720090651 : Nat := 0
noncomputable def tw5416991563250132298 : Nat := 0
noncomputable def tw5433107678231618845 : Nat := 0
noncomputable def tw5464967688985200232 : Nat := 0
noncomputable def tw5480042469492414594 : Nat := 0
noncomputable def tw5486487638281291605 : Nat := 0
noncomputable def tw5505005885091257285 : Nat := 0
noncomputable def tw5505332120971382143 : Nat := 0
noncomputable def tw5513025101015932971 : Nat := 0
noncomputable def tw5535567543195554156 : Nat := 0
noncomputable def tw5562173858411828344 : Nat := 0
noncomputable def tw5592360268479517082 : Nat := 0
noncomputable def tw5595918842973271245 : Nat := 0
noncomputable def tw5608270528595127837 : Nat := 0
noncomputable def tw561391293025646643 : Nat := 0
noncomputable def tw5629675986466331604 : Nat := 0
noncomputable def tw5635641802508607975 : Nat := 0
noncomputable def tw5657824000916062451 : Nat := 0
noncomputable def tw567884609423149705 : Nat := 0
noncomputable def tw5715356086224469760 : Nat := 0
noncomputable def tw5715734110848049390 : Nat := 0
noncomputable def tw5716766192118558609 : Nat := 0
noncomputable def tw5732804406350252772 : Nat := 0
noncomputable def tw5781342201191254626 : Nat := 0
noncomputable def tw5802308918014334467 : Nat := 0
noncomputable def tw5873113503399164460 : Nat := 0
noncomputable def tw5877141610890800631 : Nat := 0
noncomputable def tw5902613922787404954 : Nat := 0
noncomputable def tw5927567313105069670 : Nat := 0
noncomputable def tw5961118342813265553 : Nat := 0
noncomputable def tw5976792059365374437 : Nat := 0
noncomputable def tw5978321128707920903 : Nat := 0
noncomputable def tw5987830557187376847 : Nat := 0
noncomputable def tw6038821095411175016 : Nat := 0
noncomputable def tw6046454685291232161 : Nat := 0
noncomputable def tw6060742912462422084 : Nat := 0
noncomputable def tw6079173187612997037 : Nat := 0
noncomputable def tw6136932545381038964 : Nat := 0
noncomputable def tw6140570298594658328 : Nat := 0
noncomputable def tw6164396464334811476 : Nat := 0
noncomputable def tw6184208073178115725 : Nat := 0
noncomputable def tw6184460063843016694 : Nat := 0
noncomputable def tw6186238094035137676 : Nat := 0
noncomputable def tw6196171512934965099 : Nat := 0
noncomputable def tw6264232113106981867 : Nat := 0
noncomputable def tw6276725880618359904 : Nat := 0
noncomputable def tw6293948785866598258 : Nat := 0
noncomputable def tw6305734824756694309 : Nat := 0
noncomputable def tw6308581086252854402 : Nat := 0
noncomputable def tw6320253292602491972 : Nat := 0
noncomputable def tw6394381022753523788 : Nat := 0
noncomputable def tw6407587892757256292 : Nat := 0
noncomputable def tw6411954120941647267 : Nat := 0
noncomputable def tw6423634429210846174 : Nat := 0
noncomputable def tw6438293893037913957 : Nat := 0
noncomputable def tw6442067068224118133 : Nat := 0
noncomputable def tw6449127861642672459 : Nat := 0
noncomputable def tw6469175993241445255 : Nat := 0
noncomputable def tw6545403380812914513 : Nat := 0
noncomputable def tw6547078798241139092 : Nat := 0
noncomputable def tw6555240042291301478 : Nat := 0
noncomputable def tw656455966557771466 : Nat := 0
noncomputable def tw6578402527460240241 : Nat := 0
noncomputable def tw6598312636042714100 : Nat := 0
noncomputable def tw6615107907471364465 : Nat := 0
noncomputable def tw6627881031435992008 : Nat := 0
noncomputable def tw663384727985864361 : Nat := 0
noncomputable def tw6636792957720756321 : Nat := 0
noncomputable def tw6683769817339685419 : Nat := 0
noncomputable def tw6755925336976613232 : Nat := 0
noncomputable def tw6759412095888398321 : Nat := 0
noncomputable def tw6767318904944593275 : Nat := 0
noncomputable def tw678209747344391502 : Nat := 0
noncomputable def tw6818987989461384207 : Nat := 0
noncomputable def tw6819123309680001836 : Nat := 0
noncomputable def tw6820862383352777685 : Nat := 0
noncomputable def tw6830512106363814048 : Nat := 0
noncomputable def tw6838551448383532254 : Nat := 0
noncomputable def tw6868836192036940282 : Nat := 0
noncomputable def tw6879831473291441079 : Nat := 0
noncomputable def tw6882427118574961969 : Nat := 0
noncomputable def tw6898005170327248138 : Nat := 0
noncomputable def tw6906073325868019850 : Nat := 0
noncomputable def tw6924109203229866365 : Nat := 0
noncomputable def tw6931407450589930559 : Nat := 0
noncomputable def tw6957150274394394060 : Nat := 0
noncomputable def tw6965799899956892507 : Nat := 0
noncomputable def tw6982297934935202809 : Nat := 0
noncomputable def tw6990203504111849199 : Nat := 0
noncomputable def tw6998783941825042932 : Nat := 0
noncomputable def tw7006195865600381663 : Nat := 0
noncomputable def tw701787995468756871 : Nat := 0
noncomputable def tw7023726343779634624 : Nat := 0
noncomputable def tw7028611270464810887 : Nat := 0
noncomputable def tw7031273417212677730 : Nat := 0
noncomputable def tw7068711184596962023 : Nat := 0
noncomputable def tw7080932558258925280 : Nat := 0
noncomputable def tw7082855905992002993 : Nat := 0
noncomputable def tw7085514621470718492 : Nat := 0
noncomputable def tw7120233287515763914 : Nat := 0
noncomputable def tw7152984921513172624 : Nat := 0
noncomputable def tw7153062008950511462 : Nat := 0
noncomputable def tw7174315439194531881 : Nat := 0
noncomputable def tw7191455744419660376 : Nat := 0
noncomputable def tw7261450039545342454 : Nat := 0
noncomputable def tw7270182246851987180 : Nat := 0
noncomputable def tw7284649500432165974 : Nat := 0
noncomputable def tw728884934406724761 : Nat := 0
noncomputable def tw7289634563603522867 : Nat := 0
noncomputable def tw7292484366425897655 : Nat := 0
noncomputable def tw7296583596125217682 : Nat := 0
noncomputable def tw7317836474542784337 : Nat := 0
noncomputable def tw732345407407602841 : Nat := 0
noncomputable def tw7339039647409124788 : Nat := 0
noncomputable def tw7354087734392854552 : Nat := 0
noncomputable def tw7355570028127101125 : Nat := 0
noncomputable def tw7366208706002141716 : Nat := 0
noncomputable def tw7372000682148998216 : Nat := 0
noncomputable def tw7379015992945566340 : Nat := 0
noncomputable def tw7382370116671421104 : Nat := 0
noncomputable def tw7492773218913965947 : Nat := 0
noncomputable def tw7510230149288206974 : Nat := 0
noncomputable def tw7515886511687920896 : Nat := 0
noncomputable def tw7519716089354478335 : Nat := 0
noncomputable def tw7525542149764818722 : Nat := 0
noncomputable def tw7526368328331116154 : Nat := 0
noncomputable def tw7534799579077118603 : Nat := 0
noncomputable def tw7540655947842036084 : Nat := 0
noncomputable def tw7540741092611519060 : Nat := 0
noncomputable def tw7541792107247259296 : Nat := 0
noncomputable def tw7578210074245671484 : Nat := 0
noncomputable def tw758273949599710562 : Nat := 0
noncomputable def tw7598622570094877466 : Nat := 0
noncomputable def tw7610815399733428385 : Nat := 0
noncomputable def tw7628703163842673926 : Nat := 0
noncomputable def tw7654286748164834634 : Nat := 0
noncomputable def tw7676003278276379012 : Nat := 0
noncomputable def tw7698358502638924378 : Nat := 0
noncomputable def tw7712595579559962911 : Nat := 0
noncomputable def tw7746578258024575070 : Nat := 0
noncomputable def tw7752569895197466512 : Nat := 0
noncomputable def tw7752767780024739350 : Nat := 0
noncomputable def tw7754304195085646258 : Nat := 0
noncomputable def tw7763873220885509757 : Nat := 0
noncomputable def tw7792395482447073224 : Nat := 0
noncomputable def tw7793673504863384051 : Nat := 0
noncomputable def tw7854228177987924090 : Nat := 0
noncomputable def tw7891253978561527248 : Nat := 0
noncomputable def tw7914949630228597729 : Nat := 0
noncomputable def tw7927469264209771579 : Nat := 0
noncomputable def tw8004679753235328684 : Nat := 0
noncomputable def tw8015326511298524721 : Nat := 0
noncomputable def tw8025032847418708242 : Nat := 0
noncomputable def tw8044012406986999415 : Nat := 0
noncomputable def tw8053944837975664402 : Nat := 0
noncomputable def tw8068729725432388964 : Nat := 0
noncomputable def tw8081910892031093671 : Nat := 0
noncomputable def tw8112040973832200146 : Nat := 0
noncomputable def tw8184699220007379433 : Nat := 0
noncomputable def tw8191903926673212241 : Nat := 0
noncomputable def tw8213287575567293882 : Nat := 0
noncomputable def tw8226494294326810461 : Nat := 0
noncomputable def tw8242931771332617035 : Nat := 0
noncomputable def tw825126770350376351 : Nat := 0
noncomputable def tw8273930003744585626 : Nat := 0
noncomputable def tw8311109941518608819 : Nat := 0
noncomputable def tw8312999807965096350 : Nat := 0
noncomputable def tw8313279406937640706 : Nat := 0
noncomputable def tw8317466277049474617 : Nat := 0
noncomputable def tw833173182276230429 : Nat := 0
noncomputable def tw8343274005884668182 : Nat := 0
noncomputable def tw8351282476255451920 : Nat := 0
noncomputable def tw8356816923877370021 : Nat := 0
noncomputable def tw8381844023166312768 : Nat := 0
noncomputable def tw8428860471423672150 : Nat := 0
noncomputable def tw8457440626546761165 : Nat := 0
noncomputable def tw8458067239894703972 : Nat := 0
noncomputable def tw8479784124755550697 : Nat := 0
noncomputable def tw8493152586797012548 : Nat := 0
noncomputable def tw8516288146210602744 : Nat := 0
noncomputable def tw8545014587354053640 : Nat := 0
noncomputable def tw8587404781116728655 : Nat := 0
noncomputable def tw8589211134812392127 : Nat := 0
noncomputable def tw8609351116199087170 : Nat := 0
noncomputable def tw8652628183442184457 : Nat := 0
noncomputable def tw8664936974563722654 : Nat := 0
noncomputable def tw8683856772340465682 : Nat := 0
noncomputable def tw8716120427605611371 : Nat := 0
noncomputable def tw8727321023445011275 : Nat := 0
noncomputable def tw8735263284916673568 : Nat := 0
noncomputable def tw8770205317985620760 : Nat := 0
noncomputable def tw8770659054964912022 : Nat := 0
noncomputable def tw8773699223549846113 : Nat := 0
noncomputable def tw8789358453043137523 : Nat := 0
noncomputable def tw8801323125487838256 : Nat := 0
noncomputable def tw881544763273948857 : Nat := 0
noncomputable def tw8879563391730754479 : Nat := 0
noncomputable def tw8902478645137244967 : Nat := 0
noncomputable def tw8934143017859847078 : Nat := 0
noncomputable def tw8960069828448710407 : Nat := 0
noncomputable def tw8965841893048198262 : Nat := 0
noncomputable def tw8977460988437922124 : Nat := 0
noncomputable def tw8990313861142287110 : Nat := 0
noncomputable def tw9013056391748086436 : Nat := 0
noncomputable def tw9073681462420916055 : Nat := 0
noncomputable def tw9077708301081682751 : Nat := 0
noncomputable def tw9079701280542937147 : Nat := 0
noncomputable def tw9087110039335098043 : Nat := 0
noncomputable def tw9131607905817354932 : Nat := 0
noncomputable def tw9132557439983319658 : Nat := 0
noncomputable def tw9155422001095189878 : Nat := 0
noncomputable def tw9170477692918782315 : Nat := 0
noncomputable def tw9184186324627900627 : Nat := 0
noncomputable def tw920214292312260371 : Nat := 0
noncomputable def tw9215827820722605749 : Nat := 0
noncomputable def tw922143313871775805 : Nat := 0
noncomputable def tw9228397985900620932 : Nat := 0
noncomputable def tw9244321171653502345 : Nat := 0
noncomputable def tw9258712216579463092 : Nat := 0
noncomputable def tw9298403506768410418 : Nat := 0
noncomputable def tw9325612240067072397 : Nat := 0
noncomputable def tw9330943631129107780 : Nat := 0
noncomputable def tw9345676750909349944 : Nat := 0
noncomputable def tw9386895884608548742 : Nat := 0
noncomputable def tw9390866547671247325 : Nat := 0
noncomputable def tw9398405308114057262 : Nat := 0
noncomputable def tw940617070666608080 : Nat := 0
noncomputable def tw9406673726873002282 : Nat := 0
noncomputable def tw9420132969298855359 : Nat := 0
noncomputable def tw9421340871869096474 : Nat := 0
noncomputable def tw9427301549700849589 : Nat := 0
noncomputable def tw9428152387294184269 : Nat := 0
noncomputable def tw9429285754427346401 : Nat := 0
noncomputable def tw9430268157657104642 : Nat := 0
noncomputable def tw9449672872311958731 : Nat := 0
noncomputable def tw9459050058782445324 : Nat := 0
noncomputable def tw9499510787657705874 : Nat := 0
noncomputable def tw9533747618267967006 : Nat := 0
noncomputable def tw9555612238305686254 : Nat := 0
noncomputable def tw9557236495431379559 : Nat := 0
noncomputable def tw9577689765879766989 : Nat := 0
noncomputable def tw960944832710211464 : Nat := 0
noncomputable def tw9617658007855726926 : Nat := 0
noncomputable def tw9627899436633539337 : Nat := 0
noncomputable def tw9631708518359487223 : Nat := 0
noncomputable def tw9641152695372364146 : Nat := 0
noncomputable def tw9657781627882305391 : Nat := 0
noncomputable def tw9702936160620672325 : Nat := 0
noncomputable def tw9719896912496429819 : Nat := 0
noncomputable def tw9731375825926819010 : Nat := 0
noncomputable def tw9741134391959003819 : Nat := 0
noncomputable def tw9748044761591592747 : Nat := 0
noncomputable def tw9763420282994701918 : Nat := 0
noncomputable def tw9783614193127449063 : Nat := 0
noncomputable def tw978945382295711627 : Nat := 0
noncomputable def tw9842699097658496709 : Nat := 0
noncomputable def tw991583007596301734 : Nat := 0
noncomputable def tw9983995961361265002 : Nat := 0
noncomputable def tw9990345226319884068 : Nat := 0
end Mine.hd
set_option Elab.async true
set_option maxHeartbeats 8000000
open PySem PySem.W PyProof.Rows PySem.Calls
theorem Mine.hd : PySem.Challenge.rw_pq1171_01.Holds := by
  w_on; o_law; k_head; (case hw => w_witness2); k_go0
  all_goals (
    rename Frag.In _ _ => KX
    rename Top _ _ _ _ _ _ => T
    rename Fr _ _ _ _ => F
    rename News _ _ _ _ => N
    rename (Obj.data _ = Data.cell _) => hob
    rename IntsAre _ _ => hI
    rename Heap.IsList _ _ _ => hL
    rename (Shared.gens _ = #[]) => hg
    rename (¬ _ < _) => hlen
    refine wpAny_mono (Mine.law_top KX ?m_hh T.g T.b T.nolimit T.builtins ?m_hE ?m_hchk ?m_hr hg F N ?m_hc hob ?m_hcl ?m_hk ?m_hm hL hI hlen) ?_ ?_)
  case m_hh => exact ⟨by kernel_rfl, by kernel_rfl, by kernel_rfl, by kernel_rfl, by kernel_rfl, by kernel_rfl, by kernel_rfl, by intros; kernel_rfl, by intros; kernel_rfl, by intros; kernel_rfl, by intros; kernel_rfl, by intros; kernel_rfl, by intros; kernel_rfl, by intros; kernel_rfl, by intros; kernel_rfl, by intros; kernel_rfl⟩
  case m_hE => exact Mine.env_ok (x := "source") rfl (by kernel_rfl)
  case m_hchk => kernel_rfl
  case m_hr => exact ⟨rfl, by rw [depth_deeper]; decide, by rw [units_deeper]; decide⟩
  case m_hc => exact Nat.le_succ _
  case m_hcl => intro n d h; exact (Mine.one_look (x := "source") h).2
  case m_hk => rfl
  case m_hm => rfl
  · intro fl s' h
    obtain ⟨rfl, ⟨L', m', F'⟩, g', o'⟩ := h
    exact goodW_bool F' g' (fun _ => rfl) (by kernel_rfl) o'
  · intro e s' h
    exact h.elim
theorem PySem.Challenge.cw_pq1171_01_holds : PySem.Challenge.rw_pq1171_01.Holds := by
  exact Mine.hd
