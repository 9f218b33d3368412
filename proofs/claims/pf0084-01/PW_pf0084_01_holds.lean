import PyProof.Rows.All
import Wide.All
import OpenK.AllK
import Wide.FinOn
import Lean
import PySem.Challenge.RW_pf0084_01
set_option Elab.async false
set_option linter.unusedVariables false
set_option maxRecDepth 100000
set_option genSizeOf false
set_option genInjectivity false
section
open PySem
namespace Mine
inductive AV where
  | non
  | boo (b : Bool)
  | int (i : Int)
  | str (c : Nat)
  | ast (n : Nat)
  | tup (l : List AV)
  | lis (l : List AV)
  | dct (l : List (Nat × AV))
  | obj (c : Nat) (l : List (Nat × AV))
  | ref (k : Nat)
  | alt (i : Nat) (l : List AV)
  | unk
  | bot
  deriving Inhabited
inductive AO where
  | lst (l : List AV)
  | dic (l : List (Nat × AV))
  | ins (c : Nat) (l : List (Nat × AV))
  deriving Inhabited
inductive HT where
  | nil
  | nd (v : Option AO) (l r : HT)
  deriving Inhabited
structure St where
  loc : List (Nat × AV)
  H : HT
  hn : Nat
  known : List (Nat × List Nat)
  nv : Nat
  deriving Inhabited
noncomputable abbrev KS := St → Bool
noncomputable abbrev K1 := AV → St → Bool
noncomputable abbrev KB := Bool → St → Bool
noncomputable abbrev PC := St → Option AV
noncomputable abbrev EC := St → K1 → K1 → Bool
noncomputable abbrev SC := St → KS → K1 → K1 → Bool
noncomputable abbrev FC := List AV → St → K1 → K1 → Bool
noncomputable abbrev Stp := AV → St → KS → Bool
noncomputable section
noncomputable def HT.get (t : HT) : Nat → Option AO := @HT.rec (fun _ => Nat → Option AO) (fun _ => none) (fun v _ _ gl gr i => @Bool.rec (fun _ => Option AO) (@Bool.rec (fun _ => Option AO) (gr (Nat.pred (Nat.div i 2))) (gl (Nat.div i 2)) (Nat.beq (Nat.mod i 2) 1)) (v) (Nat.beq i 0)) t
noncomputable def HT.put (n : Nat) : HT → Nat → AO → HT := @Nat.rec (fun _ => HT → Nat → AO → HT) (fun t _ _ => t) (fun _ ih t => @HT.rec (fun _ => Nat → AO → HT)
  (fun i o => @Bool.rec (fun _ => HT) (@Bool.rec (fun _ => HT) (.nd none .nil (ih .nil (Nat.pred (Nat.div i 2)) o)) (.nd none (ih .nil (Nat.div i 2) o) .nil) (Nat.beq (Nat.mod i 2) 1)) (.nd (some o) .nil .nil) (Nat.beq i 0))
  (fun v l r _ _ i o => @Bool.rec (fun _ => HT) (@Bool.rec (fun _ => HT) (.nd v l (ih r (Nat.pred (Nat.div i 2)) o)) (.nd v (ih l (Nat.div i 2) o) r) (Nat.beq (Nat.mod i 2) 1)) (.nd (some o) l r) (Nat.beq i 0)) t) n
noncomputable def look {α : Type} (x : Nat) (l : List (Nat × α)) : Option α := @List.rec (Nat × α) (fun _ => Option α) (none) (fun p _ ih => @Bool.rec (fun _ => Option α) (ih) (some p.2) (Nat.beq x p.1)) (l)
noncomputable def put {α : Type} (x : Nat) (a : α) (l : List (Nat × α)) : List (Nat × α) := @List.rec (Nat × α) (fun _ => List (Nat × α)) ([(x, a)]) (fun p r ih => @Bool.rec (fun _ => List (Nat × α)) (p :: ih) ((x, a) :: r) (Nat.beq x p.1)) (l)
noncomputable def nth {α : Type} (l : List α) : Nat → Option α := @List.rec (α) (fun _ => Nat → Option α) (fun _ => none) (fun a _ ih n => @Nat.rec (fun _ => Option α) (some a) (fun m _ => ih m) n) (l)
noncomputable def anyL {α : Type} (f : α → Bool) (l : List α) : Bool := @List.rec (α) (fun _ => Bool) (false) (fun a _ ih => @Bool.rec (fun _ => Bool) (ih) (true) (f a)) (l)
noncomputable def allL {α : Type} (f : α → Bool) (l : List α) : Bool := @List.rec (α) (fun _ => Bool) (true) (fun a _ ih => @Bool.rec (fun _ => Bool) (false) (ih) (f a)) (l)
noncomputable def filL {α : Type} (f : α → Bool) (l : List α) : List α := @List.rec (α) (fun _ => List α) ([]) (fun a _ ih => @Bool.rec (fun _ => List α) (ih) (a :: ih) (f a)) (l)
noncomputable def appL {α : Type} (l m : List α) : List α := @List.rec (α) (fun _ => List α) (m) (fun a _ ih => a :: ih) (l)
noncomputable def lenL {α : Type} (l : List α) : Nat := @List.rec (α) (fun _ => Nat) (0) (fun _ _ ih => Nat.succ ih) (l)
noncomputable def notB (b : Bool) : Bool := @Bool.rec (fun _ => Bool) (true) (false) (b)
noncomputable def eqB (x y : Bool) : Bool := @Bool.rec (fun _ => Bool) (notB y) (y) (x)
noncomputable def intB (x y : Int) : Bool := @Int.rec (fun _ => Bool) (fun m => @Int.rec (fun _ => Bool) (fun n => Nat.beq m n) (fun _ => false) (y)) (fun m => @Int.rec (fun _ => Bool) (fun _ => false) (fun n => Nat.beq m n) (y)) (x)
noncomputable def intLt (x y : Int) : Bool := @Int.rec (fun _ => Bool) (fun m => @Int.rec (fun _ => Bool) (fun n => Nat.ble (Nat.succ m) n) (fun _ => false) (y)) (fun m => @Int.rec (fun _ => Bool) (fun _ => true) (fun n => Nat.ble (Nat.succ n) m) (y)) (x)
noncomputable def synL (ih : AV → AV → Bool) (l : List AV) : List AV → Bool := @List.rec (AV) (fun _ => List AV → Bool) (fun m => @List.rec (AV) (fun _ => Bool) (true) (fun _ _ _ => false) (m)) (fun a _ go m => @List.rec (AV) (fun _ => Bool) (false) (fun b m _ => @Bool.rec (fun _ => Bool) (false) (go m) (ih a b)) (m)) (l)
noncomputable def synD (ih : AV → AV → Bool) (l : List (Nat × AV)) : List (Nat × AV) → Bool := @List.rec (Nat × AV) (fun _ => List (Nat × AV) → Bool) (fun m => @List.rec (Nat × AV) (fun _ => Bool) (true) (fun _ _ _ => false) (m)) (fun a _ go m => @List.rec (Nat × AV) (fun _ => Bool) (false) (fun b m _ => @Bool.rec (fun _ => Bool) (false) (@Bool.rec (fun _ => Bool) (false) (go m) (ih a.2 b.2)) (Nat.beq a.1 b.1)) (m)) (l)
noncomputable def synS (ih : AV → AV → Bool) (a : AV) : AV → Bool := @AV.rec (fun _ => AV → Bool) (fun _ => Unit) (fun _ => Unit) (fun _ => Unit) (fun b => @AV.rec (fun _ => Bool) (fun _ => Unit) (fun _ => Unit) (fun _ => Unit) (true) (fun _ => false) (fun _ => false) (fun _ => false) (fun _ => false) (fun _ _ => false) (fun _ _ => false) (fun _ _ => false) (fun _ _ _ => false) (fun _ => false) (fun _ _ _ => false) (false) (false) () (fun _ _ _ _ => ()) () (fun _ _ _ _ => ()) (fun _ _ _ => ()) (b)) (fun x => fun b => @AV.rec (fun _ => Bool) (fun _ => Unit) (fun _ => Unit) (fun _ => Unit) (false) (fun y => eqB x y) (fun _ => false) (fun _ => false) (fun _ => false) (fun _ _ => false) (fun _ _ => false) (fun _ _ => false) (fun _ _ _ => false) (fun _ => false) (fun _ _ _ => false) (false) (false) () (fun _ _ _ _ => ()) () (fun _ _ _ _ => ()) (fun _ _ _ => ()) (b)) (fun x => fun b => @AV.rec (fun _ => Bool) (fun _ => Unit) (fun _ => Unit) (fun _ => Unit) (false) (fun _ => false) (fun y => intB x y) (fun _ => false) (fun _ => false) (fun _ _ => false) (fun _ _ => false) (fun _ _ => false) (fun _ _ _ => false) (fun _ => false) (fun _ _ _ => false) (false) (false) () (fun _ _ _ _ => ()) () (fun _ _ _ _ => ()) (fun _ _ _ => ()) (b)) (fun x => fun b => @AV.rec (fun _ => Bool) (fun _ => Unit) (fun _ => Unit) (fun _ => Unit) (false) (fun _ => false) (fun _ => false) (fun y => Nat.beq x y) (fun _ => false) (fun _ _ => false) (fun _ _ => false) (fun _ _ => false) (fun _ _ _ => false) (fun _ => false) (fun _ _ _ => false) (false) (false) () (fun _ _ _ _ => ()) () (fun _ _ _ _ => ()) (fun _ _ _ => ()) (b)) (fun x => fun b => @AV.rec (fun _ => Bool) (fun _ => Unit) (fun _ => Unit) (fun _ => Unit) (false) (fun _ => false) (fun _ => false) (fun _ => false) (fun y => Nat.beq x y) (fun _ _ => false) (fun _ _ => false) (fun _ _ => false) (fun _ _ _ => false) (fun _ => false) (fun _ _ _ => false) (false) (false) () (fun _ _ _ _ => ()) () (fun _ _ _ _ => ()) (fun _ _ _ => ()) (b)) (fun l _ => fun b => @AV.rec (fun _ => Bool) (fun _ => Unit) (fun _ => Unit) (fun _ => Unit) (false) (fun _ => false) (fun _ => false) (fun _ => false) (fun _ => false) (fun m _ => synL ih l m) (fun _ _ => false) (fun _ _ => false) (fun _ _ _ => false) (fun _ => false) (fun _ _ _ => false) (false) (false) () (fun _ _ _ _ => ()) () (fun _ _ _ _ => ()) (fun _ _ _ => ()) (b)) (fun l _ => fun b => @AV.rec (fun _ => Bool) (fun _ => Unit) (fun _ => Unit) (fun _ => Unit) (false) (fun _ => false) (fun _ => false) (fun _ => false) (fun _ => false) (fun _ _ => false) (fun m _ => synL ih l m) (fun _ _ => false) (fun _ _ _ => false) (fun _ => false) (fun _ _ _ => false) (false) (false) () (fun _ _ _ _ => ()) () (fun _ _ _ _ => ()) (fun _ _ _ => ()) (b)) (fun l _ => fun b => @AV.rec (fun _ => Bool) (fun _ => Unit) (fun _ => Unit) (fun _ => Unit) (false) (fun _ => false) (fun _ => false) (fun _ => false) (fun _ => false) (fun _ _ => false) (fun _ _ => false) (fun m _ => synD ih l m) (fun _ _ _ => false) (fun _ => false) (fun _ _ _ => false) (false) (false) () (fun _ _ _ _ => ()) () (fun _ _ _ _ => ()) (fun _ _ _ => ()) (b)) (fun c l _ => fun b => @AV.rec (fun _ => Bool) (fun _ => Unit) (fun _ => Unit) (fun _ => Unit) (false) (fun _ => false) (fun _ => false) (fun _ => false) (fun _ => false) (fun _ _ => false) (fun _ _ => false) (fun _ _ => false) (fun d m _ => @Bool.rec (fun _ => Bool) (false) (synD ih l m) (Nat.beq c d)) (fun _ => false) (fun _ _ _ => false) (false) (false) () (fun _ _ _ _ => ()) () (fun _ _ _ _ => ()) (fun _ _ _ => ()) (b)) (fun x => fun b => @AV.rec (fun _ => Bool) (fun _ => Unit) (fun _ => Unit) (fun _ => Unit) (false) (fun _ => false) (fun _ => false) (fun _ => false) (fun _ => false) (fun _ _ => false) (fun _ _ => false) (fun _ _ => false) (fun _ _ _ => false) (fun y => Nat.beq x y) (fun _ _ _ => false) (false) (false) () (fun _ _ _ _ => ()) () (fun _ _ _ _ => ()) (fun _ _ _ => ()) (b)) (fun i l _ => fun b => @AV.rec (fun _ => Bool) (fun _ => Unit) (fun _ => Unit) (fun _ => Unit) (false) (fun _ => false) (fun _ => false) (fun _ => false) (fun _ => false) (fun _ _ => false) (fun _ _ => false) (fun _ _ => false) (fun _ _ _ => false) (fun _ => false) (fun j m _ => @Bool.rec (fun _ => Bool) (false) (synL ih l m) (Nat.beq i j)) (false) (false) () (fun _ _ _ _ => ()) () (fun _ _ _ _ => ()) (fun _ _ _ => ()) (b)) (fun _ => false) (fun _ => false) () (fun _ _ _ _ => ()) () (fun _ _ _ _ => ()) (fun _ _ _ => ()) (a)
noncomputable def syn (n : Nat) : AV → AV → Bool := @Nat.rec (fun _ => AV → AV → Bool) (fun _ _ => false) (fun _ ih => synS ih) n
noncomputable def same (a b : AV) : Bool := syn 12 a b
noncomputable def sameAt (l : List AV) (j : Nat) (a : AV) (j' : Nat) : Bool := @Bool.rec (fun _ => Bool) (@Option.rec (AV) (fun _ => Bool) (false) (fun b => same a b) (nth l j')) (true) (Nat.beq j j')
noncomputable def setK (i : Nat) (G : List Nat) (st : St) : St := ⟨st.loc, st.H, st.hn, put i G st.known, st.nv⟩
noncomputable def ways (i : Nat) (l : List AV) (S : List Nat) (st : St) (k : K1) (R : List Nat) : List Nat → Bool := @List.rec (Nat) (fun _ => List Nat → Bool) (fun _ => true) (fun j _ go done => @Option.rec (AV) (fun _ => Bool) (false) (fun a => @Bool.rec (fun _ => Bool) (@Bool.rec (fun _ => Bool) (false) (go (j :: done)) (k a (setK i (filL (sameAt l j a) S) st))) (go (j :: done)) (anyL (sameAt l j a) done)) (nth l j)) (R)
noncomputable def rngN (n m : Nat) : List Nat := @Nat.rec (fun _ => Nat → List Nat) (fun _ => []) (fun _ ih n => n :: ih (Nat.succ n)) m n
noncomputable def places (i : Nat) (l : List AV) (st : St) : List Nat := @Option.rec (List Nat) (fun _ => List Nat) (rngN 0 (lenL l)) (fun S => S) (look i st.known)
noncomputable def resAlt (i : Nat) (l : List AV) (st : St) (k : K1) : Bool := ways i l (places i l st) st k (places i l st) []
noncomputable def res (a : AV) (st : St) (k : K1) : Bool := @AV.rec (fun _ => Bool) (fun _ => Unit) (fun _ => Unit) (fun _ => Unit) (k a st) (fun _ => k a st) (fun _ => k a st) (fun _ => k a st) (fun _ => k a st) (fun _ _ => k a st) (fun _ _ => k a st) (fun _ _ => k a st) (fun _ _ _ => k a st) (fun _ => k a st) (fun i l _ => resAlt i l st k) (k a st) (k a st) () (fun _ _ _ _ => ()) () (fun _ _ _ _ => ()) (fun _ _ _ => ()) (a)
noncomputable def mapAt (f : AV → Option AV) (S : List Nat) (l : List AV) : Nat → Option (List AV) := @List.rec (AV) (fun _ => Nat → Option (List AV)) (fun _ => some []) (fun a _ go j => @Option.rec (List AV) (fun _ => Option (List AV)) (none) (fun m => @Bool.rec (fun _ => Option (List AV)) (some (.bot :: m)) (@Option.rec (AV) (fun _ => Option (List AV)) (none) (fun b => some (b :: m)) (f a)) (anyL (Nat.beq j) S)) (go (Nat.succ j))) (l)
noncomputable def oneOf (l : List AV) (S : List Nat) : Option AV := @List.rec (Nat) (fun _ => Option AV) (none) (fun j r _ => @Option.rec (AV) (fun _ => Option AV) (none) (fun a => @Bool.rec (fun _ => Option AV) (none) (some a) (allL (sameAt l j a) r)) (nth l j)) (S)
noncomputable def mkAlt (i : Nat) (l : List AV) (S : List Nat) : AV := @Option.rec (AV) (fun _ => AV) (.alt i l) (fun a => a) (oneOf l S)
noncomputable def lift (f : AV → St → Option AV) (n : Nat) : AV → St → Option AV := @Nat.rec (fun _ => AV → St → Option AV) (fun _ _ => none) (fun _ ih a st => @AV.rec (fun _ => Option AV) (fun _ => Unit) (fun _ => Unit) (fun _ => Unit) (f a st) (fun _ => f a st) (fun _ => f a st) (fun _ => f a st) (fun _ => f a st) (fun _ _ => f a st) (fun _ _ => f a st) (fun _ _ => f a st) (fun _ _ _ => f a st) (fun _ => f a st) (fun i l _ => @Option.rec (List AV) (fun _ => Option AV) (none) (fun m => some (mkAlt i m (places i l st))) (mapAt (fun a => ih a st) (places i l st) l 0)) (f a st) (f a st) () (fun _ _ _ _ => ()) () (fun _ _ _ _ => ()) (fun _ _ _ => ()) (a)) n
noncomputable def obj (st : St) (k : Nat) : Option AO := st.H.get k
noncomputable def withLoc (loc : List (Nat × AV)) (st : St) : St := ⟨loc, st.H, st.hn, st.known, st.nv⟩
noncomputable def setLoc (x : Nat) (a : AV) (st : St) : St := ⟨put x a st.loc, st.H, st.hn, st.known, st.nv⟩
noncomputable def new (o : AO) (st : St) (k : Nat → St → Bool) : Bool := @Bool.rec (fun _ => Bool) (false) (k st.hn ⟨st.loc, HT.put 12 st.H st.hn o, Nat.succ st.hn, st.known, st.nv⟩) (Nat.ble st.hn 4000)
noncomputable def newR (o : AO) (st : St) (k : K1) : Bool := new o st fun x st => k (.ref x) st
noncomputable def wr (x : Nat) (o : AO) (st : St) (k : KS) : Bool := @Bool.rec (fun _ => Bool) (false) (k ⟨st.loc, HT.put 12 st.H x o, st.hn, st.known, st.nv⟩) (Nat.ble x 4000)
noncomputable def asL (a : AV) (st : St) (k : Nat → List AV → Bool) : Bool := @AV.rec (fun _ => Bool) (fun _ => Unit) (fun _ => Unit) (fun _ => Unit) (false) (fun _ => false) (fun _ => false) (fun _ => false) (fun _ => false) (fun _ _ => false) (fun _ _ => false) (fun _ _ => false) (fun _ _ _ => false) (fun x => @Option.rec (AO) (fun _ => Bool) (false) (fun o => @AO.rec (fun _ => Bool) (fun l => k x l) (fun _ => false) (fun _ _ => false) (o)) (obj st x)) (fun _ _ _ => false) (false) (false) () (fun _ _ _ _ => ()) () (fun _ _ _ _ => ()) (fun _ _ _ => ()) (a)
noncomputable def natOf {α : Type} (i : AV) (d : α) (k : Nat → α) : α := @AV.rec (fun _ => α) (fun _ => Unit) (fun _ => Unit) (fun _ => Unit) (d) (fun _ => d) (fun z => @Int.rec (fun _ => α) (fun n => @Bool.rec (fun _ => α) (d) (k n) (Nat.ble n 1000)) (fun _ => d) (z)) (fun _ => d) (fun _ => d) (fun _ _ => d) (fun _ _ => d) (fun _ _ => d) (fun _ _ _ => d) (fun _ => d) (fun _ _ _ => d) (d) (d) () (fun _ _ _ _ => ()) () (fun _ _ _ _ => ()) (fun _ _ _ => ()) (i)
noncomputable def attP (n : Nat) (a : AV) (st : St) : Option AV := @AV.rec (fun _ => Option AV) (fun _ => Unit) (fun _ => Unit) (fun _ => Unit) (none) (fun _ => none) (fun _ => none) (fun _ => none) (fun _ => none) (fun _ _ => none) (fun _ _ => none) (fun _ _ => none) (fun _c fs _ => look n fs) (fun x => @Option.rec (AO) (fun _ => Option AV) (none) (fun o => @AO.rec (fun _ => Option AV) (fun _ => none) (fun _ => none) (fun _ fs => look n fs) (o)) (obj st x)) (fun _ _ _ => none) (none) (none) () (fun _ _ _ _ => ()) () (fun _ _ _ _ => ()) (fun _ _ _ => ()) (a)
noncomputable def strK {α : Type} (i : AV) (d : α) (k : Nat → α) : α := @AV.rec (fun _ => α) (fun _ => Unit) (fun _ => Unit) (fun _ => Unit) (d) (fun _ => d) (fun _ => d) (fun c => k c) (fun _ => d) (fun _ _ => d) (fun _ _ => d) (fun _ _ => d) (fun _ _ _ => d) (fun _ => d) (fun _ _ _ => d) (d) (d) () (fun _ _ _ _ => ()) () (fun _ _ _ _ => ()) (fun _ _ _ => ()) (i)
noncomputable def itemP (fst : List (Nat × Nat)) (a i : AV) (st : St) : Option AV := @AV.rec (fun _ => Option AV) (fun _ => Unit) (fun _ => Unit) (fun _ => Unit) (none) (fun _ => none) (fun _ => none) (fun c => natOf i none fun n => @Nat.rec (fun _ => Option AV) (@Option.rec (Nat) (fun _ => Option AV) (none) (fun d => some (.str d)) (look c fst)) (fun _ _ => none) n) (fun _ => none) (fun l _ => natOf i none fun n => nth l n) (fun l _ => natOf i none fun n => nth l n) (fun d _ => strK i none fun c => look c d) (fun _ _ _ => none) (fun x => @Option.rec (AO) (fun _ => Option AV) (none) (fun o => @AO.rec (fun _ => Option AV) (fun l => natOf i none fun n => nth l n) (fun d => strK i none fun c => look c d) (fun _ _ => none) (o)) (obj st x)) (fun _ _ _ => none) (none) (none) () (fun _ _ _ _ => ()) () (fun _ _ _ _ => ()) (fun _ _ _ => ()) (a)
noncomputable def subP (fst : List (Nat × Nat)) (a i : AV) (st : St) : Option AV := lift (fun i st => lift (fun a st => itemP fst a i st) 3 a st) 3 i st
noncomputable def eq1 (a : AV) : AV → Option Bool := @AV.rec (fun _ => AV → Option Bool) (fun _ => Unit) (fun _ => Unit) (fun _ => Unit) (fun b => @AV.rec (fun _ => Option Bool) (fun _ => Unit) (fun _ => Unit) (fun _ => Unit) (some true) (fun _ => none) (fun _ => none) (fun _ => none) (fun _ => none) (fun _ _ => none) (fun _ _ => none) (fun _ _ => none) (fun _ _ _ => none) (fun _ => none) (fun _ _ _ => none) (none) (none) () (fun _ _ _ _ => ()) () (fun _ _ _ _ => ()) (fun _ _ _ => ()) (b)) (fun x => fun b => @AV.rec (fun _ => Option Bool) (fun _ => Unit) (fun _ => Unit) (fun _ => Unit) (none) (fun y => some (eqB x y)) (fun _ => none) (fun _ => none) (fun _ => none) (fun _ _ => none) (fun _ _ => none) (fun _ _ => none) (fun _ _ _ => none) (fun _ => none) (fun _ _ _ => none) (none) (none) () (fun _ _ _ _ => ()) () (fun _ _ _ _ => ()) (fun _ _ _ => ()) (b)) (fun x => fun b => @AV.rec (fun _ => Option Bool) (fun _ => Unit) (fun _ => Unit) (fun _ => Unit) (none) (fun _ => none) (fun y => some (intB x y)) (fun _ => none) (fun _ => none) (fun _ _ => none) (fun _ _ => none) (fun _ _ => none) (fun _ _ _ => none) (fun _ => none) (fun _ _ _ => none) (none) (none) () (fun _ _ _ _ => ()) () (fun _ _ _ _ => ()) (fun _ _ _ => ()) (b)) (fun x => fun b => @AV.rec (fun _ => Option Bool) (fun _ => Unit) (fun _ => Unit) (fun _ => Unit) (none) (fun _ => none) (fun _ => none) (fun y => some (Nat.beq x y)) (fun _ => none) (fun _ _ => none) (fun _ _ => none) (fun _ _ => none) (fun _ _ _ => none) (fun _ => none) (fun _ _ _ => none) (none) (none) () (fun _ _ _ _ => ()) () (fun _ _ _ _ => ()) (fun _ _ _ => ()) (b)) (fun _ => fun _ => none) (fun _ _ => fun _ => none) (fun _ _ => fun _ => none) (fun _ _ => fun _ => none) (fun _ _ _ => fun _ => none) (fun _ => fun _ => none) (fun _ _ _ => fun _ => none) (fun _ => none) (fun _ => none) () (fun _ _ _ _ => ()) () (fun _ _ _ _ => ()) (fun _ _ _ => ()) (a)
noncomputable def is1 (a b : AV) : Option Bool := @AV.rec (fun _ => Option Bool) (fun _ => Unit) (fun _ => Unit) (fun _ => Unit) (@AV.rec (fun _ => Option Bool) (fun _ => Unit) (fun _ => Unit) (fun _ => Unit) (some true) (fun _ => none) (fun _ => none) (fun _y => some false) (fun _ => none) (fun _y _ => some false) (fun _y _ => some false) (fun _ _ => none) (fun _y _z _ => some false) (fun _y => some false) (fun _ _ _ => none) (none) (none) () (fun _ _ _ _ => ()) () (fun _ _ _ _ => ()) (fun _ _ _ => ()) (a)) (fun _ => none) (fun _ => none) (fun _ => none) (fun _ => none) (fun _ _ => none) (fun _ _ => none) (fun _ _ => none) (fun _ _ _ => none) (fun _ => none) (fun _ _ _ => none) (none) (none) () (fun _ _ _ _ => ()) () (fun _ _ _ _ => ()) (fun _ _ _ => ()) (b)
noncomputable def isS (a : AV) : Bool := strK a false fun _ => true
noncomputable def isC (c : Nat) (a : AV) : Bool := strK a false (Nat.beq c)
noncomputable def inE (a : AV) (l : List AV) : Option Bool := strK a none fun c => @Bool.rec (fun _ => Option Bool) (none) (some (anyL (isC c) l)) (allL isS l)
noncomputable def hasK (a : AV) (d : List (Nat × AV)) : Option Bool := strK a none fun c => @Option.rec (AV) (fun _ => Option Bool) (some false) (fun _ => some true) (look c d)
noncomputable def in1 (a b : AV) (st : St) : Option Bool := @AV.rec (fun _ => Option Bool) (fun _ => Unit) (fun _ => Unit) (fun _ => Unit) (none) (fun _ => none) (fun _ => none) (fun _ => none) (fun _ => none) (fun l _ => inE a l) (fun l _ => inE a l) (fun d _ => hasK a d) (fun _ _ _ => none) (fun x => @Option.rec (AO) (fun _ => Option Bool) (none) (fun o => @AO.rec (fun _ => Option Bool) (fun l => inE a l) (fun d => hasK a d) (fun _ _ => none) (o)) (obj st x)) (fun _ _ _ => none) (none) (none) () (fun _ _ _ _ => ()) () (fun _ _ _ _ => ()) (fun _ _ _ => ()) (b)
noncomputable def gt1 (a b : AV) : Option Bool := @AV.rec (fun _ => Option Bool) (fun _ => Unit) (fun _ => Unit) (fun _ => Unit) (none) (fun _ => none) (fun x => @AV.rec (fun _ => Option Bool) (fun _ => Unit) (fun _ => Unit) (fun _ => Unit) (none) (fun _ => none) (fun y => some (intLt y x)) (fun _ => none) (fun _ => none) (fun _ _ => none) (fun _ _ => none) (fun _ _ => none) (fun _ _ _ => none) (fun _ => none) (fun _ _ _ => none) (none) (none) () (fun _ _ _ _ => ()) () (fun _ _ _ _ => ()) (fun _ _ _ => ()) (b)) (fun _ => none) (fun _ => none) (fun _ _ => none) (fun _ _ => none) (fun _ _ => none) (fun _ _ _ => none) (fun _ => none) (fun _ _ _ => none) (none) (none) () (fun _ _ _ _ => ()) () (fun _ _ _ _ => ()) (fun _ _ _ => ()) (a)
noncomputable def toB (x : Option Bool) : Option AV := @Option.rec (Bool) (fun _ => Option AV) (none) (fun b => some (.boo b)) (x)
noncomputable def notO (x : Option Bool) : Option Bool := @Option.rec (Bool) (fun _ => Option Bool) (none) (fun b => some (notB b)) (x)
noncomputable abbrev C2 := AV → AV → St → Option Bool
noncomputable def ceq : C2 := fun a b _ => eq1 a b
noncomputable def cis : C2 := fun a b _ => is1 a b
noncomputable def cin : C2 := in1
noncomputable def cgt : C2 := fun a b _ => gt1 a b
noncomputable def cno (f : C2) : C2 := fun a b st => notO (f a b st)
noncomputable def cmpP (f : C2) (a b : AV) (st : St) : Option AV := lift (fun b st => lift (fun a st => toB (f a b st)) 3 a st) 3 b st
noncomputable def slenMax : Nat := 64
noncomputable def astN (n : Nat) : Option AV := @Bool.rec (fun _ => Option AV) (none) (some (.ast n)) (Nat.ble n 4096)
noncomputable def catT (cat : List (Nat × (Nat × Nat))) (c d : Nat) : Option AV := @List.rec (Nat × (Nat × Nat)) (fun _ => Option AV) (astN 128) (fun p _ ih => @Bool.rec (fun _ => Option AV) (ih) (@Bool.rec (fun _ => Option AV) (ih) (some (.str p.2.2)) (Nat.beq p.2.1 d)) (Nat.beq p.1 c)) (cat)
noncomputable def catP (cat : List (Nat × (Nat × Nat))) (a b : AV) : Option AV := @AV.rec (fun _ => Option AV) (fun _ => Unit) (fun _ => Unit) (fun _ => Unit) (none) (fun _ => none) (fun _ => none) (fun c => @AV.rec (fun _ => Option AV) (fun _ => Unit) (fun _ => Unit) (fun _ => Unit) (none) (fun _ => none) (fun _ => none) (fun d => catT cat c d) (fun n => astN (64 + n)) (fun _ _ => none) (fun _ _ => none) (fun _ _ => none) (fun _ _ _ => none) (fun _ => none) (fun _ _ _ => none) (none) (none) () (fun _ _ _ _ => ()) () (fun _ _ _ _ => ()) (fun _ _ _ => ()) (b)) (fun n => @AV.rec (fun _ => Option AV) (fun _ => Unit) (fun _ => Unit) (fun _ => Unit) (none) (fun _ => none) (fun _ => none) (fun _d => astN (n + 64)) (fun m => astN (n + m)) (fun _ _ => none) (fun _ _ => none) (fun _ _ => none) (fun _ _ _ => none) (fun _ => none) (fun _ _ _ => none) (none) (none) () (fun _ _ _ _ => ()) () (fun _ _ _ _ => ()) (fun _ _ _ => ()) (b)) (fun l _ => @AV.rec (fun _ => Option AV) (fun _ => Unit) (fun _ => Unit) (fun _ => Unit) (none) (fun _ => none) (fun _ => none) (fun _ => none) (fun _ => none) (fun m _ => @Bool.rec (fun _ => Option AV) (none) (some (.tup (appL l m))) (Nat.ble (lenL (appL l m)) 1000)) (fun _ _ => none) (fun _ _ => none) (fun _ _ _ => none) (fun _ => none) (fun _ _ _ => none) (none) (none) () (fun _ _ _ _ => ()) () (fun _ _ _ _ => ()) (fun _ _ _ => ()) (b)) (fun _ _ => none) (fun _ _ => none) (fun _ _ _ => none) (fun _ => none) (fun _ _ _ => none) (none) (none) () (fun _ _ _ _ => ()) () (fun _ _ _ _ => ()) (fun _ _ _ => ()) (a)
noncomputable def addP (cat : List (Nat × (Nat × Nat))) (a b : AV) (st : St) : Option AV := lift (fun b st => lift (fun a _ => catP cat a b) 3 a st) 3 b st
noncomputable def viaT (t : List (Nat × Nat)) (a : AV) : Option AV := strK a none fun c => @Option.rec (Nat) (fun _ => Option AV) (none) (fun d => some (.str d)) (look c t)
noncomputable def dropL (l : List AV) : List AV := @List.rec (AV) (fun _ => List AV) ([]) (fun a r ih => @List.rec (AV) (fun _ => List AV) ([]) (fun _ _ _ => a :: ih) (r)) (l)
noncomputable def slB1 (a : AV) : Option AV := @AV.rec (fun _ => Option AV) (fun _ => Unit) (fun _ => Unit) (fun _ => Unit) (none) (fun _ => none) (fun _ => none) (fun _ => none) (fun _ => none) (fun l _ => @List.rec (AV) (fun _ => Option AV) (none) (fun _ _ _ => @Bool.rec (fun _ => Option AV) (none) (some (.tup (dropL l))) (Nat.ble (lenL l) 1000)) (l)) (fun _ _ => none) (fun _ _ => none) (fun _ _ _ => none) (fun _ => none) (fun _ _ _ => none) (none) (none) () (fun _ _ _ _ => ()) () (fun _ _ _ _ => ()) (fun _ _ _ => ()) (a)
noncomputable def upp1 (u : List Nat) (a : AV) : Option AV := strK a none fun c => some (.boo (anyL (Nat.beq c) u))
noncomputable def booK {α : Type} (i : AV) (d : α) (k : Bool → α) : α := @AV.rec (fun _ => α) (fun _ => Unit) (fun _ => Unit) (fun _ => Unit) (d) (fun c => k c) (fun _ => d) (fun _ => d) (fun _ => d) (fun _ _ => d) (fun _ _ => d) (fun _ _ => d) (fun _ _ _ => d) (fun _ => d) (fun _ _ _ => d) (d) (d) () (fun _ _ _ _ => ()) () (fun _ _ _ _ => ()) (fun _ _ _ => ()) (i)
noncomputable def not1 (a : AV) : Option AV := booK a none fun b => some (.boo (notB b))
noncomputable def isTr (l : List AV) (j : Nat) : Bool := @Option.rec (AV) (fun _ => Bool) (false) (fun a => booK a false fun b => b) (nth l j)
noncomputable def isFl (l : List AV) (j : Nat) : Bool := @Option.rec (AV) (fun _ => Bool) (false) (fun a => booK a false fun b => notB b) (nth l j)
noncomputable def isBo (l : List AV) (j : Nat) : Bool := @Option.rec (AV) (fun _ => Bool) (false) (fun a => booK a false fun _ => true) (nth l j)
noncomputable def atJ (i j : Nat) (x : AV) : AV := @AV.rec (fun _ => AV) (fun _ => Unit) (fun _ => Unit) (fun _ => Unit) (x) (fun _ => x) (fun _ => x) (fun _ => x) (fun _ => x) (fun _ _ => x) (fun _ _ => x) (fun _ _ => x) (fun _ _ _ => x) (fun _ => x) (fun i' l _ => @Bool.rec (fun _ => AV) (x) (@Option.rec (AV) (fun _ => AV) (.bot) (fun a => a) (nth l j)) (Nat.beq i i')) (x) (x) () (fun _ _ _ _ => ()) () (fun _ _ _ _ => ()) (fun _ _ _ => ()) (x)
noncomputable def mrgL (i : Nat) (l : List AV) (a b : AV) (n : Nat) : Nat → List AV := @Nat.rec (fun _ => Nat → List AV) (fun _ => []) (fun _ go j => (@Bool.rec (fun _ => AV) (atJ i j b) (atJ i j a) (isTr l j)) :: go (Nat.succ j)) n
noncomputable def both (i : Nat) (l : List AV) (st : St) (a b : PC) (G G' : List Nat) : Option AV := @Option.rec (AV) (fun _ => Option AV) (none) (fun x => @Option.rec (AV) (fun _ => Option AV) (none) (fun y => some (mkAlt i (mrgL i l x y (lenL l) 0) (places i l st))) (b (setK i G' st))) (a (setK i G st))
noncomputable def choose (t : AV) (st : St) (a b : PC) : Option AV := @AV.rec (fun _ => Option AV) (fun _ => Unit) (fun _ => Unit) (fun _ => Unit) (none) (fun x => @Bool.rec (fun _ => Option AV) (b st) (a st) (x)) (fun _ => none) (fun _ => none) (fun _ => none) (fun _ _ => none) (fun _ _ => none) (fun _ _ => none) (fun _ _ _ => none) (fun _ => none) (fun i l _ => @Bool.rec (fun _ => Option AV) (none) (@List.rec (Nat) (fun _ => Option AV) (b st) (fun _ _ _ => @List.rec (Nat) (fun _ => Option AV) (a st) (fun _ _ _ => both i l st a b (filL (isTr l) (places i l st)) (filL (isFl l) (places i l st))) (filL (isFl l) (places i l st))) (filL (isTr l) (places i l st))) (allL (isBo l) (places i l st))) (none) (none) () (fun _ _ _ _ => ()) () (fun _ _ _ _ => ()) (fun _ _ _ => ()) (t)
noncomputable def pCon (a : AV) : PC := fun _ => some a
noncomputable def pLoc (x : Nat) : PC := fun st => look x st.loc
noncomputable def pNil : St → Option (List AV) := fun _ => some []
noncomputable def pCons (p : PC) (q : St → Option (List AV)) : St → Option (List AV) := fun st => @Option.rec (AV) (fun _ => Option (List AV)) (none) (fun a => @Option.rec (List AV) (fun _ => Option (List AV)) (none) (fun l => some (a :: l)) (q st)) (p st)
noncomputable def pTup (q : St → Option (List AV)) : PC := fun st => @Option.rec (List AV) (fun _ => Option AV) (none) (fun l => some (.tup l)) (q st)
noncomputable def p1 (p : PC) (f : AV → Option AV) : PC := fun st => @Option.rec (AV) (fun _ => Option AV) (none) (fun a => lift (fun a _ => f a) 3 a st) (p st)
noncomputable def p2 (p q : PC) (f : AV → AV → St → Option AV) : PC := fun st => @Option.rec (AV) (fun _ => Option AV) (none) (fun a => @Option.rec (AV) (fun _ => Option AV) (none) (fun b => f a b st) (q st)) (p st)
noncomputable def pIfe (t a b : PC) : PC := fun st => @Option.rec (AV) (fun _ => Option AV) (none) (fun x => choose x st a b) (t st)
noncomputable def pAnd (a b : PC) : PC := pIfe a b (pCon (.boo false))
noncomputable def pOr (a b : PC) : PC := pIfe a (pCon (.boo true)) b
noncomputable def pAtt (p : PC) (n : Nat) : PC := fun st => @Option.rec (AV) (fun _ => Option AV) (none) (fun a => lift (attP n) 3 a st) (p st)
noncomputable def optK (x : Option AV) (k : AV → Bool) : Bool := @Option.rec (AV) (fun _ => Bool) (false) (k) (x)
noncomputable def ePu (p : PC) (c : EC) : EC := fun st k kx => @Option.rec (AV) (fun _ => Bool) (c st k kx) (fun a => k a st) (p st)
noncomputable def no : K1 := fun _ _ => false
noncomputable def yes : KS := fun _ => true
noncomputable def eBad : EC := fun _ _ _ => false
noncomputable abbrev LC := St → (List AV → St → Bool) → K1 → Bool
noncomputable abbrev DC := St → (List (Nat × AV) → St → Bool) → K1 → Bool
noncomputable def lNil : LC := fun st k _ => k [] st
noncomputable def lCons (c : EC) (d : LC) : LC := fun st k kx => c st (fun a st => d st (fun l st => k (a :: l) st) kx) kx
noncomputable def dNil : DC := fun st k _ => k [] st
noncomputable def dCons (x : Nat) (c : EC) (d : DC) : DC := fun st k kx => c st (fun a st => d st (fun l st => k ((x, a) :: l) st) kx) kx
noncomputable def tru (a : AV) (st : St) (k : KB) : Bool := res a st fun a st => booK a false fun b => k b st
noncomputable def eqLs (ih : AV → AV → St → KS → Bool) (l : List AV) : List AV → St → KS → Bool := @List.rec (AV) (fun _ => List AV → St → KS → Bool) (fun m st k => @List.rec (AV) (fun _ => Bool) (k st) (fun _ _ _ => false) (m)) (fun x _ go m st k => @List.rec (AV) (fun _ => Bool) (false) (fun y m _ => ih x y st fun st => go m st k) (m)) (l)
noncomputable def eqO (a b : AV) (st : St) (k : KS) : Bool := @Option.rec (Bool) (fun _ => Bool) (false) (fun x => @Bool.rec (fun _ => Bool) (false) (k st) (x)) (eq1 a b)
noncomputable def eqC (ih : AV → AV → St → KS → Bool) (a b : AV) (st : St) (k : KS) : Bool := @AV.rec (fun _ => Bool) (fun _ => Unit) (fun _ => Unit) (fun _ => Unit) (eqO a b st k) (fun _ => eqO a b st k) (fun _ => eqO a b st k) (fun _ => eqO a b st k) (fun _ => eqO a b st k) (fun l _ => @AV.rec (fun _ => Bool) (fun _ => Unit) (fun _ => Unit) (fun _ => Unit) (false) (fun _ => false) (fun _ => false) (fun _ => false) (fun _ => false) (fun m _ => eqLs ih l m st k) (fun _ _ => false) (fun _ _ => false) (fun _ _ _ => false) (fun _ => false) (fun _ _ _ => false) (false) (false) () (fun _ _ _ _ => ()) () (fun _ _ _ _ => ()) (fun _ _ _ => ()) (b)) (fun _ _ => eqO a b st k) (fun _ _ => eqO a b st k) (fun _ _ _ => eqO a b st k) (fun _ => eqO a b st k) (fun _ _ _ => eqO a b st k) (eqO a b st k) (eqO a b st k) () (fun _ _ _ _ => ()) () (fun _ _ _ _ => ()) (fun _ _ _ => ()) (a)
noncomputable def eqS (ih : AV → AV → St → KS → Bool) (a b : AV) (st : St) (k : KS) : Bool := res a st fun a st => res b st fun b st => eqC ih a b st k
noncomputable def eqA (n : Nat) : AV → AV → St → KS → Bool := @Nat.rec (fun _ => AV → AV → St → KS → Bool) (fun _ _ _ _ => false) (fun _ ih => eqS ih) n
noncomputable def eqNil (a : AV) (y : Nat) (st : St) (k : KB) : Bool := asL (.ref y) st fun _ m => @List.rec (AV) (fun _ => Bool) (asL a st fun _ l => @List.rec (AV) (fun _ => Bool) (k true st) (fun _ _ _ => k false st) (l)) (fun _ _ _ => false) (m)
noncomputable def cmpEq (a b : AV) (st : St) (k : KB) : Bool := @AV.rec (fun _ => Bool) (fun _ => Unit) (fun _ => Unit) (fun _ => Unit) (eqA 12 a b st fun st => k true st) (fun _ => eqA 12 a b st fun st => k true st) (fun _ => eqA 12 a b st fun st => k true st) (fun _ => eqA 12 a b st fun st => k true st) (fun _ => eqA 12 a b st fun st => k true st) (fun _ _ => eqA 12 a b st fun st => k true st) (fun _ _ => eqA 12 a b st fun st => k true st) (fun _ _ => eqA 12 a b st fun st => k true st) (fun _ _ _ => eqA 12 a b st fun st => k true st) (fun y => eqNil a y st k) (fun _ _ _ => eqA 12 a b st fun st => k true st) (eqA 12 a b st fun st => k true st) (eqA 12 a b st fun st => k true st) () (fun _ _ _ _ => ()) () (fun _ _ _ _ => ()) (fun _ _ _ => ()) (b)
noncomputable abbrev CC := AV → AV → St → KB → Bool
noncomputable def qEq : CC := cmpEq
noncomputable def qNe : CC := fun a b st k => cmpEq a b st fun x st => k (notB x) st
noncomputable def qOf (f : C2) : CC := fun a b st k => res a st fun a st => @Option.rec (Bool) (fun _ => Bool) (false) (fun x => k x st) (f a b st)
noncomputable def cmpV (f : C2) (q : CC) (a b : AV) (st : St) (k : K1) : Bool := @Option.rec (AV) (fun _ => Bool) (q a b st fun x st => k (.boo x) st) (fun x => k x st) (cmpP f a b st)
noncomputable def eTup (l : LC) : EC := fun st k kx => l st (fun l st => k (.tup l) st) kx
noncomputable def eLst (l : LC) : EC := fun st k kx => l st (fun l st => newR (.lst l) st k) kx
noncomputable def eDic (l : DC) : EC := fun st k kx => l st (fun l st => newR (.dic l) st k) kx
noncomputable def eT (c : EC) (st : St) (k : KB) (kx : K1) : Bool := c st (fun a st => tru a st k) kx
noncomputable def eIfe (t a b : EC) : EC := fun st k kx => eT t st (fun x st => @Bool.rec (fun _ => Bool) (b st k kx) (a st k kx) (x)) kx
noncomputable def eCon (a : AV) : EC := fun st k _ => k a st
noncomputable def eLoc (x : Nat) : EC := fun st k _ => optK (look x st.loc) fun a => k a st
noncomputable def eAnd (a b : EC) : EC := eIfe a b (eCon (.boo false))
noncomputable def eOr (a b : EC) : EC := eIfe a (eCon (.boo true)) b
noncomputable def eNt (a : EC) : EC := fun st k kx => eT a st (fun b st => k (.boo (notB b)) st) kx
noncomputable def eCmp (f : C2) (q : CC) (a b : EC) : EC := fun st k kx => a st (fun a st => b st (fun b st => cmpV f q a b st k) kx) kx
noncomputable def eAtt (c : EC) (n : Nat) : EC := fun st k kx => c st (fun a st => optK (lift (attP n) 3 a st) fun a => k a st) kx
noncomputable def e2 (c d : EC) (f : AV → AV → St → Option AV) : EC := fun st k kx => c st (fun a st => d st (fun b st => optK (f a b st) fun a => k a st) kx) kx
noncomputable def revL (l : List AV) : List AV := @List.rec AV (fun _ => List AV → List AV) (fun m => m) (fun a _ go m => go (a :: m)) l []
noncomputable def capL {α : Type} (l : List α) (k : Bool) : Bool := @Bool.rec (fun _ => Bool) (false) (k) (Nat.ble (lenL l) 900)
noncomputable def eSlC (c : EC) : EC := fun st k kx => c st (fun a st => asL a st fun _ l => capL l (newR (.lst (revL l)) st k)) kx
noncomputable def eCallF (f : FC) (l : LC) : EC := fun st k kx => l st (fun l st => f l st k kx) kx
noncomputable def nonK (a : AV) (k : Bool) : Bool := @AV.rec (fun _ => Bool) (fun _ => Unit) (fun _ => Unit) (fun _ => Unit) (k) (fun _ => false) (fun _ => false) (fun _ => false) (fun _ => false) (fun _ _ => false) (fun _ _ => false) (fun _ _ => false) (fun _ _ _ => false) (fun _ => false) (fun _ _ _ => false) (false) (false) () (fun _ _ _ _ => ()) () (fun _ _ _ _ => ()) (fun _ _ _ => ()) (a)
noncomputable def eCallC (c : Nat) (f : FC) (l : LC) : EC := fun st k kx => l st (fun l st => new (.ins c []) st fun x st => f (.ref x :: l) st (fun a st => nonK a (k (.ref x) st)) kx) kx
noncomputable def bLen (a : AV) (st : St) (k : K1) : Bool := @AV.rec (fun _ => Bool) (fun _ => Unit) (fun _ => Unit) (fun _ => Unit) (false) (fun _ => false) (fun _ => false) (fun _ => false) (fun _ => false) (fun _ _ => false) (fun l _ => capL l (k (.int (.ofNat (lenL l))) st)) (fun _ _ => false) (fun _ _ _ => false) (fun x => asL (.ref x) st fun _ l => capL l (k (.int (.ofNat (lenL l))) st)) (fun _ _ _ => false) (false) (false) () (fun _ _ _ _ => ()) () (fun _ _ _ _ => ()) (fun _ _ _ => ()) (a)
noncomputable def bTup (a : AV) (st : St) (k : K1) : Bool := @AV.rec (fun _ => Bool) (fun _ => Unit) (fun _ => Unit) (fun _ => Unit) (false) (fun _ => false) (fun _ => false) (fun _ => false) (fun _ => false) (fun _ _ => false) (fun l _ => capL l (k (.tup l) st)) (fun _ _ => false) (fun _ _ _ => false) (fun x => asL (.ref x) st fun _ l => capL l (k (.tup l) st)) (fun _ _ _ => false) (false) (false) () (fun _ _ _ _ => ()) () (fun _ _ _ _ => ()) (fun _ _ _ => ()) (a)
noncomputable def strPair {α : Type} (l : List AV) (d : α) (k : Nat → AV → α) : α := @List.rec (AV) (fun _ => α) (d) (fun a r _ => @List.rec (AV) (fun _ => α) (d) (fun b r _ => @List.rec (AV) (fun _ => α) (strK a d fun c => k c b) (fun _ _ _ => d) (r)) (r)) (l)
noncomputable def pairsD (l : List AV) : Option (List (Nat × AV)) := @List.rec (AV) (fun _ => Option (List (Nat × AV))) (some []) (fun a _ ih => @AV.rec (fun _ => Option (List (Nat × AV))) (fun _ => Unit) (fun _ => Unit) (fun _ => Unit) (none) (fun _ => none) (fun _ => none) (fun _ => none) (fun _ => none) (fun l _ => strPair l none fun c v => @Option.rec (List (Nat × AV)) (fun _ => Option (List (Nat × AV))) (none) (fun d => some ((c, v) :: d)) (ih)) (fun _ _ => none) (fun _ _ => none) (fun _ _ _ => none) (fun _ => none) (fun _ _ _ => none) (none) (none) () (fun _ _ _ _ => ()) () (fun _ _ _ _ => ()) (fun _ _ _ => ()) (a)) (l)
noncomputable def noDup (d : List (Nat × AV)) : Bool := @List.rec (Nat × AV) (fun _ => Bool) (true) (fun p r ih => @Option.rec (AV) (fun _ => Bool) (ih) (fun _ => false) (look p.1 r)) (d)
noncomputable def bDic (a : AV) (st : St) (k : K1) : Bool := asL a st fun _ l => capL l (@Option.rec (List (Nat × AV)) (fun _ => Bool) (false) (fun d => @Bool.rec (fun _ => Bool) (false) (newR (.dic d) st k) (noDup d)) (pairsD l))
noncomputable def eCallB (b : AV → St → K1 → Bool) (c : EC) : EC := fun st k kx => c st (fun a st => res a st fun a st => b a st k) kx
noncomputable def arg1 (args : List AV) (k : AV → Bool) : Bool := @List.rec (AV) (fun _ => Bool) (false) (fun v r _ => @List.rec (AV) (fun _ => Bool) (k v) (fun _ _ _ => false) (r)) (args)
noncomputable def arg2 (args : List AV) (k : AV → AV → Bool) : Bool := @List.rec (AV) (fun _ => Bool) (false) (fun v r _ => arg1 r fun u => k v u) (args)
noncomputable def insAt (a : AV) (n : Nat) : List AV → List AV := @Nat.rec (fun _ => List AV → List AV) (fun l => a :: l) (fun _ ih l => @List.rec (AV) (fun _ => List AV) ([a]) (fun b r _ => b :: ih r) (l)) n
noncomputable abbrev MC := Nat → List AV → List AV → St → K1 → Bool
noncomputable def mApp : MC := fun x l args st k => arg1 args fun v => capL l (wr x (.lst (appL l [v])) st (k .non))
noncomputable def mExt : MC := fun x l args st k => arg1 args fun v => asL v st fun _ m => capL (appL l m) (wr x (.lst (appL l m)) st (k .non))
noncomputable def mIns : MC := fun x l args st k => arg2 args fun i v => res i st fun i st => natOf i false fun j => capL l (wr x (.lst (insAt v j l)) st (k .non))
noncomputable def eMthL (m : MC) (o : EC) (l : LC) : EC := fun st k kx => o st (fun a st => asL a st fun _ _ => l st (fun args st => asL a st fun x l => m x l args st k) kx) kx
noncomputable def insK (c x : Nat) (st : St) (k : Bool) : Bool := @Option.rec (AO) (fun _ => Bool) (false) (fun o => @AO.rec (fun _ => Bool) (fun _ => false) (fun _ => false) (fun d _ => @Bool.rec (fun _ => Bool) (false) (k) (Nat.beq c d)) (o)) (obj st x)
noncomputable def isI (c : Nat) (a : AV) (st : St) (k : Bool) : Bool := @AV.rec (fun _ => Bool) (fun _ => Unit) (fun _ => Unit) (fun _ => Unit) (false) (fun _ => false) (fun _ => false) (fun _ => false) (fun _ => false) (fun _ _ => false) (fun _ _ => false) (fun _ _ => false) (fun d _l _ => @Bool.rec (fun _ => Bool) (false) (k) (Nat.beq c d)) (fun x => insK c x st k) (fun _ _ _ => false) (false) (false) () (fun _ _ _ _ => ()) () (fun _ _ _ _ => ()) (fun _ _ _ => ()) (a)
noncomputable def eMthI (c : Nat) (f : FC) (o : EC) (l : LC) : EC := fun st k kx => o st (fun a st => res a st fun a st => isI c a st (l st (fun args st => f (a :: args) st k kx) kx)) kx
noncomputable abbrev BC := AV → St → KS → Bool
noncomputable def bOne (x : Nat) : BC := fun a st k => k (setLoc x a st)
noncomputable def bTwo (x y : Nat) : BC := fun a st k => @AV.rec (fun _ => Bool) (fun _ => Unit) (fun _ => Unit) (fun _ => Unit) (false) (fun _ => false) (fun _ => false) (fun _ => false) (fun _ => false) (fun l _ => arg2 l fun u v => k (setLoc y v (setLoc x u st))) (fun _ _ => false) (fun _ _ => false) (fun _ _ _ => false) (fun _ => false) (fun _ _ _ => false) (false) (false) () (fun _ _ _ _ => ()) () (fun _ _ _ _ => ()) (fun _ _ _ => ()) (a)
noncomputable def overL (step : Stp) (l : List AV) : St → KS → Bool := @List.rec (AV) (fun _ => St → KS → Bool) (fun st k => k st) (fun a _ go st k => step a st fun st => go st k) (l)
noncomputable def overR (step : Stp) (x n : Nat) : Nat → St → KS → Bool := @Nat.rec (fun _ => Nat → St → KS → Bool) (fun _ _ _ => false) (fun _ go i st k => asL (.ref x) st fun _ l => @Option.rec (AV) (fun _ => Bool) (k st) (fun a => step a st fun st => go (Nat.succ i) st k) (nth l i)) n
noncomputable def enumL (l : List AV) : Nat → List AV := @List.rec (AV) (fun _ => Nat → List AV) (fun _ => []) (fun a _ go n => .tup [.int (.ofNat n), a] :: go (Nat.succ n)) (l)
noncomputable def rngL (n m : Nat) : List AV := @Nat.rec (fun _ => Nat → List AV) (fun _ => []) (fun _ ih n => .int (.ofNat n) :: ih (Nat.succ n)) m n
noncomputable def keysL (d : List (Nat × AV)) : List AV := @List.rec (Nat × AV) (fun _ => List AV) ([]) (fun p _ ih => .str p.1 :: ih) (d)
noncomputable abbrev IC := AV → St → Stp → KS → Bool
noncomputable def iSeq : IC := fun a st step k => @AV.rec (fun _ => Bool) (fun _ => Unit) (fun _ => Unit) (fun _ => Unit) (false) (fun _ => false) (fun _ => false) (fun _ => false) (fun _ => false) (fun l _ => overL step l st k) (fun l _ => overL step l st k) (fun _ _ => false) (fun _ _ _ => false) (fun x => overR step x 40 0 st k) (fun _ _ _ => false) (false) (false) () (fun _ _ _ _ => ()) () (fun _ _ _ _ => ()) (fun _ _ _ => ()) (a)
noncomputable def iSeqC : IC := fun a st step k => @AV.rec (fun _ => Bool) (fun _ => Unit) (fun _ => Unit) (fun _ => Unit) (false) (fun _ => false) (fun _ => false) (fun _ => false) (fun _ => false) (fun l _ => overL step l st k) (fun _ _ => false) (fun _ _ => false) (fun _ _ _ => false) (fun _ => false) (fun _ _ _ => false) (false) (false) () (fun _ _ _ _ => ()) () (fun _ _ _ _ => ()) (fun _ _ _ => ()) (a)
noncomputable def iKeys : IC := fun a st step k => @AV.rec (fun _ => Bool) (fun _ => Unit) (fun _ => Unit) (fun _ => Unit) (false) (fun _ => false) (fun _ => false) (fun _ => false) (fun _ => false) (fun _ _ => false) (fun _ _ => false) (fun d _ => overL step (keysL d) st k) (fun _ _ _ => false) (fun x => @Option.rec (AO) (fun _ => Bool) (false) (fun o => @AO.rec (fun _ => Bool) (fun _ => false) (fun d => @List.rec (Nat × AV) (fun _ => Bool) (k st) (fun _ _ _ => false) (d)) (fun _ _ => false) (o)) (obj st x)) (fun _ _ _ => false) (false) (false) () (fun _ _ _ _ => ()) () (fun _ _ _ _ => ()) (fun _ _ _ => ()) (a)
noncomputable def iEnum : IC := fun a st step k => @AV.rec (fun _ => Bool) (fun _ => Unit) (fun _ => Unit) (fun _ => Unit) (false) (fun _ => false) (fun _ => false) (fun _ => false) (fun _ => false) (fun l _ => overL step (enumL l 0) st k) (fun _ _ => false) (fun _ _ => false) (fun _ _ _ => false) (fun _ => false) (fun _ _ _ => false) (false) (false) () (fun _ _ _ _ => ()) () (fun _ _ _ _ => ()) (fun _ _ _ => ()) (a)
noncomputable def iRng : IC := fun a st step k => natOf a false fun n => overL step (rngL 0 n) st k
noncomputable def lcpStep (elt : EC) (b : BC) (t : EC) (x : Nat) : Stp := fun a st kn => b a st fun st => eT t st (fun y st => @Bool.rec (fun _ => Bool) (kn st) (elt st (fun v st => asL (.ref x) st fun _ l => capL l (wr x (.lst (appL l [v])) st kn)) no) (y)) no
noncomputable def keepL (vs : List Nat) (l : List (Nat × AV)) : List (Nat × AV) := filL (fun p => anyL (Nat.beq p.1) vs) l
noncomputable def eLcp (vs : List Nat) (elt : EC) (b : BC) (i : IC) (it : EC) (t : EC) : EC := fun st k kx => it st (fun a st => res a st fun a st => new (.lst []) (withLoc (keepL vs st.loc) st) fun x st1 => i a st1 (lcpStep elt b t x) (fun st' => k (.ref x) (withLoc st.loc st'))) kx
noncomputable def bindP (d : Option AV) (xs : List Nat) : List AV → Option (List (Nat × AV)) := @List.rec (Nat) (fun _ => List AV → Option (List (Nat × AV))) (fun as => @List.rec (AV) (fun _ => Option (List (Nat × AV))) (some []) (fun _ _ _ => none) (as)) (fun x xs go as => @List.rec (AV) (fun _ => Option (List (Nat × AV))) (@List.rec (Nat) (fun _ => Option (List (Nat × AV))) (@Option.rec (AV) (fun _ => Option (List (Nat × AV))) (none) (fun a => some [(x, a)]) (d)) (fun _ _ _ => none) (xs)) (fun a as _ => @Option.rec (List (Nat × AV)) (fun _ => Option (List (Nat × AV))) (none) (fun l => some ((x, a) :: l)) (go as)) (as)) (xs)
noncomputable def fDef (xs : List Nat) (d : Option AV) (body : SC) : FC := fun args st k kx => @Option.rec (List (Nat × AV)) (fun _ => Bool) (false) (fun loc => body (withLoc loc st) (fun st' => k .non (withLoc st.loc st')) (fun a st' => k a (withLoc st.loc st')) (fun a st' => kx a (withLoc st.loc st'))) (bindP d xs args)
noncomputable def fBad : FC := fun _ _ _ _ => false
noncomputable def bumpV (st : St) : St := ⟨st.loc, st.H, st.hn, st.known, Nat.succ st.nv⟩
noncomputable def fPool : FC := fun args st k _ => arg2 args fun _ _ => newR (.lst [.unk, .unk]) st k
noncomputable def unkK (a : AV) (k : Bool) : Bool := @AV.rec (fun _ => Bool) (fun _ => Unit) (fun _ => Unit) (fun _ => Unit) (false) (fun _ => false) (fun _ => false) (fun _ => false) (fun _ => false) (fun _ _ => false) (fun _ _ => false) (fun _ _ => false) (fun _ _ _ => false) (fun _ => false) (fun _ _ _ => false) (k) (false) () (fun _ _ _ _ => ()) () (fun _ _ _ _ => ()) (fun _ _ _ => ()) (a)
noncomputable def fTake : FC := fun args st k _ => arg2 args fun a t => asL a st fun _ l => arg2 l fun u v => unkK u (unkK v (natOf t false fun top => @Bool.rec (fun _ => Bool) (false) (k (.alt st.nv (rngL 0 top)) (bumpV st)) (Nat.ble 1 top)))
noncomputable def sNil : SC := fun st kn _ _ => kn st
noncomputable def sCons (c d : SC) : SC := fun st kn kr kx => c st (fun st => d st kn kr kx) kr kx
noncomputable def sBad : SC := fun _ _ _ _ => false
noncomputable def sAsn (x : Nat) (c : EC) : SC := fun st kn _ kx => c st (fun a st => kn (setLoc x a st)) kx
noncomputable def asgT (xs : List Nat) : List AV → List (Nat × AV) → Option (List (Nat × AV)) := @List.rec (Nat) (fun _ => List AV → List (Nat × AV) → Option (List (Nat × AV))) (fun m l => @List.rec (AV) (fun _ => Option (List (Nat × AV))) (some l) (fun _ _ _ => none) (m)) (fun x _ go m l => @List.rec (AV) (fun _ => Option (List (Nat × AV))) (none) (fun a as _ => go as (put x a l)) (m)) (xs)
noncomputable def sAsT (xs : List Nat) (c : EC) : SC := fun st kn _ kx => c st (fun a st => res a st fun a st => @AV.rec (fun _ => Bool) (fun _ => Unit) (fun _ => Unit) (fun _ => Unit) (false) (fun _ => false) (fun _ => false) (fun _ => false) (fun _ => false) (fun l _ => @Option.rec (List (Nat × AV)) (fun _ => Bool) (false) (fun loc => kn (withLoc loc st)) (asgT xs l st.loc)) (fun _ _ => false) (fun _ _ => false) (fun _ _ _ => false) (fun _ => false) (fun _ _ _ => false) (false) (false) () (fun _ _ _ _ => ()) () (fun _ _ _ _ => ()) (fun _ _ _ => ()) (a)) kx
noncomputable def wrAtt (n : Nat) (v a : AV) (st : St) (kn : KS) : Bool := @AV.rec (fun _ => Bool) (fun _ => Unit) (fun _ => Unit) (fun _ => Unit) (false) (fun _ => false) (fun _ => false) (fun _ => false) (fun _ => false) (fun _ _ => false) (fun _ _ => false) (fun _ _ => false) (fun _ _ _ => false) (fun x => @Option.rec (AO) (fun _ => Bool) (false) (fun o => @AO.rec (fun _ => Bool) (fun _ => false) (fun _ => false) (fun c fs => capL fs (wr x (.ins c (put n v fs)) st kn)) (o)) (obj st x)) (fun _ _ _ => false) (false) (false) () (fun _ _ _ _ => ()) () (fun _ _ _ _ => ()) (fun _ _ _ => ()) (a)
noncomputable def sAsA (o : EC) (n : Nat) (e : EC) : SC := fun st kn _ kx => e st (fun v st => o st (fun a st => wrAtt n v a st kn) kx) kx
noncomputable def wrSub (v i a : AV) (st : St) (kn : KS) : Bool := @AV.rec (fun _ => Bool) (fun _ => Unit) (fun _ => Unit) (fun _ => Unit) (false) (fun _ => false) (fun _ => false) (fun _ => false) (fun _ => false) (fun _ _ => false) (fun _ _ => false) (fun _ _ => false) (fun _ _ _ => false) (fun x => @Option.rec (AO) (fun _ => Bool) (false) (fun o => @AO.rec (fun _ => Bool) (fun _ => false) (fun d => strK i false fun c => capL d (wr x (.dic (put c v d)) st kn)) (fun _ _ => false) (o)) (obj st x)) (fun _ _ _ => false) (false) (false) () (fun _ _ _ _ => ()) () (fun _ _ _ _ => ()) (fun _ _ _ => ()) (a)
noncomputable def sAsS (o i e : EC) : SC := fun st kn _ kx => e st (fun v st => o st (fun a st => i st (fun i st => res i st fun i st => wrSub v i a st kn) kx) kx) kx
noncomputable def sRet (c : EC) : SC := fun st _ kr kx => c st kr kx
noncomputable def sIff (t : EC) (a b : SC) : SC := fun st kn kr kx => eT t st (fun x st => @Bool.rec (fun _ => Bool) (b st kn kr kx) (a st kn kr kx) (x)) kx
noncomputable def frStep (b : BC) (body : SC) (kr : K1) : Stp := fun a st kn => b a st fun st => body st kn kr no
noncomputable def sFor (b : BC) (i : IC) (it : EC) (body : SC) : SC := fun st kn kr kx => it st (fun a st => res a st fun a st => i a st (frStep b body kr) kn) kx
noncomputable def sWhl (n : Nat) (t : EC) (body : SC) : SC := @Nat.rec (fun _ => SC) sBad (fun _ go st kn kr kx => eT t st (fun b st => @Bool.rec (fun _ => Bool) (kn st) (body st (fun st => go st kn kr no) kr no) (b)) no) n
noncomputable def sExp (c : EC) : SC := fun st kn _ kx => c st (fun a st => nonK a (kn st)) kx
noncomputable def msgK (a : AV) (k : Bool) : Bool := @AV.rec (fun _ => Bool) (fun _ => Unit) (fun _ => Unit) (fun _ => Unit) (false) (fun _ => false) (fun _ => false) (fun _c => k) (fun _n => k) (fun _ _ => false) (fun _ _ => false) (fun _ _ => false) (fun _ _ _ => false) (fun _ => false) (fun _ _ _ => false) (false) (false) () (fun _ _ _ _ => ()) () (fun _ _ _ _ => ()) (fun _ _ _ => ()) (a)
noncomputable def sRai (m s : EC) : SC := fun st _ _ kx => m st (fun a st => res a st fun a st => msgK a (s st (fun s st => kx s st) kx)) kx
noncomputable def sTryN (body : SC) : SC := fun st kn kr _ => body st kn kr no
noncomputable def sTryT (c : Nat) (body : SC) : SC := fun st kn kr _ => body st kn kr (fun s st => kr (.tup [.str c, s]) st)
noncomputable def frzL (f : AV → Option AV) (l : List AV) : Option (List AV) := @List.rec (AV) (fun _ => Option (List AV)) (some []) (fun a _ ih => @Option.rec (AV) (fun _ => Option (List AV)) (none) (fun b => @Option.rec (List AV) (fun _ => Option (List AV)) (none) (fun m => some (b :: m)) (ih)) (f a)) (l)
noncomputable def frzD (f : AV → Option AV) (l : List (Nat × AV)) : Option (List (Nat × AV)) := @List.rec (Nat × AV) (fun _ => Option (List (Nat × AV))) (some []) (fun p _ ih => @Option.rec (AV) (fun _ => Option (List (Nat × AV))) (none) (fun b => @Option.rec (List (Nat × AV)) (fun _ => Option (List (Nat × AV))) (none) (fun m => some ((p.1, b) :: m)) (ih)) (f p.2)) (l)
noncomputable def frzO (f : AV → Option AV) (o : AO) : Option AV := @AO.rec (fun _ => Option AV) (fun l => @Option.rec (List AV) (fun _ => Option AV) (none) (fun m => some (.lis m)) (frzL f l)) (fun d => @Option.rec (List (Nat × AV)) (fun _ => Option AV) (none) (fun m => some (.dct m)) (frzD f d)) (fun c d => @Option.rec (List (Nat × AV)) (fun _ => Option AV) (none) (fun m => some (.obj c m)) (frzD f d)) (o)
noncomputable def frzV (H : HT) (kp n : Nat) : AV → Option AV := @Nat.rec (fun _ => AV → Option AV) (fun _ => none) (fun _ ih a => @AV.rec (fun _ => Option AV) (fun _ => Unit) (fun _ => Unit) (fun _ => Unit) (some a) (fun _ => some a) (fun _ => some a) (fun _ => some a) (fun _ => some a) (fun l _ => @Option.rec (List AV) (fun _ => Option AV) (none) (fun m => some (.tup m)) (frzL ih l)) (fun _ _ => some a) (fun _ _ => some a) (fun _ _ _ => some a) (fun x => @Bool.rec (fun _ => Option AV) (@Option.rec (AO) (fun _ => Option AV) (none) (frzO ih) (H.get x)) (some (.ref x)) (Nat.beq x kp)) (fun i l _ => @Option.rec (List AV) (fun _ => Option AV) (none) (fun m => some (.alt i m)) (frzL ih l)) (some a) (some a) () (fun _ _ _ _ => ()) () (fun _ _ _ _ => ()) (fun _ _ _ => ()) (a)) n
noncomputable def frzSt (st : St) (k : KS) : Bool := @Option.rec (List (Nat × AV)) (fun _ => Bool) (false) (fun loc => k ⟨loc, .nil, st.hn, st.known, st.nv⟩) (frzD (frzV st.H 5000 20) st.loc)
noncomputable def refK (a : AV) (k : Nat → Bool) : Bool := @AV.rec (fun _ => Bool) (fun _ => Unit) (fun _ => Unit) (fun _ => Unit) (false) (fun _ => false) (fun _ => false) (fun _ => false) (fun _ => false) (fun _ _ => false) (fun _ _ => false) (fun _ _ => false) (fun _ _ _ => false) (fun x => k x) (fun _ _ _ => false) (false) (false) () (fun _ _ _ _ => ()) () (fun _ _ _ _ => ()) (fun _ _ _ => ()) (a)
noncomputable def sFrz (x : Nat) : SC := fun st kn _ _ => optK (look x st.loc) fun a => refK a fun y => @Bool.rec (fun _ => Bool) (false) (@Option.rec (AO) (fun _ => Bool) (false) (fun o => @Option.rec (List (Nat × AV)) (fun _ => Bool) (false) (fun loc => kn ⟨loc, HT.put 12 .nil y o, st.hn, st.known, st.nv⟩) (frzD (frzV st.H y 20) st.loc)) (obj st y)) (Nat.ble y 4000)
noncomputable def eachL (x : Nat) (body : SC) (st : St) (kr kx : K1) (l : List AV) : Bool := @List.rec (AV) (fun _ => Bool) (true) (fun a _ ih => @Bool.rec (fun _ => Bool) (false) (ih) (body (setLoc x a st) yes kr kx)) (l)
noncomputable def sEach (x : Nat) (it : EC) (body : SC) : SC := fun st kn kr kx => it st (fun a st => asL a st fun _ l => frzSt st fun st => @Bool.rec (fun _ => Bool) (false) (kn (withLoc [] st)) (eachL x body st kr kx l)) kx
noncomputable def andB (x y : Bool) : Bool := @Bool.rec (fun _ => Bool) (false) (y) (x)
noncomputable def natsB (l : List Nat) : List Nat → Bool := @List.rec (Nat) (fun _ => List Nat → Bool) (fun m => @List.rec (Nat) (fun _ => Bool) (true) (fun _ _ _ => false) (m)) (fun a _ go m => @List.rec (Nat) (fun _ => Bool) (false) (fun b m _ => andB (Nat.beq a b) (go m)) (m)) (l)
noncomputable def knoB (l : List (Nat × List Nat)) : List (Nat × List Nat) → Bool := @List.rec (Nat × List Nat) (fun _ => List (Nat × List Nat) → Bool) (fun m => @List.rec (Nat × List Nat) (fun _ => Bool) (true) (fun _ _ _ => false) (m)) (fun a _ go m => @List.rec (Nat × List Nat) (fun _ => Bool) (false) (fun b m _ => andB (Nat.beq a.1 b.1) (andB (natsB a.2 b.2) (go m))) (m)) (l)
noncomputable def nilH (t : HT) : Bool := @HT.rec (fun _ => Bool) (true) (fun _ _ _ _ _ => false) (t)
noncomputable def stEq (S st : St) : Bool := andB (Nat.beq S.hn st.hn) (andB (Nat.beq S.nv st.nv) (andB (nilH st.H) (andB (knoB S.known st.known) (synD (syn 30) S.loc st.loc))))
noncomputable def sEachK (vs : List Nat) (K : List AV → St → Bool) (it : EC) : SC := fun st kn _ kx => it st (fun a st => asL a st fun _ l => frzSt st fun st => @Bool.rec (fun _ => Bool) (false) (kn (withLoc (keepL [152] st.loc) st)) (K l (withLoc (keepL vs st.loc) st))) kx
end
end Mine
end
section
namespace Mine
noncomputable section
noncomputable def tab : List String := ["x", "X", "F", "f", "y", "z", "A", "B", "w", "M", "o.A", "o", "m.B", "m", "m.C", "a", "b", "o.A.", "o.A.F", "o.A.f", "self", "told", "named", "underlying", "row", "settle", "world", "T", "World", "path", "package", "methods", "sync.WaitGroup", "NamedRow", "waits", "held", "sync", "sync.Mutex", "locks", "runtime.Error", "string", "runtime", "error", "text", "Error", "interface", "", "Wait", "sync.WaitGroup.Wait", "func", "Done", "sync.WaitGroup.Done", "Add", "sync.WaitGroup.Add", "adding", "Unlock", "sync.Mutex.Unlock", "Lock", "sync.Mutex.Lock", "runtime.Error.Error", "int", "state", "struct", "packages", "is_whole", "late_keys", "starts", "order", "scopes", "files", "bodies", "funcs", "consts", "globals", "scope", "key", "readers", "run_body", "outer", "loops", "literals", "captured", "has_result_names", "result_locals", "results", "params", "locals", "steps", "ptr", "reached", "name", "base", "own", "face", "k", "field", "is_pointer", "method", "found", "Reached", "seen", "here", "later", "inner", "levels", "Levels", "begun", "checker", "member", "kind", "tuple", "(", ")", "chan", "map", "map[", "]", "slice", "[]", "array", "[", "*", "untyped", "untyped ", "spot", " has no field and no method ", "made", "deref", "index", "local", "global", "address", "a method of a pointer, of what is no variable", "fn", "source", "things", "rows", "hidden", "uint8", "middle", "bool", "scene", "Checker", "m.f", "root", "fault", "turn", "places", "is_small", "receiver", "call", "m.g", "script", "m.I"]
noncomputable def tFst : List (Nat × Nat) := [(0, 0), (1, 1), (2, 2), (3, 3), (4, 4), (5, 5), (6, 6), (7, 7), (8, 8), (9, 9), (10, 11), (12, 13), (14, 13)]
noncomputable def tLow : List (Nat × Nat) := [(0, 0), (1, 0), (2, 3), (3, 3), (4, 4), (5, 5), (6, 15), (7, 16), (8, 8), (9, 13)]
noncomputable def tUpp : List Nat := [1, 2, 6, 7, 9, 27]
noncomputable def tCat : List (Nat × (Nat × Nat)) := [(17, 2, 18), (17, 3, 19)]
noncomputable def b_World_base_of : SC := (sCons (sWhl 8 (ePu (p2 (p2 (pLoc 21) (pCon (.int 0)) (subP tFst)) (pCon (.str 22)) (cmpP ceq)) eBad) (sCons (sIff (ePu (p2 (p2 (pLoc 21) (pCon (.int 1)) (subP tFst)) (pAtt (pLoc 20) 22) (cmpP (cno cin))) eBad) (sCons sBad sNil) sNil) (sCons (sAsn 24 (ePu (p2 (pAtt (pLoc 20) 22) (p2 (pLoc 21) (pCon (.int 1)) (subP tFst)) (subP tFst)) eBad)) (sCons (sIff (ePu (p2 (pAtt (pLoc 24) 23) (pCon .non) (cmpP cis)) eBad) (sCons (sIff (ePu (p2 (pAtt (pLoc 20) 25) (pCon .non) (cmpP cis)) eBad) (sCons sBad sNil) sNil) (sCons (sExp eBad) sNil)) sNil) (sCons (sAsn 21 (ePu (pAtt (pLoc 24) 23) eBad)) sNil))))) (sCons (sRet (eLoc 21)) sNil))
noncomputable def f_World_base_of : FC := fDef [20, 21] none b_World_base_of
noncomputable def b_underlying_of : SC := (sCons (sRet (eMthI 28 f_World_base_of (eLoc 26) (lCons (eLoc 27) lNil))) sNil)
noncomputable def f_underlying_of : FC := fDef [26, 27] none b_underlying_of
noncomputable def b_NamedRow_init : SC := (sCons (sAsA (eLoc 20) 29 (eLoc 29)) (sCons (sAsA (eLoc 20) 30 (eLoc 30)) (sCons (sAsA (eLoc 20) 23 (eLoc 23)) (sCons (sAsA (eLoc 20) 31 (eLoc 31)) sNil))))
noncomputable def f_NamedRow_init : FC := fDef [20, 29, 30, 23, 31] none b_NamedRow_init
noncomputable def b_known_rows : SC := (sCons (sAsn 43 (ePu (pTup (pCons (pCon (.str 49)) (pCons (pTup pNil) (pCons (pTup (pCons (pTup (pCons (pCon (.str 40)) pNil)) pNil)) (pCons (pCon (.boo false)) pNil))))) eBad)) (sCons (sAsn 54 (ePu (pTup (pCons (pCon (.str 49)) (pCons (pTup (pCons (pTup (pCons (pCon (.str 60)) (pCons (pCon (.str 60)) pNil))) pNil)) (pCons (pTup pNil) (pCons (pCon (.boo false)) pNil))))) eBad)) (sCons (sAsn 35 (ePu (pTup (pCons (pCon (.str 62)) (pCons (pTup (pCons (pTup (pCons (pCon (.str 61)) (pCons (pTup (pCons (pCon (.str 60)) (pCons (pCon (.str 60)) pNil))) (pCons (pCon (.boo false)) pNil)))) pNil)) pNil))) eBad)) (sCons (sAsn 21 (eDic (dCons 44 (ePu (pTup (pCons (pCon (.boo false)) (pCons (pLoc 43) (pCons (pCon (.str 59)) pNil)))) eBad) dNil))) (sCons (sAsn 38 (eDic (dCons 57 (ePu (pTup (pCons (pCon (.boo true)) (pCons (pCon (.tup [.str 49, .tup [], .tup [], .boo false])) (pCons (pCon (.str 58)) pNil)))) eBad) (dCons 55 (ePu (pTup (pCons (pCon (.boo true)) (pCons (pCon (.tup [.str 49, .tup [], .tup [], .boo false])) (pCons (pCon (.str 56)) pNil)))) eBad) dNil)))) (sCons (sAsn 34 (eDic (dCons 52 (ePu (pTup (pCons (pCon (.boo true)) (pCons (pLoc 54) (pCons (pCon (.str 53)) pNil)))) eBad) (dCons 50 (ePu (pTup (pCons (pCon (.boo true)) (pCons (pCon (.tup [.str 49, .tup [], .tup [], .boo false])) (pCons (pCon (.str 51)) pNil)))) eBad) (dCons 47 (ePu (pTup (pCons (pCon (.boo true)) (pCons (pCon (.tup [.str 49, .tup [], .tup [], .boo false])) (pCons (pCon (.str 48)) pNil)))) eBad) dNil))))) (sCons (sRet (eDic (dCons 42 (eCallC 33 f_NamedRow_init (lCons (eCon (.str 42)) (lCons (eCon (.str 46)) (lCons (ePu (pTup (pCons (pCon (.str 45)) (pCons (pTup (pCons (pTup (pCons (pCon (.str 44)) (pCons (pLoc 43) pNil))) pNil)) pNil))) eBad) (lCons (eDic dNil) lNil))))) (dCons 39 (eCallC 33 f_NamedRow_init (lCons (eCon (.str 39)) (lCons (eCon (.str 41)) (lCons (ePu (pTup (pCons (pCon (.str 40)) pNil)) eBad) (lCons (eLoc 21) lNil))))) (dCons 37 (eCallC 33 f_NamedRow_init (lCons (eCon (.str 37)) (lCons (eCon (.str 36)) (lCons (eLoc 35) (lCons (eLoc 38) lNil))))) (dCons 32 (eCallC 33 f_NamedRow_init (lCons (eCon (.str 32)) (lCons (eCon (.str 36)) (lCons (eLoc 35) (lCons (eLoc 34) lNil))))) dNil)))))) sNil)))))))
noncomputable def f_known_rows : FC := fDef [] none b_known_rows
noncomputable def b_World_init : SC := (sCons (sAsA (eLoc 20) 63 (eLoc 63)) (sCons (sAsA (eLoc 20) 22 (eCallF f_known_rows lNil)) (sCons (sAsA (eLoc 20) 73 (eDic dNil)) (sCons (sAsA (eLoc 20) 72 (eDic dNil)) (sCons (sAsA (eLoc 20) 71 (eDic dNil)) (sCons (sAsA (eLoc 20) 70 (eDic dNil)) (sCons (sAsA (eLoc 20) 69 (eDic dNil)) (sCons (sAsA (eLoc 20) 68 (eDic dNil)) (sCons (sAsA (eLoc 20) 67 (eLst lNil)) (sCons (sAsA (eLoc 20) 66 (eLst lNil)) (sCons (sAsA (eLoc 20) 25 (eCon .non)) (sCons (sAsA (eLoc 20) 65 (eLst lNil)) (sCons (sAsA (eLoc 20) 64 (eCon (.boo true))) sNil)))))))))))))
noncomputable def f_World_init : FC := fDef [20, 63] (some .non) b_World_init
noncomputable def b_Checker_init : SC := (sCons (sAsA (eLoc 20) 26 (eLoc 26)) (sCons (sAsA (eLoc 20) 30 (eLoc 30)) (sCons (sAsA (eLoc 20) 74 (eLoc 74)) (sCons (sAsA (eLoc 20) 75 (eLoc 75)) (sCons (sAsA (eLoc 20) 76 (eLoc 76)) (sCons (sAsA (eLoc 20) 77 (eLoc 77)) (sCons (sAsA (eLoc 20) 78 (eLoc 78)) (sCons (sAsA (eLoc 20) 86 (eLst lNil)) (sCons (sAsA (eLoc 20) 85 (ePu (pTup pNil) eBad)) (sCons (sAsA (eLoc 20) 84 (ePu (pTup pNil) eBad)) (sCons (sAsA (eLoc 20) 83 (ePu (pTup pNil) eBad)) (sCons (sAsA (eLoc 20) 82 (eCon (.boo false))) (sCons (sAsA (eLoc 20) 81 (eLst lNil)) (sCons (sAsA (eLoc 20) 80 (eDic dNil)) (sCons (sAsA (eLoc 20) 79 (eLst lNil)) sNil)))))))))))))))
noncomputable def f_Checker_init : FC := fDef [20, 26, 30, 74, 75, 76, 77, 78] (some .non) b_Checker_init
noncomputable def b_Reached_init : SC := (sCons (sAsA (eLoc 20) 21 (eLoc 21)) (sCons (sAsA (eLoc 20) 87 (eLoc 87)) sNil))
noncomputable def f_Reached_init : FC := fDef [20, 21, 87] none b_Reached_init
noncomputable def b_without_pointer : SC := (sCons (sRet (ePu (pIfe (p2 (p2 (pLoc 21) (pCon (.int 0)) (subP tFst)) (pCon (.str 88)) (cmpP ceq)) (p2 (pLoc 21) (pCon (.int 1)) (subP tFst)) (pLoc 21)) eBad)) sNil)
noncomputable def f_without_pointer : FC := fDef [21] none b_without_pointer
noncomputable def b_own_methods : SC := (sCons (sRet (eIfe (ePu (p2 (p2 (pLoc 21) (pCon (.int 0)) (subP tFst)) (pCon (.str 22)) (cmpP ceq)) eBad) (ePu (pAtt (p2 (pAtt (pLoc 26) 22) (p2 (pLoc 21) (pCon (.int 1)) (subP tFst)) (subP tFst)) 31) eBad) (eDic dNil))) sNil)
noncomputable def f_own_methods : FC := fDef [26, 21] none b_own_methods
noncomputable def b_members_at : SC := (sCons (sAsT [21, 87] (ePu (pTup (pCons (pAtt (pLoc 89) 21) (pCons (pAtt (pLoc 89) 87) pNil))) eBad)) (sCons (sAsn 31 (eCallF f_own_methods (lCons (eLoc 26) (lCons (eLoc 21) lNil)))) (sCons (sIff (ePu (p2 (pLoc 90) (pLoc 31) (cmpP cin)) eBad) (sCons (sAsT [96, 49, 75] (ePu (p2 (pLoc 31) (pLoc 90) (subP tFst)) eBad)) (sCons (sRet (eLst (lCons (ePu (pTup (pCons (pCon (.str 97)) (pCons (pLoc 87) (pCons (pLoc 75) (pCons (pLoc 96) (pCons (pLoc 49) pNil)))))) eBad) lNil))) sNil)) sNil) (sCons (sAsn 91 (eMthI 28 f_World_base_of (eLoc 26) (lCons (eLoc 21) lNil))) (sCons (sIff (ePu (p2 (p2 (pLoc 91) (pCon (.int 0)) (subP tFst)) (pCon (.str 62)) (cmpP ceq)) eBad) (sCons (sFor (bTwo 94 24) iEnum (ePu (p2 (pLoc 91) (pCon (.int 1)) (subP tFst)) eBad) (sCons (sIff (ePu (p2 (p2 (pLoc 24) (pCon (.int 0)) (subP tFst)) (pLoc 90) (cmpP ceq)) eBad) (sCons (sRet (eLst (lCons (ePu (pTup (pCons (pCon (.str 95)) (pCons (p2 (pLoc 87) (pTup (pCons (pTup (pCons (pLoc 94) (pCons (pCon (.boo false)) pNil))) pNil)) (addP tCat)) (pCons (p2 (pLoc 24) (pCon (.int 1)) (subP tFst)) pNil)))) eBad) lNil))) sNil) sNil) sNil)) sNil) sNil) (sCons (sIff (ePu (p2 (p2 (pLoc 91) (pCon (.int 0)) (subP tFst)) (pCon (.str 45)) (cmpP ceq)) eBad) (sCons (sRet (eLcp [87, 90] (ePu (pTup (pCons (pCon (.str 93)) (pCons (pLoc 87) (pCons (pLoc 90) (pCons (pLoc 49) pNil))))) eBad) (bTwo 92 49) iSeqC (ePu (p2 (pLoc 91) (pCon (.int 1)) (subP tFst)) eBad) (ePu (p2 (pLoc 92) (pLoc 90) (cmpP ceq)) eBad))) sNil) sNil) (sCons (sRet (eLst lNil)) sNil)))))))
noncomputable def f_members_at : FC := fDef [26, 89, 90] none b_members_at
noncomputable def b_embedded_in : SC := (sCons (sAsT [91, 98] (eTup (lCons (eMthI 28 f_World_base_of (eLoc 26) (lCons (ePu (pAtt (pLoc 89) 21) eBad) lNil)) (lCons (eLst lNil) lNil)))) (sCons (sIff (ePu (p2 (p2 (pLoc 91) (pCon (.int 0)) (subP tFst)) (pCon (.str 62)) (cmpP ceq)) eBad) (sCons (sFor (bTwo 94 24) iEnum (ePu (p2 (pLoc 91) (pCon (.int 1)) (subP tFst)) eBad) (sCons (sIff (ePu (p2 (pLoc 24) (pCon (.int 2)) (subP tFst)) eBad) (sCons (sAsn 96 (ePu (p2 (p2 (p2 (pLoc 24) (pCon (.int 1)) (subP tFst)) (pCon (.int 0)) (subP tFst)) (pCon (.str 88)) (cmpP ceq)) eBad)) (sCons (sExp (eMthL mApp (eLoc 98) (lCons (eCallC 99 f_Reached_init (lCons (eCallF f_without_pointer (lCons (ePu (p2 (pLoc 24) (pCon (.int 1)) (subP tFst)) eBad) lNil)) (lCons (ePu (p2 (pAtt (pLoc 89) 87) (pTup (pCons (pTup (pCons (pLoc 94) (pCons (pLoc 96) pNil))) pNil)) (addP tCat)) eBad) lNil))) lNil))) sNil)) sNil) sNil)) sNil) sNil) (sCons (sRet (eLoc 98)) sNil)))
noncomputable def f_embedded_in : FC := fDef [26, 89] none b_embedded_in
noncomputable def b_Levels_init : SC := (sCons (sAsA (eLoc 20) 26 (eLoc 26)) (sCons (sAsA (eLoc 20) 101 (eLst (lCons (eCallC 99 f_Reached_init (lCons (eLoc 21) (lCons (ePu (pTup pNil) eBad) lNil))) lNil))) (sCons (sAsA (eLoc 20) 100 (eDic dNil)) sNil)))
noncomputable def f_Levels_init : FC := fDef [20, 26, 21] none b_Levels_init
noncomputable def b_Levels_go_on : SC := (sCons (sFor (bOne 89) iSeq (ePu (pAtt (pLoc 20) 101) eBad) (sCons (sIff (ePu (p2 (p2 (pAtt (pLoc 89) 21) (pCon (.int 0)) (subP tFst)) (pCon (.str 22)) (cmpP ceq)) eBad) (sCons (sAsS (ePu (pAtt (pLoc 20) 100) eBad) (ePu (p2 (pAtt (pLoc 89) 21) (pCon (.int 1)) (subP tFst)) eBad) (eCon (.boo true))) sNil) sNil) sNil)) (sCons (sAsn 102 (eLst lNil)) (sCons (sFor (bOne 89) iSeq (ePu (pAtt (pLoc 20) 101) eBad) (sCons (sFor (bOne 103) iSeq (eCallF f_embedded_in (lCons (ePu (pAtt (pLoc 20) 26) eBad) (lCons (eLoc 89) lNil))) (sCons (sIff (ePu (pOr (p2 (p2 (pAtt (pLoc 103) 21) (pCon (.int 0)) (subP tFst)) (pCon (.str 22)) (cmpP (cno ceq))) (p2 (p2 (pAtt (pLoc 103) 21) (pCon (.int 1)) (subP tFst)) (pAtt (pLoc 20) 100) (cmpP (cno cin)))) eBad) (sCons (sExp (eMthL mApp (eLoc 102) (lCons (eLoc 103) lNil))) sNil) sNil) sNil)) sNil)) (sCons (sAsA (eLoc 20) 101 (eLoc 102)) sNil))))
noncomputable def f_Levels_go_on : FC := fDef [20] none b_Levels_go_on
noncomputable def b_start_type : SC := (sCons (sIff (ePu (p2 (p2 (pLoc 21) (pCon (.int 0)) (subP tFst)) (pCon (.str 88)) (cmpP ceq)) eBad) (sCons (sAsn 103 (ePu (p2 (pLoc 21) (pCon (.int 1)) (subP tFst)) eBad)) (sCons (sRet (eIfe (eCmp cin (qOf cin) (e2 (eMthI 28 f_World_base_of (eLoc 26) (lCons (eLoc 103) lNil)) (eCon (.int 0)) (subP tFst)) (ePu (pTup (pCons (pCon (.str 88)) (pCons (pCon (.str 45)) pNil))) eBad)) (eCon .non) (ePu (pTup (pCons (pLoc 103) (pCons (pCon (.boo false)) pNil))) eBad))) sNil)) sNil) (sCons (sAsn 91 (eIfe (ePu (p2 (p2 (pLoc 21) (pCon (.int 0)) (subP tFst)) (pCon (.str 22)) (cmpP ceq)) eBad) (eMthI 28 f_World_base_of (eLoc 26) (lCons (eLoc 21) lNil)) (eLoc 21))) (sCons (sIff (ePu (pAnd (p2 (p2 (pLoc 21) (pCon (.int 0)) (subP tFst)) (pCon (.str 22)) (cmpP ceq)) (p2 (p2 (pLoc 91) (pCon (.int 0)) (subP tFst)) (pCon (.str 88)) (cmpP ceq))) eBad) (sCons (sRet (ePu (pTup (pCons (p2 (pLoc 91) (pCon (.int 1)) (subP tFst)) (pCons (pCon (.boo true)) pNil))) eBad)) sNil) sNil) (sCons (sRet (ePu (pTup (pCons (pLoc 21) (pCons (pCon (.boo false)) pNil))) eBad)) sNil))))
noncomputable def f_start_type : FC := fDef [26, 21] none b_start_type
noncomputable def b_find_member : SC := (sCons (sAsn 106 (eCallF f_start_type (lCons (eLoc 26) (lCons (eLoc 21) lNil)))) (sCons (sIff (ePu (p2 (pLoc 106) (pCon .non) (cmpP cis)) eBad) (sCons (sRet (eCon .non)) sNil) sNil) (sCons (sAsn 104 (eCallC 105 f_Levels_init (lCons (eLoc 26) (lCons (ePu (p2 (pLoc 106) (pCon (.int 0)) (subP tFst)) eBad) lNil)))) (sCons (sWhl 8 (eCmp (cno ceq) qNe (ePu (pAtt (pLoc 104) 101) eBad) (eLst lNil)) (sCons (sAsn 98 (eLst lNil)) (sCons (sFor (bOne 89) iSeq (ePu (pAtt (pLoc 104) 101) eBad) (sCons (sExp (eMthL mExt (eLoc 98) (lCons (eCallF f_members_at (lCons (eLoc 26) (lCons (eLoc 89) (lCons (eLoc 90) lNil)))) lNil))) sNil)) (sCons (sIff (eCmp cgt (qOf cgt) (eCallB bLen (eLoc 98)) (eCon (.int 1))) (sCons sBad sNil) sNil) (sCons (sIff (eCmp (cno ceq) qNe (eLoc 98) (eLst lNil)) (sCons (sRet (ePu (pIfe (pAnd (p2 (pLoc 106) (pCon (.int 1)) (subP tFst)) (p2 (p2 (p2 (pLoc 98) (pCon (.int 0)) (subP tFst)) (pCon (.int 0)) (subP tFst)) (pCon (.str 95)) (cmpP (cno ceq)))) (pCon .non) (p2 (pLoc 98) (pCon (.int 0)) (subP tFst))) eBad)) sNil) sNil) (sCons (sExp (eMthI 105 f_Levels_go_on (eLoc 104) lNil)) sNil)))))) (sCons (sRet (eCon .non)) sNil)))))
noncomputable def f_find_member : FC := fDef [26, 21, 90] none b_find_member
noncomputable def b_is_exported : SC := (sCons (sRet (ePu (p1 (p1 (pLoc 90) (viaT tFst)) (upp1 tUpp)) eBad)) sNil)
noncomputable def f_is_exported : FC := fDef [90] none b_is_exported
noncomputable def b_is_hidden : SC := (sCons (sAsn 103 (ePu (pIfe (p2 (p2 (pLoc 21) (pCon (.int 0)) (subP tFst)) (pCon (.str 88)) (cmpP ceq)) (p2 (pLoc 21) (pCon (.int 1)) (subP tFst)) (pLoc 21)) eBad)) (sCons (sIff (eOr (eCallF f_is_exported (lCons (eLoc 90) lNil)) (ePu (p2 (p2 (pLoc 103) (pCon (.int 0)) (subP tFst)) (pCon (.str 22)) (cmpP (cno ceq))) eBad)) (sCons (sRet (eCon (.boo false))) sNil) sNil) (sCons (sRet (ePu (p2 (pAtt (p2 (pAtt (pAtt (pLoc 107) 26) 22) (p2 (pLoc 103) (pCon (.int 1)) (subP tFst)) (subP tFst)) 30) (pTup (pCons (pCon (.str 46)) (pCons (pAtt (pLoc 107) 30) pNil))) (cmpP (cno cin))) eBad)) sNil)))
noncomputable def f_is_hidden : FC := fDef [107, 21, 90] none b_is_hidden
noncomputable def b_owner_of : SC := (sCons (sAsn 101 (ePu (pIfe (p2 (p2 (pLoc 21) (pCon (.int 0)) (subP tFst)) (pCon (.str 88)) (cmpP ceq)) (p2 (pLoc 21) (pCon (.int 1)) (subP tFst)) (pLoc 21)) eBad)) (sCons (sIff (eCmp ceq qEq (e2 (eCallF f_underlying_of (lCons (eLoc 26) (lCons (eLoc 101) lNil))) (eCon (.int 0)) (subP tFst)) (eCon (.str 88))) (sCons (sAsn 101 (e2 (eCallF f_underlying_of (lCons (eLoc 26) (lCons (eLoc 101) lNil))) (eCon (.int 1)) (subP tFst))) sNil) sNil) (sCons (sFor (bTwo 94 96) iSeq (ePu (pIfe (p2 (p2 (pLoc 108) (pCon (.int 0)) (subP tFst)) (pCon (.str 95)) (cmpP ceq)) (p1 (p2 (pLoc 108) (pCon (.int 1)) (subP tFst)) slB1) (p2 (pLoc 108) (pCon (.int 1)) (subP tFst))) eBad) (sCons (sAsn 24 (e2 (e2 (eCallF f_underlying_of (lCons (eLoc 26) (lCons (eLoc 101) lNil))) (eCon (.int 1)) (subP tFst)) (eLoc 94) (subP tFst))) (sCons (sAsn 101 (ePu (pIfe (pLoc 96) (p2 (p2 (pLoc 24) (pCon (.int 1)) (subP tFst)) (pCon (.int 1)) (subP tFst)) (p2 (pLoc 24) (pCon (.int 1)) (subP tFst))) eBad)) sNil))) (sCons (sRet (eLoc 101)) sNil))))
noncomputable def f_owner_of : FC := fDef [26, 21, 108] none b_owner_of
noncomputable def b_type_text (self : FC) : SC := (sCons (sAsn 109 (ePu (p2 (pLoc 27) (pCon (.int 0)) (subP tFst)) eBad)) (sCons (sIff (ePu (pOr (p2 (pLoc 109) (pCon (.str 22)) (cmpP ceq)) (p2 (pLoc 109) (pCon (.str 60)) (cmpP ceq))) eBad) (sCons (sRet (ePu (p2 (pLoc 27) (pCon (.int 1)) (subP tFst)) eBad)) sNil) sNil) (sCons (sIff (ePu (p2 (pLoc 109) (pCon (.str 122)) (cmpP ceq)) eBad) (sCons (sRet (ePu (p2 (pCon (.str 123)) (p2 (pLoc 27) (pCon (.int 1)) (subP tFst)) (addP tCat)) eBad)) sNil) sNil) (sCons (sIff (ePu (p2 (pLoc 109) (pCon (.str 88)) (cmpP ceq)) eBad) (sCons (sRet (e2 (eCon (.str 121)) (eCallF self (lCons (ePu (p2 (pLoc 27) (pCon (.int 1)) (subP tFst)) eBad) lNil)) (addP tCat))) sNil) sNil) (sCons (sIff (ePu (p2 (pLoc 109) (pCon (.str 119)) (cmpP ceq)) eBad) (sCons (sRet (e2 (e2 (e2 (eCon (.str 120)) eBad (addP tCat)) (eCon (.str 116)) (addP tCat)) (eCallF self (lCons (ePu (p2 (pLoc 27) (pCon (.int 2)) (subP tFst)) eBad) lNil)) (addP tCat))) sNil) sNil) (sCons (sIff (ePu (p2 (pLoc 109) (pCon (.str 117)) (cmpP ceq)) eBad) (sCons (sRet (e2 (eCon (.str 118)) (eCallF self (lCons (ePu (p2 (pLoc 27) (pCon (.int 1)) (subP tFst)) eBad) lNil)) (addP tCat))) sNil) sNil) (sCons (sIff (ePu (p2 (pLoc 109) (pCon (.str 114)) (cmpP ceq)) eBad) (sCons (sRet (e2 (e2 (e2 (eCon (.str 115)) (eCallF self (lCons (ePu (p2 (pLoc 27) (pCon (.int 1)) (subP tFst)) eBad) lNil)) (addP tCat)) (eCon (.str 116)) (addP tCat)) (eCallF self (lCons (ePu (p2 (pLoc 27) (pCon (.int 2)) (subP tFst)) eBad) lNil)) (addP tCat))) sNil) sNil) (sCons (sIff (ePu (p2 (pLoc 109) (pCon (.str 113)) (cmpP ceq)) eBad) (sCons (sRet eBad) sNil) sNil) (sCons (sIff (ePu (p2 (pLoc 109) (pCon (.str 49)) (cmpP ceq)) eBad) (sCons (sRet (e2 (eCon (.str 49)) eBad (addP tCat))) sNil) sNil) (sCons (sIff (ePu (p2 (pLoc 109) (pCon (.str 62)) (cmpP ceq)) eBad) (sCons (sRet eBad) sNil) sNil) (sCons (sIff (ePu (p2 (pLoc 109) (pCon (.str 45)) (cmpP ceq)) eBad) (sCons (sRet eBad) sNil) sNil) (sCons (sRet (eIfe (ePu (p2 (pLoc 109) (pCon (.str 110)) (cmpP ceq)) eBad) (e2 (e2 (eCon (.str 111)) eBad (addP tCat)) (eCon (.str 112)) (addP tCat)) (eLoc 109))) sNil))))))))))))
noncomputable def f_type_text_1 : FC := fDef [27] none (b_type_text fBad)
noncomputable def f_type_text_2 : FC := fDef [27] none (b_type_text f_type_text_1)
noncomputable def f_type_text : FC := fDef [27] none (b_type_text f_type_text_2)
noncomputable def b_member_of : SC := (sCons (sTryN (sCons (sAsn 98 (eCallF f_find_member (lCons (ePu (pAtt (pLoc 107) 26) eBad) (lCons (eLoc 21) (lCons (eLoc 90) lNil))))) sNil)) (sCons (sIff (eOr (ePu (p2 (pLoc 98) (pCon .non) (cmpP cis)) eBad) (eCallF f_is_hidden (lCons (eLoc 107) (lCons (eCallF f_owner_of (lCons (ePu (pAtt (pLoc 107) 26) eBad) (lCons (eLoc 21) (lCons (eLoc 98) lNil)))) (lCons (eLoc 90) lNil))))) (sCons (sRai (e2 (e2 (eCallF f_type_text (lCons (eLoc 21) lNil)) (eCon (.str 125)) (addP tCat)) (eLoc 90) (addP tCat)) (eLoc 124)) sNil) sNil) (sCons (sRet (eLoc 98)) sNil)))
noncomputable def f_member_of : FC := fDef [107, 21, 90, 124] none b_member_of
noncomputable def b_led_through : SC := (sCons (sAsn 103 (eCallF f_underlying_of (lCons (ePu (pAtt (pLoc 107) 26) eBad) (lCons (ePu (p2 (pLoc 126) (pCon (.int 1)) (subP tFst)) eBad) lNil)))) (sCons (sRet (ePu (pIfe (p2 (p2 (pLoc 103) (pCon (.int 0)) (subP tFst)) (pCon (.str 88)) (cmpP ceq)) (pTup (pCons (pCon (.str 127)) (pCons (p2 (pLoc 103) (pCon (.int 1)) (subP tFst)) (pCons (pLoc 124) (pCons (pLoc 126) pNil))))) (pLoc 126)) eBad)) sNil))
noncomputable def f_led_through : FC := fDef [107, 126, 124] none b_led_through
noncomputable def b_field_at : SC := (sCons (sAsn 126 (eCallF f_led_through (lCons (eLoc 107) (lCons (eLoc 126) (lCons (eLoc 124) lNil))))) (sCons (sRet (eTup (lCons (eCon (.str 95)) (lCons (e2 (e2 (e2 (eCallF f_underlying_of (lCons (ePu (pAtt (pLoc 107) 26) eBad) (lCons (ePu (p2 (pLoc 126) (pCon (.int 1)) (subP tFst)) eBad) lNil))) (eCon (.int 1)) (subP tFst)) (eLoc 94) (subP tFst)) (eCon (.int 1)) (subP tFst)) (lCons (eLoc 124) (lCons (eLoc 126) (lCons (eLoc 94) lNil))))))) sNil))
noncomputable def f_field_at : FC := fDef [107, 126, 94, 124] none b_field_at
noncomputable def b_gone_along : SC := (sCons (sFor (bTwo 94 96) iSeq (eLoc 87) (sCons (sAsn 126 (eCallF f_field_at (lCons (eLoc 107) (lCons (eLoc 126) (lCons (eLoc 94) (lCons (eLoc 124) lNil)))))) sNil)) (sCons (sRet (eLoc 126)) sNil))
noncomputable def f_gone_along : FC := fDef [107, 126, 87, 124] none b_gone_along
noncomputable def b_is_place : SC := (sCons (sWhl 8 (eCon (.boo true)) (sCons (sIff (ePu (p2 (p2 (pLoc 126) (pCon (.int 0)) (subP tFst)) (pCon (.tup [.str 129, .str 130, .str 127])) (cmpP cin)) eBad) (sCons (sRet (eCon (.boo true))) sNil) sNil) (sCons (sIff (ePu (p2 (p2 (pLoc 126) (pCon (.int 0)) (subP tFst)) (pCon (.str 95)) (cmpP ceq)) eBad) (sCons (sAsn 126 (ePu (p2 (pLoc 126) (pCon (.int 3)) (subP tFst)) eBad)) sNil) (sCons (sIff (ePu (p2 (p2 (pLoc 126) (pCon (.int 0)) (subP tFst)) (pCon (.str 128)) (cmpP ceq)) eBad) (sCons (sAsn 103 (eCallF f_underlying_of (lCons (ePu (pAtt (pLoc 107) 26) eBad) (lCons (ePu (p2 (p2 (pLoc 126) (pCon (.int 3)) (subP tFst)) (pCon (.int 1)) (subP tFst)) eBad) lNil)))) (sCons (sIff (ePu (p2 (p2 (pLoc 103) (pCon (.int 0)) (subP tFst)) (pCon (.str 119)) (cmpP (cno ceq))) eBad) (sCons (sRet (ePu (p2 (p2 (pLoc 103) (pCon (.int 0)) (subP tFst)) (pCon (.str 117)) (cmpP ceq)) eBad)) sNil) sNil) (sCons (sAsn 126 (ePu (p2 (pLoc 126) (pCon (.int 3)) (subP tFst)) eBad)) sNil))) (sCons (sRet (eCon (.boo false))) sNil)) sNil)) sNil))) sNil)
noncomputable def f_is_place : FC := fDef [107, 126] none b_is_place
noncomputable def b_receiver_of : SC := (sCons (sAsn 21 (ePu (p2 (pLoc 126) (pCon (.int 1)) (subP tFst)) eBad)) (sCons (sIff (ePu (p1 (pLoc 96) not1) eBad) (sCons (sRet (eIfe (ePu (p2 (p2 (pLoc 21) (pCon (.int 0)) (subP tFst)) (pCon (.str 88)) (cmpP ceq)) eBad) (eCallF f_led_through (lCons (eLoc 107) (lCons (eLoc 126) (lCons (eLoc 124) lNil)))) (eLoc 126))) sNil) sNil) (sCons (sIff (ePu (p2 (p2 (pLoc 21) (pCon (.int 0)) (subP tFst)) (pCon (.str 88)) (cmpP ceq)) eBad) (sCons (sRet (eLoc 126)) sNil) sNil) (sCons (sIff (eNt (eCallF f_is_place (lCons (eLoc 107) (lCons (eLoc 126) lNil)))) (sCons (sRai (eCon (.str 132)) (eLoc 124)) sNil) sNil) (sCons (sRet (ePu (pTup (pCons (pCon (.str 131)) (pCons (pTup (pCons (pCon (.str 88)) (pCons (pLoc 21) pNil))) (pCons (pLoc 124) (pCons (pLoc 126) pNil))))) eBad)) sNil)))))
noncomputable def f_receiver_of : FC := fDef [107, 126, 96, 124] none b_receiver_of
noncomputable def b_selected : SC := (sCons (sAsn 108 (eCallF f_member_of (lCons (eLoc 107) (lCons (ePu (p2 (pLoc 126) (pCon (.int 1)) (subP tFst)) eBad) (lCons (eLoc 90) (lCons (eLoc 124) lNil)))))) (sCons (sAsn 126 (eCallF f_gone_along (lCons (eLoc 107) (lCons (eLoc 126) (lCons (ePu (p2 (pLoc 108) (pCon (.int 1)) (subP tFst)) eBad) (lCons (eLoc 124) lNil)))))) (sCons (sIff (ePu (p2 (p2 (pLoc 108) (pCon (.int 0)) (subP tFst)) (pCon (.str 95)) (cmpP ceq)) eBad) (sCons (sRet (eLoc 126)) sNil) sNil) (sCons (sIff (ePu (p2 (p2 (pLoc 108) (pCon (.int 0)) (subP tFst)) (pCon (.str 93)) (cmpP ceq)) eBad) (sCons (sRet (ePu (pTup (pCons (pCon (.str 97)) (pCons (p2 (pLoc 108) (pCon (.int 3)) (subP tFst)) (pCons (pLoc 124) (pCons (pLoc 126) (pCons (pTup (pCons (pCon (.str 93)) (pCons (pLoc 90) pNil))) pNil)))))) eBad)) sNil) sNil) (sCons (sRet (eTup (lCons (eCon (.str 97)) (lCons (ePu (p2 (pLoc 108) (pCon (.int 4)) (subP tFst)) eBad) (lCons (eLoc 124) (lCons (eCallF f_receiver_of (lCons (eLoc 107) (lCons (eLoc 126) (lCons (ePu (p2 (pLoc 108) (pCon (.int 3)) (subP tFst)) eBad) (lCons (eLoc 124) lNil))))) (lCons (ePu (pTup (pCons (pCon (.str 133)) (pCons (p2 (pLoc 108) (pCon (.int 2)) (subP tFst)) pNil))) eBad) lNil))))))) sNil)))))
noncomputable def f_selected : FC := fDef [107, 126, 90, 124] none b_selected
noncomputable def b_law_one : SC := (sCons (sRet (e2 (eLoc 135) (eCallF fTake (lCons (eLoc 134) (lCons (eCallB bLen (eLoc 135)) lNil))) (subP tFst))) sNil)
noncomputable def f_law_one : FC := fDef [134, 135] none b_law_one
noncomputable def b_law_scene : SC := (sCons (sAsT [103, 139] (ePu (pTup (pCons (pTup (pCons (pCon (.str 22)) (pCons (pCon (.str 10)) pNil))) (pCons (pTup (pCons (pCon (.str 22)) (pCons (pCon (.str 12)) pNil))) pNil))) eBad)) (sCons (sAsn 136 (eDic (dCons 10 (eLst (lCons (ePu (pTup (pCons (pCon (.str 0)) (pCons (pTup (pCons (pCon (.str 60)) (pCons (pCon (.str 60)) pNil))) (pCons (pCon (.boo false)) pNil)))) eBad) (lCons (ePu (pTup (pCons (pCon (.str 1)) (pCons (pTup (pCons (pCon (.str 40)) pNil)) (pCons (pCon (.boo false)) pNil)))) eBad) lNil))) dNil))) (sCons (sAsS (eLoc 136) (eCon (.str 12)) (eLst (lCons (ePu (pTup (pCons (pCon (.str 4)) (pCons (pTup (pCons (pCon (.str 140)) pNil)) (pCons (pCon (.boo false)) pNil)))) eBad) (lCons (eTup (lCons (eCon (.str 6)) (lCons (eCallF f_law_one (lCons (eLoc 134) (lCons (eLst (lCons (eLoc 103) (lCons (ePu (pTup (pCons (pCon (.str 88)) (pCons (pLoc 103) pNil))) eBad) lNil))) lNil))) (lCons (eCon (.boo true)) lNil)))) lNil)))) (sCons (sAsS (eLoc 136) (eCon (.str 14)) (eLst (lCons (ePu (pTup (pCons (pCon (.str 5)) (pCons (pTup (pCons (pCon (.str 40)) pNil)) (pCons (pCon (.boo false)) pNil)))) eBad) (lCons (eTup (lCons (eCon (.str 7)) (lCons (eCallF f_law_one (lCons (eLoc 134) (lCons (eLst (lCons (eLoc 139) (lCons (ePu (pTup (pCons (pCon (.str 88)) (pCons (pLoc 139) pNil))) eBad) lNil))) lNil))) (lCons (eCon (.boo true)) lNil)))) lNil)))) (sCons (sAsn 137 (eCallF f_law_one (lCons (eLoc 134) (lCons (eLst (lCons (eCon .non) (lCons (eCon .non) (lCons (eCon (.str 2)) (lCons (eCon (.str 1)) lNil))))) lNil)))) (sCons (sIff (ePu (p2 (pLoc 137) (pCon .non) (cmpP (cno cis))) eBad) (sCons (sExp (eMthL mIns (ePu (p2 (pLoc 136) (pCon (.str 12)) (subP tFst)) eBad) (lCons (eCallF fTake (lCons (eLoc 134) (lCons (eCon (.int 3)) lNil))) (lCons (ePu (pTup (pCons (pLoc 137) (pCons (pTup (pCons (pCon (.str 60)) (pCons (pCon (.str 138)) pNil))) (pCons (pCon (.boo false)) pNil)))) eBad) lNil)))) sNil) sNil) (sCons (sIff (eCmp ceq qEq (eCallF fTake (lCons (eLoc 134) (lCons (eCon (.int 2)) lNil))) (eCon (.int 0))) (sCons (sAsS (eLoc 136) (eCon (.str 14)) (eSlC (ePu (p2 (pLoc 136) (pCon (.str 14)) (subP tFst)) eBad))) sNil) sNil) (sCons (sRet (eDic (dCons 136 (eLoc 136) (dCons 31 (eDic (dCons 2 (eCmp ceq qEq (eCallF fTake (lCons (eLoc 134) (lCons (eCon (.int 2)) lNil))) (eCon (.int 0))) (dCons 3 (eCmp ceq qEq (eCallF fTake (lCons (eLoc 134) (lCons (eCon (.int 2)) lNil))) (eCon (.int 0))) dNil))) dNil)))) sNil))))))))
noncomputable def f_law_scene : FC := fDef [134] none b_law_scene
noncomputable def b_law_checker : SC := (sCons (sAsn 26 (eCallC 28 f_World_init lNil)) (sCons (sAsn 31 (eCallB bDic (eLcp [141] (ePu (pTup (pCons (pLoc 90) (pCons (pTup (pCons (p2 (p2 (pLoc 141) (pCon (.str 31)) (subP tFst)) (pLoc 90) (subP tFst)) (pCons (pCon (.tup [.str 49, .tup [], .tup [(.tup [.str 140])], .boo false])) (pCons (p2 (pCon (.str 17)) (pLoc 90) (addP tCat)) pNil)))) pNil))) eBad) (bOne 90) iKeys (ePu (p2 (pLoc 141) (pCon (.str 31)) (subP tFst)) eBad) (eCon (.boo true))))) (sCons (sFor (bOne 29) iKeys (ePu (p2 (pLoc 141) (pCon (.str 136)) (subP tFst)) eBad) (sCons (sAsn 21 (eIfe (ePu (p2 (pLoc 29) (pCon (.str 10)) (cmpP ceq)) eBad) (eLoc 31) (eDic dNil))) (sCons (sAsS (ePu (pAtt (pLoc 26) 22) eBad) (eLoc 29) (eCallC 33 f_NamedRow_init (lCons (eLoc 29) (lCons (ePu (p2 (pLoc 29) (pCon (.int 0)) (subP tFst)) eBad) (lCons (eTup (lCons (eCon (.str 62)) (lCons (eCallB bTup (ePu (p2 (p2 (pLoc 141) (pCon (.str 136)) (subP tFst)) (pLoc 29) (subP tFst)) eBad)) lNil))) (lCons (eLoc 21) lNil)))))) sNil))) (sCons (sRet (eCallC 142 f_Checker_init (lCons (eLoc 26) (lCons (eCon (.str 13)) (lCons (eCon .non) (lCons (eCon (.str 143)) (lCons (eDic dNil) (lCons (eCon .non) lNil)))))))) sNil))))
noncomputable def f_law_checker : FC := fDef [141] none b_law_checker
noncomputable def b_law_field : SC := (sCons (sIff (ePu (p2 (p2 (p2 (pLoc 126) (pCon (.int 1)) (subP tFst)) (pCon (.int 0)) (subP tFst)) (pCon (.str 88)) (cmpP ceq)) eBad) (sCons (sAsn 126 (ePu (pTup (pCons (pCon (.str 127)) (pCons (p2 (p2 (pLoc 126) (pCon (.int 1)) (subP tFst)) (pCon (.int 1)) (subP tFst)) (pCons (pCon (.int 9)) (pCons (pLoc 126) pNil))))) eBad)) sNil) sNil) (sCons (sRet (ePu (pTup (pCons (pCon (.str 95)) (pCons (p2 (p2 (p2 (p2 (pLoc 141) (pCon (.str 136)) (subP tFst)) (p2 (p2 (pLoc 126) (pCon (.int 1)) (subP tFst)) (pCon (.int 1)) (subP tFst)) (subP tFst)) (pLoc 94) (subP tFst)) (pCon (.int 1)) (subP tFst)) (pCons (pCon (.int 9)) (pCons (pLoc 126) (pCons (pLoc 94) pNil)))))) eBad)) sNil))
noncomputable def f_law_field : FC := fDef [141, 126, 94] none b_law_field
noncomputable def b_law_receiver : SC := (sCons (sIff (ePu (p1 (pLoc 96) not1) eBad) (sCons (sRet (ePu (pIfe (p2 (p2 (p2 (pLoc 126) (pCon (.int 1)) (subP tFst)) (pCon (.int 0)) (subP tFst)) (pCon (.str 88)) (cmpP ceq)) (pTup (pCons (pCon (.str 127)) (pCons (p2 (p2 (pLoc 126) (pCon (.int 1)) (subP tFst)) (pCon (.int 1)) (subP tFst)) (pCons (pCon (.int 9)) (pCons (pLoc 126) pNil))))) (pLoc 126)) eBad)) sNil) sNil) (sCons (sIff (ePu (p2 (p2 (p2 (pLoc 126) (pCon (.int 1)) (subP tFst)) (pCon (.int 0)) (subP tFst)) (pCon (.str 88)) (cmpP ceq)) eBad) (sCons (sRet (eLoc 126)) sNil) sNil) (sCons (sAsn 144 (eLoc 126)) (sCons (sWhl 8 (ePu (p2 (p2 (pLoc 144) (pCon (.int 0)) (subP tFst)) (pCon (.str 95)) (cmpP ceq)) eBad) (sCons (sAsn 144 (ePu (p2 (pLoc 144) (pCon (.int 3)) (subP tFst)) eBad)) sNil)) (sCons (sRet (eIfe (eCmp cin (qOf cin) (ePu (p2 (pLoc 144) (pCon (.int 0)) (subP tFst)) eBad) (eLst (lCons (eCon (.str 129)) (lCons (eCon (.str 127)) lNil)))) (ePu (pTup (pCons (pCon (.str 131)) (pCons (pTup (pCons (pCon (.str 88)) (pCons (p2 (pLoc 126) (pCon (.int 1)) (subP tFst)) pNil))) (pCons (pCon (.int 9)) (pCons (pLoc 126) pNil))))) eBad) (eCon .non))) sNil)))))
noncomputable def f_law_receiver : FC := fDef [126, 96] none b_law_receiver
noncomputable def b_law_due : SC := (sCons (sFor (bOne 146) iRng (eCon (.int 3)) (sCons (sAsn 29 (ePu (pIfe (p2 (p2 (p2 (pLoc 126) (pCon (.int 1)) (subP tFst)) (pCon (.int 0)) (subP tFst)) (pCon (.str 88)) (cmpP ceq)) (p2 (p2 (p2 (pLoc 126) (pCon (.int 1)) (subP tFst)) (pCon (.int 1)) (subP tFst)) (pCon (.int 1)) (subP tFst)) (p2 (p2 (pLoc 126) (pCon (.int 1)) (subP tFst)) (pCon (.int 1)) (subP tFst))) eBad)) (sCons (sAsn 148 (ePu (pAnd (p2 (pLoc 29) (pCon (.str 10)) (cmpP ceq)) (p2 (pLoc 90) (p1 (pLoc 90) (viaT tLow)) (cmpP ceq))) eBad)) (sCons (sAsn 136 (ePu (p2 (p2 (pLoc 141) (pCon (.str 136)) (subP tFst)) (pLoc 29) (subP tFst)) eBad)) (sCons (sIff (ePu (pAnd (p2 (pLoc 29) (pCon (.str 10)) (cmpP ceq)) (pAnd (p2 (pLoc 90) (p2 (pLoc 141) (pCon (.str 31)) (subP tFst)) (cmpP cin)) (p1 (pLoc 148) not1))) eBad) (sCons (sAsn 149 (eCallF f_law_receiver (lCons (eLoc 126) (lCons (ePu (p2 (p2 (pLoc 141) (pCon (.str 31)) (subP tFst)) (pLoc 90) (subP tFst)) eBad) lNil)))) (sCons (sRet (ePu (pIfe (p2 (pLoc 149) (pCon .non) (cmpP cis)) (pTup (pCons (pCon (.str 145)) (pCons (pCon (.int 9)) pNil))) (pTup (pCons (pCon (.str 97)) (pCons (pCon (.tup [.str 49, .tup [], .tup [(.tup [.str 140])], .boo false])) (pCons (pCon (.int 9)) (pCons (pLoc 149) (pCons (pTup (pCons (pCon (.str 133)) (pCons (p2 (pCon (.str 17)) (pLoc 90) (addP tCat)) pNil))) pNil))))))) eBad)) sNil)) sNil) (sCons (sAsn 147 (eLcp [136, 90] (eLoc 94) (bOne 94) iRng (eCallB bLen (eLoc 136)) (ePu (p2 (p2 (p2 (pLoc 136) (pLoc 94) (subP tFst)) (pCon (.int 0)) (subP tFst)) (pLoc 90) (cmpP ceq)) eBad))) (sCons (sIff (eOr (eCmp (cno ceq) qNe (eLoc 147) (eLst lNil)) (ePu (p2 (pLoc 29) (pCon (.str 10)) (cmpP ceq)) eBad)) (sCons (sRet (eIfe (eOr (eLoc 148) (eCmp ceq qEq (eLoc 147) (eLst lNil))) (ePu (pTup (pCons (pCon (.str 145)) (pCons (pCon (.int 9)) pNil))) eBad) (eCallF f_law_field (lCons (eLoc 141) (lCons (eLoc 126) (lCons (ePu (p2 (pLoc 147) (pCon (.int 0)) (subP tFst)) eBad) lNil)))))) sNil) sNil) (sCons (sAsn 126 (eCallF f_law_field (lCons (eLoc 141) (lCons (eLoc 126) (lCons (e2 (eLcp [136] (eLoc 94) (bOne 94) iRng (eCallB bLen (eLoc 136)) (ePu (p2 (p2 (pLoc 136) (pLoc 94) (subP tFst)) (pCon (.int 2)) (subP tFst)) eBad)) (eCon (.int 0)) (subP tFst)) lNil))))) sNil)))))))) (sCons (sRet (ePu (pTup (pCons (pCon (.str 145)) (pCons (pCon (.int 9)) pNil))) eBad)) sNil))
noncomputable def f_law_due : FC := fDef [141, 126, 90] none b_law_due
noncomputable def b_law_told : SC := (sCons (sTryT 145 (sCons (sRet (eCallF f_selected (lCons (eLoc 107) (lCons (eLoc 126) (lCons (eLoc 90) (lCons (eCon (.int 9)) lNil)))))) sNil)) sNil)
noncomputable def f_law_told : FC := fDef [107, 126, 90] none b_law_told
noncomputable def b_ask : SC := (sCons (sIff (eCmp (cno ceq) qNe (eCallF f_law_told (lCons (eLoc 107) (lCons (eLoc 126) (lCons (eLoc 90) lNil)))) (eCallF f_law_due (lCons (eLoc 141) (lCons (eLoc 126) (lCons (eLoc 90) lNil))))) (sCons (sRet (eCon (.boo false))) sNil) sNil) sNil)
noncomputable def e_names : EC := (eLst (lCons (eCon (.str 0)) (lCons (eCon (.str 1)) (lCons (eCon (.str 2)) (lCons (eCon (.str 3)) (lCons (eCon (.str 4)) (lCons (eCon (.str 5)) (lCons (eCon (.str 6)) (lCons (eCon (.str 7)) (lCons (eCon (.str 8)) lNil))))))))))
noncomputable def b_turn : SC := (sCons (sAsn 134 (eCallF fPool (lCons (eLoc 152) (lCons (eLoc 94) lNil)))) (sCons (sAsn 141 (eCallF f_law_scene (lCons (eLoc 134) lNil))) (sCons (sFrz 134) (sCons (sAsT [107, 92] (eTup (lCons (eCallF f_law_checker (lCons (eLoc 141) lNil)) (lCons (eTup (lCons (eCon (.str 22)) (lCons (eCallF f_law_one (lCons (eLoc 134) (lCons (eLst (lCons (eCon (.str 14)) (lCons (eCon (.str 14)) (lCons (eCon (.str 12)) (lCons (eCon (.str 10)) lNil))))) lNil))) lNil))) lNil)))) (sCons (sAsn 150 (ePu (pTup (pCons (pCon (.str 150)) (pCons (pLoc 92) (pCons (pCon (.int 4)) (pCons (pTup (pCons (pCon (.str 133)) (pCons (pCon (.str 151)) pNil))) (pCons (pTup pNil) pNil)))))) eBad)) (sCons (sAsn 126 (eCallF f_law_one (lCons (eLoc 134) (lCons (eLst (lCons (ePu (pTup (pCons (pCon (.str 129)) (pCons (pLoc 92) (pCons (pCon (.int 4)) (pCons (pCon (.int 2)) pNil))))) eBad) (lCons (ePu (pTup (pCons (pCon (.str 129)) (pCons (pTup (pCons (pCon (.str 88)) (pCons (pLoc 92) pNil))) (pCons (pCon (.int 4)) (pCons (pCon (.int 3)) pNil))))) eBad) (lCons (eLoc 150) lNil)))) lNil)))) (sCons (sEach 90 e_names b_ask) sNil)))))))
noncomputable def b_turnOf (c : Nat) : SC := (sCons (sAsn 134 (eCallF fPool (lCons (eLoc 152) (lCons (eLoc 94) lNil)))) (sCons (sAsn 141 (eCallF f_law_scene (lCons (eLoc 134) lNil))) (sCons (sFrz 134) (sCons (sAsT [107, 92] (eTup (lCons (eCallF f_law_checker (lCons (eLoc 141) lNil)) (lCons (eTup (lCons (eCon (.str 22)) (lCons (eCallF f_law_one (lCons (eLoc 134) (lCons (eLst (lCons (eCon (.str 14)) (lCons (eCon (.str 14)) (lCons (eCon (.str 12)) (lCons (eCon (.str 10)) lNil))))) lNil))) lNil))) lNil)))) (sCons (sAsn 150 (ePu (pTup (pCons (pCon (.str 150)) (pCons (pLoc 92) (pCons (pCon (.int 4)) (pCons (pTup (pCons (pCon (.str 133)) (pCons (pCon (.str 151)) pNil))) (pCons (pTup pNil) pNil)))))) eBad)) (sCons (sAsn 126 (eCallF f_law_one (lCons (eLoc 134) (lCons (eLst (lCons (ePu (pTup (pCons (pCon (.str 129)) (pCons (pLoc 92) (pCons (pCon (.int 4)) (pCons (pCon (.int 2)) pNil))))) eBad) (lCons (ePu (pTup (pCons (pCon (.str 129)) (pCons (pTup (pCons (pCon (.str 88)) (pCons (pLoc 92) pNil))) (pCons (pCon (.int 4)) (pCons (pCon (.int 3)) pNil))))) eBad) (lCons (eLoc 150) lNil)))) lNil)))) (sCons (sEach 90 (eLst (lCons (eCon (.str c)) lNil)) b_ask) sNil)))))))
noncomputable def b_rest : SC := (sCons (sAsT [107, 93] (eTup (lCons (eCallF f_law_checker (lCons (eDic (dCons 136 (eDic dNil) (dCons 31 (eDic dNil) dNil))) lNil)) (lCons (ePu (pTup (pCons (pCon (.str 22)) (pCons (pCon (.str 153)) pNil))) eBad) lNil)))) (sCons (sAsS (ePu (pAtt (pAtt (pLoc 107) 26) 22) eBad) (eCon (.str 153)) (eCallC 33 f_NamedRow_init (lCons (eCon (.str 153)) (lCons (eCon (.str 13)) (lCons (ePu (pTup (pCons (pCon (.str 45)) (pCons (pTup (pCons (pTup (pCons (pCon (.str 9)) (pCons (pCon (.tup [.str 49, .tup [], .tup [(.tup [.str 140])], .boo false])) pNil))) pNil)) pNil))) eBad) (lCons (eDic dNil) lNil)))))) (sCons (sIff (eCmp (cno ceq) qNe (eCallF f_find_member (lCons (ePu (pAtt (pLoc 107) 26) eBad) (lCons (eLoc 93) (lCons (eCon (.str 9)) lNil)))) (ePu (pTup (pCons (pCon (.str 93)) (pCons (pTup pNil) (pCons (pCon (.str 9)) (pCons (pCon (.tup [.str 49, .tup [], .tup [(.tup [.str 140])], .boo false])) pNil))))) eBad)) (sCons (sRet (eCon (.boo false))) sNil) sNil) (sCons (sAsn 35 (ePu (pTup (pCons (pCon (.str 129)) (pCons (pLoc 93) (pCons (pCon (.int 4)) (pCons (pCon (.int 0)) pNil))))) eBad)) (sCons (sIff (eCmp (cno ceq) qNe (eCallF f_law_told (lCons (eLoc 107) (lCons (eLoc 35) (lCons (eCon (.str 9)) lNil)))) (ePu (pTup (pCons (pCon (.str 97)) (pCons (pCon (.tup [.str 49, .tup [], .tup [(.tup [.str 140])], .boo false])) (pCons (pCon (.int 9)) (pCons (pLoc 35) (pCons (pTup (pCons (pCon (.str 93)) (pCons (pCon (.str 9)) pNil))) pNil)))))) eBad)) (sCons (sRet (eCon (.boo false))) sNil) sNil) (sCons (sRet (eCmp cis (qOf cis) (eCallF f_find_member (lCons (ePu (pAtt (pLoc 107) 26) eBad) (lCons (ePu (pTup (pCons (pCon (.str 88)) (pCons (pLoc 93) pNil))) eBad) (lCons (eCon (.str 9)) lNil)))) (eCon .non))) sNil))))))
noncomputable def clsL : List Nat := [99, 105, 33, 28, 142]
noncomputable def attL : List Nat := [26, 30, 22, 21, 87, 101, 100, 23, 31, 25]
noncomputable def c_Reached : Nat := 99
noncomputable def c_Levels : Nat := 105
noncomputable def c_NamedRow : Nat := 33
noncomputable def c_World : Nat := 28
noncomputable def c_Checker : Nat := 142
noncomputable def cSpot : Nat := 124
noncomputable def cScript : Nat := 152
noncomputable def cK : Nat := 94
noncomputable def st0 : St := { loc := [(cScript, .bot), (cK, .bot)], H := .nil, hn := 0, known := [], nv := 0 }
noncomputable def kRes (a : AV) (_ : St) : Bool := booK a false fun b => b
noncomputable def restB : Bool := b_rest { st0 with loc := [] } (fun _ => false) kRes no
end
end Mine
end
section
namespace Mine
noncomputable def preK (K : List AV → St → Bool) : SC := (sCons (sAsn 141 (eCallF f_law_scene (lCons (eLoc 134) lNil))) (sCons (sFrz 134) (sCons (sAsT [107, 92] (eTup (lCons (eCallF f_law_checker (lCons (eLoc 141) lNil)) (lCons (eTup (lCons (eCon (.str 22)) (lCons (eCallF f_law_one (lCons (eLoc 134) (lCons (eLst (lCons (eCon (.str 14)) (lCons (eCon (.str 14)) (lCons (eCon (.str 12)) (lCons (eCon (.str 10)) lNil))))) lNil))) lNil))) lNil)))) (sCons (sAsn 150 (ePu (pTup (pCons (pCon (.str 150)) (pCons (pLoc 92) (pCons (pCon (.int 4)) (pCons (pTup (pCons (pCon (.str 133)) (pCons (pCon (.str 151)) pNil))) (pCons (pTup pNil) pNil)))))) eBad)) (sCons (sAsn 126 (eCallF f_law_one (lCons (eLoc 134) (lCons (eLst (lCons (ePu (pTup (pCons (pCon (.str 129)) (pCons (pLoc 92) (pCons (pCon (.int 4)) (pCons (pCon (.int 2)) pNil))))) eBad) (lCons (ePu (pTup (pCons (pCon (.str 129)) (pCons (pTup (pCons (pCon (.str 88)) (pCons (pLoc 92) pNil))) (pCons (pCon (.int 4)) (pCons (pCon (.int 3)) pNil))))) eBad) (lCons (eLoc 150) lNil)))) lNil)))) (sCons (sEachK [141, 107, 126] K e_names) sNil))))))
end Mine
end
section
namespace Mine
noncomputable def sT1 : St := { loc := [(141, .dct [(136, .dct [(10, .lis [.tup [.str 0, .tup [.str 60, .str 60], .boo false], .tup [.str 1, .tup [.str 40], .boo false]]), (12, .lis [.tup [.str 4, .tup [.str 140], .boo false], .tup [.str 6, .alt 0 [.tup [.str 22, .str 10], .tup [.str 88, .tup [.str 22, .str 10]]], .boo true]]), (14, .lis [.tup [.str 7, .alt 1 [.tup [.str 22, .str 12], .tup [.str 88, .tup [.str 22, .str 12]]], .boo true], .tup [.str 5, .tup [.str 40], .boo false]])]), (31, .dct [(2, .alt 4 [.boo true, .boo false]), (3, .alt 5 [.boo true, .boo false])])]), (107, .obj 142 [(26, .obj 28 [(63, .non), (22, .dct [(42, .obj 33 [(29, .str 42), (30, .str 46), (23, .tup [.str 45, .tup [.tup [.str 44, .tup [.str 49, .tup [], .tup [.tup [.str 40]], .boo false]]]]), (31, .dct [])]), (39, .obj 33 [(29, .str 39), (30, .str 41), (23, .tup [.str 40]), (31, .dct [(44, .tup [.boo false, .tup [.str 49, .tup [], .tup [.tup [.str 40]], .boo false], .str 59])])]), (37, .obj 33 [(29, .str 37), (30, .str 36), (23, .tup [.str 62, .tup [.tup [.str 61, .tup [.str 60, .str 60], .boo false]]]), (31, .dct [(57, .tup [.boo true, .tup [.str 49, .tup [], .tup [], .boo false], .str 58]), (55, .tup [.boo true, .tup [.str 49, .tup [], .tup [], .boo false], .str 56])])]), (32, .obj 33 [(29, .str 32), (30, .str 36), (23, .tup [.str 62, .tup [.tup [.str 61, .tup [.str 60, .str 60], .boo false]]]), (31, .dct [(52, .tup [.boo true, .tup [.str 49, .tup [.tup [.str 60, .str 60]], .tup [], .boo false], .str 53]), (50, .tup [.boo true, .tup [.str 49, .tup [], .tup [], .boo false], .str 51]), (47, .tup [.boo true, .tup [.str 49, .tup [], .tup [], .boo false], .str 48])])]), (10, .obj 33 [(29, .str 10), (30, .str 11), (23, .tup [.str 62, .tup [.tup [.str 0, .tup [.str 60, .str 60], .boo false], .tup [.str 1, .tup [.str 40], .boo false]]]), (31, .dct [(2, .tup [.alt 4 [.boo true, .boo false], .tup [.str 49, .tup [], .tup [.tup [.str 140]], .boo false], .str 18]), (3, .tup [.alt 5 [.boo true, .boo false], .tup [.str 49, .tup [], .tup [.tup [.str 140]], .boo false], .str 19])])]), (12, .obj 33 [(29, .str 12), (30, .str 13), (23, .tup [.str 62, .tup [.tup [.str 4, .tup [.str 140], .boo false], .tup [.str 6, .alt 0 [.tup [.str 22, .str 10], .tup [.str 88, .tup [.str 22, .str 10]]], .boo true]]]), (31, .dct [])]), (14, .obj 33 [(29, .str 14), (30, .str 13), (23, .tup [.str 62, .tup [.tup [.str 7, .alt 1 [.tup [.str 22, .str 12], .tup [.str 88, .tup [.str 22, .str 12]]], .boo true], .tup [.str 5, .tup [.str 40], .boo false]]]), (31, .dct [])])]), (73, .dct []), (72, .dct []), (71, .dct []), (70, .dct []), (69, .dct []), (68, .dct []), (67, .lis []), (66, .lis []), (25, .non), (65, .lis []), (64, .boo true)]), (30, .str 13), (74, .non), (75, .str 143), (76, .dct []), (77, .non), (78, .non), (86, .lis []), (85, .tup []), (84, .tup []), (83, .tup []), (82, .boo false), (81, .lis []), (80, .dct []), (79, .lis [])]), (126, .alt 7 [.tup [.str 129, .tup [.str 22, .alt 6 [.str 14, .str 14, .str 12, .str 10]], .int (.ofNat 4), .int (.ofNat 2)], .tup [.str 129, .tup [.str 88, .tup [.str 22, .alt 6 [.str 14, .str 14, .str 12, .str 10]]], .int (.ofNat 4), .int (.ofNat 3)], .tup [.str 150, .tup [.str 22, .alt 6 [.str 14, .str 14, .str 12, .str 10]], .int (.ofNat 4), .tup [.str 133, .str 151], .tup []]])], H := .nil, hn := 46, known := [(2, [0, 1]), (3, [0])], nv := 8 }
noncomputable def sT2 : St := { loc := [(141, .dct [(136, .dct [(10, .lis [.tup [.str 0, .tup [.str 60, .str 60], .boo false], .tup [.str 1, .tup [.str 40], .boo false]]), (12, .lis [.tup [.str 4, .tup [.str 140], .boo false], .tup [.str 6, .alt 0 [.tup [.str 22, .str 10], .tup [.str 88, .tup [.str 22, .str 10]]], .boo true]]), (14, .lis [.tup [.str 5, .tup [.str 40], .boo false], .tup [.str 7, .alt 1 [.tup [.str 22, .str 12], .tup [.str 88, .tup [.str 22, .str 12]]], .boo true]])]), (31, .dct [(2, .alt 4 [.boo true, .boo false]), (3, .alt 5 [.boo true, .boo false])])]), (107, .obj 142 [(26, .obj 28 [(63, .non), (22, .dct [(42, .obj 33 [(29, .str 42), (30, .str 46), (23, .tup [.str 45, .tup [.tup [.str 44, .tup [.str 49, .tup [], .tup [.tup [.str 40]], .boo false]]]]), (31, .dct [])]), (39, .obj 33 [(29, .str 39), (30, .str 41), (23, .tup [.str 40]), (31, .dct [(44, .tup [.boo false, .tup [.str 49, .tup [], .tup [.tup [.str 40]], .boo false], .str 59])])]), (37, .obj 33 [(29, .str 37), (30, .str 36), (23, .tup [.str 62, .tup [.tup [.str 61, .tup [.str 60, .str 60], .boo false]]]), (31, .dct [(57, .tup [.boo true, .tup [.str 49, .tup [], .tup [], .boo false], .str 58]), (55, .tup [.boo true, .tup [.str 49, .tup [], .tup [], .boo false], .str 56])])]), (32, .obj 33 [(29, .str 32), (30, .str 36), (23, .tup [.str 62, .tup [.tup [.str 61, .tup [.str 60, .str 60], .boo false]]]), (31, .dct [(52, .tup [.boo true, .tup [.str 49, .tup [.tup [.str 60, .str 60]], .tup [], .boo false], .str 53]), (50, .tup [.boo true, .tup [.str 49, .tup [], .tup [], .boo false], .str 51]), (47, .tup [.boo true, .tup [.str 49, .tup [], .tup [], .boo false], .str 48])])]), (10, .obj 33 [(29, .str 10), (30, .str 11), (23, .tup [.str 62, .tup [.tup [.str 0, .tup [.str 60, .str 60], .boo false], .tup [.str 1, .tup [.str 40], .boo false]]]), (31, .dct [(2, .tup [.alt 4 [.boo true, .boo false], .tup [.str 49, .tup [], .tup [.tup [.str 140]], .boo false], .str 18]), (3, .tup [.alt 5 [.boo true, .boo false], .tup [.str 49, .tup [], .tup [.tup [.str 140]], .boo false], .str 19])])]), (12, .obj 33 [(29, .str 12), (30, .str 13), (23, .tup [.str 62, .tup [.tup [.str 4, .tup [.str 140], .boo false], .tup [.str 6, .alt 0 [.tup [.str 22, .str 10], .tup [.str 88, .tup [.str 22, .str 10]]], .boo true]]]), (31, .dct [])]), (14, .obj 33 [(29, .str 14), (30, .str 13), (23, .tup [.str 62, .tup [.tup [.str 5, .tup [.str 40], .boo false], .tup [.str 7, .alt 1 [.tup [.str 22, .str 12], .tup [.str 88, .tup [.str 22, .str 12]]], .boo true]]]), (31, .dct [])])]), (73, .dct []), (72, .dct []), (71, .dct []), (70, .dct []), (69, .dct []), (68, .dct []), (67, .lis []), (66, .lis []), (25, .non), (65, .lis []), (64, .boo true)]), (30, .str 13), (74, .non), (75, .str 143), (76, .dct []), (77, .non), (78, .non), (86, .lis []), (85, .tup []), (84, .tup []), (83, .tup []), (82, .boo false), (81, .lis []), (80, .dct []), (79, .lis [])]), (126, .alt 7 [.tup [.str 129, .tup [.str 22, .alt 6 [.str 14, .str 14, .str 12, .str 10]], .int (.ofNat 4), .int (.ofNat 2)], .tup [.str 129, .tup [.str 88, .tup [.str 22, .alt 6 [.str 14, .str 14, .str 12, .str 10]]], .int (.ofNat 4), .int (.ofNat 3)], .tup [.str 150, .tup [.str 22, .alt 6 [.str 14, .str 14, .str 12, .str 10]], .int (.ofNat 4), .tup [.str 133, .str 151], .tup []]])], H := .nil, hn := 45, known := [(2, [0, 1]), (3, [1])], nv := 8 }
noncomputable def sT3 : St := { loc := [(141, .dct [(136, .dct [(10, .lis [.tup [.str 0, .tup [.str 60, .str 60], .boo false], .tup [.str 1, .tup [.str 40], .boo false]]), (12, .lis [.tup [.alt 2 [.non, .non, .str 2, .str 1], .tup [.str 60, .str 138], .boo false], .tup [.str 4, .tup [.str 140], .boo false], .tup [.str 6, .alt 0 [.tup [.str 22, .str 10], .tup [.str 88, .tup [.str 22, .str 10]]], .boo true]]), (14, .lis [.tup [.str 7, .alt 1 [.tup [.str 22, .str 12], .tup [.str 88, .tup [.str 22, .str 12]]], .boo true], .tup [.str 5, .tup [.str 40], .boo false]])]), (31, .dct [(2, .alt 5 [.boo true, .boo false]), (3, .alt 6 [.boo true, .boo false])])]), (107, .obj 142 [(26, .obj 28 [(63, .non), (22, .dct [(42, .obj 33 [(29, .str 42), (30, .str 46), (23, .tup [.str 45, .tup [.tup [.str 44, .tup [.str 49, .tup [], .tup [.tup [.str 40]], .boo false]]]]), (31, .dct [])]), (39, .obj 33 [(29, .str 39), (30, .str 41), (23, .tup [.str 40]), (31, .dct [(44, .tup [.boo false, .tup [.str 49, .tup [], .tup [.tup [.str 40]], .boo false], .str 59])])]), (37, .obj 33 [(29, .str 37), (30, .str 36), (23, .tup [.str 62, .tup [.tup [.str 61, .tup [.str 60, .str 60], .boo false]]]), (31, .dct [(57, .tup [.boo true, .tup [.str 49, .tup [], .tup [], .boo false], .str 58]), (55, .tup [.boo true, .tup [.str 49, .tup [], .tup [], .boo false], .str 56])])]), (32, .obj 33 [(29, .str 32), (30, .str 36), (23, .tup [.str 62, .tup [.tup [.str 61, .tup [.str 60, .str 60], .boo false]]]), (31, .dct [(52, .tup [.boo true, .tup [.str 49, .tup [.tup [.str 60, .str 60]], .tup [], .boo false], .str 53]), (50, .tup [.boo true, .tup [.str 49, .tup [], .tup [], .boo false], .str 51]), (47, .tup [.boo true, .tup [.str 49, .tup [], .tup [], .boo false], .str 48])])]), (10, .obj 33 [(29, .str 10), (30, .str 11), (23, .tup [.str 62, .tup [.tup [.str 0, .tup [.str 60, .str 60], .boo false], .tup [.str 1, .tup [.str 40], .boo false]]]), (31, .dct [(2, .tup [.alt 5 [.boo true, .boo false], .tup [.str 49, .tup [], .tup [.tup [.str 140]], .boo false], .str 18]), (3, .tup [.alt 6 [.boo true, .boo false], .tup [.str 49, .tup [], .tup [.tup [.str 140]], .boo false], .str 19])])]), (12, .obj 33 [(29, .str 12), (30, .str 13), (23, .tup [.str 62, .tup [.tup [.alt 2 [.non, .non, .str 2, .str 1], .tup [.str 60, .str 138], .boo false], .tup [.str 4, .tup [.str 140], .boo false], .tup [.str 6, .alt 0 [.tup [.str 22, .str 10], .tup [.str 88, .tup [.str 22, .str 10]]], .boo true]]]), (31, .dct [])]), (14, .obj 33 [(29, .str 14), (30, .str 13), (23, .tup [.str 62, .tup [.tup [.str 7, .alt 1 [.tup [.str 22, .str 12], .tup [.str 88, .tup [.str 22, .str 12]]], .boo true], .tup [.str 5, .tup [.str 40], .boo false]]]), (31, .dct [])])]), (73, .dct []), (72, .dct []), (71, .dct []), (70, .dct []), (69, .dct []), (68, .dct []), (67, .lis []), (66, .lis []), (25, .non), (65, .lis []), (64, .boo true)]), (30, .str 13), (74, .non), (75, .str 143), (76, .dct []), (77, .non), (78, .non), (86, .lis []), (85, .tup []), (84, .tup []), (83, .tup []), (82, .boo false), (81, .lis []), (80, .dct []), (79, .lis [])]), (126, .alt 8 [.tup [.str 129, .tup [.str 22, .alt 7 [.str 14, .str 14, .str 12, .str 10]], .int (.ofNat 4), .int (.ofNat 2)], .tup [.str 129, .tup [.str 88, .tup [.str 22, .alt 7 [.str 14, .str 14, .str 12, .str 10]]], .int (.ofNat 4), .int (.ofNat 3)], .tup [.str 150, .tup [.str 22, .alt 7 [.str 14, .str 14, .str 12, .str 10]], .int (.ofNat 4), .tup [.str 133, .str 151], .tup []]])], H := .nil, hn := 46, known := [(2, [2, 3]), (3, [0]), (4, [0])], nv := 9 }
noncomputable def sT4 : St := { loc := [(141, .dct [(136, .dct [(10, .lis [.tup [.str 0, .tup [.str 60, .str 60], .boo false], .tup [.str 1, .tup [.str 40], .boo false]]), (12, .lis [.tup [.alt 2 [.non, .non, .str 2, .str 1], .tup [.str 60, .str 138], .boo false], .tup [.str 4, .tup [.str 140], .boo false], .tup [.str 6, .alt 0 [.tup [.str 22, .str 10], .tup [.str 88, .tup [.str 22, .str 10]]], .boo true]]), (14, .lis [.tup [.str 5, .tup [.str 40], .boo false], .tup [.str 7, .alt 1 [.tup [.str 22, .str 12], .tup [.str 88, .tup [.str 22, .str 12]]], .boo true]])]), (31, .dct [(2, .alt 5 [.boo true, .boo false]), (3, .alt 6 [.boo true, .boo false])])]), (107, .obj 142 [(26, .obj 28 [(63, .non), (22, .dct [(42, .obj 33 [(29, .str 42), (30, .str 46), (23, .tup [.str 45, .tup [.tup [.str 44, .tup [.str 49, .tup [], .tup [.tup [.str 40]], .boo false]]]]), (31, .dct [])]), (39, .obj 33 [(29, .str 39), (30, .str 41), (23, .tup [.str 40]), (31, .dct [(44, .tup [.boo false, .tup [.str 49, .tup [], .tup [.tup [.str 40]], .boo false], .str 59])])]), (37, .obj 33 [(29, .str 37), (30, .str 36), (23, .tup [.str 62, .tup [.tup [.str 61, .tup [.str 60, .str 60], .boo false]]]), (31, .dct [(57, .tup [.boo true, .tup [.str 49, .tup [], .tup [], .boo false], .str 58]), (55, .tup [.boo true, .tup [.str 49, .tup [], .tup [], .boo false], .str 56])])]), (32, .obj 33 [(29, .str 32), (30, .str 36), (23, .tup [.str 62, .tup [.tup [.str 61, .tup [.str 60, .str 60], .boo false]]]), (31, .dct [(52, .tup [.boo true, .tup [.str 49, .tup [.tup [.str 60, .str 60]], .tup [], .boo false], .str 53]), (50, .tup [.boo true, .tup [.str 49, .tup [], .tup [], .boo false], .str 51]), (47, .tup [.boo true, .tup [.str 49, .tup [], .tup [], .boo false], .str 48])])]), (10, .obj 33 [(29, .str 10), (30, .str 11), (23, .tup [.str 62, .tup [.tup [.str 0, .tup [.str 60, .str 60], .boo false], .tup [.str 1, .tup [.str 40], .boo false]]]), (31, .dct [(2, .tup [.alt 5 [.boo true, .boo false], .tup [.str 49, .tup [], .tup [.tup [.str 140]], .boo false], .str 18]), (3, .tup [.alt 6 [.boo true, .boo false], .tup [.str 49, .tup [], .tup [.tup [.str 140]], .boo false], .str 19])])]), (12, .obj 33 [(29, .str 12), (30, .str 13), (23, .tup [.str 62, .tup [.tup [.alt 2 [.non, .non, .str 2, .str 1], .tup [.str 60, .str 138], .boo false], .tup [.str 4, .tup [.str 140], .boo false], .tup [.str 6, .alt 0 [.tup [.str 22, .str 10], .tup [.str 88, .tup [.str 22, .str 10]]], .boo true]]]), (31, .dct [])]), (14, .obj 33 [(29, .str 14), (30, .str 13), (23, .tup [.str 62, .tup [.tup [.str 5, .tup [.str 40], .boo false], .tup [.str 7, .alt 1 [.tup [.str 22, .str 12], .tup [.str 88, .tup [.str 22, .str 12]]], .boo true]]]), (31, .dct [])])]), (73, .dct []), (72, .dct []), (71, .dct []), (70, .dct []), (69, .dct []), (68, .dct []), (67, .lis []), (66, .lis []), (25, .non), (65, .lis []), (64, .boo true)]), (30, .str 13), (74, .non), (75, .str 143), (76, .dct []), (77, .non), (78, .non), (86, .lis []), (85, .tup []), (84, .tup []), (83, .tup []), (82, .boo false), (81, .lis []), (80, .dct []), (79, .lis [])]), (126, .alt 8 [.tup [.str 129, .tup [.str 22, .alt 7 [.str 14, .str 14, .str 12, .str 10]], .int (.ofNat 4), .int (.ofNat 2)], .tup [.str 129, .tup [.str 88, .tup [.str 22, .alt 7 [.str 14, .str 14, .str 12, .str 10]]], .int (.ofNat 4), .int (.ofNat 3)], .tup [.str 150, .tup [.str 22, .alt 7 [.str 14, .str 14, .str 12, .str 10]], .int (.ofNat 4), .tup [.str 133, .str 151], .tup []]])], H := .nil, hn := 45, known := [(2, [2, 3]), (3, [0]), (4, [1])], nv := 9 }
noncomputable def sT5 : St := { loc := [(141, .dct [(136, .dct [(10, .lis [.tup [.str 0, .tup [.str 60, .str 60], .boo false], .tup [.str 1, .tup [.str 40], .boo false]]), (12, .lis [.tup [.str 4, .tup [.str 140], .boo false], .tup [.alt 2 [.non, .non, .str 2, .str 1], .tup [.str 60, .str 138], .boo false], .tup [.str 6, .alt 0 [.tup [.str 22, .str 10], .tup [.str 88, .tup [.str 22, .str 10]]], .boo true]]), (14, .lis [.tup [.str 7, .alt 1 [.tup [.str 22, .str 12], .tup [.str 88, .tup [.str 22, .str 12]]], .boo true], .tup [.str 5, .tup [.str 40], .boo false]])]), (31, .dct [(2, .alt 5 [.boo true, .boo false]), (3, .alt 6 [.boo true, .boo false])])]), (107, .obj 142 [(26, .obj 28 [(63, .non), (22, .dct [(42, .obj 33 [(29, .str 42), (30, .str 46), (23, .tup [.str 45, .tup [.tup [.str 44, .tup [.str 49, .tup [], .tup [.tup [.str 40]], .boo false]]]]), (31, .dct [])]), (39, .obj 33 [(29, .str 39), (30, .str 41), (23, .tup [.str 40]), (31, .dct [(44, .tup [.boo false, .tup [.str 49, .tup [], .tup [.tup [.str 40]], .boo false], .str 59])])]), (37, .obj 33 [(29, .str 37), (30, .str 36), (23, .tup [.str 62, .tup [.tup [.str 61, .tup [.str 60, .str 60], .boo false]]]), (31, .dct [(57, .tup [.boo true, .tup [.str 49, .tup [], .tup [], .boo false], .str 58]), (55, .tup [.boo true, .tup [.str 49, .tup [], .tup [], .boo false], .str 56])])]), (32, .obj 33 [(29, .str 32), (30, .str 36), (23, .tup [.str 62, .tup [.tup [.str 61, .tup [.str 60, .str 60], .boo false]]]), (31, .dct [(52, .tup [.boo true, .tup [.str 49, .tup [.tup [.str 60, .str 60]], .tup [], .boo false], .str 53]), (50, .tup [.boo true, .tup [.str 49, .tup [], .tup [], .boo false], .str 51]), (47, .tup [.boo true, .tup [.str 49, .tup [], .tup [], .boo false], .str 48])])]), (10, .obj 33 [(29, .str 10), (30, .str 11), (23, .tup [.str 62, .tup [.tup [.str 0, .tup [.str 60, .str 60], .boo false], .tup [.str 1, .tup [.str 40], .boo false]]]), (31, .dct [(2, .tup [.alt 5 [.boo true, .boo false], .tup [.str 49, .tup [], .tup [.tup [.str 140]], .boo false], .str 18]), (3, .tup [.alt 6 [.boo true, .boo false], .tup [.str 49, .tup [], .tup [.tup [.str 140]], .boo false], .str 19])])]), (12, .obj 33 [(29, .str 12), (30, .str 13), (23, .tup [.str 62, .tup [.tup [.str 4, .tup [.str 140], .boo false], .tup [.alt 2 [.non, .non, .str 2, .str 1], .tup [.str 60, .str 138], .boo false], .tup [.str 6, .alt 0 [.tup [.str 22, .str 10], .tup [.str 88, .tup [.str 22, .str 10]]], .boo true]]]), (31, .dct [])]), (14, .obj 33 [(29, .str 14), (30, .str 13), (23, .tup [.str 62, .tup [.tup [.str 7, .alt 1 [.tup [.str 22, .str 12], .tup [.str 88, .tup [.str 22, .str 12]]], .boo true], .tup [.str 5, .tup [.str 40], .boo false]]]), (31, .dct [])])]), (73, .dct []), (72, .dct []), (71, .dct []), (70, .dct []), (69, .dct []), (68, .dct []), (67, .lis []), (66, .lis []), (25, .non), (65, .lis []), (64, .boo true)]), (30, .str 13), (74, .non), (75, .str 143), (76, .dct []), (77, .non), (78, .non), (86, .lis []), (85, .tup []), (84, .tup []), (83, .tup []), (82, .boo false), (81, .lis []), (80, .dct []), (79, .lis [])]), (126, .alt 8 [.tup [.str 129, .tup [.str 22, .alt 7 [.str 14, .str 14, .str 12, .str 10]], .int (.ofNat 4), .int (.ofNat 2)], .tup [.str 129, .tup [.str 88, .tup [.str 22, .alt 7 [.str 14, .str 14, .str 12, .str 10]]], .int (.ofNat 4), .int (.ofNat 3)], .tup [.str 150, .tup [.str 22, .alt 7 [.str 14, .str 14, .str 12, .str 10]], .int (.ofNat 4), .tup [.str 133, .str 151], .tup []]])], H := .nil, hn := 46, known := [(2, [2, 3]), (3, [1]), (4, [0])], nv := 9 }
noncomputable def sT6 : St := { loc := [(141, .dct [(136, .dct [(10, .lis [.tup [.str 0, .tup [.str 60, .str 60], .boo false], .tup [.str 1, .tup [.str 40], .boo false]]), (12, .lis [.tup [.str 4, .tup [.str 140], .boo false], .tup [.alt 2 [.non, .non, .str 2, .str 1], .tup [.str 60, .str 138], .boo false], .tup [.str 6, .alt 0 [.tup [.str 22, .str 10], .tup [.str 88, .tup [.str 22, .str 10]]], .boo true]]), (14, .lis [.tup [.str 5, .tup [.str 40], .boo false], .tup [.str 7, .alt 1 [.tup [.str 22, .str 12], .tup [.str 88, .tup [.str 22, .str 12]]], .boo true]])]), (31, .dct [(2, .alt 5 [.boo true, .boo false]), (3, .alt 6 [.boo true, .boo false])])]), (107, .obj 142 [(26, .obj 28 [(63, .non), (22, .dct [(42, .obj 33 [(29, .str 42), (30, .str 46), (23, .tup [.str 45, .tup [.tup [.str 44, .tup [.str 49, .tup [], .tup [.tup [.str 40]], .boo false]]]]), (31, .dct [])]), (39, .obj 33 [(29, .str 39), (30, .str 41), (23, .tup [.str 40]), (31, .dct [(44, .tup [.boo false, .tup [.str 49, .tup [], .tup [.tup [.str 40]], .boo false], .str 59])])]), (37, .obj 33 [(29, .str 37), (30, .str 36), (23, .tup [.str 62, .tup [.tup [.str 61, .tup [.str 60, .str 60], .boo false]]]), (31, .dct [(57, .tup [.boo true, .tup [.str 49, .tup [], .tup [], .boo false], .str 58]), (55, .tup [.boo true, .tup [.str 49, .tup [], .tup [], .boo false], .str 56])])]), (32, .obj 33 [(29, .str 32), (30, .str 36), (23, .tup [.str 62, .tup [.tup [.str 61, .tup [.str 60, .str 60], .boo false]]]), (31, .dct [(52, .tup [.boo true, .tup [.str 49, .tup [.tup [.str 60, .str 60]], .tup [], .boo false], .str 53]), (50, .tup [.boo true, .tup [.str 49, .tup [], .tup [], .boo false], .str 51]), (47, .tup [.boo true, .tup [.str 49, .tup [], .tup [], .boo false], .str 48])])]), (10, .obj 33 [(29, .str 10), (30, .str 11), (23, .tup [.str 62, .tup [.tup [.str 0, .tup [.str 60, .str 60], .boo false], .tup [.str 1, .tup [.str 40], .boo false]]]), (31, .dct [(2, .tup [.alt 5 [.boo true, .boo false], .tup [.str 49, .tup [], .tup [.tup [.str 140]], .boo false], .str 18]), (3, .tup [.alt 6 [.boo true, .boo false], .tup [.str 49, .tup [], .tup [.tup [.str 140]], .boo false], .str 19])])]), (12, .obj 33 [(29, .str 12), (30, .str 13), (23, .tup [.str 62, .tup [.tup [.str 4, .tup [.str 140], .boo false], .tup [.alt 2 [.non, .non, .str 2, .str 1], .tup [.str 60, .str 138], .boo false], .tup [.str 6, .alt 0 [.tup [.str 22, .str 10], .tup [.str 88, .tup [.str 22, .str 10]]], .boo true]]]), (31, .dct [])]), (14, .obj 33 [(29, .str 14), (30, .str 13), (23, .tup [.str 62, .tup [.tup [.str 5, .tup [.str 40], .boo false], .tup [.str 7, .alt 1 [.tup [.str 22, .str 12], .tup [.str 88, .tup [.str 22, .str 12]]], .boo true]]]), (31, .dct [])])]), (73, .dct []), (72, .dct []), (71, .dct []), (70, .dct []), (69, .dct []), (68, .dct []), (67, .lis []), (66, .lis []), (25, .non), (65, .lis []), (64, .boo true)]), (30, .str 13), (74, .non), (75, .str 143), (76, .dct []), (77, .non), (78, .non), (86, .lis []), (85, .tup []), (84, .tup []), (83, .tup []), (82, .boo false), (81, .lis []), (80, .dct []), (79, .lis [])]), (126, .alt 8 [.tup [.str 129, .tup [.str 22, .alt 7 [.str 14, .str 14, .str 12, .str 10]], .int (.ofNat 4), .int (.ofNat 2)], .tup [.str 129, .tup [.str 88, .tup [.str 22, .alt 7 [.str 14, .str 14, .str 12, .str 10]]], .int (.ofNat 4), .int (.ofNat 3)], .tup [.str 150, .tup [.str 22, .alt 7 [.str 14, .str 14, .str 12, .str 10]], .int (.ofNat 4), .tup [.str 133, .str 151], .tup []]])], H := .nil, hn := 45, known := [(2, [2, 3]), (3, [1]), (4, [1])], nv := 9 }
noncomputable def sT7 : St := { loc := [(141, .dct [(136, .dct [(10, .lis [.tup [.str 0, .tup [.str 60, .str 60], .boo false], .tup [.str 1, .tup [.str 40], .boo false]]), (12, .lis [.tup [.str 4, .tup [.str 140], .boo false], .tup [.str 6, .alt 0 [.tup [.str 22, .str 10], .tup [.str 88, .tup [.str 22, .str 10]]], .boo true], .tup [.alt 2 [.non, .non, .str 2, .str 1], .tup [.str 60, .str 138], .boo false]]), (14, .lis [.tup [.str 7, .alt 1 [.tup [.str 22, .str 12], .tup [.str 88, .tup [.str 22, .str 12]]], .boo true], .tup [.str 5, .tup [.str 40], .boo false]])]), (31, .dct [(2, .alt 5 [.boo true, .boo false]), (3, .alt 6 [.boo true, .boo false])])]), (107, .obj 142 [(26, .obj 28 [(63, .non), (22, .dct [(42, .obj 33 [(29, .str 42), (30, .str 46), (23, .tup [.str 45, .tup [.tup [.str 44, .tup [.str 49, .tup [], .tup [.tup [.str 40]], .boo false]]]]), (31, .dct [])]), (39, .obj 33 [(29, .str 39), (30, .str 41), (23, .tup [.str 40]), (31, .dct [(44, .tup [.boo false, .tup [.str 49, .tup [], .tup [.tup [.str 40]], .boo false], .str 59])])]), (37, .obj 33 [(29, .str 37), (30, .str 36), (23, .tup [.str 62, .tup [.tup [.str 61, .tup [.str 60, .str 60], .boo false]]]), (31, .dct [(57, .tup [.boo true, .tup [.str 49, .tup [], .tup [], .boo false], .str 58]), (55, .tup [.boo true, .tup [.str 49, .tup [], .tup [], .boo false], .str 56])])]), (32, .obj 33 [(29, .str 32), (30, .str 36), (23, .tup [.str 62, .tup [.tup [.str 61, .tup [.str 60, .str 60], .boo false]]]), (31, .dct [(52, .tup [.boo true, .tup [.str 49, .tup [.tup [.str 60, .str 60]], .tup [], .boo false], .str 53]), (50, .tup [.boo true, .tup [.str 49, .tup [], .tup [], .boo false], .str 51]), (47, .tup [.boo true, .tup [.str 49, .tup [], .tup [], .boo false], .str 48])])]), (10, .obj 33 [(29, .str 10), (30, .str 11), (23, .tup [.str 62, .tup [.tup [.str 0, .tup [.str 60, .str 60], .boo false], .tup [.str 1, .tup [.str 40], .boo false]]]), (31, .dct [(2, .tup [.alt 5 [.boo true, .boo false], .tup [.str 49, .tup [], .tup [.tup [.str 140]], .boo false], .str 18]), (3, .tup [.alt 6 [.boo true, .boo false], .tup [.str 49, .tup [], .tup [.tup [.str 140]], .boo false], .str 19])])]), (12, .obj 33 [(29, .str 12), (30, .str 13), (23, .tup [.str 62, .tup [.tup [.str 4, .tup [.str 140], .boo false], .tup [.str 6, .alt 0 [.tup [.str 22, .str 10], .tup [.str 88, .tup [.str 22, .str 10]]], .boo true], .tup [.alt 2 [.non, .non, .str 2, .str 1], .tup [.str 60, .str 138], .boo false]]]), (31, .dct [])]), (14, .obj 33 [(29, .str 14), (30, .str 13), (23, .tup [.str 62, .tup [.tup [.str 7, .alt 1 [.tup [.str 22, .str 12], .tup [.str 88, .tup [.str 22, .str 12]]], .boo true], .tup [.str 5, .tup [.str 40], .boo false]]]), (31, .dct [])])]), (73, .dct []), (72, .dct []), (71, .dct []), (70, .dct []), (69, .dct []), (68, .dct []), (67, .lis []), (66, .lis []), (25, .non), (65, .lis []), (64, .boo true)]), (30, .str 13), (74, .non), (75, .str 143), (76, .dct []), (77, .non), (78, .non), (86, .lis []), (85, .tup []), (84, .tup []), (83, .tup []), (82, .boo false), (81, .lis []), (80, .dct []), (79, .lis [])]), (126, .alt 8 [.tup [.str 129, .tup [.str 22, .alt 7 [.str 14, .str 14, .str 12, .str 10]], .int (.ofNat 4), .int (.ofNat 2)], .tup [.str 129, .tup [.str 88, .tup [.str 22, .alt 7 [.str 14, .str 14, .str 12, .str 10]]], .int (.ofNat 4), .int (.ofNat 3)], .tup [.str 150, .tup [.str 22, .alt 7 [.str 14, .str 14, .str 12, .str 10]], .int (.ofNat 4), .tup [.str 133, .str 151], .tup []]])], H := .nil, hn := 46, known := [(2, [2, 3]), (3, [2]), (4, [0])], nv := 9 }
noncomputable def sT8 : St := { loc := [(141, .dct [(136, .dct [(10, .lis [.tup [.str 0, .tup [.str 60, .str 60], .boo false], .tup [.str 1, .tup [.str 40], .boo false]]), (12, .lis [.tup [.str 4, .tup [.str 140], .boo false], .tup [.str 6, .alt 0 [.tup [.str 22, .str 10], .tup [.str 88, .tup [.str 22, .str 10]]], .boo true], .tup [.alt 2 [.non, .non, .str 2, .str 1], .tup [.str 60, .str 138], .boo false]]), (14, .lis [.tup [.str 5, .tup [.str 40], .boo false], .tup [.str 7, .alt 1 [.tup [.str 22, .str 12], .tup [.str 88, .tup [.str 22, .str 12]]], .boo true]])]), (31, .dct [(2, .alt 5 [.boo true, .boo false]), (3, .alt 6 [.boo true, .boo false])])]), (107, .obj 142 [(26, .obj 28 [(63, .non), (22, .dct [(42, .obj 33 [(29, .str 42), (30, .str 46), (23, .tup [.str 45, .tup [.tup [.str 44, .tup [.str 49, .tup [], .tup [.tup [.str 40]], .boo false]]]]), (31, .dct [])]), (39, .obj 33 [(29, .str 39), (30, .str 41), (23, .tup [.str 40]), (31, .dct [(44, .tup [.boo false, .tup [.str 49, .tup [], .tup [.tup [.str 40]], .boo false], .str 59])])]), (37, .obj 33 [(29, .str 37), (30, .str 36), (23, .tup [.str 62, .tup [.tup [.str 61, .tup [.str 60, .str 60], .boo false]]]), (31, .dct [(57, .tup [.boo true, .tup [.str 49, .tup [], .tup [], .boo false], .str 58]), (55, .tup [.boo true, .tup [.str 49, .tup [], .tup [], .boo false], .str 56])])]), (32, .obj 33 [(29, .str 32), (30, .str 36), (23, .tup [.str 62, .tup [.tup [.str 61, .tup [.str 60, .str 60], .boo false]]]), (31, .dct [(52, .tup [.boo true, .tup [.str 49, .tup [.tup [.str 60, .str 60]], .tup [], .boo false], .str 53]), (50, .tup [.boo true, .tup [.str 49, .tup [], .tup [], .boo false], .str 51]), (47, .tup [.boo true, .tup [.str 49, .tup [], .tup [], .boo false], .str 48])])]), (10, .obj 33 [(29, .str 10), (30, .str 11), (23, .tup [.str 62, .tup [.tup [.str 0, .tup [.str 60, .str 60], .boo false], .tup [.str 1, .tup [.str 40], .boo false]]]), (31, .dct [(2, .tup [.alt 5 [.boo true, .boo false], .tup [.str 49, .tup [], .tup [.tup [.str 140]], .boo false], .str 18]), (3, .tup [.alt 6 [.boo true, .boo false], .tup [.str 49, .tup [], .tup [.tup [.str 140]], .boo false], .str 19])])]), (12, .obj 33 [(29, .str 12), (30, .str 13), (23, .tup [.str 62, .tup [.tup [.str 4, .tup [.str 140], .boo false], .tup [.str 6, .alt 0 [.tup [.str 22, .str 10], .tup [.str 88, .tup [.str 22, .str 10]]], .boo true], .tup [.alt 2 [.non, .non, .str 2, .str 1], .tup [.str 60, .str 138], .boo false]]]), (31, .dct [])]), (14, .obj 33 [(29, .str 14), (30, .str 13), (23, .tup [.str 62, .tup [.tup [.str 5, .tup [.str 40], .boo false], .tup [.str 7, .alt 1 [.tup [.str 22, .str 12], .tup [.str 88, .tup [.str 22, .str 12]]], .boo true]]]), (31, .dct [])])]), (73, .dct []), (72, .dct []), (71, .dct []), (70, .dct []), (69, .dct []), (68, .dct []), (67, .lis []), (66, .lis []), (25, .non), (65, .lis []), (64, .boo true)]), (30, .str 13), (74, .non), (75, .str 143), (76, .dct []), (77, .non), (78, .non), (86, .lis []), (85, .tup []), (84, .tup []), (83, .tup []), (82, .boo false), (81, .lis []), (80, .dct []), (79, .lis [])]), (126, .alt 8 [.tup [.str 129, .tup [.str 22, .alt 7 [.str 14, .str 14, .str 12, .str 10]], .int (.ofNat 4), .int (.ofNat 2)], .tup [.str 129, .tup [.str 88, .tup [.str 22, .alt 7 [.str 14, .str 14, .str 12, .str 10]]], .int (.ofNat 4), .int (.ofNat 3)], .tup [.str 150, .tup [.str 22, .alt 7 [.str 14, .str 14, .str 12, .str 10]], .int (.ofNat 4), .tup [.str 133, .str 151], .tup []]])], H := .nil, hn := 45, known := [(2, [2, 3]), (3, [2]), (4, [1])], nv := 9 }
noncomputable def sTs : List St := [sT1, sT2, sT3, sT4, sT5, sT6, sT7, sT8]
noncomputable def namesL : List AV := [.str 0, .str 1, .str 2, .str 3, .str 4, .str 5, .str 6, .str 7, .str 8]
noncomputable def askOk (S : St) (c : Nat) : Bool := b_ask (setLoc 90 (.str c) S) yes no no
noncomputable def turnK (l : List AV) (st : St) : Bool := andB (synL (syn 3) l namesL) (anyL (fun S => stEq S st) sTs)
noncomputable def stP : St := { loc := [(134, .ref 0), (152, .bot)], H := HT.put 12 .nil 0 (.lst [.unk, .unk]), hn := 1, known := [], nv := 0 }
noncomputable def botB : AV → Bool
  | .bot => true
  | _ => false
noncomputable def kScr (st : St) : Bool := match look 152 st.loc with
  | some a => botB a
  | none => false
theorem turnA : preK turnK stP kScr no no = true := by decide +kernel
theorem restOk : restB = true := by decide +kernel
theorem ask1_0 : askOk sT1 0 = true := by decide +kernel
theorem ask1_1 : askOk sT1 1 = true := by decide +kernel
theorem ask1_2 : askOk sT1 2 = true := by decide +kernel
theorem ask1_3 : askOk sT1 3 = true := by decide +kernel
theorem ask1_4 : askOk sT1 4 = true := by decide +kernel
theorem ask1_5 : askOk sT1 5 = true := by decide +kernel
theorem ask1_6 : askOk sT1 6 = true := by decide +kernel
theorem ask1_7 : askOk sT1 7 = true := by decide +kernel
theorem ask1_8 : askOk sT1 8 = true := by decide +kernel
theorem ask2_0 : askOk sT2 0 = true := by decide +kernel
theorem ask2_1 : askOk sT2 1 = true := by decide +kernel
theorem ask2_2 : askOk sT2 2 = true := by decide +kernel
theorem ask2_3 : askOk sT2 3 = true := by decide +kernel
theorem ask2_4 : askOk sT2 4 = true := by decide +kernel
theorem ask2_5 : askOk sT2 5 = true := by decide +kernel
theorem ask2_6 : askOk sT2 6 = true := by decide +kernel
theorem ask2_7 : askOk sT2 7 = true := by decide +kernel
theorem ask2_8 : askOk sT2 8 = true := by decide +kernel
theorem ask3_0 : askOk sT3 0 = true := by decide +kernel
theorem ask3_1 : askOk sT3 1 = true := by decide +kernel
theorem ask3_2 : askOk sT3 2 = true := by decide +kernel
theorem ask3_3 : askOk sT3 3 = true := by decide +kernel
theorem ask3_4 : askOk sT3 4 = true := by decide +kernel
theorem ask3_5 : askOk sT3 5 = true := by decide +kernel
theorem ask3_6 : askOk sT3 6 = true := by decide +kernel
theorem ask3_7 : askOk sT3 7 = true := by decide +kernel
theorem ask3_8 : askOk sT3 8 = true := by decide +kernel
theorem ask4_0 : askOk sT4 0 = true := by decide +kernel
theorem ask4_1 : askOk sT4 1 = true := by decide +kernel
theorem ask4_2 : askOk sT4 2 = true := by decide +kernel
theorem ask4_3 : askOk sT4 3 = true := by decide +kernel
theorem ask4_4 : askOk sT4 4 = true := by decide +kernel
theorem ask4_5 : askOk sT4 5 = true := by decide +kernel
theorem ask4_6 : askOk sT4 6 = true := by decide +kernel
theorem ask4_7 : askOk sT4 7 = true := by decide +kernel
theorem ask4_8 : askOk sT4 8 = true := by decide +kernel
theorem ask5_0 : askOk sT5 0 = true := by decide +kernel
theorem ask5_1 : askOk sT5 1 = true := by decide +kernel
theorem ask5_2 : askOk sT5 2 = true := by decide +kernel
theorem ask5_3 : askOk sT5 3 = true := by decide +kernel
theorem ask5_4 : askOk sT5 4 = true := by decide +kernel
theorem ask5_5 : askOk sT5 5 = true := by decide +kernel
theorem ask5_6 : askOk sT5 6 = true := by decide +kernel
theorem ask5_7 : askOk sT5 7 = true := by decide +kernel
theorem ask5_8 : askOk sT5 8 = true := by decide +kernel
theorem ask6_0 : askOk sT6 0 = true := by decide +kernel
theorem ask6_1 : askOk sT6 1 = true := by decide +kernel
theorem ask6_2 : askOk sT6 2 = true := by decide +kernel
theorem ask6_3 : askOk sT6 3 = true := by decide +kernel
theorem ask6_4 : askOk sT6 4 = true := by decide +kernel
theorem ask6_5 : askOk sT6 5 = true := by decide +kernel
theorem ask6_6 : askOk sT6 6 = true := by decide +kernel
theorem ask6_7 : askOk sT6 7 = true := by decide +kernel
theorem ask6_8 : askOk sT6 8 = true := by decide +kernel
theorem ask7_0 : askOk sT7 0 = true := by decide +kernel
theorem ask7_1 : askOk sT7 1 = true := by decide +kernel
theorem ask7_2 : askOk sT7 2 = true := by decide +kernel
theorem ask7_3 : askOk sT7 3 = true := by decide +kernel
theorem ask7_4 : askOk sT7 4 = true := by decide +kernel
theorem ask7_5 : askOk sT7 5 = true := by decide +kernel
theorem ask7_6 : askOk sT7 6 = true := by decide +kernel
theorem ask7_7 : askOk sT7 7 = true := by decide +kernel
theorem ask7_8 : askOk sT7 8 = true := by decide +kernel
theorem ask8_0 : askOk sT8 0 = true := by decide +kernel
theorem ask8_1 : askOk sT8 1 = true := by decide +kernel
theorem ask8_2 : askOk sT8 2 = true := by decide +kernel
theorem ask8_3 : askOk sT8 3 = true := by decide +kernel
theorem ask8_4 : askOk sT8 4 = true := by decide +kernel
theorem ask8_5 : askOk sT8 5 = true := by decide +kernel
theorem ask8_6 : askOk sT8 6 = true := by decide +kernel
theorem ask8_7 : askOk sT8 7 = true := by decide +kernel
theorem ask8_8 : askOk sT8 8 = true := by decide +kernel
end Mine
end
section
open PySem PySem.W PyProof.Rows
namespace Mine
theorem nth_eq {α : Type} : ∀ (l : List α) (n : Nat), nth l n = l[n]?
  | [], n => by cases n <;> rfl
  | a :: l, 0 => rfl
  | a :: l, n + 1 => nth_eq l n
theorem anyL_eq {α : Type} (f : α → Bool) : ∀ l : List α, anyL f l = l.any f
  | [] => rfl
  | a :: l => by
    show @Bool.rec (fun _ => Bool) (anyL f l) true (f a) = (f a || l.any f)
    rw [anyL_eq f l]; cases f a <;> rfl
theorem allL_eq {α : Type} (f : α → Bool) : ∀ l : List α, allL f l = l.all f
  | [] => rfl
  | a :: l => by
    show @Bool.rec (fun _ => Bool) false (allL f l) (f a) = (f a && l.all f)
    rw [allL_eq f l]; cases f a <;> rfl
theorem filL_eq {α : Type} (f : α → Bool) : ∀ l : List α, filL f l = l.filter f
  | [] => rfl
  | a :: l => by
    show @Bool.rec (fun _ => List α) (filL f l) (a :: filL f l) (f a) = _
    rw [filL_eq f l, List.filter_cons]; cases f a <;> rfl
theorem appL_eq {α : Type} (m : List α) : ∀ l : List α, appL l m = l ++ m
  | [] => rfl
  | a :: l => congrArg (a :: ·) (appL_eq m l)
theorem lenL_eq {α : Type} : ∀ l : List α, lenL l = l.length
  | [] => rfl
  | _ :: l => congrArg Nat.succ (lenL_eq l)
theorem revL_go : ∀ l m : List AV, @List.rec AV (fun _ => List AV → List AV) (fun m => m) (fun a _ go m => go (a :: m)) l m = l.reverse ++ m
  | [], _ => rfl
  | a :: l, m => by
    show @List.rec AV (fun _ => List AV → List AV) (fun m => m) (fun a _ go m => go (a :: m)) l (a :: m) = _
    rw [revL_go l (a :: m)]; simp
theorem revL_eq (l : List AV) : revL l = l.reverse := by
  show @List.rec AV (fun _ => List AV → List AV) (fun m => m) (fun a _ go m => go (a :: m)) l [] = _
  rw [revL_go]; simp
theorem dropL_eq : ∀ l : List AV, dropL l = l.dropLast
  | [] => rfl
  | [_] => rfl
  | a :: b :: r => congrArg (a :: ·) (dropL_eq (b :: r))
theorem beq_of {m n : Nat} (h : Nat.beq m n = true) : m = n := Nat.eq_of_beq_eq_true h
theorem beq_no {m n : Nat} (h : Nat.beq m n = false) : m ≠ n := Nat.ne_of_beq_eq_false h
theorem beq_self (m : Nat) : Nat.beq m m = true := Nat.beq_refl m
theorem look_cons {α : Type} (x : Nat) (p : Nat × α) (r : List (Nat × α)) : look x (p :: r) = if x = p.1 then some p.2 else look x r := by
  show @Bool.rec (fun _ => Option α) (look x r) (some p.2) (Nat.beq x p.1) = _
  cases h : Nat.beq x p.1 with
  | true => rw [if_pos (beq_of h)]
  | false => rw [if_neg (beq_no h)]
theorem look_nil {α : Type} (x : Nat) : look x ([] : List (Nat × α)) = none := rfl
theorem put_cons {α : Type} (x : Nat) (a : α) (p : Nat × α) (r : List (Nat × α)) : put x a (p :: r) = if x = p.1 then (x, a) :: r else p :: put x a r := by
  show @Bool.rec (fun _ => List (Nat × α)) (p :: put x a r) ((x, a) :: r) (Nat.beq x p.1) = _
  cases h : Nat.beq x p.1 with
  | true => rw [if_pos (beq_of h)]
  | false => rw [if_neg (beq_no h)]
theorem look_put {α : Type} (x y : Nat) (a : α) : ∀ l : List (Nat × α), look y (put x a l) = if y = x then some a else look y l
  | [] => look_cons y (x, a) []
  | p :: r => by
    rw [put_cons]
    by_cases h : x = p.1
    · rw [if_pos h, look_cons, look_cons]
      by_cases q : y = x
      · rw [if_pos q, if_pos q]
      · rw [if_neg q, if_neg q, if_neg (fun z => q (z.trans h.symm))]
    · rw [if_neg h, look_cons, look_cons, look_put x y a r]
      by_cases q : y = p.1
      · rw [if_pos q, if_pos q, if_neg (fun z => h (z.symm.trans q))]
      · rw [if_neg q, if_neg q]
theorem look_mem {α : Type} {x : Nat} {a : α} : ∀ {l : List (Nat × α)}, look x l = some a → (x, a) ∈ l
  | p :: r, h => by
    rw [look_cons] at h
    by_cases q : x = p.1
    · rw [if_pos q] at h; cases h; subst q; exact .head _
    · rw [if_neg q] at h; exact .tail _ (look_mem h)
theorem beq0 : ∀ i : Nat, Nat.beq i 0 = decide (i = 0)
  | 0 => rfl
  | _ + 1 => rfl
theorem HT.get_nil (i : Nat) : HT.nil.get i = none := rfl
theorem HT.get_nd (v : Option AO) (l r : HT) (i : Nat) : (HT.nd v l r).get i = if i = 0 then v else if i % 2 = 1 then l.get (i / 2) else r.get (i / 2 - 1) := by
  show @Bool.rec (fun _ => Option AO) (@Bool.rec (fun _ => Option AO) (r.get (Nat.pred (Nat.div i 2))) (l.get (Nat.div i 2)) (Nat.beq (Nat.mod i 2) 1)) v (Nat.beq i 0) = _
  have e1 : Nat.beq i 0 = decide (i = 0) := beq0 i
  have e2 : Nat.beq (Nat.mod i 2) 1 = decide (i % 2 = 1) := by
    show Nat.beq (i % 2) 1 = _
    rcases Nat.mod_two_eq_zero_or_one i with h | h <;> rw [h] <;> rfl
  rw [e1, e2]
  by_cases h : i = 0
  · simp [h]
  · by_cases q : i % 2 = 1
    · simp [h, q]; rfl
    · simp [h, q]; rfl
theorem HT.put_nil (n i : Nat) (o : AO) : HT.put (n + 1) .nil i o = if i = 0 then .nd (some o) .nil .nil else if i % 2 = 1 then .nd none (HT.put n .nil (i / 2) o) .nil else .nd none .nil (HT.put n .nil (i / 2 - 1) o) := by
  show @Bool.rec (fun _ => HT) (@Bool.rec (fun _ => HT) (.nd none .nil (HT.put n .nil (Nat.pred (Nat.div i 2)) o)) (.nd none (HT.put n .nil (Nat.div i 2) o) .nil) (Nat.beq (Nat.mod i 2) 1)) (.nd (some o) .nil .nil) (Nat.beq i 0) = _
  have e1 : Nat.beq i 0 = decide (i = 0) := beq0 i
  have e2 : Nat.beq (Nat.mod i 2) 1 = decide (i % 2 = 1) := by
    show Nat.beq (i % 2) 1 = _
    rcases Nat.mod_two_eq_zero_or_one i with h | h <;> rw [h] <;> rfl
  rw [e1, e2]
  by_cases h : i = 0
  · simp [h]
  · by_cases q : i % 2 = 1
    · simp [h, q]; rfl
    · simp [h, q]; rfl
theorem HT.put_nd (n : Nat) (v : Option AO) (l r : HT) (i : Nat) (o : AO) : HT.put (n + 1) (.nd v l r) i o = if i = 0 then .nd (some o) l r else if i % 2 = 1 then .nd v (HT.put n l (i / 2) o) r else .nd v l (HT.put n r (i / 2 - 1) o) := by
  show @Bool.rec (fun _ => HT) (@Bool.rec (fun _ => HT) (.nd v l (HT.put n r (Nat.pred (Nat.div i 2)) o)) (.nd v (HT.put n l (Nat.div i 2) o) r) (Nat.beq (Nat.mod i 2) 1)) (.nd (some o) l r) (Nat.beq i 0) = _
  have e1 : Nat.beq i 0 = decide (i = 0) := beq0 i
  have e2 : Nat.beq (Nat.mod i 2) 1 = decide (i % 2 = 1) := by
    show Nat.beq (i % 2) 1 = _
    rcases Nat.mod_two_eq_zero_or_one i with h | h <;> rw [h] <;> rfl
  rw [e1, e2]
  by_cases h : i = 0
  · simp [h]
  · by_cases q : i % 2 = 1
    · simp [h, q]; rfl
    · simp [h, q]; rfl
theorem HT.get_put (o : AO) : ∀ (n : Nat) (t : HT) (i j : Nat), i < 2 ^ n - 1 → (HT.put n t i o).get j = if j = i then some o else t.get j
  | 0, t, i, j, h => by simp at h
  | n + 1, t, i, j, hi => by
    have hp : 2 ^ (n + 1) = 2 * 2 ^ n := by rw [Nat.pow_succ, Nat.mul_comm]
    have hpos : 0 < 2 ^ n := Nat.pos_of_ne_zero (by simp)
    rw [hp] at hi
    have key : ∀ (v : Option AO) (l r : HT), t.get j = (HT.nd v l r).get j → (HT.put (n + 1) t i o).get j = (HT.put (n + 1) (.nd v l r) i o).get j → (HT.put (n + 1) t i o).get j = if j = i then some o else t.get j := by
      intro v l r e1 e2
      rw [e2, e1, HT.put_nd]
      by_cases h0 : i = 0
      · rw [if_pos h0, HT.get_nd, HT.get_nd]
        by_cases q : j = 0
        · rw [if_pos q, if_pos (q.trans h0.symm)]
        · have q' : ¬ j = i := fun z => q (z.trans h0)
          rw [if_neg q, if_neg q', if_neg q]
      · rw [if_neg h0]
        by_cases p : i % 2 = 1
        · rw [if_pos p, HT.get_nd, HT.get_nd]
          by_cases q : j = 0
          · rw [if_pos q, if_neg (fun z => h0 (z.symm.trans q)), if_pos q]
          · rw [if_neg q, if_neg q]
            by_cases r2 : j % 2 = 1
            · rw [if_pos r2, if_pos r2, HT.get_put o n l (i / 2) (j / 2) (by omega)]
              by_cases z : j / 2 = i / 2
              · rw [if_pos z, if_pos (by omega)]
              · rw [if_neg z, if_neg (fun y => z (by rw [y]))]
            · rw [if_neg r2, if_neg r2, if_neg (fun y => r2 (by rw [y]; exact p))]
        · rw [if_neg p, HT.get_nd, HT.get_nd]
          by_cases q : j = 0
          · rw [if_pos q, if_neg (fun z => h0 (z.symm.trans q)), if_pos q]
          · rw [if_neg q, if_neg q]
            by_cases r2 : j % 2 = 1
            · rw [if_pos r2, if_pos r2, if_neg (fun y => p (by rw [← y]; exact r2))]
            · rw [if_neg r2, if_neg r2, HT.get_put o n r (i / 2 - 1) (j / 2 - 1) (by omega)]
              by_cases z : j / 2 - 1 = i / 2 - 1
              · rw [if_pos z, if_pos (by omega)]
              · rw [if_neg z, if_neg (fun y => z (by rw [y]))]
    cases t with
    | nd v l r => exact key v l r rfl rfl
    | nil =>
      refine key none .nil .nil ?_ ?_
      · rw [HT.get_nd, HT.get_nil]; split
        · rfl
        · split <;> rfl
      · rw [HT.put_nil, HT.put_nd]
end Mine
end
section
open PySem PySem.W PyProof.Rows
namespace Mine
noncomputable def nm (c : Nat) : Str := match nth tab c with | some s => Str.ofString s | none => Str.ofString ""
noncomputable def tabN : Nat := 154
structure Gh where
  cst : List (Addr × Obj)
  rho : List Addr
  tht : List Nat
section
variable (prog : Program) (w : World) (K : Frag) (cA : Nat → Addr)
inductive KeyRel (V : Value → AV → Prop) : List (Str × Value) → List (Nat × AV) → Prop where
  | nil : KeyRel V [] []
  | cons {c : Nat} {v : Value} {a : AV} {kvs : List (Str × Value)} {d : List (Nat × AV)} : c < tabN → V v a → KeyRel V kvs d → KeyRel V ((nm c, v) :: kvs) ((c, a) :: d)
inductive OwnRel (V : Value → AV → Prop) : List DictEntry → List (Nat × AV) → Prop where
  | nil : OwnRel V [] []
  | cons {c : Nat} {v : Value} {a : AV} {h : Int} {t : Tok} {es : List DictEntry} {d : List (Nat × AV)} : c < tabN → V v a → OwnRel V es d → OwnRel V (⟨h, .str (nm c) t, v⟩ :: es) ((c, a) :: d)
inductive AllRel (V : Value → AV → Prop) : List Value → List AV → Prop where
  | nil : AllRel V [] []
  | cons {v : Value} {a : AV} {vs : List Value} {l : List AV} : V v a → AllRel V vs l → AllRel V (v :: vs) (a :: l)
noncomputable abbrev tupO (vs : List Value) : Obj := { cls := .type "tuple", data := .seq vs.toArray }
noncomputable def TupIs (g : Gh) (a : Addr) (vs : List Value) : Prop := (a, tupO vs) ∈ g.cst ∨ ∃ n dd sl, K.lookup a = some ⟨.type "tuple", dd, .seq vs.toArray n, sl⟩
inductive VR (g : Gh) : Value → AV → Prop where
  | non : VR g .none .non
  | boo (b : Bool) : VR g (.bool b) (.boo b)
  | int (i : Int) (t : Tok) : VR g (.int i t) (.int i)
  | str (c : Nat) (t : Tok) : c < tabN → VR g (.str (nm c) t) (.str c)
  | ast (x : Str) (t : Tok) (n : Nat) : x.length ≤ n → n ≤ 4096 → VR g (.str x t) (.ast n)
  | unk (i : Int) (t : Tok) : 0 ≤ i → VR g (.int i t) .unk
  | bot : VR g (.ref (cA 9999)) .bot
  | tup {a : Addr} {vs : List Value} {l : List AV} : TupIs K g a vs → AllRel (VR g) vs l → VR g (.ref a) (.tup l)
  | lis {a : Addr} {vs : List Value} {n : Nat} {l : List AV} : (a, listOf vs.toArray n) ∈ g.cst → AllRel (VR g) vs l → VR g (.ref a) (.lis l)
  | dct {a : Addr} {o : Obj} {kvs : List (Str × Value)} {d : List (Nat × AV)} : (a, o) ∈ g.cst → o.IsDictOf (strKind prog w) kvs → (a == sysModules) = false → KeyRel (VR g) kvs d → VR g (.ref a) (.dct d)
  | obj {a dx : Addr} {es : List DictEntry} {n c : Nat} {d : List (Nat × AV)} : c ∈ clsL → (a, instObj (cA c) dx) ∈ g.cst → (dx, dictOf es n) ∈ g.cst → OwnRel (VR g) es d → VR g (.ref a) (.obj c d)
  | ref {a : Addr} {k : Nat} : g.rho[k]? = some a → VR g (.ref a) (.ref k)
  | alt {v : Value} {i j : Nat} {l : List AV} {a : AV} : g.tht[i]? = some j → nth l j = some a → VR g v a → VR g v (.alt i l)
end
structure Gh.Le (g g' : Gh) : Prop where
  cst : ∀ p ∈ g.cst, p ∈ g'.cst
  rho : ∀ (k : Nat) (a : Addr), g.rho[k]? = some a → g'.rho[k]? = some a
  tht : ∀ (k a : Nat), g.tht[k]? = some a → g'.tht[k]? = some a
theorem Gh.Le.refl (g : Gh) : g.Le g := ⟨fun _ h => h, fun _ _ h => h, fun _ _ h => h⟩
theorem Gh.Le.trans {g g' g'' : Gh} (x : g.Le g') (y : g'.Le g'') : g.Le g'' := ⟨fun p h => y.cst p (x.cst p h), fun k a h => y.rho k a (x.rho k a h), fun k a h => y.tht k a (x.tht k a h)⟩
section
variable {prog : Program} {w : World} {K : Frag} {cA : Nat → Addr} {g g' : Gh}
theorem VR.mono (x : g.Le g') {v : Value} {a : AV} (h : VR prog w K cA g v a) : VR prog w K cA g' v a :=
  VR.rec (motive_1 := fun v a _ => VR prog w K cA g' v a) (motive_2 := fun vs l _ => AllRel (VR prog w K cA g') vs l)
    (motive_3 := fun kvs d _ => KeyRel (VR prog w K cA g') kvs d) (motive_4 := fun es d _ => OwnRel (VR prog w K cA g') es d)
    .non .boo .int .str .ast .unk .bot (fun h _ r => .tup (h.imp (x.cst _) id) r) (fun h _ r => .lis (x.cst _ h) r) (fun h o l _ r => .dct (x.cst _ h) o l r)
    (fun c h o _ r => .obj c (x.cst _ h) (x.cst _ o) r) (fun h => .ref (x.rho _ _ h)) (fun h j _ r => .alt (x.tht _ _ h) j r)
    .nil (fun _ _ h r => .cons h r) .nil (fun c _ _ h r => .cons c h r) .nil (fun c _ _ h r => .cons c h r) h
theorem AllV.mono (x : g.Le g') {vs : List Value} {l : List AV} (h : AllRel (VR prog w K cA g) vs l) : AllRel (VR prog w K cA g') vs l :=
  AllRel.rec (motive := fun vs l _ => AllRel (VR prog w K cA g') vs l) .nil (fun h _ r => .cons (VR.mono x h) r) h
theorem KeyV.mono (x : g.Le g') {kvs : List (Str × Value)} {l : List (Nat × AV)} (h : KeyRel (VR prog w K cA g) kvs l) : KeyRel (VR prog w K cA g') kvs l :=
  KeyRel.rec (motive := fun vs l _ => KeyRel (VR prog w K cA g') vs l) .nil (fun c h _ r => .cons c (VR.mono x h) r) h
theorem OwnV.mono (x : g.Le g') {es : List DictEntry} {l : List (Nat × AV)} (h : OwnRel (VR prog w K cA g) es l) : OwnRel (VR prog w K cA g') es l :=
  OwnRel.rec (motive := fun vs l _ => OwnRel (VR prog w K cA g') vs l) .nil (fun c h _ r => .cons c (VR.mono x h) r) h
end
end Mine
end
section
open PySem PySem.W PyProof.Rows
namespace Mine
theorem eqB_true {x y : Bool} (h : eqB x y = true) : x = y := by cases x <;> cases y <;> first | rfl | cases h
theorem intB_true {x y : Int} (h : intB x y = true) : x = y := by
  cases x <;> cases y
  · exact congrArg Int.ofNat (beq_of h)
  · cases h
  · cases h
  · exact congrArg Int.negSucc (beq_of h)
theorem bool_rec_true {b f t : Bool} (h : @Bool.rec (fun _ => Bool) f t b = true) : (b = true ∧ t = true) ∨ (b = false ∧ f = true) := by cases b <;> simp_all
theorem synL_true {ih : AV → AV → Bool} (H : ∀ a b, ih a b = true → a = b) : ∀ l m : List AV, synL ih l m = true → l = m
  | [], [], _ => rfl
  | [], _ :: _, h => by cases h
  | _ :: _, [], h => by cases h
  | a :: l, b :: m, h => by
    have h : @Bool.rec (fun _ => Bool) false (synL ih l m) (ih a b) = true := h
    rcases bool_rec_true h with ⟨h1, h2⟩ | ⟨_, h2⟩
    · rw [H a b h1, synL_true H l m h2]
    · cases h2
theorem synD_true {ih : AV → AV → Bool} (H : ∀ a b, ih a b = true → a = b) : ∀ l m : List (Nat × AV), synD ih l m = true → l = m
  | [], [], _ => rfl
  | [], _ :: _, h => by cases h
  | _ :: _, [], h => by cases h
  | (c, a) :: l, (d, b) :: m, h => by
    have h : @Bool.rec (fun _ => Bool) false (@Bool.rec (fun _ => Bool) false (synD ih l m) (ih a b)) (Nat.beq c d) = true := h
    rcases bool_rec_true h with ⟨h1, h2⟩ | ⟨_, h2⟩
    · rcases bool_rec_true h2 with ⟨h3, h4⟩ | ⟨_, h4⟩
      · rw [beq_of h1, H a b h3, synD_true H l m h4]
      · cases h4
    · cases h2
theorem synS_true {ih : AV → AV → Bool} (H : ∀ a b, ih a b = true → a = b) : ∀ a b : AV, synS ih a b = true → a = b := by
  intro a b h
  cases a <;> cases b <;> try (first | rfl | (cases h; done))
  · exact congrArg AV.boo (eqB_true h)
  · exact congrArg AV.int (intB_true h)
  · exact congrArg AV.str (beq_of h)
  · exact congrArg AV.ast (beq_of h)
  · exact congrArg AV.tup (synL_true H _ _ h)
  · exact congrArg AV.lis (synL_true H _ _ h)
  · exact congrArg AV.dct (synD_true H _ _ h)
  · rename_i c l d m
    have h : @Bool.rec (fun _ => Bool) false (synD ih l m) (Nat.beq c d) = true := h
    rcases bool_rec_true h with ⟨h1, h2⟩ | ⟨_, h2⟩
    · rw [beq_of h1, synD_true H _ _ h2]
    · cases h2
  · exact congrArg AV.ref (beq_of h)
  · rename_i c l d m
    have h : @Bool.rec (fun _ => Bool) false (synL ih l m) (Nat.beq c d) = true := h
    rcases bool_rec_true h with ⟨h1, h2⟩ | ⟨_, h2⟩
    · rw [beq_of h1, synL_true H _ _ h2]
    · cases h2
theorem syn_true : ∀ (n : Nat) (a b : AV), syn n a b = true → a = b
  | 0, _, _, h => by cases h
  | n + 1, a, b, h => synS_true (syn_true n) a b h
theorem same_true {a b : AV} (h : same a b = true) : a = b := syn_true 12 a b h
theorem sameAt_true {l : List AV} {j j' : Nat} {a : AV} (h : sameAt l j a j' = true) : j = j' ∨ ∃ b, nth l j' = some b ∧ same a b = true := by
  have h : @Bool.rec (fun _ => Bool) (@Option.rec AV (fun _ => Bool) false (fun b => same a b) (nth l j')) true (Nat.beq j j') = true := h
  rcases bool_rec_true h with ⟨h1, _⟩ | ⟨_, h2⟩
  · exact .inl (beq_of h1)
  · cases q : nth l j' with
    | none => rw [q] at h2; cases h2
    | some b => rw [q] at h2; exact .inr ⟨b, rfl, h2⟩
theorem sameAt_self (l : List AV) (j : Nat) (a : AV) : sameAt l j a j = true := by
  show @Bool.rec (fun _ => Bool) _ true (Nat.beq j j) = true
  rw [beq_self]
theorem sameAt_of {l : List AV} {j j' : Nat} {a b : AV} (h : nth l j' = some b) (q : same a b = true) : sameAt l j a j' = true := by
  show @Bool.rec (fun _ => Bool) (@Option.rec AV (fun _ => Bool) false (fun b => same a b) (nth l j')) true (Nat.beq j j') = true
  rw [h]
  cases Nat.beq j j'
  · exact q
  · rfl
inductive Blk where
  | lst (a : Addr) (vs : List Value) (n : Nat)
  | dic (a : Addr) (o : Obj)
  | ins (a dx C : Addr) (es : List DictEntry) (n : Nat)
  | gone (a : Addr)
noncomputable def Blk.addr : Blk → Addr
  | .lst a _ _ => a
  | .dic a _ => a
  | .ins a _ _ _ _ => a
  | .gone a => a
noncomputable def Blk.objs : Blk → List (Addr × Obj)
  | .lst a vs n => [(a, listOf vs.toArray n)]
  | .dic a o => [(a, o)]
  | .ins a dx C es n => [(a, instObj C dx), (dx, dictOf es n)]
  | .gone _ => []
noncomputable def ledger (real : List Blk) : List (Addr × Obj) := real.flatMap Blk.objs
section
variable (prog : Program) (w : World) (K : Frag) (cA : Nat → Addr)
inductive BRel (g : Gh) : Blk → AO → Prop where
  | lst {a : Addr} {vs : List Value} {n : Nat} {l : List AV} : AllRel (VR prog w K cA g) vs l → BRel g (.lst a vs n) (.lst l)
  | dic {a : Addr} {o : Obj} {kvs : List (Str × Value)} {d : List (Nat × AV)} : o.IsDictOf (strKind prog w) kvs → (a == sysModules) = false → KeyRel (VR prog w K cA g) kvs d → BRel g (.dic a o) (.dic d)
  | ins {a dx : Addr} {c : Nat} {es : List DictEntry} {n : Nat} {d : List (Nat × AV)} : c ∈ clsL → OwnRel (VR prog w K cA g) es d → BRel g (.ins a dx (cA c) es n) (.ins c d)
structure AR (g : Gh) (real : List Blk) (st : St) : Prop where
  rho : g.rho = real.map Blk.addr
  hn : real.length = st.hn
  ob : ∀ k o, st.H.get k = some o → ∃ b, real[k]? = some b ∧ BRel prog w K cA g b o
  kn : ∀ i S, look i st.known = some S → ∃ j, g.tht[i]? = some j ∧ j ∈ S
  nv : g.tht.length = st.nv
end
structure Sm (st st' : St) : Prop where
  loc : st'.loc = st.loc
  H : st'.H = st.H
  hn : st'.hn = st.hn
  nv : st'.nv = st.nv
theorem Sm.refl (st : St) : Sm st st := ⟨rfl, rfl, rfl, rfl⟩
theorem Sm.trans {a b c : St} (x : Sm a b) (y : Sm b c) : Sm a c := ⟨y.loc.trans x.loc, y.H.trans x.H, y.hn.trans x.hn, y.nv.trans x.nv⟩
theorem Sm.setK (i : Nat) (G : List Nat) (st : St) : Sm st (setK i G st) := ⟨rfl, rfl, rfl, rfl⟩
section
variable {prog : Program} {w : World} {K : Frag} {cA : Nat → Addr} {g g' : Gh} {real : List Blk} {st : St}
theorem BRel.mono (x : g.Le g') {b : Blk} {o : AO} (h : BRel prog w K cA g b o) : BRel prog w K cA g' b o := by
  cases h with
  | lst h => exact .lst (AllV.mono x h)
  | dic h l r => exact .dic h l (KeyV.mono x r)
  | ins c h => exact .ins c (OwnV.mono x h)
theorem AR.setK (R : AR prog w K cA g real st) {i j : Nat} {G : List Nat} (h : g.tht[i]? = some j) (hj : j ∈ G) : AR prog w K cA g real (setK i G st) where
  rho := R.rho
  hn := R.hn
  ob := R.ob
  kn := fun i' S q => by
    have q : look i' (put i G st.known) = some S := q
    rw [look_put] at q
    by_cases e : i' = i
    · rw [if_pos e] at q; cases q; subst e; exact ⟨j, h, hj⟩
    · rw [if_neg e] at q; exact R.kn i' S q
  nv := R.nv
theorem AR.grow (R : AR prog w K cA g real st) (x : g.Le g') (hr : g'.rho = g.rho) (ht : g'.tht = g.tht) : AR prog w K cA g' real st where
  rho := hr.trans R.rho
  hn := R.hn
  ob := fun k o q => let ⟨b, h1, h2⟩ := R.ob k o q; ⟨b, h1, h2.mono x⟩
  kn := fun i S q => by rw [ht]; exact R.kn i S q
  nv := by rw [ht]; exact R.nv
theorem mem_rngN : ∀ (m n j : Nat), n ≤ j → j < n + m → j ∈ rngN n m
  | 0, n, j, h1, h2 => by omega
  | m + 1, n, j, h1, h2 => by
    show j ∈ n :: rngN (n + 1) m
    by_cases e : j = n
    · rw [e]; exact .head _
    · exact .tail _ (mem_rngN m (n + 1) j (by omega) (by omega))
theorem nth_lt {α : Type} {l : List α} {j : Nat} {a : α} (h : nth l j = some a) : j < l.length := by
  rw [nth_eq] at h
  exact (List.getElem?_eq_some_iff.mp h).1
theorem mem_places (R : AR prog w K cA g real st) {i j : Nat} {l : List AV} {a : AV} (h : g.tht[i]? = some j) (hj : nth l j = some a) : j ∈ places i l st := by
  show j ∈ @Option.rec (List Nat) (fun _ => List Nat) (rngN 0 (lenL l)) (fun S => S) (look i st.known)
  cases q : look i st.known with
  | none => exact mem_rngN _ 0 j (Nat.zero_le _) (by rw [lenL_eq, Nat.zero_add]; exact nth_lt hj)
  | some S =>
    obtain ⟨j', h1, h2⟩ := R.kn i S q
    rw [h] at h1; cases h1; exact h2
noncomputable def Hand (i : Nat) (l : List AV) (S : List Nat) (st : St) (k : K1) (j : Nat) : Prop :=
  ∃ b, nth l j = some b ∧ ∀ j1 ∈ S, sameAt l j b j1 = true → ∃ G, j1 ∈ G ∧ k b (setK i G st) = true
theorem ways_hand {i : Nat} {l : List AV} {S : List Nat} {st : St} {k : K1} : ∀ (R done : List Nat), (∀ j ∈ done, Hand i l S st k j) → ways i l S st k R done = true → ∀ j ∈ R, Hand i l S st k j
  | [], _, _, _ => fun _ h => nomatch h
  | j :: r, done, hd, h => by
    have h : @Option.rec AV (fun _ => Bool) false (fun a => @Bool.rec (fun _ => Bool) (@Bool.rec (fun _ => Bool) false (ways i l S st k r (j :: done)) (k a (setK i (filL (sameAt l j a) S) st))) (ways i l S st k r (j :: done)) (anyL (sameAt l j a) done)) (nth l j) = true := h
    cases q : nth l j with
    | none => rw [q] at h; cases h
    | some a =>
      rw [q] at h
      have h : @Bool.rec (fun _ => Bool) (@Bool.rec (fun _ => Bool) false (ways i l S st k r (j :: done)) (k a (setK i (filL (sameAt l j a) S) st))) (ways i l S st k r (j :: done)) (anyL (sameAt l j a) done) = true := h
      have main : Hand i l S st k j ∧ ways i l S st k r (j :: done) = true := by
        rcases bool_rec_true h with ⟨h1, h2⟩ | ⟨_, h2⟩
        · refine ⟨?_, h2⟩
          rw [anyL_eq, List.any_eq_true] at h1
          obtain ⟨j', hj', e⟩ := h1
          obtain ⟨b', hb', H⟩ := hd j' hj'
          refine ⟨a, q, fun j1 hj1 e1 => ?_⟩
          rcases sameAt_true e with rfl | ⟨b, hb, e2⟩
          · rw [q] at hb'; cases hb'
            exact H j1 hj1 e1
          · rw [hb] at hb'; cases hb'
            have ab := same_true e2
            subst ab
            refine H j1 hj1 ?_
            rcases sameAt_true e1 with rfl | ⟨b1, hb1, e3⟩
            · exact sameAt_of q e2
            · exact sameAt_of hb1 e3
        · rcases bool_rec_true h2 with ⟨h3, h4⟩ | ⟨_, h4⟩
          · refine ⟨⟨a, q, fun j1 hj1 e1 => ⟨_, ?_, h3⟩⟩, h4⟩
            rw [filL_eq, List.mem_filter]
            exact ⟨hj1, e1⟩
          · cases h4
      intro j0 hj0
      rcases List.mem_cons.mp hj0 with rfl | hj0
      · exact main.1
      · refine ways_hand r (j :: done) (fun j' hj' => ?_) main.2 j0 hj0
        rcases List.mem_cons.mp hj' with rfl | hj'
        · exact main.1
        · exact hd j' hj'
theorem resAlt_sound (R : AR prog w K cA g real st) {v : Value} {i : Nat} {l : List AV} {k : K1} (V : VR prog w K cA g v (.alt i l)) (h : resAlt i l st k = true) :
    ∃ b st', AR prog w K cA g real st' ∧ Sm st st' ∧ VR prog w K cA g v b ∧ k b st' = true := by
  cases V with
  | alt ht hj hv =>
    rename_i j a
    have hm := mem_places R ht hj
    obtain ⟨b, hb, H⟩ := ways_hand (places i l st) [] (fun _ q => nomatch q) h j hm
    rw [hj] at hb; cases hb
    obtain ⟨G, hG, hk⟩ := H j hm (sameAt_self l j a)
    exact ⟨a, _, R.setK ht hG, Sm.setK i G st, hv, hk⟩
theorem res_sound (R : AR prog w K cA g real st) {v : Value} {a : AV} {k : K1} (V : VR prog w K cA g v a) (h : res a st k = true) :
    ∃ b st', AR prog w K cA g real st' ∧ Sm st st' ∧ VR prog w K cA g v b ∧ k b st' = true := by
  cases a with
  | alt i l => exact resAlt_sound R V h
  | _ => exact ⟨_, st, R, Sm.refl st, V, h⟩
theorem mapAt_nth {f : AV → Option AV} {S : List Nat} : ∀ (l m : List AV) (n j : Nat) (a : AV), mapAt f S l n = some m → nth l j = some a → n + j ∈ S → ∃ b, f a = some b ∧ nth m j = some b
  | [], m, n, j, a, _, h2, _ => by cases j <;> cases h2
  | x :: r, m, n, j, a, h, h2, h3 => by
    have h : @Option.rec (List AV) (fun _ => Option (List AV)) none (fun m => @Bool.rec (fun _ => Option (List AV)) (some (.bot :: m)) (@Option.rec AV (fun _ => Option (List AV)) none (fun b => some (b :: m)) (f x)) (anyL (Nat.beq n) S)) (mapAt f S r (n + 1)) = some m := h
    cases q : mapAt f S r (n + 1) with
    | none => rw [q] at h; cases h
    | some m' =>
      rw [q] at h
      have h : @Bool.rec (fun _ => Option (List AV)) (some (.bot :: m')) (@Option.rec AV (fun _ => Option (List AV)) none (fun b => some (b :: m')) (f x)) (anyL (Nat.beq n) S) = some m := h
      cases j with
      | succ j =>
        obtain ⟨b, h4, h5⟩ := mapAt_nth r m' (n + 1) j a q h2 (by rw [Nat.add_assoc, Nat.add_comm 1 j]; exact h3)
        refine ⟨b, h4, ?_⟩
        cases z : anyL (Nat.beq n) S with
        | false => rw [z] at h; cases h; exact h5
        | true =>
          rw [z] at h
          cases y : f x with
          | none => rw [y] at h; cases h
          | some c => rw [y] at h; cases h; exact h5
      | zero =>
        cases h2
        have z : anyL (Nat.beq n) S = true := by
          rw [anyL_eq, List.any_eq_true]
          exact ⟨n, h3, beq_self n⟩
        rw [z] at h
        cases y : f x with
        | none => rw [y] at h; cases h
        | some c => rw [y] at h; cases h; exact ⟨c, rfl, rfl⟩
theorem oneOf_all {l : List AV} {S : List Nat} {a b : AV} {j : Nat} (h : oneOf l S = some a) (hj : j ∈ S) (hb : nth l j = some b) : a = b := by
  cases S with
  | nil => cases hj
  | cons j0 r =>
    have h : @Option.rec AV (fun _ => Option AV) none (fun a => @Bool.rec (fun _ => Option AV) none (some a) (allL (sameAt l j0 a) r)) (nth l j0) = some a := h
    cases q : nth l j0 with
    | none => rw [q] at h; cases h
    | some x =>
      rw [q] at h
      have h : @Bool.rec (fun _ => Option AV) none (some x) (allL (sameAt l j0 x) r) = some a := h
      cases z : allL (sameAt l j0 x) r with
      | false => rw [z] at h; cases h
      | true =>
        rw [z] at h; cases h
        rcases List.mem_cons.mp hj with rfl | hj
        · rw [q] at hb; cases hb; rfl
        · rw [allL_eq, List.all_eq_true] at z
          rcases sameAt_true (z j hj) with rfl | ⟨c, hc, e⟩
          · rw [q] at hb; cases hb; rfl
          · rw [hb] at hc; cases hc; exact same_true e
theorem mkAlt_sound {v : Value} {i j : Nat} {l : List AV} {S : List Nat} {b : AV} (ht : g.tht[i]? = some j) (hj : j ∈ S) (hb : nth l j = some b) (V : VR prog w K cA g v b) : VR prog w K cA g v (mkAlt i l S) := by
  show VR prog w K cA g v (@Option.rec AV (fun _ => AV) (.alt i l) (fun a => a) (oneOf l S))
  cases q : oneOf l S with
  | none => exact .alt ht hb V
  | some a => rw [oneOf_all q hj hb]; exact V
noncomputable def notAlt : AV → Prop
  | .alt _ _ => False
  | _ => True
theorem lift_sound (R : AR prog w K cA g real st) (f : AV → St → Option AV) : ∀ (n : Nat) {v : Value} {a r : AV}, VR prog w K cA g v a → lift f n a st = some r →
    ∃ b rb, VR prog w K cA g v b ∧ notAlt b ∧ f b st = some rb ∧ ∀ g', g.Le g' → ∀ u, VR prog w K cA g' u rb → VR prog w K cA g' u r
  | 0, _, _, _, _, h => by cases h
  | n + 1, v, a, r, V, h => by
    cases a with
    | alt i l =>
      have h : @Option.rec (List AV) (fun _ => Option AV) none (fun m => some (mkAlt i m (places i l st))) (mapAt (fun a => lift f n a st) (places i l st) l 0) = some r := h
      cases q : mapAt (fun a => lift f n a st) (places i l st) l 0 with
      | none => rw [q] at h; cases h
      | some m =>
        rw [q] at h; cases h
        cases V with
        | alt ht hj hv =>
          rename_i j a'
          have hm := mem_places R ht hj
          obtain ⟨rj, h1, h2⟩ := mapAt_nth l m 0 j a' q hj (by rw [Nat.zero_add]; exact hm)
          obtain ⟨b, rb, h3, h4, h5, h6⟩ := lift_sound R f n hv h1
          exact ⟨b, rb, h3, h4, h5, fun g' x u hu => mkAlt_sound (x.tht _ _ ht) hm h2 (h6 g' x u hu)⟩
    | _ => exact ⟨_, r, V, trivial, h, fun _ _ _ hu => hu⟩
end
end Mine
end
section
open PySem PySem.W PyProof.Rows PySem.Calls
namespace Mine
inductive VarAt (env : Env) (L : Addr) (m : Str → Option Value) (cells : List (Addr × Obj)) (x : Str) (v : Value) : Prop where
  | loc : env.locals = L → env.scope.kind = .function → env.kindOf x = some .local → m x = some v → VarAt env L m cells x v
  | cel {c : Addr} {o : Obj} : env.scope.kind = .function → env.kindOf x = some .cell → env.cells.lookup x = some c → (c, o) ∈ cells → o.data = .cell (some v) → VarAt env L m cells x v
  | fre {c : Addr} {o : Obj} : env.scope.kind = .function → env.kindOf x = some .free → (x == ("__classdict__" : Str)) = false → env.cells.lookup x = some c → (c, o) ∈ cells → o.data = .cell (some v) → VarAt env L m cells x v
  | com {mc : Str → Option Value} {o : Obj} : env.scope.kind = .function → env.kindOf x = some .local → (env.locals, o) ∈ cells → (∀ h : Heap, h.get? env.locals = some o → h.Ns env.locals mc) → mc x = some v → VarAt env L m cells x v
structure Rst (r s : Shared) : Prop where
  gens : s.gens = r.gens
  drawn : s.drawn = r.drawn
  os : s.os = r.os
theorem Rst.self (s : Shared) : Rst s s := ⟨rfl, rfl, rfl⟩
theorem Rst.heap {r s : Shared} (x : Rst r s) (h : Heap) : Rst r { s with heap := h } := ⟨x.1, x.2, x.3⟩
theorem Rst.toks {r s : Shared} (x : Rst r s) (h : Heap) (t : Nat) : Rst r { s with heap := h, toks := t } := ⟨x.1, x.2, x.3⟩
noncomputable abbrev led (oth cells : List (Addr × Obj)) (g : Gh) (real : List Blk) : List (Addr × Obj) := cells ++ (oth ++ (g.cst ++ ledger real))
structure HR (h₀ : Heap) (L : Addr) (rst : Shared) (oth cells : List (Addr × Obj)) (g : Gh) (real : List Blk) (m : Str → Option Value) (s : Shared) : Prop where
  fr : Fr h₀ L s.heap m
  ns : News h₀ L s.heap (led oth cells g real)
  nd : ((led oth cells g real).map (·.1)).Nodup
  rst : Rst rst s
section
variable (prog : Program) (w : World) (K : Frag) (cA : Nat → Addr) (p : Program) (loose : List Str) (mean : ExcName → Option Value) (mg mb : Str → Option Value)
noncomputable def LR (env : Env) (L : Addr) (m : Str → Option Value) (cells : List (Addr × Obj)) (g : Gh) (loc : List (Nat × AV)) : Prop :=
  ∀ x a, look x loc = some a → x < tabN ∧ ∃ v, VarAt env L m cells (nm x) v ∧ VR prog w K cA g v a
structure Ctx (cs : Scope) (A : Around) (env : Env) (h₀ : Heap) (n : Nat) : Prop where
  kin : K.In h₀
  top : Top p loose mean mg mb h₀
  hd : A.handled = none
  kind : env.scope.kind = .function
  dep : A.depth + 3 * n + 3 < recursionLimit
  un : A.units + 16 * n + 200 < cLine
  sc : env.scope = cs
  gl : env.globals = mainGlobals
noncomputable def SndP (cs : Scope) (c : PC) (e : Expr) : Prop :=
  ∀ (A : Around) (env : Env) (L : Addr) (h₀ : Heap) (n : Nat), Ctx K p loose mean mg mb cs A env h₀ n →
  ∀ (rst : Shared) (oth cells : List (Addr × Obj)) (g : Gh) (real : List Blk) (m : Str → Option Value) (st : St) (s : Shared),
    HR h₀ L rst oth cells g real m s → AR prog w K cA g real st → LR prog w K cA env L m cells g st.loc →
  ∀ r, c st = some r → ∀ (Q E : Value → Shared → Prop),
    (∀ v g' s', HR h₀ L rst oth cells g' real m s' → g.Le g' → g'.rho = g.rho → g'.tht = g.tht → VR prog w K cA g' v r → Q v s') →
    wpAny (model prog w) A (eval e env) Q E s
end
section
variable {prog : Program} {w : World} {K : Frag} {cA : Nat → Addr} {p : Program} {loose : List Str} {mean : ExcName → Option Value} {mg mb : Str → Option Value}
variable {g g' : Gh} {real : List Blk} {st : St} {cs : Scope} {h₀ : Heap} {L : Addr} {rst s : Shared} {oth cells : List (Addr × Obj)} {m : Str → Option Value}
theorem LR.mono {env : Env} {loc : List (Nat × AV)} (x : g.Le g') (h : LR prog w K cA env L m cells g loc) : LR prog w K cA env L m cells g' loc :=
  fun i a q => let ⟨lt, v, h1, h2⟩ := h i a q; ⟨lt, v, h1, h2.mono x⟩
theorem HR.toks (H : HR h₀ L rst oth cells g real m s) (t : Nat) : HR h₀ L rst oth cells g real m { s with toks := t } := ⟨H.fr, H.ns, H.nd, ⟨H.rst.1, H.rst.2, H.rst.3⟩⟩
noncomputable def Gh.add (g : Gh) (ps : List (Addr × Obj)) : Gh := ⟨g.cst ++ ps, g.rho, g.tht⟩
theorem Gh.le_add (g : Gh) (ps : List (Addr × Obj)) : g.Le (g.add ps) := ⟨fun _ h => List.mem_append_left _ h, fun _ _ h => h, fun _ _ h => h⟩
theorem led_add (ps : List (Addr × Obj)) : ∀ q ∈ led oth cells (g.add ps) real, q ∈ ps ++ led oth cells g real := by
  intro q h
  simp only [led, Gh.add, List.mem_append] at h ⊢
  rcases h with h | h | (h | h) | h
  · exact .inr (.inl h)
  · exact .inr (.inr (.inl h))
  · exact .inr (.inr (.inr (.inl h)))
  · exact .inl h
  · exact .inr (.inr (.inr (.inr h)))
theorem led_add_perm (ps : List (Addr × Obj)) : (led oth cells (g.add ps) real).Perm (ps ++ led oth cells g real) := by
  show (cells ++ (oth ++ ((g.cst ++ ps) ++ ledger real))).Perm (ps ++ (cells ++ (oth ++ (g.cst ++ ledger real))))
  rw [List.append_assoc g.cst ps]
  refine (List.Perm.append_left cells ((List.Perm.append_left oth (List.perm_append_comm_assoc g.cst ps (ledger real))).trans (List.perm_append_comm_assoc oth ps _))).trans ?_
  exact List.perm_append_comm_assoc cells ps _
theorem HR.addCst (H : HR h₀ L rst oth cells g real m s) {h' : Heap} {a : Addr} {o : Obj} {t : Nat} (F : Fr h₀ L h' m) (N : News h₀ L h' ((a, o) :: led oth cells g real)) (lt : ∀ q ∈ led oth cells g real, q.1 < a) :
    HR h₀ L rst oth cells (g.add [(a, o)]) real m { s with heap := h', toks := t } := by
  refine ⟨F, fun q hq => N q (led_add [(a, o)] q hq), ?_, H.rst.toks _ _⟩
  have e : ((led oth cells (g.add [(a, o)]) real).map (·.1)).Perm (a :: (led oth cells g real).map (·.1)) := (led_add_perm [(a, o)]).map _
  refine e.nodup_iff.mpr (List.nodup_cons.mpr ⟨fun q => ?_, H.nd⟩)
  obtain ⟨x, hx, e⟩ := List.mem_map.mp q
  exact absurd (lt x hx) (by rw [e]; exact Nat.lt_irrefl _)
theorem AllRel.length {V : Value → AV → Prop} {vs : List Value} {l : List AV} (h : AllRel V vs l) : vs.length = l.length := by
  induction h with
  | nil => rfl
  | cons _ _ ih => rw [List.length_cons, List.length_cons, ih]
theorem AllRel.get {V : Value → AV → Prop} {vs : List Value} {l : List AV} (h : AllRel V vs l) : ∀ {j : Nat} {a : AV}, nth l j = some a → ∃ v, vs[j]? = some v ∧ V v a := by
  induction h with
  | nil => intro j a q; cases j <;> cases q
  | cons hv _ ih =>
    intro j a q
    cases j with
    | zero => cases q; exact ⟨_, rfl, hv⟩
    | succ j => exact ih q
theorem sndP_none {k : Nat} {pos : Pos} : SndP prog w K cA p loose mean mg mb cs (pCon .non) (.Constant .none k pos) :=
  fun _ _ _ _ _ _ _ _ _ _ _ _ _ _ H _ _ r e Q E q => by cases e; exact wpAny_Constant_none (q _ _ _ H (Gh.Le.refl _) rfl rfl .non)
theorem sndP_bool {b : Bool} {k : Nat} {pos : Pos} : SndP prog w K cA p loose mean mg mb cs (pCon (.boo b)) (.Constant (.bool b) k pos) :=
  fun _ _ _ _ _ _ _ _ _ _ _ _ _ _ H _ _ r e Q E q => by cases e; exact wpAny_Constant_bool (q _ _ _ H (Gh.Le.refl _) rfl rfl (.boo b))
theorem sndP_int {i : Int} {k : Nat} {pos : Pos} : SndP prog w K cA p loose mean mg mb cs (pCon (.int i)) (.Constant (.int i) k pos) :=
  fun _ _ _ _ _ _ _ _ _ _ _ _ _ _ H _ _ r e Q E q => by cases e; exact wpAny_Constant_int (q _ _ _ (H.toks _) (Gh.Le.refl _) rfl rfl (.int i _))
theorem sndP_str {x : Str} {c : Nat} {k : Nat} {pos : Pos} (hx : x = nm c) (hc : c < tabN) : SndP prog w K cA p loose mean mg mb cs (pCon (.str c)) (.Constant (.str x) k pos) :=
  fun _ _ _ _ _ _ _ _ _ _ _ _ _ _ H _ _ r e Q E q => by cases e; subst hx; exact wpAny_Constant_str (q _ _ _ (H.toks _) (Gh.Le.refl _) rfl rfl (.str c _ hc))
theorem read_var {A : Around} {env : Env} {x : Str} {v : Value} {pos : Pos} {Q E : Value → Shared → Prop} (H : HR h₀ L rst oth cells g real m s)
    (V : VarAt env L m cells x v) (hd : (x == ("__debug__" : Str)) = false) (h : Q v s) : wpAny (model prog w) A (eval (.Name x pos) env) Q E s := by
  cases V with
  | loc hl hk h1 h2 => exact wpAny_Name (wpAny_loadName_local hk h1 (hl ▸ H.fr.ns) h2 h) hd
  | cel hk h1 h2 h3 h4 => exact wpAny_Name (wpAny_loadName_cell hk h1 h2 ⟨_, H.ns.get (List.mem_append_left _ h3), h4⟩ h) hd
  | fre hk h1 hn h2 h3 h4 => exact wpAny_Name (wpAny_loadName_free hk h1 h2 ⟨_, H.ns.get (List.mem_append_left _ h3), h4⟩ h hn) hd
  | com hk h1 h2 h3 h4 => exact wpAny_Name (wpAny_loadName_local hk h1 (h3 _ (H.ns.get (List.mem_append_left _ h2))) h4 h) hd
theorem sndP_loc {x : Str} {c : Nat} {pos : Pos} (hx : x = nm c) (hd : (x == ("__debug__" : Str)) = false) : SndP prog w K cA p loose mean mg mb cs (pLoc c) (.Name x pos) :=
  fun _ _ _ _ _ C _ _ _ _ _ _ _ _ H _ R r e Q E q => by
    obtain ⟨_, v, h1, h2⟩ := R c r e
    exact read_var H (hx ▸ h1) hd (q v _ _ H (Gh.Le.refl _) rfl rfl h2)
noncomputable def SndPs (prog : Program) (w : World) (K : Frag) (cA : Nat → Addr) (p : Program) (loose : List Str) (mean : ExcName → Option Value) (mg mb : Str → Option Value) (cs : Scope) (c : St → Option (List AV)) (es : List Expr) : Prop :=
  ∀ (A : Around) (env : Env) (L : Addr) (h₀ : Heap) (n : Nat), Ctx K p loose mean mg mb cs A env h₀ n →
  ∀ (rst : Shared) (oth cells : List (Addr × Obj)) (g : Gh) (real : List Blk) (m : Str → Option Value) (st : St) (s : Shared),
    HR h₀ L rst oth cells g real m s → AR prog w K cA g real st → LR prog w K cA env L m cells g st.loc →
  ∀ r, c st = some r → ∀ (pos : Pos) (Q : List Value → Shared → Prop) (E : Value → Shared → Prop),
    (∀ vs g' s', HR h₀ L rst oth cells g' real m s' → g.Le g' → g'.rho = g.rho → g'.tht = g.tht → AllRel (VR prog w K cA g') vs r → vs.length = es.length → Q vs s') →
    wpAny (model prog w) A (spliced (backTo pos (starEach es env))) Q E s
theorem sndPs_nil : SndPs prog w K cA p loose mean mg mb cs pNil [] :=
  fun _ _ _ _ _ _ _ _ _ _ _ _ _ _ H _ _ r e pos Q E q => by cases e; exact spliced_none (q [] _ _ H (Gh.Le.refl _) rfl rfl .nil rfl)
noncomputable def notStar : Expr → Bool
  | .Starred .. => false
  | _ => true
theorem star_cons {e : Expr} {es : List Expr} {env : Env} (h : notStar e = true) : starEach (e :: es) env = (false, eval e env) :: starEach es env := by
  cases e <;> first | rfl | cases h
theorem opt_bind_some {α β : Type} {x : Option α} {f : α → Option β} {r : β} (h : @Option.rec α (fun _ => Option β) none f x = some r) : ∃ a, x = some a ∧ f a = some r := by
  cases x with
  | none => cases h
  | some a => exact ⟨a, rfl, h⟩
theorem sndPs_cons {c : PC} {d : St → Option (List AV)} {e : Expr} {es : List Expr} (hs : notStar e = true) (hc : SndP prog w K cA p loose mean mg mb cs c e) (hd : SndPs prog w K cA p loose mean mg mb cs d es) :
    SndPs prog w K cA p loose mean mg mb cs (pCons c d) (e :: es) :=
  fun A env L h₀ n C rst oth cells g real m st s H R LL r e' pos Q E q => by
    obtain ⟨a1, h1, e'⟩ := opt_bind_some e'
    obtain ⟨l1, h2, e'⟩ := opt_bind_some e'
    cases e'
    refine spliced_more ?_ (star_cons hs)
    refine hc A env L h₀ n C rst oth cells g real m st s H R LL a1 h1 _ _ fun v g1 s1 H1 x1 r1 t1 V1 => ?_
    refine hd A env L h₀ n C rst oth cells g1 real m st s1 H1 (R.grow x1 r1 t1) (LL.mono x1) l1 h2 pos _ _ fun vs g2 s2 H2 x2 r2 t2 V2 hl => ?_
    exact q (v :: vs) g2 s2 H2 (x1.trans x2) (r2.trans r1) (t2.trans t1) (.cons (V1.mono x2) V2) (by rw [List.length_cons, List.length_cons, hl])
theorem sndP_tup {c : St → Option (List AV)} {es : List Expr} {k : Nat} {pos : Pos} (hc : SndPs prog w K cA p loose mean mg mb cs c es) (hl : es.length ≤ 1000) : SndP prog w K cA p loose mean mg mb cs (pTup c) (.Tuple es k pos) :=
  fun A env L h₀ n C rst oth cells g real m st s H R LL r e Q E q => by
    obtain ⟨l1, h1, e⟩ := opt_bind_some e
    cases e
    refine Tuple_ (hc A env L h₀ n C rst oth cells g real m st s H R LL l1 h1 pos _ _ fun vs g1 s1 H1 x1 r1 t1 V1 hv => ?_)
    refine newTuple_N H1.fr H1.ns (fun h' F' N' => ?_) (by rw [sizeLine_eq]; omega)
    have lt : ∀ q ∈ led oth cells g1 real, q.1 < s1.heap.objs.size := fun q hq => Heap.lt_size (H1.ns q hq).1
    refine q _ (g1.add [(s1.heap.objs.size, tupO vs)]) _ (H1.addCst (t := s1.toks) F' N' lt) (x1.trans (Gh.le_add _ _)) r1 t1 ?_
    exact .tup (.inl (List.mem_append_right _ (.head _))) (AllV.mono (Gh.le_add _ _) V1)
end
end Mine
end
section
open PySem PySem.W PyProof.Rows PySem.Calls
namespace Mine
theorem tab_nodup : (tab.map Str.ofString).Nodup := by decide +kernel
theorem tab_len : tab.length = tabN := by decide +kernel
theorem nm_eq (c : Nat) (h : c < tabN) : nm c = (tab.map Str.ofString)[c]'(by rw [List.length_map, tab_len]; exact h) := by
  have e : nth tab c = some (tab[c]'(by rw [tab_len]; exact h)) := by rw [nth_eq]; exact List.getElem?_eq_getElem _
  show (match nth tab c with | some s => Str.ofString s | none => Str.ofString "") = _
  rw [e, List.getElem_map]
theorem nm_inj {c d : Nat} (hc : c < tabN) (hd : d < tabN) (h : nm c = nm d) : c = d := by
  rw [nm_eq c hc, nm_eq d hd] at h
  exact (List.getElem_inj tab_nodup).mp h
section
variable {prog : Program} {w : World} {K : Frag} {cA : Nat → Addr} {p : Program} {loose : List Str} {mean : ExcName → Option Value} {mg mb : Str → Option Value}
variable {g g' : Gh} {real : List Blk} {st : St} {cs : Scope} {h₀ : Heap} {L : Addr} {rst s : Shared} {oth cells : List (Addr × Obj)} {m : Str → Option Value}
theorem VR.handed {v : Value} {a : AV} (h : VR prog w K cA g v a) : handedIn v = true :=
  VR.rec (motive_1 := fun v _ _ => handedIn v = true) (motive_2 := fun _ _ _ => True) (motive_3 := fun _ _ _ => True) (motive_4 := fun _ _ _ => True)
    rfl (fun _ => rfl) (fun _ _ => rfl) (fun _ _ _ => rfl) (fun _ _ _ _ _ => rfl) (fun _ _ _ => rfl) rfl (fun _ _ _ => rfl) (fun _ _ _ => rfl) (fun _ _ _ _ _ => rfl) (fun _ _ _ _ _ => rfl)
    (fun _ => rfl) (fun _ _ _ h => h) trivial (fun _ _ _ _ => trivial) trivial (fun _ _ _ _ _ => trivial) trivial (fun _ _ _ _ _ => trivial) h
theorem getL_some {n : Str} {es : List DictEntry} {e : DictEntry} (h : es.find? (·.key.isStr n) = some e) : getL n es = some (some e.val) := by
  show (match es.find? (·.key.isStr n) with | some e => some (some e.val) | none => if es.any (·.refKey) then none else some none) = _
  rw [h]
theorem own_get {V : Value → AV → Prop} {es : List DictEntry} {d : List (Nat × AV)} (h : OwnRel V es d) {n : Nat} {a : AV} (hn : n < tabN) (q : look n d = some a) : ∃ v, getL (nm n) es = some (some v) ∧ V v a := by
  have key : ∃ e, es.find? (·.key.isStr (nm n)) = some e ∧ V e.val a := by
    induction h with
    | nil => cases q
    | cons hc hv _ ih =>
      rename_i c v' a' hh t es' d' _
      rw [look_cons] at q
      by_cases e : n = c
      · rw [if_pos e] at q; cases q
        refine ⟨⟨hh, .str (nm c) t, v'⟩, ?_, hv⟩
        rw [List.find?_cons_of_pos]
        show (nm c == nm n) = true
        rw [e]; exact beq_self_eq_true _
      · rw [if_neg e] at q
        obtain ⟨en, h1, h2⟩ := ih q
        refine ⟨en, ?_, h2⟩
        rw [List.find?_cons_of_neg]
        · exact h1
        · show ¬ (nm c == nm n) = true
          intro z
          exact e (nm_inj hn hc (eq_of_beq z).symm)
  obtain ⟨e, h1, h3⟩ := key
  exact ⟨e.val, getL_some h1, h3⟩
theorem key_get {V : Value → AV → Prop} {kvs : List (Str × Value)} {d : List (Nat × AV)} (h : KeyRel V kvs d) {n : Nat} {a : AV} (hn : n < tabN) (q : look n d = some a) : ∃ v, valueAt kvs (nm n) = some v ∧ V v a := by
  induction h with
  | nil => cases q
  | cons hc hv _ ih =>
    rename_i c v' a' kvs' d' _
    rw [look_cons] at q
    by_cases e : n = c
    · rw [if_pos e] at q; cases q
      refine ⟨v', ?_, hv⟩
      unfold valueAt
      rw [List.find?_cons_of_pos (by simp [e])]; rfl
    · rw [if_neg e] at q
      obtain ⟨v, h1, h2⟩ := ih q
      refine ⟨v, ?_, h2⟩
      unfold valueAt
      rw [List.find?_cons_of_neg]
      · exact h1
      · simp only [decide_eq_true_eq]
        intro z
        exact e (nm_inj hn hc z.symm)
theorem key_none {V : Value → AV → Prop} {kvs : List (Str × Value)} {d : List (Nat × AV)} (h : KeyRel V kvs d) {n : Nat} (hn : n < tabN) (q : look n d = none) : valueAt kvs (nm n) = none := by
  induction h with
  | nil => rfl
  | cons hc hv _ ih =>
    rename_i c v' a' kvs' d' _
    rw [look_cons] at q
    by_cases e : n = c
    · rw [if_pos e] at q; cases q
    · rw [if_neg e] at q
      unfold valueAt
      rw [List.find?_cons_of_neg]
      · exact ih q
      · simp only [decide_eq_true_eq]
        intro z
        exact e (nm_inj hn hc z.symm)
theorem TupIs.isTup (H : HR h₀ L rst oth cells g real m s) (X : K.In h₀) {a : Addr} {vs : List Value} (h : TupIs K g a vs) : IsTup s.heap a vs.toArray := by
  rcases h with h | ⟨n, dd, sl, h⟩
  · exact News.isTup H.ns (List.mem_append_right _ (List.mem_append_right _ (List.mem_append_left _ h)))
  · exact tupK (X.keeps H.fr.keep) h
theorem cst_mem {q : Addr × Obj} (h : q ∈ g.cst) : q ∈ led oth cells g real := List.mem_append_right _ (List.mem_append_right _ (List.mem_append_left _ h))
theorem real_mem {q : Addr × Obj} {b : Blk} {x : Nat} (h : real[x]? = some b) (hq : q ∈ b.objs) : q ∈ led oth cells g real :=
  List.mem_append_right _ (List.mem_append_right _ (List.mem_append_right _ (List.mem_flatMap.mpr ⟨b, List.mem_of_getElem? h, hq⟩)))
theorem AR.addr (R : AR prog w K cA g real st) {x : Nat} {a : Addr} {b : Blk} (h : g.rho[x]? = some a) (hb : real[x]? = some b) : a = b.addr := by
  rw [R.rho, List.getElem?_map, hb] at h
  exact (Option.some.inj h).symm
noncomputable def ClsOk (K : Frag) (cA : Nat → Addr) : Prop := ∀ c ∈ clsL, ∀ n ∈ attL, plainGet K (cA c) (nm n) = true ∧ hasDictIn K (cA c) = true ∧ findIn K (.ref (cA c)) (nm n) = some none
theorem attL_lt : ∀ n ∈ attL, n < tabN := by decide +kernel
theorem getAttr_own {A : Around} (X : K.In h₀) (KA : ClsOk K cA) (H : HR h₀ L rst oth cells g real m s) {x dx : Addr} {c n : Nat} {es : List DictEntry} {k : Nat} {d : List (Nat × AV)} {a : AV} (hc : c ∈ clsL) (hn : n ∈ attL)
    (h1 : (x, instObj (cA c) dx) ∈ led oth cells g real) (h2 : (dx, dictOf es k) ∈ led oth cells g real) (O : OwnRel (VR prog w K cA g) es d) (q : look n d = some a) {Q E : Value → Shared → Prop}
    (h : ∀ v s', HR h₀ L rst oth cells g real m s' → VR prog w K cA g v a → Q v s') : wpAny (model prog w) A (getAttr (.ref x) (nm n) true) Q E s := by
  obtain ⟨v, e, V⟩ := own_get O (attL_lt n hn) q
  obtain ⟨k1, k2, k3⟩ := KA c hc n hn
  exact get_own H.fr X (InstAt.of_news H.ns h1 h2) k1 k2 k3 rfl e V.handed (h v _ (H.toks _) V)
theorem getAttr_sound {A : Around} (X : K.In h₀) (KA : ClsOk K cA) (H : HR h₀ L rst oth cells g real m s) (R : AR prog w K cA g real st) {v : Value} {b r : AV} {n : Nat} (hn : n ∈ attL) (V : VR prog w K cA g v b) (nb : notAlt b) (q : attP n b st = some r) {Q E : Value → Shared → Prop}
    (h : ∀ u s', HR h₀ L rst oth cells g real m s' → VR prog w K cA g u r → Q u s') : wpAny (model prog w) A (getAttr v (nm n) true) Q E s := by
  cases V with
  | obj hc h1 h2 O => exact getAttr_own X KA H hc hn (cst_mem h1) (cst_mem h2) O q h
  | ref ha =>
    rename_i a x
    have q : @Option.rec AO (fun _ => Option AV) none (fun o => @AO.rec (fun _ => Option AV) (fun _ => none) (fun _ => none) (fun _ fs => look n fs) o) (obj st x) = some r := q
    cases z : obj st x with
    | none => rw [z] at q; cases q
    | some o =>
      rw [z] at q
      obtain ⟨b, hb, B⟩ := R.ob x o z
      cases B with
      | lst _ => cases q
      | dic _ _ _ => cases q
      | ins hc O =>
        have := R.addr ha hb
        subst this
        exact getAttr_own X KA H hc hn (real_mem hb (.head _)) (real_mem hb (.tail _ (.head _))) O q h
  | alt => exact nb.elim
  | _ => cases q
theorem sndP_att {c : PC} {e : Expr} {n : Nat} {x : Str} {pos : Pos} (KA : ClsOk K cA) (hx : x = nm n) (hn : n ∈ attL) (hb : ∀ env, attributeBase e x env (eval e env) = eval e env) (hc : SndP prog w K cA p loose mean mg mb cs c e) :
    SndP prog w K cA p loose mean mg mb cs (pAtt c n) (.Attribute e x pos) :=
  fun A env L h₀ k C rst oth cells g real m st s H R LL r q Q E h => by
    obtain ⟨a1, h1, q⟩ := opt_bind_some q
    subst hx
    refine Attribute_any_ ?_ (by show (do let o ← attributeBase e (nm n) env (eval e env); standAt pos.atName; let r ← holding [o] (getAttr o (nm n) true); letTemporaryGo e o r; pure r) = _; rw [hb])
    refine hc A env L h₀ k C rst oth cells g real m st s H R LL a1 h1 _ _ fun v g1 s1 H1 x1 r1 t1 V1 => ?_
    have R1 := R.grow x1 r1 t1
    obtain ⟨b, rb, V2, nb, hq, up⟩ := lift_sound R1 (attP n) 3 V1 q
    exact getAttr_sound C.kin KA H1 R1 hn V2 nb hq fun u s2 H2 U => h u g1 s2 H2 x1 r1 t1 (up g1 (Gh.Le.refl _) u U)
end
end Mine
end
section
open PySem PySem.W PyProof.Rows PySem.Calls
namespace Mine
noncomputable def notSlice : Expr → Bool
  | .Slice .. => false
  | _ => true
theorem subs_of {slice : Expr} (h : notSlice slice = true) (o i : Value) : subscripted slice false o i = operate [o, i] (getItem o i) := by
  cases slice <;> first | rfl | cases h
theorem seqIndex_ofNat {n k : Nat} (h : n < k) : seqIndex? (Int.ofNat n) k = some n := seqIndex_of (Int.natCast_nonneg n) (Int.ofNat_lt.mpr h)
theorem fst_ok : ∀ p ∈ tFst, p.1 < tabN ∧ p.2 < tabN ∧ (nm p.1).cps[0]? = (nm p.2).cps[0]? ∧ (nm p.2).cps = #[(nm p.2).cps[0]!] ∧ (nm p.1).length < 1000 := by decide +kernel
theorem low_ok : ∀ p ∈ tLow, p.1 < tabN ∧ p.2 < tabN := by decide +kernel
section
variable {prog : Program} {w : World} {K : Frag} {cA : Nat → Addr} {p : Program} {loose : List Str} {mean : ExcName → Option Value} {mg mb : Str → Option Value}
variable {g g' : Gh} {real : List Blk} {st : St} {cs : Scope} {h₀ : Heap} {L : Addr} {rst s : Shared} {oth cells : List (Addr × Obj)} {m : Str → Option Value}
theorem natOf_some {α : Type} {b : AV} {k : Nat → Option α} {r : α} (h : natOf b none k = some r) : ∃ n, b = .int (Int.ofNat n) ∧ n ≤ 1000 ∧ k n = some r := by
  cases b with
  | int z =>
    cases z with
    | ofNat n =>
      have h : @Bool.rec (fun _ => Option α) none (k n) (Nat.ble n 1000) = some r := h
      cases q : Nat.ble n 1000 with
      | false => rw [q] at h; cases h
      | true => rw [q] at h; exact ⟨n, rfl, Nat.le_of_ble_eq_true q, h⟩
    | negSucc n => cases h
  | _ => cases h
theorem natOf_true {b : AV} {k : Nat → Bool} (h : natOf b false k = true) : ∃ n, b = .int (Int.ofNat n) ∧ n ≤ 1000 ∧ k n = true := by
  cases b with
  | int z =>
    cases z with
    | ofNat n =>
      have h : @Bool.rec (fun _ => Bool) false (k n) (Nat.ble n 1000) = true := h
      cases q : Nat.ble n 1000 with
      | false => rw [q] at h; cases h
      | true => rw [q] at h; exact ⟨n, rfl, Nat.le_of_ble_eq_true q, h⟩
    | negSucc n => cases h
  | _ => cases h
theorem strK_some {α : Type} {b : AV} {k : Nat → Option α} {r : α} (h : strK b none k = some r) : ∃ c, b = .str c ∧ k c = some r := by
  cases b with
  | str c => exact ⟨c, rfl, h⟩
  | _ => cases h
theorem booK_some {α : Type} {b : AV} {k : Bool → Option α} {r : α} (h : booK b none k = some r) : ∃ c, b = .boo c ∧ k c = some r := by
  cases b with
  | boo c => exact ⟨c, rfl, h⟩
  | _ => cases h
theorem VR.int_inv {v : Value} {i : Int} (V : VR prog w K cA g v (.int i)) : ∃ t, v = .int i t := by cases V; exact ⟨_, rfl⟩
theorem VR.str_inv {v : Value} {c : Nat} (V : VR prog w K cA g v (.str c)) : c < tabN ∧ ∃ t, v = .str (nm c) t := by cases V; exact ⟨by assumption, _, rfl⟩
theorem VR.boo_inv {v : Value} {c : Bool} (V : VR prog w K cA g v (.boo c)) : v = .bool c := by cases V; rfl
theorem VR.non_inv {v : Value} (V : VR prog w K cA g v .non) : v = .none := by cases V; rfl
theorem isStrOf_self (x : Str) (t : Tok) : (strKind prog w).is x (.str x t) = true := by
  show Value.isStrOf x (.str x t) = true
  simp [Value.isStrOf]
theorem toArray_get {vs : List Value} {j : Nat} {u : Value} (h : vs[j]? = some u) : vs.toArray[j]? = some u := by simpa using h
theorem item_seq {A : Around} {a : Addr} {vs : List Value} {l : List AV} {n : Nat} {t : Tok} {r : AV} {value slice : Expr} (hs : notSlice slice = true) (T : IsTup s.heap a vs.toArray ∨ s.heap.IsList a vs.toArray) (AL : AllRel (VR prog w K cA g) vs l) (hn : n ≤ 1000) (q : nth l n = some r)
    {Q E : Value → Shared → Prop} (h : ∀ u, VR prog w K cA g u r → Q u s) : wpAny (model prog w) A (subscriptTail value slice (.ref a) (.int (Int.ofNat n) t)) Q E s := by
  obtain ⟨u, hu, U⟩ := AL.get q
  have lt : n < vs.length := (List.getElem?_eq_some_iff.mp hu).1
  rcases T with T | T
  · refine item_tupleT (j := n) (x := u) T ?_ ?_ ?_ hu (h u U) (subs_of hs _ _)
    · show (-(2 ^ 63) : Int) ≤ (n : Int); omega
    · show (n : Int) < 2 ^ 63; omega
    · exact seqIndex_ofNat lt
  · refine tail_any T.typeIs slot_list_getitem.lookup (wpAny_getItem_list (x := u) T (Int.natCast_nonneg n) ?_ (toArray_get hu) (h u U)) (subs_of hs _ _)
    show (n : Int) < 2 ^ 63; omega
theorem item_dic {A : Around} {a : Addr} {o : Obj} {kvs : List (Str × Value)} {d : List (Nat × AV)} {c : Nat} {t : Tok} {r : AV} {value slice : Expr} (hs : notSlice slice = true) (H : HR h₀ L rst oth cells g real m s) (ho : (a, o) ∈ led oth cells g real) (hd : o.IsDictOf (strKind prog w) kvs)
    (KR : KeyRel (VR prog w K cA g) kvs d) (hc : c < tabN) (q : look c d = some r) {Q E : Value → Shared → Prop} (h : ∀ u s', HR h₀ L rst oth cells g real m s' → VR prog w K cA g u r → Q u s') :
    wpAny (model prog w) A (subscriptTail value slice (.ref a) (.str (nm c) t)) Q E s := by
  obtain ⟨u, hu, U⟩ := key_get KR hc q
  have D := kda_dict H.ns ho hd
  exact tail_any D.typeIs slot_dict_getitem.lookup (wpAny_getItem_of (isStrOf_self _ _) D.mapOf hu (h u _ (H.toks _) U)) (subs_of hs _ _)
theorem item_sound {A : Around} (X : K.In h₀) (H : HR h₀ L rst oth cells g real m s) (R : AR prog w K cA g real st) {v i : Value} {a b r : AV} (V : VR prog w K cA g v a) (I : VR prog w K cA g i b) (na : notAlt a) (q : itemP tFst a b st = some r)
    {value slice : Expr} (hs : notSlice slice = true) {Q E : Value → Shared → Prop} (h : ∀ u s', HR h₀ L rst oth cells g real m s' → VR prog w K cA g u r → Q u s') :
    wpAny (model prog w) A (subscriptTail value slice v i) Q E s := by
  cases V with
  | str c t hc =>
    obtain ⟨n, rfl, hn, q⟩ := natOf_some q
    obtain ⟨u, rfl⟩ := I.int_inv
    cases n with
    | succ n => cases q
    | zero =>
      obtain ⟨d, h1, h2⟩ := opt_bind_some q
      cases h2
      obtain ⟨_, hd, e1, e2, e3⟩ := fst_ok _ (look_mem h1)
      refine tail_any (typeIs_str _ _ _) F.slot_str_getitem.lookup (P.getItem_str (c := (nm d).cps[0]!) (by decide) ?_ ?_) (subs_of hs _ _)
      · have lt : 0 < (nm c).cps.size := by
          have e1 : (nm c).cps[0]? = (nm d).cps[0]? := e1
          have : (nm d).cps.size = 1 := by rw [e2]; rfl
          cases z : (nm c).cps[0]? with
          | none =>
            rw [e1] at z
            rw [Array.getElem?_eq_none_iff, this] at z
            omega
          | some y => exact (Array.getElem?_eq_some_iff.mp z).1
        show (seqIndex? (Int.ofNat 0) (nm c).length).bind _ = _
        rw [seqIndex_ofNat (show 0 < (nm c).length from lt)]
        show (nm c).cps[0]? = _
        have e1 : (nm c).cps[0]? = (nm d).cps[0]? := e1
        rw [e1, e2]; rfl
      · have e : (⟨#[(nm d).cps[0]!]⟩ : Str) = nm d := by rw [← e2]
        rw [e]
        exact h _ _ (H.toks _) (.str d _ hd)
  | tup T AL =>
    obtain ⟨n, rfl, hn, q⟩ := natOf_some q
    obtain ⟨u, rfl⟩ := I.int_inv
    exact item_seq hs (.inl (T.isTup H X)) AL hn q fun u U => h u s H U
  | lis T AL =>
    obtain ⟨n, rfl, hn, q⟩ := natOf_some q
    obtain ⟨u, rfl⟩ := I.int_inv
    exact item_seq hs (.inr (News.isList H.ns (cst_mem T))) AL hn q fun u U => h u s H U
  | dct ho hd _ KR =>
    obtain ⟨c, rfl, q⟩ := strK_some q
    obtain ⟨hc, u, rfl⟩ := I.str_inv
    exact item_dic hs H (cst_mem ho) hd KR hc q h
  | ref ha =>
    rename_i a x
    obtain ⟨o, z, q⟩ := opt_bind_some q
    obtain ⟨b, hb, B⟩ := R.ob x o z
    cases B with
    | lst AL =>
      obtain ⟨n, rfl, hn, q⟩ := natOf_some q
      obtain ⟨u, rfl⟩ := I.int_inv
      have := R.addr ha hb
      subst this
      exact item_seq hs (.inr (News.isList H.ns (real_mem hb (.head _)))) AL hn q fun u U => h u s H U
    | dic hd _ KR =>
      obtain ⟨c, rfl, q⟩ := strK_some q
      obtain ⟨hc, u, rfl⟩ := I.str_inv
      have := R.addr ha hb
      subst this
      exact item_dic hs H (real_mem hb (.head _)) hd KR hc q h
    | ins _ _ => cases q
  | alt => exact na.elim
  | _ => cases q
theorem sub_sound {A : Around} (X : K.In h₀) (H : HR h₀ L rst oth cells g real m s) (R : AR prog w K cA g real st) {v i : Value} {a b r : AV} (V : VR prog w K cA g v a) (I : VR prog w K cA g i b) (q : subP tFst a b st = some r)
    {value slice : Expr} (hs : notSlice slice = true) {Q E : Value → Shared → Prop} (h : ∀ u s', HR h₀ L rst oth cells g real m s' → VR prog w K cA g u r → Q u s') :
    wpAny (model prog w) A (subscriptTail value slice v i) Q E s := by
  obtain ⟨b', r1, I', nb, q1, up1⟩ := lift_sound R (fun i st => lift (fun a st => itemP tFst a i st) 3 a st) 3 I q
  obtain ⟨a', r2, V', na, q2, up2⟩ := lift_sound R (fun a st => itemP tFst a b' st) 3 V q1
  exact item_sound X H R V' I' na q2 hs fun u s' H' U => h u s' H' (up1 g (Gh.Le.refl _) u (up2 g (Gh.Le.refl _) u U))
theorem sndP_sub {c d : PC} {e f : Expr} {pos : Pos} (hs : notSlice f = true) (hc : SndP prog w K cA p loose mean mg mb cs c e) (hd : SndP prog w K cA p loose mean mg mb cs d f) :
    SndP prog w K cA p loose mean mg mb cs (p2 c d (subP tFst)) (.Subscript e f pos) :=
  fun A env L h₀ k C rst oth cells g real m st s H R LL r q Q E h => by
    obtain ⟨a1, h1, q⟩ := opt_bind_some q
    obtain ⟨a2, h2, q⟩ := opt_bind_some q
    refine Subscript_ ?_
    refine hc A env L h₀ k C rst oth cells g real m st s H R LL a1 h1 _ _ fun v g1 s1 H1 x1 r1 t1 V1 => ?_
    refine hd A env L h₀ k C rst oth cells g1 real m st s1 H1 (R.grow x1 r1 t1) (LL.mono x1) a2 h2 _ _ fun i g2 s2 H2 x2 r2 t2 V2 => ?_
    exact sub_sound C.kin H2 ((R.grow x1 r1 t1).grow x2 r2 t2) (V1.mono x2) V2 q hs fun u s3 H3 U => h u g2 s3 H3 (x1.trans x2) (r2.trans r1) (t2.trans t1) U
end
end Mine
end
section
open PySem PySem.W PyProof.Rows PySem.Calls
namespace Mine
theorem bool_rec_some {α : Type} {b : Bool} {f t : Option α} {r : α} (h : @Bool.rec (fun _ => Option α) f t b = some r) : (b = true ∧ t = some r) ∨ (b = false ∧ f = some r) := by
  cases b
  · exact .inr ⟨rfl, h⟩
  · exact .inl ⟨rfl, h⟩
theorem notB_eq (b : Bool) : notB b = !b := by cases b <;> rfl
theorem eqB_eq (a b : Bool) : eqB a b = (a == b) := by cases a <;> cases b <;> rfl
theorem intB_eq (a b : Int) : intB a b = (a == b) := by
  cases a <;> cases b
  · rename_i m n
    show Nat.beq m n = _
    rw [Bool.eq_iff_iff, beq_iff_eq, Nat.beq_eq]; exact ⟨fun h => congrArg _ h, fun h => Int.ofNat.inj h⟩
  · rfl
  · rfl
  · rename_i m n
    show Nat.beq m n = _
    rw [Bool.eq_iff_iff, beq_iff_eq, Nat.beq_eq]; exact ⟨fun h => congrArg _ h, fun h => Int.negSucc.inj h⟩
theorem intLt_eq (a b : Int) : intLt a b = decide (a < b) := by
  cases a <;> cases b
  · rename_i m n
    show Nat.ble (m + 1) n = decide ((m : Int) < (n : Int))
    rw [Bool.eq_iff_iff, Nat.ble_eq, decide_eq_true_iff]; omega
  · rename_i m n
    show false = _
    symm; rw [decide_eq_false_iff_not, Int.ofNat_eq_natCast]; omega
  · rename_i m n
    show true = _
    symm; rw [decide_eq_true_iff, Int.ofNat_eq_natCast]; omega
  · rename_i m n
    show Nat.ble (n + 1) m = _
    rw [Bool.eq_iff_iff, Nat.ble_eq, decide_eq_true_iff]; omega
theorem nm_beq {c d : Nat} (hc : c < tabN) (hd : d < tabN) : (nm c == nm d) = Nat.beq c d := by
  rw [Bool.eq_iff_iff, beq_iff_eq, Nat.beq_eq]
  exact ⟨nm_inj hc hd, fun h => congrArg nm h⟩
section
variable {prog : Program} {w : World} {K : Frag} {cA : Nat → Addr} {p : Program} {loose : List Str} {mean : ExcName → Option Value} {mg mb : Str → Option Value}
variable {g g' : Gh} {real : List Blk} {st : St} {cs : Scope} {h₀ : Heap} {L : Addr} {rst s : Shared} {oth cells : List (Addr × Obj)} {m : Str → Option Value}
theorem strs_of {vs : List Value} {l : List AV} (h : AllRel (VR prog w K cA g) vs l) (q : allL isS l = true) : ∃ ys, StrsAre vs ys ∧ ∀ c < tabN, ys.any (· == nm c) = anyL (isC c) l := by
  rw [allL_eq] at q
  induction h with
  | nil => exact ⟨[], .nil, fun _ _ => rfl⟩
  | cons hv _ ih =>
    rename_i v a vs l _
    rw [List.all_cons, Bool.and_eq_true] at q
    obtain ⟨ys, h1, h2⟩ := ih q.2
    cases a with
    | str c =>
      obtain ⟨hc, t, rfl⟩ := hv.str_inv
      refine ⟨nm c :: ys, .cons _ _ h1, fun d hd => ?_⟩
      rw [List.any_cons, h2 d hd, anyL_eq, anyL_eq, List.any_cons, nm_beq hc hd]
      congr 1
      show _ = Nat.beq d c
      rw [Bool.eq_iff_iff, Nat.beq_eq, Nat.beq_eq]; exact ⟨Eq.symm, Eq.symm⟩
    | _ => exact absurd q.1 (by intro z; cases z)
noncomputable def CmpOk (prog : Program) (w : World) (K : Frag) (cA : Nat → Addr) (o : CmpOp) (f : C2) : Prop :=
  ∀ {A : Around} {g : Gh} {real : List Blk} {st : St} {h₀ : Heap} {L : Addr} {rst s : Shared} {oth cells : List (Addr × Obj)} {m : Str → Option Value} {v u : Value} {a b : AV} {x : Bool},
    K.In h₀ → HR h₀ L rst oth cells g real m s → AR prog w K cA g real st → VR prog w K cA g v a → VR prog w K cA g u b → notAlt a → notAlt b → f a b st = some x →
    ∀ {Q E : Value → Shared → Prop}, (∀ s', HR h₀ L rst oth cells g real m s' → Q (.bool x) s') → wpAny (model prog w) A (compareOp o v u) Q E s
inductive Eq1 : AV → AV → Bool → Prop
  | non : Eq1 .non .non true
  | boo (i j : Bool) : Eq1 (.boo i) (.boo j) (eqB i j)
  | int (i j : Int) : Eq1 (.int i) (.int j) (intB i j)
  | str (i j : Nat) : Eq1 (.str i) (.str j) (Nat.beq i j)
theorem eq1_inv {a b : AV} {x : Bool} (h : eq1 a b = some x) : Eq1 a b x := by
  cases a <;> try (cases h; done)
  all_goals (cases b <;> try (cases h; done))
  · cases h; exact .non
  · cases h; exact .boo _ _
  · cases h; exact .int _ _
  · cases h; exact .str _ _
theorem gt1_inv {a b : AV} {x : Bool} (h : gt1 a b = some x) : ∃ i j, a = .int i ∧ b = .int j ∧ x = intLt j i := by
  cases a <;> try (cases h; done)
  cases b <;> try (cases h; done)
  cases h
  exact ⟨_, _, rfl, rfl, rfl⟩
theorem cmp_eq : CmpOk prog w K cA .Eq ceq := by
  intro A g real st h₀ L rst s oth cells m v u a b x X H R V U na nb q Q E h
  cases eq1_inv q
  · cases V.non_inv; cases U.non_inv; exact PySem.EqNone.eq_none_none (h s H)
  · cases V.boo_inv; cases U.boo_inv; exact eq_bool (by rw [← eqB_eq]; exact h s H)
  · obtain ⟨t, rfl⟩ := V.int_inv; obtain ⟨t', rfl⟩ := U.int_inv; exact eq_int (by rw [← intB_eq]; exact h s H)
  · obtain ⟨hc, t, rfl⟩ := V.str_inv; obtain ⟨hd, t', rfl⟩ := U.str_inv; exact eq_str (by rw [nm_beq hc hd]; exact h s H)
theorem notO_some {x : Option Bool} {y : Bool} (h : notO x = some y) : ∃ z, x = some z ∧ y = !z := by
  obtain ⟨z, h1, h2⟩ := opt_bind_some h
  cases h2
  exact ⟨z, h1, notB_eq z⟩
theorem ne_none_none' {A : Around} {Q E : Value → Shared → Prop} (h : Q (.bool false) s) : wpAny (model prog w) A (compareOp .NotEq .none .none) Q E s := PySem.EqNone.ne_none_none h
theorem cmp_ne : CmpOk prog w K cA .NotEq (cno ceq) := by
  intro A g real st h₀ L rst s oth cells m v u a b x X H R V U na nb q Q E h
  obtain ⟨y, q', rfl⟩ := notO_some q
  cases eq1_inv q'
  · cases V.non_inv; cases U.non_inv; exact ne_none_none' (h s H)
  · cases V.boo_inv; cases U.boo_inv; rw [eqB_eq] at h; exact ne_bool (h s H)
  · obtain ⟨t, rfl⟩ := V.int_inv; obtain ⟨t', rfl⟩ := U.int_inv; rw [intB_eq] at h; exact ne_int (h s H)
  · obtain ⟨hc, t, rfl⟩ := V.str_inv; obtain ⟨hd, t', rfl⟩ := U.str_inv; rw [← nm_beq hc hd] at h; exact ne_str (h s H)
theorem is1_sound {v u : Value} {a b : AV} {x : Bool} (V : VR prog w K cA g v a) (U : VR prog w K cA g u b) (na : notAlt a) (q : is1 a b = some x) : u = .none ∧ (v == .none) = x := by
  cases b <;> try (cases q; done)
  cases U.non_inv
  refine ⟨rfl, ?_⟩
  cases V <;> first | (cases q; done) | (cases q; first | rfl | simp | with_unfolding_all rfl) | exact False.elim na
theorem cmp_is : CmpOk prog w K cA .Is cis := by
  intro A g real st h₀ L rst s oth cells m v u a b x X H R V U na nb q Q E h
  obtain ⟨rfl, e⟩ := is1_sound V U na q
  exact is_none_gen (by rw [e]; exact h s H)
theorem cmp_isnot : CmpOk prog w K cA .IsNot (cno cis) := by
  intro A g real st h₀ L rst s oth cells m v u a b x X H R V U na nb q Q E h
  obtain ⟨y, q', rfl⟩ := notO_some q
  obtain ⟨rfl, e⟩ := is1_sound V U na q'
  exact isnot_none_gen (by rw [e]; exact h s H)
theorem cmp_gt : CmpOk prog w K cA .Gt cgt := by
  intro A g real st h₀ L rst s oth cells m v u a b x X H R V U na nb q Q E h
  obtain ⟨i, j, rfl, rfl, rfl⟩ := gt1_inv q
  obtain ⟨t, rfl⟩ := V.int_inv; obtain ⟨t', rfl⟩ := U.int_inv; exact gt_int (by rw [← intLt_eq]; exact h s H)
inductive InAs (prog : Program) (w : World) (s : Shared) (h₀ : Heap) (L : Addr) (news : List (Addr × Obj)) (v u : Value) (x : Bool) : Prop where
  | tup {a : Addr} {vs : List Value} {ys : List Str} {k : Str} {t : Tok} : v = .str k t → u = .ref a → IsTup s.heap a vs.toArray → StrsAre vs ys → ys.any (· == k) = x → InAs prog w s h₀ L news v u x
  | lis {a : Addr} {vs : List Value} {ys : List Str} {k : Str} {t : Tok} : v = .str k t → u = .ref a → s.heap.IsList a vs.toArray → StrsAre vs ys → ys.any (· == k) = x → InAs prog w s h₀ L news v u x
  | dic {a : Addr} {o : Obj} {kvs : List (Str × Value)} {k : Str} {t : Tok} : v = .str k t → u = .ref a → (a, o) ∈ news → o.IsDictOf (strKind prog w) kvs → (a == sysModules) = false → (valueAt kvs k).isSome = x → InAs prog w s h₀ L news v u x
theorem hasK_sound {v : Value} {a : AV} {x : Bool} {kvs : List (Str × Value)} {d : List (Nat × AV)} (V : VR prog w K cA g v a) (KR : KeyRel (VR prog w K cA g) kvs d) (q : hasK a d = some x) : ∃ k t, v = .str k t ∧ (valueAt kvs k).isSome = x := by
  obtain ⟨c, rfl, q⟩ := strK_some q
  obtain ⟨hc, t, rfl⟩ := V.str_inv
  refine ⟨_, _, rfl, ?_⟩
  have q : @Option.rec AV (fun _ => Option Bool) (some false) (fun _ => some true) (look c d) = some x := q
  cases z : look c d with
  | none => rw [z] at q; cases q; rw [key_none KR hc z]; rfl
  | some y => rw [z] at q; cases q; obtain ⟨v, e, _⟩ := key_get KR hc z; rw [e]; rfl
theorem inE_sound {v : Value} {a : AV} {x : Bool} {vs : List Value} {l : List AV} (V : VR prog w K cA g v a) (AL : AllRel (VR prog w K cA g) vs l) (q : inE a l = some x) : ∃ k t ys, v = .str k t ∧ StrsAre vs ys ∧ ys.any (· == k) = x := by
  obtain ⟨c, rfl, q⟩ := strK_some q
  obtain ⟨hc, t, rfl⟩ := V.str_inv
  rcases bool_rec_some q with ⟨h1, h2⟩ | ⟨_, h2⟩
  · cases h2
    obtain ⟨ys, e1, e2⟩ := strs_of AL h1
    exact ⟨_, _, ys, rfl, e1, e2 c hc⟩
  · cases h2
theorem in1_sound (X : K.In h₀) (H : HR h₀ L rst oth cells g real m s) (R : AR prog w K cA g real st) {v u : Value} {a b : AV} {x : Bool} (V : VR prog w K cA g v a) (U : VR prog w K cA g u b) (nb : notAlt b) (q : in1 a b st = some x) :
    InAs prog w s h₀ L (led oth cells g real) v u x := by
  cases U with
  | tup T AL => obtain ⟨k, t, ys, e, e1, e2⟩ := inE_sound V AL q; exact .tup e rfl (T.isTup H X) e1 e2
  | lis T AL => obtain ⟨k, t, ys, e, e1, e2⟩ := inE_sound V AL q; exact .lis e rfl (News.isList H.ns (cst_mem T)) e1 e2
  | dct ho hd lo KR => obtain ⟨k, t, e, e1⟩ := hasK_sound V KR q; exact .dic e rfl (cst_mem ho) hd lo e1
  | ref ha =>
    obtain ⟨o, z, q⟩ := opt_bind_some q
    obtain ⟨b, hb, B⟩ := R.ob _ o z
    have := R.addr ha hb
    subst this
    cases B with
    | lst AL => obtain ⟨k, t, ys, e, e1, e2⟩ := inE_sound V AL q; exact .lis e rfl (News.isList H.ns (real_mem hb (.head _))) e1 e2
    | dic hd lo KR => obtain ⟨k, t, e, e1⟩ := hasK_sound V KR q; exact .dic e rfl (real_mem hb (.head _)) hd lo e1
    | ins _ _ => cases q
  | alt => exact nb.elim
  | _ => cases q
theorem cmp_in : CmpOk prog w K cA .In cin := by
  intro A g real st h₀ L rst s oth cells m v u a b x X H R V U na nb q Q E h
  cases in1_sound X H R V U nb q with
  | tup e1 e2 T S e => subst e1 e2; exact in_tuple_strs T S (by rw [e]; exact h s H)
  | lis e1 e2 T S e => subst e1 e2; exact in_list_strs T S (by rw [e]; exact h s H)
  | dic e1 e2 M D lo e => subst e1 e2; exact kda_in H.ns M D lo (isStrOf_self _ _) x e (h _ (H.toks _))
theorem cmp_notin : CmpOk prog w K cA .NotIn (cno cin) := by
  intro A g real st h₀ L rst s oth cells m v u a b x X H R V U na nb q Q E h
  obtain ⟨y, q', rfl⟩ := notO_some q
  cases in1_sound X H R V U nb q' with
  | tup e1 e2 T S e => subst e1 e2; exact notin_tuple_strs T S (by rw [e]; exact h s H)
  | lis e1 e2 T S e => subst e1 e2; exact notin_list_strs T S (by rw [e]; exact h s H)
  | dic e1 e2 M D lo e => subst e1 e2; exact kdg_notin H.ns M D lo (isStrOf_self _ _) y e (h _ (H.toks _))
theorem cmpP_sound {o : CmpOp} {f : C2} (F : CmpOk prog w K cA o f) {A : Around} (X : K.In h₀) (H : HR h₀ L rst oth cells g real m s) (R : AR prog w K cA g real st) {v u : Value} {a b r : AV} (V : VR prog w K cA g v a) (U : VR prog w K cA g u b) (q : cmpP f a b st = some r)
    {Q E : Value → Shared → Prop} (h : ∀ y s', HR h₀ L rst oth cells g real m s' → VR prog w K cA g (.bool y) r → Q (.bool y) s') : wpAny (model prog w) A (compareOp o v u) Q E s := by
  obtain ⟨b', r1, U', nb, q1, up1⟩ := lift_sound R (fun b st => lift (fun a st => toB (f a b st)) 3 a st) 3 U q
  obtain ⟨a', r2, V', na, q2, up2⟩ := lift_sound R (fun a st => toB (f a b' st)) 3 V q1
  obtain ⟨x, q3, q4⟩ := opt_bind_some q2
  cases q4
  exact F X H R V' U' na nb q3 fun s' H' => h x s' H' (up1 g (Gh.Le.refl _) _ (up2 g (Gh.Le.refl _) _ (.boo x)))
theorem boo_of_isBo {l : List AV} {j : Nat} {a : AV} (h : isBo l j = true) (q : nth l j = some a) : ∃ b, a = .boo b := by
  have h : @Option.rec AV (fun _ => Bool) false (fun a => booK a false fun _ => true) (nth l j) = true := h
  rw [q] at h
  cases a with
  | boo b => exact ⟨b, rfl⟩
  | _ => cases h
theorem choose_bool (R : AR prog w K cA g real st) {x r : AV} {a b : PC} (q : choose x st a b = some r) {v : Value} (V : VR prog w K cA g v x) : ∃ y, v = .bool y := by
  cases x with
  | boo y => exact ⟨y, V.boo_inv⟩
  | alt i l =>
    rcases bool_rec_some q with ⟨h1, _⟩ | ⟨_, h2⟩
    · cases V with
      | alt ht hj hv =>
        rename_i j a'
        rw [allL_eq, List.all_eq_true] at h1
        obtain ⟨y, rfl⟩ := boo_of_isBo (h1 j (mem_places R ht hj)) hj
        exact ⟨y, hv.boo_inv⟩
    · cases h2
  | _ => cases q
theorem nth_mrg {i : Nat} {l : List AV} {a b : AV} : ∀ (n j k : Nat), k < n → nth (mrgL i l a b n j) k = some (@Bool.rec (fun _ => AV) (atJ i (j + k) b) (atJ i (j + k) a) (isTr l (j + k)))
  | 0, _, _, h => by omega
  | n + 1, j, 0, _ => rfl
  | n + 1, j, k + 1, h => by
    show nth (mrgL i l a b n (j + 1)) k = _
    rw [nth_mrg n (j + 1) k (by omega), show j + 1 + k = j + (k + 1) by omega]
theorem atJ_sound {i j : Nat} {a : AV} {u : Value} (ht : g.tht[i]? = some j) (U : VR prog w K cA g u a) : VR prog w K cA g u (atJ i j a) := by
  cases a with
  | alt i' l =>
    show VR prog w K cA g u (@Bool.rec (fun _ => AV) (.alt i' l) (@Option.rec AV (fun _ => AV) .bot (fun a => a) (nth l j)) (Nat.beq i i'))
    cases e : Nat.beq i i' with
    | false => exact U
    | true =>
      have := beq_of e
      subst this
      cases U with
      | alt ht' hj hv =>
        rw [ht] at ht'; cases ht'
        rw [hj]; exact hv
  | _ => exact U
theorem choose_sound (R : AR prog w K cA g real st) {x r : AV} {a b : PC} {y : Bool} (V : VR prog w K cA g (.bool y) x) (q : choose x st a b = some r) :
    ∃ st' r', AR prog w K cA g real st' ∧ Sm st st' ∧ (if y then a st' else b st') = some r' ∧ ∀ g', g.Le g' → ∀ u, VR prog w K cA g' u r' → VR prog w K cA g' u r := by
  cases x with
  | boo z =>
    cases V
    refine ⟨st, r, R, Sm.refl st, ?_, fun _ _ _ h => h⟩
    cases y <;> exact q
  | alt i l =>
    rcases bool_rec_some q with ⟨h1, q⟩ | ⟨_, h2⟩
    · cases V with
      | alt ht hj hv =>
        rename_i j a'
        have hm := mem_places R ht hj
        rw [allL_eq, List.all_eq_true] at h1
        obtain ⟨z, rfl⟩ := boo_of_isBo (h1 j hm) hj
        cases hv
        have tr : isTr l j = y := by
          show @Option.rec AV (fun _ => Bool) false (fun a => booK a false fun b => b) (nth l j) = y
          rw [hj]; rfl
        have fl : isFl l j = !y := by
          show @Option.rec AV (fun _ => Bool) false (fun a => booK a false fun b => notB b) (nth l j) = !y
          rw [hj]; exact notB_eq y
        have hT : y = true → j ∈ filL (isTr l) (places i l st) := fun e => by rw [filL_eq, List.mem_filter]; exact ⟨hm, by rw [tr, e]⟩
        have hF : y = false → j ∈ filL (isFl l) (places i l st) := fun e => by rw [filL_eq, List.mem_filter]; exact ⟨hm, by rw [fl, e]; rfl⟩
        cases zT : filL (isTr l) (places i l st) with
        | nil =>
          rw [zT] at q hT
          have : y = false := by cases y; rfl; exact nomatch hT rfl
          subst this
          exact ⟨st, r, R, Sm.refl st, q, fun _ _ _ h => h⟩
        | cons t0 t1 =>
          cases zF : filL (isFl l) (places i l st) with
          | nil =>
            rw [zT, zF] at q
            rw [zF] at hF
            have : y = true := by cases y; exact nomatch hF rfl; rfl
            subst this
            exact ⟨st, r, R, Sm.refl st, q, fun _ _ _ h => h⟩
          | cons f0 f1 =>
            rw [zT, zF] at q
            have q : both i l st a b (t0 :: t1) (f0 :: f1) = some r := q
            obtain ⟨x1, q1, q⟩ := opt_bind_some q
            obtain ⟨x2, q2, q⟩ := opt_bind_some q
            cases q
            have lt : j < lenL l := by rw [lenL_eq]; exact nth_lt hj
            have hn := nth_mrg (i := i) (l := l) (a := x1) (b := x2) (lenL l) 0 j lt
            rw [Nat.zero_add, tr] at hn
            cases y with
            | true =>
              refine ⟨_, x1, R.setK ht (zT ▸ hT rfl), Sm.setK i _ st, q1, fun g' le u U => ?_⟩
              exact mkAlt_sound (le.tht _ _ ht) hm hn (atJ_sound (le.tht _ _ ht) U)
            | false =>
              refine ⟨_, x2, R.setK ht (zF ▸ hF rfl), Sm.setK i _ st, q2, fun g' le u U => ?_⟩
              exact mkAlt_sound (le.tht _ _ ht) hm hn (atJ_sound (le.tht _ _ ht) U)
    · cases h2
  | _ => cases q
end
end Mine
end
section
open PySem PySem.W PyProof.Rows PySem.Calls
namespace Mine
theorem fst_slice : ∀ p ∈ tFst, Txt.slice (nm p.1) none (some 1) = nm p.2 := by decide +kernel
theorem upp_ok : ∀ c, c < tabN → Txt.isupper (nm c) = anyL (Nat.beq c) tUpp := by decide +kernel
theorem low_lower : ∀ p ∈ tLow, Txt.lower (nm p.1) = nm p.2 := by decide +kernel
theorem cat_ok : ∀ p ∈ tCat, p.2.2 < tabN ∧ nm p.1 ++ nm p.2.1 = nm p.2.2 := by decide +kernel
theorem len_ok : ∀ c, c < tabN → (nm c).length ≤ 64 := by decide +kernel
section
variable {prog : Program} {w : World} {K : Frag} {cA : Nat → Addr} {p : Program} {loose : List Str} {mean : ExcName → Option Value} {mg mb : Str → Option Value}
variable {g g' : Gh} {real : List Blk} {st : St} {cs : Scope} {h₀ : Heap} {L : Addr} {rst s : Shared} {oth cells : List (Addr × Obj)} {m : Str → Option Value}
theorem HR.push (H : HR h₀ L rst oth cells g real m s) (o : Obj) (t : Nat) : HR h₀ L rst oth cells g real m { s with heap := s.heap.push o, toks := t } :=
  ⟨H.fr.push o, H.ns.grown fun _ _ e => Heap.get?_push_of_some _ e, H.nd, H.rst.toks _ _⟩
theorem astN_some {n : Nat} {r : AV} (h : astN n = some r) : r = .ast n ∧ n ≤ 4096 := by
  rcases bool_rec_some h with ⟨h1, h2⟩ | ⟨_, h2⟩
  · cases h2; exact ⟨rfl, Nat.le_of_ble_eq_true h1⟩
  · cases h2
theorem catT_sound {c d : Nat} {r : AV} (hc : c < tabN) (hd : d < tabN) : ∀ (t : List (Nat × (Nat × Nat))), (∀ p ∈ t, p ∈ tCat) → catT t c d = some r → ∀ u, VR prog w K cA g (.str (nm c ++ nm d) u) r
  | [], _, h, u => by
    obtain ⟨rfl, _⟩ := astN_some (n := 128) h
    refine .ast _ _ _ ?_ (by omega)
    rw [Str.length_append]
    have := len_ok c hc
    have := len_ok d hd
    omega
  | q :: t, ht, h, u => by
    have ih := catT_sound hc hd t (fun x hx => ht x (.tail _ hx)) (r := r)
    rcases bool_rec_some h with ⟨h1, h2⟩ | ⟨_, h2⟩
    · rcases bool_rec_some h2 with ⟨h3, h4⟩ | ⟨_, h4⟩
      · cases h4
        obtain ⟨k1, k2⟩ := cat_ok q (ht q (.head _))
        have e1 := beq_of h1
        have e2 := beq_of h3
        subst e1 e2
        rw [k2]
        exact .str _ _ k1
      · exact ih h4 u
    · exact ih h2 u
theorem AllRel.append {V : Value → AV → Prop} {vs ws : List Value} {l k : List AV} (h : AllRel V vs l) (h2 : AllRel V ws k) : AllRel V (vs ++ ws) (l ++ k) := by
  induction h with
  | nil => exact h2
  | cons hv _ ih => exact .cons hv ih
theorem add_sound1 {A : Around} (X : K.In h₀) (H : HR h₀ L rst oth cells g real m s) {v u : Value} {a b r : AV} (V : VR prog w K cA g v a) (U : VR prog w K cA g u b) (na : notAlt a) (nb : notAlt b) (q : catP tCat a b = some r)
    {Q E : Value → Shared → Prop} (h : ∀ z g' s', HR h₀ L rst oth cells g' real m s' → g.Le g' → g'.rho = g.rho → g'.tht = g.tht → VR prog w K cA g' z r → Q z s') : wpAny (model prog w) A (binaryOp .Add v u) Q E s := by
  have fin : ∀ z tk, VR prog w K cA g z r → Q z { s with toks := tk } := fun z tk Z => h z g _ (H.toks tk) (Gh.Le.refl _) rfl rfl Z
  cases a <;> try (cases q; done)
  · cases b <;> try (cases q; done)
    · rename_i c d
      obtain ⟨hc, t, rfl⟩ := V.str_inv
      obtain ⟨hd, t', rfl⟩ := U.str_inv
      have := len_ok c hc
      have := len_ok d hd
      exact add_str (fun t' tk => fin _ tk (catT_sound hc hd tCat (fun _ h => h) q t')) (by rw [sizeLine_eq]; omega)
    · rename_i c n
      obtain ⟨rfl, hn⟩ := astN_some q
      obtain ⟨hc, t, rfl⟩ := V.str_inv
      have := len_ok c hc
      cases U with
      | ast y t' n hy hn' => exact add_str (fun t' tk => fin _ tk (.ast _ _ _ (by rw [Str.length_append]; omega) hn)) (by rw [sizeLine_eq]; omega)
  · cases b <;> try (cases q; done)
    · rename_i n c
      obtain ⟨rfl, hn⟩ := astN_some q
      obtain ⟨hc, t, rfl⟩ := U.str_inv
      have := len_ok c hc
      cases V with
      | ast y t' n hy hn' => exact add_str (fun t' tk => fin _ tk (.ast _ _ _ (by rw [Str.length_append]; omega) hn)) (by rw [sizeLine_eq]; omega)
    · rename_i n n'
      obtain ⟨rfl, hn⟩ := astN_some q
      cases V with
      | ast y t' n hy hn' =>
        cases U with
        | ast y' t'' n' hy' hn'' => exact add_str (fun t' tk => fin _ tk (.ast _ _ _ (by rw [Str.length_append]; omega) hn)) (by rw [sizeLine_eq]; omega)
  · cases b <;> try (cases q; done)
    rename_i l k
    obtain ⟨hz, q⟩ : (l ++ k).length ≤ 1000 ∧ some (AV.tup (l ++ k)) = some r := by
      have q : @Bool.rec (fun _ => Option AV) none (some (.tup (appL l k))) (Nat.ble (lenL (appL l k)) 1000) = some r := q
      rw [appL_eq, lenL_eq] at q
      rcases bool_rec_some q with ⟨h1, h2⟩ | ⟨_, h2⟩
      · exact ⟨Nat.le_of_ble_eq_true h1, h2⟩
      · cases h2
    cases q
    rw [List.length_append] at hz
    cases V with
    | tup T AL =>
      cases U with
      | tup T' AL' =>
        rename_i x vs y ws
        have L1 := AL.length
        have L2 := AL'.length
        refine add_tuples H.fr H.ns (T.isTup H X) (T'.isTup H X) (fun e => ?_) (fun _ e => ?_) (fun _ _ h' F' N' => ?_) (by rw [sizeLine_eq]; omega)
        · subst e
          cases AL
          exact h _ g s H (Gh.Le.refl _) rfl rfl (.tup T' AL')
        · subst e
          cases AL'
          rw [List.append_nil] at h
          exact h _ g s H (Gh.Le.refl _) rfl rfl (.tup T AL)
        · have lt : ∀ q ∈ led oth cells g real, q.1 < s.heap.objs.size := fun q hq => Heap.lt_size (H.ns q hq).1
          refine h _ (g.add [(s.heap.objs.size, tupO (vs ++ ws))]) _ (H.addCst (t := s.toks) F' N' lt) (Gh.le_add _ _) rfl rfl ?_
          exact .tup (.inl (List.mem_append_right _ (.head _))) (AllV.mono (Gh.le_add _ _) (AL.append AL'))
end
end Mine
end
section
open PySem PySem.W PyProof.Rows PySem.Calls
namespace Mine
section
variable {prog : Program} {w : World} {K : Frag} {cA : Nat → Addr} {p : Program} {loose : List Str} {mean : ExcName → Option Value} {mg mb : Str → Option Value}
variable {g g' : Gh} {real : List Blk} {st : St} {cs : Scope} {h₀ : Heap} {L : Addr} {rst s : Shared} {oth cells : List (Addr × Obj)} {m : Str → Option Value}
theorem add_sound {A : Around} (X : K.In h₀) (H : HR h₀ L rst oth cells g real m s) (R : AR prog w K cA g real st) {v u : Value} {a b r : AV} (V : VR prog w K cA g v a) (U : VR prog w K cA g u b) (q : addP tCat a b st = some r)
    {Q E : Value → Shared → Prop} (h : ∀ z g' s', HR h₀ L rst oth cells g' real m s' → g.Le g' → g'.rho = g.rho → g'.tht = g.tht → VR prog w K cA g' z r → Q z s') : wpAny (model prog w) A (binaryOp .Add v u) Q E s := by
  obtain ⟨b', r1, U', nb, q1, up1⟩ := lift_sound R (fun b st => lift (fun a _ => catP tCat a b) 3 a st) 3 U q
  obtain ⟨a', r2, V', na, q2, up2⟩ := lift_sound R (fun a _ => catP tCat a b') 3 V q1
  exact add_sound1 X H V' U' na nb q2 fun z g' s' H' le e1 e2 Z => h z g' s' H' le e1 e2 (up1 g' le z (up2 g' le z Z))
theorem sndP_add {c d : PC} {e f : Expr} {pos : Pos} (hc : SndP prog w K cA p loose mean mg mb cs c e) (hd : SndP prog w K cA p loose mean mg mb cs d f) :
    SndP prog w K cA p loose mean mg mb cs (p2 c d (addP tCat)) (.BinOp e .Add f pos) :=
  fun A env L h₀ k C rst oth cells g real m st s H R LL r q Q E h => by
    obtain ⟨a1, h1, q⟩ := opt_bind_some q
    obtain ⟨a2, h2, q⟩ := opt_bind_some q
    refine wpAny_BinOp ?_
    refine hc A env L h₀ k C rst oth cells g real m st s H R LL a1 h1 _ _ fun v g1 s1 H1 x1 r1 t1 V1 => ?_
    refine hd A env L h₀ k C rst oth cells g1 real m st s1 H1 (R.grow x1 r1 t1) (LL.mono x1) a2 h2 _ _ fun i g2 s2 H2 x2 r2 t2 V2 => ?_
    exact add_sound C.kin H2 ((R.grow x1 r1 t1).grow x2 r2 t2) (V1.mono x2) V2 q fun u g3 s3 H3 x3 r3 t3 U => h u g3 s3 H3 ((x1.trans x2).trans x3) (r3.trans (r2.trans r1)) (t3.trans (t2.trans t1)) U
theorem sndP_cmp {o : CmpOp} {F : C2} (ok : CmpOk prog w K cA o F) {c d : PC} {e f : Expr} {pos : Pos} (hm : behindInMarks o f = false) (hc : SndP prog w K cA p loose mean mg mb cs c e) (hd : SndP prog w K cA p loose mean mg mb cs d f) :
    SndP prog w K cA p loose mean mg mb cs (p2 c d (cmpP F)) (.Compare e [o] [f] pos) :=
  fun A env L h₀ k C rst oth cells g real m st s H R LL r q Q E h => by
    obtain ⟨a1, h1, q⟩ := opt_bind_some q
    obtain ⟨a2, h2, q⟩ := opt_bind_some q
    refine wpAny_Compare1 ?_ hm
    refine hc A env L h₀ k C rst oth cells g real m st s H R LL a1 h1 _ _ fun v g1 s1 H1 x1 r1 t1 V1 => ?_
    refine hd A env L h₀ k C rst oth cells g1 real m st s1 H1 (R.grow x1 r1 t1) (LL.mono x1) a2 h2 _ _ fun i g2 s2 H2 x2 r2 t2 V2 => ?_
    exact cmpP_sound ok C.kin H2 ((R.grow x1 r1 t1).grow x2 r2 t2) (V1.mono x2) V2 q fun y s3 H3 U => h _ g2 s3 H3 (x1.trans x2) (r2.trans r1) (t2.trans t1) U
theorem VR.str_at {v : Value} {a : AV} {f : Nat → Option AV} {r : AV} (V : VR prog w K cA g v a) (q : strK a none f = some r) : ∃ c t, c < tabN ∧ v = .str (nm c) t ∧ f c = some r := by
  obtain ⟨c, rfl, q⟩ := strK_some q
  obtain ⟨hc, t, rfl⟩ := V.str_inv
  exact ⟨c, t, hc, rfl, q⟩
theorem sndP_low {c : PC} {e : Expr} {apos pos : Pos} (hb : ∀ env, attributeBase e "lower" env (eval e env) = eval e env) (hl : (apos.endLine == pos.line) = true) (hc : SndP prog w K cA p loose mean mg mb cs c e) :
    SndP prog w K cA p loose mean mg mb cs (p1 c (viaT tLow)) (.Call (.Attribute e "lower" apos) [] [] pos) :=
  fun A env L h₀ k C rst oth cells g real m st s H R LL r q Q E h => by
    obtain ⟨a1, h1, q⟩ := opt_bind_some q
    refine Call_method0 (hb _) hl ?_
    refine hc A env L h₀ k C rst oth cells g real m st s H R LL a1 h1 _ _ fun v g1 s1 H1 x1 r1 t1 V1 => ?_
    obtain ⟨b, rb, V2, nb, q2, up⟩ := lift_sound (R.grow x1 r1 t1) (fun a _ => viaT tLow a) 3 V1 q
    obtain ⟨c', t, hc', rfl, q3⟩ := V2.str_at q2
    obtain ⟨d, h3, h4⟩ := opt_bind_some q3
    cases h4
    have hm := look_mem h3
    have := len_ok c' hc'
    refine SBL.lower (by omega) fun _ => ?_
    rw [low_lower _ hm]
    exact h _ g1 _ (H1.toks _) x1 r1 t1 (up g1 (Gh.Le.refl _) _ (.str _ _ (low_ok _ hm).2))
theorem sndP_upp {c : PC} {e : Expr} {apos pos : Pos} (hb : ∀ env, attributeBase e "isupper" env (eval e env) = eval e env) (hl : (apos.endLine == pos.line) = true) (hc : SndP prog w K cA p loose mean mg mb cs c e) :
    SndP prog w K cA p loose mean mg mb cs (p1 c (upp1 tUpp)) (.Call (.Attribute e "isupper" apos) [] [] pos) :=
  fun A env L h₀ k C rst oth cells g real m st s H R LL r q Q E h => by
    obtain ⟨a1, h1, q⟩ := opt_bind_some q
    refine Call_method0 (hb _) hl ?_
    refine hc A env L h₀ k C rst oth cells g real m st s H R LL a1 h1 _ _ fun v g1 s1 H1 x1 r1 t1 V1 => ?_
    obtain ⟨b, rb, V2, nb, q2, up⟩ := lift_sound (R.grow x1 r1 t1) (fun a _ => upp1 tUpp a) 3 V1 q
    obtain ⟨c', t, hc', rfl, q3⟩ := V2.str_at q2
    cases q3
    refine SB.isupper ?_
    rw [upp_ok c' hc']
    exact h _ g1 _ H1 x1 r1 t1 (up g1 (Gh.Le.refl _) _ (.boo _))
theorem sndP_fst {c : PC} {e : Expr} {k : Nat} {p1' p2' pos : Pos} (ht : ∀ o r, letTemporaryGo e o r = pure ()) (hc : SndP prog w K cA p loose mean mg mb cs c e) :
    SndP prog w K cA p loose mean mg mb cs (Mine.p1 c (viaT tFst)) (.Subscript e (.Slice none (some (.Constant (.int 1) k p1')) none p2') pos) :=
  fun A env L h₀ n C rst oth cells g real m st s H R LL r q Q E h => by
    obtain ⟨a1, h1, q⟩ := opt_bind_some q
    refine Subscript_Slice ?_ ht
    refine hc A env L h₀ n C rst oth cells g real m st s H R LL a1 h1 _ _ fun v g1 s1 H1 x1 r1 t1 V1 => ?_
    obtain ⟨b, rb, V2, nb, q2, up⟩ := lift_sound (R.grow x1 r1 t1) (fun a _ => viaT tFst a) 3 V1 q
    obtain ⟨c', t, hc', rfl, q3⟩ := V2.str_at q2
    obtain ⟨d, h3, h4⟩ := opt_bind_some q3
    cases h4
    have hm := look_mem h3
    have lc := len_ok c' hc'
    refine wpAny_Slice (evalPart_none_step (evalPart_some_step (wpAny_Constant_int (evalPart_none_step ?_))))
    refine SBH.sliceItem_ns (P := fun h' => ∀ tk, HR h₀ L rst oth cells g1 real m { s1 with heap := h', toks := tk }) (fun h' ob hh tk => (hh tk).push ob tk) (fun tk => H1.toks tk) (fun h' t' tk hh => ?_) (by rw [sizeLine_eq]; omega)
    rw [fst_slice _ hm]
    exact h _ g1 _ (hh tk) x1 r1 t1 (up g1 (Gh.Le.refl _) _ (.str _ _ (fst_ok _ hm).2.1))
variable (prog w K cA p loose mean mg mb) in
noncomputable def SndPT (cs : Scope) (c : PC) (e : Expr) : Prop :=
  ∀ (A : Around) (env : Env) (L : Addr) (h₀ : Heap) (n : Nat), Ctx K p loose mean mg mb cs A env h₀ n →
  ∀ (rst : Shared) (oth cells : List (Addr × Obj)) (g : Gh) (real : List Blk) (m : Str → Option Value) (st : St) (s : Shared),
    HR h₀ L rst oth cells g real m s → AR prog w K cA g real st → LR prog w K cA env L m cells g st.loc →
  ∀ r, c st = some r → (∀ g' v, g.Le g' → g'.rho = g.rho → g'.tht = g.tht → VR prog w K cA g' v r → ∃ b, v = .bool b) → ∀ (Q : Bool → Shared → Prop) (E : Value → Shared → Prop),
    (∀ b g' s', HR h₀ L rst oth cells g' real m s' → g.Le g' → g'.rho = g.rho → g'.tht = g.tht → VR prog w K cA g' (.bool b) r → Q b s') →
    wpAny (model prog w) A (isTrue e env (eval e env)) Q E s
theorem sndPT_val {c : PC} {e : Expr} (he : ∀ env whole, isTrue e env whole = (do let v ← whole; standAt e.pos; holding [v] (truthy v))) (hc : SndP prog w K cA p loose mean mg mb cs c e) : SndPT prog w K cA p loose mean mg mb cs c e :=
  fun A env L h₀ n C rst oth cells g real m st s H R LL r q hb Q E h => by
    refine wpAny_isTrue_value ?_ (he _ _)
    refine hc A env L h₀ n C rst oth cells g real m st s H R LL r q _ _ fun v g1 s1 H1 x1 r1 t1 V1 => ?_
    obtain ⟨b, rfl⟩ := hb g1 v x1 r1 t1 V1
    exact wpAny_truthy_bool (h b g1 s1 H1 x1 r1 t1 V1)
theorem sndPT_cmp {o : CmpOp} {F : C2} (ok : CmpOk prog w K cA o F) {c d : PC} {e f : Expr} {pos : Pos} (hm : behindInMarks o f = false) (hc : SndP prog w K cA p loose mean mg mb cs c e) (hd : SndP prog w K cA p loose mean mg mb cs d f) :
    SndPT prog w K cA p loose mean mg mb cs (p2 c d (cmpP F)) (.Compare e [o] [f] pos) :=
  fun A env L h₀ k C rst oth cells g real m st s H R LL r q _ Q E h => by
    obtain ⟨a1, h1, q⟩ := opt_bind_some q
    obtain ⟨a2, h2, q⟩ := opt_bind_some q
    refine wpAny_isTrue_Compare1 ?_ hm
    refine hc A env L h₀ k C rst oth cells g real m st s H R LL a1 h1 _ _ fun v g1 s1 H1 x1 r1 t1 V1 => ?_
    refine hd A env L h₀ k C rst oth cells g1 real m st s1 H1 (R.grow x1 r1 t1) (LL.mono x1) a2 h2 _ _ fun i g2 s2 H2 x2 r2 t2 V2 => ?_
    exact cmpP_sound ok C.kin H2 ((R.grow x1 r1 t1).grow x2 r2 t2) (V1.mono x2) V2 q fun y s3 H3 U => wpAny_truthy_bool (h _ g2 s3 H3 (x1.trans x2) (r2.trans r1) (t2.trans t1) U)
theorem sndPT_not {c : PC} {e : Expr} {pos : Pos} (hc : SndPT prog w K cA p loose mean mg mb cs c e) : SndPT prog w K cA p loose mean mg mb cs (p1 c not1) (.UnaryOp .Not e pos) :=
  fun A env L h₀ k C rst oth cells g real m st s H R LL r q _ Q E h => by
    obtain ⟨a1, h1, q⟩ := opt_bind_some q
    refine wpAny_isTrue_Not ?_
    refine hc A env L h₀ k C rst oth cells g real m st s H R LL a1 h1 (fun g1 v x1 r1 t1 V1 => ?_) _ _ fun b g1 s1 H1 x1 r1 t1 V1 => ?_
    · obtain ⟨b, rb, V2, nb, q2, up⟩ := lift_sound (R.grow x1 r1 t1) (fun a _ => not1 a) 3 V1 q
      obtain ⟨y, rfl, _⟩ := booK_some q2
      exact ⟨y, V2.boo_inv⟩
    · obtain ⟨b', rb, V2, nb, q2, up⟩ := lift_sound (R.grow x1 r1 t1) (fun a _ => not1 a) 3 V1 q
      obtain ⟨y, rfl, q3⟩ := booK_some q2
      cases V2
      cases q3
      rw [notB_eq] at up
      exact h _ g1 s1 H1 x1 r1 t1 (up g1 (Gh.Le.refl _) _ (.boo _))
theorem LR.sm {env : Env} {st' : St} (h : LR prog w K cA env L m cells g st.loc) (S : Sm st st') : LR prog w K cA env L m cells g st'.loc := by rw [S.loc]; exact h
theorem sndP_ife {t a b : PC} {test body orelse : Expr} {pos : Pos} (ht : SndPT prog w K cA p loose mean mg mb cs t test) (ha : SndP prog w K cA p loose mean mg mb cs a body) (hb : SndP prog w K cA p loose mean mg mb cs b orelse) :
    SndP prog w K cA p loose mean mg mb cs (pIfe t a b) (.IfExp test body orelse pos) :=
  fun A env L h₀ k C rst oth cells g real m st s H R LL r q Q E h => by
    obtain ⟨x, h1, q⟩ := opt_bind_some q
    refine wpAny_IfExp ?_
    refine ht A env L h₀ k C rst oth cells g real m st s H R LL x h1 (fun g1 v x1 r1 t1 V1 => choose_bool (R.grow x1 r1 t1) q V1) _ _ fun y g1 s1 H1 x1 r1 t1 V1 => ?_
    obtain ⟨st', r', R', S, q', up⟩ := choose_sound (R.grow x1 r1 t1) V1 q
    cases y with
    | true => exact ha A env L h₀ k C rst oth cells g1 real m st' s1 H1 R' ((LL.mono x1).sm S) r' q' _ _ fun v g2 s2 H2 x2 r2 t2 V2 => h v g2 s2 H2 (x1.trans x2) (r2.trans r1) (t2.trans t1) (up g2 x2 v V2)
    | false => exact hb A env L h₀ k C rst oth cells g1 real m st' s1 H1 R' ((LL.mono x1).sm S) r' q' _ _ fun v g2 s2 H2 x2 r2 t2 V2 => h v g2 s2 H2 (x1.trans x2) (r2.trans r1) (t2.trans t1) (up g2 x2 v V2)
theorem sndPT_and1 {c : PC} {e : Expr} {pos : Pos} (hc : SndPT prog w K cA p loose mean mg mb cs c e) : SndPT prog w K cA p loose mean mg mb cs c (.BoolOp .And [e] pos) :=
  fun A env L h₀ k C rst oth cells g real m st s H R LL r q hb Q E h => by
    refine wpAny_isTrue_BoolOp (wpAny_allTrue_And_cons ?_)
    refine hc A env L h₀ k C rst oth cells g real m st s H R LL r q hb _ _ fun b g1 s1 H1 x1 r1 t1 V1 => ?_
    cases b with
    | true => exact wpAny_allTrue_And_nil (h _ g1 s1 H1 x1 r1 t1 V1)
    | false => exact h _ g1 s1 H1 x1 r1 t1 V1
theorem sndPT_or1 {c : PC} {e : Expr} {pos : Pos} (hc : SndPT prog w K cA p loose mean mg mb cs c e) : SndPT prog w K cA p loose mean mg mb cs c (.BoolOp .Or [e] pos) :=
  fun A env L h₀ k C rst oth cells g real m st s H R LL r q hb Q E h => by
    refine wpAny_isTrue_BoolOp (wpAny_allTrue_Or_cons ?_)
    refine hc A env L h₀ k C rst oth cells g real m st s H R LL r q hb _ _ fun b g1 s1 H1 x1 r1 t1 V1 => ?_
    cases b with
    | true => exact h _ g1 s1 H1 x1 r1 t1 V1
    | false => exact wpAny_allTrue_Or_nil (h _ g1 s1 H1 x1 r1 t1 V1)
theorem sndPT_and {a b : PC} {e : Expr} {es : List Expr} {pos : Pos} (ha : SndPT prog w K cA p loose mean mg mb cs a e) (hb : SndPT prog w K cA p loose mean mg mb cs b (.BoolOp .And es pos)) :
    SndPT prog w K cA p loose mean mg mb cs (pAnd a b) (.BoolOp .And (e :: es) pos) :=
  fun A env L h₀ k C rst oth cells g real m st s H R LL r q hbo Q E h => by
    obtain ⟨x, h1, q⟩ := opt_bind_some q
    refine wpAny_isTrue_BoolOp (wpAny_allTrue_And_cons ?_)
    refine ha A env L h₀ k C rst oth cells g real m st s H R LL x h1 (fun g1 v x1 r1 t1 V1 => choose_bool (R.grow x1 r1 t1) q V1) _ _ fun y g1 s1 H1 x1 r1 t1 V1 => ?_
    obtain ⟨st', r', R', S, q', up⟩ := choose_sound (R.grow x1 r1 t1) V1 q
    cases y with
    | true =>
      have := hb A env L h₀ k C rst oth cells g1 real m st' s1 H1 R' ((LL.mono x1).sm S) r' q' (fun g2 v x2 r2 t2 V2 => hbo g2 v (x1.trans x2) (r2.trans r1) (t2.trans t1) (up g2 x2 v V2)) Q E
        fun v g2 s2 H2 x2 r2 t2 V2 => h v g2 s2 H2 (x1.trans x2) (r2.trans r1) (t2.trans t1) (up g2 x2 _ V2)
      exact this
    | false =>
      cases q'
      exact h _ g1 s1 H1 x1 r1 t1 (up g1 (Gh.Le.refl _) _ (.boo false))
theorem sndPT_or {a b : PC} {e : Expr} {es : List Expr} {pos : Pos} (ha : SndPT prog w K cA p loose mean mg mb cs a e) (hb : SndPT prog w K cA p loose mean mg mb cs b (.BoolOp .Or es pos)) :
    SndPT prog w K cA p loose mean mg mb cs (pOr a b) (.BoolOp .Or (e :: es) pos) :=
  fun A env L h₀ k C rst oth cells g real m st s H R LL r q hbo Q E h => by
    obtain ⟨x, h1, q⟩ := opt_bind_some q
    refine wpAny_isTrue_BoolOp (wpAny_allTrue_Or_cons ?_)
    refine ha A env L h₀ k C rst oth cells g real m st s H R LL x h1 (fun g1 v x1 r1 t1 V1 => choose_bool (R.grow x1 r1 t1) q V1) _ _ fun y g1 s1 H1 x1 r1 t1 V1 => ?_
    obtain ⟨st', r', R', S, q', up⟩ := choose_sound (R.grow x1 r1 t1) V1 q
    cases y with
    | false =>
      have := hb A env L h₀ k C rst oth cells g1 real m st' s1 H1 R' ((LL.mono x1).sm S) r' q' (fun g2 v x2 r2 t2 V2 => hbo g2 v (x1.trans x2) (r2.trans r1) (t2.trans t1) (up g2 x2 v V2)) Q E
        fun v g2 s2 H2 x2 r2 t2 V2 => h v g2 s2 H2 (x1.trans x2) (r2.trans r1) (t2.trans t1) (up g2 x2 _ V2)
      exact this
    | true =>
      cases q'
      exact h _ g1 s1 H1 x1 r1 t1 (up g1 (Gh.Le.refl _) _ (.boo true))
theorem sndP_and1 {op : BoolOp} {c : PC} {e : Expr} {pos : Pos} (hc : SndP prog w K cA p loose mean mg mb cs c e) : SndP prog w K cA p loose mean mg mb cs c (.BoolOp op [e] pos) := hc
theorem sndP_and {a b : PC} {e f : Expr} {es : List Expr} {pos : Pos} (ha : SndP prog w K cA p loose mean mg mb cs a e) (hb : SndP prog w K cA p loose mean mg mb cs b (.BoolOp .And (f :: es) pos)) :
    SndP prog w K cA p loose mean mg mb cs (pAnd a b) (.BoolOp .And (e :: f :: es) pos) :=
  fun A env L h₀ k C rst oth cells g real m st s H R LL r q Q E h => by
    obtain ⟨x, h1, q⟩ := opt_bind_some q
    refine BoolOp_and ?_
    refine ha A env L h₀ k C rst oth cells g real m st s H R LL x h1 _ _ fun v g1 s1 H1 x1 r1 t1 V1 => ?_
    obtain ⟨y, rfl⟩ := choose_bool (R.grow x1 r1 t1) q V1
    refine wpAny_truthy_bool ?_
    obtain ⟨st', r', R', S, q', up⟩ := choose_sound (R.grow x1 r1 t1) V1 q
    cases y with
    | true =>
      exact hb A env L h₀ k C rst oth cells g1 real m st' s1 H1 R' ((LL.mono x1).sm S) r' q' _ _
        fun v g2 s2 H2 x2 r2 t2 V2 => h v g2 s2 H2 (x1.trans x2) (r2.trans r1) (t2.trans t1) (up g2 x2 _ V2)
    | false =>
      cases q'
      exact h _ g1 s1 H1 x1 r1 t1 (up g1 (Gh.Le.refl _) _ (.boo false))
end
end Mine
end
section
open PySem PySem.W PyProof.Rows PySem.Calls
namespace Mine
structure Pk where
  prog : Program
  w : World
  K : Frag
  cA : Nat → Addr
  p : Program
  loose : List Str
  mean : ExcName → Option Value
  mg : Str → Option Value
  mb : Str → Option Value
structure Fd where
  A : Around
  A₀ : Around
  base : Heap
  h₀ : Heap
  outer : List Env
  cn : Str
  cs : Scope
  L : Addr
  a : Addr
  ccd : Value
  cl : List (Str × Addr)
  n : Nat
  rst : Shared
  oth : List (Addr × Obj)
noncomputable abbrev Fd.env (F : Fd) : Env := envX F.cn F.cs F.L F.a F.ccd F.cl
structure Cx (P : Pk) (F : Fd) : Prop where
  below : Below F.A₀ F.base F.outer F.h₀
  eqA : F.A = F.A₀.deeper F.env
  fr : F.A.frames = some (F.env :: F.outer)
  kin : P.K.In F.h₀
  top : Top P.p P.loose P.mean P.mg P.mb F.h₀
  hd : F.A.handled = none
  kind : F.cs.kind = .function
  dep : F.A.depth + 3 * F.n + 3 < recursionLimit
  un : F.A.units + 16 * F.n + 200 < cLine
  keys : ∀ x, F.cs.names.lookup x = some .cell → ∃ c, F.cl.lookup x = some c
  law : (F.cs.names.lookup ("script" : Str)).isSome = true → F.outer = [] ∧ F.cl = []
theorem Cx.ctx {P : Pk} {F : Fd} (C : Cx P F) : Ctx P.K P.p P.loose P.mean P.mg P.mb F.cs F.A F.env F.h₀ F.n :=
  ⟨C.kin, C.top, C.hd, C.kind, C.dep, C.un, rfl, rfl⟩
noncomputable abbrev Pk.VR (P : Pk) := Mine.VR P.prog P.w P.K P.cA
noncomputable abbrev Pk.AR (P : Pk) := Mine.AR P.prog P.w P.K P.cA
noncomputable abbrev Pk.M (P : Pk) := model P.prog P.w
noncomputable abbrev Pk.SndP (P : Pk) := Mine.SndP P.prog P.w P.K P.cA P.p P.loose P.mean P.mg P.mb
noncomputable abbrev Pk.SndPT (P : Pk) := Mine.SndPT P.prog P.w P.K P.cA P.p P.loose P.mean P.mg P.mb
structure SR (P : Pk) (F : Fd) (cells : List (Addr × Obj)) (g : Gh) (real : List Blk) (m : Str → Option Value) (st : St) (s : Shared) : Prop where
  hr : HR F.h₀ F.L F.rst F.oth cells g real m s
  ar : P.AR g real st
  lr : LR P.prog P.w P.K P.cA F.env F.L m cells g st.loc
noncomputable abbrev XRel := Fd → Gh → List Blk → (Str → Option Value) → AV → Value → Shared → Prop
noncomputable abbrev PostE (P : Pk) (F : Fd) (cells : List (Addr × Obj)) (g : Gh) (m : Str → Option Value) (st : St) (k : K1) (Q : Value → Shared → Prop) : Prop :=
  ∀ v a g' real' st' s', SR P F cells g' real' m st' s' → g.Le g' → st'.loc = st.loc → P.VR g' v a → k a st' = true → Q v s'
noncomputable abbrev PostB (P : Pk) (F : Fd) (cells : List (Addr × Obj)) (g : Gh) (m : Str → Option Value) (st : St) (k : KB) (Q : Bool → Shared → Prop) : Prop :=
  ∀ b g' real' st' s', SR P F cells g' real' m st' s' → g.Le g' → st'.loc = st.loc → k b st' = true → Q b s'
noncomputable abbrev PostX (P : Pk) (XR : XRel) (F : Fd) (g : Gh) (kx : K1) (E : Value → Shared → Prop) : Prop :=
  ∀ a x g' real' m' st' s', g.Le g' → P.AR g' real' st' → XR F g' real' m' a x s' → kx a st' = true → E x s'
noncomputable def SndE (P : Pk) (XR : XRel) (N : Nat) (cs : Scope) (c : EC) (e : Expr) : Prop :=
  ∀ (F : Fd), F.cs = cs → N ≤ F.n → Cx P F → ∀ cells g real m st s, SR P F cells g real m st s → ∀ k kx, c st k kx = true → ∀ Q E, PostE P F cells g m st k Q → PostX P XR F g kx E →
    wpAny P.M F.A (eval e F.env) Q E s
noncomputable def SndT (P : Pk) (XR : XRel) (N : Nat) (cs : Scope) (c : EC) (e : Expr) : Prop :=
  ∀ (F : Fd), F.cs = cs → N ≤ F.n → Cx P F → ∀ cells g real m st s, SR P F cells g real m st s → ∀ k kx, eT c st k kx = true → ∀ Q E, PostB P F cells g m st k Q → PostX P XR F g kx E →
    wpAny P.M F.A (isTrue e F.env (eval e F.env)) Q E s
noncomputable def SndL (P : Pk) (XR : XRel) (N : Nat) (cs : Scope) (c : LC) (es : List Expr) : Prop :=
  ∀ (F : Fd), F.cs = cs → N ≤ F.n → Cx P F → ∀ cells g real m st s, SR P F cells g real m st s → ∀ k kx, c st k kx = true → ∀ (pos : Pos) (Q : List Value → Shared → Prop) E,
    (∀ vs l g' real' st' s', SR P F cells g' real' m st' s' → g.Le g' → st'.loc = st.loc → AllRel (P.VR g') vs l → vs.length = es.length → k l st' = true → Q vs s') → PostX P XR F g kx E →
    wpAny P.M F.A (spliced (backTo pos (starEach es F.env))) Q E s
section
variable {P : Pk} {XR : XRel} {N : Nat} {cs : Scope} {F : Fd} {cells : List (Addr × Obj)} {g g' : Gh} {real : List Blk} {m : Str → Option Value} {st st' : St} {s : Shared}
theorem SR.grow (S : SR P F cells g real m st s) {s' : Shared} (H : HR F.h₀ F.L F.rst F.oth cells g' real m s') (x : g.Le g') (r : g'.rho = g.rho) (t : g'.tht = g.tht) : SR P F cells g' real m st s' :=
  ⟨H, S.ar.grow x r t, S.lr.mono x⟩
theorem SR.sm (S : SR P F cells g real m st s) (R : P.AR g real st') (x : Sm st st') : SR P F cells g real m st' s := ⟨S.hr, R, S.lr.sm x⟩
theorem PostE.le {k : K1} {Q : Value → Shared → Prop} (h : PostE P F cells g m st k Q) (x : g.Le g') (e : st'.loc = st.loc) : PostE P F cells g' m st' k Q :=
  fun v a g1 r1 st1 s1 S x1 e1 V q => h v a g1 r1 st1 s1 S (x.trans x1) (e1.trans e) V q
theorem PostX.le {kx : K1} {E : Value → Shared → Prop} (h : PostX P XR F g kx E) (x : g.Le g') : PostX P XR F g' kx E :=
  fun a v g1 r1 m1 st1 s1 x1 R X q => h a v g1 r1 m1 st1 s1 (x.trans x1) R X q
theorem sndE_pu {c : PC} {e : Expr} (h : P.SndP cs c e) : SndE P XR N cs (ePu c eBad) e :=
  fun F hcs hn C cells g real m st s S k kx q Q E pe px => by
    subst hcs
    have q : @Option.rec AV (fun _ => Bool) false (fun a => k a st) (c st) = true := q
    cases z : c st with
    | none => rw [z] at q; cases q
    | some r =>
      rw [z] at q
      exact h F.A F.env F.L F.h₀ F.n C.ctx F.rst F.oth cells g real m st s S.hr S.ar S.lr r z Q E fun v g1 s1 H1 x1 r1 t1 V1 => pe v r g1 real st s1 (S.grow H1 x1 r1 t1) x1 rfl V1 q
theorem sndE_con {a : AV} {e : Expr} (h : P.SndP cs (pCon a) e) : SndE P XR N cs (eCon a) e :=
  fun F hcs hn C cells g real m st s S k kx q Q E pe px => by
    subst hcs
    exact h F.A F.env F.L F.h₀ F.n C.ctx F.rst F.oth cells g real m st s S.hr S.ar S.lr a rfl Q E fun v g1 s1 H1 x1 r1 t1 V1 => pe v a g1 real st s1 (S.grow H1 x1 r1 t1) x1 rfl V1 q
theorem sndE_loc {x : Nat} {e : Expr} (h : P.SndP cs (pLoc x) e) : SndE P XR N cs (eLoc x) e :=
  fun F hcs hn C cells g real m st s S k kx q Q E pe px => by
    subst hcs
    have q : @Option.rec AV (fun _ => Bool) false (fun a => k a st) (look x st.loc) = true := q
    cases z : look x st.loc with
    | none => rw [z] at q; cases q
    | some r =>
      rw [z] at q
      exact h F.A F.env F.L F.h₀ F.n C.ctx F.rst F.oth cells g real m st s S.hr S.ar S.lr r z Q E fun v g1 s1 H1 x1 r1 t1 V1 => pe v r g1 real st s1 (S.grow H1 x1 r1 t1) x1 rfl V1 q
theorem booK_true {b : AV} {k : Bool → Bool} (h : booK b false k = true) : ∃ c, b = .boo c ∧ k c = true := by
  cases b with
  | boo c => exact ⟨c, rfl, h⟩
  | _ => cases h
theorem tru_sound (R : P.AR g real st) {v : Value} {a : AV} {k : KB} (V : P.VR g v a) (h : tru a st k = true) : ∃ b st', v = .bool b ∧ P.AR g real st' ∧ Sm st st' ∧ k b st' = true := by
  obtain ⟨b, st', R', S, V', h'⟩ := res_sound R V h
  obtain ⟨c, rfl, h2⟩ := booK_true h'
  exact ⟨c, st', V'.boo_inv, R', S, h2⟩
theorem sndT_val {c : EC} {e : Expr} (he : ∀ env whole, isTrue e env whole = (do let v ← whole; standAt e.pos; holding [v] (truthy v))) (h : SndE P XR N cs c e) : SndT P XR N cs c e :=
  fun F hcs hn C cells g real m st s S k kx q Q E pe px => by
    refine wpAny_isTrue_value ?_ (he _ _)
    refine h F hcs hn C cells g real m st s S _ kx q _ E (fun v a g1 r1 st1 s1 S1 x1 e1 V1 q1 => ?_) px
    obtain ⟨b, st2, rfl, R2, Sm2, q2⟩ := tru_sound S1.ar V1 q1
    exact wpAny_truthy_bool (pe b g1 r1 st2 s1 (S1.sm R2 Sm2) x1 (Sm2.loc.trans e1) q2)
theorem sndT_pu {c : PC} {e : Expr} (h : P.SndPT cs c e) : SndT P XR N cs (ePu c eBad) e :=
  fun F hcs hn C cells g real m st s S k kx q Q E pe px => by
    subst hcs
    have q : @Option.rec AV (fun _ => Bool) false (fun a => tru a st k) (c st) = true := q
    cases z : c st with
    | none => rw [z] at q; cases q
    | some r =>
      rw [z] at q
      refine h F.A F.env F.L F.h₀ F.n C.ctx F.rst F.oth cells g real m st s S.hr S.ar S.lr r z (fun g1 v x1 r1 t1 V1 => ?_) Q E fun b g1 s1 H1 x1 r1 t1 V1 => ?_
      · obtain ⟨b, _, e, _⟩ := tru_sound (S.ar.grow x1 r1 t1) V1 q
        exact ⟨b, e⟩
      · have S1 := S.grow H1 x1 r1 t1
        obtain ⟨b', st2, e, R2, Sm2, q2⟩ := tru_sound S1.ar V1 q
        cases e
        exact pe b g1 real st2 s1 (S1.sm R2 Sm2) x1 Sm2.loc q2
theorem sndT_nt {c : EC} {e : Expr} {pos : Pos} (h : SndT P XR N cs c e) : SndT P XR N cs (eNt c) (.UnaryOp .Not e pos) :=
  fun F hcs hn C cells g real m st s S k kx q Q E pe px => by
    refine wpAny_isTrue_Not ?_
    refine h F hcs hn C cells g real m st s S (fun b st => tru (.boo (notB b)) st k) kx q _ E (fun b g1 r1 st1 s1 S1 x1 e1 q1 => ?_) px
    have q1 : k (notB b) st1 = true := q1
    rw [notB_eq] at q1
    exact pe _ g1 r1 st1 s1 S1 x1 e1 q1
theorem PostB.le {k : KB} {Q : Bool → Shared → Prop} (h : PostB P F cells g m st k Q) (x : g.Le g') (e : st'.loc = st.loc) : PostB P F cells g' m st' k Q :=
  fun b g1 r1 st1 s1 S x1 e1 q => h b g1 r1 st1 s1 S (x.trans x1) (e1.trans e) q
theorem sndT_or1 {c : EC} {e : Expr} {pos : Pos} (h : SndT P XR N cs c e) : SndT P XR N cs c (.BoolOp .Or [e] pos) :=
  fun F hcs hn C cells g real m st s S k kx q Q E pe px => by
    refine wpAny_isTrue_BoolOp (wpAny_allTrue_Or_cons ?_)
    refine h F hcs hn C cells g real m st s S k kx q _ E (fun b g1 r1 st1 s1 S1 x1 e1 q1 => ?_) px
    cases b with
    | true => exact pe _ g1 r1 st1 s1 S1 x1 e1 q1
    | false => exact wpAny_allTrue_Or_nil (pe _ g1 r1 st1 s1 S1 x1 e1 q1)
theorem sndT_or {c d : EC} {e : Expr} {es : List Expr} {pos : Pos} (h : SndT P XR N cs c e) (h2 : SndT P XR N cs d (.BoolOp .Or es pos)) : SndT P XR N cs (eOr c d) (.BoolOp .Or (e :: es) pos) :=
  fun F hcs hn C cells g real m st s S k kx q Q E pe px => by
    refine wpAny_isTrue_BoolOp (wpAny_allTrue_Or_cons ?_)
    refine h F hcs hn C cells g real m st s S (fun x st => @Bool.rec (fun _ => Bool) (d st (fun a st => tru a st k) kx) (tru (.boo true) st k) x) kx q _ E (fun b g1 r1 st1 s1 S1 x1 e1 q1 => ?_) px
    cases b with
    | true => exact pe _ g1 r1 st1 s1 S1 x1 e1 q1
    | false => exact h2 F hcs hn C cells g1 r1 m st1 s1 S1 k kx q1 Q E (pe.le x1 e1) (px.le x1)
theorem sndE_ife {t a b : EC} {test body orelse : Expr} {pos : Pos} (ht : SndT P XR N cs t test) (ha : SndE P XR N cs a body) (hb : SndE P XR N cs b orelse) : SndE P XR N cs (eIfe t a b) (.IfExp test body orelse pos) :=
  fun F hcs hn C cells g real m st s S k kx q Q E pe px => by
    refine wpAny_IfExp ?_
    refine ht F hcs hn C cells g real m st s S (fun x st => @Bool.rec (fun _ => Bool) (b st k kx) (a st k kx) x) kx q _ E (fun y g1 r1 st1 s1 S1 x1 e1 q1 => ?_) px
    cases y with
    | true => exact ha F hcs hn C cells g1 r1 m st1 s1 S1 k kx q1 Q E (pe.le x1 e1) (px.le x1)
    | false => exact hb F hcs hn C cells g1 r1 m st1 s1 S1 k kx q1 Q E (pe.le x1 e1) (px.le x1)
theorem sndL_nil : SndL P XR N cs lNil [] := fun F hcs hn C cells g real m st s S k kx q pos Q E pe px => spliced_none (pe [] [] g real st s S (Gh.Le.refl _) rfl .nil rfl q)
theorem sndL_cons {c : EC} {d : LC} {e : Expr} {es : List Expr} (hs : notStar e = true) (hc : SndE P XR N cs c e) (hd : SndL P XR N cs d es) : SndL P XR N cs (lCons c d) (e :: es) :=
  fun F hcs hn C cells g real m st s S k kx q pos Q E pe px => by
    refine spliced_more ?_ (star_cons hs)
    refine hc F hcs hn C cells g real m st s S (fun a st => d st (fun l st => k (a :: l) st) kx) kx q _ E (fun v a g1 r1 st1 s1 S1 x1 e1 V1 q1 => ?_) px
    refine hd F hcs hn C cells g1 r1 m st1 s1 S1 (fun l st => k (a :: l) st) kx q1 pos _ E (fun vs l g2 r2 st2 s2 S2 x2 e2 A2 hl q2 => ?_) (px.le x1)
    exact pe (v :: vs) (a :: l) g2 r2 st2 s2 S2 (x1.trans x2) (e2.trans e1) (.cons (V1.mono x2) A2) (by rw [List.length_cons, List.length_cons, hl]) q2
theorem sndE_tup {l : LC} {es : List Expr} {j : Nat} {pos : Pos} (h : SndL P XR N cs l es) (hl : es.length ≤ 1000) : SndE P XR N cs (eTup l) (.Tuple es j pos) :=
  fun F hcs hn C cells g real m st s S k kx q Q E pe px => by
    refine Tuple_ (h F hcs hn C cells g real m st s S (fun l st => k (.tup l) st) kx q pos _ E (fun vs l g1 r1 st1 s1 S1 x1 e1 V1 hv q1 => ?_) px)
    refine newTuple_N S1.hr.fr S1.hr.ns (fun h' F' N' => ?_) (by rw [sizeLine_eq]; omega)
    have lt : ∀ q ∈ led F.oth cells g1 r1, q.1 < s1.heap.objs.size := fun q hq => Heap.lt_size (S1.hr.ns q hq).1
    refine pe _ _ (g1.add [(s1.heap.objs.size, tupO vs)]) r1 st1 _ (S1.grow (S1.hr.addCst (t := s1.toks) F' N' lt) (Gh.le_add _ _) rfl rfl) (x1.trans (Gh.le_add _ _)) e1 ?_ q1
    exact .tup (.inl (List.mem_append_right _ (.head _))) (AllV.mono (Gh.le_add _ _) V1)
theorem SR.newBlk (S : SR P F cells g real m st s) {h' : Heap} {b : Blk} {o : AO} {t : Nat} (Fr' : Fr F.h₀ F.L h' m) (N' : News F.h₀ F.L h' (b.objs ++ led F.oth cells g real)) (ne : ∀ q ∈ led F.oth cells g real, ∀ r ∈ b.objs, q.1 ≠ r.1) (nd : (b.objs.map (·.1)).Nodup)
    (B : BRel P.prog P.w P.K P.cA g b o) (hn : st.hn ≤ 4000) :
    SR P F cells ⟨g.cst, g.rho ++ [b.addr], g.tht⟩ (real ++ [b]) m ⟨st.loc, HT.put 12 st.H st.hn o, st.hn + 1, st.known, st.nv⟩ { s with heap := h', toks := t } ∧ g.Le ⟨g.cst, g.rho ++ [b.addr], g.tht⟩ ∧
      (g.rho ++ [b.addr])[st.hn]? = some b.addr := by
  have le : g.Le ⟨g.cst, g.rho ++ [b.addr], g.tht⟩ := ⟨fun _ h => h, fun k a h => by
    rw [List.getElem?_append_left (List.getElem?_eq_some_iff.mp h).1]; exact h, fun _ _ h => h⟩
  have ledE : ledger (real ++ [b]) = ledger real ++ b.objs := by
    show (real ++ [b]).flatMap Blk.objs = _
    rw [List.flatMap_append]; simp [ledger]
  have perm : (led F.oth cells ⟨g.cst, g.rho ++ [b.addr], g.tht⟩ (real ++ [b])).Perm (b.objs ++ led F.oth cells g real) := by
    show (cells ++ (F.oth ++ (g.cst ++ ledger (real ++ [b])))).Perm _
    rw [ledE, ← List.append_assoc g.cst, ← List.append_assoc F.oth, ← List.append_assoc cells]
    exact List.perm_append_comm
  have hnr : g.rho.length = st.hn := by rw [S.ar.rho, List.length_map, S.ar.hn]
  refine ⟨⟨⟨Fr', fun q hq => N' q (perm.mem_iff.mp hq), ?_, S.hr.rst.toks _ _⟩, ⟨?_, ?_, ?_, ?_, ?_⟩, S.lr.mono le⟩, le, ?_⟩
  · refine (perm.map _).nodup_iff.mpr ?_
    rw [List.map_append, List.nodup_append]
    refine ⟨nd, S.hr.nd, fun x hx y hy e => ?_⟩
    obtain ⟨r, hr, rfl⟩ := List.mem_map.mp hx
    obtain ⟨q, hq, rfl⟩ := List.mem_map.mp hy
    exact ne q hq r hr e.symm
  · show g.rho ++ [b.addr] = (real ++ [b]).map Blk.addr
    rw [List.map_append, ← S.ar.rho]; rfl
  · show (real ++ [b]).length = st.hn + 1
    rw [List.length_append, S.ar.hn]; rfl
  · intro k o' q
    have q : (HT.put 12 st.H st.hn o).get k = some o' := q
    rw [HT.get_put o 12 st.H st.hn k (by omega)] at q
    by_cases e : k = st.hn
    · rw [if_pos e] at q; cases q
      refine ⟨b, ?_, B.mono le⟩
      rw [e, ← S.ar.hn, List.getElem?_append_right (Nat.le_refl _), Nat.sub_self]; rfl
    · rw [if_neg e] at q
      obtain ⟨b', h1, h2⟩ := S.ar.ob k o' q
      exact ⟨b', by rw [List.getElem?_append_left (List.getElem?_eq_some_iff.mp h1).1]; exact h1, h2.mono le⟩
  · exact S.ar.kn
  · exact S.ar.nv
  · rw [← hnr, List.getElem?_append_right (Nat.le_refl _), Nat.sub_self]; rfl
theorem new_true {o : AO} {k : Nat → St → Bool} (h : new o st k = true) : st.hn ≤ 4000 ∧ k st.hn ⟨st.loc, HT.put 12 st.H st.hn o, st.hn + 1, st.known, st.nv⟩ = true := by
  have h : @Bool.rec (fun _ => Bool) false (k st.hn ⟨st.loc, HT.put 12 st.H st.hn o, st.hn + 1, st.known, st.nv⟩) (Nat.ble st.hn 4000) = true := h
  rcases bool_rec_true h with ⟨h1, h2⟩ | ⟨_, h2⟩
  · exact ⟨Nat.le_of_ble_eq_true h1, h2⟩
  · cases h2
end
end Mine
end
section
open PySem PySem.W PyProof.Rows PySem.Calls
namespace Mine
section
variable {P : Pk} {XR : XRel} {N : Nat} {cs : Scope} {F : Fd} {cells : List (Addr × Obj)} {g g' : Gh} {real : List Blk} {m : Str → Option Value} {st st' : St} {s : Shared}
theorem nd1 (a : Addr) : [a].Nodup := List.nodup_cons.mpr ⟨(fun h => nomatch h), List.nodup_nil⟩
theorem sndE_lst {l : LC} {es : List Expr} {pos : Pos} (h : SndL P XR N cs l es) (hl : es.length ≤ 1000) : SndE P XR N cs (eLst l) (.List es pos) :=
  fun F hcs hn C cells g real m st s S k kx q Q E pe px => by
    refine List_ (h F hcs hn C cells g real m st s S (fun l st => newR (.lst l) st k) kx q pos _ E (fun vs l g1 r1 st1 s1 S1 x1 e1 V1 hv q1 => ?_) px)
    obtain ⟨hh, q2⟩ := new_true q1
    refine newList_K S1.hr.fr S1.hr.ns (fun d h' F' N' lt => ?_) (by rw [sizeLine_eq]; omega)
    obtain ⟨S2, le, hr⟩ := S1.newBlk (b := .lst d vs 0) (o := .lst l) (t := s1.toks) F' N' (fun q hq r hr => by
      rw [List.mem_singleton.mp (show r ∈ [_] from hr)]; exact Nat.ne_of_lt (lt q hq)) (nd1 _) (.lst V1) hh
    exact pe _ _ _ _ _ _ S2 (x1.trans le) e1 (.ref hr) q2
theorem eq_modules {P : Pk} {F : Fd} (C : Cx P F) : F.h₀.NoLimit := C.top.nolimit
noncomputable def SndD (P : Pk) (XR : XRel) (N : Nat) (cs : Scope) (c : DC) (ks : List Nat) (keys : List (Option Expr)) (es : List Expr) : Prop :=
  ∀ (F : Fd), F.cs = cs → N ≤ F.n → Cx P F → ∀ cells g real m st s, SR P F cells g real m st s → ∀ k kx, c st k kx = true → ∀ (pos : Pos) (Q : List (Value × Value) → Shared → Prop) E,
    (∀ vs l g' real' st' s', SR P F cells g' real' m st' s' → g.Le g' → st'.loc = st.loc → allStrKeys vs = true → KeyRel (P.VR g') (strPairs vs) l → l.map (·.1) = ks → k l st' = true → Q vs s') → PostX P XR F g kx E →
    wpAny P.M F.A (evalPairs (pairTrees keys es F.env pos)) Q E s
theorem sndD_nil : SndD P XR N cs dNil [] [] [] := fun F hcs hn C cells g real m st s S k kx q pos Q E pe px => pairTrees_nil_walk (pe [] [] g real st s S (Gh.Le.refl _) rfl rfl .nil rfl q)
theorem SR.toks (S : SR P F cells g real m st s) (t : Nat) : SR P F cells g real m st { s with toks := t } := ⟨S.hr.toks t, S.ar, S.lr⟩
theorem sndD_cons {x : Str} {n j : Nat} {kp : Pos} {c : EC} {d : DC} {e : Expr} {keys : List (Option Expr)} {es : List Expr} {ks : List Nat} (hx : x = nm n) (hn : n < tabN) (hc : SndE P XR N cs c e) (hd : SndD P XR N cs d ks keys es) :
    SndD P XR N cs (dCons n c d) (n :: ks) (some (.Constant (.str x) j kp) :: keys) (e :: es) :=
  fun F hcs hN C cells g real m st s S k kx q pos Q E pe px => by
    subst hx
    refine pairTrees_cons_walk (wpAny_Constant_str ?_)
    refine hc F hcs hN C cells g real m st _ (S.toks _) (fun a st => d st (fun l st => k ((n, a) :: l) st) kx) kx q _ E (fun v a g1 r1 st1 s1 S1 x1 e1 V1 q1 => ?_) px
    refine hd F hcs hN C cells g1 r1 m st1 s1 S1 (fun l st => k ((n, a) :: l) st) kx q1 pos _ E (fun vs l g2 r2 st2 s2 S2 x2 e2 a2 K2 hl q2 => ?_) (px.le x1)
    exact pe ((.str (nm n) _, v) :: vs) ((n, a) :: l) g2 r2 st2 s2 S2 (x1.trans x2) (e2.trans e1) a2 (.cons hn (V1.mono x2) K2) (by rw [List.map_cons, hl]) q2
theorem sndE_dic0 {pos : Pos} : SndE P XR N cs (eDic dNil) (.Dict [] [] pos) :=
  fun F hcs hn C cells g real m st s S k kx q Q E pe px => by
    obtain ⟨hh, q2⟩ := new_true (show new (.dic []) st (fun x st => k (.ref x) st) = true from q)
    refine newDict_K S.hr.fr S.hr.ns (eq_modules C) fun d h' o F' N' lt lo ho _ _ _ => ?_
    obtain ⟨S2, le, hr⟩ := S.newBlk (b := .dic d o) (o := .dic []) (t := s.toks) F' N' (fun q hq r hr => by
      rw [List.mem_singleton.mp (show r ∈ [_] from hr)]; exact Nat.ne_of_lt (lt q hq)) (nd1 _) (.dic ho lo .nil) hh
    exact pe _ _ _ _ _ _ S2 le rfl (.ref hr) q2
noncomputable abbrev Fd.with (F : Fd) (q : Addr × Obj) : Fd := { F with oth := q :: F.oth }
theorem Cx.with {P : Pk} {F : Fd} (C : Cx P F) (q : Addr × Obj) : Cx P (F.with q) := ⟨C.below, C.eqA, C.fr, C.kin, C.top, C.hd, C.kind, C.dep, C.un, C.keys, C.law⟩
noncomputable def XOth (P : Pk) (XR : XRel) : Prop := ∀ F q g real m a x s, XR (Fd.with F q) g real m a x s → XR F g real m a x s
theorem led_with (q : Addr × Obj) : (led (F.with q).oth cells g real).Perm (q :: led F.oth cells g real) := by
  show (cells ++ (q :: F.oth ++ (g.cst ++ ledger real))).Perm _
  exact List.perm_middle
theorem SR.without {q : Addr × Obj} (S : SR P (F.with q) cells g real m st s) : SR P F cells g real m st s := by
  refine ⟨⟨S.hr.fr, fun x hx => S.hr.ns x ((led_with q).mem_iff.mpr (.tail _ hx)), ?_, S.hr.rst⟩, S.ar, S.lr⟩
  have := ((led_with (cells := cells) (g := g) (real := real) (F := F) q).map (·.1)).nodup_iff.mp S.hr.nd
  exact (List.nodup_cons.mp this).2
theorem SR.with {q : Addr × Obj} (S : SR P F cells g real m st s) {h' : Heap} {t : Nat} (F' : Fr F.h₀ F.L h' m) (N' : News F.h₀ F.L h' (q :: led F.oth cells g real)) (lt : ∀ x ∈ led F.oth cells g real, x.1 ≠ q.1) : SR P (F.with q) cells g real m st { s with heap := h', toks := t } := by
  refine ⟨⟨F', fun x hx => N' x ((led_with q).mem_iff.mp hx), ?_, S.hr.rst.toks _ _⟩, S.ar, S.lr⟩
  refine ((led_with q).map (·.1)).nodup_iff.mpr (List.nodup_cons.mpr ⟨fun z => ?_, S.hr.nd⟩)
  obtain ⟨y, hy, e⟩ := List.mem_map.mp z
  exact lt y hy e
theorem SR.with_ne {q : Addr × Obj} (S : SR P (F.with q) cells g real m st s) : ∀ x ∈ led F.oth cells g real, x.1 ≠ q.1 := by
  have := ((led_with (cells := cells) (g := g) (real := real) (F := F) q).map (·.1)).nodup_iff.mp S.hr.nd
  intro x hx e
  exact (List.nodup_cons.mp this).1 (show q.1 ∈ _ from by rw [← e]; exact List.mem_map_of_mem hx)
theorem SR.with_news {q : Addr × Obj} (S : SR P (F.with q) cells g real m st s) : News F.h₀ F.L s.heap (q :: led F.oth cells g real) := fun x hx => S.hr.ns x ((led_with q).mem_iff.mpr hx)
theorem PostX.with (X : XOth P XR) {kx : K1} {E : Value → Shared → Prop} {q : Addr × Obj} (h : PostX P XR F g kx E) : PostX P XR (F.with q) g kx E :=
  fun a x g1 r1 m1 st1 s1 x1 R y z => h a x g1 r1 m1 st1 s1 x1 R (X F q g1 r1 m1 a x s1 y) z
theorem keyRel_nodup {V : Value → AV → Prop} {kvs : List (Str × Value)} {l : List (Nat × AV)} (h : KeyRel V kvs l) (n : (l.map (·.1)).Nodup) : (kvs.map (·.1)).Nodup := by
  have mem : ∀ {kvs : List (Str × Value)} {l : List (Nat × AV)}, KeyRel V kvs l → ∀ c < tabN, nm c ∈ kvs.map (·.1) → c ∈ l.map (·.1) := by
    intro kvs l h
    induction h with
    | nil => intro c _ q; cases q
    | cons hc _ _ ih =>
      intro c hc' q
      rcases List.mem_cons.mp q with e | q
      · rw [nm_inj hc' hc e]; exact .head _
      · exact .tail _ (ih c hc' q)
  induction h with
  | nil => exact List.nodup_nil
  | cons hc _ hr ih =>
    have n := List.nodup_cons.mp n
    exact List.nodup_cons.mpr ⟨fun q => n.1 (mem hr _ hc q), ih n.2⟩
theorem sndE_dic {c : DC} {ks : List Nat} {keys : List (Option Expr)} {es : List Expr} {pos : Pos} (X : XOth P XR) (h : SndD P XR N cs c ks keys es) (hall : keys.all (·.isSome) = true) (hl : keys.length = es.length) (h0 : keys ≠ []) (hlen : keys.length ≤ 15) (nd : ks.Nodup) :
    SndE P XR N cs (eDic c) (.Dict keys es pos) :=
  fun F hcs hn C cells g real m st s S k kx q Q E pe px => by
    refine kdn_eval (knd := strKind P.prog P.w) S.hr.fr S.hr.ns (eq_modules C) hall hl h0 hlen fun d h' o F' N' lt lo ho => ?_
    have S0 := S.with (q := (d, o)) (t := s.toks) F' N' fun x hx => Nat.ne_of_lt (lt x hx)
    refine h (F.with (d, o)) hcs hn (C.with _) cells g real m st _ S0 (fun l st => newR (.dic l) st k) kx q pos _ E (fun vs l g1 r1 st1 s1 S1 x1 e1 a1 K1 hk q1 => ?_) (px.with X)
    obtain ⟨hh, q2⟩ := new_true q1
    refine kdn_made_str S1.hr.fr S1.with_news (.head S1.with_ne) ho a1 (keyRel_nodup K1 (hk ▸ nd)) fun h2 o2 F2 N2 ho2 => ?_
    obtain ⟨S2, le, hr⟩ := S1.without.newBlk (b := .dic d o2) (o := .dic l) (t := s1.toks + vs.length) F2 N2 (fun q hq r hr => by
      rw [List.mem_singleton.mp (show r ∈ [_] from hr)]; exact S1.with_ne q hq) (nd1 _) (.dic ho2 lo K1) hh
    exact pe _ _ _ _ _ _ S2 (x1.trans le) e1 (.ref hr) q2
theorem optK_true {x : Option AV} {k : AV → Bool} (h : optK x k = true) : ∃ a, x = some a ∧ k a = true := by
  cases x with
  | none => cases h
  | some a => exact ⟨a, rfl, h⟩
theorem sndE_sub {c d : EC} {e f : Expr} {pos : Pos} (hs : notSlice f = true) (hc : SndE P XR N cs c e) (hd : SndE P XR N cs d f) : SndE P XR N cs (e2 c d (subP tFst)) (.Subscript e f pos) :=
  fun F hcs hn C cells g real m st s S k kx q Q E pe px => by
    refine Subscript_ ?_
    refine hc F hcs hn C cells g real m st s S (fun a st => d st (fun b st => optK (subP tFst a b st) fun a => k a st) kx) kx q _ E (fun v a g1 r1 st1 s1 S1 x1 e1 V1 q1 => ?_) px
    refine hd F hcs hn C cells g1 r1 m st1 s1 S1 (fun b st => optK (subP tFst a b st) fun a => k a st) kx q1 _ E (fun i b g2 r2 st2 s2 S2 x2 e2 V2 q2 => ?_) (px.le x1)
    obtain ⟨r, h1, q3⟩ := optK_true q2
    exact sub_sound C.kin S2.hr S2.ar (V1.mono x2) V2 h1 hs fun u s3 H3 U => pe u r g2 r2 st2 s3 ⟨H3, S2.ar, S2.lr⟩ (x1.trans x2) (e2.trans e1) U q3
theorem sndE_add {c d : EC} {e f : Expr} {pos : Pos} (hc : SndE P XR N cs c e) (hd : SndE P XR N cs d f) : SndE P XR N cs (e2 c d (addP tCat)) (.BinOp e .Add f pos) :=
  fun F hcs hn C cells g real m st s S k kx q Q E pe px => by
    refine wpAny_BinOp ?_
    refine hc F hcs hn C cells g real m st s S (fun a st => d st (fun b st => optK (addP tCat a b st) fun a => k a st) kx) kx q _ E (fun v a g1 r1 st1 s1 S1 x1 e1 V1 q1 => ?_) px
    refine hd F hcs hn C cells g1 r1 m st1 s1 S1 (fun b st => optK (addP tCat a b st) fun a => k a st) kx q1 _ E (fun i b g2 r2 st2 s2 S2 x2 e2 V2 q2 => ?_) (px.le x1)
    obtain ⟨r, h1, q3⟩ := optK_true q2
    exact add_sound C.kin S2.hr S2.ar (V1.mono x2) V2 h1 fun u g3 s3 H3 x3 t3 u3 U => pe u r g3 r2 st2 s3 (S2.grow H3 x3 t3 u3) ((x1.trans x2).trans x3) (e2.trans e1) U q3
noncomputable def CmpQ (P : Pk) (o : CmpOp) (q : CC) : Prop :=
  ∀ (F : Fd), Cx P F → ∀ cells g real m st s, SR P F cells g real m st s → ∀ v u a b, P.VR g v a → P.VR g u b → ∀ k, q a b st k = true → ∀ (Q E : Value → Shared → Prop),
    (∀ x st' s', SR P F cells g real m st' s' → st'.loc = st.loc → k x st' = true → Q (.bool x) s') → wpAny P.M F.A (compareOp o v u) Q E s
theorem cmpV_sound {o : CmpOp} {f : C2} {q : CC} (F1 : CmpOk P.prog P.w P.K P.cA o f) (F2 : CmpQ P o q) (C : Cx P F) (S : SR P F cells g real m st s) {v u : Value} {a b : AV} (V : P.VR g v a) (U : P.VR g u b) {k : K1} (z : cmpV f q a b st k = true)
    {Q E : Value → Shared → Prop} (h : ∀ x r st' s', SR P F cells g real m st' s' → st'.loc = st.loc → P.VR g (.bool x) r → k r st' = true → Q (.bool x) s') : wpAny P.M F.A (compareOp o v u) Q E s := by
  have z : @Option.rec AV (fun _ => Bool) (q a b st fun x st => k (.boo x) st) (fun x => k x st) (cmpP f a b st) = true := z
  cases y : cmpP f a b st with
  | none =>
    rw [y] at z
    exact F2 F C cells g real m st s S v u a b V U _ z Q E fun x st' s' S' e q' => h x (.boo x) st' s' S' e (.boo x) q'
  | some r =>
    rw [y] at z
    exact cmpP_sound F1 C.kin S.hr S.ar V U y fun x s' H' R => h x r st s' ⟨H', S.ar, S.lr⟩ rfl R z
theorem sndE_cmp {o : CmpOp} {f : C2} {q : CC} (F1 : CmpOk P.prog P.w P.K P.cA o f) (F2 : CmpQ P o q) {c d : EC} {e1 e2 : Expr} {pos : Pos} (hm : behindInMarks o e2 = false) (hc : SndE P XR N cs c e1) (hd : SndE P XR N cs d e2) :
    SndE P XR N cs (eCmp f q c d) (.Compare e1 [o] [e2] pos) :=
  fun F hcs hn C cells g real m st s S k kx z Q E pe px => by
    refine wpAny_Compare1 ?_ hm
    refine hc F hcs hn C cells g real m st s S (fun a st => d st (fun b st => cmpV f q a b st k) kx) kx z _ E (fun v a g1 r1 st1 s1 S1 x1 y1 V1 z1 => ?_) px
    refine hd F hcs hn C cells g1 r1 m st1 s1 S1 (fun b st => cmpV f q a b st k) kx z1 _ E (fun i b g2 r2 st2 s2 S2 x2 y2 V2 z2 => ?_) (px.le x1)
    exact cmpV_sound F1 F2 C S2 (V1.mono x2) V2 z2 fun x r st3 s3 S3 y3 R z3 => pe _ r g2 r2 st3 s3 S3 (x1.trans x2) (y3.trans (y2.trans y1)) R z3
theorem sndT_cmp {o : CmpOp} {f : C2} {q : CC} (F1 : CmpOk P.prog P.w P.K P.cA o f) (F2 : CmpQ P o q) {c d : EC} {e1 e2 : Expr} {pos : Pos} (hm : behindInMarks o e2 = false) (hc : SndE P XR N cs c e1) (hd : SndE P XR N cs d e2) :
    SndT P XR N cs (eCmp f q c d) (.Compare e1 [o] [e2] pos) :=
  fun F hcs hn C cells g real m st s S k kx z Q E pe px => by
    refine wpAny_isTrue_Compare1 ?_ hm
    refine hc F hcs hn C cells g real m st s S (fun a st => d st (fun b st => cmpV f q a b st (fun a st => tru a st k)) kx) kx z _ E (fun v a g1 r1 st1 s1 S1 x1 y1 V1 z1 => ?_) px
    refine hd F hcs hn C cells g1 r1 m st1 s1 S1 (fun b st => cmpV f q a b st (fun a st => tru a st k)) kx z1 _ E (fun i b g2 r2 st2 s2 S2 x2 y2 V2 z2 => ?_) (px.le x1)
    refine cmpV_sound F1 F2 C S2 (V1.mono x2) V2 z2 fun x r st3 s3 S3 y3 R z3 => wpAny_truthy_bool ?_
    obtain ⟨b', st4, e, R4, Sm4, z4⟩ := tru_sound S3.ar R z3
    cases e
    exact pe x g2 r2 st4 s3 (S3.sm R4 Sm4) (x1.trans x2) ((Sm4.loc.trans y3).trans (y2.trans y1)) z4
theorem cmpQ_of {o : CmpOp} {f : C2} (F1 : CmpOk P.prog P.w P.K P.cA o f) (nb : ∀ a b st x, f a b st = some x → notAlt a ∧ notAlt b) : CmpQ P o (qOf f) :=
  fun F C cells g real m st s S v u a b V U k z Q E h => by
    obtain ⟨a', st1, R1, Sm1, V', z1⟩ := res_sound S.ar V z
    have z1 : @Option.rec Bool (fun _ => Bool) false (fun x => k x st1) (f a' b st1) = true := z1
    cases y : f a' b st1 with
    | none => rw [y] at z1; cases z1
    | some x =>
      rw [y] at z1
      obtain ⟨na, nb'⟩ := nb _ _ _ _ y
      exact F1 C.kin S.hr R1 V' U na nb' y fun s' H' => h x st1 s' ⟨H', R1, S.lr.sm Sm1⟩ Sm1.loc z1
theorem cin_alt (a b : AV) (st : St) (x : Bool) (h : cin a b st = some x) : notAlt a ∧ notAlt b := by
  have h : in1 a b st = some x := h
  constructor
  · cases a with
    | alt i l =>
      cases b <;> try (cases h; done)
      obtain ⟨o, _, h⟩ := opt_bind_some h
      cases o <;> cases h
    | _ => trivial
  · cases b with
    | alt i l => cases h
    | _ => trivial
theorem cgt_alt (a b : AV) (st : St) (x : Bool) (h : cgt a b st = some x) : notAlt a ∧ notAlt b := by
  have h : gt1 a b = some x := h
  constructor
  · cases a <;> first | trivial | cases h
  · cases b <;> first | trivial | (cases a <;> cases h)
theorem cmpQ_in : CmpQ P .In (qOf cin) := cmpQ_of cmp_in cin_alt
theorem cmpQ_gt : CmpQ P .Gt (qOf cgt) := cmpQ_of cmp_gt cgt_alt
end
end Mine
end
section
open PySem PySem.W PyProof.Rows PySem.Calls
namespace Mine
theorem nm_ok : ∀ c, c < tabN → PyData.strOk (nm c) = true := by decide +kernel
section
variable {P : Pk} {XR : XRel} {N : Nat} {cs : Scope} {F : Fd} {cells : List (Addr × Obj)} {g g' : Gh} {real : List Blk} {m : Str → Option Value} {st st' : St} {s : Shared}
theorem eqO_true {a b : AV} {k : KS} (h : eqO a b st k = true) : eq1 a b = some true ∧ k st = true := by
  have h : @Option.rec Bool (fun _ => Bool) false (fun x => @Bool.rec (fun _ => Bool) false (k st) x) (eq1 a b) = true := h
  cases z : eq1 a b with
  | none => rw [z] at h; cases h
  | some x =>
    rw [z] at h
    cases x with
    | false => cases h
    | true => exact ⟨rfl, h⟩
noncomputable def Twin (s : Shared) (n : Nat) (v u : Value) : Prop := ∃ d av bv, Reads s.heap v d av ∧ Reads s.heap u d bv ∧ d.canLay0 = true ∧ d.depth ≤ n
noncomputable def Twins (s : Shared) (n : Nat) (vs us : List Value) : Prop := ∃ d av bv, ReadsAll s.heap vs d av ∧ ReadsAll s.heap us d bv ∧ PyData.canLayAll0 d = true ∧ PyData.depthAll d ≤ n
theorem eq1_twin {v u : Value} {a b : AV} {n : Nat} (V : P.VR g v a) (U : P.VR g u b) (h : eq1 a b = some true) : Twin s n v u := by
  have E := eq1_inv h
  generalize hx : true = x0 at E
  cases E
  · cases V.non_inv; cases U.non_inv; exact ⟨.none, _, _, .none, .none, rfl, Nat.zero_le _⟩
  · rename_i x y
    have e : eqB x y = true := hx.symm
    cases V.boo_inv; cases U.boo_inv; cases eqB_true e
    exact ⟨.bool x, _, _, .bool _, .bool _, rfl, Nat.zero_le _⟩
  · rename_i x y
    have e : intB x y = true := hx.symm
    obtain ⟨t, rfl⟩ := V.int_inv; obtain ⟨t', rfl⟩ := U.int_inv; cases intB_true e
    exact ⟨.int x, _, _, .int _ _, .int _ _, rfl, Nat.zero_le _⟩
  · rename_i x y
    have e : Nat.beq x y = true := hx.symm
    obtain ⟨hc, t, rfl⟩ := V.str_inv; obtain ⟨hd, t', rfl⟩ := U.str_inv; cases beq_of e
    exact ⟨.str (nm x), _, _, .str _ _, .str _ _, by rw [PyData.canLay0]; exact nm_ok x hc, by simp only [PyData.depth]; exact Nat.zero_le _⟩
theorem eqLs_sound (X : P.K.In F.h₀) {ih : AV → AV → St → KS → Bool} {n : Nat}
    (H : ∀ {a b : AV} {st : St} {k : KS} {v u : Value}, SR P F cells g real m st s → P.VR g v a → P.VR g u b → ih a b st k = true → ∃ st', Twin s n v u ∧ SR P F cells g real m st' s ∧ st'.loc = st.loc ∧ k st' = true) :
    ∀ (l j : List AV) {st : St} {k : KS} {vs us : List Value}, SR P F cells g real m st s → AllRel (P.VR g) vs l → AllRel (P.VR g) us j → eqLs ih l j st k = true → ∃ st', Twins s n vs us ∧ SR P F cells g real m st' s ∧ st'.loc = st.loc ∧ k st' = true
  | [], [], st, k, vs, us, S, av, au, h => by
    cases av; cases au
    exact ⟨st, ⟨[], _, _, .nil, .nil, rfl, Nat.zero_le _⟩, S, rfl, h⟩
  | [], _ :: _, _, _, _, _, _, _, _, h => by cases h
  | _ :: _, [], _, _, _, _, _, _, _, h => by cases h
  | a :: l, b :: j, st, k, vs, us, S, av, au, h => by
    rcases av with _ | ⟨hv, hvs⟩
    rcases au with _ | ⟨hu, hus⟩
    obtain ⟨st1, ⟨d, av, bv, d1, d2, d3, d4⟩, S1, e1, q1⟩ := H S hv hu (show ih a b st (fun st => eqLs ih l j st k) = true from h)
    obtain ⟨st2, ⟨ds, as, bs, c1, c2, c3, c4⟩, S2, e2, q2⟩ := eqLs_sound X H l j S1 hvs hus q1
    refine ⟨st2, ⟨d :: ds, _, _, .cons d1 c1, .cons d2 c2, ?_, ?_⟩, S2, e2.trans e1, q2⟩
    · rw [PyData.canLayAll0, d3, c3]; rfl
    · rw [PyData.depthAll]; omega
theorem eqA_sound (X : P.K.In F.h₀) : ∀ (n : Nat) {a b : AV} {st : St} {k : KS} {v u : Value}, SR P F cells g real m st s → P.VR g v a → P.VR g u b → eqA n a b st k = true → ∃ st', Twin s n v u ∧ SR P F cells g real m st' s ∧ st'.loc = st.loc ∧ k st' = true
  | 0, _, _, _, _, _, _, _, _, _, h => by cases h
  | n + 1, a, b, st, k, v, u, S, V, U, h => by
    obtain ⟨a', st1, R1, Sm1, V', h1⟩ := res_sound S.ar V (show res a st (fun a st => res b st fun b st => eqC (eqA n) a b st k) = true from h)
    have S1 := S.sm R1 Sm1
    obtain ⟨b', st2, R2, Sm2, U', h2⟩ := res_sound S1.ar U h1
    have S2 := S1.sm R2 Sm2
    have fin : eqO a' b' st2 k = true → ∃ st', Twin s (n + 1) v u ∧ SR P F cells g real m st' s ∧ st'.loc = st.loc ∧ k st' = true := fun h3 => by
      obtain ⟨h4, h5⟩ := eqO_true h3
      exact ⟨st2, eq1_twin V' U' h4, S2, Sm2.loc.trans Sm1.loc, h5⟩
    cases a' with
    | tup l =>
      cases b' with
      | tup j =>
        cases V' with
        | tup T AL =>
          cases U' with
          | tup T' AL' =>
            obtain ⟨st3, ⟨d, av, bv, d1, d2, d3, d4⟩, S3, e3, q3⟩ := eqLs_sound X (eqA_sound X n) l j S2 AL AL' h2
            obtain ⟨o, ho, hc, k1, hd⟩ := T.isTup S.hr X
            obtain ⟨o', ho', hc', k2, hd'⟩ := T'.isTup S.hr X
            refine ⟨st3, ⟨.tuple d, _, _, .tuple ho hc hd d1, .tuple ho' hc' hd' d2, ?_, ?_⟩, S3, e3.trans (Sm2.loc.trans Sm1.loc), q3⟩
            · rw [PyData.canLay0]; exact d3
            · rw [PyData.depth]; omega
      | _ => cases h2
    | _ => exact fin h2
theorem Twin.shaped {n : Nat} {d : PyData} (h : d.canLay0 = true) (k : d.depth ≤ n) (hn : n ≤ 64) : SeqAt.shaped d = true := by
  show (d.canLay0 && decide (d.depth ≤ 64)) = true
  rw [h, Bool.true_and, decide_eq_true_iff]; omega
theorem Cx.units (C : Cx P F) : F.A.units + 64 < cLine := by have := C.un; omega
theorem asL_true {a : AV} {k : Nat → List AV → Bool} (h : asL a st k = true) : ∃ x l, a = .ref x ∧ st.H.get x = some (.lst l) ∧ k x l = true := by
  cases a <;> try (cases h; done)
  rename_i x
  have h : @Option.rec AO (fun _ => Bool) false (fun o => @AO.rec (fun _ => Bool) (fun l => k x l) (fun _ => false) (fun _ _ => false) o) (st.H.get x) = true := h
  cases z : st.H.get x with
  | none => rw [z] at h; cases h
  | some o =>
    rw [z] at h
    cases o with
    | lst l => exact ⟨x, l, rfl, z, h⟩
    | _ => cases h
theorem SR.list (S : SR P F cells g real m st s) {v : Value} {x : Nat} {l : List AV} (V : P.VR g v (.ref x)) (h : st.H.get x = some (.lst l)) : ∃ a vs n, v = .ref a ∧ real[x]? = some (.lst a vs n) ∧ AllRel (P.VR g) vs l ∧ s.heap.IsList a vs.toArray := by
  cases V with
  | ref ha =>
    obtain ⟨b, hb, B⟩ := S.ar.ob x _ h
    cases B with
    | lst AL =>
      rename_i a' vs n
      have e : _ = a' := S.ar.addr ha hb
      subst e
      exact ⟨_, vs, n, rfl, hb, AL, News.isList S.hr.ns (real_mem hb (.head _))⟩
theorem lists_eq {A : Around} {l b : Addr} {vs : List Value} {x : Bool} (hl : s.heap.IsList l vs.toArray) (hb : s.heap.IsList b (#[] : Array Value)) (hu : A.units + 64 < cLine) (e : vs.isEmpty = x) {Q E : Value → Shared → Prop} {prog : Program} {w : World} :
    (Q (.bool x) s → wpAny (model prog w) A (compareOp .Eq (.ref l) (.ref b)) Q E s) ∧ (Q (.bool (!x)) s → wpAny (model prog w) A (compareOp .NotEq (.ref l) (.ref b)) Q E s) := by
  have hu' : A.units < cLine := by omega
  cases vs with
  | nil =>
    cases e
    obtain ⟨o, ho, hc, k, hd⟩ := hl
    obtain ⟨o', ho', hc', k', hd'⟩ := hb
    have R1 : Reads s.heap (.ref l) (.list []) [l] := .list ho hc hd .nil
    have R2 : Reads s.heap (.ref b) (.list []) [b] := .list ho' hc' hd' .nil
    exact ⟨fun h => eq_dataH R1 R2 rfl rfl hu h, fun h => ne_dataH R1 R2 rfl rfl hu h⟩
  | cons v vs =>
    cases e
    exact ⟨fun h => PySem.EqBoolInt.of_rc (SeqAt.RcAt.lists_lengths hl hb (by simp) hu') h, fun h => PySem.EqBoolInt.of_rcne (SeqAt.RcNeAt.lists_lengths hl hb (by simp) hu') h⟩
theorem cmpEq_sound (C : Cx P F) (S : SR P F cells g real m st s) {v u : Value} {a b : AV} (V : P.VR g v a) (U : P.VR g u b) {k : KB} (z : cmpEq a b st k = true) {Q E : Value → Shared → Prop} :
    ∃ x st', SR P F cells g real m st' s ∧ st'.loc = st.loc ∧ k x st' = true ∧ (Q (.bool x) s → wpAny P.M F.A (compareOp .Eq v u) Q E s) ∧ (Q (.bool (!x)) s → wpAny P.M F.A (compareOp .NotEq v u) Q E s) := by
  have deep : eqA 12 a b st (fun st => k true st) = true → ∃ x st', SR P F cells g real m st' s ∧ st'.loc = st.loc ∧ k x st' = true ∧ (Q (.bool x) s → wpAny P.M F.A (compareOp .Eq v u) Q E s) ∧ (Q (.bool (!x)) s → wpAny P.M F.A (compareOp .NotEq v u) Q E s) := fun h => by
    obtain ⟨st', ⟨d, av, bv, d1, d2, d3, d4⟩, S', e, q⟩ := eqA_sound C.kin 12 S V U h
    have sh := Twin.shaped d3 d4 (by decide)
    have er := SeqAt.eqv_refl d d3
    exact ⟨true, st', S', e, q, fun h => eq_dataH d1 d2 sh sh C.units (by rw [er]; exact h), fun h => ne_dataH d1 d2 sh sh C.units (by rw [er]; exact h)⟩
  cases b with
  | ref y =>
    have z : asL (.ref y) st (fun _ m => @List.rec AV (fun _ => Bool) (asL a st fun _ l => @List.rec AV (fun _ => Bool) (k true st) (fun _ _ _ => k false st) l) (fun _ _ _ => false) m) = true := z
    obtain ⟨y', l2, e, hy, z2⟩ := asL_true z
    cases e
    cases l2 with
    | cons _ _ => cases z2
    | nil =>
      obtain ⟨x, l1, rfl, hx, z3⟩ := asL_true z2
      obtain ⟨a1, vs, n, rfl, _, AL, I1⟩ := S.list V hx
      obtain ⟨a2, us, n2, rfl, _, AL2, I2⟩ := S.list U hy
      cases AL2
      have key := fun x (e : vs.isEmpty = x) => lists_eq (A := F.A) (prog := P.prog) (w := P.w) (Q := Q) (E := E) I1 I2 C.units e
      cases AL with
      | nil => exact ⟨true, st, S, rfl, z3, key true rfl⟩
      | cons _ _ => exact ⟨false, st, S, rfl, z3, key false rfl⟩
  | _ => exact deep z
theorem cmpQ_eq : CmpQ P .Eq qEq :=
  fun F C cells g real m st s S v u a b V U k z Q E h => by
    obtain ⟨x, st', S', e, q, h1, _⟩ := cmpEq_sound C S V U z (Q := Q) (E := E)
    exact h1 (h x st' s S' e q)
theorem cmpQ_ne : CmpQ P .NotEq qNe :=
  fun F C cells g real m st s S v u a b V U k z Q E h => by
    obtain ⟨x, st', S', e, q, _, h1⟩ := cmpEq_sound C S V U z (Q := Q) (E := E)
    rw [notB_eq] at q
    exact h1 (h (!x) st' s S' e q)
end
end Mine
end
section
open PySem PySem.W PyProof.Rows PySem.Calls
namespace Mine
structure CE (F : Fd) (cells : List (Addr × Obj)) : Prop where
  at_ : cells.map (·.1) = F.cl.map (·.2)
  ok : ∀ q ∈ cells, ∃ v, q.2.data = .cell v
noncomputable abbrev PostN (P : Pk) (F : Fd) (g : Gh) (kn : KS) (Q : Flow → Shared → Prop) : Prop :=
  ∀ cells' g' real' m' st' s', SR P F cells' g' real' m' st' s' → CE F cells' → g.Le g' → kn st' = true → Q .next s'
noncomputable abbrev PostR (P : Pk) (F : Fd) (g : Gh) (kr : K1) (Q : Flow → Shared → Prop) : Prop :=
  ∀ v a cells' g' real' m' st' s', HR F.h₀ F.L F.rst F.oth cells' g' real' m' s' → P.AR g' real' st' → g.Le g' → P.VR g' v a → kr a st' = true → Q (.ret v) s'
noncomputable def SndS (P : Pk) (XR : XRel) (N : Nat) (cs : Scope) (c : SC) (body : List Stmt) : Prop :=
  ∀ (F : Fd), F.cs = cs → N ≤ F.n → Cx P F → ∀ cells g real m st s, SR P F cells g real m st s → CE F cells → ∀ kn kr kx, c st kn kr kx = true → ∀ Q E,
    PostN P F g kn Q → PostR P F g kr Q → PostX P XR F g kx E → wpAny P.M F.A (execs body F.env) Q E s
noncomputable def SndS1 (P : Pk) (XR : XRel) (N : Nat) (cs : Scope) (c : SC) (t : Stmt) : Prop :=
  ∀ (F : Fd), F.cs = cs → N ≤ F.n → Cx P F → ∀ cells g real m st s, SR P F cells g real m st s → CE F cells → ∀ kn kr kx, c st kn kr kx = true → ∀ Q E,
    PostN P F g kn Q → PostR P F g kr Q → PostX P XR F g kx E → wpAny P.M F.A (exec t F.env) Q E s
section
variable {P : Pk} {XR : XRel} {N : Nat} {cs : Scope} {F : Fd} {cells : List (Addr × Obj)} {g g' : Gh} {real : List Blk} {m : Str → Option Value} {st st' : St} {s : Shared}
theorem PostN.le {kn : KS} {Q : Flow → Shared → Prop} (h : PostN P F g kn Q) (x : g.Le g') : PostN P F g' kn Q := fun c1 g1 r1 m1 st1 s1 S ce x1 q => h c1 g1 r1 m1 st1 s1 S ce (x.trans x1) q
theorem PostR.le {kr : K1} {Q : Flow → Shared → Prop} (h : PostR P F g kr Q) (x : g.Le g') : PostR P F g' kr Q := fun v a c1 g1 r1 m1 st1 s1 S R x1 V q => h v a c1 g1 r1 m1 st1 s1 S R (x.trans x1) V q
theorem sndS_nil : SndS P XR N cs sNil [] := fun F hcs hn C cells g real m st s S ce kn kr kx q Q E pn pr px => wpAny_execs_nil (pn cells g real m st s S ce (Gh.Le.refl _) q)
theorem sndS_cons {c d : SC} {t : Stmt} {body : List Stmt} (h : SndS1 P XR N cs c t) (h2 : SndS P XR N cs d body) : SndS P XR N cs (sCons c d) (t :: body) :=
  fun F hcs hn C cells g real m st s S ce kn kr kx q Q E pn pr px => by
    refine wpAny_execs_cons (h F hcs hn C cells g real m st s S ce (fun st => d st kn kr kx) kr kx q _ E (fun cells1 g1 r1 m1 st1 s1 S1 ce1 x1 q1 => ?_) pr px)
    exact h2 F hcs hn C cells1 g1 r1 m1 st1 s1 S1 ce1 kn kr kx q1 Q E (pn.le x1) (pr.le x1) (px.le x1)
theorem sndS_ret {c : EC} {e : Expr} {pos : Pos} (h : SndE P XR N cs c e) : SndS1 P XR N cs (sRet c) (.Return (some e) pos) :=
  fun F hcs hn C cells g real m st s S ce kn kr kx q Q E pn pr px => by
    refine wpAny_Return_some (h F hcs hn C cells g real m st s S kr kx q _ E (fun v a g1 r1 st1 s1 S1 x1 e1 V q1 => ?_) px)
    exact pr v a cells g1 r1 m st1 s1 S1.hr S1.ar x1 V q1
theorem sndS_iff {t : EC} {a b : SC} {test : Expr} {body orelse : List Stmt} {pos : Pos} (ht : SndT P XR N cs t test) (ha : SndS P XR N cs a body) (hb : SndS P XR N cs b orelse) : SndS1 P XR N cs (sIff t a b) (.If test body orelse pos) :=
  fun F hcs hn C cells g real m st s S ce kn kr kx q Q E pn pr px => by
    refine wpAny_If (ht F hcs hn C cells g real m st s S (fun x st => @Bool.rec (fun _ => Bool) (b st kn kr kx) (a st kn kr kx) x) kx q _ E (fun y g1 r1 st1 s1 S1 x1 e1 q1 => ?_) px)
    cases y with
    | true => exact ha F hcs hn C cells g1 r1 m st1 s1 S1 ce kn kr kx q1 Q E (pn.le x1) (pr.le x1) (px.le x1)
    | false => exact hb F hcs hn C cells g1 r1 m st1 s1 S1 ce kn kr kx q1 Q E (pn.le x1) (pr.le x1) (px.le x1)
theorem nonK_true {a : AV} {b : Bool} (h : nonK a b = true) : a = .non ∧ b = true := by
  cases a with
  | non => exact ⟨rfl, h⟩
  | _ => cases h
theorem sndS_exp {c : EC} {e : Expr} {pos : Pos} (hs : ∀ env, swapsWith e none pos.line env = pure false) (hi : ∀ F : Fd, F.cs = cs → interactive F.env = false) (h : SndE P XR N cs c e) : SndS1 P XR N cs (sExp c) (.Expr e pos) :=
  fun F hcs hn C cells g real m st s S ce kn kr kx q Q E pn pr px => by
    refine wpAny_Expr (h F hcs hn C cells g real m st s S (fun a st => nonK a (kn st)) kx q _ E (fun v a g1 r1 st1 s1 S1 x1 e1 V q1 => ?_) px) (hi F hcs) (hs _)
    obtain ⟨rfl, q2⟩ := nonK_true q1
    cases V.non_inv
    exact pn cells g1 r1 m st1 s1 S1 ce x1 q2
noncomputable def Stor (cs : Scope) (cl : List (Str × Addr)) (x : Nat) : Prop := x < tabN ∧ (cs.names.lookup (nm x) = some .local ∨ (cs.names.lookup (nm x) = some .cell ∧ ∃ c, cl.lookup (nm x) = some c))
theorem lookup_mem {x : Str} {c : Addr} : ∀ {l : List (Str × Addr)}, l.lookup x = some c → (x, c) ∈ l
  | [], h => by cases h
  | (y, d) :: l, h => by
    rw [List.lookup_cons] at h
    by_cases e : (x == y) = true
    · rw [e] at h; cases h; rw [eq_of_beq e]; exact .head _
    · rw [Bool.not_eq_true] at e
      rw [e] at h; exact .tail _ (lookup_mem h)
theorem nodup_snd {a : Addr} {x y : Str} : ∀ {l : List (Str × Addr)}, (l.map (·.2)).Nodup → (x, a) ∈ l → (y, a) ∈ l → x = y
  | (z, b) :: l, n, h1, h2 => by
    have n := List.nodup_cons.mp n
    rcases List.mem_cons.mp h1 with e1 | h3
    · rcases List.mem_cons.mp h2 with e2 | h4
      · rw [show x = z from congrArg Prod.fst e1, show y = z from congrArg Prod.fst e2]
      · have eb : a = b := congrArg Prod.snd e1
        subst eb
        exact absurd (List.mem_map_of_mem (f := fun x : Str × Addr => x.2) h4) n.1
    · rcases List.mem_cons.mp h2 with e2 | h4
      · have eb : a = b := congrArg Prod.snd e2
        subst eb
        exact absurd (List.mem_map_of_mem (f := fun x : Str × Addr => x.2) h3) n.1
      · exact nodup_snd n.2 h3 h4
theorem store_sound (C : Cx P F) (S : SR P F cells g real m st s) (ce : CE F cells) {v : Value} {a : AV} {x : Nat} (V : P.VR g v a) (hx : Stor F.cs F.cl x) {Q : Unit → Shared → Prop} {E : Value → Shared → Prop}
    (h : ∀ cells' m' s', SR P F cells' g real m' (setLoc x a st) s' → CE F cells' → Q () s') : wpAny P.M F.A (storeName F.env (nm x) v) Q E s := by
  obtain ⟨lx, hx | ⟨hx, c, hc⟩⟩ := hx
  · refine storeX_L S.hr.fr S.hr.ns (fun h' F' N' => ?_) C.kind hx
    refine h cells _ _ ⟨⟨F', N', S.hr.nd, S.hr.rst.toks _ _⟩, ⟨S.ar.rho, S.ar.hn, S.ar.ob, S.ar.kn, S.ar.nv⟩, fun y b q => ?_⟩ ce
    have q : look y (put x a st.loc) = some b := q
    rw [look_put] at q
    by_cases e : y = x
    · rw [if_pos e] at q; cases q; subst e
      exact ⟨lx, v, .loc rfl C.kind hx (by simp), V⟩
    · rw [if_neg e] at q
      obtain ⟨ly, u, U1, U2⟩ := S.lr y b q
      refine ⟨ly, u, ?_, U2⟩
      cases U1 with
      | loc k0 kk k1 k2 => exact .loc k0 kk k1 (by rw [if_neg (fun z => e (nm_inj ly lx z))]; exact k2)
      | cel kk k1 k2 k3 k4 => exact .cel kk k1 k2 k3 k4
      | fre kk k1 kn k2 k3 k4 => exact .fre kk k1 kn k2 k3 k4
      | com kk k1 k2 k3 k4 => exact absurd rfl (S.hr.ns _ (List.mem_append_left _ k2)).2.1
  · have nd : (cells.map (·.1)).Nodup := by
      have := S.hr.nd
      rw [show led F.oth cells g real = cells ++ (F.oth ++ (g.cst ++ ledger real)) from rfl, List.map_append, List.nodup_append] at this
      exact this.1
    have hm : c ∈ cells.map (·.1) := by rw [ce.at_]; exact List.mem_map_of_mem (lookup_mem hc)
    obtain ⟨⟨c', o⟩, hq, e⟩ := List.mem_map.mp hm
    have e : c' = c := e
    subst e
    obtain ⟨pre, post, rfl⟩ := List.append_of_mem hq
    obtain ⟨v₀, hd⟩ := ce.ok _ hq
    have hp : (led F.oth (pre ++ (c', o) :: post) g real).Perm ((c', o) :: (pre ++ (post ++ (F.oth ++ (g.cst ++ ledger real))))) := by
      show ((pre ++ (c', o) :: post) ++ _).Perm _
      rw [List.append_assoc, List.cons_append]
      exact List.perm_middle
    have hp' : ∀ o', (led F.oth (pre ++ (c', o') :: post) g real).Perm ((c', o') :: (pre ++ (post ++ (F.oth ++ (g.cst ++ ledger real))))) := fun o' => by
      show ((pre ++ (c', o') :: post) ++ _).Perm _
      rw [List.append_assoc, List.cons_append]
      exact List.perm_middle
    have nd2 := List.nodup_cons.mp ((hp.map (·.1)).nodup_iff.mp S.hr.nd)
    refine storeX_C S.hr.fr (fun q hq => S.hr.ns q (hp.mem_iff.mpr hq)) hc (.head fun q hq z => nd2.1 (by show c' ∈ _; rw [← z]; exact List.mem_map_of_mem (f := fun x : Addr × Obj => x.1) hq)) hd (fun h' o' F' N' hd' => ?_) C.kind hx
    refine h (pre ++ (c', o') :: post) m _ ⟨⟨F', fun q hq => N' q ((hp' o').mem_iff.mp hq), ?_, S.hr.rst.heap _⟩, ⟨S.ar.rho, S.ar.hn, S.ar.ob, S.ar.kn, S.ar.nv⟩, fun y b q => ?_⟩ ⟨?_, fun q hq => ?_⟩
    · exact ((hp' o').map (·.1)).nodup_iff.mpr (List.nodup_cons.mpr nd2)
    · have q : look y (put x a st.loc) = some b := q
      rw [look_put] at q
      by_cases e : y = x
      · rw [if_pos e] at q; cases q; subst e
        exact ⟨lx, v, .cel C.kind hx hc (List.mem_append_right _ (.head _)) hd', V⟩
      · rw [if_neg e] at q
        obtain ⟨ly, u, U1, U2⟩ := S.lr y b q
        refine ⟨ly, u, ?_, U2⟩
        cases U1 with
        | loc k0 kk k1 k2 => exact .loc k0 kk k1 k2
        | com kk k1 k2 k3 k4 => exact absurd rfl (S.hr.ns _ (List.mem_append_left _ k2)).2.1
        | fre kk k1 kn k2 k3 k4 =>
          rename_i c2 o2
          refine .fre kk k1 kn k2 ?_ k4
          rcases List.mem_append.mp k3 with k3 | k3
          · exact List.mem_append_left _ k3
          · rcases List.mem_cons.mp k3 with k3 | k3
            · cases k3
              have k2 : F.cl.lookup (nm y) = some c' := k2
              exact absurd (nm_inj ly lx (nodup_snd (by rw [← ce.at_]; exact nd) (lookup_mem k2) (lookup_mem hc))) e
            · exact List.mem_append_right _ (.tail _ k3)
        | cel kk k1 k2 k3 k4 =>
          rename_i c2 o2
          refine .cel kk k1 k2 ?_ k4
          rcases List.mem_append.mp k3 with k3 | k3
          · exact List.mem_append_left _ k3
          · rcases List.mem_cons.mp k3 with k3 | k3
            · cases k3
              have k2 : F.cl.lookup (nm y) = some c' := k2
              exact absurd (nm_inj ly lx (nodup_snd (by rw [← ce.at_]; exact nd) (lookup_mem k2) (lookup_mem hc))) e
            · exact List.mem_append_right _ (.tail _ k3)
    · rw [← ce.at_]; simp
    · rcases List.mem_append.mp hq with hq | hq
      · exact ce.ok q (List.mem_append_left _ hq)
      · rcases List.mem_cons.mp hq with hq | hq
        · subst hq; exact ⟨_, hd'⟩
        · exact ce.ok q (List.mem_append_right _ (.tail _ hq))
theorem sndS_asn {c : EC} {x : Nat} {y : Str} {e : Expr} {p1 pos : Pos} (hy : y = nm x) (hs : ∀ env, swapsWith e (some (.Name y p1)) pos.line env = pure false) (hst : ∀ F : Fd, F.cs = cs → Cx P F → Stor F.cs F.cl x) (h : SndE P XR N cs c e) :
    SndS1 P XR N cs (sAsn x c) (.Assign [.Name y p1] e pos) :=
  fun F hcs hn C cells g real m st s S ce kn kr kx q Q E pn pr px => by
    subst hy
    refine wpAny_Assign_Name (h F hcs hn C cells g real m st s S (fun a st => kn (setLoc x a st)) kx q _ E (fun v a g1 r1 st1 s1 S1 x1 e1 V q1 => ?_) px) (hs _)
    exact store_sound C S1 ce V (hst F hcs C) fun cells' m' s' S' ce' => pn cells' g1 r1 m' _ s' S' ce' x1 q1
end
end Mine
end
section
open PySem PySem.W PyProof.Rows PySem.Calls
namespace Mine
structure CallAt (F : Fd) (A' : Around) (H : Nat) : Prop where
  fr : A'.frames = some (F.env :: F.outer)
  hd : A'.handled = none
  dep : A'.depth + 1 + 3 * H + 3 < recursionLimit
  un : A'.units + 3 + 16 * H + 200 < cLine
noncomputable abbrev callee (F : Fd) (A' : Around) (H : Nat) (cells : List (Addr × Obj)) (g : Heap) (qual : Str) (scope : Scope) (L' f : Addr) (cdv : Value) (cl : List (Str × Addr)) : Fd :=
  { A := A'.deeper (envX qual scope L' f cdv cl), A₀ := A', base := F.base, h₀ := g, outer := F.env :: F.outer, cn := qual, cs := scope, L := L', a := f, ccd := cdv, cl := cl, n := H, rst := F.rst, oth := cells ++ F.oth }
noncomputable abbrev PostC (P : Pk) (F : Fd) (cells : List (Addr × Obj)) (g : Gh) (m : Str → Option Value) (st : St) (k : K1) (R : Result → Shared → Prop) : Prop :=
  ∀ v a g' real' st' s', SR P F cells g' real' m st' s' → g.Le g' → st'.loc = st.loc → P.VR g' v a → k a st' = true → R (.ok (.ret v)) s'
noncomputable def SndF (P : Pk) (XR : XRel) (H : Nat) (f : FC) (fv : Value) : Prop :=
  ∀ (F : Fd) A', Cx P F → CallAt F A' H → ∀ cells g real m st s, SR P F cells g real m st s → ∀ vs l, AllRel (P.VR g) vs l → ∀ k kx, f l st k kx = true → ∀ (R : Result → Shared → Prop),
    PostC P F cells g m st k R → PostX P XR F g kx (fun x s' => R (.error x) s') → codeAny P.M A' (.call fv ⟨vs, []⟩) R s
noncomputable def XLeave (P : Pk) (XR : XRel) : Prop :=
  ∀ (F : Fd) A' H cells gG qual scope L' f cdv cl m h, Cx P F → Cx P (callee F A' H cells gG qual scope L' f cdv cl) → Fr F.h₀ F.L h m → Fr F.h₀ F.L gG m → News F.h₀ F.L h cells → ∀ g real m' a x s', XR (callee F A' H cells gG qual scope L' f cdv cl) g real m' a x s' →
    ∀ (Q : Unit → Shared → Prop) (E : Value → Shared → Prop), (∀ s'', XR F g real m a x s'' → Q () s'') → wpAny P.M (A'.deeper (envX qual scope L' f cdv cl)) (leaving (envX qual scope L' f cdv cl) x) Q E s'
noncomputable def BindOk (P : Pk) (fd : FuncData) (xs : List Nat) (d : Option AV) : Prop :=
  ∀ s : Shared, P.K.In s.heap → ∀ vs, (vs.length = xs.length → BindsTo s fd ⟨vs, []⟩ ((xs.map nm).zip vs)) ∧ (∀ a, d = some a → a = .non ∧ (vs.length + 1 = xs.length → BindsTo s fd ⟨vs, []⟩ ((xs.map nm).zip (vs ++ [.none]))))
theorem bindP_some {d : Option AV} : ∀ {xs : List Nat} {l : List AV} {loc : List (Nat × AV)}, bindP d xs l = some loc → (l.length = xs.length ∧ loc = xs.zip l) ∨ ∃ a, d = some a ∧ l.length + 1 = xs.length ∧ loc = xs.zip (l ++ [a])
  | [], [], loc, h => by cases h; exact .inl ⟨rfl, rfl⟩
  | [], _ :: _, loc, h => by cases h
  | x :: xs, [], loc, h => by
    cases xs with
    | nil =>
      obtain ⟨a, h1, h2⟩ := opt_bind_some (show @Option.rec AV (fun _ => Option (List (Nat × AV))) none (fun a => some [(x, a)]) d = some loc from h)
      cases h2
      exact .inr ⟨a, h1, rfl, rfl⟩
    | cons y ys => cases h
  | x :: xs, a :: l, loc, h => by
    obtain ⟨loc', h1, h2⟩ := opt_bind_some (show @Option.rec (List (Nat × AV)) (fun _ => Option (List (Nat × AV))) none (fun l => some ((x, a) :: l)) (bindP d xs l) = some loc from h)
    cases h2
    rcases bindP_some h1 with ⟨k1, rfl⟩ | ⟨b, k1, k2, rfl⟩
    · exact .inl ⟨by rw [List.length_cons, List.length_cons, k1], rfl⟩
    · exact .inr ⟨b, k1, by rw [List.length_cons, List.length_cons, ← k2], rfl⟩
section
variable {P : Pk} {XR : XRel} {N H : Nat} {cs : Scope} {F : Fd} {cells : List (Addr × Obj)} {g g' : Gh} {real : List Blk} {m : Str → Option Value} {st st' : St} {s : Shared}
theorem AllRel.snoc {V : Value → AV → Prop} {vs : List Value} {l : List AV} {v : Value} {a : AV} (h : AllRel V vs l) (k : V v a) : AllRel V (vs ++ [v]) (l ++ [a]) := h.append (.cons k .nil)
theorem zip_look {V : Value → AV → Prop} : ∀ {xs : List Nat} {vs : List Value} {l : List AV}, (∀ x ∈ xs, x < tabN) → AllRel V vs l → vs.length = xs.length → ∀ {x : Nat} {a : AV}, look x (xs.zip l) = some a → x ∈ xs ∧ ∃ v, (nm x, v) ∈ (xs.map nm).zip vs ∧ V v a
  | [], _, _, _, _, _, _, _, h => by cases h
  | y :: xs, _, _, _, .nil, h, _, _, _ => by cases h
  | y :: xs, _, _, hx, .cons hv hr, hl, x, a, h => by
    rename_i v b vs l
    have h : look x ((y, b) :: xs.zip l) = some a := h
    rw [look_cons] at h
    by_cases e : x = y
    · rw [if_pos e] at h; cases h; subst e
      exact ⟨.head _, v, .head _, hv⟩
    · rw [if_neg e] at h
      obtain ⟨h1, u, h2, h3⟩ := zip_look (fun z hz => hx z (.tail _ hz)) hr (by simpa using hl) h
      exact ⟨.tail _ h1, u, .tail _ h2, h3⟩
theorem nodup_names : ∀ {xs : List Nat}, (∀ x ∈ xs, x < tabN) → xs.Nodup → (xs.map nm).Nodup
  | [], _, _ => List.nodup_nil
  | x :: xs, hx, n => by
    have n := List.nodup_cons.mp n
    refine List.nodup_cons.mpr ⟨fun q => ?_, nodup_names (fun z hz => hx z (.tail _ hz)) n.2⟩
    obtain ⟨y, hy, e⟩ := List.mem_map.mp q
    exact n.1 (nm_inj (hx x (.head _)) (hx y (.tail _ hy)) e.symm ▸ hy)
theorem rev_lookup {l : List (Str × Value)} (n : (l.map (·.1)).Nodup) {x : Str} {v : Value} (h : (x, v) ∈ l) : l.reverse.lookup x = some v := by
  have n' : (l.reverse.map (·.1)).Nodup := by rw [List.map_reverse]; exact (List.reverse_perm _).nodup_iff.mpr n
  have h' : (x, v) ∈ l.reverse := List.mem_reverse.mpr h
  clear n h
  generalize l.reverse = r at *
  induction r with
  | nil => cases h'
  | cons q r ih =>
    obtain ⟨y, u⟩ := q
    have n' := List.nodup_cons.mp n'
    rw [List.lookup_cons]
    rcases List.mem_cons.mp h' with e | h'
    · cases e; simp
    · have : (x == y) = false := by
        rw [beq_eq_false_iff_ne]
        intro e
        exact n'.1 (by show y ∈ _; rw [← e]; exact List.mem_map_of_mem (f := fun q : Str × Value => q.1) h')
      rw [this]
      exact ih n'.2 h'
theorem zip_keys : ∀ {xs : List Nat} {vs : List Value}, vs.length = xs.length → ((xs.map nm).zip vs).map (·.1) = xs.map nm
  | [], _, _ => rfl
  | _ :: _, [], h => by cases h
  | x :: xs, v :: vs, h => by
    show nm x :: ((xs.map nm).zip vs).map (·.1) = _
    rw [zip_keys (by simpa using h)]; rfl
theorem led_callee (c : List (Addr × Obj)) : led (cells ++ F.oth) c g real = c ++ led F.oth cells g real := by
  show c ++ (cells ++ F.oth ++ (g.cst ++ ledger real)) = c ++ (cells ++ (F.oth ++ (g.cst ++ ledger real)))
  rw [List.append_assoc cells]
theorem back {F' : Fd} {cells' : List (Addr × Obj)} {m' : Str → Option Value} (S : SR P F cells g real m st s) {real' : List Blk} {s' : Shared} (hoth : F'.oth = cells ++ F.oth) (hrst : F'.rst = F.rst) (H1 : HR F'.h₀ F'.L F'.rst F'.oth cells' g' real' m' s') (R1 : P.AR g' real' st') (le : g.Le g')
    (FF : Fr F.h₀ F.L s'.heap m) (NN : News F.h₀ F.L s'.heap (led F'.oth cells' g' real')) : SR P F cells g' real' m (withLoc st.loc st') s' := by
  have e : led F'.oth cells' g' real' = cells' ++ led F.oth cells g' real' := by rw [hoth]; exact led_callee cells'
  refine ⟨⟨FF, fun q hq => NN q (by rw [e]; exact List.mem_append_right _ hq), ?_, hrst ▸ H1.rst⟩, ⟨R1.rho, R1.hn, R1.ob, R1.kn, R1.nv⟩, S.lr.mono le⟩
  have := H1.nd
  rw [e, List.map_append, List.nodup_append] at this
  exact this.2.1
theorem lookup_memK {x : Str} {k : NameKind} : ∀ {l : List (Str × NameKind)}, l.lookup x = some k → (x, k) ∈ l
  | [], h => by cases h
  | (y, d) :: l, h => by
    rw [List.lookup_cons] at h
    by_cases e : (x == y) = true
    · rw [e] at h; cases h; rw [eq_of_beq e]; exact .head _
    · rw [Bool.not_eq_true] at e
      rw [e] at h; exact .tail _ (lookup_memK h)
theorem sndF_def {XL : XLeave P XR} {name qual : Str} {params : Arguments} {body : List Stmt} {scope : Scope} {dV kV doc pm cdv ct oc : Value} {an od : Option Addr} {osl : Array (Option Value)} {f : Addr} {xs : List Nat} {d : Option AV} {c : SC}
    (ho : P.K.lookup f = some ⟨oc, od, .func (fnOf name qual params body scope dV kV doc pm an cdv ct), osl⟩) (hcd : codeIn P.K cdv qual = true) (hb : BindOk P (fnOf name qual params body scope dV kV doc pm an cdv ct) xs d)
    (hloc : ∀ x ∈ xs, x < tabN ∧ scope.names.lookup (nm x) = some .local) (nd : xs.Nodup) (hco : scope.isCoroutine = false) (hgen : scope.isGenerator = false) (hk : scope.kind = .function) (hcell : ∀ x ∈ scope.names, x.2 ≠ .cell) (hscr : scope.names.lookup ("script" : Str) = none)
    (hbody : SndS P XR H scope c body) : SndF P XR H (fDef xs d c) (.ref f) :=
  fun F A' C CA cells g real m st s S vs l AL k kx q R pe px => by
    have q : @Option.rec (List (Nat × AV)) (fun _ => Bool) false (fun loc => c (withLoc loc st) (fun st' => k .non (withLoc st.loc st')) (fun a st' => k a (withLoc st.loc st')) (fun a st' => kx a (withLoc st.loc st'))) (bindP d xs l) = true := q
    cases z : bindP d xs l with
    | none => rw [z] at q; cases q
    | some loc =>
      rw [z] at q
      have X' := C.kin.keeps S.hr.fr.keep
      obtain ⟨vs', l', hl', AL', rfl, hbt⟩ : ∃ vs' l', vs'.length = xs.length ∧ AllRel (P.VR g) vs' l' ∧ loc = xs.zip l' ∧ BindsTo s (fnOf name qual params body scope dV kV doc pm an cdv ct) ⟨vs, []⟩ ((xs.map nm).zip vs') := by
        rcases bindP_some z with ⟨k1, rfl⟩ | ⟨a, k1, k2, rfl⟩
        · have e : vs.length = xs.length := AL.length.trans k1
          exact ⟨vs, l, e, AL, rfl, (hb s X' vs).1 e⟩
        · obtain ⟨rfl, k3⟩ := (hb s X' vs).2 a k1
          have e : vs.length + 1 = xs.length := by rw [AL.length]; exact k2
          exact ⟨vs ++ [.none], l ++ [.non], by rw [List.length_append]; exact e, AL.snoc .non, rfl, k3 e⟩
      refine callX_plain (cl := []) C.below S.hr.fr S.hr.ns C.top.nolimit CA.fr rfl C.kind (X' _ _ ho) rfl (codeRec_of X' hcd) (by have := CA.dep; omega) hbt (fun y hy => ?_) (fun gG L' h₁ FG F' N' B' stay _ => ?_) hcell hco hgen hk
      · have : y.1 ∈ ((xs.map nm).zip vs').map (·.1) := List.mem_map_of_mem (f := fun q : Str × Value => q.1) hy
        rw [zip_keys hl'] at this
        obtain ⟨x, hx, e⟩ := List.mem_map.mp this
        rw [← e]; exact (hloc x hx).2
      · have C' : Cx P (callee F A' H cells gG qual scope L' f cdv []) := ⟨B', rfl, Around.frames_deeper CA.fr, C.kin.keeps stay, C.top.keeps stay, CA.hd, hk, by have := CA.dep; rw [depth_deeper]; exact this, by have := CA.un; rw [units_deeper]; exact this, fun x hx => absurd rfl (hcell (x, .cell) (lookup_memK hx)), fun z => by rw [hscr] at z; cases z⟩
        have S' : SR P (callee F A' H cells gG qual scope L' f cdv []) [] g real (fun y => ((xs.map nm).zip vs').reverse.lookup y) (withLoc (xs.zip l') st) { s with heap := h₁, toks := s.toks + ((xs.map nm).zip vs').length } := by
          refine ⟨⟨F', ?_, ?_, S.hr.rst.toks _ _⟩, ⟨S.ar.rho, S.ar.hn, S.ar.ob, S.ar.kn, S.ar.nv⟩, fun x a hx => ?_⟩
          · show News _ _ _ (led (cells ++ F.oth) [] g real)
            rw [led_callee]; exact N'
          · show ((led (cells ++ F.oth) [] g real).map _).Nodup
            rw [led_callee]; exact S.hr.nd
          · obtain ⟨h1, v, h2, h3⟩ := zip_look (fun x hx => (hloc x hx).1) AL' hl' hx
            exact ⟨(hloc x h1).1, v, .loc rfl hk (hloc x h1).2 (rev_lookup (by rw [zip_keys hl']; exact nodup_names (fun x hx => (hloc x hx).1) nd) h2), h3⟩
        refine hbody _ rfl (Nat.le_refl _) C' [] g real _ _ _ S' ⟨rfl, fun _ h => nomatch h⟩ _ _ _ q _ _ (fun c1 g1 r1 m1 st1 s1 S1 ce1 x1 q1 => ?_) (fun v a c1 g1 r1 m1 st1 s1 H1 R1 x1 V q1 => ?_) (fun a x g1 r1 m1 st1 s1 x1 R1 X1 q1 => ?_)
        · exact leaveK_ S1.hr.fr S1.hr.ns fun FF NN => pe .none .non g1 r1 _ s1 (back (F' := callee F A' H cells gG qual scope L' f cdv []) S rfl rfl S1.hr S1.ar x1 FF NN) x1 rfl .non q1
        · exact leaveK_ H1.fr H1.ns fun FF NN => pe v a g1 r1 _ s1 (back (F' := callee F A' H cells gG qual scope L' f cdv []) S rfl rfl H1 R1 x1 FF NN) x1 rfl V q1
        · exact XL F A' H cells gG qual scope L' f cdv [] m s.heap C C' S.hr.fr FG (fun q hq => S.hr.ns q (List.mem_append_left _ hq)) g1 r1 m1 a x s1 X1 _ _ fun s2 X2 => px a x g1 r1 m (withLoc st.loc st1) s2 x1 ⟨R1.rho, R1.hn, R1.ob, R1.kn, R1.nv⟩ X2 q1
theorem sndE_call {f : FC} {fa : Addr} {l : LC} {x : Str} {np pos : Pos} {e : Expr} {es : List Expr} (hf : SndF P XR H f (.ref fa)) (hH : H + 1 ≤ N) (hk : keepIn P.K (.ref fa) = true) (hns : nsIn P.K mainGlobals x = some (some (.ref fa)))
    (hx : cs.names.lookup x = some .globalImplicit) (hd : (x == ("__debug__" : Str)) = false) (hl : SndL P XR N cs l (e :: es)) (hst : (e :: es).all notStar = true) : SndE P XR N cs (eCallF f l) (.Call (.Name x np) (e :: es) [] pos) :=
  fun F hcs hn C cells g real m st s S k kx q Q E pe px => by
    refine wpAny_Call_ofName (nameX_K S.hr.fr C.kin (topRead_of C.top) hns ?_ C.kind (by rw [← hcs] at hx; exact hx) hd)
    have st1 : ∀ (l : List Expr), l.all notStar = true → (backTo pos (starEach l F.env)).any (·.1) = false := by
      intro l hl
      induction l with
      | nil => rfl
      | cons a r ih =>
        rw [List.all_cons, Bool.and_eq_true] at hl
        rw [star_cons hl.1]
        show (false || (backTo pos (starEach r F.env)).any (·.1)) = false
        rw [ih hl.2]; rfl
    have h0 := hst
    rw [List.all_cons, Bool.and_eq_true] at h0
    refine callWith_K C.kin hk (hl F hcs hn C cells g real m st s S (fun l st => f l st k kx) kx q pos _ E (fun vs l g1 r1 st1 s1 S1 x1 e1 A1 hv q1 => ⟨C.kin.keeps S1.hr.fr.keep, ?_⟩) px) (star_cons h0.1) (st1 es h0.2)
    refine wpAny_call (hf F F.A C ⟨C.fr, C.hd, by have := C.dep; omega, by have := C.un; omega⟩ cells g1 r1 m st1 s1 S1 vs l A1 k kx q1 _ (fun v a g2 r2 st2 s2 S2 x2 e2 V q2 => ?_) ?_)
    · exact pe v a g2 r2 st2 s2 S2 (x1.trans x2) (e2.trans e1) V q2
    · exact px.le x1
end
end Mine
end
section
open PySem PySem.W PyProof.Rows PySem.Calls
namespace Mine
section
variable {P : Pk} {XR : XRel} {N H : Nat} {cs : Scope} {F : Fd} {cells oth : List (Addr × Obj)} {g g' : Gh} {real : List Blk} {m : Str → Option Value} {st st' : St} {s : Shared}
theorem listFits {n : Nat} (h : n ≤ 1000) : Builtin.List.listFitsIndex (Int.ofNat n) = true := by
  unfold Builtin.List.listFitsIndex
  simp
  omega
theorem set_split {real : List Blk} {x : Nat} {b : Blk} (hb : real[x]? = some b) : ∃ pre post, real = pre ++ b :: post ∧ pre.length = x ∧ ∀ b', real.set x b' = pre ++ b' :: post := by
  induction real generalizing x with
  | nil => cases hb
  | cons c r ih =>
    cases x with
    | zero => cases hb; exact ⟨[], r, rfl, rfl, fun _ => rfl⟩
    | succ x =>
      obtain ⟨pre, post, e1, e2, e3⟩ := ih hb
      exact ⟨c :: pre, post, by rw [e1]; rfl, by rw [List.length_cons, e2], fun b' => by rw [List.set_cons_succ, e3]; rfl⟩
theorem led_split {x : Nat} {b : Blk} (hb : real[x]? = some b) : ∃ rest, (led oth cells g real).Perm (b.objs ++ rest) ∧ ∀ b', (led oth cells g (real.set x b')).Perm (b'.objs ++ rest) := by
  obtain ⟨pre, post, e1, _, e3⟩ := set_split hb
  have key : ∀ b', (led oth cells g (pre ++ b' :: post)).Perm (b'.objs ++ (cells ++ (oth ++ (g.cst ++ (ledger pre ++ ledger post))))) := fun b' => by
    show (cells ++ (oth ++ (g.cst ++ (pre ++ b' :: post).flatMap Blk.objs))).Perm _
    rw [List.flatMap_append, List.flatMap_cons]
    show (cells ++ (oth ++ (g.cst ++ (ledger pre ++ (b'.objs ++ ledger post))))).Perm _
    have p1 : (ledger pre ++ (b'.objs ++ ledger post)).Perm (b'.objs ++ (ledger pre ++ ledger post)) := List.perm_append_comm_assoc _ _ _
    have p2 := ((p1.append_left g.cst).trans (List.perm_append_comm_assoc g.cst b'.objs _)).append_left oth
    have p3 := (p2.trans (List.perm_append_comm_assoc oth b'.objs _)).append_left cells
    exact p3.trans (List.perm_append_comm_assoc cells b'.objs _)
  exact ⟨_, by rw [e1]; exact key b, fun b' => by rw [e3]; exact key b'⟩
theorem SR.upd (S : SR P F cells g real m st s) {x : Nat} {b b' : Blk} {o' : AO} (hb : real[x]? = some b) (ha : b'.addr = b.addr) (hm : b'.objs.map (·.1) = b.objs.map (·.1)) {rest : List (Addr × Obj)} (p1 : (led F.oth cells g real).Perm (b.objs ++ rest))
    (p2 : (led F.oth cells g (real.set x b')).Perm (b'.objs ++ rest)) {h' : Heap} {t : Nat} (F' : Fr F.h₀ F.L h' m) (N' : News F.h₀ F.L h' (b'.objs ++ rest)) (B : BRel P.prog P.w P.K P.cA g b' o') (hx : x ≤ 4000) :
    SR P F cells g (real.set x b') m ⟨st.loc, HT.put 12 st.H x o', st.hn, st.known, st.nv⟩ { s with heap := h', toks := t } := by
  refine ⟨⟨F', fun q hq => N' q (p2.mem_iff.mp hq), ?_, S.hr.rst.toks _ _⟩, ⟨?_, ?_, fun k o q => ?_, S.ar.kn, S.ar.nv⟩, S.lr⟩
  · refine (p2.map (·.1)).nodup_iff.mpr ?_
    rw [List.map_append, hm, ← List.map_append]
    exact (p1.map (·.1)).nodup_iff.mp S.hr.nd
  · rw [List.map_set, ha, S.ar.rho]
    have : (real.map Blk.addr)[x]? = some b.addr := by rw [List.getElem?_map, hb]; rfl
    obtain ⟨lt, e⟩ := List.getElem?_eq_some_iff.mp this
    rw [← e, List.set_getElem_self]
  · rw [List.length_set]; exact S.ar.hn
  · have q : (HT.put 12 st.H x o').get k = some o := q
    rw [HT.get_put o' 12 st.H x k (by omega)] at q
    by_cases e : k = x
    · rw [if_pos e] at q; cases q; subst e
      exact ⟨b', List.getElem?_set_self (List.getElem?_eq_some_iff.mp hb).1, B⟩
    · rw [if_neg e] at q
      obtain ⟨c, h1, h2⟩ := S.ar.ob k o q
      exact ⟨c, by rw [List.getElem?_set_ne (Ne.symm e)]; exact h1, h2⟩
theorem wr_true {x : Nat} {o : AO} {k : KS} (h : wr x o st k = true) : x ≤ 4000 ∧ k ⟨st.loc, HT.put 12 st.H x o, st.hn, st.known, st.nv⟩ = true := by
  rcases bool_rec_true h with ⟨h1, h2⟩ | ⟨_, h2⟩
  · exact ⟨Nat.le_of_ble_eq_true h1, h2⟩
  · cases h2
theorem capL_true {α : Type} {l : List α} {k : Bool} (h : capL l k = true) : l.length ≤ 900 ∧ k = true := by
  rcases bool_rec_true h with ⟨h1, h2⟩ | ⟨_, h2⟩
  · rw [lenL_eq] at h1; exact ⟨Nat.le_of_ble_eq_true h1, h2⟩
  · cases h2
theorem arg1_true {args : List AV} {k : AV → Bool} (h : arg1 args k = true) : ∃ v, args = [v] ∧ k v = true := by
  cases args with
  | nil => cases h
  | cons v r =>
    cases r with
    | nil => exact ⟨v, rfl, h⟩
    | cons _ _ => cases h
theorem arg2_true {args : List AV} {k : AV → AV → Bool} (h : arg2 args k = true) : ∃ v u, args = [v, u] ∧ k v u = true := by
  cases args with
  | nil => cases h
  | cons v r =>
    obtain ⟨u, rfl, h2⟩ := arg1_true (show arg1 r (fun u => k v u) = true from h)
    exact ⟨v, u, rfl, h2⟩
theorem head_apart {D : Addr} {o : Obj} {rest : List (Addr × Obj)} (n : (((D, o) :: rest).map (·.1)).Nodup) : ∀ p ∈ rest, p.1 ≠ D := fun p hp e =>
  (List.nodup_cons.mp n).1 (by show D ∈ _; rw [← e]; exact List.mem_map_of_mem (f := fun x : Addr × Obj => x.1) hp)
noncomputable def MthOk (P : Pk) (id : String) (mc : MC) : Prop :=
  ∀ (F : Fd), Cx P F → ∀ cells g real m st s, SR P F cells g real m st s → ∀ x l v vs as, P.VR g v (.ref x) → st.H.get x = some (.lst l) → AllRel (P.VR g) vs as → ∀ k, mc x l as st k = true → ∀ (Q E : Value → Shared → Prop),
    (∀ real' st' s', SR P F cells g real' m st' s' → st'.loc = st.loc → k .non st' = true → Q .none s') → wpAny P.M F.A (call (.builtin id) (v :: vs)) Q E s
theorem mth_append : MthOk P "list.append" mApp := by
  intro F C cells g real m st s S x l v vs as V hx AL k q Q E h
  obtain ⟨u, rfl, q1⟩ := arg1_true q
  obtain ⟨hl, q2⟩ := capL_true q1
  obtain ⟨hx2, q3⟩ := wr_true q2
  rcases AL with _ | ⟨U, AL⟩
  cases AL
  cases V with
  | ref ha =>
    obtain ⟨b, hb, B⟩ := S.ar.ob x _ hx
    cases B with
    | lst A1 =>
      rename_i u' a a' ws n
      have e : a = a' := S.ar.addr ha hb
      subst e
      obtain ⟨rest, p1, p2⟩ := led_split (oth := F.oth) (cells := cells) (g := g) hb
      have nd := (p1.map (·.1)).nodup_iff.mp S.hr.nd
      have lw := A1.length
      refine append_K S.hr.fr (fun q hq => S.hr.ns q (p1.mem_iff.mpr hq)) (.head (head_apart nd)) (fun h' F' N' => ?_) (by rw [sizeLine_eq, List.size_toArray]; omega)
      have e : ws.toArray.push u' = (ws ++ [u']).toArray := by simp
      rw [e] at N'
      rw [appL_eq] at q3
      refine h _ _ _ (S.upd (b' := .lst a (ws ++ [u']) (n + 1)) (o' := .lst (l ++ [u])) (t := s.toks) hb rfl rfl p1 (p2 _) F' N' (.lst (A1.snoc U)) hx2) rfl q3
theorem AllRel.take {V : Value → AV → Prop} {vs : List Value} {l : List AV} (h : AllRel V vs l) : ∀ n, AllRel V (vs.take n) (l.take n) := by
  induction h with
  | nil => intro n; cases n <;> exact .nil
  | cons hv _ ih => intro n; cases n with
    | zero => exact .nil
    | succ n => exact .cons hv (ih n)
theorem AllRel.drop {V : Value → AV → Prop} {vs : List Value} {l : List AV} (h : AllRel V vs l) : ∀ n, AllRel V (vs.drop n) (l.drop n) := by
  induction h with
  | nil => intro n; cases n <;> exact .nil
  | cons hv hr ih => intro n; cases n with
    | zero => exact .cons hv hr
    | succ n => exact ih n
theorem insAt_eq (a : AV) : ∀ (n : Nat) (l : List AV), insAt a n l = l.take n ++ a :: l.drop n
  | 0, l => rfl
  | n + 1, [] => rfl
  | n + 1, b :: r => by
    show b :: insAt a n r = _
    rw [insAt_eq a n r]; rfl
theorem take_min (l : List Value) (n : Nat) : l.take (min n l.length) = l.take n := by
  by_cases h : n ≤ l.length
  · rw [Nat.min_eq_left h]
  · rw [Nat.min_eq_right (by omega), List.take_of_length_le (Nat.le_refl _), List.take_of_length_le (by omega)]
theorem drop_min (l : List Value) (n : Nat) : l.drop (min n l.length) = l.drop n := by
  by_cases h : n ≤ l.length
  · rw [Nat.min_eq_left h]
  · rw [Nat.min_eq_right (by omega), List.drop_of_length_le (Nat.le_refl _), List.drop_of_length_le (by omega)]
theorem mth_insert : MthOk P "list.insert" mIns := by
  intro F C cells g real m st s S x l v vs as V hx AL k q Q E h
  obtain ⟨i, u, rfl, q1⟩ := arg2_true q
  rcases AL with _ | ⟨I, AL⟩
  rcases AL with _ | ⟨U, AL⟩
  cases AL
  obtain ⟨i', st1, R1, Sm1, I', q2⟩ := res_sound S.ar I q1
  have S1 := S.sm R1 Sm1
  obtain ⟨n, rfl, hn, q3⟩ := natOf_true q2
  obtain ⟨hl, q4⟩ := capL_true q3
  obtain ⟨hx2, q5⟩ := wr_true q4
  obtain ⟨t, rfl⟩ := I'.int_inv
  cases V with
  | ref ha =>
    obtain ⟨b, hb, B⟩ := S.ar.ob x _ hx
    cases B with
    | lst A1 =>
      rename_i u' a a' ws c
      have e : a = a' := S.ar.addr ha hb
      subst e
      obtain ⟨rest, p1, p2⟩ := led_split (oth := F.oth) (cells := cells) (g := g) hb
      have nd := (p1.map (·.1)).nodup_iff.mp S.hr.nd
      have lw := A1.length
      have e : kl_ins ws.toArray.toList (Int.ofNat n) u' = ws.take n ++ u' :: ws.drop n := by
        unfold kl_ins
        have h0 : ¬ (Int.ofNat n < 0) := by have := Int.natCast_nonneg n; show ¬ ((n : Int) < 0); omega
        simp only [h0, if_false]
        show ws.take (min (Int.ofNat n).toNat ws.length) ++ u' :: ws.drop (min (Int.ofNat n).toNat ws.length) = _
        rw [show (Int.ofNat n).toNat = n from rfl, take_min, drop_min]
      refine kl_insert S.hr.fr (fun q hq => S.hr.ns q (p1.mem_iff.mpr hq)) (listFits hn) e (.head (head_apart nd)) (by rw [sizeLine_eq]; show ws.length ≤ _; omega) fun h' F' N' => ?_
      rw [insAt_eq] at q5
      exact h _ _ _ (S1.upd (b' := .lst a (ws.take n ++ u' :: ws.drop n) (c + 1)) (o' := .lst (l.take n ++ u :: l.drop n)) (t := s.toks) hb rfl rfl p1 (p2 _) F' N' (.lst ((A1.take n).append (.cons U (A1.drop n)))) hx2) Sm1.loc q5
theorem mth_extend : MthOk P "list.extend" mExt := by
  intro F C cells g real m st s S x l v vs as V hx AL k q Q E h
  obtain ⟨u, rfl, q1⟩ := arg1_true q
  rcases AL with _ | ⟨U, AL⟩
  cases AL
  obtain ⟨y, l2, rfl, hy, q2⟩ := asL_true q1
  obtain ⟨hl, q3⟩ := capL_true q2
  obtain ⟨hx2, q4⟩ := wr_true q3
  rw [appL_eq, List.length_append] at hl
  rw [appL_eq] at q4
  cases U with
  | ref hya =>
    obtain ⟨b2, hb2, B2⟩ := S.ar.ob y _ hy
    cases B2 with
    | lst A2 =>
      rename_i u a2 ws2 c2
      have e2 := S.ar.addr hya hb2
      have e2 : u = a2 := e2
      subst e2
      cases V with
      | ref ha =>
        obtain ⟨b, hb, B⟩ := S.ar.ob x _ hx
        cases B with
        | lst A1 =>
          rename_i a a' ws c
          have e : a = a' := S.ar.addr ha hb
          subst e
          obtain ⟨rest, p1, p2⟩ := led_split (oth := F.oth) (cells := cells) (g := g) hb
          have nd := (p1.map (·.1)).nodup_iff.mp S.hr.nd
          have lw := A1.length
          have lw2 := A2.length
          refine extend_in (own := []) S.hr.fr (fun q hq => S.hr.ns q (p1.mem_iff.mpr hq)) (fun _ h => nomatch h) (head_apart nd) (S.hr.ns _ (real_mem hb2 (.head _))).1 (fun h' n' F' N' => ?_) (by rw [sizeLine_eq, List.size_toArray]; omega)
          exact h _ _ _ (S.upd (b' := .lst a (ws ++ ws2) n') (o' := .lst (l ++ l2)) (t := s.toks) hb rfl rfl p1 (p2 _) F' N' (.lst (A1.append A2)) hx2) rfl q4
end
end Mine
end
section
open PySem PySem.W PyProof.Rows PySem.Calls
namespace Mine
section
variable {P : Pk} {XR : XRel} {N H : Nat} {cs : Scope} {F : Fd} {cells oth : List (Addr × Obj)} {g g' : Gh} {real : List Blk} {m : Str → Option Value} {st st' : St} {s : Shared}
noncomputable def Stored (ps : List (Nat × Value × AV)) (loc loc' : List (Nat × AV)) : Prop :=
  ∀ y b, look y loc' = some b → (∃ v, (y, v, b) ∈ ps) ∨ (y ∉ ps.map (·.1) ∧ look y loc = some b)
theorem stores_sound (C : Cx P F) {assign1 : Nat → Value → Sem Unit} (h1 : ∀ x v {Q : Unit → Shared → Prop} {E : Value → Shared → Prop} {s : Shared}, wpAny P.M F.A (storeName F.env (nm x) v) Q E s → wpAny P.M F.A (assign1 x v) Q E s) :
    ∀ (ps : List (Nat × Value × AV)) {cells : List (Addr × Obj)} {m : Str → Option Value} {st : St} {s : Shared} (loc' : List (Nat × AV)), SR P F cells g real m st s → CE F cells → (∀ p ∈ ps, P.VR g p.2.1 p.2.2 ∧ Stor F.cs F.cl p.1) → (ps.map (·.1)).Nodup → Stored ps st.loc loc' →
      ∀ {Q : Unit → Shared → Prop} {E : Value → Shared → Prop}, (∀ cells' m' s', SR P F cells' g real m' (withLoc loc' st) s' → CE F cells' → Q () s') → wpAny P.M F.A (assignInOrder (ps.map fun p => assign1 p.1) (ps.map (·.2.1))) Q E s
  | [], cells, m, st, s, loc', S, ce, hp, nd, hs, Q, E, h => by
    refine assignInOrder_nil (h cells m s ⟨S.hr, ⟨S.ar.rho, S.ar.hn, S.ar.ob, S.ar.kn, S.ar.nv⟩, fun y b q => ?_⟩ ce)
    rcases hs y b q with ⟨v, hv⟩ | ⟨_, q'⟩
    · cases hv
    · exact S.lr y b q'
  | (x, v, a) :: ps, cells, m, st, s, loc', S, ce, hp, nd, hs, Q, E, h => by
    obtain ⟨V, hx⟩ := hp _ (.head _)
    have nd := List.nodup_cons.mp nd
    refine assignInOrder_cons (h1 x v (store_sound C S ce V hx fun c1 m1 s1 S1 ce1 => ?_))
    refine stores_sound C h1 ps loc' S1 ce1 (fun p hq => hp p (.tail _ hq)) nd.2 (fun y b q => ?_) h
    rcases hs y b q with ⟨u, hu⟩ | ⟨k1, k2⟩
    · rcases List.mem_cons.mp hu with e | hu
      · cases e
        exact .inr ⟨nd.1, by show look x (put x a st.loc) = some a; rw [look_put, if_pos rfl]⟩
      · exact .inl ⟨u, hu⟩
    · have ne : y ≠ x := fun e => k1 (by rw [e]; exact .head _)
      exact .inr ⟨fun z => k1 (.tail _ z), by show look y (put x a st.loc) = some b; rw [look_put, if_neg ne]; exact k2⟩
theorem asgT_some : ∀ {xs : List Nat} {l : List AV} {loc loc' : List (Nat × AV)}, asgT xs l loc = some loc' → l.length = xs.length ∧ ∀ y b, xs.Nodup → look y loc' = some b → (y, b) ∈ xs.zip l ∨ (y ∉ xs ∧ look y loc = some b)
  | [], [], loc, loc', h => by cases h; exact ⟨rfl, fun y b _ q => .inr ⟨(fun h => nomatch h), q⟩⟩
  | [], _ :: _, _, _, h => by cases h
  | _ :: _, [], _, _, h => by cases h
  | x :: xs, a :: l, loc, loc', h => by
    obtain ⟨k1, k2⟩ := asgT_some (show asgT xs l (put x a loc) = some loc' from h)
    refine ⟨by rw [List.length_cons, List.length_cons, k1], fun y b nd q => ?_⟩
    have nd := List.nodup_cons.mp nd
    rcases k2 y b nd.2 q with k | ⟨k, k3⟩
    · exact .inl (.tail _ k)
    · rw [look_put] at k3
      by_cases e : y = x
      · rw [if_pos e] at k3; cases k3; subst e; exact .inl (.head _)
      · rw [if_neg e] at k3
        exact .inr ⟨fun z => by rcases List.mem_cons.mp z with z | z; exact e z; exact k z, k3⟩
noncomputable def trip : List Nat → List Value → List AV → List (Nat × Value × AV)
  | x :: xs, v :: vs, a :: l => (x, v, a) :: trip xs vs l
  | _, _, _ => []
theorem trip_1 : ∀ {xs : List Nat} {vs : List Value} {l : List AV}, vs.length = xs.length → l.length = xs.length → (trip xs vs l).map (·.1) = xs ∧ (trip xs vs l).map (·.2.1) = vs
  | [], [], [], _, _ => ⟨rfl, rfl⟩
  | [], _ :: _, _, h, _ => by cases h
  | [], _, _ :: _, _, h => by cases h
  | _ :: _, [], _, h, _ => by cases h
  | _ :: _, _ :: _, [], _, h => by cases h
  | x :: xs, v :: vs, a :: l, h1, h2 => by
    obtain ⟨k1, k2⟩ := trip_1 (xs := xs) (vs := vs) (l := l) (by simpa using h1) (by simpa using h2)
    exact ⟨by show x :: _ = _; rw [k1], by show v :: _ = _; rw [k2]⟩
theorem trip_zip {y : Nat} {b : AV} : ∀ {xs : List Nat} {vs : List Value} {l : List AV}, vs.length = xs.length → (y, b) ∈ xs.zip l → ∃ v, (y, v, b) ∈ trip xs vs l
  | [], _, _, _, h => by cases h
  | _ :: _, _, [], _, h => by cases h
  | _ :: _, [], _ :: _, h, _ => by cases h
  | x :: xs, v :: vs, a :: l, h1, h2 => by
    rcases List.mem_cons.mp h2 with e | h2
    · cases e; exact ⟨v, .head _⟩
    · obtain ⟨u, hu⟩ := trip_zip (xs := xs) (vs := vs) (l := l) (by simpa using h1) h2
      exact ⟨u, .tail _ hu⟩
theorem trip_all {V : Value → AV → Prop} {vs : List Value} {l : List AV} (h : AllRel V vs l) : ∀ {xs : List Nat}, ∀ p ∈ trip xs vs l, V p.2.1 p.2.2 ∧ p.1 ∈ xs := by
  induction h with
  | nil => intro xs p hp; cases xs <;> cases hp
  | cons hv _ ih =>
    intro xs p hp
    cases xs with
    | nil => cases hp
    | cons x xs =>
      rcases List.mem_cons.mp hp with e | hp
      · subst e; exact ⟨hv, .head _⟩
      · obtain ⟨k1, k2⟩ := ih p hp; exact ⟨k1, .tail _ k2⟩
inductive NamesAre : List Expr → List Nat → Prop where
  | nil : NamesAre [] []
  | cons {y : Str} {x : Nat} {p : Pos} {es : List Expr} {xs : List Nat} : y = nm x → NamesAre es xs → NamesAre (.Name y p :: es) (x :: xs)
theorem NamesAre.length {es : List Expr} {xs : List Nat} (h : NamesAre es xs) : es.length = xs.length := by
  induction h with
  | nil => rfl
  | cons _ _ ih => rw [List.length_cons, List.length_cons, ih]
theorem NamesAre.each {es : List Expr} {xs : List Nat} (h : NamesAre es xs) (env : Env) : (assignEach es env).length = xs.length ∧ (assignEach es env).findIdx? (·.1) = none := by
  induction h with
  | nil => exact ⟨rfl, rfl⟩
  | cons _ _ ih =>
    rename_i y x p es xs _ _
    have e : assignEach (.Name y p :: es) env = (false, assign (.Name y p) env) :: assignEach es env := rfl
    rw [e]
    exact ⟨by rw [List.length_cons, List.length_cons, ih.1], by rw [List.findIdx?_cons]; simp [ih.2]⟩
theorem NamesAre.assigns {es : List Expr} {xs : List Nat} (h : NamesAre es xs) (env : Env) : ∃ f : Nat → Value → Sem Unit, True := ⟨fun _ _ => pure (), trivial⟩
theorem assigns_sound (C : Cx P F) {es : List Expr} {xs : List Nat} (hn : NamesAre es xs) : ∀ {vs : List Value} {l : List AV} {cells : List (Addr × Obj)} {m : Str → Option Value} {st : St} {s : Shared} (loc' : List (Nat × AV)), vs.length = xs.length → l.length = xs.length →
    SR P F cells g real m st s → CE F cells → (∀ p ∈ trip xs vs l, P.VR g p.2.1 p.2.2 ∧ Stor F.cs F.cl p.1) → xs.Nodup → Stored (trip xs vs l) st.loc loc' →
      ∀ {Q : Unit → Shared → Prop} {E : Value → Shared → Prop}, (∀ cells' m' s', SR P F cells' g real m' (withLoc loc' st) s' → CE F cells' → Q () s') → wpAny P.M F.A (assignInOrder ((assignEach es F.env).map (·.2)) vs) Q E s := by
  induction hn with
  | nil =>
    intro vs l cells m st s loc' h1 h2 S ce hp nd hs Q E h
    refine assignInOrder_nil (h cells m s ⟨S.hr, ⟨S.ar.rho, S.ar.hn, S.ar.ob, S.ar.kn, S.ar.nv⟩, fun y b q => ?_⟩ ce)
    rcases hs y b q with ⟨v, hv⟩ | ⟨_, q'⟩
    · cases vs <;> cases hv
    · exact S.lr y b q'
  | cons hy hn ih =>
    rename_i y x p es xs
    intro vs l cells m st s loc' h1 h2 S ce hp nd hs Q E h
    subst hy
    cases vs with
    | nil => cases h1
    | cons v vs =>
      cases l with
      | nil => cases h2
      | cons a l =>
        obtain ⟨V, hx⟩ := hp (x, v, a) (.head _)
        have nd := List.nodup_cons.mp nd
        have h1' : vs.length = xs.length := by simpa using h1
        have h2' : l.length = xs.length := by simpa using h2
        refine assignInOrder_cons (assign_Name (store_sound C S ce V hx fun c1 m1 s1 S1 ce1 => ?_))
        refine ih loc' h1' h2' S1 ce1 (fun p hq => hp p (.tail _ hq)) nd.2 (fun y b q => ?_) h
        rcases hs y b q with ⟨u, hu⟩ | ⟨k1, k2⟩
        · rcases List.mem_cons.mp hu with e | hu
          · cases e
            exact .inr ⟨by rw [(trip_1 h1' h2').1]; exact nd.1, by show look x (put x a st.loc) = some a; rw [look_put, if_pos rfl]⟩
          · exact .inl ⟨u, hu⟩
        · have ne : y ≠ x := fun e => k1 (by rw [e]; exact .head _)
          exact .inr ⟨fun z => k1 (.tail _ z), by show look y (put x a st.loc) = some b; rw [look_put, if_neg ne]; exact k2⟩
theorem sndS_ast {c : EC} {xs : List Nat} {es : List Expr} {k : Nat} {tp pos : Pos} {e : Expr} (hn : NamesAre es xs) (nd : xs.Nodup) (hst : ∀ F : Fd, F.cs = cs → Cx P F → ∀ x ∈ xs, Stor F.cs F.cl x) (hs : ∀ env, swapsWithSole [.Tuple es k tp] e pos.line env = pure false)
    (hw : (∀ F : Fd, F.cs = cs → swappedStores [.Tuple es k tp] e F.env = pure none) ∨ (∀ F : Fd, F.cs = cs → swappedStores [.Tuple es k tp] e F.env = pure (some (xs.map nm)))) (h : SndE P XR N cs c e) :
    SndS1 P XR N cs (sAsT xs c) (.Assign [.Tuple es k tp] e pos) :=
  fun F hcs hN C cells g real m st s S ce kn kr kx q Q E pn pr px => by
    have main : ∀ v a g1 r1 st1 s1, SR P F cells g1 r1 m st1 s1 → g.Le g1 → P.VR g1 v a → res a st1 (fun a st => @AV.rec (fun _ => Bool) (fun _ => Unit) (fun _ => Unit) (fun _ => Unit) false (fun _ => false) (fun _ => false) (fun _ => false) (fun _ => false) (fun l _ => @Option.rec (List (Nat × AV)) (fun _ => Bool) false (fun loc => kn (withLoc loc st)) (asgT xs l st.loc)) (fun _ _ => false) (fun _ _ => false) (fun _ _ _ => false) (fun _ => false) (fun _ _ _ => false) false false () (fun _ _ _ _ => ()) () (fun _ _ _ _ => ()) (fun _ _ _ => ()) a) = true →
        ∃ t vs l loc' st2, v = .ref t ∧ IsTup s1.heap t vs.toArray ∧ AllRel (P.VR g1) vs l ∧ vs.length = xs.length ∧ l.length = xs.length ∧ SR P F cells g1 r1 m st2 s1 ∧ Stored (trip xs vs l) st2.loc loc' ∧ kn (withLoc loc' st2) = true := by
      intro v a g1 r1 st1 s1 S1 x1 V q1
      obtain ⟨a', st2, R2, Sm2, V2, q2⟩ := res_sound S1.ar V q1
      cases a' <;> try (cases q2; done)
      rename_i l
      have q2 : @Option.rec (List (Nat × AV)) (fun _ => Bool) false (fun loc => kn (withLoc loc st2)) (asgT xs l st2.loc) = true := q2
      cases z : asgT xs l st2.loc with
      | none => rw [z] at q2; cases q2
      | some loc' =>
        rw [z] at q2
        obtain ⟨k1, k2⟩ := asgT_some z
        cases V2 with
        | tup T AL =>
          have e : _ = xs.length := AL.length.trans k1
          refine ⟨_, _, l, loc', st2, rfl, T.isTup S1.hr C.kin, AL, e, k1, S1.sm R2 Sm2, fun y b q => ?_, q2⟩
          rw [(trip_1 e k1).1]
          exact (k2 y b nd q).imp (trip_zip e) id
    rcases hw with hw | hw
    · refine Assign_Tuple (h F hcs hN C cells g real m st s S _ kx q _ E (fun v a g1 r1 st1 s1 S1 x1 e1 V q1 => ?_) px) (hs _) (hw F hcs)
      obtain ⟨t, vs, l, loc', st2, rfl, T, AL, hv, hl, S2, hsd, q2⟩ := main v a g1 r1 st1 s1 S1 x1 V q1
      obtain ⟨k1, k2⟩ := hn.each F.env
      refine unpackN_ S2.hr.fr S2.hr.ns T C.hd (by rw [k1, List.size_toArray, hv]) k2 fun h' F' N' => ?_
      have S3 : SR P F cells g1 r1 m st2 { s1 with heap := h' } := ⟨⟨F', N', S2.hr.nd, S2.hr.rst.heap _⟩, S2.ar, S2.lr⟩
      refine assigns_sound C hn loc' hv hl S3 ce (fun p hp => ?_) nd hsd fun c4 m4 s4 S4 ce4 => pn c4 g1 r1 m4 _ s4 S4 ce4 x1 q2
      obtain ⟨k3, k4⟩ := trip_all AL p hp
      exact ⟨k3, hst F hcs C _ k4⟩
    · refine Assign_Tuple_swapped (h F hcs hN C cells g real m st s S _ kx q _ E (fun v a g1 r1 st1 s1 S1 x1 e1 V q1 => ?_) px) (hs _) (hw F hcs)
      obtain ⟨t, vs, l, loc', st2, rfl, T, AL, hv, hl, S2, hsd, q2⟩ := main v a g1 r1 st1 s1 S1 x1 V q1
      refine unpackItemsN_ S2.hr.fr S2.hr.ns T C.hd (by rw [List.length_map, List.size_toArray, hv]) fun h' F' N' => ?_
      have S3 : SR P F cells g1 r1 m st2 { s1 with heap := h' } := ⟨⟨F', N', S2.hr.nd, S2.hr.rst.heap _⟩, S2.ar, S2.lr⟩
      obtain ⟨k1, k2⟩ := trip_1 (xs := xs) (vs := vs) (l := l) hv hl
      have key := stores_sound (Q := fun _ s' => Q .next s') (E := E) C (assign1 := fun x v => bindName F.env (nm x) v) (fun x v _ _ _ h => bindName_ h) (trip xs vs l).reverse loc' S3 ce (fun p hp => by
          obtain ⟨k3, k4⟩ := trip_all AL p (List.mem_reverse.mp hp)
          exact ⟨k3, hst F hcs C _ k4⟩)
        (by rw [List.map_reverse, k1]; exact (List.reverse_perm _).nodup_iff.mpr nd)
        (fun y b q => by
          rcases hsd y b q with ⟨v, hv⟩ | ⟨z1, z2⟩
          · exact .inl ⟨v, List.mem_reverse.mpr hv⟩
          · exact .inr ⟨by rw [List.map_reverse, List.mem_reverse]; exact z1, z2⟩)
        (fun c4 m4 s4 S4 ce4 => pn c4 g1 r1 m4 _ s4 S4 ce4 x1 q2)
      have e1 : ((trip xs vs l).reverse.map fun p => (fun x v => bindName F.env (nm x) v) p.1) = ((xs.map nm).reverse.map fun n => bindName F.env n) := by
        rw [List.map_reverse, List.map_reverse, List.map_map]
        congr 1
        rw [show (xs.map ((fun n => bindName F.env n) ∘ nm)) = ((trip xs vs l).map (·.1)).map ((fun n => bindName F.env n) ∘ nm) by rw [k1], List.map_map]
        rfl
      have e2 : (trip xs vs l).reverse.map (·.2.1) = vs.toArray.toList.reverse := by rw [List.map_reverse, k2]
      rw [e1, e2] at key
      exact key
end
end Mine
end
section
open PySem PySem.W PyProof.Rows PySem.Calls
namespace Mine
section
variable {P : Pk} {XR : XRel} {N H : Nat} {cs : Scope} {F : Fd} {cells oth : List (Addr × Obj)} {g g' : Gh} {real : List Blk} {m : Str → Option Value} {st st' : St} {s : Shared}
noncomputable def ClsSet (P : Pk) : Prop := ∀ c ∈ clsL, findIn P.K (.ref (P.cA c)) "__setattr__" = some (some (.builtin "object.__setattr__")) ∧ plainOver P.K (P.cA c) = true ∧ hasDictIn P.K (P.cA c) = true
theorem own_put {V : Value → AV → Prop} {es : List DictEntry} {d : List (Nat × AV)} (h : OwnRel V es d) {n : Nat} {v : Value} {a : AV} {hsh : Int} {t : Tok} (hn : n < tabN) (hv : V v a) : OwnRel V (putL (nm n) hsh (.str (nm n) t) v es) (put n a d) := by
  induction h with
  | nil => exact .cons hn hv .nil
  | cons hc hu hr ih =>
    rename_i c u b h' t' es d
    rw [put_cons]
    show OwnRel V (if (Value.isStr (.str (nm c) t') (nm n)) = true then _ else _) _
    by_cases e : n = c
    · subst e
      have : Value.isStr (.str (nm n) t') (nm n) = true := by show (nm n == nm n) = true; exact beq_self_eq_true _
      rw [if_pos this, if_pos rfl]
      exact .cons hn hv hr
    · have : ¬ Value.isStr (.str (nm c) t') (nm n) = true := by
        show ¬ (nm c == nm n) = true
        intro z
        exact e (nm_inj hn hc (eq_of_beq z).symm)
      rw [if_neg this, if_neg e]
      exact .cons hc hu ih
theorem own_refs {V : Value → AV → Prop} {es : List DictEntry} {d : List (Nat × AV)} (h : OwnRel V es d) : es.any (·.refKey) = false := by
  induction h with
  | nil => rfl
  | cons _ _ _ ih => rw [List.any_cons, ih]; rfl
theorem getL_isSome {V : Value → AV → Prop} {es : List DictEntry} {d : List (Nat × AV)} (h : OwnRel V es d) (n : Str) : (getL n es).isSome = true := by
  unfold getL
  cases es.find? (·.key.isStr n) with
  | none => rw [own_refs h]; rfl
  | some e => rfl
theorem getL_none {V : Value → AV → Prop} {es : List DictEntry} {d : List (Nat × AV)} (h : OwnRel V es d) {n : Str} (hn : ∀ c, c < tabN → nm c ≠ n) : getL n es = some none := by
  have : es.find? (·.key.isStr n) = none := by
    induction h with
    | nil => rfl
    | cons hc _ _ ih =>
      rw [List.find?_cons_of_neg]
      · exact ih
      · show ¬ (nm _ == n) = true
        intro z
        exact hn _ hc (eq_of_beq z)
  unfold getL
  rw [this, own_refs h]; rfl
theorem own_len {V : Value → AV → Prop} {es : List DictEntry} {d : List (Nat × AV)} (h : OwnRel V es d) : es.length = d.length := by
  induction h with
  | nil => rfl
  | cons _ _ _ ih => rw [List.length_cons, List.length_cons, ih]
theorem putL_len (name : Str) (hsh : Int) (k v : Value) : ∀ es : List DictEntry, (putL name hsh k v es).length ≤ es.length + 1
  | [] => Nat.le_refl _
  | e :: r => by
    unfold putL
    split
    · exact Nat.le_succ _
    · rw [List.length_cons, List.length_cons]; have := putL_len name hsh k v r; omega
theorem sndS_asa {c d : EC} {n : Nat} {x : Str} {o e : Expr} {p1 pos : Pos} (CK : ClsSet P) (hx : x = nm n) (hn : n < tabN) (htk : ∀ c ∈ clsL, takerIn P.K (P.cA c) (nm n) = some none) (hs : ∀ env, swapsWith e (some (.Attribute o x p1)) pos.line env = pure false)
    (hc : SndE P XR N cs c e) (hd : SndE P XR N cs d o) : SndS1 P XR N cs (sAsA d n c) (.Assign [.Attribute o x p1] e pos) :=
  fun F hcs hN C cells g real m st s S ce kn kr kx q Q E pn pr px => by
    subst hx
    refine plainObj_wpAny_Assign_Attribute (hc F hcs hN C cells g real m st s S (fun v st => d st (fun a st => wrAtt n v a st kn) kx) kx q _ E (fun v a g1 r1 st1 s1 S1 x1 e1 V q1 => ?_) px) (hs _)
    refine hd F hcs hN C cells g1 r1 m st1 s1 S1 (fun b st => wrAtt n a b st kn) kx q1 _ E (fun ov b g2 r2 st2 s2 S2 x2 e2 V2 q2 => ?_) (px.le x1)
    cases b <;> try (cases q2; done)
    rename_i y
    have q2 : @Option.rec AO (fun _ => Bool) false (fun o => @AO.rec (fun _ => Bool) (fun _ => false) (fun _ => false) (fun c fs => capL fs (wr y (.ins c (put n a fs)) st2 kn)) o) (st2.H.get y) = true := q2
    cases z : st2.H.get y with
    | none => rw [z] at q2; cases q2
    | some ob =>
      rw [z] at q2
      cases ob <;> try (cases q2; done)
      rename_i c' fs
      obtain ⟨hl, q3⟩ := capL_true q2
      obtain ⟨hy, q4⟩ := wr_true q3
      cases V2 with
      | ref ha =>
        obtain ⟨b, hb, B⟩ := S2.ar.ob y _ z
        cases B with
        | ins hc' O =>
          rename_i w' w2 dx es k
          have e : _ = w2 := S2.ar.addr ha hb
          subst e
          obtain ⟨k1, k2, k3⟩ := CK c' hc'
          obtain ⟨rest, p1, p2⟩ := led_split (oth := F.oth) (cells := cells) (g := g2) hb
          have nd := (p1.map (·.1)).nodup_iff.mp S2.hr.nd
          have nd0 := List.nodup_cons.mp nd
          have nd1 := List.nodup_cons.mp nd0.2
          have N1 : News F.h₀ F.L s2.heap ((_, instObj (P.cA c') dx) :: (dx, dictOf es k) :: rest) := fun q hq => S2.hr.ns q (p1.mem_iff.mpr hq)
          refine set_dict (es' := putL (nm n) (PyData.keyHash P.w.params (nm n)) (.str (nm n) (s2.toks + 1)) v es) (n' := putN (nm n) es k) S2.hr.fr C.kin N1 (InstAt.of_news N1 (.head _) (.tail _ (.head _))) rfl k1 k2 (htk c' hc') k3 (getL_isSome O _) rfl
            (.tail (fun z => nd0.1 (by show w' ∈ _; rw [show w' = dx from z]; exact .head _)) (.head (head_apart nd0.2))) (by have := putL_len (nm n) (PyData.keyHash P.w.params (nm n)) (.str (nm n) (s2.toks + 1)) v es; have := own_len O; omega) fun h' F' N' => ?_
          refine pn cells g2 _ m _ _ (S2.upd (b' := .ins w' dx (P.cA c') (putL (nm n) (PyData.keyHash P.w.params (nm n)) (.str (nm n) (s2.toks + 1)) v es) (putN (nm n) es k)) (o' := .ins c' (put n a fs)) (t := s2.toks + 2) hb rfl rfl p1 (p2 _) F' N' (.ins hc' (own_put O hn (V.mono x2))) hy) ce (x1.trans x2) q4
theorem key_put {V : Value → AV → Prop} {kvs : List (Str × Value)} {d : List (Nat × AV)} (h : KeyRel V kvs d) {n : Nat} {v : Value} {a : AV} (hn : n < tabN) (hv : V v a) (nd : (kvs.map (·.1)).Nodup) : KeyRel V (stored kvs (nm n) v) (put n a d) := by
  have key : ∀ {kvs : List (Str × Value)} {d : List (Nat × AV)}, KeyRel V kvs d → (kvs.map (·.1)).Nodup →
      KeyRel V (if kvs.any (fun kv => kv.1 = nm n) then kvs.map (fun kv => if kv.1 = nm n then (kv.1, v) else kv) else kvs ++ [(nm n, v)]) (put n a d) := by
    intro kvs d h
    induction h with
    | nil => intro _; exact .cons hn hv .nil
    | cons hc hu hr ih =>
      rename_i c u b kvs d
      intro nd
      have nd := List.nodup_cons.mp nd
      rw [put_cons]
      by_cases e : n = c
      · subst e
        have h1 : ((nm n, u) :: kvs).any (fun kv => decide (kv.1 = nm n)) = true := by simp
        rw [if_pos h1, if_pos rfl]
        have h2 : kvs.map (fun kv => if kv.1 = nm n then (kv.1, v) else kv) = kvs := by
          rw [List.map_congr_left (g := id) (fun kv hkv => ?_), List.map_id]
          have : kv.1 ≠ nm n := fun z => nd.1 (by show nm n ∈ _; rw [← z]; exact List.mem_map_of_mem (f := fun q : Str × Value => q.1) hkv)
          rw [if_neg this]; rfl
        rw [List.map_cons, h2, if_pos rfl]
        exact .cons hn hv hr
      · have ne : ¬ nm c = nm n := fun z => e (nm_inj hn hc z.symm)
        have ih := ih nd.2
        rw [if_neg e]
        have h1 : ((nm c, u) :: kvs).any (fun kv => decide (kv.1 = nm n)) = kvs.any (fun kv => decide (kv.1 = nm n)) := by rw [List.any_cons, decide_eq_false ne, Bool.false_or]
        rw [h1]
        by_cases q : kvs.any (fun kv => decide (kv.1 = nm n)) = true
        · rw [if_pos q] at ih ⊢
          rw [List.map_cons, if_neg ne]
          exact .cons hc hu ih
        · rw [if_neg q] at ih ⊢
          exact .cons hc hu ih
  exact key h nd
theorem key_len {V : Value → AV → Prop} {kvs : List (Str × Value)} {d : List (Nat × AV)} (h : KeyRel V kvs d) : kvs.length = d.length := by
  induction h with
  | nil => rfl
  | cons _ _ _ ih => rw [List.length_cons, List.length_cons, ih]
theorem dict_nodup {o : Obj} {kvs : List (Str × Value)} (h : o.IsDictOf (strKind P.prog P.w) kvs) : (kvs.map (·.1)).Nodup := by
  obtain ⟨es, ep, h1, h2, h3, h4, h5⟩ := h
  exact h5
theorem strK_true {b : AV} {k : Nat → Bool} (h : strK b false k = true) : ∃ c, b = .str c ∧ k c = true := by
  cases b with
  | str c => exact ⟨c, rfl, h⟩
  | _ => cases h
theorem sndS_ass {c d i : EC} {o ie e : Expr} {p1 pos : Pos} (hs : ∀ env, swapsWith e (some (.Subscript o ie p1)) pos.line env = pure false)
    (hc : SndE P XR N cs c e) (hd : SndE P XR N cs d o) (hi : SndE P XR N cs i ie) : SndS1 P XR N cs (sAsS d i c) (.Assign [.Subscript o ie p1] e pos) :=
  fun F hcs hN C cells g real m st s S ce kn kr kx q Q E pn pr px => by
    refine wpAny_Assign_Subscript (hc F hcs hN C cells g real m st s S (fun v st => d st (fun a st => i st (fun i st => res i st fun i st => wrSub v i a st kn) kx) kx) kx q _ E (fun v a g1 r1 st1 s1 S1 x1 e1 V q1 => ?_) px) (hs _)
    refine hd F hcs hN C cells g1 r1 m st1 s1 S1 (fun b st => i st (fun i st => res i st fun i st => wrSub a i b st kn) kx) kx q1 _ E (fun ov b g2 r2 st2 s2 S2 x2 e2 V2 q2 => ?_) (px.le x1)
    refine hi F hcs hN C cells g2 r2 m st2 s2 S2 (fun i st => res i st fun i st => wrSub a i b st kn) kx q2 _ E (fun iv ia g3 r3 st3 s3 S3 x3 e3 V3 q3 => ?_) (px.le (x1.trans x2))
    obtain ⟨ia', st4, R4, Sm4, V4, q4⟩ := res_sound S3.ar V3 q3
    have S4 := S3.sm R4 Sm4
    cases b <;> try (cases q4; done)
    rename_i y
    have q4 : @Option.rec AO (fun _ => Bool) false (fun o => @AO.rec (fun _ => Bool) (fun _ => false) (fun d => strK ia' false fun c => capL d (wr y (.dic (put c a d)) st4 kn)) (fun _ _ => false) o) (st4.H.get y) = true := q4
    cases z : st4.H.get y with
    | none => rw [z] at q4; cases q4
    | some ob =>
      rw [z] at q4
      cases ob <;> try (cases q4; done)
      rename_i dd
      obtain ⟨n, rfl, q5⟩ := strK_true q4
      obtain ⟨hl, q6⟩ := capL_true q5
      obtain ⟨hy, q7⟩ := wr_true q6
      obtain ⟨hn, t, rfl⟩ := V4.str_inv
      have V2' := V2.mono x3
      cases V2' with
      | ref ha =>
        obtain ⟨b, hb, B⟩ := S4.ar.ob y _ z
        cases B with
        | dic ho lo KR =>
          rename_i w' w2 ob kvs
          have e : _ = w2 := S4.ar.addr ha hb
          subst e
          obtain ⟨rest, p1, p2⟩ := led_split (oth := F.oth) (cells := cells) (g := g3) hb
          have nd := (p1.map (·.1)).nodup_iff.mp S4.hr.nd
          have kl := key_len KR
          refine kda_set (k := nm n) S4.hr.fr (fun q hq => S4.hr.ns q (p1.mem_iff.mpr hq)) (.head (head_apart nd)) ho (isStrOf_self _ _) (by rw [sizeLine_eq]; omega) fun h' o' F' N' ho' => ?_
          exact pn cells g3 _ m _ _ (S4.upd (b' := .dic _ o') (o' := .dic (put n a dd)) (t := s3.toks + 1) hb rfl rfl p1 (p2 _) F' N' (.dic ho' lo (key_put KR hn (V.mono (x2.trans x3)) (dict_nodup ho))) hy) ce ((x1.trans x2).trans x3) q7
end
end Mine
end
section
open PySem PySem.W PyProof.Rows PySem.Calls
namespace Mine
section
variable {P : Pk} {XR : XRel} {N H : Nat} {cs : Scope} {F : Fd} {cells oth : List (Addr × Obj)} {g g' : Gh} {real : List Blk} {m : Str → Option Value} {st st' : St} {s : Shared}
theorem plain_trees (env : Env) (pos : Pos) : ∀ (l : List Expr), l.all notStar = true → (backTo pos (starEach l env)).any (·.1) = false
  | [], _ => rfl
  | a :: r, hl => by
    rw [List.all_cons, Bool.and_eq_true] at hl
    rw [star_cons hl.1]
    show (false || (backTo pos (starEach r env)).any (·.1)) = false
    rw [plain_trees env pos r hl.2]; rfl
theorem all_trees (env : Env) (pos : Pos) : ∀ (l : List Expr), l.all notStar = true → (backTo pos (starEach l env)).all (fun x => !x.1) = true
  | [], _ => rfl
  | a :: r, hl => by
    rw [List.all_cons, Bool.and_eq_true] at hl
    rw [star_cons hl.1]
    show (true && (backTo pos (starEach r env)).all (fun x => !x.1)) = true
    rw [all_trees env pos r hl.2]; rfl
noncomputable def BltOk (P : Pk) (f : Value) (b : AV → St → K1 → Bool) : Prop :=
  ∀ (F : Fd), Cx P F → ∀ cells g real m st s, SR P F cells g real m st s → ∀ v a, P.VR g v a → ∀ k, b a st k = true → ∀ (Q E : Value → Shared → Prop),
    (∀ u r g' real' st' s', SR P F cells g' real' m st' s' → g.Le g' → st'.loc = st.loc → P.VR g' u r → k r st' = true → Q u s') → wpAny P.M F.A (call f [v]) Q E s
theorem blt_len : BltOk P (.builtin "len") bLen := by
  intro F C cells g real m st s S v a V k q Q E h
  have fin : ∀ {vs : List Value} {l : List AV} {d : Addr}, v = .ref d → s.heap.IsList d vs.toArray → AllRel (P.VR g) vs l → capL l (k (.int (.ofNat (lenL l))) st) = true → wpAny P.M F.A (call (.builtin "len") [v]) Q E s := by
    intro vs l d e I A q
    subst e
    obtain ⟨hl, q2⟩ := capL_true q
    have e := A.length
    refine Calls.call_len_list I (by rw [List.size_toArray]; omega) ?_
    refine h _ _ g real st _ (S.toks (s.toks + 1 + 1)) (Gh.Le.refl _) rfl ?_ q2
    rw [lenL_eq, List.size_toArray, e]
    exact .int _ _
  cases a <;> try (cases q; done)
  · cases V with
    | lis T A => exact fin rfl (News.isList S.hr.ns (cst_mem T)) A q
  · rename_i x
    obtain ⟨x', l, e, hx, q2⟩ := asL_true (show asL (.ref x) st (fun _ l => capL l (k (.int (.ofNat (lenL l))) st)) = true from q)
    cases e
    obtain ⟨d, vs, n, rfl, _, A, I⟩ := S.list V hx
    exact fin rfl I A q2
theorem blt_tup : BltOk P (.type "tuple") bTup := by
  intro F C cells g real m st s S v a V k q Q E h
  have fin : ∀ {vs : List Value} {l : List AV} {d : Addr}, v = .ref d → s.heap.IsList d vs.toArray → AllRel (P.VR g) vs l → capL l (k (.tup l) st) = true → wpAny P.M F.A (call (.type "tuple") [v]) Q E s := by
    intro vs l d e I A q
    subst e
    obtain ⟨hl, q3⟩ := capL_true q
    have e := A.length
    refine kde_tupleOf S.hr.fr S.hr.ns I (by rw [List.size_toArray]; omega) rfl fun D h' F' N' lt => ?_
    refine h _ _ (g.add [(D, tupO vs)]) real st _ ⟨S.hr.addCst (t := s.toks) F' N' lt, S.ar.grow (Gh.le_add _ _) rfl rfl, S.lr.mono (Gh.le_add _ _)⟩ (Gh.le_add _ _) rfl ?_ q3
    exact .tup (.inl (List.mem_append_right _ (.head _))) (AllV.mono (Gh.le_add _ _) A)
  cases a <;> try (cases q; done)
  · cases V with
    | lis T A => exact fin rfl (News.isList S.hr.ns (cst_mem T)) A q
  · rename_i x
    obtain ⟨x', l, e, hx, q2⟩ := asL_true (show asL (.ref x) st (fun _ l => capL l (k (.tup l) st)) = true from q)
    cases e
    obtain ⟨d, vs, n, rfl, _, A, I⟩ := S.list V hx
    exact fin rfl I A q2
theorem sndE_blt {c : EC} {b : AV → St → K1 → Bool} {x : Str} {np pos : Pos} {e : Expr} {f : Value} (hB : BltOk P f b) (hf : (∃ id, f = .builtin id) ∨ ∃ T, f = .type T) (hns : nsIn P.K mainGlobals x = some none) (hv : bootBuiltins x = some f) (hxn : x ≠ "__name__")
    (hx : cs.names.lookup x = some .globalImplicit) (hd : (x == ("__debug__" : Str)) = false) (hs : notStar e = true) (hc : SndE P XR N cs c e) : SndE P XR N cs (eCallB b c) (.Call (.Name x np) [e] [] pos) :=
  fun F hcs hn C cells g real m st s S k kx q Q E pe px => by
    refine Call_name1 (by rw [star_cons hs]; rfl) (nameX_B S.hr.fr C.kin (topRead_of C.top) hns hv hxn ?_ C.kind (by rw [← hcs] at hx; exact hx) hd)
    have main : wpAny P.M F.A (eval e F.env) (fun v s₁ => wpAny P.M F.A (call f [v]) Q E s₁) E s := by
      refine hc F hcs hn C cells g real m st s S (fun a st => res a st fun a st => b a st k) kx q _ E (fun v a g1 r1 st1 s1 S1 x1 e1 V q1 => ?_) px
      obtain ⟨a', st2, R2, Sm2, V2, q2⟩ := res_sound S1.ar V q1
      exact hB F C cells g1 r1 m st2 s1 (S1.sm R2 Sm2) v a' V2 k q2 Q E fun u r g3 r3 st3 s3 S3 x3 e3 V3 q3 => pe u r g3 r3 st3 s3 S3 (x1.trans x3) (e3.trans (Sm2.loc.trans e1)) V3 q3
    rcases hf with ⟨id, rfl⟩ | ⟨T, rfl⟩
    · exact callWith_builtin1 main
    · exact PySem.callWith_type1 main
theorem sndE_mthL {mc : MC} {c : EC} {l : LC} {id : String} {name : Str} {apos pos : Pos} {o e : Expr} {es : List Expr} (M : MthOk P id mc) (sl : Slot "list" name id) (ty : typeOf (.builtin id) = pure (.type "method_descriptor"))
    (hb : ∀ env, attributeBase o name env (eval o env) = eval o env) (hl : (apos.endLine == pos.line) = true) (hst : (e :: es).all notStar = true) (hlen : es.length ≤ 10) (hc : SndE P XR N cs c o) (hd : SndL P XR N cs l (e :: es)) :
    SndE P XR N cs (eMthL mc c l) (.Call (.Attribute o name apos) (e :: es) [] pos) :=
  fun F hcs hn C cells g real m st s S k kx q Q E pe px => by
    have h0 := hst
    rw [List.all_cons, Bool.and_eq_true] at h0
    refine wpAny_Call_method_lateS (hb _) (by
      rw [all_trees _ _ _ hst]
      show (true && true && decide (es.length + 1 + 0 + 0 < 30)) = true
      simp; omega) hl ?_
    refine hc F hcs hn C cells g real m st s S (fun a st => asL a st fun _ _ => l st (fun args st => asL a st fun x l => mc x l args st k) kx) kx q _ E (fun v a g1 r1 st1 s1 S1 x1 e1 V q1 => ?_) px
    obtain ⟨x, l1, rfl, hx, q2⟩ := asL_true q1
    obtain ⟨d, vs, n, rfl, hb1, A, I⟩ := S1.list V hx
    refine ⟨"list", id, PySem.F.plainAttrs_list, sl, ty, I.typeIs, fun a ea => ?_, ?_⟩
    · cases ea
      exact ⟨_, (S1.hr.ns _ (real_mem hb1 (.head _))).1, rfl⟩
    · refine callWith_method1 (first := [.ref d]) (hd F hcs hn C cells g1 r1 m st1 s1 S1 (fun args st => asL (.ref x) st fun x l => mc x l args st k) kx q2 pos _ E (fun us as g2 r2 st2 s2 S2 x2 e2 A2 hv q3 => ?_) (px.le x1)) (star_cons h0.1) (plain_trees _ _ _ h0.2)
      obtain ⟨x', l2, ex, hx2, q4⟩ := asL_true q3
      cases ex
      exact M F C cells g2 r2 m st2 s2 S2 x l2 (.ref d) us as (V.mono x2) hx2 A2 k q4 Q E fun r3 st3 s3 S3 e3 q5 => pe .none .non g2 r3 st3 s3 S3 (x1.trans x2) (e3.trans (e2.trans e1)) .non q5
theorem Call_methodG {A : Around} {M : Model} {E : Value → Shared → Prop} {env : Env} {o : Expr} {name : Str} {apos pos : Pos} {args : List Expr} {Q : Value → Shared → Prop} (hbase : attributeBase o name env (eval o env) = eval o env)
    (hfew : methodCallForm (args.length + ([] : List Keyword).length) (backTo pos (starEach args env)) (backToKw pos (keywordEach [] env)) = true) (hline : (apos.endLine == pos.line) = true)
    (h : wpAny M A (eval o env) (fun ov s₁ => ∀ pl, wpAny M A (getMethod ov name pl) (fun fx s₂ => wpAny M A (callWith pos fx.1 fx.2 (backTo pos (starEach args env)) []) Q E s₂) E s₁) E s) :
    wpAny M A (eval (.Call (.Attribute o name apos) args [] pos) env) Q E s := by
  rw [arm_eval_Call, hbase]
  refine wpAny_bind (wpAny_mono h (fun ov s₁ h₁ => ?_) fun _ _ e => e)
  refine wpAny_bind (wpAny_standAt ?_)
  have hpos : methodCallPos true o env apos pos = pure pos := by unfold methodCallPos; simp [hline]
  unfold methodCall calleeOf
  rw [hfew]
  refine wpAny_bind (wpAny_holding (wpAny_mono (h₁ _) (fun fx s₂ h₂ => ?_) fun _ _ e => e))
  exact wpAny_bind (wpAny_of_eq hpos h₂)
theorem isI_true {c : Nat} {a : AV} {k : Bool} (h : isI c a st k = true) : k = true ∧ ((∃ l, a = .obj c l) ∨ ∃ x l, a = .ref x ∧ st.H.get x = some (.ins c l)) := by
  cases a <;> try (cases h; done)
  · rename_i d l
    rcases bool_rec_true h with ⟨h1, h2⟩ | ⟨_, h2⟩
    · rw [← beq_of h1]; exact ⟨h2, .inl ⟨l, rfl⟩⟩
    · cases h2
  · rename_i x
    have h : @Option.rec AO (fun _ => Bool) false (fun o => @AO.rec (fun _ => Bool) (fun _ => false) (fun _ => false) (fun d _ => @Bool.rec (fun _ => Bool) false k (Nat.beq c d)) o) (st.H.get x) = true := h
    cases z : st.H.get x with
    | none => rw [z] at h; cases h
    | some o =>
      rw [z] at h
      cases o <;> try (cases h; done)
      rename_i d l
      rcases bool_rec_true h with ⟨h1, h2⟩ | ⟨_, h2⟩
      · exact ⟨h2, .inr ⟨x, l, rfl, by rw [beq_of h1]; exact z⟩⟩
      · cases h2
theorem SR.inst (S : SR P F cells g real m st s) {v : Value} {a : AV} {c : Nat} (V : P.VR g v a) (h : (∃ l, a = .obj c l) ∨ ∃ x l, a = .ref x ∧ st.H.get x = some (.ins c l)) :
    ∃ x dx es n d, v = .ref x ∧ c ∈ clsL ∧ (x, instObj (P.cA c) dx) ∈ led F.oth cells g real ∧ (dx, dictOf es n) ∈ led F.oth cells g real ∧ OwnRel (P.VR g) es d := by
  rcases h with ⟨l, rfl⟩ | ⟨x, l, rfl, hx⟩
  · cases V with
    | obj hc h1 h2 O => exact ⟨_, _, _, _, _, rfl, hc, cst_mem h1, cst_mem h2, O⟩
  · cases V with
    | ref ha =>
      obtain ⟨b, hb, B⟩ := S.ar.ob x _ hx
      cases B with
      | ins hc O =>
        rename_i u u' dx es n
        have e : u = u' := S.ar.addr ha hb
        subst e
        exact ⟨_, _, _, _, _, rfl, hc, real_mem hb (.head _), real_mem hb (.tail _ (.head _)), O⟩
theorem sndE_mthI {f : FC} {fa : Addr} {c : EC} {l : LC} {cc : Nat} {name : Str} {apos pos : Pos} {o : Expr} {e : Expr} {es : List Expr} (hf : SndF P XR H f (.ref fa)) (hH : H + 1 ≤ N) (hk : keepIn P.K (.ref fa) = true) (hfn : isFn P.K (.ref fa) = true)
    (hg : plainGet P.K (P.cA cc) name = true) (hfi : findIn P.K (.ref (P.cA cc)) name = some (some (.ref fa))) (hnt : ∀ c, c < tabN → nm c ≠ name)
    (hb : ∀ env, attributeBase o name env (eval o env) = eval o env) (hl : (apos.endLine == pos.line) = true) (hst : (e :: es).all notStar = true) (hlen : es.length ≤ 10) (hc : SndE P XR N cs c o) (hd : SndL P XR N cs l (e :: es)) :
    SndE P XR N cs (eMthI cc f c l) (.Call (.Attribute o name apos) (e :: es) [] pos) :=
  fun F hcs hn C cells g real m st s S k kx q Q E pe px => by
    refine Call_methodG (hb _) (by
      unfold methodCallForm
      rw [show (backTo pos (starEach (e :: es) F.env)).all (fun x => !x.1) = true from all_trees _ _ _ hst]
      show (true && true && decide (es.length + 1 + 0 + 0 < 30)) = true
      simp; omega) hl ?_
    refine hc F hcs hn C cells g real m st s S (fun a st => res a st fun a st => isI cc a st (l st (fun args st => f (a :: args) st k kx) kx)) kx q _ E (fun v a g1 r1 st1 s1 S1 x1 e1 V q1 => ?_) px
    obtain ⟨a', st2, R2, Sm2, V2, q2⟩ := res_sound S1.ar V q1
    have S2 := S1.sm R2 Sm2
    obtain ⟨q3, hi⟩ := isI_true q2
    obtain ⟨x, dx, ees, n, d, rfl, hcc, m1, m2, O⟩ := S2.inst V2 hi
    intro pl
    refine method_inst S2.hr.fr C.kin (InstAt.of_news S2.hr.ns m1 m2) hg hfi hfn (getL_none O hnt) ?_
    have fin : ∀ us as g3 r3 st3 s3, SR P F cells g3 r3 m st3 s3 → g1.Le g3 → st3.loc = st2.loc → AllRel (P.VR g3) us as → f (a' :: as) st3 k kx = true → wpAny P.M F.A (call (.ref fa) (.ref x :: us)) Q E s3 := by
      intro us as g3 r3 st3 s3 S3 x3 e3 A3 q4
      refine wpAny_call (hf F F.A C ⟨C.fr, C.hd, by have := C.dep; omega, by have := C.un; omega⟩ cells g3 r3 m st3 s3 S3 (.ref x :: us) (a' :: as) (.cons (V2.mono x3) A3) k kx q4 _ (fun v a g4 r4 st4 s4 S4 x4 e4 V4 q5 => ?_) ?_)
      · exact pe v a g4 r4 st4 s4 S4 ((x1.trans x3).trans x4) (e4.trans (e3.trans (Sm2.loc.trans e1))) V4 q5
      · exact px.le (x1.trans x3)
    have h0 := hst
    rw [List.all_cons, Bool.and_eq_true] at h0
    exact callWith_K (first := [.ref x]) C.kin hk (hd F hcs hn C cells g1 r1 m st2 s1 S2 (fun args st => f (a' :: args) st k kx) kx q3 pos _ E (fun us as g3 r3 st3 s3 S3 x3 e3 A3 hv q4 => ⟨C.kin.keeps S3.hr.fr.keep, fin us as g3 r3 st3 s3 S3 x3 e3 A3 q4⟩) (px.le x1)) (star_cons h0.1) (plain_trees _ _ _ h0.2)
theorem sndE_mthI0 {f : FC} {fa : Addr} {c : EC} {cc : Nat} {name : Str} {apos pos : Pos} {o : Expr} (hf : SndF P XR H f (.ref fa)) (hH : H + 1 ≤ N) (hk : keepIn P.K (.ref fa) = true) (hfn : isFn P.K (.ref fa) = true)
    (hg : plainGet P.K (P.cA cc) name = true) (hfi : findIn P.K (.ref (P.cA cc)) name = some (some (.ref fa))) (hnt : ∀ c, c < tabN → nm c ≠ name)
    (hb : ∀ env, attributeBase o name env (eval o env) = eval o env) (hl : (apos.endLine == pos.line) = true) (hc : SndE P XR N cs c o) :
    SndE P XR N cs (eMthI cc f c lNil) (.Call (.Attribute o name apos) [] [] pos) :=
  fun F hcs hn C cells g real m st s S k kx q Q E pe px => by
    refine Call_methodG (hb _) rfl hl ?_
    refine hc F hcs hn C cells g real m st s S (fun a st => res a st fun a st => isI cc a st (lNil st (fun args st => f (a :: args) st k kx) kx)) kx q _ E (fun v a g1 r1 st1 s1 S1 x1 e1 V q1 => ?_) px
    obtain ⟨a', st2, R2, Sm2, V2, q2⟩ := res_sound S1.ar V q1
    have S2 := S1.sm R2 Sm2
    obtain ⟨q3, hi⟩ := isI_true q2
    obtain ⟨x, dx, ees, n, d, rfl, hcc, m1, m2, O⟩ := S2.inst V2 hi
    intro pl
    refine method_inst S2.hr.fr C.kin (InstAt.of_news S2.hr.ns m1 m2) hg hfi hfn (getL_none O hnt) ?_
    have fin : ∀ us as g3 r3 st3 s3, SR P F cells g3 r3 m st3 s3 → g1.Le g3 → st3.loc = st2.loc → AllRel (P.VR g3) us as → f (a' :: as) st3 k kx = true → wpAny P.M F.A (call (.ref fa) (.ref x :: us)) Q E s3 := by
      intro us as g3 r3 st3 s3 S3 x3 e3 A3 q4
      refine wpAny_call (hf F F.A C ⟨C.fr, C.hd, by have := C.dep; omega, by have := C.un; omega⟩ cells g3 r3 m st3 s3 S3 (.ref x :: us) (a' :: as) (.cons (V2.mono x3) A3) k kx q4 _ (fun v a g4 r4 st4 s4 S4 x4 e4 V4 q5 => ?_) ?_)
      · exact pe v a g4 r4 st4 s4 S4 ((x1.trans x3).trans x4) (e4.trans (e3.trans (Sm2.loc.trans e1))) V4 q5
      · exact px.le (x1.trans x3)
    exact callWith_K0 (first := [.ref x]) (C.kin.keeps S2.hr.fr.keep) hk (fin [] [] g1 r1 st2 s1 S2 (Gh.Le.refl _) rfl .nil q3)
end
end Mine
end
section
open PySem PySem.W PyProof.Rows PySem.Calls
namespace Mine
section
variable {P : Pk} {XR : XRel} {N H : Nat} {cs : Scope} {F : Fd} {cells oth : List (Addr × Obj)} {g g' : Gh} {real : List Blk} {m : Str → Option Value} {st st' : St} {s : Shared}
theorem make_sound {f : FC} {fa : Addr} {c : Nat} (hf : SndF P XR H f (.ref fa)) (hH : H + 1 ≤ N) (hcc : c ∈ clsL) (hm : makesIn P.K (P.cA c) = true) (hi : findIn P.K (.ref (P.cA c)) "__init__" = some (some (.ref fa))) (hfn : isFn P.K (.ref fa) = true)
    (hn : N ≤ F.n) (C : Cx P F) (S : SR P F cells g real m st s) {vs : List Value} {l : List AV} (A : AllRel (P.VR g) vs l) {k kx : K1} (q : (new (.ins c []) st fun x st => f (.ref x :: l) st (fun a st => nonK a (k (.ref x) st)) kx) = true) {Q E : Value → Shared → Prop}
    (pe : PostE P F cells g m st k Q) (px : PostX P XR F g kx E) : wpAny P.M F.A (call (.ref (P.cA c)) vs) Q E s := by
  obtain ⟨hh, q1⟩ := new_true q
  refine call_cls S.hr.fr C.kin S.hr.ns hm hi hfn fun x dx h' F' N' lt ld => ?_
  obtain ⟨S2, le, hr⟩ := S.newBlk (b := .ins x dx (P.cA c) [] 0) (o := .ins c []) (t := s.toks) F' N' (fun q hq r hr => by
    rcases List.mem_cons.mp (show r ∈ [_, _] from hr) with e | hr
    · rw [e]; exact Nat.ne_of_lt (Nat.lt_trans (lt q hq) ld)
    · rw [List.mem_singleton.mp hr]; exact Nat.ne_of_lt (lt q hq)) (List.nodup_cons.mpr ⟨fun z => by
      have z : x = dx := List.mem_singleton.mp z
      rw [z] at ld; exact Nat.lt_irrefl _ ld, nd1 _⟩) (.ins hcc .nil) hh
  refine hf F (F.A.under (.builtin "type.__call__" ⟨.ref (P.cA c) :: vs, []⟩)) C ⟨C.fr, C.hd, ?_, ?_⟩ cells _ _ m _ _ S2 (.ref x :: vs) (.ref st.hn :: l) (.cons (.ref hr) (AllV.mono le A)) _ kx q1 _ (fun v a g2 r2 st2 s2 S3 x3 e3 V3 q3 => ?_) ?_
  · rw [show (F.A.under (.builtin "type.__call__" ⟨.ref (P.cA c) :: vs, []⟩)).depth = F.A.depth + 1 from rfl]; have := C.dep; omega
  · rw [show (F.A.under (.builtin "type.__call__" ⟨.ref (P.cA c) :: vs, []⟩)).units = F.A.units + 1 from rfl]; have := C.un; omega
  · obtain ⟨rfl, q4⟩ := nonK_true q3
    cases V3.non_inv
    exact ⟨rfl, pe (.ref x) (.ref st.hn) g2 r2 st2 s2 S3 (le.trans x3) e3 (.ref (x3.rho _ _ hr)) q4⟩
  · intro a x g2 r2 m2 st2 s2 x2 R2 X2 q2
    exact px a x g2 r2 m2 st2 s2 (le.trans x2) R2 X2 q2
theorem sndE_new {f : FC} {fa : Addr} {c : Nat} {l : LC} {x : Str} {np pos : Pos} {e : Expr} {es : List Expr} (hf : SndF P XR H f (.ref fa)) (hH : H + 1 ≤ N) (hcc : c ∈ clsL) (hm : makesIn P.K (P.cA c) = true) (hi : findIn P.K (.ref (P.cA c)) "__init__" = some (some (.ref fa))) (hfn : isFn P.K (.ref fa) = true)
    (hk : keepIn P.K (.ref (P.cA c)) = true) (hns : nsIn P.K mainGlobals x = some (some (.ref (P.cA c)))) (hx : cs.names.lookup x = some .globalImplicit) (hd : (x == ("__debug__" : Str)) = false) (hl : SndL P XR N cs l (e :: es)) (hst : (e :: es).all notStar = true) :
    SndE P XR N cs (eCallC c f l) (.Call (.Name x np) (e :: es) [] pos) :=
  fun F hcs hn C cells g real m st s S k kx q Q E pe px => by
    have h0 := hst
    rw [List.all_cons, Bool.and_eq_true] at h0
    refine wpAny_Call_ofName (nameX_K S.hr.fr C.kin (topRead_of C.top) hns ?_ C.kind (by rw [← hcs] at hx; exact hx) hd)
    refine callWith_K C.kin hk (hl F hcs hn C cells g real m st s S (fun l st => new (.ins c []) st fun x st => f (.ref x :: l) st (fun a st => nonK a (k (.ref x) st)) kx) kx q pos _ E (fun vs l g1 r1 st1 s1 S1 x1 e1 A1 hv q1 => ⟨C.kin.keeps S1.hr.fr.keep, ?_⟩) px) (star_cons h0.1) (plain_trees _ _ _ h0.2)
    exact make_sound hf hH hcc hm hi hfn hn C S1 A1 q1 (pe.le x1 e1) (px.le x1)
theorem sndE_new0 {f : FC} {fa : Addr} {c : Nat} {x : Str} {np pos : Pos} (hf : SndF P XR H f (.ref fa)) (hH : H + 1 ≤ N) (hcc : c ∈ clsL) (hm : makesIn P.K (P.cA c) = true) (hi : findIn P.K (.ref (P.cA c)) "__init__" = some (some (.ref fa))) (hfn : isFn P.K (.ref fa) = true)
    (hk : keepIn P.K (.ref (P.cA c)) = true) (hns : nsIn P.K mainGlobals x = some (some (.ref (P.cA c)))) (hx : cs.names.lookup x = some .globalImplicit) (hd : (x == ("__debug__" : Str)) = false) :
    SndE P XR N cs (eCallC c f lNil) (.Call (.Name x np) [] [] pos) :=
  fun F hcs hn C cells g real m st s S k kx q Q E pe px => by
    refine wpAny_Call_ofName (nameX_K S.hr.fr C.kin (topRead_of C.top) hns ?_ C.kind (by rw [← hcs] at hx; exact hx) hd)
    exact callWith_K0 (C.kin.keeps S.hr.fr.keep) hk (make_sound hf hH hcc hm hi hfn hn C S (.nil) q pe px)
theorem wpAny_While' {A : Around} {M : Model} {E : Value → Shared → Prop} {env : Env} {test : Expr} {body : List Stmt} {pos : Pos} {Q : Flow → Shared → Prop} : True := trivial
end
end Mine
end
section
open PySem PySem.W PyProof.Rows PySem.Calls
namespace Mine
section
variable {P : Pk} {XR : XRel} {N H : Nat} {cs : Scope} {F : Fd} {cells oth : List (Addr × Obj)} {g g' : Gh} {real : List Blk} {m : Str → Option Value} {st st' : St} {s : Shared}
theorem SR.but {I : Addr} {o : Obj} (S : SR P (F.with (I, o)) cells g real m st s) {h' : Heap} {t : Nat} (hk : ∀ b ob, b ≠ I → s.heap.get? b = some ob → h'.get? b = some ob) : SR P F cells g real m st { s with heap := h', toks := t } := by
  have N1 := S.with_news
  have nI := N1 (I, o) (.head _)
  have ap := S.with_ne
  refine ⟨⟨⟨S.hr.fr.ns.at' fun ob e => hk _ ob (fun z => nI.2.1 z.symm) e, fun b ob e => hk b ob (fun z => ?_) (S.hr.fr.keep b ob e), S.hr.fr.above⟩, fun q hq => ⟨hk q.1 q.2 (ap q hq) (N1 q (.tail _ hq)).1, (N1 q (.tail _ hq)).2⟩, S.without.hr.nd, S.hr.rst.toks _ _⟩, S.ar, S.lr⟩
  have := nI.2.2
  rw [← z, e] at this; cases this
theorem SR.but_with {I : Addr} {o o' : Obj} (S : SR P (F.with (I, o)) cells g real m st s) {h' : Heap} {t : Nat} (hk : ∀ b ob, b ≠ I → s.heap.get? b = some ob → h'.get? b = some ob) (ho : h'.get? I = some o') : SR P (F.with (I, o')) cells g real m st { s with heap := h', toks := t } := by
  have S1 := S.but (t := t) hk
  have nI := S.with_news (I, o) (.head _)
  refine ⟨⟨S1.hr.fr, fun q hq => ?_, ?_, S1.hr.rst⟩, S1.ar, S1.lr⟩
  · rcases List.mem_cons.mp ((led_with (F := F) (I, o')).mem_iff.mp hq) with e | hq
    · subst e; exact ⟨ho, nI.2⟩
    · exact S1.hr.ns q hq
  · refine ((led_with (F := F) (I, o')).map (·.1)).nodup_iff.mpr (List.nodup_cons.mpr ⟨fun z => ?_, S1.hr.nd⟩)
    obtain ⟨y, hy, e⟩ := List.mem_map.mp z
    exact S.with_ne y hy e
structure ItOk (P : Pk) (F : Fd) (g₀ : Gh) (I : Addr) (Sti : Nat → Obj → Prop) (x : Nat → Gh → St → Option AV → Prop) : Prop where
  item : ∀ i cells g real m st s o a, SR P (F.with (I, o)) cells g real m st s → g₀.Le g → Sti i o → x i g st (some a) → ∀ (Q : Option Value → Shared → Prop) E,
    (∀ v o' s', SR P (F.with (I, o')) cells g real m st s' → Sti (i + 1) o' → P.VR g v a → Q (some v) s') → wpAny P.M F.A (pyNext (.ref I)) Q E s
  done : ∀ i cells g real m st s o, SR P (F.with (I, o)) cells g real m st s → g₀.Le g → Sti i o → x i g st none → ∀ (Q : Option Value → Shared → Prop) E, (∀ s', SR P F cells g real m st s' → Q none s') → wpAny P.M F.A (pyNext (.ref I)) Q E s
noncomputable def IsIt (n : String) (ax : Addr) (i : Nat) (o : Obj) : Prop := o.cls = .type n ∧ o.data = .fields #[.ref ax, .int i 0]
theorem SR.at_ {q : Addr × Obj} (S : SR P (F.with q) cells g real m st s) : s.heap.get? q.1 = some q.2 := (S.with_news q (.head _)).1
theorem itOk_list {g₀ : Gh} {I ax : Addr} {vs : List Value} {l : List AV} (C : Cx P F) (hm : (ax, listOf vs.toArray 0) ∈ g₀.cst ∨ ∃ n, (ax, listOf vs.toArray n) ∈ g₀.cst) (A : AllRel (P.VR g₀) vs l) :
    ItOk P F g₀ I (IsIt "list_iterator" ax) (fun i _ _ y => y = nth l i) := by
  have hm : ∃ n, (ax, listOf vs.toArray n) ∈ g₀.cst := hm.elim (fun h => ⟨0, h⟩) id
  obtain ⟨n, hm⟩ := hm
  refine ⟨fun i cells g real m st s o a S le it hx Q E h => ?_, fun i cells g real m st s o S le it hx Q E h => ?_⟩
  · obtain ⟨v, hv, V⟩ := A.get (Eq.symm hx)
    refine wpAny_pyNext_list_item (l := ax) (i := i) (items := vs.toArray) ⟨o, S.at_, it.1, it.2⟩ (News.isList S.hr.ns (cst_mem (le.cst _ hm))) (x := v) (by simpa using hv) fun h' hit hs => ?_
    obtain ⟨o', ho', hc, hd⟩ := hit
    exact h v o' _ (S.but_with (t := s.toks) (fun b ob ne e => hs.extBut b ob ne e) ho') ⟨hc, hd⟩ (V.mono le)
  · have hx : none = nth l i := hx
    rw [nth_eq] at hx
    have hn : vs.toArray[i]? = none := by
      have := A.length
      rw [List.getElem?_toArray, List.getElem?_eq_none_iff]
      have := List.getElem?_eq_none_iff.mp hx.symm
      omega
    exact wpAny_pyNext_list_end C.hd (l := ax) (i := i) (items := vs.toArray) ⟨o, S.at_, it.1, it.2⟩ (News.isList S.hr.ns (cst_mem (le.cst _ hm))) hn fun h' he => h _ (S.but (t := s.toks) fun b ob ne e => he b ob ne e)
theorem itOk_ref {g₀ : Gh} {I ax : Addr} {y : Nat} (C : Cx P F) (hr : g₀.rho[y]? = some ax) : ItOk P F g₀ I (IsIt "list_iterator" ax) (fun i _ st z => ∃ l, st.H.get y = some (.lst l) ∧ z = nth l i) := by
  refine ⟨fun i cells g real m st s o a S le it hx Q E h => ?_, fun i cells g real m st s o S le it hx Q E h => ?_⟩
  · obtain ⟨l, hl, hx⟩ := hx
    obtain ⟨d, vs, n, e, hb, A, Il⟩ := S.list (v := .ref ax) (.ref (le.rho _ _ hr)) hl
    cases e
    obtain ⟨v, hv, V⟩ := A.get (Eq.symm hx)
    refine wpAny_pyNext_list_item (l := ax) (i := i) (items := vs.toArray) ⟨o, S.at_, it.1, it.2⟩ Il (x := v) (by simpa using hv) fun h' hit hs => ?_
    obtain ⟨o', ho', hc, hd⟩ := hit
    exact h v o' _ (S.but_with (t := s.toks) (fun b ob ne e => hs.extBut b ob ne e) ho') ⟨hc, hd⟩ V
  · obtain ⟨l, hl, hx⟩ := hx
    obtain ⟨d, vs, n, e, hb, A, Il⟩ := S.list (v := .ref ax) (.ref (le.rho _ _ hr)) hl
    cases e
    rw [nth_eq] at hx
    have hn : vs.toArray[i]? = none := by
      have := A.length
      rw [List.getElem?_toArray, List.getElem?_eq_none_iff]
      have := List.getElem?_eq_none_iff.mp hx.symm
      omega
    exact wpAny_pyNext_list_end C.hd (l := ax) (i := i) (items := vs.toArray) ⟨o, S.at_, it.1, it.2⟩ Il hn fun h' he => h _ (S.but (t := s.toks) fun b ob ne e => he b ob ne e)
theorem itOk_tup {g₀ : Gh} {I ax : Addr} {vs : List Value} {l : List AV} (C : Cx P F) (T : TupIs P.K g₀ ax vs) (A : AllRel (P.VR g₀) vs l) :
    ItOk P F g₀ I (IsIt "tuple_iterator" ax) (fun i _ _ y => y = nth l i) := by
  refine ⟨fun i cells g real m st s o a S le it hx Q E h => ?_, fun i cells g real m st s o S le it hx Q E h => ?_⟩
  · obtain ⟨v, hv, V⟩ := A.get (Eq.symm hx)
    have T' : TupIs P.K g ax vs := T.imp (le.cst _) id
    refine next_tuple_item (t := ax) (i := i) (items := vs.toArray) ⟨o, S.at_, it.1, it.2⟩ (T'.isTup S.hr C.kin) (x := v) (by simpa using hv) fun h' hit hs => ?_
    obtain ⟨o', ho', hc, hd⟩ := hit
    exact h v o' _ (S.but_with (t := s.toks) (fun b ob ne e => hs.extBut b ob ne e) ho') ⟨hc, hd⟩ (V.mono le)
  · have hx : none = nth l i := hx
    have T' : TupIs P.K g ax vs := T.imp (le.cst _) id
    rw [nth_eq] at hx
    have hn : vs.toArray[i]? = none := by
      have := A.length
      rw [List.getElem?_toArray, List.getElem?_eq_none_iff]
      have := List.getElem?_eq_none_iff.mp hx.symm
      omega
    exact next_tuple_end C.hd (t := ax) (i := i) (items := vs.toArray) ⟨o, S.at_, it.1, it.2⟩ (T'.isTup S.hr C.kin) hn fun h' he => h _ (S.but (t := s.toks) fun b ob ne e => he b ob ne e)
end
end Mine
end
section
open PySem PySem.W PyProof.Rows PySem.Calls
namespace Mine
section
variable {P : Pk} {XR : XRel} {N H : Nat} {cs : Scope} {F : Fd} {cells oth : List (Addr × Obj)} {g g' : Gh} {real : List Blk} {m : Str → Option Value} {st st' : St} {s : Shared}
noncomputable def TgtOk (P : Pk) (F : Fd) (I : Addr) (Sti : Nat → Obj → Prop) (target : Expr) (b : BC) : Prop :=
  ∀ i cells g real m st s o v a, SR P (F.with (I, o)) cells g real m st s → CE F cells → Sti (i + 1) o → P.VR g v a → ∀ k, b a st k = true → ∀ (Q : Unit → Shared → Prop) E,
    (∀ o' cells' m' st' s', SR P (F.with (I, o')) cells' g real m' st' s' → CE F cells' → Sti (i + 1) o' → k st' = true → Q () s') →
    wpAny P.M F.A (letOwnedTupleGo target (.ref I) v) (fun _ s₁ => wpAny P.M F.A (assign target F.env v) Q E s₁) E s
theorem CE.with {q : Addr × Obj} (h : CE F cells) : CE (F.with q) cells := ⟨h.at_, h.ok⟩
theorem CE.out {q : Addr × Obj} (h : CE (F.with q) cells) : CE F cells := ⟨h.at_, h.ok⟩
theorem tgt_one {I : Addr} {Sti : Nat → Obj → Prop} {x : Nat} {y : Str} {p : Pos} (C : Cx P F) (hy : y = nm x) (hst : Stor F.cs F.cl x) : TgtOk P F I Sti (.Name y p) (bOne x) := by
  intro i cells g real m st s o v a S ce it V k q Q E h
  subst hy
  show wpAny _ _ (pure ()) _ _ _
  refine wpAny_pure (assign_Name ?_)
  exact store_sound (F := F.with (I, o)) (C.with _) S ce.with V hst fun c1 m1 s1 S1 ce1 => h o c1 m1 _ s1 S1 ce1.out it q
theorem iter_go {n : String} {ax I : Addr} {i : Nat} {o : Obj} {es : List Expr} {x1 : Nat} {pos : Pos} {T : Addr} {Q : Unit → Shared → Prop} {E : Value → Shared → Prop} {A : Around} (hn : (["enumerate", "zip", "dict_itemiterator", "dict_reverseitemiterator", "odict_iterator", "itertools.zip_longest", "itertools.pairwise"].contains n) = false)
    (ho : s.heap.get? I = some o) (it : IsIt n ax i o) (hQ : Q () s) : wpAny P.M A (letOwnedTupleGo (.Tuple es x1 pos) (.ref I) (.ref T)) Q E s := by
  obtain ⟨hc, hd⟩ := it
  unfold letOwnedTupleGo
  refine wpAny_bind (wpAny_load ho ?_)
  rw [hc, hd]
  show wpAny _ A (if (["enumerate", "zip", "dict_itemiterator", "dict_reverseitemiterator", "odict_iterator", "itertools.zip_longest", "itertools.pairwise"].contains n && (#[.ref ax, .int i 0] : Array Value)[0]? == some (rawInt T)) = true then _ else _) Q E s
  rw [if_neg (by rw [hn, Bool.false_and]; exact Bool.false_ne_true)]
  exact wpAny_pure hQ
theorem bTwo_true {x y : Nat} {a : AV} {k : KS} (h : bTwo x y a st k = true) : ∃ u v, a = .tup [u, v] ∧ k (setLoc y v (setLoc x u st)) = true := by
  cases a <;> try (cases h; done)
  obtain ⟨u, v, rfl, h2⟩ := arg2_true h
  exact ⟨u, v, rfl, h2⟩
theorem two_sound {I : Addr} {o : Obj} {x y : Nat} {nx ny : Str} {px py tp : Pos} {x1 : Nat} (C : Cx P F) (hx : nx = nm x) (hy : ny = nm y) (ne : x ≠ y) (sx : Stor F.cs F.cl x) (sy : Stor F.cs F.cl y) (S : SR P (F.with (I, o)) cells g real m st s) (ce : CE F cells) {v : Value} {u1 u2 : AV} (V : P.VR g v (.tup [u1, u2]))
    {Q : Unit → Shared → Prop} {E : Value → Shared → Prop} (h : ∀ cells' m' s', SR P (F.with (I, o)) cells' g real m' (setLoc y u2 (setLoc x u1 st)) s' → CE F cells' → Q () s') : ∃ t, v = .ref t ∧ wpAny P.M F.A (assign (.Tuple [.Name nx px, .Name ny py] x1 tp) F.env v) Q E s := by
  cases V with
  | tup T AL =>
    rename_i t vs
    refine ⟨t, rfl, ?_⟩
    have hn : NamesAre [.Name nx px, .Name ny py] [x, y] := .cons hx (.cons hy .nil)
    rcases AL with _ | ⟨h1, AL⟩
    rcases AL with _ | ⟨h2, AL⟩
    cases AL
    refine unpackN_ S.hr.fr S.hr.ns (T.isTup S.hr C.kin) C.hd rfl rfl fun h' F' N' => ?_
    have S3 : SR P (F.with (I, o)) cells g real m st { s with heap := h' } := ⟨⟨F', N', S.hr.nd, S.hr.rst.heap _⟩, S.ar, S.lr⟩
    refine assigns_sound (F := F.with (I, o)) (C.with _) hn (l := [u1, u2]) (put y u2 (put x u1 st.loc)) rfl rfl S3 ce.with (fun p hp => ?_) (List.nodup_cons.mpr ⟨fun z => ne (List.mem_singleton.mp z), nd1 y⟩) (fun z b q => ?_) fun c1 m1 s1 S1 ce1 => h c1 m1 s1 S1 ce1.out
    · rcases List.mem_cons.mp hp with e | hp
      · subst e; exact ⟨h1, sx⟩
      · rw [List.mem_singleton.mp hp]; exact ⟨h2, sy⟩
    · rw [look_put] at q
      by_cases e : z = y
      · rw [if_pos e] at q; cases q; subst e; exact .inl ⟨_, .tail _ (.head _)⟩
      · rw [if_neg e, look_put] at q
        by_cases e2 : z = x
        · rw [if_pos e2] at q; cases q; subst e2; exact .inl ⟨_, .head _⟩
        · rw [if_neg e2] at q
          refine .inr ⟨fun w => ?_, q⟩
          rcases List.mem_cons.mp w with w | w
          · exact e2 w
          · exact e (List.mem_singleton.mp w)
theorem tgt_two {n : String} {ax I : Addr} {x y : Nat} {nx ny : Str} {px py tp : Pos} {x1 : Nat} (hn : (["enumerate", "zip", "dict_itemiterator", "dict_reverseitemiterator", "odict_iterator", "itertools.zip_longest", "itertools.pairwise"].contains n) = false) (C : Cx P F) (hx : nx = nm x) (hy : ny = nm y) (ne : x ≠ y) (sx : Stor F.cs F.cl x) (sy : Stor F.cs F.cl y) :
    TgtOk P F I (IsIt n ax) (.Tuple [.Name nx px, .Name ny py] x1 tp) (bTwo x y) := by
  intro i cells g real m st s o v a S ce it V k q Q E h
  obtain ⟨u1, u2, rfl, q2⟩ := bTwo_true q
  obtain ⟨t, rfl, key⟩ := two_sound (Q := Q) (E := E) (x1 := x1) (px := px) (py := py) (tp := tp) C hx hy ne sx sy S ce V fun c1 m1 s1 S1 ce1 => h o c1 m1 _ s1 S1 ce1 it q2
  exact iter_go hn S.at_ it key
theorem HR.without {I : Addr × Obj} {h₀ : Heap} {L : Addr} {rst : Shared} (Hh : HR h₀ L rst (I :: oth) cells g real m s) : HR h₀ L rst oth cells g real m s := by
  have p : (led (I :: oth) cells g real).Perm (I :: led oth cells g real) := by
    show (cells ++ (I :: oth ++ (g.cst ++ ledger real))).Perm _
    exact List.perm_middle
  exact ⟨Hh.fr, fun x hx => Hh.ns x (p.mem_iff.mpr (.tail _ hx)), (List.nodup_cons.mp ((p.map (·.1)).nodup_iff.mp Hh.nd)).2, Hh.rst⟩
theorem overL_cons {step : Stp} {a : AV} {l : List AV} {k : KS} (h : overL step (a :: l) st k = true) : step a st (fun st => overL step l st k) = true := h
theorem loop_const {g₀ : Gh} {I : Addr} {Sti : Nat → Obj → Prop} {x : Nat → Gh → St → Option AV → Prop} {l : List AV} {target : Expr} {b : BC} {c : SC} {body : List Stmt} (C : Cx P F) (hn : N ≤ F.n) (hcs : F.cs = cs) (it : ItOk P F g₀ I Sti x) (hx : ∀ i g st, x i g st (nth l i)) (tg : TgtOk P F I Sti target b) (hb : SndS P XR N cs c body)
    {kn : KS} {kr : K1} {Q : Flow → Shared → Prop} {E' : Value → Shared → Prop} {R : Result → Shared → Prop} (pn : PostN P F g₀ kn fun f s' => R (.ok f) s') (pr : PostR P F g₀ kr fun f s' => R (.ok f) s') {o : Obj} (S : SR P (F.with (I, o)) cells g₀ real m st s) (ce : CE F cells) (h0 : Sti 0 o)
    (q : overL (frStep b c kr) l st kn = true) : codeAny P.M F.A (.forLoop target (.ref I) body [] F.env) R s := by
  refine codeAny_forLoop_any (fun k s' => ∃ i cells g real m st o, k = l.length + 1 - i ∧ i ≤ l.length ∧ SR P (F.with (I, o)) cells g real m st s' ∧ CE F cells ∧ Sti i o ∧ g₀.Le g ∧ overL (frStep b c kr) (l.drop i) st kn = true) ?_ (l.length + 1)
    ⟨0, cells, g₀, real, m, st, o, rfl, Nat.zero_le _, S, ce, h0, Gh.Le.refl _, q⟩
  rintro k s' ⟨i, cells, g, real, m, st, o, rfl, hi, S, ce, hs, le, q⟩
  have hxi := hx i g st
  by_cases lt : i < l.length
  · have hd : l.drop i = l[i] :: l.drop (i + 1) := List.drop_eq_getElem_cons lt
    have hni : nth l i = some l[i] := by rw [nth_eq]; exact List.getElem?_eq_getElem lt
    rw [hni] at hxi
    rw [hd] at q
    refine it.item i cells g real m st s' o _ S le hs hxi _ _ fun v o1 s1 S1 h1 V => ?_
    refine tg i cells g real m st s1 o1 v _ S1 ce h1 V (fun st => c st (fun st => overL (frStep b c kr) (l.drop (i + 1)) st kn) kr no) q _ _ fun o2 c2 m2 st2 s2 S2 ce2 h2 q2 => ?_
    refine hb (F.with (I, o2)) hcs hn (C.with _) c2 g real m2 st2 s2 S2 ce2.with _ _ _ q2 _ _ (fun c3 g3 r3 m3 st3 s3 S3 ce3 x3 q3 => ?_) (fun v a c3 g3 r3 m3 st3 s3 H3 R3 x3 V3 q3 => ?_) (fun a x g3 r3 m3 st3 s3 _ _ _ q3 => nomatch q3)
    · exact ⟨l.length + 1 - (i + 1), by omega, i + 1, c3, g3, r3, m3, st3, o2, rfl, lt, S3, ce3.out, h2, le.trans x3, q3⟩
    · exact pr v a c3 g3 r3 m3 st3 s3 H3.without R3 (le.trans x3) V3 q3
  · have e : i = l.length := by omega
    have hni : nth l i = none := by rw [nth_eq]; exact List.getElem?_eq_none (by omega)
    rw [hni] at hxi
    have hd : l.drop i = [] := List.drop_of_length_le (by omega)
    rw [hd] at q
    refine it.done i cells g real m st s' o S le hs hxi _ _ fun s1 S1 => wpAny_execs_nil ?_
    exact pn cells g real m st s1 S1 ce le q
end
end Mine
end
section
open PySem PySem.W PyProof.Rows PySem.Calls
namespace Mine
section
variable {P : Pk} {XR : XRel} {N H : Nat} {cs : Scope} {F : Fd} {cells oth : List (Addr × Obj)} {g g' : Gh} {real : List Blk} {m : Str → Option Value} {st st' : St} {s : Shared}
theorem loop_ref {g₀ : Gh} {I ax : Addr} {y fuel : Nat} {target : Expr} {b : BC} {c : SC} {body : List Stmt} (C : Cx P F) (hn : N ≤ F.n) (hcs : F.cs = cs) (hr : g₀.rho[y]? = some ax) (tg : TgtOk P F I (IsIt "list_iterator" ax) target b) (hb : SndS P XR N cs c body)
    {kn : KS} {kr : K1} {R : Result → Shared → Prop} (pn : PostN P F g₀ kn fun f s' => R (.ok f) s') (pr : PostR P F g₀ kr fun f s' => R (.ok f) s') {o : Obj} (S : SR P (F.with (I, o)) cells g₀ real m st s) (ce : CE F cells) (h0 : IsIt "list_iterator" ax 0 o)
    (q : overR (frStep b c kr) y fuel 0 st kn = true) : codeAny P.M F.A (.forLoop target (.ref I) body [] F.env) R s := by
  have it := itOk_ref (F := F) (I := I) C hr
  refine codeAny_forLoop_any (fun k s' => ∃ i cells g real m st o, SR P (F.with (I, o)) cells g real m st s' ∧ CE F cells ∧ IsIt "list_iterator" ax i o ∧ g₀.Le g ∧ overR (frStep b c kr) y k i st kn = true) ?_ fuel
    ⟨0, cells, g₀, real, m, st, o, S, ce, h0, Gh.Le.refl _, q⟩
  rintro k s' ⟨i, cells, g, real, m, st, o, S, ce, hs, le, q⟩
  cases k with
  | zero => cases q
  | succ k =>
    have q : asL (.ref y) st (fun _ l => @Option.rec AV (fun _ => Bool) (kn st) (fun a => frStep b c kr a st fun st => overR (frStep b c kr) y k (i + 1) st kn) (nth l i)) = true := q
    obtain ⟨y', l, e, hy, q2⟩ := asL_true q
    cases e
    cases z : nth l i with
    | none =>
      rw [z] at q2
      refine it.done i cells g real m st s' o S le hs ⟨l, hy, z.symm⟩ _ _ fun s1 S1 => wpAny_execs_nil ?_
      exact pn cells g real m st s1 S1 ce le q2
    | some a =>
      rw [z] at q2
      refine it.item i cells g real m st s' o a S le hs ⟨l, hy, z.symm⟩ _ _ fun v o1 s1 S1 h1 V => ?_
      refine tg i cells g real m st s1 o1 v _ S1 ce h1 V (fun st => c st (fun st => overR (frStep b c kr) y k (i + 1) st kn) kr no) q2 _ _ fun o2 c2 m2 st2 s2 S2 ce2 h2 q3 => ?_
      refine hb (F.with (I, o2)) hcs hn (C.with _) c2 g real m2 st2 s2 S2 ce2.with _ _ _ q3 _ _ (fun c3 g3 r3 m3 st3 s3 S3 ce3 x3 q4 => ?_) (fun v a c3 g3 r3 m3 st3 s3 H3 R3 x3 V3 q4 => ?_) (fun a x g3 r3 m3 st3 s3 _ _ _ q4 => nomatch q4)
      · exact ⟨k, Nat.lt_succ_self _, i + 1, c3, g3, r3, m3, st3, o2, S3, ce3.out, h2, le.trans x3, q4⟩
      · exact pr v a c3 g3 r3 m3 st3 s3 H3.without R3 (le.trans x3) V3 q4
theorem SR.pushed (S : SR P F cells g real m st s) (o : Obj) (hf : o.isFreed = false) : SR P (F.with (s.heap.objs.size, o)) cells g real m st { s with heap := s.heap.push o } :=
  S.with (t := s.toks) (S.hr.fr.push o) (News.push S.hr.fr S.hr.ns o hf) fun x hx => Nat.ne_of_lt (Heap.lt_size (S.hr.ns x hx).1)
theorem sndS_for {it : EC} {target iter : Expr} {b : BC} {c : SC} {body : List Stmt} {pos : Pos} (tg : ∀ F : Fd, F.cs = cs → Cx P F → ∀ cells, CE F cells → ∀ n ax I, (n = "list_iterator" ∨ n = "tuple_iterator") → TgtOk P F I (IsIt n ax) target b) (hs : ∀ env x, foldedSetIterable iter env x = pure x)
    (hi : SndE P XR N cs it iter) (hb : SndS P XR N cs c body) : SndS1 P XR N cs (sFor b iSeq it c) (.For target iter body [] pos) :=
  fun F hcs hn C cells g real m st s S ce kn kr kx q Q E pn pr px => by
    refine wpAny_For (hi F hcs hn C cells g real m st s S (fun a st => res a st fun a st => iSeq a st (frStep b c kr) kn) kx q _ E (fun v a g1 r1 st1 s1 S1 x1 e1 V q1 => ?_) px) (hs _)
    obtain ⟨a', st2, R2, Sm2, V2, q2⟩ := res_sound S1.ar V q1
    have S2 := S1.sm R2 Sm2
    have pn2 := pn.le x1
    have pr2 := pr.le x1
    cases a' <;> try (cases q2; done)
    · rename_i l
      cases V2 with
      | tup T AL =>
        rename_i t vs
        refine iter_tuple (T.isTup S2.hr C.kin) ?_
        exact loop_const (N := N) (cs := cs) (XR := XR) (x := fun i _ _ y => y = nth l i) C hn hcs (itOk_tup C T AL) (fun _ _ _ => rfl) (tg F hcs C cells ce "tuple_iterator" t _ (.inr rfl)) hb pn2 pr2 (Q := Q) (E' := E) (S2.pushed _ rfl) ce ⟨rfl, rfl⟩ q2
    · rename_i l
      cases V2 with
      | lis T AL =>
        rename_i t vs n
        refine wpAny_pyIter_list (News.isList S2.hr.ns (cst_mem T)) ?_
        exact loop_const (N := N) (cs := cs) (XR := XR) (x := fun i _ _ y => y = nth l i) C hn hcs (itOk_list C (.inr ⟨n, T⟩) AL) (fun _ _ _ => rfl) (tg F hcs C cells ce "list_iterator" t _ (.inl rfl)) hb pn2 pr2 (Q := Q) (E' := E) (S2.pushed _ rfl) ce ⟨rfl, rfl⟩ q2
    · rename_i y
      have q2' := q2
      have q2 : overR (frStep b c kr) y 40 0 st2 kn = true := q2
      have q3 : asL (.ref y) st2 (fun _ l => @Option.rec AV (fun _ => Bool) (kn st2) (fun a => frStep b c kr a st2 fun st => overR (frStep b c kr) y 39 (0 + 1) st kn) (nth l 0)) = true := q2
      obtain ⟨y', l, e, hy, _⟩ := asL_true q3
      cases e
      obtain ⟨d, vs, n, rfl, hb1, A, Il⟩ := S2.list V2 hy
      refine wpAny_pyIter_list Il ?_
      have hr : g1.rho[y]? = some d := by cases V2 with | ref h => exact h
      exact loop_ref (N := N) (cs := cs) (XR := XR) C hn hcs hr (tg F hcs C cells ce "list_iterator" d _ (.inl rfl)) hb pn2 pr2 (S2.pushed _ rfl) ce ⟨rfl, rfl⟩ q2
theorem sndS_whl {t : EC} {c : SC} {test : Expr} {body : List Stmt} {pos : Pos} {n : Nat} (ht : SndT P XR N cs t test) (hb : SndS P XR N cs c body) : SndS1 P XR N cs (sWhl n t c) (.While test body [] pos) :=
  fun F hcs hn C cells g real m st s S ce kn kr kx q Q E pn pr px => by
    refine wpAny_While (codeAny_whileLoop (fun k s' => ∃ cells g1 real m st, SR P F cells g1 real m st s' ∧ CE F cells ∧ g.Le g1 ∧ ∃ kx', sWhl k t c st kn kr kx' = true) ?_ n ⟨cells, g, real, m, st, S, ce, Gh.Le.refl _, kx, q⟩)
    rintro k s' ⟨cells, g1, real, m, st, S, ce, le, kx', q⟩
    cases k with
    | zero => cases q
    | succ k =>
      have q : eT t st (fun b st => @Bool.rec (fun _ => Bool) (kn st) (c st (fun st => sWhl k t c st kn kr no) kr no) b) no = true := q
      refine ht F hcs hn C cells g1 real m st s' S _ _ q _ _ (fun b g2 r2 st2 s2 S2 x2 e2 q2 => ?_) (fun a x g3 r3 m3 st3 s3 _ _ _ q4 => nomatch q4)
      cases b with
      | false => exact wpAny_execs_nil (pn cells g2 r2 m st2 s2 S2 ce (le.trans x2) q2)
      | true =>
        refine hb F hcs hn C cells g2 r2 m st2 s2 S2 ce _ _ _ q2 _ _ (fun c3 g3 r3 m3 st3 s3 S3 ce3 x3 q3 => ?_) (fun v a c3 g3 r3 m3 st3 s3 H3 R3 x3 V3 q3 => ?_) (fun a x g3 r3 m3 st3 s3 _ _ _ q4 => nomatch q4)
        · exact ⟨k, Nat.lt_succ_self _, c3, g3, r3, m3, st3, S3, ce3, (le.trans x2).trans x3, no, q3⟩
        · exact pr v a c3 g3 r3 m3 st3 s3 H3 R3 ((le.trans x2).trans x3) V3 q3
end
end Mine
end
section
open PySem PySem.W PyProof.Rows PySem.Calls
namespace Mine
section
variable {P : Pk} {XR : XRel} {N H : Nat} {cs : Scope} {F : Fd} {cells oth : List (Addr × Obj)} {g g' : Gh} {real : List Blk} {m : Str → Option Value} {st st' : St} {s : Shared}
noncomputable def IsRg (n i : Nat) (o : Obj) : Prop := o = { cls := .type "range_iterator", dict := none, data := .fields #[rawInt (0 + (i : Nat) * 1), rawInt ((n : Int) - (i : Nat)), rawInt 1], slots := #[] } ∧ i ≤ n
theorem nth_rng : ∀ (m n i : Nat), nth (rngL n m) i = if i < m then some (.int (.ofNat (n + i))) else none
  | 0, n, i => by rw [if_neg (Nat.not_lt_zero _)]; rfl
  | m + 1, n, 0 => by rw [if_pos (Nat.succ_pos _)]; rfl
  | m + 1, n, i + 1 => by
    show nth (rngL (n + 1) m) i = _
    rw [nth_rng m (n + 1) i]
    by_cases h : i < m
    · rw [if_pos h, if_pos (by omega), show n + 1 + i = n + (i + 1) by omega]
    · rw [if_neg h, if_neg (by omega)]
theorem itOk_rng {g₀ : Gh} {I : Addr} {n : Nat} (C : Cx P F) : ItOk P F g₀ I (IsRg n) (fun i _ _ y => y = nth (rngL 0 n) i) := by
  refine ⟨fun i cells g real m st s o a S le it hx Q E h => ?_, fun i cells g real m st s o S le it hx Q E h => ?_⟩
  · have hx : some a = nth (rngL 0 n) i := hx
    rw [nth_rng] at hx
    by_cases lt : i < n
    · rw [if_pos lt] at hx; cases hx
      obtain ⟨rfl, _⟩ := it
      refine wpAny_pyNext_range_item (S.at_) (by omega) fun h' hit hs => ?_
      have e1 : (0 + (i : Int) * 1 + 1) = 0 + ((i + 1 : Nat) : Int) * 1 := by push_cast; omega
      have e2 : ((n : Int) - (i : Int) - 1) = (n : Int) - ((i + 1 : Nat) : Int) := by push_cast; omega
      rw [e1, e2] at hit
      refine h _ _ _ (S.but_with (t := s.toks + 1) (fun b ob ne e => hs.extBut b ob ne e) hit) ⟨rfl, lt⟩ ?_
      rw [show (0 + (i : Int) * 1) = Int.ofNat (0 + i) by rw [Int.ofNat_eq_natCast]; push_cast; omega]
      exact .int _ _
    · rw [if_neg lt] at hx; cases hx
  · have hx : none = nth (rngL 0 n) i := hx
    rw [nth_rng] at hx
    by_cases lt : i < n
    · rw [if_pos lt] at hx; cases hx
    · obtain ⟨rfl, _⟩ := it
      exact wpAny_pyNext_range_end C.hd (S.at_) (by omega) fun h' he => h _ (S.but (t := s.toks) fun b ob ne e => he b ob ne e)
theorem sndS_for_rng {it : EC} {target e : Expr} {b : BC} {c : SC} {body : List Stmt} {np cp pos : Pos} (tg : ∀ F : Fd, F.cs = cs → Cx P F → ∀ cells, CE F cells → ∀ n I, TgtOk P F I (IsRg n) target b) (hs : ∀ env x, foldedSetIterable (.Call (.Name "range" np) [e] [] cp) env x = pure x)
    (hns : nsIn P.K mainGlobals "range" = some none) (hv : bootBuiltins "range" = some (.type "range")) (hx : cs.names.lookup ("range" : Str) = some .globalImplicit) (hst : notStar e = true)
    (hi : SndE P XR N cs it e) (hb : SndS P XR N cs c body) : SndS1 P XR N cs (sFor b iRng it c) (.For target (.Call (.Name "range" np) [e] [] cp) body [] pos) :=
  fun F hcs hn C cells g real m st s S ce kn kr kx q Q E pn pr px => by
    refine wpAny_For (Call_name1 (by rw [star_cons hst]; rfl) (nameX_B S.hr.fr C.kin (topRead_of C.top) hns hv (by decide) ?_ C.kind (by rw [← hcs] at hx; exact hx) (by decide))) (hs _)
    refine PySem.callWith_type1 (hi F hcs hn C cells g real m st s S (fun a st => res a st fun a st => iRng a st (frStep b c kr) kn) kx q _ E (fun v a g1 r1 st1 s1 S1 x1 e1 V q1 => ?_) px)
    obtain ⟨a', st2, R2, Sm2, V2, q2⟩ := res_sound S1.ar V q1
    have S2 := S1.sm R2 Sm2
    obtain ⟨n, rfl, hn1, q3⟩ := natOf_true q2
    obtain ⟨t, rfl⟩ := V2.int_inv
    refine call_range_1 ?_
    refine wpAny_pyIter_range (IsRange.new ..) (small_one (by decide) (by decide) (by show -(2 ^ 62) ≤ (n : Int); omega) (by show (n : Int) < 2 ^ 62; omega)) ?_
    have hsz : Builtin.Range.rangeSize 0 (Int.ofNat n) 1 = (n : Int) := by rw [rangeSize_one]; split <;> (rw [Int.ofNat_eq_natCast] at *; omega)
    rw [hsz]
    have S3 : SR P F cells g1 r1 m st2 { s1 with heap := s1.heap.push _, toks := s1.toks + 1 + 1 } := ⟨S2.hr.push { cls := .type "range", data := .fields #[.int 0 s1.toks, .int (Int.ofNat n) t, .int 1 (s1.toks + 1)] } (s1.toks + 1 + 1), S2.ar, S2.lr⟩
    exact loop_const (N := N) (cs := cs) (XR := XR) (x := fun i _ _ y => y = nth (rngL 0 n) i) C hn hcs (itOk_rng C) (fun _ _ _ => rfl) (tg F hcs C cells ce n _) hb (pn.le x1) (pr.le x1) (Q := Q) (E' := E) (S3.pushed _ rfl) ce ⟨by simp, Nat.zero_le _⟩ q3
noncomputable def IsKi (d : Addr) (n ep i : Nat) (o : Obj) : Prop := o.cls = .type "dict_keyiterator" ∧ o.data = .fields #[.ref d, .int i 0, .int n 0, .int ep 0]
theorem keys_get {V : Value → AV → Prop} {kvs : List (Str × Value)} {d : List (Nat × AV)} (h : KeyRel V kvs d) : ∀ i, (nth (keysL d) i = none ∧ kvs[i]? = none) ∨ ∃ c v, c < tabN ∧ nth (keysL d) i = some (.str c) ∧ kvs[i]? = some (nm c, v) := by
  induction h with
  | nil => intro i; cases i <;> exact .inl ⟨rfl, rfl⟩
  | cons hc _ _ ih =>
    intro i
    cases i with
    | zero => exact .inr ⟨_, _, hc, rfl, rfl⟩
    | succ i => exact ih i
theorem isStr_shape {x : Str} {v : Value} (h : (strKind P.prog P.w).is x v = true) : ∃ t, v = .str x t := Value.isStrOf_shape h
theorem itOk_keys {g₀ : Gh} {I d : Addr} {o : Obj} {kvs : List (Str × Value)} {l : List (Nat × AV)} {ep : Nat} (C : Cx P F) (hm : (d, o) ∈ g₀.cst) (hd : ∀ h : Heap, h.get? d = some o → h.DictAt (strKind P.prog P.w) d kvs ep) (KR : KeyRel (P.VR g₀) kvs l) :
    ItOk P F g₀ I (IsKi d kvs.length ep) (fun i _ _ y => y = nth (keysL l) i) := by
  refine ⟨fun i cells g real m st s o' a S le it hx Q E h => ?_, fun i cells g real m st s o' S le it hx Q E h => ?_⟩
  · have hx : some a = nth (keysL l) i := hx
    rcases keys_get KR i with ⟨h1, _⟩ | ⟨c, v, hc, h1, h2⟩
    · rw [h1] at hx; cases hx
    · rw [h1] at hx; cases hx
      refine wpAny_pyNext_dict_item (knd := strKind P.prog P.w) ⟨o', S.at_, it.1, it.2⟩ (hd _ (S.hr.ns _ (cst_mem (le.cst _ hm))).1) h2 fun key h' hkey hit hs => ?_
      obtain ⟨t, rfl⟩ := isStr_shape hkey
      obtain ⟨o2, ho2, hc2, hd2⟩ := hit
      exact h _ o2 _ (S.but_with (t := s.toks) (fun b ob ne e => hs.extBut b ob ne e) ho2) ⟨hc2, hd2⟩ (.str _ _ hc)
  · have hx : none = nth (keysL l) i := hx
    rcases keys_get KR i with ⟨h1, h2⟩ | ⟨c, v, hc, h1, h2⟩
    · exact wpAny_pyNext_dict_end (knd := strKind P.prog P.w) C.hd ⟨o', S.at_, it.1, it.2⟩ (hd _ (S.hr.ns _ (cst_mem (le.cst _ hm))).1) h2 fun h' he => h _ (S.but (t := s.toks) fun b ob ne e => he b ob ne e)
    · rw [h1] at hx; cases hx
theorem dict_at {o : Obj} {kvs : List (Str × Value)} {d : Addr} (h : o.IsDictOf (strKind P.prog P.w) kvs) : ∃ ep, ∀ hp : Heap, hp.get? d = some o → hp.DictAt (strKind P.prog P.w) d kvs ep := by
  obtain ⟨es, ep, h1, h2, h3, h4, h5⟩ := h
  exact ⟨ep, fun hp e => ⟨o, es, e, h1, h2, h3, h4, h5⟩⟩
theorem sndS_for_keys {it : EC} {target iter : Expr} {b : BC} {c : SC} {body : List Stmt} {pos : Pos} (tg : ∀ F : Fd, F.cs = cs → Cx P F → ∀ cells, CE F cells → ∀ d n ep I, TgtOk P F I (IsKi d n ep) target b) (hs : ∀ env x, foldedSetIterable iter env x = pure x)
    (hi : SndE P XR N cs it iter) (hb : SndS P XR N cs c body) : SndS1 P XR N cs (sFor b iKeys it c) (.For target iter body [] pos) :=
  fun F hcs hn C cells g real m st s S ce kn kr kx q Q E pn pr px => by
    refine wpAny_For (hi F hcs hn C cells g real m st s S (fun a st => res a st fun a st => iKeys a st (frStep b c kr) kn) kx q _ E (fun v a g1 r1 st1 s1 S1 x1 e1 V q1 => ?_) px) (hs _)
    obtain ⟨a', st2, R2, Sm2, V2, q2⟩ := res_sound S1.ar V q1
    have S2 := S1.sm R2 Sm2
    cases a' <;> try (cases q2; done)
    · rename_i l
      cases V2 with
      | dct ho hd lo KR =>
        rename_i d o kvs
        obtain ⟨ep, hat⟩ := dict_at (d := d) hd
        refine wpAny_pyIter_dict lo (hat _ (S2.hr.ns _ (cst_mem ho)).1) ?_
        exact loop_const (N := N) (cs := cs) (XR := XR) (x := fun i _ _ y => y = nth (keysL l) i) C hn hcs (itOk_keys C ho hat KR) (fun _ _ _ => rfl) (tg F hcs C cells ce d _ ep _) hb (pn.le x1) (pr.le x1) (Q := Q) (E' := E) (S2.pushed _ rfl) ce ⟨rfl, rfl⟩ q2
    · rename_i y
      have q2 : @Option.rec AO (fun _ => Bool) false (fun o => @AO.rec (fun _ => Bool) (fun _ => false) (fun d => @List.rec (Nat × AV) (fun _ => Bool) (kn st2) (fun _ _ _ => false) d) (fun _ _ => false) o) (st2.H.get y) = true := q2
      cases z : st2.H.get y with
      | none => rw [z] at q2; cases q2
      | some ob =>
        rw [z] at q2
        cases ob <;> try (cases q2; done)
        rename_i dd
        cases dd with
        | cons _ _ => cases q2
        | nil =>
          cases V2 with
          | ref ha =>
            obtain ⟨bb, hb1, B⟩ := S2.ar.ob y _ z
            cases B with
            | dic hd lo KR =>
              rename_i w1 w2 ob kvs
              have e : w1 = w2 := S2.ar.addr ha hb1
              subst e
              cases KR
              obtain ⟨ep, hat⟩ := dict_at (d := w1) hd
              refine wpAny_pyIter_dict lo (hat _ (S2.hr.ns _ (real_mem hb1 (.head _))).1) ?_
              refine codeAny_forLoop_any (fun k s' => SR P (F.with (s1.heap.objs.size, _)) cells g1 r1 m st2 s') ?_ 0 (S2.pushed { cls := .type "dict_keyiterator", data := .fields #[.ref w1, .int 0 0, .int ([] : List (Str × Value)).length 0, .int ep 0] } rfl)
              intro k s' S'
              refine wpAny_pyNext_dict_end (knd := strKind P.prog P.w) (i := 0) (kvs := []) C.hd ⟨_, S'.at_, rfl, rfl⟩ (hat _ (S'.hr.ns _ (real_mem hb1 (.head _))).1) rfl fun h' he => wpAny_execs_nil ?_
              exact pn cells g1 r1 m st2 _ (S'.but (t := s'.toks) fun b ob ne e => he b ob ne e) ce x1 q2
end
end Mine
end
section
open PySem PySem.W PyProof.Rows PySem.Calls
namespace Mine
theorem adjust_upto (n : Nat) (h : 1 ≤ n) : Builtin.Slice.sliceAdjust none (some (-1 : Int)) 1 (n : Int) = (0, (n : Int) - 1) := by
  unfold Builtin.Slice.sliceAdjust
  have h1 : ¬ ((1 : Int) < 0) := by omega
  have h2 : ((-1 : Int) < 0) := by omega
  simp only [h1, h2, if_false, if_true]
  congr 1
  omega
theorem places_upto (n : Nat) (h : 1 ≤ n) : Builtin.Slice.slicePlaces 0 ((n : Int) - 1) 1 = n - 1 := by
  unfold Builtin.Slice.slicePlaces
  have h1 : (1 : Int) > 0 := by omega
  simp only [h1, if_true, Int.ediv_one]
  split <;> omega
section
variable {prog : Program} {w : World} {A : Around} {E : Value → Shared → Prop} {s : Shared}
theorem sliceApplied_upto {sl : Addr} {n : Nat} {u : Tok} {Q : Int × Int × Nat → Shared → Prop} (hs : s.heap.IsSliceOf sl .none (.int (-1) u) .none) (hn : 1 ≤ n) (h : Q (0, 1, n - 1) s) :
    wpAny (model prog w) A (Builtin.Slice.sliceApplied (.ref sl) (pure (n : Int))) Q E s := by
  obtain ⟨os, hos, hcs, hds⟩ := id hs
  unfold Builtin.Slice.sliceApplied Builtin.Slice.sliceFields
  refine wpAny_bind (wpAny_bind (wpAny_field hos hds (x := .none) rfl (wpAny_bind (wpAny_field hos hds (x := .int (-1) u) rfl (wpAny_bind (wpAny_field hos hds (x := .none) rfl (wpAny_pure ?_)))))))
  refine wpAny_bind (slicePart_none ?_)
  show wpAny _ _ (if ((1 : Int) == 0) = true then _ else _) _ _ s
  rw [if_neg (by decide)]
  refine wpAny_bind (slicePart_none (wpAny_bind (slicePart_int (wpAny_bind (wpAny_pure ?_)))))
  show wpAny _ _ (match Builtin.Slice.sliceAdjust none (some (-1 : Int)) 1 (n : Int) with | (lo, hi) => pure (lo, (1 : Int), Builtin.Slice.slicePlaces lo hi 1)) _ _ s
  rw [adjust_upto n hn]
  show wpAny _ _ (pure ((0 : Int), (1 : Int), Builtin.Slice.slicePlaces 0 ((n : Int) - 1) 1)) _ _ s
  rw [places_upto n hn]
  exact wpAny_pure h
theorem pick_upto (xs : Array Value) : ((List.range (xs.size - 1)).filterMap fun (k : Nat) => xs[((0 : Int) + (k : Int) * 1).toNat]?).toArray = xs.toList.dropLast.toArray := by
  have e : (fun (k : Nat) => xs[((0 : Int) + (k : Int) * 1).toNat]?) = fun k => xs[0 + k]? := by
    funext k
    have : ((0 : Int) + (k : Int) * 1).toNat = 0 + k := by omega
    rw [this]
  rw [e]
  have := pick_run xs 0 (xs.size - 1)
  rw [List.filterMap_map] at this
  have e2 : ((fun x => xs[x]?) ∘ fun x => 0 + x) = fun k => xs[0 + k]? := rfl
  rw [e2] at this
  rw [this, List.drop_zero, List.dropLast_eq_take, Array.length_toList]
theorem getItem_tuple_upto {t sl : Addr} {items : Array Value} {u : Tok} {Q : Value → Shared → Prop} (ht : IsTup s.heap t items) (hs : s.heap.IsSliceOf sl .none (.int (-1) u) .none) (ha : 1 ≤ items.size)
    (h : Q (.ref s.heap.objs.size) { s with heap := s.heap.push { cls := .type "tuple", data := .seq items.toList.dropLast.toArray } })
    (hsz : items.size ≤ sizeLine) : wpAny (model prog w) A (getItem (.ref t) (.ref sl)) Q E s := by
  have hdrop : sizeOk (.seq items.toList.dropLast.toArray) := by
    show items.toList.dropLast.toArray.size ≤ sizeLine
    rw [List.size_toArray, List.length_dropLast, Array.length_toList]
    omega
  obtain ⟨os, hos, hcs, hds⟩ := id hs
  have hTs : s.TypeIs (.ref sl) "slice" := ⟨os, hos, hcs⟩
  unfold getItem
  try with_reducible refine wpAny_holding ?_
  first | refine wpAny_bind (wpAny_pure ?_) | skip
  refine wpAny_bind (wpAny_sequenceKey ht.typeIs (by decide) ?_)
  refine wpAny_bind (wpAny_callSpecial?_slot (name := Str.ofString "__getitem__") ht.typeIs slot_tuple_getitem
    (wpAny_call_entry slot_tuple_getitem ht.typeIs entry_tuple_getitem ?_ (args_tuple_getitem _ _)))
  show wpAny _ _ (Builtin.Tuple.tupleItemsOf (.ref t) >>= _) _ _ s
  refine wpAny_bind (tupleItemsOf_ ht ?_)
  refine wpAny_bind (wpAny_typeOf hTs ?_)
  rw [if_pos (by decide)]
  refine wpAny_bind (sliceApplied_upto hs ha ?_)
  have hno : ¬ (((0 : Int) == 0 && (1 : Int) == 1 && (items.size - 1) == items.size) = true) := by
    have : ((items.size - 1) == items.size) = false := by rw [beq_eq_false_iff_ne]; omega
    rw [this]; simp
  show wpAny _ _ (if ((0 : Int) == 0 && (1 : Int) == 1 && (items.size - 1) == items.size) = true then _ else _) _ _ s
  rw [if_neg hno, pick_upto items]
  first
    | exact wpAny_bind (m := Builtin.Tuple.tupleExact _) (wpAny_newObj_type (wpAny_pure ⟨_, rfl, wpAny_pure h⟩) hdrop)
    | exact wpAny_bind (m := Builtin.Tuple.tupleExact _) (wpAny_newObj_type (wpAny_bind (wpAny_pure (wpAny_pure ⟨_, rfl, wpAny_pure h⟩))) hdrop)
    | exact wpAny_bind (wpAny_bind (m := Builtin.Tuple.tupleExact _) (wpAny_newObj_type (wpAny_pure (wpAny_pure ⟨_, rfl, wpAny_pure h⟩)) hdrop))
    | exact wpAny_bind (wpAny_bind (m := Builtin.Tuple.tupleExact _) (wpAny_newObj_type (wpAny_pure ⟨_, rfl, wpAny_pure h⟩) hdrop))
end
section
variable {prog : Program} {w : World} {K : Frag} {cA : Nat → Addr} {p : Program} {loose : List Str} {mean : ExcName → Option Value} {mg mb : Str → Option Value}
variable {cs : Scope}
theorem AllRel.dropLast {V : Value → AV → Prop} {vs : List Value} {l : List AV} (h : AllRel V vs l) : AllRel V vs.dropLast l.dropLast := by
  have e := h.length
  rw [List.dropLast_eq_take, List.dropLast_eq_take, e]
  exact h.take _
theorem sndP_upto {c : PC} {e : Expr} {k : Nat} {p1' p2' p3' pos : Pos} (hc : SndP prog w K cA p loose mean mg mb cs c e) :
    SndP prog w K cA p loose mean mg mb cs (Mine.p1 c slB1) (.Subscript e (.Slice none (some (.UnaryOp .USub (.Constant (.int 1) k p1') p3')) none p2') pos) :=
  fun A env L h₀ n C rst oth cells g real m st s H R LL r q Q E h => by
    obtain ⟨a1, h1, q⟩ := opt_bind_some q
    refine Subscript_ ?_
    refine hc A env L h₀ n C rst oth cells g real m st s H R LL a1 h1 _ _ fun v g1 s1 H1 x1 r1 t1 V1 => ?_
    obtain ⟨b, rb, V2, nb, q2, up⟩ := lift_sound (R.grow x1 r1 t1) (fun a _ => slB1 a) 3 V1 q
    cases b <;> try (cases q2; done)
    rename_i l
    cases l with
    | nil => cases q2
    | cons a0 l =>
      have q2 : @Bool.rec (fun _ => Option AV) none (some (.tup (dropL (a0 :: l)))) (Nat.ble (lenL (a0 :: l)) 1000) = some rb := q2
      rcases bool_rec_some q2 with ⟨hl, q3⟩ | ⟨_, q3⟩
      · cases q3
        rw [lenL_eq] at hl
        have hl := Nat.le_of_ble_eq_true hl
        cases V2 with
        | tup T AL =>
          rename_i t vs
          have el := AL.length
          refine wpAny_Slice (evalPart_none_step (evalPart_some_step (UnaryOp_ (wpAny_Constant_int (neg_int (evalPart_none_step ?_))))))
          have H2 := H1.push { cls := .type "slice", data := .fields #[.none, .int (-1) (s1.toks + 1), .none] } (s1.toks + 1 + 1)
          have T2 := T.isTup H2 C.kin
          refine kba_turn (value' := PySem.Expr.Name (PySem.Str.ofString "_") ⟨0, 0, 0, 0⟩) (fun _ => rfl) ?_
          refine subscriptTail_ops (ops := [.ref s1.heap.objs.size, .ref t]) T2.typeIs slot_tuple_getitem.lookup (getItem_tuple_upto T2 (Heap.IsSliceOf.new ..) (by rw [List.size_toArray, el]; exact Nat.succ_pos _) ?_ (by rw [sizeLine_eq, List.size_toArray]; omega)) (by with_unfolding_all rfl) (fun _ => rfl)
          have lt : ∀ q ∈ led oth cells g1 real, q.1 < (s1.heap.push { cls := .type "slice", data := .fields #[.none, .int (-1) (s1.toks + 1), .none] }).objs.size := fun q hq => Heap.lt_size (H2.ns q hq).1
          rw [dropL_eq] at up
          refine h _ (g1.add [(_, tupO vs.dropLast)]) _ (H2.addCst (t := s1.toks + 1 + 1) (H2.fr.push _) (News.push H2.fr H2.ns _) lt) (x1.trans (Gh.le_add _ _)) r1 t1 (up _ (Gh.le_add _ _) _ (.tup (.inl (List.mem_append_right _ (.head _))) (AllV.mono (Gh.le_add _ _) AL.dropLast)))
      · cases q3
end
end Mine
end
section
open PySem PySem.W PyProof.Rows PySem.Calls
namespace Mine
section
open AutoSeq1 (wpAny_loadPart')
theorem meets_enumerate_newT (l : Addr) (items : Array Value) (n : Nat) (dct : Option Addr) (sl : Array (Option Value)) :
    Meets (Builtin.«enumerate.__new__» ⟨[.type "enumerate", .ref l], []⟩) (fun _ R s => s.heap.get? l = some { cls := .type "tuple", dict := dct, data := .seq items n, slots := sl } ∧
      R (.ok (.ret (.ref (s.heap.push { cls := .type "tuple_iterator", data := .fields #[.ref l, .int 0 0] }).objs.size)))
        { s with heap := (s.heap.push { cls := .type "tuple_iterator", data := .fields #[.ref l, .int 0 0] }).push { cls := .type "enumerate", data := .fields #[.none, .bool false, .ref s.heap.objs.size, rawInt 0, .none, .none] } }) :=
  .of_wp fun prog w A R s h => by
    obtain ⟨hp, g, d, tk, os⟩ := s; obtain ⟨hl, h⟩ := h
    have hsub := sub_enumerate
    have hL : IsTup (Shared.heap ⟨hp, g, d, tk, os⟩) l items := ⟨_, hl, rfl, n, rfl⟩
    wp_walk using wpAny_loadPart' hl
    refine wpAny_stack_any fun st => wpAny_pure ?_
    split
    · rename_i c _ _ _ _ _
      cases (c == Value.type "enumerate")
      · wp_walk using wpAny_loadPart' hl, iter_tuple hL
        exact ⟨_, rfl, h⟩
      · wp_walk using wpAny_loadPart' hl, iter_tuple hL
        exact ⟨_, rfl, h⟩
    · wp_walk using wpAny_loadPart' hl, iter_tuple hL
      exact ⟨_, rfl, h⟩
end
section
variable {prog : Program} {w : World} {A : Around} {E : Value → Shared → Prop} {s : Shared}
theorem call_enumerate_tup {l : Addr} {items : Array Value} {Q : Value → Shared → Prop} (hL : IsTup s.heap l items)
    (h : Q (.ref (s.heap.objs.size + 1)) { s with heap := (s.heap.push { cls := .type "tuple_iterator", data := .fields #[.ref l, .int 0 0] }).push { cls := .type "enumerate", data := .fields #[.none, .bool false, .ref s.heap.objs.size, rawInt 0, .none, .none] } }) :
    wpAny (model prog w) A (call (.type "enumerate") [.ref l]) Q E s := by
  obtain ⟨⟨c, dct, dt, sl⟩, hl, hc, n, hd⟩ := hL
  replace hc : c = .type "tuple" := hc
  replace hd : dt = .seq items n := hd
  subst hc hd
  refine callType_new F.called_enumerate (by decide) (F.typeCall_enumerate_1 _) (F.newCall_enumerate_1 _) (fun obj => F.args_object_init_2 obj _) F.entry_enumerate_new
    (meets_enumerate_newT l items n dct sl) ⟨hl, ?_⟩
  have hz : (s.heap.push { cls := .type "tuple_iterator", data := .fields #[.ref l, .int 0 0] }).objs.size = s.heap.objs.size + 1 := Heap.size_push ..
  show _ ∧ _
  rw [hz]
  have he : IsEnum ((s.heap.push { cls := .type "tuple_iterator", data := .fields #[.ref l, .int 0 0] }).push
      { cls := .type "enumerate", data := .fields #[.none, .bool false, .ref s.heap.objs.size, rawInt 0, .none, .none] }) (s.heap.objs.size + 1) s.heap.objs.size 0 .none := by
    have := Heap.get?_push_size (s.heap.push { cls := .type "tuple_iterator", data := .fields #[.ref l, .int 0 0] })
      (o := { cls := .type "enumerate", data := .fields #[.none, .bool false, .ref s.heap.objs.size, rawInt 0, .none, .none] }) rfl
    rw [hz] at this; exact this
  exact ⟨⟨_, he, rfl⟩, h⟩
theorem nextOf_tuple_item {it l : Addr} {i : Nat} {items} {x : Value} {Q : Value → Shared → Prop} (hit : IsTupIter s.heap it l i)
    (hl : IsTup s.heap l items) (hx : items[i]? = some x)
    (hQ : ∀ h', IsTupIter h' it l (i + 1) → Heap.SameBut it s.heap h' → Q x { s with heap := h' }) :
    wpAny (model prog w) A (Builtin.SmallTypes.nextOf (.ref it)) Q E s := by
  obtain ⟨o, ho, hc, hd⟩ := id hit
  obtain ⟨ol, hol, _, nl, hdl⟩ := hl
  unfold Builtin.SmallTypes.nextOf
  refine wpAny_bind (wpAny_callSpecial?_slot (name := Str.ofString "__next__") hit.typeIs slot_tupleiter_next
    (wpAny_call_entry slot_tupleiter_next hit.typeIs entry_tupleiter_next ?_ (args_tupleiter_next _)))
  show wpAny _ _ (field (.ref it) 0 >>= _) _ _ s
  refine wpAny_bind (wpAny_field ho hd (x := .ref l) rfl ?_)
  show wpAny _ _ (if (Value.ref l == Value.none) = true then _ else _) _ _ s
  rw [if_neg (show ¬ ((Value.ref l == Value.none) = true) from Bool.false_ne_true)]
  show wpAny _ _ (field (.ref it) 1 >>= _) _ _ s
  refine wpAny_bind (wpAny_field ho hd (x := .int i 0) rfl ?_)
  show wpAny _ _ (seqItems? (.ref l) >>= _) _ _ s
  refine wpAny_bind (wpAny_seqItems hol hdl ?_)
  simp only [Int.toNat_natCast, hx]
  refine wpAny_bind (wpAny_setField ho hd (by simp) (wpAny_pure ⟨x, rfl, wpAny_pure (hQ _ ?_ (Heap.SameBut.update ..))⟩))
  exact ⟨_, Heap.get?_update_self _ ho (Obj.isFreed_of_fields (Obj.data_mapFields hd _)), (Obj.cls_mapFields ..).trans hc, by
    rw [Obj.data_mapFields hd]; simp [rawInt]⟩
theorem nextOf_tuple_end {it l : Addr} {i : Nat} {items} {Q : Value → Shared → Prop} (hh : A.handled = none)
    (hit : IsTupIter s.heap it l i) (hl : IsTup s.heap l items) (hx : items[i]? = none)
    (hE : ∀ h' e, Heap.ExtBut it s.heap h' → (∃ o, h'.get? e = some o ∧ o.cls = .type "StopIteration") → E (.ref e) { s with heap := h' }) :
    wpAny (model prog w) A (Builtin.SmallTypes.nextOf (.ref it)) Q E s := by
  obtain ⟨o, ho, hc, hd⟩ := id hit
  obtain ⟨ol, hol, _, nl, hdl⟩ := hl
  unfold Builtin.SmallTypes.nextOf
  refine wpAny_bind (wpAny_callSpecial?_slot (name := Str.ofString "__next__") hit.typeIs slot_tupleiter_next
    (wpAny_call_entry slot_tupleiter_next hit.typeIs entry_tupleiter_next ?_ (args_tupleiter_next _)))
  show wpAny _ _ (field (.ref it) 0 >>= _) _ _ s
  refine wpAny_bind (wpAny_field ho hd (x := .ref l) rfl ?_)
  show wpAny _ _ (if (Value.ref l == Value.none) = true then _ else _) _ _ s
  rw [if_neg (show ¬ ((Value.ref l == Value.none) = true) from Bool.false_ne_true)]
  show wpAny _ _ (field (.ref it) 1 >>= _) _ _ s
  refine wpAny_bind (wpAny_field ho hd (x := .int i 0) rfl ?_)
  show wpAny _ _ (seqItems? (.ref l) >>= _) _ _ s
  refine wpAny_bind (wpAny_seqItems hol hdl ?_)
  simp only [Int.toNat_natCast, hx]
  refine wpAny_bind (wpAny_rule (wpAny_bind (wpAny_setField ho hd (by simp) ?_)))
  show wpAny _ _ (newExc (.type "StopIteration") [] >>= _) _ _ _
  refine wpAny_bind ?_
  simp only [newExc, newTuple]
  refine wpAny_bind (wpAny_newObj_type ?_ (by size_fits))
  refine wpAny_bind (m := firstArgMember _ _) (wpAny_of_eq (a := Value.none) (by first | rfl | (simp only [firstArgMember]; rfl)) ?_)
  refine wpAny_newObj_type ?_ (by size_fits)
  simp only [raiseNew]
  refine wpAny_bind (wpAny_handled ?_)
  first | rw [show A.in1.handled = none from hh] | rw [hh]
  refine wpAny_bind (wpAny_pure (wpAny_throw ?_))
  exact hE _ _ (((Heap.SameBut.update ..).extBut.push _).push _) ⟨_, Heap.get?_push_size _ rfl, rfl⟩
theorem drawsTuple (hh : A.handled = none) (it l : Addr) (hne : l ≠ it) (items : Array Value) :
    Draws prog w A it [it, l] items.size (fun i v => items[i]? = some v) (fun i h => IsTupIter h it l i ∧ IsTup h l items) where
  live := fun _ _ st => let ⟨o, ho, _⟩ := st.1; ⟨o, ho⟩
  frame := fun _ _ _ st hk => let ⟨o, ho, r⟩ := st.1; let ⟨o2, ho2, r2⟩ := st.2; ⟨⟨o, hk it (by simp) o ho, r⟩, ⟨o2, hk l (by simp) o2 ho2, r2⟩⟩
  item := fun i s Q E hi st hQ => by
    refine nextOf_tuple_item st.1 st.2 (x := items[i]) (by simp [hi]) fun h' hit' hs' => ?_
    obtain ⟨o2, ho2, r2⟩ := st.2
    exact hQ _ h' s.toks (by simp [hi]) ⟨hit', ⟨o2, (hs'.2 l hne).trans ho2, r2⟩⟩ hs'
  done := fun s Q E st hE => nextOf_tuple_end hh st.1 st.2 (by simp) hE
end
end Mine
end
section
open PySem PySem.W PyProof.Rows PySem.Calls
namespace Mine
section
variable {P : Pk} {XR : XRel} {N H : Nat} {cs : Scope} {F : Fd} {cells oth : List (Addr × Obj)} {g g' : Gh} {real : List Blk} {m : Str → Option Value} {st st' : St} {s : Shared}
noncomputable abbrev enumO (it : Addr) (i : Int) (old : Value) : Obj := { cls := .type "enumerate", dict := none, data := .fields #[.none, .bool false, .ref it, rawInt i, .none, old], slots := #[] }
noncomputable abbrev enumU (it : Addr) (i : Int) (item : Value) (a : Addr) : Obj := { cls := .type "enumerate", dict := none, data := .fields #[rawInt a, .bool false, .ref it, rawInt i, .none, item], slots := #[] }
theorem SR.but2 {it e : Addr} {oi oe oi' oe' : Obj} (S : SR P ((F.with (it, oi)).with (e, oe)) cells g real m st s) {h' : Heap} {t : Nat} (hk : ∀ b ob, b ≠ e → b ≠ it → s.heap.get? b = some ob → h'.get? b = some ob)
    (hi : h'.get? it = some oi') (he : h'.get? e = some oe') : SR P ((F.with (it, oi')).with (e, oe')) cells g real m st { s with heap := h', toks := t } := by
  have N1 := S.with_news
  have N2 := S.without.with_news
  have ne := N1 (e, oe) (.head _)
  have ni := N2 (it, oi) (.head _)
  have a1 := S.with_ne
  have a2 := S.without.with_ne
  have inl : ∀ {q : Addr × Obj}, q ∈ led F.oth cells g real → q ∈ led (F.with (it, oi)).oth cells g real := fun hq => (led_with (F := F) (it, oi)).mem_iff.mpr (.tail _ hq)
  refine ⟨⟨⟨S.hr.fr.ns.at' fun ob q => hk _ ob (fun z => ne.2.1 z.symm) (fun z => ni.2.1 z.symm) q, fun b ob q => hk b ob (fun z => ?_) (fun z => ?_) (S.hr.fr.keep b ob q), S.hr.fr.above⟩, fun q hq => ?_, ?_, S.hr.rst.toks _ _⟩, S.ar, S.lr⟩
  · have := ne.2.2
    rw [← z, q] at this; cases this
  · have := ni.2.2
    rw [← z, q] at this; cases this
  · rcases List.mem_cons.mp ((led_with (F := F.with (it, oi')) (e, oe')).mem_iff.mp hq) with z | hq
    · subst z; exact ⟨he, ne.2⟩
    · rcases List.mem_cons.mp ((led_with (F := F) (it, oi')).mem_iff.mp hq) with z | hq
      · subst z; exact ⟨hi, ni.2⟩
      · have nq := N2 q (.tail _ hq)
        exact ⟨hk q.1 q.2 (a1 q (inl hq)) (a2 q hq) nq.1, nq.2⟩
  · have p1 := ((led_with (cells := cells) (g := g) (real := real) (F := F.with (it, oi)) (e, oe)).trans ((led_with (F := F) (it, oi)).cons (e, oe))).map (·.1)
    have p2 := ((led_with (cells := cells) (g := g) (real := real) (F := F.with (it, oi')) (e, oe')).trans ((led_with (F := F) (it, oi')).cons (e, oe'))).map (·.1)
    exact p2.nodup_iff.mpr (p1.nodup_iff.mp S.hr.nd)
theorem SR.tupNew {h₁ : Heap} {T : Addr} {vs : List Value} (S : SR P F cells g real m st s) (hT : s.heap.get? T = some (tupO vs)) (lt : ∀ q ∈ led F.oth cells g real, q.1 ≠ T) (hL : T ≠ F.L) (h0 : F.h₀.get? T = none) :
    SR P F cells (g.add [(T, tupO vs)]) real m st s := by
  refine ⟨⟨S.hr.fr, fun q hq => ?_, ?_, S.hr.rst⟩, S.ar.grow (Gh.le_add _ _) rfl rfl, S.lr.mono (Gh.le_add _ _)⟩
  · rcases List.mem_cons.mp (led_add [(T, tupO vs)] q hq) with z | hq
    · subst z; exact ⟨hT, hL, h0⟩
    · exact S.hr.ns q hq
  · have e : ((led F.oth cells (g.add [(T, tupO vs)]) real).map (·.1)).Perm (T :: (led F.oth cells g real).map (·.1)) := (led_add_perm [(T, tupO vs)]).map _
    refine e.nodup_iff.mpr (List.nodup_cons.mpr ⟨fun q => ?_, S.hr.nd⟩)
    obtain ⟨x, hx, e⟩ := List.mem_map.mp q
    exact lt x hx e
theorem nth_enum : ∀ (l : List AV) (n i : Nat), nth (enumL l n) i = (nth l i).map fun a => .tup [.int (.ofNat (n + i)), a]
  | [], n, i => by cases i <;> rfl
  | a :: l, n, 0 => rfl
  | a :: l, n, i + 1 => by
    show nth (enumL l (n + 1)) i = _
    rw [nth_enum l (n + 1) i, show n + 1 + i = n + (i + 1) by omega]; rfl
theorem len_enum : ∀ (l : List AV) (n : Nat), (enumL l n).length = l.length
  | [], n => rfl
  | a :: l, n => by
    show (enumL l (n + 1)).length + 1 = _
    rw [len_enum l (n + 1)]; rfl
theorem isTupIter_of {h : Heap} {it t : Addr} {i : Nat} {o : Obj} (e : h.get? it = some o) (k : IsIt "tuple_iterator" t i o) : IsTupIter h it t i := ⟨o, e, k.1, k.2⟩
theorem loop_enum {g₀ : Gh} {it e t : Addr} {vs : List Value} {l : List AV} {x y : Nat} {nx ny : Str} {px py tp : Pos} {x1 : Nat} {c : SC} {body : List Stmt} (C : Cx P F) (hn : N ≤ F.n) (hcs : F.cs = cs) (T : TupIs P.K g₀ t vs) (A : AllRel (P.VR g₀) vs l)
    (hx : nx = nm x) (hy : ny = nm y) (ne : x ≠ y) (sx : Stor F.cs F.cl x) (sy : Stor F.cs F.cl y) (hb : SndS P XR N cs c body)
    {kn : KS} {kr : K1} {R : Result → Shared → Prop} (pn : PostN P F g₀ kn fun f s' => R (.ok f) s') (pr : PostR P F g₀ kr fun f s' => R (.ok f) s') {oi : Obj} {old : Value} (S : SR P ((F.with (it, oi)).with (e, enumO it 0 old)) cells g₀ real m st s) (ce : CE F cells) (h0 : IsIt "tuple_iterator" t 0 oi)
    (q : overL (frStep (bTwo x y) c kr) (enumL l 0) st kn = true) : codeAny P.M F.A (.forLoop (.Tuple [.Name nx px, .Name ny py] x1 tp) (.ref e) body [] F.env) R s := by
  refine codeAny_forLoop_any (fun k s' => ∃ i cells g real m st oi old, k = l.length + 1 - i ∧ i ≤ l.length ∧ SR P ((F.with (it, oi)).with (e, enumO it (i : Nat) old)) cells g real m st s' ∧ CE F cells ∧ IsIt "tuple_iterator" t i oi ∧ g₀.Le g ∧ overL (frStep (bTwo x y) c kr) ((enumL l 0).drop i) st kn = true) ?_ (l.length + 1)
    ⟨0, cells, g₀, real, m, st, oi, old, rfl, Nat.zero_le _, S, ce, h0, Gh.Le.refl _, q⟩
  rintro k s' ⟨i, cells, g, real, m, st, oi, old, rfl, hi, S, ce, hs, le, q⟩
  have T' : TupIs P.K g t vs := T.imp (le.cst _) id
  have hlen := A.length
  have it_e : it ≠ e := S.with_ne (it, oi) ((led_with (F := F) (it, oi)).mem_iff.mpr (.head _))
  have hgi : s'.heap.get? it = some oi := S.without.at_
  have hge : s'.heap.get? e = some (enumO it (i : Nat) old) := S.at_
  have tt := T'.isTup S.hr C.kin
  have hte : t ≠ e := fun z => by
    obtain ⟨o2, ho2, hc2, _⟩ := tt
    rw [z, hge] at ho2; cases ho2; exact absurd (show Value.type "enumerate" = .type "tuple" from hc2) (by decide)
  have hti : t ≠ it := fun z => by
    obtain ⟨o2, ho2, hc2, _⟩ := tt
    rw [z, hgi] at ho2; cases ho2; rw [hs.1] at hc2; exact absurd (show Value.type "tuple_iterator" = .type "tuple" from hc2) (by decide)
  have D : Draws P.prog P.w F.A.in1 it [it, t] vs.toArray.size (fun i v => vs.toArray[i]? = some v) (fun i h => IsTupIter h it t i ∧ IsTup h t vs.toArray) := drawsTuple (A := F.A.in1) (show F.A.in1.handled = none from C.hd) it t hti vs.toArray
  have hef : e ∉ [it, t] := by
    intro z
    rcases List.mem_cons.mp z with z | z
    · exact it_e z.symm
    · exact hte (List.mem_singleton.mp z).symm
  by_cases lt : i < l.length
  · have hni : nth l i = some l[i] := by rw [nth_eq]; exact List.getElem?_eq_getElem lt
    have hd : (enumL l 0).drop i = .tup [.int (.ofNat i), l[i]] :: (enumL l 0).drop (i + 1) := by
      have lt' : i < (enumL l 0).length := by rw [len_enum]; exact lt
      rw [List.drop_eq_getElem_cons lt']
      congr 1
      have := nth_enum l 0 i
      rw [hni, nth_eq, List.getElem?_eq_getElem lt'] at this
      rw [Option.some.inj this, Nat.zero_add]
    rw [hd] at q
    refine wpAny_pyNext_enum_itemD D hge ⟨isTupIter_of hgi hs, tt⟩ (by rw [List.size_toArray]; omega) (Ne.symm it_e) hef fun v h1 tk hv hu hst hT hsz hk => ?_
    obtain ⟨⟨oi', hoi', hc', hd'⟩, _⟩ := hst
    obtain ⟨v', hv', V⟩ := A.get hni
    have ev : v = v' := by
      rw [List.getElem?_toArray, hv'] at hv; exact (Option.some.inj hv).symm
    subst ev
    have S1 : SR P ((F.with (it, oi')).with (e, enumU it ((i : Int) + 1) v s'.heap.objs.size)) cells g real m st { s' with heap := h1, toks := tk + 1 } := S.but2 hk hoi' hu
    have S2 := S1.tupNew (h₁ := h1) (T := s'.heap.objs.size) (vs := [.int i tk, v]) hT (fun q hq => by
        have : q ∈ led ((F.with (it, oi')).with (e, enumU it ((i : Int) + 1) v s'.heap.objs.size)).oth cells g real := hq
        rcases List.mem_cons.mp ((led_with (F := F.with (it, oi')) (e, _)).mem_iff.mp hq) with z | hq
        · subst z; exact Nat.ne_of_lt (Heap.lt_size hge)
        · rcases List.mem_cons.mp ((led_with (F := F) (it, oi')).mem_iff.mp hq) with z | hq
          · subst z; exact Nat.ne_of_lt (Heap.lt_size hgi)
          · exact Nat.ne_of_lt (Heap.lt_size (S.without.without.hr.ns q hq).1))
      (Nat.ne_of_gt S.hr.fr.ns.lt) (by
        cases hq : F.h₀.get? s'.heap.objs.size with
        | none => rfl
        | some o' => exact absurd (Heap.lt_size (S.hr.fr.keep _ _ hq)) (Nat.lt_irrefl _))
    refine wpAny_letOwnedTupleGo_enum S2.at_ fun h2 he2 hs2 => ?_
    have S3 : SR P ((F.with (it, oi')).with (e, enumO it ((i : Int) + 1) v)) cells (g.add [(s'.heap.objs.size, tupO [.int i tk, v])]) real m st { s' with heap := h2, toks := tk + 1 } :=
      S2.but_with (t := tk + 1) (fun b ob ne q => hs2.extBut b ob ne q) he2
    have le2 : g₀.Le (g.add [(s'.heap.objs.size, tupO [.int i tk, v])]) := le.trans (Gh.le_add _ _)
    have VT : P.VR (g.add [(s'.heap.objs.size, tupO [.int i tk, v])]) (.ref s'.heap.objs.size) (.tup [.int (.ofNat i), l[i]]) :=
      .tup (.inl (List.mem_append_right _ (.head _))) (.cons (.int _ _) (.cons (V.mono le2) .nil))
    obtain ⟨u1, u2, eu, q2⟩ := bTwo_true (show bTwo x y (.tup [.int (.ofNat i), l[i]]) st (fun st => c st (fun st => overL (frStep (bTwo x y) c kr) ((enumL l 0).drop (i + 1)) st kn) kr no) = true from q)
    cases eu
    have two := two_sound (F := F.with (it, oi')) (I := e) (o := enumO it ((i : Int) + 1) v) (x1 := x1) (px := px) (py := py) (tp := tp) (C.with _) hx hy ne sx sy S3 ce.with VT
      (E := notedBy (model P.prog P.w) F.A F.env fun e s' => R (.error e) s') (Q := fun _ s₂ => wpAny P.M F.A (execs body F.env) (fun f s₃ => match f with
            | .next | .cont => ∃ m, m < l.length + 1 - i ∧ (∃ i cells g real mm st oi old, m = l.length + 1 - i ∧ i ≤ l.length ∧ SR P ((F.with (it, oi)).with (e, enumO it (i : Nat) old)) cells g real mm st s₃ ∧ CE F cells ∧ IsIt "tuple_iterator" t i oi ∧ g₀.Le g ∧ overL (frStep (bTwo x y) c kr) ((enumL l 0).drop i) st kn = true)
            | .brk => R (.ok .next) s₃
            | .ret v => R (.ok (.ret v)) s₃) (notedBy (model P.prog P.w) F.A F.env fun e s' => R (.error e) s') s₂) (fun c2 m2 s2 S4 ce2 => by
      refine hb ((F.with (it, oi')).with (e, enumO it ((i : Int) + 1) v)) hcs hn ((C.with _).with _) c2 _ real m2 _ s2 S4 ce2.with _ _ _ q2 _ _ (fun c3 g3 r3 m3 st3 s3 S5 ce3 x3 q3 => ?_) (fun v a c3 g3 r3 m3 st3 s3 H3 R3 x3 V3 q3 => ?_) (fun a x g3 r3 m3 st3 s3 _ _ _ q3 => nomatch q3)
      · refine ⟨l.length + 1 - (i + 1), by omega, i + 1, c3, g3, r3, m3, st3, oi', v, rfl, lt, ?_, ce3.out.out, ⟨hc', hd'⟩, le2.trans x3, q3⟩
        have : ((i : Int) + 1) = ((i + 1 : Nat) : Int) := by push_cast; rfl
        rw [this] at S5
        exact S5
      · exact pr v a c3 g3 r3 m3 st3 s3 H3.without.without R3 (le2.trans x3) V3 q3)
    obtain ⟨_, et, key⟩ := two
    cases et
    exact key
  · have ei : i = l.length := by omega
    have hd : (enumL l 0).drop i = [] := List.drop_of_length_le (by rw [len_enum]; omega)
    rw [hd] at q
    have en : vs.toArray.size = i := by rw [List.size_toArray]; omega
    refine wpAny_pyNext_enum_endD D hge (en ▸ ⟨isTupIter_of hgi hs, tt⟩) fun h1 hk => wpAny_execs_nil ?_
    have S1 : SR P F cells g real m st { s' with heap := h1 } := by
      have S0 := S.without
      exact S0.but (t := s'.toks) (fun b ob ne q => hk b ob ne q)
    exact pn cells g real m st _ S1 ce le q
theorem sndS_for_enum {it : EC} {e : Expr} {c : SC} {body : List Stmt} {x y x1 : Nat} {nx ny : Str} {px py tp np cp pos : Pos} (hx : nx = nm x) (hy : ny = nm y) (ne : x ≠ y) (sx : ∀ F : Fd, F.cs = cs → Cx P F → Stor F.cs F.cl x) (sy : ∀ F : Fd, F.cs = cs → Cx P F → Stor F.cs F.cl y) (hs : ∀ env x, foldedSetIterable (.Call (.Name "enumerate" np) [e] [] cp) env x = pure x)
    (hns : nsIn P.K mainGlobals "enumerate" = some none) (hv : bootBuiltins "enumerate" = some (.type "enumerate")) (hxx : cs.names.lookup ("enumerate" : Str) = some .globalImplicit) (hst : notStar e = true)
    (hi : SndE P XR N cs it e) (hb : SndS P XR N cs c body) : SndS1 P XR N cs (sFor (bTwo x y) iEnum it c) (.For (.Tuple [.Name nx px, .Name ny py] x1 tp) (.Call (.Name "enumerate" np) [e] [] cp) body [] pos) :=
  fun F hcs hn C cells g real m st s S ce kn kr kx q Q E pn pr px => by
    refine wpAny_For (Call_name1 (by rw [star_cons hst]; rfl) (nameX_B S.hr.fr C.kin (topRead_of C.top) hns hv (by decide) ?_ C.kind (by rw [← hcs] at hxx; exact hxx) (by decide))) (hs _)
    refine PySem.callWith_type1 (hi F hcs hn C cells g real m st s S (fun a st => res a st fun a st => iEnum a st (frStep (bTwo x y) c kr) kn) kx q _ E (fun v a g1 r1 st1 s1 S1 x1 e1 V q1 => ?_) px)
    obtain ⟨a', st2, R2, Sm2, V2, q2⟩ := res_sound S1.ar V q1
    have S2 := S1.sm R2 Sm2
    cases a' <;> try (cases q2; done)
    rename_i l
    cases V2 with
    | tup T AL =>
      rename_i t vs
      refine call_enumerate_tup (T.isTup S2.hr C.kin) ?_
      have S3 := (S2.pushed { cls := .type "tuple_iterator", data := .fields #[.ref t, .int 0 0] } rfl).pushed (enumO s1.heap.objs.size 0 .none) rfl
      have hz : (s1.heap.push { cls := .type "tuple_iterator", data := .fields #[.ref t, .int 0 0] }).objs.size = s1.heap.objs.size + 1 := Heap.size_push ..
      have S3 : SR P ((F.with (s1.heap.objs.size, _)).with (s1.heap.objs.size + 1, enumO s1.heap.objs.size 0 .none)) cells g1 r1 m st2 { s1 with heap := (s1.heap.push { cls := .type "tuple_iterator", data := .fields #[.ref t, .int 0 0] }).push (enumO s1.heap.objs.size 0 .none) } := hz ▸ S3
      refine PySem.wpAny_pyIter_enum (e := s1.heap.objs.size + 1) (it := s1.heap.objs.size) (i := 0) (old := .none) S3.at_ ?_
      exact loop_enum (N := N) (cs := cs) (XR := XR) C hn hcs T AL hx hy ne (sx F hcs C) (sy F hcs C) hb (pn.le x1) (pr.le x1) S3 ce ⟨rfl, rfl⟩ q2
end
end Mine
end
section
open PySem PySem.W PyProof.Rows PySem.Calls
namespace Mine
section
variable {prog : Program} {w : World} {K : Frag} {cA : Nat → Addr} {p : Program} {loose : List Str} {mean : ExcName → Option Value} {mg mb : Str → Option Value} {cs : Scope}
theorem sndP_glb {x : Str} {a : AV} {v : Value} {pos : Pos} (hns : nsIn K mainGlobals x = some (some v)) (hx : cs.names.lookup x = some .globalImplicit) (hd : (x == ("__debug__" : Str)) = false) (hv : ∀ g, VR prog w K cA g v a) :
    SndP prog w K cA p loose mean mg mb cs (pCon a) (.Name x pos) :=
  fun A env L h₀ n C rst oth cells g real m st s H R LL r e Q E q => by
    cases e
    exact nameG_K H.fr C.kin (topRead_of C.top) hns (q v g s H (Gh.Le.refl _) rfl rfl (hv g)) C.gl C.kind (by show env.scope.names.lookup x = _; rw [C.sc]; exact hx) hd
end
noncomputable def clOf (cl : List (Str × Addr)) : List (Str × NameKind) → List (Str × Addr) → List (Str × Addr)
  | [], cs => cs
  | (n, k) :: r, cs => clOf cl r (if k == .free then (match cl.lookup n with | some a => (n, a) :: cs | none => cs) else cs)
theorem closureFor_eq {scope : Scope} {env : Env} (h : ∀ n, (n, NameKind.free) ∈ scope.names → ∃ c, env.cells.lookup n = some c) : closureFor scope env = pure (clOf env.cells scope.names []) := by
  simp only [closureFor]
  generalize scope.names = l at h
  suffices H : ∀ (cs : List (Str × Addr)), (forIn l cs (fun (x : Str × NameKind) (r : List (Str × Addr)) => if (x.2 == NameKind.free) = true then (do let c ← cellOf env x.1; pure (ForInStep.yield ((x.1, c) :: r))) else pure (ForInStep.yield r)) : Sem (List (Str × Addr))) = pure (clOf env.cells l cs) by
    have := H []
    simpa using this
  induction l with
  | nil => intro cs; rfl
  | cons a l ih =>
    intro cs
    obtain ⟨n, k⟩ := a
    have ih' := ih (fun n hn => h n (.tail _ hn))
    rw [List.forIn_cons]
    by_cases e : (k == NameKind.free) = true
    · have ek : k = .free := by cases k <;> first | rfl | cases e
      subst ek
      obtain ⟨c, hc⟩ := h n (.head _)
      rw [if_pos e]
      have e1 : cellOf env n = pure c := by unfold cellOf; rw [hc]
      dsimp only
      rw [e1]
      show (forIn l ((n, c) :: cs) _ : Sem _) = _
      rw [ih']
      show _ = pure (clOf env.cells l (if (NameKind.free == NameKind.free) = true then (match env.cells.lookup n with | some a => (n, a) :: cs | none => cs) else cs))
      rw [if_pos e, hc]
    · rw [if_neg e]
      show (forIn l cs _ : Sem _) = _
      rw [ih']
      show _ = pure (clOf env.cells l (if (k == NameKind.free) = true then (match env.cells.lookup n with | some a => (n, a) :: cs | none => cs) else cs))
      rw [if_neg e]
theorem clOf_lookup {cl : List (Str × Addr)} {n : Str} {c : Addr} (hc : cl.lookup n = some c) : ∀ (l : List (Str × NameKind)) (cs : List (Str × Addr)), (∀ d, cs.lookup n = some d → d = c) → ((n, NameKind.free) ∈ l ∨ cs.lookup n = some c) → (clOf cl l cs).lookup n = some c
  | [], cs, h1, h2 => by
    rcases h2 with h2 | h2
    · cases h2
    · exact h2
  | (y, k) :: l, cs, h1, h2 => by
    show (clOf cl l (if k == .free then (match cl.lookup y with | some a => (y, a) :: cs | none => cs) else cs)).lookup n = some c
    by_cases e : (k == NameKind.free) = true
    · have ek : k = .free := by cases k <;> first | rfl | cases e
      subst ek
      rw [if_pos e]
      by_cases ey : n = y
      · subst ey
        rw [hc]
        refine clOf_lookup hc l _ (fun d hd => ?_) (.inr ?_)
        · rw [List.lookup_cons, beq_self_eq_true] at hd; exact (Option.some.inj hd).symm
        · rw [List.lookup_cons, beq_self_eq_true]
      · have ne : (n == y) = false := by simpa using ey
        cases hy : cl.lookup y with
        | none =>
          refine clOf_lookup hc l cs h1 (h2.imp (fun h => ?_) id)
          rcases List.mem_cons.mp h with h | h
          · cases h; exact absurd rfl ey
          · exact h
        | some a =>
          have e2 : ((y, a) :: cs).lookup n = cs.lookup n := by rw [List.lookup_cons, ne]
          refine clOf_lookup hc l _ (fun d hd => h1 d (by rw [← e2]; exact hd)) (h2.imp (fun h => ?_) fun h => by rw [e2]; exact h)
          rcases List.mem_cons.mp h with h | h
          · cases h; exact absurd rfl ey
          · exact h
    · rw [if_neg e]
      refine clOf_lookup hc l cs h1 (h2.imp (fun h => ?_) id)
      rcases List.mem_cons.mp h with h | h
      · cases h; exact absurd rfl e
      · exact h
noncomputable def rel (scope cs : Scope) : Scope := { scope with names := scope.names.map fun (n, k) => if (k == .free && cs.kind == .function && cs.names.lookup n == some .cell) then (n, .cell) else (n, k) }
theorem relabel_eq {scope cs : Scope} {env : Env} (h : env.scope = cs) : relabel scope env = rel scope cs := by subst h; rfl
section
variable {prog : Program} {w : World} {A : Around} {E : Value → Shared → Prop} {R : Result → Shared → Prop} {s : Shared}
noncomputable abbrev testsOf (ifs : List Expr) (env : Env) : Sem Bool := forIn ifs true fun c r => if r = true then do let ok ← isTrue c env (eval c env); pure (ForInStep.yield ok) else pure (ForInStep.yield r)
theorem codeAny_compLoop_go {elt target iter : Expr} {ifs : List Expr} {scope : Scope} {pos : Pos} {it acc : Value} {env : Env} (I : Nat → Shared → Prop)
    (turn : ∀ n s, I n s → wpAny (model prog w) A (pyNext it) (fun r s₁ => match r with
      | none => R (.ok .next) s₁
      | some v => wpAny (model prog w) A (letOwnedTupleGo target it v) (fun _ s₁' => wpAny (model prog w) A (assign target env v) (fun _ s₂ =>
          wpAny (model prog w) A (testsOf ifs env) (fun ok s₃ =>
            if ok = true then wpAny (model prog w) A (eval elt env) (fun x s₄ =>
              wpAny (model prog w) A (call (.builtin "list.append") [acc, x]) (fun _ s₅ => ∃ m, m < n ∧ I m s₅) (notedBy (model prog w) A env fun e s' => R (.error e) s') s₄) (notedBy (model prog w) A env fun e s' => R (.error e) s') s₃
            else ∃ m, m < n ∧ I m s₃) (notedBy (model prog w) A env fun e s' => R (.error e) s') s₂) (notedBy (model prog w) A env fun e s' => R (.error e) s') s₁') (notedBy (model prog w) A env fun e s' => R (.error e) s') s₁) (notedBy (model prog w) A env fun e s' => R (.error e) s') s)
    (n : Nat) (h : I n s) : codeAny (model prog w) A (.compLoop (.ListComp elt [⟨target, iter, ifs, 0⟩] scope pos) 0 it acc env) R s := by
  refine codeAny_loop rfl I (fun n s hI => ?_) n h
  show wpAny _ A ((compTurn (.ListComp elt [⟨target, iter, ifs, 0⟩] scope pos) 0 it acc env).onRaise (fun x => do noteFrame x env; theTreesLotGoes x)) _ _ s
  refine wpAny_noted ?_
  rw [compTurn_list]
  refine wpAny_bind (wpAny_standAt (wpAny_bind (wpAny_mono (turn n s hI) (fun r s₁ h₁ => ?_) fun _ _ h' => h')))
  cases r with
  | none => exact wpAny_pure h₁
  | some v =>
    refine wpAny_bind (wpAny_mono h₁ (fun _ s₁' h₁' => ?_) fun _ _ h' => h')
    refine wpAny_bind (wpAny_mono h₁' (fun _ s₂ h₂ => wpAny_bind (wpAny_mono h₂ (fun ok s₃ h₃ => ?_) fun _ _ h' => h')) fun _ _ h' => h')
    cases ok with
    | false => exact wpAny_pure ⟨rfl, h₃⟩
    | true =>
      exact wpAny_bind (wpAny_bind (wpAny_mono h₃ (fun x s₄ h₄ => wpAny_bind (wpAny_mono h₄ (fun _ s₅ h₅ => wpAny_pure (wpAny_pure ⟨rfl, h₅⟩)) fun _ _ h' => h')) fun _ _ h' => h'))
end
end Mine
end
section
open PySem PySem.W PyProof.Rows PySem.Calls PyProof.Rows.LCg
namespace Mine
structure LcpOk (cs scope : Scope) (vs : List Nat) : Prop where
  kind : scope.kind = .function
  cell : ∀ y ∈ scope.names, y.2 ≠ .cell
  names : ∀ y ∈ scope.names, y.2 = .local → scope.names.lookup y.1 = some .local
  free : ∀ y ∈ scope.names, y.2 = .free → cs.names.lookup y.1 = some .cell
  cap : ∀ x ∈ vs, (nm x, NameKind.free) ∈ scope.names ∧ cs.names.lookup (nm x) = some .cell ∧ (rel scope cs).names.lookup (nm x) = some .cell
theorem look_cons' {α : Type} (x : Nat) (q : Nat × α) (l : List (Nat × α)) : look x (q :: l) = if x = q.1 then some q.2 else look x l := by
  show @Bool.rec (fun _ => Option α) (look x l) (some q.2) (Nat.beq x q.1) = _
  by_cases e : x = q.1
  · rw [if_pos e, e, beq_self]
  · rw [if_neg e]
    cases z : Nat.beq x q.1 with
    | false => rfl
    | true => exact absurd (beq_of z) e
theorem look_keep {vs : List Nat} {x : Nat} {a : AV} : ∀ {l : List (Nat × AV)}, look x (keepL vs l) = some a → x ∈ vs ∧ look x l = some a
  | [], h => by cases h
  | q :: l, h => by
    have e : keepL vs (q :: l) = @Bool.rec (fun _ => List (Nat × AV)) (keepL vs l) (q :: keepL vs l) (anyL (Nat.beq q.1) vs) := rfl
    rw [e] at h
    rw [look_cons']
    cases z : anyL (Nat.beq q.1) vs with
    | true =>
      rw [z] at h
      have h : look x (q :: keepL vs l) = some a := h
      rw [look_cons'] at h
      by_cases ex : x = q.1
      · rw [if_pos ex] at h ⊢
        rw [anyL_eq, List.any_eq_true] at z
        obtain ⟨y, hy, ey⟩ := z
        rw [ex, beq_of ey]; exact ⟨hy, h⟩
      · rw [if_neg ex] at h ⊢
        exact look_keep h
    | false =>
      rw [z] at h
      have h : look x (keepL vs l) = some a := h
      obtain ⟨h1, h2⟩ := look_keep h
      refine ⟨h1, ?_⟩
      by_cases ex : x = q.1
      · rw [anyL_eq] at z
        have := List.any_eq_false.mp z x h1
        rw [ex] at this
        exact absurd (beq_self q.1) this
      · rw [if_neg ex]; exact h2
theorem HR.of_perm {g : Gh} {real : List Blk} {h₀ : Heap} {L : Addr} {rst s : Shared} {oth cells oth' cells' : List (Addr × Obj)} {m : Str → Option Value} (H : HR h₀ L rst oth cells g real m s) (p : (led oth cells g real).Perm (led oth' cells' g real)) : HR h₀ L rst oth' cells' g real m s :=
  ⟨H.fr, fun q hq => H.ns q (p.mem_iff.mpr hq), (p.map (·.1)).nodup_iff.mp H.nd, H.rst⟩
section
variable {P : Pk} {XR : XRel} {N H : Nat} {cs : Scope} {F : Fd} {cells oth : List (Addr × Obj)} {g g' : Gh} {real : List Blk} {m : Str → Option Value} {st st' : St} {s : Shared}
theorem SR.swap {a b : Addr × Obj} (S : SR P ((F.with a).with b) cells g real m st s) : SR P ((F.with b).with a) cells g real m st s :=
  ⟨S.hr.of_perm (((List.Perm.swap a b F.oth).append_right _).append_left _), S.ar, S.lr⟩
theorem SR.withLoc' {lo : List (Nat × AV)} {s' : Shared} (S : SR P F cells g real m (withLoc lo st) s) (H' : HR F.h₀ F.L F.rst F.oth cells g' real m s') (R' : P.AR g' real st') (x : g.Le g') : SR P F cells g' real m (withLoc lo st') s' :=
  ⟨H', ⟨R'.rho, R'.hn, R'.ob, R'.kn, R'.nv⟩, S.lr.mono x⟩
noncomputable def LIn (P : Pk) (cells : List (Addr × Obj)) (sc : Scope) (cl : List (Str × Addr)) (mC : Str → Option Value) (g : Gh) (li : List (Nat × AV)) : Prop :=
  ∀ y a, look y li = some a → y < tabN ∧ ∃ v, P.VR g v a ∧ ((∃ c o, sc.names.lookup (nm y) = some .cell ∧ cl.lookup (nm y) = some c ∧ (c, o) ∈ cells ∧ o.data = .cell (some v)) ∨ (sc.names.lookup (nm y) = some .local ∧ mC (nm y) = some v))
theorem LIn.mono {sc : Scope} {cl : List (Str × Addr)} {mC : Str → Option Value} {li : List (Nat × AV)} (h : LIn P cells sc cl mC g li) (x : g.Le g') : LIn P cells sc cl mC g' li :=
  fun y a q => let ⟨lt, v, V, r⟩ := h y a q; ⟨lt, v, V.mono x, r⟩
theorem LIn.init {scope : Scope} {vs : List Nat} (O : LcpOk F.cs scope vs) (S : SR P F cells g real m st s) : LIn P cells (rel scope F.cs) (clOf F.cl scope.names []) (fun _ => none) g (keepL vs st.loc) := by
  intro y a q
  obtain ⟨hy, q⟩ := look_keep q
  obtain ⟨h1, h2, h3⟩ := O.cap y hy
  obtain ⟨lt, v, V, R⟩ := S.lr y a q
  refine ⟨lt, v, R, .inl ?_⟩
  have kk : ∀ k, F.env.kindOf (nm y) = some k → k = .cell := fun k e => by
    have e : F.cs.names.lookup (nm y) = some k := e
    rw [h2] at e; cases e; rfl
  cases V with
  | loc _ _ e _ => cases kk _ e
  | fre _ e _ _ _ _ => cases kk _ e
  | com _ e _ _ _ => cases kk _ e
  | cel _ e k1 k2 k3 => exact ⟨_, _, h3, clOf_lookup k1 _ _ (fun d hd => nomatch hd) (.inl h1), k2, k3⟩
theorem LIn.lr {scope : Scope} {cl : List (Str × Addr)} {mC : Str → Option Value} {li : List (Nat × AV)} {C : Addr} {oC : Obj} (hk : scope.kind = .function) (h : LIn P cells (rel scope F.cs) cl mC g li) (hn : NsObj oC mC) :
    LR P.prog P.w P.K P.cA (compEnvC scope cl C F.env) F.L m ((C, oC) :: cells) g li := by
  intro y a q
  obtain ⟨lt, v, V, R⟩ := h y a q
  refine ⟨lt, v, ?_, V⟩
  rcases R with ⟨c, o, e1, e2, e3, e4⟩ | ⟨e1, e2⟩
  · exact .cel hk e1 e2 (.tail _ e3) e4
  · exact .com hk e1 (.head _) (fun h e => hn.ns e) e2
theorem LIn.set {sc : Scope} {cl : List (Str × Addr)} {mC : Str → Option Value} {li : List (Nat × AV)} {x : Nat} {v : Value} {a : AV} (h : LIn P cells sc cl mC g li) (lx : x < tabN) (hx : sc.names.lookup (nm x) = some .local) (V : P.VR g v a) :
    LIn P cells sc cl (fun y => if y = nm x then some v else mC y) g (put x a li) := by
  intro y b q
  rw [look_put] at q
  by_cases e : y = x
  · rw [if_pos e] at q; cases q; subst e
    exact ⟨lx, v, V, .inr ⟨hx, by simp⟩⟩
  · rw [if_neg e] at q
    obtain ⟨ly, u, U, R⟩ := h y b q
    refine ⟨ly, u, U, R.imp id fun ⟨e1, e2⟩ => ⟨e1, ?_⟩⟩
    show (if nm y = nm x then some v else mC (nm y)) = some u
    rw [if_neg (fun z => e (nm_inj ly lx z))]; exact e2
theorem storeC {scope : Scope} {cl : List (Str × Addr)} {I C : Addr} {oC o : Obj} {mC : Str → Option Value} {x : Nat} {v : Value} (hk : scope.kind = .function) (S : SR P ((F.with (C, oC)).with (I, o)) cells g real m st s) (hn : NsObj oC mC) (hx : (rel scope F.cs).names.lookup (nm x) = some .local)
    {Q : Unit → Shared → Prop} {E : Value → Shared → Prop} (h : ∀ oC' s', SR P ((F.with (C, oC')).with (I, o)) cells g real m st s' → NsObj oC' (fun y => if y = nm x then some v else mC y) → Q () s') :
    wpAny P.M F.A (storeName (compEnvC scope cl C F.env) (nm x) v) Q E s := by
  refine wpAny_storeName_local (env := compEnvC scope cl C F.env) hx (hn.ns (S.without.at_)) (fun h' hn' hs' => ?_) (by simp [compEnvC, relabel, hk])
  obtain ⟨oC', e, n'⟩ := ns_obj hn'
  exact h oC' _ ((S.swap.but_with (t := s.toks + 1) (fun b ob ne q => hs'.extBut b ob ne q) e).swap) n'
noncomputable def TgtC (P : Pk) (F : Fd) (scope : Scope) (cl : List (Str × Addr)) (C I : Addr) (Sti : Nat → Obj → Prop) (target : Expr) (b : BC) : Prop :=
  ∀ i cells g real m lo st s o oC mC v a, SR P ((F.with (C, oC)).with (I, o)) cells g real m (withLoc lo st) s → NsObj oC mC → Sti (i + 1) o → LIn P cells (rel scope F.cs) cl mC g st.loc → P.VR g v a → ∀ k, b a st k = true → ∀ (Q : Unit → Shared → Prop) E,
    (∀ oC' mC' st' s', SR P ((F.with (C, oC')).with (I, o)) cells g real m (withLoc lo st') s' → NsObj oC' mC' → LIn P cells (rel scope F.cs) cl mC' g st'.loc → k st' = true → Q () s') →
    wpAny P.M F.A (letOwnedTupleGo target (.ref I) v) (fun _ s₁ => wpAny P.M F.A (assign target (compEnvC scope cl C F.env) v) Q E s₁) E s
theorem tgtC_one {scope : Scope} {cl : List (Str × Addr)} {C I : Addr} {Sti : Nat → Obj → Prop} {x : Nat} {y : Str} {p : Pos} (hk : scope.kind = .function) (hy : y = nm x) (lx : x < tabN) (hx : (rel scope F.cs).names.lookup (nm x) = some .local) :
    TgtC P F scope cl C I Sti (.Name y p) (bOne x) := by
  intro i cells g real m lo st s o oC mC v a S hn it li V k q Q E h
  subst hy
  show wpAny _ _ (pure ()) _ _ _
  refine wpAny_pure (assign_Name ?_)
  exact storeC hk S hn hx fun oC' s' S' n' => h oC' _ (setLoc x a st) s' S' n' (li.set lx hx V) q
theorem tgtC_two {scope : Scope} {cl : List (Str × Addr)} {C I ax : Addr} {x y : Nat} {nx ny : Str} {px py tp : Pos} {x1 : Nat} {n : String} (hnn : (["enumerate", "zip", "dict_itemiterator", "dict_reverseitemiterator", "odict_iterator", "itertools.zip_longest", "itertools.pairwise"].contains n) = false) (Cc : Cx P F) (hk : scope.kind = .function) (hx : nx = nm x) (hy : ny = nm y) (lx : x < tabN) (ly : y < tabN) (kx : (rel scope F.cs).names.lookup (nm x) = some .local) (ky : (rel scope F.cs).names.lookup (nm y) = some .local) :
    TgtC P F scope cl C I (IsIt n ax) (.Tuple [.Name nx px, .Name ny py] x1 tp) (bTwo x y) := by
  intro i cells g real m lo st s o oC mC v a S hn it li V k q Q E h
  subst hx; subst hy
  obtain ⟨u1, u2, rfl, q2⟩ := bTwo_true q
  cases V with
  | tup T AL =>
    rename_i t vs
    rcases AL with _ | ⟨h1, AL⟩
    rcases AL with _ | ⟨h2, AL⟩
    cases AL
    refine iter_go hnn S.at_ it ?_
    refine unpackN_ S.hr.fr S.hr.ns (T.isTup S.hr Cc.kin) Cc.hd rfl rfl fun h' F' N' => ?_
    have S3 : SR P ((F.with (C, oC)).with (I, o)) cells g real m (withLoc lo st) { s with heap := h' } := ⟨⟨F', N', S.hr.nd, S.hr.rst.heap _⟩, S.ar, S.lr⟩
    refine assignInOrder_cons (assign_Name (storeC hk S3 hn kx fun oC1 s1 S1 n1 => ?_))
    refine assignInOrder_cons (assign_Name (storeC hk S1 n1 ky fun oC2 s2 S2 n2 => ?_))
    exact assignInOrder_nil (h oC2 _ (setLoc y u2 (setLoc x u1 st)) s2 S2 n2 ((li.set lx kx h1).set ly ky h2) q2)
noncomputable def EltOk (P : Pk) (cs' : Scope) (c : EC) (e : Expr) : Prop :=
  ∀ (A : Around) (env : Env) (L : Addr) (h₀ : Heap) (n : Nat), Ctx P.K P.p P.loose P.mean P.mg P.mb cs' A env h₀ n → ∀ rst oth cells g real m st s, HR h₀ L rst oth cells g real m s → P.AR g real st → LR P.prog P.w P.K P.cA env L m cells g st.loc →
  ∀ k : K1, c st k no = true → ∀ Q E, (∀ v r g' s', HR h₀ L rst oth cells g' real m s' → g.Le g' → g'.rho = g.rho → g'.tht = g.tht → P.VR g' v r → k r st = true → Q v s') → wpAny P.M A (eval e env) Q E s
noncomputable def TestsOk (P : Pk) (cs' : Scope) (t : EC) (ifs : List Expr) : Prop :=
  ∀ (A : Around) (env : Env) (L : Addr) (h₀ : Heap) (n : Nat), Ctx P.K P.p P.loose P.mean P.mg P.mb cs' A env h₀ n → ∀ rst oth cells g real m st s, HR h₀ L rst oth cells g real m s → P.AR g real st → LR P.prog P.w P.K P.cA env L m cells g st.loc →
  ∀ k : KB, eT t st k no = true → ∀ Q E, (∀ b g' st' s', HR h₀ L rst oth cells g' real m s' → g.Le g' → g'.rho = g.rho → g'.tht = g.tht → P.AR g' real st' → Sm st st' → k b st' = true → Q b s') → wpAny P.M A (testsOf ifs env) Q E s
theorem eltOk_pu {c : PC} {e : Expr} (h : P.SndP cs c e) : EltOk P cs (ePu c eBad) e :=
  fun A env L h₀ n C rst oth cells g real m st s H R LL k q Q E pe => by
    have q : @Option.rec AV (fun _ => Bool) false (fun a => k a st) (c st) = true := q
    cases z : c st with
    | none => rw [z] at q; cases q
    | some r =>
      rw [z] at q
      exact h A env L h₀ n C rst oth cells g real m st s H R LL r z Q E fun v g1 s1 H1 x1 r1 t1 V1 => pe v r g1 s1 H1 x1 r1 t1 V1 q
theorem eltOk_loc {x : Nat} {e : Expr} (h : P.SndP cs (pLoc x) e) : EltOk P cs (eLoc x) e :=
  fun A env L h₀ n C rst oth cells g real m st s H R LL k q Q E pe => by
    have q : @Option.rec AV (fun _ => Bool) false (fun a => k a st) (look x st.loc) = true := q
    cases z : look x st.loc with
    | none => rw [z] at q; cases q
    | some r =>
      rw [z] at q
      exact h A env L h₀ n C rst oth cells g real m st s H R LL r z Q E fun v g1 s1 H1 x1 r1 t1 V1 => pe v r g1 s1 H1 x1 r1 t1 V1 q
theorem testsOk_nil : TestsOk P cs (eCon (.boo true)) [] :=
  fun A env L h₀ n C rst oth cells g real m st s H R LL k q Q E pe => wpAny_tests_nil (pe true g st s H (Gh.Le.refl _) rfl rfl R (Sm.refl _) q)
theorem testsOk_one {c : PC} {e : Expr} (h : P.SndPT cs c e) : TestsOk P cs (ePu c eBad) [e] :=
  fun A env L h₀ n C rst oth cells g real m st s H R LL k q Q E pe => by
    have q : @Option.rec AV (fun _ => Bool) false (fun a => tru a st k) (c st) = true := q
    cases z : c st with
    | none => rw [z] at q; cases q
    | some r =>
      rw [z] at q
      refine wpAny_tests_one (h A env L h₀ n C rst oth cells g real m st s H R LL r z (fun g1 v x1 r1 t1 V1 => ?_) Q E fun b g1 s1 H1 x1 r1 t1 V1 => ?_)
      · obtain ⟨b, _, e, _⟩ := tru_sound (R.grow x1 r1 t1) V1 q
        exact ⟨b, e⟩
      · obtain ⟨b', st2, e, R2, Sm2, q2⟩ := tru_sound (R.grow x1 r1 t1) V1 q
        cases e
        exact pe b g1 st2 s1 H1 x1 r1 t1 R2 Sm2 q2
theorem hr_in {C I : Addr} {oC o : Obj} (Hh : HR F.h₀ F.L F.rst ((F.with (C, oC)).with (I, o)).oth cells g real m s) : HR F.h₀ F.L F.rst ((I, o) :: F.oth) ((C, oC) :: cells) g real m s := by
  refine Hh.of_perm ?_
  show (cells ++ ((I, o) :: (C, oC) :: F.oth ++ (g.cst ++ ledger real))).Perm ((C, oC) :: (cells ++ ((I, o) :: F.oth ++ (g.cst ++ ledger real))))
  have p1 : ((I, o) :: (C, oC) :: F.oth ++ (g.cst ++ ledger real)).Perm ((C, oC) :: ((I, o) :: F.oth ++ (g.cst ++ ledger real))) := List.Perm.swap (C, oC) (I, o) _
  exact (p1.append_left cells).trans List.perm_middle
theorem hr_out {C I : Addr} {oC o : Obj} (Hh : HR F.h₀ F.L F.rst ((I, o) :: F.oth) ((C, oC) :: cells) g real m s) : HR F.h₀ F.L F.rst ((F.with (C, oC)).with (I, o)).oth cells g real m s := by
  refine Hh.of_perm ?_
  show ((C, oC) :: (cells ++ ((I, o) :: F.oth ++ (g.cst ++ ledger real)))).Perm (cells ++ ((I, o) :: (C, oC) :: F.oth ++ (g.cst ++ ledger real)))
  have p1 : ((I, o) :: (C, oC) :: F.oth ++ (g.cst ++ ledger real)).Perm ((C, oC) :: ((I, o) :: F.oth ++ (g.cst ++ ledger real))) := List.Perm.swap (C, oC) (I, o) _
  exact ((p1.append_left cells).trans List.perm_middle).symm
structure ItOkR (P : Pk) (F : Fd) (g₀ : Gh) (I : Addr) (Sti : Nat → Obj → Prop) (x : Nat → Gh → List Blk → St → Option AV → Prop) : Prop where
  item : ∀ i cells g real m st s o a, SR P (F.with (I, o)) cells g real m st s → g₀.Le g → Sti i o → x i g real st (some a) → ∀ (Q : Option Value → Shared → Prop) E,
    (∀ v o' s', SR P (F.with (I, o')) cells g real m st s' → Sti (i + 1) o' → P.VR g v a → Q (some v) s') → wpAny P.M F.A (pyNext (.ref I)) Q E s
  done : ∀ i cells g real m st s o, SR P (F.with (I, o)) cells g real m st s → g₀.Le g → Sti i o → x i g real st none → ∀ (Q : Option Value → Shared → Prop) E, (∀ s', SR P F cells g real m st s' → Q none s') → wpAny P.M F.A (pyNext (.ref I)) Q E s
theorem ItOk.toR {g₀ : Gh} {I : Addr} {Sti : Nat → Obj → Prop} {x : Nat → Gh → St → Option AV → Prop} (it : ItOk P F g₀ I Sti x) : ItOkR P F g₀ I Sti (fun i g _ st a => x i g st a) := ⟨it.item, it.done⟩
theorem lcp_loop {g₀ : Gh} {I C D : Addr} {Sti : Nat → Obj → Prop} {xx : Nat → Gh → List Blk → St → Option AV → Prop} {l : List AV} {target iter e : Expr} {ifs : List Expr} {scope : Scope} {cl : List (Str × Addr)} {pos : Pos} {b : BC} {t elt : EC} {x : Nat} {lo : List (Nat × AV)} {oC o : Obj} {mC : Str → Option Value}
    (Cc : Cx P F) (hk : scope.kind = .function) (it : ∀ oC, ItOkR P (F.with (C, oC)) g₀ I Sti xx) (hx : ∀ i g real' st', g₀.Le g → (l = [] → st'.H = st.H ∧ real' = real) → xx i g real' (withLoc lo st') (nth l i)) (tg : TgtC P F scope cl C I Sti target b) (te : TestsOk P (rel scope F.cs) t ifs) (el : EltOk P (rel scope F.cs) elt e) (hD : g₀.rho[x]? = some D)
    {kn : KS} {R : Result → Shared → Prop} (fin : ∀ oC mC g real st s', SR P (F.with (C, oC)) cells g real m (withLoc lo st) s' → NsObj oC mC → g₀.Le g → kn st = true → R (.ok .next) s')
    (S : SR P ((F.with (C, oC)).with (I, o)) cells g₀ real m (withLoc lo st) s) (hn : NsObj oC mC) (h0 : Sti 0 o) (li : LIn P cells (rel scope F.cs) cl mC g₀ st.loc) (q : overL (lcpStep elt b t x) l st kn = true) :
    codeAny P.M F.A (.compLoop (.ListComp e [⟨target, iter, ifs, 0⟩] scope pos) 0 (.ref I) (.ref D) (compEnvC scope cl C F.env)) R s := by
  have ctx : Ctx P.K P.p P.loose P.mean P.mg P.mb (rel scope F.cs) F.A (compEnvC scope cl C F.env) F.h₀ F.n := ⟨Cc.kin, Cc.top, Cc.hd, hk, Cc.dep, Cc.un, rfl, rfl⟩
  refine codeAny_compLoop_go (fun k s' => ∃ i g real' st' o oC mC, (l = [] → st'.H = st.H ∧ real' = real) ∧ k = l.length + 1 - i ∧ i ≤ l.length ∧ SR P ((F.with (C, oC)).with (I, o)) cells g real' m (withLoc lo st') s' ∧ NsObj oC mC ∧ LIn P cells (rel scope F.cs) cl mC g st'.loc ∧ Sti i o ∧ g₀.Le g ∧ overL (lcpStep elt b t x) (l.drop i) st' kn = true) ?_ (l.length + 1)
    ⟨0, g₀, real, st, o, oC, mC, fun _ => ⟨rfl, rfl⟩, rfl, Nat.zero_le _, S, hn, li, h0, Gh.Le.refl _, q⟩
  rintro k s' ⟨i, g, real, st, o, oC, mC, hj, rfl, hi, S, hn, li, hs, le, q⟩
  have hxi := hx i g real st le hj
  by_cases lt : i < l.length
  · have hd : l.drop i = l[i] :: l.drop (i + 1) := List.drop_eq_getElem_cons lt
    have hni : nth l i = some l[i] := by rw [nth_eq]; exact List.getElem?_eq_getElem lt
    rw [hni] at hxi
    rw [hd] at q
    refine (it oC).item i cells g real m (withLoc lo st) s' o _ S le hs hxi _ _ fun v o1 s1 S1 h1 V => ?_
    refine tg i cells g real m lo st s1 o1 oC mC v _ S1 hn h1 li V (fun st => eT t st (fun y st => @Bool.rec (fun _ => Bool) (overL (lcpStep elt b t x) (l.drop (i + 1)) st kn) (elt st (fun v st => asL (.ref x) st fun _ l' => capL l' (wr x (.lst (appL l' [v])) st (fun st => overL (lcpStep elt b t x) (l.drop (i + 1)) st kn))) no) y) no) q _ _ fun oC2 mC2 st2 s2 S2 n2 li2 q2 => ?_
    refine te F.A _ F.L F.h₀ F.n ctx F.rst _ _ g real m st2 s2 (hr_in S2.hr) ⟨S2.ar.rho, S2.ar.hn, S2.ar.ob, S2.ar.kn, S2.ar.nv⟩ (li2.lr hk n2) _ q2 _ _ fun y g3 st3 s3 H3 x3 r3 t3 R3 Sm3 q3 => ?_
    have S3 := S2.withLoc' (hr_out H3) R3 x3
    have li3 : LIn P cells (rel scope F.cs) cl mC2 g3 st3.loc := by rw [Sm3.loc]; exact li2.mono x3
    cases y with
    | false =>
      show ∃ m_1, _
      exact ⟨l.length + 1 - (i + 1), by omega, i + 1, g3, real, st3, o1, oC2, mC2, (fun z => by rw [z] at lt; cases lt), rfl, lt, S3, n2, li3, h1, le.trans x3, q3⟩
    | true =>
      show wpAny _ _ (eval e _) _ _ _
      refine el F.A _ F.L F.h₀ F.n ctx F.rst _ _ g3 real m st3 s3 H3 R3 (li3.lr hk n2) _ q3 _ _ fun u r g4 s4 H4 x4 r4 t4 V4 q4 => ?_
      have S4 := S3.withLoc' (hr_out H4) (R3.grow x4 r4 t4) x4
      obtain ⟨x', l', ex, hl', q5⟩ := asL_true q4
      cases ex
      refine mth_append ((F.with (C, oC2)).with (I, o1)) ((Cc.with _).with _) cells g4 real m (withLoc lo st3) s4 S4 x l' (.ref D) [u] [r] (.ref (((le.trans x3).trans x4).rho _ _ hD)) hl' (.cons V4 .nil) (fun _ st'' => overL (lcpStep elt b t x) (l.drop (i + 1)) (withLoc st3.loc st'') kn) q5 _ _ fun real5 st5 s5 S5 e5 q6 => ?_
      have e5 : st5.loc = lo := e5
      have S6 : SR P ((F.with (C, oC2)).with (I, o1)) cells g4 real5 m (withLoc lo (withLoc st3.loc st5)) s5 := by
        have : withLoc lo (withLoc st3.loc st5) = st5 := by cases st5; cases e5; rfl
        rw [this]; exact S5
      exact ⟨l.length + 1 - (i + 1), by omega, i + 1, g4, real5, withLoc st3.loc st5, o1, oC2, mC2, (fun z => by rw [z] at lt; cases lt), rfl, lt, S6, n2, li3.mono x4, h1, (le.trans x3).trans x4, q6⟩
  · have ei : i = l.length := by omega
    have hni : nth l i = none := by rw [nth_eq]; exact List.getElem?_eq_none (by omega)
    rw [hni] at hxi
    have hd : l.drop i = [] := List.drop_of_length_le (by omega)
    rw [hd] at q
    exact (it oC).done i cells g real m (withLoc lo st) s' o S le hs hxi _ _ fun s1 S1 => fin oC mC g real st s1 S1 hn le q
end
end Mine
end
section
open PySem PySem.W PyProof.Rows PySem.Calls PyProof.Rows.LCg
namespace Mine
section
variable {P : Pk} {XR : XRel} {N H : Nat} {cs : Scope} {F : Fd} {cells oth : List (Addr × Obj)} {g g' : Gh} {real : List Blk} {m : Str → Option Value} {st st' : St} {s : Shared}
theorem lcp_block {I : Addr} {oi : Obj} {vs : List Nat} {scope : Scope} {cl : List (Str × Addr)} {target iter e : Expr} {ifs : List Expr} {pos : Pos} {RR : Value → Addr → Result → Shared → Prop} {E : Value → Shared → Prop} (Cc : Cx P F) (O : LcpOk F.cs scope vs) (S : SR P (F.with (I, oi)) cells g real m st s)
    (self : ∀ (s' : Shared) (Q : Value → Shared → Prop) (E : Value → Shared → Prop), s'.heap.get? I = some oi → Q (.ref I) s' → wpAny P.M F.A (pyIter (.ref I)) Q E s') (hn4 : st.hn ≤ 4000)
    (H : ∀ C D oC g' s', SR P ((F.with (C, oC)).with (I, oi)) cells g' (real ++ [.lst D [] 0]) m ⟨st.loc, HT.put 12 st.H st.hn (.lst []), st.hn + 1, st.known, st.nv⟩ s' → NsObj oC (fun _ => none) → g.Le g' → g'.rho[st.hn]? = some D →
      codeAny P.M F.A (.compLoop (.ListComp e [⟨target, iter, ifs, 0⟩] scope pos) 0 (.ref I) (.ref D) (compEnvC scope cl C F.env)) (RR (.ref D) C) s') :
    wpAny P.M F.A (newList []) (fun acc s₃ => wpAny P.M F.A (newFunctionEnv scope F.env.globals cl [] F.env.qual none .none (some F.env)) (fun cenv s₄ =>
      codeAny P.M F.A (.compStart (.ListComp e [⟨target, iter, ifs, 0⟩] scope pos) 0 (.ref I) acc { cenv with scope := relabel scope F.env }) (RR acc cenv.locals) s₄) E s₃) E s := by
  refine newList_K S.hr.fr S.hr.ns (fun d h' F' N' lt => ?_) (by rw [sizeLine_eq]; exact Nat.zero_le _)
  obtain ⟨S2, le, hr⟩ := S.newBlk (b := .lst d [] 0) (o := .lst []) (t := s.toks) F' N' (fun q hq r hr => by
    rw [List.mem_singleton.mp (show r ∈ [_] from hr)]; exact Nat.ne_of_lt (lt q hq)) (nd1 _) (.lst .nil) hn4
  refine wpAny_newFunctionEnv O.cell (by intro y hy; simp at hy) (fun h₁ hns₁ hsb₁ => ?_) O.kind
  obtain ⟨oC, eC, nC⟩ := ns_obj hns₁
  have S3 := S2.pushed { cls := .type "dict", data := .dict #[] } rfl
  have S4 := (S3.but_with (h' := h₁) (t := s.toks + 0) (fun b ob ne q => hsb₁.extBut b ob ne q) eC).swap
  have go := H _ d oC _ _ S4 nC le hr
  exact codeAny_compStart_list go (self _ _ _ S4.at_ go)
noncomputable def FirstC (P : Pk) (XR : XRel) (N : Nat) (cs scope : Scope) (vs : List Nat) (elt t : EC) (b : BC) (i : IC) (it : EC) (target iter : Expr) : Prop :=
  ∀ F : Fd, F.cs = cs → N ≤ F.n → Cx P F → ∀ cells g real m st s, SR P F cells g real m st s → ∀ (k : K1) kx,
    it st (fun a st => res a st fun a st => new (.lst []) (withLoc (keepL vs st.loc) st) fun x st1 => i a st1 (lcpStep elt b t x) (fun st' => k (.ref x) (withLoc st.loc st'))) kx = true → ∀ Q E, PostX P XR F g kx E →
    (∀ I oi g1 r1 st1 s1 l Sti xx, SR P (F.with (I, oi)) cells g1 r1 m st1 s1 → g.Le g1 → st1.loc = st.loc → (∀ (s' : Shared) (Q : Value → Shared → Prop) (E : Value → Shared → Prop), s'.heap.get? I = some oi → Q (.ref I) s' → wpAny P.M F.A (pyIter (.ref I)) Q E s') →
      Sti 0 oi → (∀ C oC, ItOkR P (F.with (C, oC)) g1 I Sti xx) → (∀ i g' real' st', g1.Le g' → (l = [] → st'.H = HT.put 12 st1.H st1.hn (.lst []) ∧ ∃ D, real' = r1 ++ [.lst D [] 0]) → xx i g' real' st' (nth l i)) → (∀ C cl, TgtC P F scope cl C I Sti target b) →
      st1.hn ≤ 4000 → overL (lcpStep elt b t st1.hn) l ⟨keepL vs st1.loc, HT.put 12 st1.H st1.hn (.lst []), st1.hn + 1, st1.known, st1.nv⟩ (fun st' => k (.ref st1.hn) (withLoc st1.loc st')) = true → Q (.ref I) s1) →
    wpAny P.M F.A (eval iter F.env) (fun xv s₁ => wpAny P.M F.A (pyIter xv) Q E s₁) E s
theorem lcp_top {use : Option (Value → Sem Unit)} {vs : List Nat} {scope : Scope} {it elt t : EC} {b : BC} {i : IC} {target iter e : Expr} {ifs : List Expr} {pos fp : Pos} (O : LcpOk cs scope vs) (te : TestsOk P (rel scope cs) t ifs) (el : EltOk P (rel scope cs) elt e) (hf : FirstC P XR N cs scope vs elt t b i it target iter) (hs : ∀ env x, foldedSetIterable iter env x = pure x)
    (hcs : F.cs = cs) (hN : N ≤ F.n) (Cc : Cx P F) (S : SR P F cells g real m st s) {k kx : K1} (q : eLcp vs elt b i it t st k kx = true) {Q E : Value → Shared → Prop} (px : PostX P XR F g kx E)
    (fin : ∀ D C oC mC a g' real' st' s', SR P (F.with (C, oC)) cells g' real' m st' s' → NsObj oC mC → g.Le g' → st'.loc = st.loc → P.VR g' (.ref D) a → k a st' = true → compPost P.M F.A E use Q (.ref D) C (.ok .next) s') :
    wpAny P.M F.A (comprehension (.ListComp e [⟨target, iter, ifs, 0⟩] scope pos) scope F.env fp (newList []) false (eval iter F.env) use) Q E s := by
  subst hcs
  have hclos : closureFor scope F.env = pure (clOf F.cl scope.names []) := closureFor_eq (env := F.env) fun n hn => Cc.keys n (O.free _ hn rfl)
  refine wpAny_comprehension_free rfl (hs _) hclos O.kind O.names ?_
  refine hf F rfl hN Cc cells g real m st s S k kx q _ E px fun I oi g1 r1 st1 s1 l Sti xx S1 x1 e1 self h0 itk hx tg hn4 q1 => ?_
  refine lcp_block (vs := vs) Cc O S1 self hn4 fun C D oC g' s' S2 nC le2 hD => ?_
  have li : LIn P cells (rel scope F.cs) (clOf F.cl scope.names []) (fun _ => none) g' (keepL vs st1.loc) := (LIn.init O S1.without).mono le2
  have itk' : ∀ oC, ItOkR P (F.with (C, oC)) g' I Sti xx := fun oC => ⟨fun i cells g real m st s o a S le h1 h2 => (itk C oC).item i cells g real m st s o a S (le2.trans le) h1 h2, fun i cells g real m st s o S le h1 h2 => (itk C oC).done i cells g real m st s o S (le2.trans le) h1 h2⟩
  refine lcp_loop (F := F) (lo := st1.loc) (st := ⟨keepL vs st1.loc, HT.put 12 st1.H st1.hn (.lst []), st1.hn + 1, st1.known, st1.nv⟩) (kn := fun st' => k (.ref st1.hn) (withLoc st1.loc st')) Cc O.kind itk' (fun i g'' real'' st'' le'' h'' => hx i g'' real'' (withLoc st1.loc st'') (le2.trans le'') fun z => ⟨(h'' z).1, D, (h'' z).2⟩) (tg C _) te el hD (fun oC3 mC3 g3 r3 st3 s3 S3 n3 le3 q3 => ?_) S2 nC h0 li q1
  exact fin D C oC3 mC3 _ g3 r3 _ s3 S3 n3 ((x1.trans le2).trans le3) e1 (.ref (le3.rho _ _ hD)) q3
theorem sndE_lcp {vs : List Nat} {scope : Scope} {it elt t : EC} {b : BC} {i : IC} {target iter e : Expr} {ifs : List Expr} {pos : Pos} (O : LcpOk cs scope vs) (te : TestsOk P (rel scope cs) t ifs) (el : EltOk P (rel scope cs) elt e) (hf : FirstC P XR N cs scope vs elt t b i it target iter) (hs : ∀ env x, foldedSetIterable iter env x = pure x) :
    SndE P XR N cs (eLcp vs elt b i it t) (.ListComp e [⟨target, iter, ifs, 0⟩] scope pos) :=
  fun F hcs hn C cells g real m st s S k kx q Q E pe px => by
    rw [eval_ListComp]
    refine lcp_top (use := none) O te el hf hs hcs hn C S q px fun D C' oC mC a g1 r1 st1 s1 S1 n1 x1 e1 V1 q1 => ?_
    refine ⟨mC, n1.ns S1.at_, fun h' hs' => ?_⟩
    exact pe (.ref D) a g1 r1 st1 _ (S1.but (t := s1.toks) (fun b ob ne q => hs'.extBut b ob ne q)) x1 e1 V1 q1
theorem sndS_asn_lcp {vs : List Nat} {scope : Scope} {it elt t : EC} {b : BC} {i : IC} {target iter e : Expr} {ifs : List Expr} {pos spos p1 : Pos} {x : Nat} {y : Str} (hy : y = nm x) (O : LcpOk cs scope vs) (te : TestsOk P (rel scope cs) t ifs) (el : EltOk P (rel scope cs) elt e) (hf : FirstC P XR N cs scope vs elt t b i it target iter) (hs : ∀ env x, foldedSetIterable iter env x = pure x)
    (hsw : ∀ F : Fd, F.cs = cs → swapsWith (.ListComp e [⟨target, iter, ifs, 0⟩] scope pos) (some (.Name y p1)) spos.line F.env = pure true) (hst : ∀ F : Fd, F.cs = cs → Cx P F → Stor F.cs F.cl x) :
    SndS1 P XR N cs (sAsn x (eLcp vs elt b i it t)) (.Assign [.Name y p1] (.ListComp e [⟨target, iter, ifs, 0⟩] scope pos) spos) :=
  fun F hcs hn C cells g real m st s S ce kn kr kx q Q E pn pr px => by
    subst hy
    rw [exec_Assign_Name_used _ _ _ _ (hsw F hcs)]
    refine wpAny_bind (wpAny_standAt (wpAny_bind ?_))
    show wpAny _ F.A (do let _ ← comprehension (.ListComp e [⟨target, iter, ifs, 0⟩] scope pos) scope F.env _ (newList []) false (eval iter F.env) (some (assign (.Name (nm x) p1) F.env))) _ _ s
    refine wpAny_bind (wpAny_mono (lcp_top (use := some (assign (.Name (nm x) p1) F.env)) (Q := fun _ s' => Q .next s') O te el hf hs hcs hn C S q px fun D C' oC mC a g1 r1 st1 s1 S1 n1 x1 e1 V1 q1 => ?_) (fun _ s' hq => wpAny_pure (wpAny_pure hq)) fun _ _ e => e)
    show wpAny _ _ (assign (.Name (nm x) p1) F.env (.ref D)) _ _ _
    refine assign_Name ?_
    refine store_sound (F := F.with (C', oC)) (C.with _) S1 ce.with V1 (hst F hcs C) fun c2 m2 s2 S2 ce2 => ?_
    refine ⟨mC, n1.ns S2.at_, fun h' hs' => ?_⟩
    exact pn c2 g1 r1 m2 _ _ (S2.but (t := s2.toks) (fun b ob ne q => hs'.extBut b ob ne q)) ce2.out x1 q1
theorem get_put_old {t : HT} {n y : Nat} {o o' : AO} (hn : n ≤ 4000) (hy : y < n) (h : (HT.put 12 t n o).get y = some o') : t.get y = some o' := by
  rw [HT.get_put o 12 t n y (by omega), if_neg (by omega)] at h; exact h
theorem firstC_tup {vs : List Nat} {scope : Scope} {it elt t : EC} {b : BC} {target iter : Expr} (hi : SndE P XR N cs it iter) (tg : ∀ F : Fd, F.cs = cs → Cx P F → ∀ C cl I n ax, (n = "list_iterator" ∨ n = "tuple_iterator") → TgtC P F scope cl C I (IsIt n ax) target b) : FirstC P XR N cs scope vs elt t b iSeqC it target iter :=
  fun F hcs hn C cells g real m st s S k kx q Q E px fin => by
    refine hi F hcs hn C cells g real m st s S (fun a st => res a st fun a st => new (.lst []) (withLoc (keepL vs st.loc) st) fun x st1 => iSeqC a st1 (lcpStep elt b t x) (fun st' => k (.ref x) (withLoc st.loc st'))) kx q _ E (fun v a g1 r1 st1 s1 S1 x1 e1 V q1 => ?_) px
    obtain ⟨a', st2, R2, Sm2, V2, q2⟩ := res_sound S1.ar V q1
    have S2 := S1.sm R2 Sm2
    obtain ⟨hn4, q3⟩ := new_true q2
    cases a' <;> try (cases q3; done)
    rename_i l
    cases V2 with
    | tup T AL =>
      rename_i tt vs'
      refine iter_tuple (T.isTup S2.hr C.kin) ?_
      refine fin _ _ g1 r1 st2 _ l (IsIt "tuple_iterator" tt) (fun i _ _ _ y => y = nth l i) (S2.pushed _ rfl) x1 (Sm2.loc.trans e1) (fun s' Q E e h => ?_) ⟨rfl, rfl⟩ (fun Ca oC => (itOk_tup (F := F.with (Ca, oC)) (C.with _) T AL).toR) (fun _ _ _ _ _ _ => rfl) (fun Ca cl => tg F hcs C Ca cl _ _ _ (.inr rfl)) hn4 q3
      exact wpAny_pyIter_tupleiter (t := tt) (i := 0) ⟨_, e, rfl, rfl⟩ h
theorem firstC_rng {vs : List Nat} {scope : Scope} {it elt t : EC} {b : BC} {target e : Expr} {np cp : Pos} (tg : ∀ F : Fd, F.cs = cs → Cx P F → ∀ C cl I n, TgtC P F scope cl C I (IsRg n) target b)
    (hns : nsIn P.K mainGlobals "range" = some none) (hv : bootBuiltins "range" = some (.type "range")) (hx : cs.names.lookup ("range" : Str) = some .globalImplicit) (hst : notStar e = true) (hi : SndE P XR N cs it e) : FirstC P XR N cs scope vs elt t b iRng it target (.Call (.Name "range" np) [e] [] cp) :=
  fun F hcs hn C cells g real m st s S k kx q Q E px fin => by
    refine Call_name1 (by rw [star_cons hst]; rfl) (nameX_B S.hr.fr C.kin (topRead_of C.top) hns hv (by decide) ?_ C.kind (by rw [← hcs] at hx; exact hx) (by decide))
    refine PySem.callWith_type1 (hi F hcs hn C cells g real m st s S (fun a st => res a st fun a st => new (.lst []) (withLoc (keepL vs st.loc) st) fun x st1 => iRng a st1 (lcpStep elt b t x) (fun st' => k (.ref x) (withLoc st.loc st'))) kx q _ E (fun v a g1 r1 st1 s1 S1 x1 e1 V q1 => ?_) px)
    obtain ⟨a', st2, R2, Sm2, V2, q2⟩ := res_sound S1.ar V q1
    have S2 := S1.sm R2 Sm2
    obtain ⟨hn4, q3⟩ := new_true q2
    obtain ⟨n, rfl, hn1, q4⟩ := natOf_true q3
    obtain ⟨tk, rfl⟩ := V2.int_inv
    refine call_range_1 ?_
    refine wpAny_pyIter_range (IsRange.new ..) (small_one (by decide) (by decide) (by show -(2 ^ 62) ≤ (n : Int); omega) (by show (n : Int) < 2 ^ 62; omega)) ?_
    have hsz : Builtin.Range.rangeSize 0 (Int.ofNat n) 1 = (n : Int) := by rw [rangeSize_one]; split <;> (rw [Int.ofNat_eq_natCast] at *; omega)
    rw [hsz]
    have S3 : SR P F cells g1 r1 m st2 { s1 with heap := s1.heap.push _, toks := s1.toks + 1 + 1 } := ⟨S2.hr.push { cls := .type "range", data := .fields #[.int 0 s1.toks, .int (Int.ofNat n) tk, .int 1 (s1.toks + 1)] } (s1.toks + 1 + 1), S2.ar, S2.lr⟩
    refine fin _ _ g1 r1 st2 _ (rngL 0 n) (IsRg n) (fun i _ _ _ y => y = nth (rngL 0 n) i) (S3.pushed _ rfl) x1 (Sm2.loc.trans e1) (fun s' Q E e h => ?_) ⟨by simp, Nat.zero_le _⟩ (fun Ca oC => (itOk_rng (F := F.with (Ca, oC)) (C.with _)).toR) (fun _ _ _ _ _ _ => rfl) (fun Ca cl => tg F hcs C Ca cl _ _) hn4 q4
    exact wpAny_pyIter_rangeiter e h
end
end Mine
end
section
open PySem PySem.W PyProof.Rows PySem.Calls PyProof.Rows.LCg
namespace Mine
section
variable {P : Pk} {XR : XRel} {N H : Nat} {cs : Scope} {F : Fd} {cells oth : List (Addr × Obj)} {g g' : Gh} {real : List Blk} {m : Str → Option Value} {st st' : St} {s : Shared}
theorem firstC_keys {vs : List Nat} {scope : Scope} {it elt t : EC} {b : BC} {target iter : Expr} (hi : SndE P XR N cs it iter) (tg : ∀ F : Fd, F.cs = cs → Cx P F → ∀ C cl I d n ep, TgtC P F scope cl C I (IsKi d n ep) target b) : FirstC P XR N cs scope vs elt t b iKeys it target iter :=
  fun F hcs hn C cells g real m st s S k kx q Q E px fin => by
    refine hi F hcs hn C cells g real m st s S (fun a st => res a st fun a st => new (.lst []) (withLoc (keepL vs st.loc) st) fun x st1 => iKeys a st1 (lcpStep elt b t x) (fun st' => k (.ref x) (withLoc st.loc st'))) kx q _ E (fun v a g1 r1 st1 s1 S1 x1 e1 V q1 => ?_) px
    obtain ⟨a', st2, R2, Sm2, V2, q2⟩ := res_sound S1.ar V q1
    have S2 := S1.sm R2 Sm2
    obtain ⟨hn4, q3⟩ := new_true q2
    have hn4 : st2.hn ≤ 4000 := hn4
    cases a' <;> try (cases q3; done)
    · rename_i l
      cases V2 with
      | dct ho hd lo KR =>
        rename_i d o kvs
        obtain ⟨ep, hat⟩ := dict_at (d := d) hd
        refine wpAny_pyIter_dict lo (hat _ (S2.hr.ns _ (cst_mem ho)).1) ?_
        refine fin _ _ g1 r1 st2 _ (keysL l) (IsKi d kvs.length ep) (fun i _ _ _ y => y = nth (keysL l) i) (S2.pushed _ rfl) x1 (Sm2.loc.trans e1) (fun s' Q E e h => ?_) ⟨rfl, rfl⟩ (fun Ca oC => (itOk_keys (F := F.with (Ca, oC)) (C.with _) ho hat KR).toR) (fun _ _ _ _ _ _ => rfl) (fun Ca cl => tg F hcs C Ca cl _ _ _ _) hn4 q3
        exact wpAny_pyIter_keyiter (d := d) (i := 0) (n := kvs.length) (ep := ep) ⟨_, e, rfl, rfl⟩ h
    · rename_i y
      cases V2 with
      | ref ha =>
        have hy : y < st2.hn := by
          have := (List.getElem?_eq_some_iff.mp ha).1
          rw [S2.ar.rho, List.length_map, S2.ar.hn] at this; exact this
        have q4 : @Option.rec AO (fun _ => Bool) false (fun o => @AO.rec (fun _ => Bool) (fun _ => false) (fun d => @List.rec (Nat × AV) (fun _ => Bool) (k (.ref st2.hn) (withLoc st2.loc ⟨keepL vs st2.loc, HT.put 12 st2.H st2.hn (.lst []), st2.hn + 1, st2.known, st2.nv⟩)) (fun _ _ _ => false) d) (fun _ _ => false) o) ((HT.put 12 st2.H st2.hn (.lst [])).get y) = true := q3
        cases z : (HT.put 12 st2.H st2.hn (.lst [])).get y with
        | none => rw [z] at q4; cases q4
        | some ob =>
          rw [z] at q4
          cases ob <;> try (cases q4; done)
          rename_i dd
          cases dd with
          | cons _ _ => cases q4
          | nil =>
            have z2 := get_put_old hn4 hy z
            obtain ⟨bb, hb1, B⟩ := S2.ar.ob y _ z2
            cases B with
            | dic hd lo KR =>
              rename_i w1 w2 ob kvs
              have e : w1 = w2 := S2.ar.addr ha hb1
              subst e
              cases KR
              obtain ⟨ep, hat⟩ := dict_at (d := w1) hd
              refine wpAny_pyIter_dict lo (hat _ (S2.hr.ns _ (real_mem hb1 (.head _))).1) ?_
              refine fin _ _ g1 r1 st2 _ [] (IsKi w1 0 ep) (fun i g real st y' => y' = none ∧ real[y]? = some (.dic w1 ob)) (S2.pushed { cls := .type "dict_keyiterator", data := .fields #[.ref w1, .int 0 0, .int ([] : List (Str × Value)).length 0, .int ep 0] } rfl) x1 (Sm2.loc.trans e1) (fun s' Q E e h => ?_) ⟨rfl, rfl⟩ (fun Ca oC => ⟨fun i cells g real m st s o a S le h1 h2 => (nomatch h2.1), fun i cells g real m st s o S le h1 h2 Q E h => ?_⟩) (fun i g' real' st' le' h' => ⟨by cases i <;> rfl, ?_⟩) (fun Ca cl => tg F hcs C Ca cl _ _ _ _) hn4 q4
              · exact wpAny_pyIter_keyiter (d := w1) (i := 0) (n := 0) (ep := ep) ⟨_, e, rfl, rfl⟩ h
              · exact wpAny_pyNext_dict_end (knd := strKind P.prog P.w) (i := i) (kvs := []) C.hd ⟨o, S.at_, h1.1, h1.2⟩ (hat _ (S.hr.ns _ (real_mem h2.2 (.head _))).1) (by simp) fun h' he => h _ (S.but (t := s.toks) fun b ob ne e => he b ob ne e)
              · obtain ⟨_, D, rfl⟩ := h' rfl
                rw [List.getElem?_append_left (List.getElem?_eq_some_iff.mp hb1).1]; exact hb1
end
end Mine
end
section
open PySem PySem.W PyProof.Rows PySem.Calls
namespace Mine
theorem cellsFrom_keep {x : Str} : ∀ (names : List (Str × NameKind)) (n : Nat) (acc : List (Str × Addr)), (acc.lookup x).isSome = true → ((cellsFrom n names acc).lookup x).isSome = true
  | [], _, _, h => h
  | (y, k) :: r, n, acc, h => by
    unfold cellsFrom
    split
    · refine cellsFrom_keep r (n + 1) _ ?_
      rw [List.lookup_cons]
      cases (x == y) <;> simp [h]
    · exact cellsFrom_keep r n acc h
theorem cellsFrom_has {x : Str} : ∀ (names : List (Str × NameKind)) (n : Nat) (acc : List (Str × Addr)), (x, NameKind.cell) ∈ names → ((cellsFrom n names acc).lookup x).isSome = true
  | [], _, _, h => by cases h
  | (y, k) :: r, n, acc, h => by
    unfold cellsFrom
    rcases List.mem_cons.mp h with e | h
    · cases e
      rw [if_pos (by rfl)]
      exact cellsFrom_keep r _ _ (by simp)
    · split
      · exact cellsFrom_has r _ _ h
      · exact cellsFrom_has r _ _ h
theorem cellsFrom_ge : ∀ (names : List (Str × NameKind)) (n : Nat) (acc : List (Str × Addr)), ∀ q ∈ cellsFrom n names acc, q ∈ acc ∨ n ≤ q.2
  | [], _, _, q, h => .inl h
  | (y, k) :: r, n, acc, q, h => by
    unfold cellsFrom at h
    split at h
    · rcases cellsFrom_ge r (n + 1) _ q h with h | h
      · rcases List.mem_cons.mp h with e | h
        · subst e; exact .inr (Nat.le_refl _)
        · exact .inl h
      · exact .inr (by omega)
    · exact cellsFrom_ge r n acc q h
theorem cellsFrom_nd : ∀ (names : List (Str × NameKind)) (n : Nat) (acc : List (Str × Addr)), (acc.map (·.2)).Nodup → (∀ q ∈ acc, q.2 < n) → ((cellsFrom n names acc).map (·.2)).Nodup
  | [], _, _, h, _ => h
  | (y, k) :: r, n, acc, h, lt => by
    unfold cellsFrom
    split
    · refine cellsFrom_nd r (n + 1) _ (List.nodup_cons.mpr ⟨fun z => ?_, h⟩) fun q hq => ?_
      · obtain ⟨q, hq, e⟩ := List.mem_map.mp z
        have := lt q hq
        rw [e] at this
        exact Nat.lt_irrefl _ this
      · rcases List.mem_cons.mp hq with e | hq
        · subst e; exact Nat.lt_succ_self _
        · exact Nat.lt_succ_of_lt (lt q hq)
    · exact cellsFrom_nd r n acc h lt
theorem cellsAre_facts {cm : Str → Option Value} {cl : List (Str × Addr)} {cells : List (Addr × Obj)} (h : CellsAre cm cl cells) : cells.map (·.1) = cl.map (·.2) ∧ (∀ q ∈ cells, ∃ v, q.2.data = .cell v) ∧ ∀ n c, cl.lookup n = some c → ∃ o, (c, o) ∈ cells ∧ o.data = .cell (cm n) := by
  induction h with
  | nil => exact ⟨rfl, fun _ h => (nomatch h), fun _ _ h => nomatch h⟩
  | cons hd _ ih =>
    rename_i n c o cs cells _
    obtain ⟨i1, i2, i3⟩ := ih
    refine ⟨by rw [List.map_cons, List.map_cons, i1], fun q hq => ?_, fun n' c' h => ?_⟩
    · rcases List.mem_cons.mp hq with e | hq
      · subst e; exact ⟨_, hd⟩
      · exact i2 q hq
    · rw [List.lookup_cons] at h
      by_cases e : (n' == n) = true
      · rw [e] at h; cases h
        rw [eq_of_beq e]
        exact ⟨o, .head _, hd⟩
      · rw [Bool.not_eq_true] at e
        rw [e] at h
        obtain ⟨o', h1, h2⟩ := i3 n' c' h
        exact ⟨o', .tail _ h1, h2⟩
theorem bindL_other {ko : Str → Option NameKind} {n : Str} : ∀ (binds : List (Str × Value)) (m : Str → Option Value), n ∉ binds.map (·.1) → bindL ko binds m n = m n
  | [], _, _ => rfl
  | (y, v) :: r, m, h => by
    have h1 : n ≠ y := fun e => h (by rw [e]; exact .head _)
    have h2 : n ∉ r.map (·.1) := fun e => h (.tail _ e)
    unfold bindL
    rw [bindL_other r _ h2]
    split
    · show (if n = y then some v else m n) = m n
      rw [if_neg h1]
    · rfl
theorem bindC_other {ko : Str → Option NameKind} {n : Str} : ∀ (binds : List (Str × Value)) (m : Str → Option Value), n ∉ binds.map (·.1) → bindC ko binds m n = m n
  | [], _, _ => rfl
  | (y, v) :: r, m, h => by
    have h1 : n ≠ y := fun e => h (by rw [e]; exact .head _)
    have h2 : n ∉ r.map (·.1) := fun e => h (.tail _ e)
    unfold bindC
    rw [bindC_other r _ h2]
    split
    · rfl
    · show (if n = y then some v else m n) = m n
      rw [if_neg h1]
theorem bindL_at {ko : Str → Option NameKind} {n : Str} {v : Value} (hk : ko n = some .local) : ∀ (binds : List (Str × Value)) (m : Str → Option Value), (binds.map (·.1)).Nodup → (n, v) ∈ binds → bindL ko binds m n = some v
  | [], _, _, h => by cases h
  | (y, u) :: r, m, nd, h => by
    have nd := List.nodup_cons.mp nd
    unfold bindL
    rcases List.mem_cons.mp h with e | h
    · cases e
      rw [bindL_other r _ nd.1, if_pos hk]
      show (if n = n then some v else m n) = some v
      rw [if_pos rfl]
    · exact bindL_at hk r _ nd.2 h
theorem bindC_at {ko : Str → Option NameKind} {n : Str} {v : Value} (hk : ko n = some .cell) : ∀ (binds : List (Str × Value)) (m : Str → Option Value), (binds.map (·.1)).Nodup → (n, v) ∈ binds → bindC ko binds m n = some v
  | [], _, _, h => by cases h
  | (y, u) :: r, m, nd, h => by
    have nd := List.nodup_cons.mp nd
    unfold bindC
    rcases List.mem_cons.mp h with e | h
    · cases e
      rw [bindC_other r _ nd.1, if_neg (by rw [hk]; decide)]
      show (if n = n then some v else m n) = some v
      rw [if_pos rfl]
    · exact bindC_at hk r _ nd.2 h
section
variable {P : Pk} {XR : XRel} {N H : Nat} {cs : Scope} {F : Fd} {cells : List (Addr × Obj)} {g g' : Gh} {real : List Blk} {m : Str → Option Value} {st st' : St} {s : Shared}
theorem sndF_defC (XL : XLeave P XR) {name qual : Str} {params : Arguments} {body : List Stmt} {scope : Scope} {dV kV doc pm cdv ct oc : Value} {an od : Option Addr} {osl : Array (Option Value)} {f : Addr} {xs : List Nat} {d : Option AV} {c : SC}
    (ho : P.K.lookup f = some ⟨oc, od, .func (fnOf name qual params body scope dV kV doc pm an cdv ct), osl⟩) (hcd : codeIn P.K cdv qual = true) (hb : BindOk P (fnOf name qual params body scope dV kV doc pm an cdv ct) xs d)
    (hloc : ∀ x ∈ xs, x < tabN ∧ (scope.names.lookup (nm x) = some .local ∨ scope.names.lookup (nm x) = some .cell)) (nd : xs.Nodup) (hco : scope.isCoroutine = false) (hgen : scope.isGenerator = false) (hk : scope.kind = .function) (hnd : ((cellsFrom 0 scope.names []).map (·.1)).Nodup)
    (hscr : scope.names.lookup ("script" : Str) = none) (hbody : SndS P XR H scope c body) : SndF P XR H (fDef xs d c) (.ref f) :=
  fun F A' C CA cells g real m st s S vs l AL k kx q R pe px => by
    have q : @Option.rec (List (Nat × AV)) (fun _ => Bool) false (fun loc => c (withLoc loc st) (fun st' => k .non (withLoc st.loc st')) (fun a st' => k a (withLoc st.loc st')) (fun a st' => kx a (withLoc st.loc st'))) (bindP d xs l) = true := q
    cases z : bindP d xs l with
    | none => rw [z] at q; cases q
    | some loc =>
      rw [z] at q
      have X' := C.kin.keeps S.hr.fr.keep
      obtain ⟨vs', l', hl', AL', rfl, hbt⟩ : ∃ vs' l', vs'.length = xs.length ∧ AllRel (P.VR g) vs' l' ∧ loc = xs.zip l' ∧ BindsTo s (fnOf name qual params body scope dV kV doc pm an cdv ct) ⟨vs, []⟩ ((xs.map nm).zip vs') := by
        rcases bindP_some z with ⟨k1, rfl⟩ | ⟨a, k1, k2, rfl⟩
        · have e : vs.length = xs.length := AL.length.trans k1
          exact ⟨vs, l, e, AL, rfl, (hb s X' vs).1 e⟩
        · obtain ⟨rfl, k3⟩ := (hb s X' vs).2 a k1
          have e : vs.length + 1 = xs.length := by rw [AL.length]; exact k2
          exact ⟨vs ++ [.none], l ++ [.non], by rw [List.length_append]; exact e, AL.snoc .non, rfl, k3 e⟩
      have keysE : ((xs.map nm).zip vs').map (·.1) = xs.map nm := zip_keys hl'
      have ndk : (((xs.map nm).zip vs').map (·.1)).Nodup := by rw [keysE]; exact nodup_names (fun x hx => (hloc x hx).1) nd
      refine callX_cells C.below S.hr.fr S.hr.ns C.top.nolimit CA.fr rfl C.kind (X' _ _ ho) rfl (codeRec_of X' hcd) (by have := CA.dep; omega) hbt (fun n y hy => ?_) hnd (fun gG L' h₁ tk cells' FG F' N' CAr B' stay lt' => ?_) hco hgen hk
      · have : y.1 ∈ ((xs.map nm).zip vs').map (·.1) := List.mem_map_of_mem (f := fun q : Str × Value => q.1) hy
        rw [keysE] at this
        obtain ⟨x, hx, e⟩ := List.mem_map.mp this
        rw [← e]
        rcases (hloc x hx).2 with h | h
        · exact .inl h
        · exact .inr ⟨h, cellsFrom_has _ _ _ (lookup_memK h)⟩
      · obtain ⟨ca1, ca2, ca3⟩ := cellsAre_facts CAr
        have C' : Cx P (callee F A' H cells gG qual scope L' f cdv (cellsFrom (L' + 1) scope.names [])) := ⟨B', rfl, Around.frames_deeper CA.fr, C.kin.keeps stay, C.top.keeps stay, CA.hd, hk, by have := CA.dep; rw [depth_deeper]; exact this, by have := CA.un; rw [units_deeper]; exact this,
          fun x hx => Option.isSome_iff_exists.mp (cellsFrom_has _ _ _ (lookup_memK hx)), fun z => by rw [hscr] at z; cases z⟩
        have S' : SR P (callee F A' H cells gG qual scope L' f cdv (cellsFrom (L' + 1) scope.names [])) cells' g real (bindL (envOfC qual scope L' f cdv).kindOf ((xs.map nm).zip vs') fun _ => none) (withLoc (xs.zip l') st) { s with heap := h₁, toks := tk } := by
          refine ⟨⟨F', ?_, ?_, S.hr.rst.toks _ _⟩, ⟨S.ar.rho, S.ar.hn, S.ar.ob, S.ar.kn, S.ar.nv⟩, fun x a hx => ?_⟩
          · show News _ _ _ (led (cells ++ F.oth) cells' g real)
            rw [led_callee]; exact N'
          · show ((led (cells ++ F.oth) cells' g real).map _).Nodup
            rw [led_callee, List.map_append, List.nodup_append]
            refine ⟨by rw [ca1]; exact cellsFrom_nd _ _ _ List.nodup_nil (fun _ h => nomatch h), S.hr.nd, fun a ha b hb' e => ?_⟩
            rw [ca1] at ha
            obtain ⟨q1, hq1, e1⟩ := List.mem_map.mp ha
            obtain ⟨q2, hq2, e2⟩ := List.mem_map.mp hb'
            have l1 := lt' q2 hq2
            rcases cellsFrom_ge _ _ _ q1 hq1 with z | z
            · cases z
            · have l1 : q2.1 < L' := l1
              have z : L' + 1 ≤ q2.1 := by rw [e2, ← e, ← e1]; exact z
              exact absurd (Nat.lt_of_lt_of_le (Nat.lt_succ_self L') z) (Nat.not_lt.mpr (Nat.le_of_lt l1))
          · obtain ⟨h1, v, h2, h3⟩ := zip_look (fun x hx => (hloc x hx).1) AL' hl' hx
            refine ⟨(hloc x h1).1, v, ?_, h3⟩
            rcases (hloc x h1).2 with kl | kc
            · exact .loc rfl hk kl (bindL_at (ko := (envOfC qual scope L' f cdv).kindOf) kl _ _ ndk h2)
            · obtain ⟨cc, hcc⟩ := Option.isSome_iff_exists.mp (cellsFrom_has scope.names (L' + 1) [] (lookup_memK kc))
              obtain ⟨o, ho1, ho2⟩ := ca3 _ _ hcc
              rw [bindC_at (ko := (envOfC qual scope L' f cdv).kindOf) kc _ _ ndk h2] at ho2
              exact .cel hk kc hcc ho1 ho2
        refine hbody _ rfl (Nat.le_refl _) C' cells' g real _ _ _ S' ⟨ca1, ca2⟩ _ _ _ q _ _ (fun c1 g1 r1 m1 st1 s1 S1 ce1 x1 q1 => ?_) (fun v a c1 g1 r1 m1 st1 s1 H1 R1 x1 V q1 => ?_) (fun a x g1 r1 m1 st1 s1 x1 R1 X1 q1 => ?_)
        · exact leaveK_ S1.hr.fr S1.hr.ns fun FF NN => pe .none .non g1 r1 _ s1 (back (F' := callee F A' H cells gG qual scope L' f cdv (cellsFrom (L' + 1) scope.names [])) S rfl rfl S1.hr S1.ar x1 FF NN) x1 rfl .non q1
        · exact leaveK_ H1.fr H1.ns fun FF NN => pe v a g1 r1 _ s1 (back (F' := callee F A' H cells gG qual scope L' f cdv (cellsFrom (L' + 1) scope.names [])) S rfl rfl H1 R1 x1 FF NN) x1 rfl V q1
        · exact XL F A' H cells gG qual scope L' f cdv (cellsFrom (L' + 1) scope.names []) m s.heap C C' S.hr.fr FG (fun q hq => S.hr.ns q (List.mem_append_left _ hq)) g1 r1 m1 a x s1 X1 _ _ fun s2 X2 => px a x g1 r1 m (withLoc st.loc st1) s2 x1 ⟨R1.rho, R1.hn, R1.ob, R1.kn, R1.nv⟩ X2 q1
end
end Mine
end
section
open PySem PySem.W PyProof.Rows PySem.Calls
namespace Mine
theorem frzL_some {f : AV → Option AV} : ∀ {l m : List AV}, frzL f l = some m → ∀ (R : Value → AV → Prop) (R' : Value → AV → Prop), (∀ v a b, f a = some b → R v a → R' v b) → ∀ {vs}, AllRel R vs l → AllRel R' vs m
  | [], _, h, R, R', H, _, .nil => by cases h; exact .nil
  | a :: l, m, h, R, R', H, _, .cons hv hr => by
    obtain ⟨b, h1, h⟩ := opt_bind_some (show @Option.rec AV (fun _ => Option (List AV)) none (fun b => @Option.rec (List AV) (fun _ => Option (List AV)) none (fun m => some (b :: m)) (frzL f l)) (f a) = some m from h)
    obtain ⟨m', h2, h⟩ := opt_bind_some h
    cases h
    exact .cons (H _ _ _ h1 hv) (frzL_some h2 R R' H hr)
theorem frzD_key {f : AV → Option AV} : ∀ {l m : List (Nat × AV)}, frzD f l = some m → ∀ (R R' : Value → AV → Prop), (∀ v a b, f a = some b → R v a → R' v b) → ∀ {vs}, KeyRel R vs l → KeyRel R' vs m
  | [], _, h, R, R', H, _, .nil => by cases h; exact .nil
  | (c, a) :: l, m, h, R, R', H, _, .cons hc hv hr => by
    obtain ⟨b, h1, h⟩ := opt_bind_some (show @Option.rec AV (fun _ => Option (List (Nat × AV))) none (fun b => @Option.rec (List (Nat × AV)) (fun _ => Option (List (Nat × AV))) none (fun m => some ((c, b) :: m)) (frzD f l)) (f a) = some m from h)
    obtain ⟨m', h2, h⟩ := opt_bind_some h
    cases h
    exact .cons hc (H _ _ _ h1 hv) (frzD_key h2 R R' H hr)
theorem frzD_own {f : AV → Option AV} : ∀ {l m : List (Nat × AV)}, frzD f l = some m → ∀ (R R' : Value → AV → Prop), (∀ v a b, f a = some b → R v a → R' v b) → ∀ {vs}, OwnRel R vs l → OwnRel R' vs m
  | [], _, h, R, R', H, _, .nil => by cases h; exact .nil
  | (c, a) :: l, m, h, R, R', H, _, .cons hc hv hr => by
    obtain ⟨b, h1, h⟩ := opt_bind_some (show @Option.rec AV (fun _ => Option (List (Nat × AV))) none (fun b => @Option.rec (List (Nat × AV)) (fun _ => Option (List (Nat × AV))) none (fun m => some ((c, b) :: m)) (frzD f l)) (f a) = some m from h)
    obtain ⟨m', h2, h⟩ := opt_bind_some h
    cases h
    exact .cons hc (H _ _ _ h1 hv) (frzD_own h2 R R' H hr)
theorem frzD_look {f : AV → Option AV} {x : Nat} {b : AV} : ∀ {l m : List (Nat × AV)}, frzD f l = some m → look x m = some b → ∃ a, look x l = some a ∧ f a = some b
  | [], _, h, q => by cases h; cases q
  | (c, a) :: l, m, h, q => by
    obtain ⟨b', h1, h⟩ := opt_bind_some (show @Option.rec AV (fun _ => Option (List (Nat × AV))) none (fun b => @Option.rec (List (Nat × AV)) (fun _ => Option (List (Nat × AV))) none (fun m => some ((c, b) :: m)) (frzD f l)) (f a) = some m from h)
    obtain ⟨m', h2, h⟩ := opt_bind_some h
    cases h
    rw [look_cons'] at q ⊢
    by_cases e : x = c
    · rw [if_pos e] at q ⊢; cases q; exact ⟨a, rfl, h1⟩
    · rw [if_neg e] at q ⊢; exact frzD_look h2 q
theorem frzL_nth {f : AV → Option AV} : ∀ {l m : List AV} {j : Nat} {a : AV}, frzL f l = some m → nth l j = some a → ∃ b, nth m j = some b ∧ f a = some b
  | [], _, _, _, h, q => by cases q
  | c :: l, m, j, a, h, q => by
    obtain ⟨b, h1, h⟩ := opt_bind_some (show @Option.rec AV (fun _ => Option (List AV)) none (fun b => @Option.rec (List AV) (fun _ => Option (List AV)) none (fun m => some (b :: m)) (frzL f l)) (f c) = some m from h)
    obtain ⟨m', h2, h⟩ := opt_bind_some h
    cases h
    cases j with
    | zero => cases q; exact ⟨b, rfl, h1⟩
    | succ j => exact frzL_nth (j := j) h2 q
section
variable {P : Pk} {XR : XRel} {N H : Nat} {cs : Scope} {F : Fd} {cells oth : List (Addr × Obj)} {g g' : Gh} {real : List Blk} {m : Str → Option Value} {st st' : St} {s : Shared}
theorem frz_sound (R : P.AR g real st) (le : g.Le g') (kp : Nat) (hk : ∀ k b, k ≠ kp → real[k]? = some b → ∀ q ∈ b.objs, q ∈ g'.cst) : ∀ (n : Nat) (a b : AV), frzV st.H kp n a = some b → ∀ v, P.VR g v a → P.VR g' v b
  | 0, _, _, h, _, _ => by cases h
  | n + 1, a, b, h, v, V => by
    have ih := fun v a b h V => frz_sound R le kp hk n a b h v V
    cases a with
    | tup l =>
      obtain ⟨m, h1, h⟩ := opt_bind_some (show @Option.rec (List AV) (fun _ => Option AV) none (fun m => some (.tup m)) (frzL (frzV st.H kp n) l) = some b from h)
      cases h
      cases V with
      | tup T A => exact .tup (T.imp (le.cst _) id) (frzL_some h1 _ _ ih A)
    | alt i l =>
      obtain ⟨m, h1, h⟩ := opt_bind_some (show @Option.rec (List AV) (fun _ => Option AV) none (fun m => some (.alt i m)) (frzL (frzV st.H kp n) l) = some b from h)
      cases h
      cases V with
      | alt ht hj hv =>
        obtain ⟨b, h2, h3⟩ := frzL_nth h1 hj
        exact .alt (le.tht _ _ ht) h2 (ih _ _ _ h3 hv)
    | ref x =>
      have h : @Bool.rec (fun _ => Option AV) (@Option.rec AO (fun _ => Option AV) none (frzO (frzV st.H kp n)) (st.H.get x)) (some (.ref x)) (Nat.beq x kp) = some b := h
      cases z : Nat.beq x kp with
      | true => rw [z] at h; cases h; exact V.mono le
      | false =>
        rw [z] at h
        have ne : x ≠ kp := fun e => by rw [e, beq_self] at z; cases z
        obtain ⟨o, ho, h⟩ := opt_bind_some h
        obtain ⟨bl, hb, B⟩ := R.ob x o ho
        cases V with
        | ref ha =>
          cases B with
          | lst A =>
            obtain ⟨m, h1, h⟩ := opt_bind_some h
            cases h
            have e := R.addr ha hb
            dsimp only [Blk.addr] at e
            subst e
            exact .lis (hk x _ ne hb _ (.head _)) (frzL_some h1 _ _ ih A)
          | dic hd lo KR =>
            obtain ⟨m, h1, h⟩ := opt_bind_some h
            cases h
            have e := R.addr ha hb
            dsimp only [Blk.addr] at e
            subst e
            exact .dct (hk x _ ne hb _ (.head _)) hd lo (frzD_key h1 _ _ ih KR)
          | ins hc O =>
            obtain ⟨m, h1, h⟩ := opt_bind_some h
            cases h
            have e := R.addr ha hb
            dsimp only [Blk.addr] at e
            subst e
            exact .obj hc (hk x _ ne hb _ (.head _)) (hk x _ ne hb _ (.tail _ (.head _))) (frzD_own h1 _ _ ih O)
    | _ => cases h; exact V.mono le
noncomputable def mvB : Nat → List Blk → List Blk
  | _, [] => []
  | 0, b :: r => b :: r.map fun b => .gone b.addr
  | k + 1, b :: r => .gone b.addr :: mvB k r
noncomputable def mvC : Nat → List Blk → List (Addr × Obj)
  | _, [] => []
  | 0, _ :: r => ledger r
  | k + 1, b :: r => b.objs ++ mvC k r
theorem mvB_addr : ∀ (k : Nat) (l : List Blk), (mvB k l).map Blk.addr = l.map Blk.addr
  | _, [] => by unfold mvB; rfl
  | 0, b :: r => by
    unfold mvB
    rw [List.map_cons, List.map_cons, List.map_map]
    rfl
  | k + 1, b :: r => by
    unfold mvB
    rw [List.map_cons, List.map_cons, mvB_addr k r]
    rfl
theorem gone_ledger : ∀ (l : List Blk), ledger (l.map fun b => Blk.gone b.addr) = []
  | [] => rfl
  | b :: l => by
    show [] ++ ledger (l.map fun b => Blk.gone b.addr) = []
    rw [gone_ledger l]; rfl
theorem mv_perm : ∀ (k : Nat) (l : List Blk), (mvC k l ++ ledger (mvB k l)).Perm (ledger l)
  | _, [] => by unfold mvC mvB; exact .refl _
  | 0, b :: r => by
    unfold mvC mvB
    show (ledger r ++ (b.objs ++ ledger (r.map fun b => Blk.gone b.addr))).Perm (b.objs ++ ledger r)
    rw [gone_ledger, List.append_nil]
    exact List.perm_append_comm
  | k + 1, b :: r => by
    unfold mvC mvB
    show ((b.objs ++ mvC k r) ++ ([] ++ ledger (mvB k r))).Perm (b.objs ++ ledger r)
    rw [List.append_assoc]
    exact (mv_perm k r).append_left _
theorem mvB_at : ∀ (k : Nat) (l : List Blk) (b : Blk), l[k]? = some b → (mvB k l)[k]? = some b
  | _, [], _, h => by simp at h
  | 0, c :: r, b, h => by unfold mvB; exact h
  | k + 1, c :: r, b, h => by unfold mvB; exact mvB_at k r b h
theorem mvC_mem : ∀ (k : Nat) (l : List Blk) (j : Nat) (b : Blk), j ≠ k → l[j]? = some b → ∀ q ∈ b.objs, q ∈ mvC k l
  | _, [], _, _, _, h, _, _ => by simp at h
  | 0, c :: r, 0, b, ne, h, q, hq => absurd rfl ne
  | 0, c :: r, j + 1, b, ne, h, q, hq => by
    unfold mvC
    exact List.mem_flatMap.mpr ⟨b, List.mem_of_getElem? (show r[j]? = some b from h), hq⟩
  | k + 1, c :: r, 0, b, ne, h, q, hq => by
    unfold mvC
    cases h
    exact List.mem_append_left _ hq
  | k + 1, c :: r, j + 1, b, ne, h, q, hq => by
    unfold mvC
    exact List.mem_append_right _ (mvC_mem k r j b (fun e => ne (by rw [e])) h q hq)
noncomputable def Gh.mv (g : Gh) (k : Nat) (real : List Blk) : Gh := ⟨g.cst ++ mvC k real, g.rho, g.tht⟩
theorem led_mv (k : Nat) : (led oth cells (g.mv k real) (mvB k real)).Perm (led oth cells g real) := by
  show (cells ++ (oth ++ ((g.cst ++ mvC k real) ++ ledger (mvB k real)))).Perm (cells ++ (oth ++ (g.cst ++ ledger real)))
  rw [List.append_assoc]
  exact (((mv_perm k real).append_left _).append_left _).append_left _
theorem SR.frozen (S : SR P F cells g real m st s) (kp k : Nat) (hkk : ∀ j b, j ≠ kp → real[j]? = some b → j ≠ k) (H' : HT) (loc : List (Nat × AV)) (hl : frzD (frzV st.H kp 20) st.loc = some loc) (hH : ∀ j o, H'.get j = some o → j = k ∧ st.H.get j = some o) :
    SR P F cells (g.mv k real) (mvB k real) m ⟨loc, H', st.hn, st.known, st.nv⟩ s ∧ g.Le (g.mv k real) := by
  have le : g.Le (g.mv k real) := ⟨fun _ h => List.mem_append_left _ h, fun _ _ h => h, fun _ _ h => h⟩
  refine ⟨⟨⟨S.hr.fr, fun q hq => S.hr.ns q ((led_mv k).mem_iff.mp hq), ((led_mv k).map _).nodup_iff.mpr S.hr.nd, S.hr.rst⟩, ⟨?_, ?_, fun j o q => ?_, S.ar.kn, S.ar.nv⟩, fun x b q => ?_⟩, le⟩
  · show g.rho = _
    rw [mvB_addr]; exact S.ar.rho
  · have := congrArg List.length (mvB_addr k real)
    rw [List.length_map, List.length_map] at this
    rw [this]; exact S.ar.hn
  · obtain ⟨rfl, q⟩ := hH j o q
    obtain ⟨b, h1, h2⟩ := S.ar.ob j o q
    exact ⟨b, mvB_at _ _ _ h1, h2.mono le⟩
  · obtain ⟨a, h1, h2⟩ := frzD_look hl q
    obtain ⟨lt, v, hv, V⟩ := S.lr x a h1
    exact ⟨lt, v, hv, frz_sound S.ar le kp (fun j b ne hb q hq => List.mem_append_right _ (mvC_mem k real j b (hkk j b ne hb) hb q hq)) 20 a b h2 v V⟩
theorem refK_true {a : AV} {k : Nat → Bool} (h : refK a k = true) : ∃ x, a = .ref x ∧ k x = true := by
  cases a with
  | ref x => exact ⟨x, rfl, h⟩
  | _ => cases h
theorem frz_step (S : SR P F cells g real m st s) {x : Nat} {kn : KS} (h : sFrz x st kn no no = true) : ∃ g' real' st', SR P F cells g' real' m st' s ∧ g.Le g' ∧ kn st' = true := by
  obtain ⟨a, h1, h⟩ := optK_true (show optK (look x st.loc) (fun a => refK a fun y => @Bool.rec (fun _ => Bool) false (@Option.rec AO (fun _ => Bool) false (fun o => @Option.rec (List (Nat × AV)) (fun _ => Bool) false (fun loc => kn ⟨loc, HT.put 12 .nil y o, st.hn, st.known, st.nv⟩) (frzD (frzV st.H y 20) st.loc)) (st.H.get y)) (Nat.ble y 4000)) = true from h)
  obtain ⟨y, rfl, h⟩ := refK_true h
  obtain ⟨hy, h⟩ : y ≤ 4000 ∧ _ := by
    rcases bool_rec_true h with ⟨h1, h2⟩ | ⟨_, h2⟩
    · exact ⟨Nat.le_of_ble_eq_true h1, h2⟩
    · cases h2
  cases z : st.H.get y with
  | none => rw [z] at h; cases h
  | some o =>
    rw [z] at h
    cases z2 : frzD (frzV st.H y 20) st.loc with
    | none => rw [z2] at h; cases h
    | some loc =>
      rw [z2] at h
      obtain ⟨S', le⟩ := S.frozen y y (fun _ _ h _ => h) (HT.put 12 .nil y o) loc z2 fun j o' q => by
        rw [HT.get_put o 12 .nil y j (by omega)] at q
        by_cases e : j = y
        · rw [if_pos e] at q; cases q; subst e; exact ⟨rfl, z⟩
        · rw [if_neg e, HT.get_nil] at q; cases q
      exact ⟨_, _, _, S', le, h⟩
end
end Mine
end
section
open PySem PySem.W PyProof.Rows PySem.Calls
namespace Mine
section
variable {P : Pk} {XR : XRel} {N H : Nat} {cs : Scope} {F : Fd} {cells oth : List (Addr × Obj)} {g g' : Gh} {real real' : List Blk} {m : Str → Option Value} {st st' : St} {s s' : Shared}
theorem sndS_frz {x : Nat} {d : SC} {body : List Stmt} (h : SndS P XR N cs d body) : SndS P XR N cs (sCons (sFrz x) d) body :=
  fun F hcs hn C cells g real m st s S ce kn kr kx q Q E pn pr px => by
    obtain ⟨g1, r1, st1, S1, le, q1⟩ := frz_step (kn := fun st => d st kn kr kx) S (x := x) q
    exact h F hcs hn C cells g1 r1 m st1 s S1 ce kn kr kx q1 Q E (pn.le le) (pr.le le) (px.le le)
theorem take_get {α : Type} {l l' : List α} (h : ∀ (k : Nat) (a : α), l[k]? = some a → l'[k]? = some a) : ∀ (k : Nat) (a : α), l[k]? = some a → (l'.take l.length)[k]? = some a := fun k a q => by
  have lt := (List.getElem?_eq_some_iff.mp q).1
  rw [List.getElem?_take, if_pos lt]; exact h k a q
theorem take_len {α : Type} {l l' : List α} (h : ∀ (k : Nat) (a : α), l[k]? = some a → l'[k]? = some a) : (l'.take l.length).length = l.length := by
  rw [List.length_take]
  have : l.length ≤ l'.length := by
    cases z : l.length with
    | zero => exact Nat.zero_le _
    | succ n =>
      have hh := h n (l[n]'(by omega)) (List.getElem?_eq_getElem _)
      have := (List.getElem?_eq_some_iff.mp hh).1
      omega
  omega
theorem SR.trim (S0 : SR P F cells g real m st s) (S' : HR F.h₀ F.L F.rst F.oth cells g' real' m s') (le : g.Le g') (hH : st.H = .nil) : ∃ g'' real'', SR P F cells g'' real'' m st s' ∧ g.Le g'' := by
  have ler : g.Le ⟨g'.cst, g'.rho.take g.rho.length, g'.tht.take g.tht.length⟩ := ⟨le.cst, take_get le.rho, take_get le.tht⟩
  have gl : ledger ((g'.rho.take g.rho.length).map Blk.gone) = [] := by
    generalize g'.rho.take g.rho.length = l
    induction l with
    | nil => rfl
    | cons a l ih =>
      show [] ++ ledger (l.map Blk.gone) = []
      rw [ih]
      rfl
  refine ⟨⟨g'.cst, g'.rho.take g.rho.length, g'.tht.take g.tht.length⟩, (g'.rho.take g.rho.length).map Blk.gone, ⟨⟨S'.fr, fun q hq => S'.ns q ?_, ?_, S'.rst⟩, ⟨?_, ?_, fun k o q => ?_, fun i S q => ?_, ?_⟩, S0.lr.mono ler⟩, ler⟩
  · have hq : q ∈ cells ++ (F.oth ++ (g'.cst ++ ledger ((g'.rho.take g.rho.length).map Blk.gone))) := hq
    rw [gl, List.append_nil] at hq
    show q ∈ cells ++ (F.oth ++ (g'.cst ++ ledger real'))
    rw [← List.append_assoc F.oth, ← List.append_assoc cells]
    exact List.mem_append_left _ hq
  · show ((cells ++ (F.oth ++ (g'.cst ++ ledger ((g'.rho.take g.rho.length).map Blk.gone)))).map (·.1)).Nodup
    rw [gl, List.append_nil]
    have nd : ((cells ++ (F.oth ++ (g'.cst ++ ledger real'))).map (·.1)).Nodup := S'.nd
    rw [← List.append_assoc F.oth, ← List.append_assoc cells, List.map_append, List.nodup_append] at nd
    exact nd.1
  · show g'.rho.take g.rho.length = ((g'.rho.take g.rho.length).map Blk.gone).map Blk.addr
    rw [List.map_map]
    exact (List.map_id _).symm
  · rw [List.length_map, take_len le.rho, S0.ar.rho, List.length_map]; exact S0.ar.hn
  · rw [hH] at q; cases q
  · obtain ⟨j, h1, h2⟩ := S0.ar.kn i S q
    exact ⟨j, ler.tht _ _ h1, h2⟩
  · show (g'.tht.take g.tht.length).length = st.nv
    rw [take_len le.tht]; exact S0.ar.nv
theorem eachL_cons {x : Nat} {body : SC} {kr kx : K1} {a : AV} {l : List AV} (h : eachL x body st kr kx (a :: l) = true) : body (setLoc x a st) yes kr kx = true ∧ eachL x body st kr kx l = true := by
  rcases bool_rec_true (show @Bool.rec (fun _ => Bool) false (eachL x body st kr kx l) (body (setLoc x a st) yes kr kx) = true from h) with ⟨h1, h2⟩ | ⟨_, h2⟩
  · exact ⟨h1, h2⟩
  · cases h2
theorem eachL_nth {x : Nat} {body : SC} {kr kx : K1} : ∀ {l : List AV} {i : Nat} {a : AV}, eachL x body st kr kx l = true → nth l i = some a → body (setLoc x a st) yes kr kx = true
  | [], i, a, _, q => by cases i <;> cases q
  | b :: l, 0, a, h, q => by cases q; exact (eachL_cons h).1
  | b :: l, i + 1, a, h, q => eachL_nth (eachL_cons h).2 (show nth l i = some a from q)
theorem keep_look {vs : List Nat} {x : Nat} {a : AV} : ∀ {l : List (Nat × AV)}, x ∈ vs → look x l = some a → look x (keepL vs l) = some a
  | [], _, h => by cases h
  | (y, b) :: l, hx, h => by
    have e0 : keepL vs ((y, b) :: l) = @Bool.rec (fun _ => List (Nat × AV)) (keepL vs l) ((y, b) :: keepL vs l) (anyL (Nat.beq y) vs) := rfl
    rw [look_cons'] at h
    rw [e0]
    by_cases e : x = y
    · rw [if_pos e] at h
      have : anyL (Nat.beq y) vs = true := by
        rw [anyL_eq, List.any_eq_true]; exact ⟨x, hx, by rw [e]; exact Nat.beq_refl y⟩
      rw [this]
      show look x ((y, b) :: keepL vs l) = some a
      rw [look_cons', if_pos e]; exact h
    · rw [if_neg e] at h
      have ih := keep_look hx h
      cases anyL (Nat.beq y) vs with
      | false => exact ih
      | true =>
        show look x ((y, b) :: keepL vs l) = some a
        rw [look_cons', if_neg e]; exact ih
theorem sndS_eachK {wh : List Nat} {K : List AV → St → Bool} {it t c : EC} {x : Nat} {y : Str} {iter test e : Expr} {p1 p2 p3 pos : Pos} (hy : y = nm x) (h152 : x ≠ 152) (HK : ∀ l stF, K l stF = true → look x stF.loc = none ∧ eachL x (sCons (sIff t (sCons (sRet c) sNil) sNil) sNil) stF no no l = true)
    (hs : ∀ env x, foldedSetIterable iter env x = pure x) (hst : ∀ F : Fd, F.cs = cs → Cx P F → Stor F.cs F.cl x) (hi : SndE P XR N cs it iter) (ht : SndT P XR N cs t test) (hr : SndE P XR N cs c e) :
    SndS1 P XR N cs (sEachK wh K it) (.For (.Name y p1) iter [.If test [.Return (some e) p3] [] p2] [] pos) :=
  fun F hcs hn C cells g real m st s S ce kn kr kx q Q E pn pr px => by
    refine wpAny_For (hi F hcs hn C cells g real m st s S (fun a st => asL a st fun _ l => frzSt st fun st => @Bool.rec (fun _ => Bool) (false) (kn (withLoc (keepL [152] st.loc) st)) (K l (withLoc (keepL wh st.loc) st))) kx q _ E (fun v a g1 r1 st1 s1 S1 x1 e1 V q1 => ?_) px) (hs _)
    obtain ⟨k, l, rfl, hk, q2⟩ := asL_true q1
    have q2 : @Option.rec (List (Nat × AV)) (fun _ => Bool) false (fun loc => @Bool.rec (fun _ => Bool) false (kn ⟨keepL [152] loc, .nil, st1.hn, st1.known, st1.nv⟩) (K l ⟨keepL wh loc, .nil, st1.hn, st1.known, st1.nv⟩)) (frzD (frzV st1.H 5000 20) st1.loc) = true := q2
    cases z : frzD (frzV st1.H 5000 20) st1.loc with
    | none => rw [z] at q2; cases q2
    | some loc =>
      rw [z] at q2
      obtain ⟨hK, hkn⟩ : K l ⟨keepL wh loc, .nil, st1.hn, st1.known, st1.nv⟩ = true ∧ kn ⟨keepL [152] loc, .nil, st1.hn, st1.known, st1.nv⟩ = true := by
        rcases bool_rec_true q2 with h | ⟨_, h⟩
        · exact h
        · cases h
      obtain ⟨hx, hE⟩ := HK _ _ hK
      obtain ⟨d, vs, n, rfl, hb1, A, Il⟩ := S1.list V hk
      obtain ⟨SF, leF⟩ := S1.frozen 5000 r1.length (fun j b _ hb => Nat.ne_of_lt (List.getElem?_eq_some_iff.mp hb).1) .nil loc z (fun j o q => by cases q)
      have SF : SR P F cells (g1.mv r1.length r1) (mvB r1.length r1) m ⟨keepL (152 :: wh) loc, .nil, st1.hn, st1.known, st1.nv⟩ s1 := ⟨SF.hr, ⟨SF.ar.rho, SF.ar.hn, SF.ar.ob, SF.ar.kn, SF.ar.nv⟩, fun y b q => SF.lr y b (look_keep q).2⟩
      have hW : ∀ y b, look y (keepL wh loc) = some b → look y (keepL (152 :: wh) loc) = some b := fun y b q => keep_look (.tail _ (look_keep q).1) (look_keep q).2
      have hS : ∀ y b, look y (keepL [152] loc) = some b → look y (keepL (152 :: wh) loc) = some b := fun y b q => keep_look (by rw [List.mem_singleton.mp (look_keep q).1]; exact .head _) (look_keep q).2
      have hxB : look x (keepL (152 :: wh) loc) = none := by
        cases zz : look x (keepL (152 :: wh) loc) with
        | none => rfl
        | some b =>
          obtain ⟨m1, m2⟩ := look_keep zz
          rcases List.mem_cons.mp m1 with e | m1
          · exact absurd e h152
          · have := keep_look m1 m2
            have hx' : look x (keepL wh loc) = none := hx
            rw [hx'] at this; cases this
      generalize keepL (152 :: wh) loc = locB at *
      generalize keepL wh loc = locW at *
      generalize keepL [152] loc = locS at *
      refine wpAny_pyIter_list Il ?_
      have hm : (d, listOf vs.toArray n) ∈ (g1.mv r1.length r1).cst := List.mem_append_right _ (mvC_mem r1.length r1 k _ (Nat.ne_of_lt (List.getElem?_eq_some_iff.mp hb1).1) hb1 _ (.head _))
      have AF : AllRel (P.VR (g1.mv r1.length r1)) vs l := AllV.mono leF A
      have itk := itOk_list (F := F) (I := s1.heap.objs.size) C (.inr ⟨n, hm⟩) AF
      refine codeAny_forLoop_any (fun k s' => ∃ i cells g real m o, k = l.length + 1 - i ∧ i ≤ l.length ∧ SR P (F.with (s1.heap.objs.size, o)) cells g real m ⟨locB, .nil, st1.hn, st1.known, st1.nv⟩ s' ∧ CE F cells ∧ IsIt "list_iterator" d i o ∧ (g1.mv r1.length r1).Le g) ?_ (l.length + 1)
        ⟨0, cells, _, _, m, _, rfl, Nat.zero_le _, SF.pushed { cls := .type "list_iterator", data := .fields #[.ref d, .int 0 0] } rfl, ce, ⟨rfl, rfl⟩, Gh.Le.refl _⟩
      rintro kk s' ⟨i, cells, g, real, m, o, rfl, hi', S', ce', hs', le⟩
      by_cases lt : i < l.length
      · have hni : nth l i = some l[i] := by rw [nth_eq]; exact List.getElem?_eq_getElem lt
        refine itk.item i cells g real m _ s' o l[i] S' le hs' hni.symm _ _ fun v o1 s2 S2 h1 V => ?_
        show wpAny _ _ (pure ()) _ _ _
        subst hy
        refine wpAny_pure (assign_Name ?_)
        refine store_sound (F := F.with (s1.heap.objs.size, o1)) (C.with _) S2 ce'.with V (hst F hcs C) fun c2 m2 s3 S3 ce3 => ?_
        have hb := eachL_nth hE hni
        have hb : eT t (setLoc x l[i] ⟨locW, .nil, st1.hn, st1.known, st1.nv⟩) (fun b st => @Bool.rec (fun _ => Bool) true (c st no no) b) no = true := hb
        have S3w : SR P (F.with (s1.heap.objs.size, o1)) c2 g real m2 (setLoc x l[i] ⟨locW, .nil, st1.hn, st1.known, st1.nv⟩) s3 := ⟨S3.hr, ⟨S3.ar.rho, S3.ar.hn, S3.ar.ob, S3.ar.kn, S3.ar.nv⟩, fun y b q => S3.lr y b (by
          show look y (put x l[i] locB) = some b
          have q : look y (put x l[i] locW) = some b := q
          rw [look_put] at q ⊢
          by_cases e : y = x
          · rw [if_pos e] at q ⊢; exact q
          · rw [if_neg e] at q ⊢; exact hW y b q)⟩
        refine wpAny_execs_cons (wpAny_If (ht (F.with (s1.heap.objs.size, o1)) hcs hn (C.with _) c2 g real m2 _ s3 S3w (fun b st => @Bool.rec (fun _ => Bool) true (c st no no) b) no hb _ _ (fun b g4 r4 st4 s4 S4 x4 e4 q4 => ?_) (fun a x g3 r3 m3 st3 s3 _ _ _ q4 => nomatch q4)))
        cases b with
        | true =>
          exact wpAny_execs_cons (wpAny_Return_some (hr (F.with (s1.heap.objs.size, o1)) hcs hn (C.with _) c2 g4 r4 m2 st4 s4 S4 no no q4 _ _ (fun _ _ _ _ _ _ _ _ _ _ q5 => nomatch q5) (fun _ _ _ _ _ _ _ _ _ _ q5 => nomatch q5)))
        | false =>
          refine wpAny_execs_nil (wpAny_execs_nil ?_)
          have S3' : SR P (F.with (s1.heap.objs.size, o1)) c2 g real m2 ⟨locB, .nil, st1.hn, st1.known, st1.nv⟩ s3 := by
            refine ⟨S3.hr, ⟨S3.ar.rho, S3.ar.hn, S3.ar.ob, S3.ar.kn, S3.ar.nv⟩, fun y b q => S3.lr y b ?_⟩
            show look y (put x l[i] locB) = some b
            rw [look_put, if_neg (fun e => ?_)]
            · exact q
            · rw [e] at q
              have q : look x locB = some b := q
              rw [hxB] at q; cases q
          obtain ⟨g5, r5, S5, le5⟩ := S3'.trim S4.hr x4 rfl
          exact ⟨l.length + 1 - (i + 1), by omega, i + 1, c2, g5, r5, m2, o1, rfl, lt, S5, ce3.out, h1, le.trans le5⟩
      · have ei : i = l.length := by omega
        have hni : nth l i = none := by rw [nth_eq]; exact List.getElem?_eq_none (by omega)
        refine itk.done i cells g real m _ s' o S' le hs' hni.symm _ _ fun s2 S2 => wpAny_execs_nil ?_
        refine pn cells g real m ⟨locS, .nil, st1.hn, st1.known, st1.nv⟩ s2 ⟨S2.hr, ⟨S2.ar.rho, S2.ar.hn, S2.ar.ob, S2.ar.kn, S2.ar.nv⟩, fun y b q => S2.lr y b (hS y b q)⟩ ce' ((x1.trans leF).trans le) hkn
end
end Mine
end
section
open PySem PySem.W PyProof.Rows PySem.Calls
namespace Mine
theorem andB_true {x y : Bool} (h : andB x y = true) : x = true ∧ y = true := by
  rcases bool_rec_true (show @Bool.rec (fun _ => Bool) false y x = true from h) with h | ⟨_, h⟩
  · exact h
  · cases h
theorem natsB_true : ∀ {l m : List Nat}, natsB l m = true → l = m
  | [], [], _ => rfl
  | [], _ :: _, h => by cases h
  | _ :: _, [], h => by cases h
  | a :: l, b :: m, h => by
    obtain ⟨h1, h2⟩ := andB_true (show andB (Nat.beq a b) (natsB l m) = true from h)
    rw [beq_of h1, natsB_true h2]
theorem knoB_true : ∀ {l m : List (Nat × List Nat)}, knoB l m = true → l = m
  | [], [], _ => rfl
  | [], _ :: _, h => by cases h
  | _ :: _, [], h => by cases h
  | (a, b) :: l, (c, d) :: m, h => by
    obtain ⟨h1, h2⟩ := andB_true (show andB (Nat.beq a c) (andB (natsB b d) (knoB l m)) = true from h)
    obtain ⟨h2, h3⟩ := andB_true h2
    rw [beq_of h1, natsB_true h2, knoB_true h3]
theorem stEq_true {S st : St} (hS : S.H = .nil) (h : stEq S st = true) : st = S := by
  obtain ⟨l, H, hn, kn, nv⟩ := S
  obtain ⟨l', H', hn', kn', nv'⟩ := st
  obtain ⟨h1, h⟩ := andB_true (show andB (Nat.beq hn hn') (andB (Nat.beq nv nv') (andB (nilH H') (andB (knoB kn kn') (synD (syn 30) l l')))) = true from h)
  obtain ⟨h2, h⟩ := andB_true h
  obtain ⟨h3, h⟩ := andB_true h
  obtain ⟨h4, h5⟩ := andB_true h
  have hS : H = .nil := hS
  have e3 : H' = .nil := by
    cases H' with
    | nil => rfl
    | nd _ _ _ => cases h3
  rw [beq_of h1, beq_of h2, knoB_true h4, synD_true (syn_true 30) _ _ h5, hS, e3]
theorem each_names {S : St} (h : ∀ c, c < 9 → askOk S c = true) : eachL 90 b_ask S no no namesL = true := by
  have step : ∀ {a : AV} {l : List AV}, b_ask (setLoc 90 a S) yes no no = true → eachL 90 b_ask S no no l = true → eachL 90 b_ask S no no (a :: l) = true := by
    intro a l h1 h2
    show @Bool.rec (fun _ => Bool) false (eachL 90 b_ask S no no l) (b_ask (setLoc 90 a S) yes no no) = true
    rw [h1]; exact h2
  exact step (h 0 (by decide)) (step (h 1 (by decide)) (step (h 2 (by decide)) (step (h 3 (by decide)) (step (h 4 (by decide)) (step (h 5 (by decide)) (step (h 6 (by decide)) (step (h 7 (by decide)) (step (h 8 (by decide)) rfl))))))))
theorem nine {p : Nat → Prop} (h0 : p 0) (h1 : p 1) (h2 : p 2) (h3 : p 3) (h4 : p 4) (h5 : p 5) (h6 : p 6) (h7 : p 7) (h8 : p 8) : ∀ c, c < 9 → p c
  | 0, _ => h0 | 1, _ => h1 | 2, _ => h2 | 3, _ => h3 | 4, _ => h4 | 5, _ => h5 | 6, _ => h6 | 7, _ => h7 | 8, _ => h8
  | c + 9, h => by omega
theorem turnK_true (l : List AV) (st : St) (h : turnK l st = true) : look 90 st.loc = none ∧ eachL 90 b_ask st no no l = true := by
  obtain ⟨h1, h2⟩ := andB_true h
  have e1 : l = namesL := synL_true (syn_true 3) _ _ h1
  subst e1
  rw [anyL_eq, List.any_eq_true] at h2
  obtain ⟨S, hS, h2⟩ := h2
  have mem : S ∈ [sT1, sT2, sT3, sT4, sT5, sT6, sT7, sT8] := hS
  simp only [List.mem_cons, List.mem_nil_iff, or_false] at mem
  rcases mem with rfl | rfl | rfl | rfl | rfl | rfl | rfl | rfl
  · rw [stEq_true rfl h2]; exact ⟨by decide +kernel, each_names (nine ask1_0 ask1_1 ask1_2 ask1_3 ask1_4 ask1_5 ask1_6 ask1_7 ask1_8)⟩
  · rw [stEq_true rfl h2]; exact ⟨by decide +kernel, each_names (nine ask2_0 ask2_1 ask2_2 ask2_3 ask2_4 ask2_5 ask2_6 ask2_7 ask2_8)⟩
  · rw [stEq_true rfl h2]; exact ⟨by decide +kernel, each_names (nine ask3_0 ask3_1 ask3_2 ask3_3 ask3_4 ask3_5 ask3_6 ask3_7 ask3_8)⟩
  · rw [stEq_true rfl h2]; exact ⟨by decide +kernel, each_names (nine ask4_0 ask4_1 ask4_2 ask4_3 ask4_4 ask4_5 ask4_6 ask4_7 ask4_8)⟩
  · rw [stEq_true rfl h2]; exact ⟨by decide +kernel, each_names (nine ask5_0 ask5_1 ask5_2 ask5_3 ask5_4 ask5_5 ask5_6 ask5_7 ask5_8)⟩
  · rw [stEq_true rfl h2]; exact ⟨by decide +kernel, each_names (nine ask6_0 ask6_1 ask6_2 ask6_3 ask6_4 ask6_5 ask6_6 ask6_7 ask6_8)⟩
  · rw [stEq_true rfl h2]; exact ⟨by decide +kernel, each_names (nine ask7_0 ask7_1 ask7_2 ask7_3 ask7_4 ask7_5 ask7_6 ask7_7 ask7_8)⟩
  · rw [stEq_true rfl h2]; exact ⟨by decide +kernel, each_names (nine ask8_0 ask8_1 ask8_2 ask8_3 ask8_4 ask8_5 ask8_6 ask8_7 ask8_8)⟩
section
variable {P : Pk} {XR : XRel} {N H : Nat} {cs : Scope}
theorem sndE_bad {e : Expr} : SndE P XR N cs eBad e := fun F hcs hn C cells g real m st s S k kx q => nomatch q
theorem sndS_bad {t : Stmt} : SndS1 P XR N cs sBad t := fun F hcs hn C cells g real m st s S ce kn kr kx q => nomatch q
theorem sndF_bad {v : Value} : SndF P XR H fBad v := fun F A' C CA cells g real m st s S vs l AL k kx q => nomatch q
end
end Mine
end
section
open PySem PySem.W PyProof.Rows PySem.Calls
namespace Mine
theorem mapF_dict (f : Array Value → Array Value) (o : Obj) : (Obj.mapFields f o).dict = o.dict := by
  obtain ⟨c, d, dt, sl⟩ := o
  cases dt <;> rfl
noncomputable def TrX (h B : Heap) (e : Addr) (cls : Value) (D : Addr) (fl : Value) : Prop :=
  ∃ oe vs T oT ts, h.get? e = some oe ∧ (oe.cls = cls ∧ oe.dict = some D) ∧ oe.data = .fields vs ∧ vs[1]? = some (.ref T) ∧ B.get? T = none ∧ T ≠ e ∧ h.get? T = some oT ∧ oT.data = .fields ts ∧ ts[3]? = some fl
structure FlyX (B : Heap) (l : List Env) (e : Addr) (cls : Value) (D : Addr) (fl : Value) (h : Heap) : Prop where
  stays : B.StaysIn h
  new : B.get? e = none
  frames : h.FunFrames B l
  tr : TrX h B e cls D fl
section
variable {M : Model} {A : Around} {E : Value → Shared → Prop} {s : Shared} {B : Heap} {env : Env} {outer l : List Env} {L e D : Addr} {oe : Obj} {vs : Array Value} {cls fl : Value} {Q : Unit → Shared → Prop}
theorem FlyX.there {h : Heap} (x : FlyX B l e cls D fl h) : ∃ ob vs, h.get? e = some ob ∧ ob.cls = cls ∧ ob.dict = some D ∧ ob.data = .fields vs := by
  obtain ⟨_, _, _, oe, vs, _, _, _, he, hc, hd, _⟩ := x
  exact ⟨oe, vs, he, hc.1, hc.2, hd⟩
theorem entryX {head : Value} {hadNext : Bool} (hfr : A.frames = some (env :: outer)) (hl : s.heap.FunFrames B (env :: outer)) (hf : env.frame = some L) (he : s.heap.get? e = some oe) (hkb : B.StaysIn s.heap) (hen : B.get? e = none)
    (hd : oe.data = .fields vs) (hsz : 1 < vs.size) (hc : oe.cls = cls) (hD : oe.dict = some D)
    (h : ∀ h', FlyX B (env :: outer) e cls D (rawInt L) h' → s.heap.UpToSlots h' → Q () { s with heap := h' }) :
    wpAny M A (do let a ← frameOf env; let pl ← entryPlaceOf L hadNext; let b ← EntryCells.newEntry head a .none (rawInt L) .none pl; setField (.ref e) 1 b) Q E s := by
  have ne : e ∉ (env :: outer).filterMap (·.frame) := fun q => by
    obtain ⟨_, o, ho, hnf⟩ := hl.mem q
    rw [he] at ho; cases ho; exact hnf vs hd
  refine wpAny_bind (wpAny_frameOf_fun hfr hl hf fun h₁ x₁ => wpAny_bind (wpAny_entryPlaceOf fun pl hpl => ?_))
  unfold EntryCells.newEntry newFields
  refine wpAny_bind (wpAny_newObj_type ?_ (hpl.sizeOk5 _ _ _ _ _))
  have he₁ : h₁.get? e = some oe := (x₁.2.1 e ne).trans he
  have kb₁ : B.StaysIn h₁ := fun b o q => (x₁.2.1 b fun hm => by rw [(hl.mem hm).1] at q; cases q).trans (hkb b o q)
  generalize hT : ({ cls := .type "traceback", dict := none, data := .fields ([head, .ref L, .none, rawInt L, .none] ++ (if pl.isEmpty then List.replicate 6 Value.none else pl)).toArray } : Obj) = tb
  have he₂ := Heap.get?_push_of_some (h := h₁) tb he₁
  refine wpAny_setField he₂ hd hsz (h _ ?_ ?_)
  · have nT : h₁.objs.size ≠ e := Nat.ne_of_gt (Heap.lt_size he₁)
    have d3 := Obj.data_mapFields hd (·.setIfInBounds 1 (Value.ref h₁.objs.size))
    have keep : ∀ b o, b ≠ e → h₁.get? b = some o → ((h₁.push tb).update e (Obj.mapFields (·.setIfInBounds 1 (Value.ref h₁.objs.size)))).get? b = some o := fun b o q hb => by
      rw [Heap.get?_update_other _ _ (Ne.symm q)]; exact Heap.get?_push_of_some _ hb
    have nrec : ∀ b o, s.heap.get? b = some o → (∀ vs, o.data ≠ .fields vs) → b ≠ e := fun b o hb hnf q => by
      rw [q, he] at hb; cases hb; exact hnf vs hd
    refine ⟨fun b o q => keep b o (fun z => by rw [z, hen] at q; cases q) (kb₁ b o q), hen, hl.of_keeps fun b o hb hnf => ?_, ?_⟩
    · obtain ⟨sl, hs⟩ := x₁.2.2 b o hb
      exact ⟨_, keep b _ (nrec b o hb hnf) hs, rfl⟩
    · refine ⟨_, _, h₁.objs.size, tb, _, Heap.get?_update_self (Obj.mapFields (·.setIfInBounds 1 (Value.ref h₁.objs.size))) he₂ (Obj.isFreed_of_fields d3), ⟨(Obj.cls_mapFields _ _).trans hc, (mapF_dict _ _).trans hD⟩, d3, by simp [hsz], kb₁.fresh, nT, ?_, by rw [← hT], ?_⟩
      · rw [Heap.get?_update_other _ _ (Ne.symm nT)]
        refine Heap.get?_push_size h₁ ?_
        rw [← hT]; rfl
      · first | (simp; done) | (rcases hpl with rfl | ⟨_, _, _, _, _, _, _, rfl⟩ <;> simp)
  · intro b o hb hnf
    have q : b ≠ e := fun q => by rw [q, he] at hb; cases hb; exact hnf vs hd
    obtain ⟨sl, hs⟩ := x₁.2.2 b o hb
    refine ⟨sl, ?_⟩
    rw [Heap.get?_update_other _ _ (Ne.symm q)]; exact Heap.get?_push_of_some _ hs
theorem flightX (x : FlyX B l e cls D fl s.heap) (h : ∀ h', FlyX B l e cls D .none h' → s.heap.UpToSlots h' → Q () { s with heap := h' }) : wpAny M A (setFlight (.ref e) none) Q E s := by
  obtain ⟨f1, f2, f3, oe, vs, T, oT, ts, he, hcls, hd, h1, hnT, hTe, hT, hdT, h3⟩ := x
  have z3 : 3 < ts.size := (Array.getElem?_eq_some_iff.mp h3).1
  have other : ∀ b, b ≠ T → (s.heap.update T (Obj.mapFields (·.setIfInBounds 3 ((none : Option Addr).elim Value.none fun f => rawInt f)))).get? b = s.heap.get? b := fun b hb => Heap.get?_update_other _ _ (Ne.symm hb)
  have nrec : ∀ b o, s.heap.get? b = some o → (∀ vs, o.data ≠ .fields vs) → b ≠ T := fun b o hb hnf q => by
    rw [q, hT] at hb; cases hb; exact hnf ts hdT
  unfold setFlight
  refine wpAny_bind (wpAny_field he hd h1 ?_)
  rw [if_pos (show (Value.ref T != Value.none) = true from by simp)]
  refine wpAny_setField hT hdT z3 (h _ ⟨fun b o q => (other b fun z => by rw [z, hnT] at q; cases q).trans (f1 b o q), f2, f3.of_keeps fun b o hb hnf => ⟨o, (other b (nrec b o hb hnf)).trans hb, rfl⟩, ?_⟩ fun b o hb hnf => ⟨o.slots, (other b (nrec b o hb hnf)).trans hb⟩)
  exact ⟨oe, vs, T, _, _, (other e (Ne.symm hTe)).trans he, hcls, hd, h1, hnT, hTe, Heap.get?_update_self _ hT (Obj.isFreed_of_fields (Obj.data_mapFields hdT _)), Obj.data_mapFields hdT _, by simp [z3]⟩
theorem noteX (hfr : A.frames = some (env :: outer)) (hf : env.frame = some L) (x : FlyX B (env :: outer) e cls D .none s.heap)
    (h : ∀ h', FlyX B (env :: outer) e cls D (rawInt L) h' → s.heap.UpToSlots h' → Q () { s with heap := h' }) : wpAny M A (noteFrame (.ref e) env) Q E s := by
  obtain ⟨f1, f2, f3, oe, vs, T, oT, ts, he, hcls, hd, h1, hnT, hTe, hT, hdT, h3⟩ := x
  unfold noteFrame
  simp only [hf]
  refine wpAny_bind (wpAny_field he hd h1 ?_)
  rw [if_pos (show (Value.ref T != Value.none) = true from by simp)]
  refine wpAny_bind (wpAny_field hT hdT h3 ?_)
  rw [if_neg (show ¬ ((Value.none == rawInt L) = true) from by simp [rawInt])]
  refine wpAny_bind (wpAny_setField hT hdT (Array.getElem?_eq_some_iff.mp h3).1 ?_)
  have other : ∀ b, b ≠ T → (s.heap.update T (Obj.mapFields (·.setIfInBounds 3 Value.none))).get? b = s.heap.get? b := fun b hb => Heap.get?_update_other _ _ (Ne.symm hb)
  have nrec : ∀ b o, s.heap.get? b = some o → (∀ vs, o.data ≠ .fields vs) → b ≠ T := fun b o hb hnf q => by
    rw [q, hT] at hb; cases hb; exact hnf ts hdT
  refine entryX hfr (f3.of_keeps fun b o hb hnf => ⟨o, (other b (nrec b o hb hnf)).trans hb, rfl⟩) hf ((other e (Ne.symm hTe)).trans he) (fun b o q => (other b fun z => by rw [z, hnT] at q; cases q).trans (f1 b o q)) f2 hd (Array.getElem?_eq_some_iff.mp h1).1 hcls.1 hcls.2 fun h' x' u => h h' x' ?_
  exact fun b o hb hnf => u b o ((other b (nrec b o hb hnf)).trans hb) hnf
theorem noteX0 (hfr : A.frames = some (env :: outer)) (hl : s.heap.FunFrames B (env :: outer)) (hf : env.frame = some L) (he : s.heap.get? e = some oe) (hkb : B.StaysIn s.heap) (hen : B.get? e = none)
    (hd : oe.data = .fields vs) (h1 : vs[1]? = some .none) (hc : oe.cls = cls) (hD : oe.dict = some D)
    (h : ∀ h', FlyX B (env :: outer) e cls D (rawInt L) h' → s.heap.UpToSlots h' → Q () { s with heap := h' }) : wpAny M A (noteFrame (.ref e) env) Q E s := by
  unfold noteFrame
  simp only [hf]
  refine wpAny_bind (wpAny_field he hd h1 ?_)
  rw [if_neg (by decide)]
  exact entryX hfr hl hf he hkb hen hd (Array.getElem?_eq_some_iff.mp h1).1 hc hD h
theorem leaveX (hfr : A.frames = some (env :: outer)) (hf : env.frame = some L) (x : FlyX B (env :: outer) e cls D .none s.heap) (h : ∀ h', FlyX B outer e cls D .none h' → s.heap.UpToSlots h' → Q () { s with heap := h' }) :
    wpAny M A (leaving env (.ref e)) Q E s := by
  unfold leaving
  refine wpAny_bind (noteX hfr hf x fun h₁ x₁ u₁ => flightX x₁ fun h₂ x₂ u₂ => ?_)
  obtain ⟨k1, k2, ⟨_, _, k3⟩, k4⟩ := x₂
  exact h h₂ ⟨k1, k2, k3, k4⟩ (u₁.trans u₂)
theorem leaveX0 (hfr : A.frames = some (env :: outer)) (hl : s.heap.FunFrames B (env :: outer)) (hf : env.frame = some L) (he : s.heap.get? e = some oe) (hkb : B.StaysIn s.heap) (hen : B.get? e = none)
    (hd : oe.data = .fields vs) (h1 : vs[1]? = some .none) (hc : oe.cls = cls) (hD : oe.dict = some D) (h : ∀ h', FlyX B outer e cls D .none h' → s.heap.UpToSlots h' → Q () { s with heap := h' }) :
    wpAny M A (leaving env (.ref e)) Q E s := by
  unfold leaving
  refine wpAny_bind (noteX0 hfr hl hf he hkb hen hd h1 hc hD fun h₁ x₁ u₁ => flightX x₁ fun h₂ x₂ u₂ => ?_)
  obtain ⟨k1, k2, ⟨_, _, k3⟩, k4⟩ := x₂
  exact h h₂ ⟨k1, k2, k3, k4⟩ (u₁.trans u₂)
end
end Mine
end
section
open PySem PySem.W PyProof.Rows PySem.Calls
namespace Mine
noncomputable abbrev cSpotN : Str := nm 124
inductive XCore (F : Fd) (e D : Addr) (cls : Value) (news : List (Addr × Obj)) (m : Str → Option Value) (h : Heap) : Prop
  | made (oe : Obj) (vs : Array Value) : h.get? e = some oe → oe.cls = cls → oe.dict = some D → oe.data = .fields vs → vs[1]? = some .none → F.h₀.get? e = none → e ∉ news.map (·.1) → Fr F.h₀ F.L h m → News F.h₀ F.L h news → XCore F e D cls news m h
  | fly (B G : Heap) : F.base.StaysIn B → Fr F.h₀ F.L G m → G.UpToSlots h → (∀ b o, G.get? b = some o → b ∉ (F.env :: F.outer).filterMap (·.frame) → B.get? b = some o) → (∀ q ∈ news, B.get? q.1 = some q.2 ∧ F.h₀.get? q.1 = none) →
      FlyX B (F.env :: F.outer) e cls D .none h → XCore F e D cls news m h
noncomputable def XRof (P : Pk) (C : Addr) : XRel := fun F g real m a x s => ∃ e D es k v, x = .ref e ∧ getL cSpotN es = some (some v) ∧ P.VR g v a ∧ (((D, dictOf es k) :: led F.oth [] g real).map (·.1)).Nodup ∧ Rst F.rst s ∧ XCore F e D (.ref C) ((D, dictOf es k) :: led F.oth [] g real) m s.heap
theorem XCore.sub {F F' : Fd} {e D : Addr} {cls : Value} {news news' : List (Addr × Obj)} {m : Str → Option Value} {h : Heap} (hF : F'.h₀ = F.h₀ ∧ F'.L = F.L ∧ F'.base = F.base ∧ F'.env = F.env ∧ F'.outer = F.outer) (hs : ∀ q ∈ news', q ∈ news) (X : XCore F e D cls news m h) : XCore F' e D cls news' m h := by
  obtain ⟨h1, h2, h3, h4, h5⟩ := hF
  cases X with
  | made oe vs a1 a2 a3 a4 a5 a6 a7 a8 a9 =>
    exact .made oe vs a1 a2 a3 a4 a5 (h1 ▸ a6) (fun z => a7 (by obtain ⟨q, hq, e⟩ := List.mem_map.mp z; exact List.mem_map.mpr ⟨q, hs q hq, e⟩)) (h1 ▸ h2 ▸ a8) (h1 ▸ h2 ▸ fun q hq => a9 q (hs q hq))
  | fly B G a1 a2 a3 a4 a5 a6 =>
    exact .fly B G (h3 ▸ a1) (h1 ▸ h2 ▸ a2) a3 (h4 ▸ h5 ▸ a4) (fun q hq => h1 ▸ a5 q (hs q hq)) (h4 ▸ h5 ▸ a6)
theorem perm_nodup_sub {α : Type} {l l' : List α} (h : l'.Sublist l) (n : l.Nodup) : l'.Nodup := h.nodup n
section
variable {P : Pk} {C : Addr}
theorem xoth : XOth P (XRof P C) := fun F q g real m a x s X => by
  obtain ⟨e, D, es, k, v, rfl, h1, h2, h3, h4, h5⟩ := X
  refine ⟨e, D, es, k, v, rfl, h1, h2, ?_, h4, XCore.sub (F := F.with q) (F' := F) ⟨rfl, rfl, rfl, rfl, rfl⟩ (fun p hp => ?_) h5⟩
  · have p := ((led_with (F := F) (cells := []) (g := g) (real := real) q).cons (D, dictOf es k)).map (·.1)
    have n := p.nodup_iff.mp h3
    have n := List.nodup_cons.mp n
    refine List.nodup_cons.mpr ⟨fun z => n.1 (.tail _ z), (List.nodup_cons.mp n.2).2⟩
  · rcases List.mem_cons.mp hp with z | z
    · subst z; exact .head _
    · exact .tail _ ((led_with (F := F) (cells := []) (g := g) (real := real) q).mem_iff.mpr (.tail _ z))
theorem envX_frame {qual : Str} {scope : Scope} {L f : Addr} {cdv : Value} {cl : List (Str × Addr)} : (envX qual scope L f cdv cl).frame = some L := rfl
theorem mem_frames {env : Env} {L b : Addr} {outer : List Env} (hf : env.frame = some L) (hm : b ∈ (env :: outer).filterMap (·.frame)) : b = L ∨ b ∈ outer.filterMap (·.frame) := by
  rw [List.filterMap_cons, hf] at hm
  rcases List.mem_cons.mp hm with z | z
  · exact .inl z
  · exact .inr z
theorem xleave : XLeave P (XRof P C) := by
  intro F A' H cells gG qual scope L' f cdv cl m h CF CC Frh FG Nc g real m' a x s' X Q E hQ
  obtain ⟨e, D, es, k, v, rfl, h1, h2, h3, h4, X⟩ := X
  have K : Below A' F.base (F.env :: F.outer) gG := CC.below
  have FGk := FG
  have sub : ∀ q ∈ (D, dictOf es k) :: led F.oth [] g real, q ∈ (D, dictOf es k) :: led (cells ++ F.oth) [] g real := fun q hq => by
    rcases List.mem_cons.mp hq with z | z
    · subst z; exact .head _
    · refine .tail _ ?_
      show q ∈ [] ++ (cells ++ F.oth ++ _)
      have z : q ∈ [] ++ (F.oth ++ _) := z
      rw [List.nil_append] at z ⊢
      rw [List.append_assoc]
      exact List.mem_append_right _ z
  have nd : (((D, dictOf es k) :: led F.oth [] g real).map (·.1)).Nodup := by
    refine perm_nodup_sub ?_ h3
    refine (List.Sublist.cons_cons _ ?_).map _
    show ([] ++ (F.oth ++ _)).Sublist ([] ++ (cells ++ F.oth ++ _))
    rw [List.nil_append, List.nil_append, List.append_assoc]
    exact List.sublist_append_right _ _
  have fr : (A'.deeper (envX qual scope L' f cdv cl)).frames = some (envX qual scope L' f cdv cl :: F.env :: F.outer) := by
    rw [Around.frames_deeper K.stack]
  have back : ∀ (B : Heap) (h'' : Heap), F.base.StaysIn B → (∀ b o, gG.get? b = some o → b ∉ (F.env :: F.outer).filterMap (·.frame) → B.get? b = some o) → (∀ q ∈ (D, dictOf es k) :: led (cells ++ F.oth) [] g real, B.get? q.1 = some q.2 ∧ gG.get? q.1 = none) →
      FlyX B (F.env :: F.outer) e (.ref C) D .none h'' → gG.UpToSlots h'' → XRof P C F g real m a (.ref e) { s' with heap := h'' } := fun B h'' b1 b2 b3 b4 b5 =>
    ⟨e, D, es, k, v, rfl, h1, h2, nd, h4.heap _, .fly B gG b1 FG b5 b2 (fun q hq => ⟨(b3 q (sub q hq)).1, kts_none FG.keep (b3 q (sub q hq)).2⟩) b4⟩
  cases X with
  | made oe vs a1 a2 a3 a4 a5 a6 a7 a8 a9 =>
    have a8 : Fr gG L' s'.heap m' := a8
    have a9 : News gG L' s'.heap ((D, dictOf es k) :: led (cells ++ F.oth) [] g real) := a9
    have a6 : gG.get? e = none := a6
    have K' : Below (A'.deeper (envX qual scope L' f cdv cl)) F.base (envX qual scope L' f cdv cl :: F.env :: F.outer) s'.heap := by
      refine ⟨fr, fun b o q => a8.keep b o (K.stays b o q), ⟨CC.kind ▸ (by decide), ?_, ?_⟩⟩
      · obtain ⟨o, es', ep, ho, hd, _⟩ := a8.ns
        refine ⟨L', o, rfl, ?_, ho, fun vs q => by rw [hd] at q; cases q⟩
        cases hq : F.base.get? L' with
        | none => rfl
        | some o' => have := K.stays _ _ hq; rw [kts_self a8] at this; cases this
      · exact K.frames.of_keeps fun b o q _ => ⟨o, a8.keep b o q, rfl⟩
    have hin : ∀ env ∈ (envX qual scope L' f cdv cl :: F.env :: F.outer), ∀ b, env.frame = some b → b ∈ (envX qual scope L' f cdv cl :: F.env :: F.outer).filterMap (·.frame) := fun env he b hb => List.mem_filterMap.mpr ⟨env, he, hb⟩
    generalize hl : (envX qual scope L' f cdv cl :: F.env :: F.outer).filterMap (·.frame) = fs at *
    have fsG : ∀ b ∈ fs, b = L' ∨ ∃ o, gG.get? b = some o := fun b hb => by
      rw [← hl] at hb
      rcases mem_frames envX_frame hb with z | z
      · exact .inl z
      · obtain ⟨_, o, ho, _⟩ := K.frames.mem z; exact .inr ⟨o, ho⟩
    have nfs : ∀ b, gG.get? b = none → b ≠ L' → b ∉ fs := fun b e1 e2 hb => by
      rcases fsG b hb with z | ⟨o, z⟩
      · exact e2 z
      · rw [e1] at z; cases z
    have stB : F.base.StaysIn (hideAll s'.heap (e :: fs)) := fun b o q => hideAll_get _ (K'.stays b o q) fun hm => by
      rcases List.mem_cons.mp hm with z | z
      · subst z; have := K.stays _ _ q; rw [a6] at this; cases this
      · rw [← hl] at z; rw [(K'.frames.mem z).1] at q; cases q
    have nL : e ≠ L' := fun z => by
      obtain ⟨o, es', ep, ho, hd, _⟩ := a8.ns
      rw [← z, a1] at ho; cases ho; rw [a4] at hd; cases hd
    have nfr : ∀ b, b ∈ fs → b = L' ∨ b ∈ (F.env :: F.outer).filterMap (·.frame) := fun b hb => by
      rw [← hl] at hb; exact mem_frames envX_frame hb
    refine leaveX0 (B := hideAll s'.heap (e :: fs)) fr (funFrames_hide K'.frames fun env he a ha => List.mem_cons_of_mem _ (hin env he a ha)) envX_frame a1 (fun b o q => of_hideAll _ q) (hideAll_none _ (.head _)) a4 a5 a2 a3 fun h'' x'' u'' => hQ _ (back _ h'' stB (fun b o q nm => hideAll_get _ (a8.keep b o q) fun hm => ?_) (fun q hq => ⟨hideAll_get _ (a9 q hq).1 fun hm => ?_, (a9 q hq).2.2⟩) x'' ((Heap.UpToSlots.of_keeps a8.keep).trans u''))
    · rcases List.mem_cons.mp hm with z | z
      · subst z; rw [a6] at q; cases q
      · rcases nfr b z with z | z
        · subst z; rw [kts_self a8] at q; cases q
        · exact nm z
    · rcases List.mem_cons.mp hm with z | z
      · exact a7 (List.mem_map.mpr ⟨q, hq, z⟩)
      · exact nfs _ (a9 q hq).2.2 (a9 q hq).2.1 z
  | fly B G a1 a2 a3 a4 a5 a6 =>
    refine leaveX fr envX_frame a6 fun h'' x'' u'' => hQ _ (back B h'' a1 (fun b o q nm => a4 b o (a2.keep b o q) fun hm => ?_) a5 x'' ((Heap.UpToSlots.of_keeps a2.keep).trans (a3.trans u'')))
    rcases mem_frames envX_frame hm with z | z
    · subst z; rw [kts_self a2] at q; cases q
    · exact nm z
end
end Mine
end
section
open PySem PySem.W PyProof.Rows PySem.Calls
namespace Mine
section
variable {M : Model} {A : Around} {E : Value → Shared → Prop} {h : Heap} {g : Array GenState} {d : Drawn} {t : Nat} {os : OsState}
variable {nm q : Str} {C N : Addr} {bs bm bmB : List Value} {hdct : Bool} {sn : List Str} {sub : List Value} {ab : Bool} {col : Option Bool} {dd : Option Addr} {k0 k1 k2 k3 k5 : Option Value} {B newId initId : String}
theorem check_newX (F : ExcBaseFacts B newId initId bmB) (hT : ∀ X : String, bm.contains (.type X) = bmB.contains (.type X)) {rest : List Value} {Q : Unit → Shared → Prop} (hC : h.get? C = some (excClassObj nm q C N bs bm hdct sn sub ab col dd k0 k1 k2 k3 k5 newId))
    (hq : Q () ⟨h, g, d, t, os⟩) : wpAny M A (checkBuiltinCall newId ⟨.ref C :: rest, []⟩) Q E ⟨h, g, d, t, os⟩ := by
  have c1 : (Value.ref C :: bm).contains (.type B) = true := by rw [List.contains_cons, hT, F.hasB, Bool.or_true]
  have c2 := F.noStar
  simp only [checkBuiltinCall, F.newKind, F.newSplit, F.newRow]
  repeat (first | refine wpAny_loadPart_at hC ?_ | (refine wpAny_isSubtype_exc hC ?_; rw [c1]) | refine wpAny_staticBase_exc hC ?_ | refine wpAny_madeBy_exc hC ?_ | simp only [bne_self_eq_false, Bool.false_eq_true, if_false] | wp_step)
  exact hq
end
section
variable {prog : Program} {w : World} {A : Around} {R : Result → Shared → Prop} {h : Heap} {g : Array GenState} {d : Drawn} {t : Nat} {os : OsState}
variable {nm q : Str} {C N : Addr} {bs bm bmB : List Value} {hdct : Bool} {sn : List Str} {sub : List Value} {ab : Bool} {col : Option Bool} {dd : Option Addr} {k0 k1 k2 k3 k5 : Option Value} {B newId initId : String}
noncomputable abbrev excO (C t : Addr) (D : Option Addr) : Obj := { cls := .ref C, dict := D, data := .fields #[.ref t, .none, .none, .none, .bool false, .none] }
theorem code_newX (F : ExcBaseFacts B newId initId bmB) (hT : ∀ X : String, bm.contains (.type X) = bmB.contains (.type X)) {rest : List Value} (hC : h.get? C = some (excClassObj nm q C N bs bm hdct sn sub ab col dd k0 k1 k2 k3 k5 newId))
    (hq : R (.ok (.ret (.ref (h.objs.size + 1)))) ⟨(h.push (tupO rest)).push (excO C h.objs.size none), g, d, t, os⟩) (hrest : rest.length ≤ sizeLine := by size_fits) :
    codeAny (model prog w) A (.builtin newId ⟨.ref C :: rest, []⟩) R ⟨h, g, d, t, os⟩ := by
  have c0 := F.ends
  have c1 : (Value.ref C :: bm).contains (.type B) = true := by rw [List.contains_cons, hT, F.hasB, Bool.or_true]
  have c2 : (Value.ref C :: bm).contains (.type "AttributeError") = false := by rw [List.contains_cons, hT, F.noAttr]; rfl
  have c3 : (Value.ref C :: bm).contains (.type "NameError") = false := by rw [List.contains_cons, hT, F.noName]; rfl
  refine codeAny_builtinAt F.entry ?_
  unfold Builtin.«BaseException.__new__»
  refine PySem.wpAt_bind ?_
  show PySem.wpAt _ _ _ (stack >>= _) _ _ _
  refine PySem.wpAt_bind (PySem.wpAt_stack fun p below => PySem.wpAt_of_wpAny ?_)
  wp_walk
  refine PySem.wpAt_of_wpAny ?_
  rw [F.owner]
  repeat (first | with_reducible refine wpAny_madeHere_exc F.canon hC ?_ | with_reducible refine wpAny_loadPart_at hC ?_ | (with_reducible refine wpAny_isSubtype_exc hC ?_; first | rw [c1] | rw [c2] | rw [c3]) | wp_step)
  show R _ _
  rw [Heap.size_push]
  exact hq
theorem exc_call {K : Frag} {fI : Addr} {rest : List Value} (F : ExcBaseFacts B newId initId bmB) (hT : ∀ X : String, bm.contains (.type X) = bmB.contains (.type X)) (X : K.In h) (hC : h.get? C = some (excClassObj nm q C N bs bm hdct sn sub ab col dd k0 k1 k2 k3 k5 newId))
    (hi : findIn K (.ref C) "__init__" = some (some (.ref fI))) (hfn : isFn K (.ref fI) = true) (hcl : specialIn K (.ref C) "__call__" = some (some (.builtin "type.__call__"))) (hty : instIn K (.ref C) (.type "type") = some true) (hrest : rest.length ≤ sizeLine)
    (hq : codeAny (model prog w) (A.under (.builtin "type.__call__" ⟨.ref C :: rest, []⟩)) (.call (.ref fI) ⟨.ref (h.objs.size + 1) :: rest, []⟩) (InitBack (h.objs.size + 1) R) ⟨(h.push (tupO rest)).push (excO C h.objs.size none), g, d, t, os⟩) :
    codeAny (model prog w) A (.call (.ref C) ⟨rest, []⟩) R ⟨h, g, d, t, os⟩ := by
  have call : Looks (model prog w) h (specialOf (.ref C) "__call__") (some (.builtin "type.__call__")) := looks_specialIn X hcl
  have typ : Looks (model prog w) h (isInstance (.ref C) (.type "type")) true := looks_instIn X hty
  have e4 : (Value.ref C :: bm).isEmpty = false := rfl
  refine codeAny_of_tree ?_
  show wpAny _ _ (callAny (.ref C) _) _ _ _
  refine nd_load hC ?_
  show wpAny _ _ (callAny.viaDunder (.ref C) _) _ _ _
  unfold callAny.viaDunder
  refine wpAny_bind (call.at ?_)
  dsimp only
  rw [tc_bind]
  refine wpAny_bind (wpAny_pure (wpAny_bind (wpAny_pure ?_)))
  refine wpAny_pure (a := Fin.again (.call (.builtin "type.__call__") ⟨.ref C :: rest, []⟩)) (And.intro rfl ?_)
  refine codeAny_call_builtin_at (Code.quiet_builtin _ (by decide +kernel)) entry_typeCall (check_slot tc_kind tc_split typ (tc_args _ _ _) ?_)
  unfold Builtin.«type.__call__»
  have hm : Looks (model prog w) h (mroOf (.ref C)) (.ref C :: bm) := ((Looks.ld (part := none) hC).andThen .now).andThen .now
  have made : Looks (model prog w) h (Bind.madeBy (.ref C)) (some newId) := by
    intro A Q E s hk hQ
    obtain ⟨hp, g, d, tk, os⟩ := s
    exact wpAny_madeBy_exc (hk _ _ hC) hQ
  repeat (first | simp only [e4, Bool.false_eq_true, if_false] | with_reducible refine wpAny_call ?_ | lk)
  refine codeAny_call_builtin_code (Code.quiet_builtin _ F.quiet) (check_newX F hT hC (code_newX F hT hC ?_ hrest))
  have k : ∀ b o, h.get? b = some o → ((h.push (tupO rest)).push (excO C h.objs.size none)).get? b = some o := fun b o e => Heap.get?_push_of_some _ (Heap.get?_push_of_some _ e)
  have hx : ((h.push (tupO rest)).push (excO C h.objs.size none)).get? (h.objs.size + 1) = some (excO C h.objs.size none) := by heap_get
  have t1 : Looks (model prog w) ((h.push (tupO rest)).push (excO C h.objs.size none)) (typeOf (.ref (h.objs.size + 1))) (.ref C) := (Looks.ld hx).andThen .now
  have s1 : Looks (model prog w) ((h.push (tupO rest)).push (excO C h.objs.size none)) (isSubtype (.ref C) (.ref C)) true := by
    intro A Q E s hk hQ
    obtain ⟨hp, g, d, tk, os⟩ := s
    refine wpAny_isSubtype_exc (hk _ _ (k _ _ hC)) ?_
    rw [show (Value.ref C :: bm).contains (.ref C) = true by simp]
    exact hQ
  have i1 := (looks_findIn (M := model prog w) X hi).keeps k
  have b1 := (bind_fn (M := model prog w) X (.ref (h.objs.size + 1)) (beq_iff_eq.mp hfn)).keeps k
  unfold isInstance callSpecial? specialOf
  repeat (first | with_reducible refine wpAny_call ?_ | lk)
  refine codeAny_mono hq fun r s' z => ?_
  rcases r with e | (v | _ | _ | _) <;> first | exact z | exact z.elim | skip
  obtain ⟨rfl, z⟩ := z
  exact wpAny_pure (wpAny_pure z)
end
end Mine
end
section
open PySem PySem.W PyProof.Rows PySem.Calls
namespace Mine
noncomputable abbrev F_X := PySem.F.excBase_Exception
section
variable {M : Model} {A : Around} {E : Value → Shared → Prop} {h : Heap} {g : Array GenState} {d : Drawn} {t : Nat} {os : OsState}
variable {nm q : Str} {C N : Addr} {bs bm bmB : List Value} {hdct : Bool} {sn : List Str} {sub : List Value} {ab : Bool} {col : Option Bool} {dd : Option Addr} {k0 k1 k2 k3 k5 : Option Value} {B newId initId : String}
theorem check_initX (F : ExcBaseFacts B newId initId bmB) (hT : ∀ X : String, bm.contains (.type X) = bmB.contains (.type X)) {e : Addr} {oe : Obj} {rest : List Value} {Q : Unit → Shared → Prop}
    (hC : h.get? C = some (excClassObj nm q C N bs bm hdct sn sub ab col dd k0 k1 k2 k3 k5 newId)) (he : h.get? e = some oe) (hcls : oe.cls = .ref C) (hq : Q () ⟨h, g, d, t, os⟩) :
    wpAny M A (checkBuiltinCall initId ⟨.ref e :: rest, []⟩) Q E ⟨h, g, d, t, os⟩ := by
  have c1 : (Value.ref C :: bm).contains (.type B) = true := by rw [List.contains_cons, hT, F.hasB, Bool.or_true]
  have c2 := F.noStar
  simp only [checkBuiltinCall, F.initKind, F.initSplit, F.initRow]
  repeat (first | (with_reducible refine wpAny_loadPart_at he ?_; rw [hcls]) | with_reducible refine wpAny_loadPart_at hC ?_ | (with_reducible refine wpAny_isSubtype_exc hC ?_; rw [c1]) | wp_step)
  refine wpAny_onRaise ?_
  rw [show ∀ (a b : String) (n : Nat), Bind.check ⟨.positional, "*", B, .self, [⟨"args", .varPos, false⟩]⟩ a b n (List.map (fun x => x.fst) ({ pos := Value.ref e :: rest } : Args).kw) = pure () from
    fun a b n => check_star_args _ _ _ _ _ _]
  exact wpAny_pure hq
end
section
variable {prog : Program} {w : World} {A : Around} {E : Value → Shared → Prop} {s : Shared} {h₀ : Heap} {L : Addr} {m : Str → Option Value} {K : Frag}
variable {nm q : Str} {C N : Addr} {bs bm bmB : List Value} {hdct : Bool} {sn : List Str} {sub : List Value} {ab : Bool} {col : Option Bool} {dd : Option Addr} {k0 k1 k2 k3 k5 : Option Value} {B newId initId : String}
theorem exc_init {e tt : Addr} {D : Option Addr} {mv : Value} {rest : List (Addr × Obj)} {Q : Value → Shared → Prop} (FB : ExcBaseFacts B newId initId bmB) (hT : ∀ X : String, bm.contains (.type X) = bmB.contains (.type X)) (F : Fr h₀ L s.heap m) (N' : News h₀ L s.heap ((e, excO C tt D) :: rest)) (ne : ∀ p ∈ rest, p.1 ≠ e)
    (hC : h₀.get? C = some (excClassObj nm q C N bs bm hdct sn sub ab col dd k0 k1 k2 k3 k5 newId))
    (h : ∀ h' t', Fr h₀ L h' m → News h₀ L h' ((e, excO C t' D) :: rest) → Q .none { s with heap := h' }) :
    wpAny (model prog w) A (call (.builtin initId) [.ref e, mv]) Q E s := by
  obtain ⟨hp, g, d, t, os⟩ := s
  have F : Fr h₀ L hp m := F
  have N' : News h₀ L hp ((e, excO C tt D) :: rest) := N'
  have he : hp.get? e = some (excO C tt D) := (N' _ (.head _)).1
  refine wpAny_call (codeAny_call_builtin FB.init.plain FB.initEntry (check_initX FB hT (F.keep _ _ hC) he rfl ?_))
  wp_walk
  have F1 := F.push (tupO [mv])
  have N1 : News h₀ L (hp.push (tupO [mv])) ((e, excO C tt D) :: rest) := N'.pushKeep (tupO [mv])
  obtain ⟨F2, N2⟩ := news_upd (pre := []) (f := Obj.mapFields (·.setIfInBounds 0 (Value.ref hp.objs.size))) F1 N1 (fun _ h => nomatch h) ne (o' := excO C hp.objs.size D) rfl rfl
  exact h _ _ F2 N2
end
end Mine
end
section
open PySem PySem.W PyProof.Rows PySem.Calls Builtin Builtin.ObjectAttr
namespace Mine
theorem refuse_exc (self : Value) : refuseLoop self "__setattr__" [.type "Exception", .type "BaseException", .type "object"] = pure () := by kernel_rfl
section
variable {prog : Program} {w : World} {A : Around} {E : Value → Shared → Prop} {s : Shared} {h₀ : Heap} {L : Addr} {m : Str → Option Value} {K : Frag} {C CE x D : Addr} {ox : Obj} {od : Option Obj} {name : Str} {v : Value} {R : Result → Shared → Prop}
structure ExcSet (K : Frag) (C CE : Addr) (name : Str) : Prop where
  mro : (clsIn K C).map (·.mro) = some [.ref C, .ref CE, .type "Exception", .type "BaseException", .type "object"]
  dct : hasDictIn K C = true
  no : findIn K (.ref C) name = some none
  set : findIn K (.ref C) "__setattr__" = some (some (.builtin "object.__setattr__"))
theorem osx_open {tk : Tok} (Z : ExcSet K C CE name) (X : K.In s.heap) (I : InstAt s.heap x ox C od)
    (h : wpAny (model prog w) A.in1 (storeInOwnDict (.ref x) (.ref C) (.str name tk) name v false)
      (fun fin s' => match fin with | .done f => R (.ok f) s' | .again c' => c'.quiet = true ∧ codeAny (model prog w) A c' R s') (fun e s' => R (.error e) s') s) :
    codeAny (model prog w) A (.call (.builtin "object.__setattr__") ⟨[.ref x, .str name tk, v], []⟩) R s := by
  have SF := PySem.F.store_object
  obtain ⟨cd, hc, ho⟩ := Option.map_eq_some_iff.mp Z.mro
  have ne : cd.mro.isEmpty = false := by rw [ho]; rfl
  have sub : Looks (model prog w) s.heap (isInstance (.ref x) (.type "object")) true := I.type.andThen (looks_mroIn X (by unfold mroIn; rw [hc, Option.bind_some, if_neg (by rw [ne]; decide), ho]; simp))
  refine codeAny_call_builtin SF.slot.plain SF.entry (@check_slot (model prog w) _ _ s "object.__setattr__" "object" "__setattr__" (.ref x) [.str name tk, v] [] _ SF.kind SF.split sub (SF.args (.ref x) (.str name tk) v) ?_)
  have hm : Looks (model prog w) s.heap (mroOf (.ref C)) cd.mro := (looks_clsIn X hc).andThen .now
  rw [osa_eq, refuse_eq]
  refine wpAny_bind (wpAny_bind (I.type.here (wpAny_bind (hm.here ?_))))
  rw [ho, refuseLoop_ref, refuseLoop_ref, refuse_exc]
  refine wpAny_pure (wpAny_bind (I.type.here (wpAny_bind ((looks_findIn X Z.no).here (wpAny_bind (wpAny_pure ?_))))))
  exact h
theorem store_dict {es : List DictEntry} {k : Nat} {tk : Tok} {pre post : List (Addr × Obj)} {Q : Fin → Shared → Prop} (F : Fr h₀ L s.heap m) (N : News h₀ L s.heap (pre ++ (D, dictOf es k) :: post)) (h1 : ∀ p ∈ pre, p.1 ≠ D) (h2 : ∀ p ∈ post, p.1 ≠ D) (hl : (getL name es).isSome = true) (hz : es.length + 1 ≤ 1000)
    (h : ∀ h', Fr h₀ L h' m → News h₀ L h' (pre ++ (D, dictOf (putL name (PyData.keyHash w.params name) (.str name s.toks) v es) (putN name es k)) :: post) → Q (.done (.ret .none)) { s with heap := h', toks := s.toks + 1 }) :
    wpAny (model prog w) A (storeInDict D (.str name tk) name v) Q E s := by
  obtain ⟨U1, U2⟩ := news_upd (f := Obj.putName name (PyData.keyHash w.params name) (.str name s.toks) v) F N h1 h2 (putName_dict ..) rfl
  have D1 := (N (D, dictOf es k) (by simp)).1
  have D2 := (U2 (D, dictOf (putL name (PyData.keyHash w.params name) (.str name s.toks) v es) (putN name es k)) (List.mem_append_right _ (.head _))).1
  have hz2 : (putL name (PyData.keyHash w.params name) (.str name s.toks) v es).length ≤ 1000 := Nat.le_trans (putL_len _ _ _ _ _) hz
  refine wpAny_bind (wpAny_pure (wpAny_bind ?_))
  unfold nsSet
  refine wpAny_bind (wpAny_bind (wpAny_askSetting (wpAny_pure (wpAny_bind (wpAny_mkText (wpAny_bind (wpAny_loadPart D1 ?_)))))))
  have c : (!es.toArray.any (·.key.isStr name) && es.toArray.any (·.refKey)) = false := by
    rw [← Array.any_toList, ← Array.any_toList]
    show (!es.any (·.key.isStr name) && es.any (·.refKey)) = false
    unfold getL at hl
    split at hl
    · rename_i en he
      rw [List.any_eq_true.mpr ⟨en, List.mem_of_find?_eq_some he, List.find?_some he⟩]; rfl
    · split at hl
      · cases hl
      · rename_i z; rw [Bool.not_eq_true] at z; rw [z, Bool.and_false]
  dsimp only
  rw [aRefKeyMayBeTheName_at, c]
  refine wpAny_updatePart D1 ?_
  refine wpAny_bind (wpAny_lookBehind D2 (pastItsLine_dict (by rw [List.size_toArray, sizeLine_eq]; omega)) ?_)
  exact wpAny_pure (h _ U1 U2)
theorem own_dict0 {tt : Addr} {tk : Tok} {rest : List (Addr × Obj)} {Q : Fin → Shared → Prop} (Z : ExcSet K C CE name) (X : K.In s.heap) (F : Fr h₀ L s.heap m) (N : News h₀ L s.heap ((x, excO C tt none) :: rest)) (ne : ∀ p ∈ rest, p.1 ≠ x)
    (h : ∀ h', Fr h₀ L h' m → News h₀ L h' ((s.heap.objs.size, dictOf (putL name (PyData.keyHash w.params name) (.str name s.toks) v []) (putN name [] 0)) :: (x, excO C tt (some s.heap.objs.size)) :: rest) → Q (.done (.ret .none)) { s with heap := h', toks := s.toks + 1 }) :
    wpAny (model prog w) A (storeInOwnDict (.ref x) (.ref C) (.str name tk) name v false) Q E s := by
  obtain ⟨cd, hc, hd⟩ := any_some Z.dct
  have lt : ∀ p ∈ (x, excO C tt none) :: rest, p.1 ≠ s.heap.objs.size := fun p hp => Nat.ne_of_lt (Heap.lt_size (N p hp).1)
  have F1 := F.push emptyDict
  have N1 := News.push F N emptyDict
  obtain ⟨F2, N2⟩ := news_upd (pre := [(s.heap.objs.size, emptyDict)]) (f := fun o => { o with dict := some s.heap.objs.size }) F1 N1 (fun p hp => by rw [List.mem_singleton.mp hp]; exact Ne.symm (lt _ (.head _))) ne (o' := excO C tt (some s.heap.objs.size)) rfl rfl
  have hx := (N _ (.head _)).1
  refine wpAny_bind (wpAny_pure (wpAny_bind (wpAny_bind (wpAny_loadPart hx (wpAny_bind ((looks_clsIn X hc).here ?_))))))
  rw [hd]
  show wpAny _ _ (alloc emptyDict >>= fun d => (update x fun o => { o with dict := some d }) >>= fun _ => dictMade (.ref C) x d) _ _ _
  refine wpAny_bind (wpAny_alloc (wpAny_bind (wpAny_update (Heap.get?_push_of_some _ hx) ?_)))
  refine wpAny_bind (wpAny_pure (wpAny_pure ?_))
  exact store_dict (s := { s with heap := _ }) (pre := []) F2 N2 (fun _ h => nomatch h) (fun p hp => by
    rcases List.mem_cons.mp hp with e | hp
    · rw [e]; exact lt (x, excO C tt none) (.head _)
    · exact lt _ (.tail _ hp)) rfl (by decide) h
theorem own_dict {tt : Addr} {tk : Tok} {es : List DictEntry} {k : Nat} {pre post : List (Addr × Obj)} {Q : Fin → Shared → Prop} (Z : ExcSet K C CE name) (X : K.In s.heap) (F : Fr h₀ L s.heap m) (N : News h₀ L s.heap (pre ++ (D, dictOf es k) :: post)) (h1 : ∀ p ∈ pre, p.1 ≠ D) (h2 : ∀ p ∈ post, p.1 ≠ D)
    (hx : s.heap.get? x = some (excO C tt (some D))) (hl : (getL name es).isSome = true) (hz : es.length + 1 ≤ 1000)
    (h : ∀ h', Fr h₀ L h' m → News h₀ L h' (pre ++ (D, dictOf (putL name (PyData.keyHash w.params name) (.str name s.toks) v es) (putN name es k)) :: post) → Q (.done (.ret .none)) { s with heap := h', toks := s.toks + 1 }) :
    wpAny (model prog w) A (storeInOwnDict (.ref x) (.ref C) (.str name tk) name v false) Q E s := by
  obtain ⟨cd, hc, hd⟩ := any_some Z.dct
  refine wpAny_bind (wpAny_pure (wpAny_bind (wpAny_bind (wpAny_loadPart hx (wpAny_bind ((looks_clsIn X hc).here ?_))))))
  rw [hd]
  refine wpAny_pure (a := some D) (wpAny_bind (wpAny_pure ?_))
  exact store_dict (tk := tk) F N h1 h2 hl hz h
theorem exc_set0 {tt : Addr} {rest : List (Addr × Obj)} {Q : Unit → Shared → Prop} (Z : ExcSet K C CE name) (X₀ : K.In h₀) (F : Fr h₀ L s.heap m) (N : News h₀ L s.heap ((x, excO C tt none) :: rest)) (ne : ∀ p ∈ rest, p.1 ≠ x)
    (h : ∀ h', Fr h₀ L h' m → News h₀ L h' ((s.heap.objs.size, dictOf (putL name (PyData.keyHash w.params name) (.str name (s.toks + 1)) v []) (putN name [] 0)) :: (x, excO C tt (some s.heap.objs.size)) :: rest) → Q () { s with heap := h', toks := s.toks + 2 }) :
    wpAny (model prog w) A (setAttr (.ref x) name v) Q E s := by
  have I : InstAt s.heap x (excO C tt none) C none := ⟨(N _ (.head _)).1, rfl, rfl, trivial⟩
  have X := X₀.keeps F.keep
  exact set_plain X I Z.set (osx_open (s := { s with toks := s.toks + 1 }) Z X I (own_dict0 (s := { s with toks := s.toks + 1 }) Z X F N ne h))
theorem exc_set {tt : Addr} {es : List DictEntry} {k : Nat} {pre post : List (Addr × Obj)} {Q : Unit → Shared → Prop} (Z : ExcSet K C CE name) (X₀ : K.In h₀) (F : Fr h₀ L s.heap m) (N : News h₀ L s.heap (pre ++ (D, dictOf es k) :: post)) (h1 : ∀ p ∈ pre, p.1 ≠ D) (h2 : ∀ p ∈ post, p.1 ≠ D)
    (hx : s.heap.get? x = some (excO C tt (some D))) (hl : (getL name es).isSome = true) (hz : es.length + 1 ≤ 1000)
    (h : ∀ h', Fr h₀ L h' m → News h₀ L h' (pre ++ (D, dictOf (putL name (PyData.keyHash w.params name) (.str name (s.toks + 1)) v es) (putN name es k)) :: post) → Q () { s with heap := h', toks := s.toks + 2 }) :
    wpAny (model prog w) A (setAttr (.ref x) name v) Q E s := by
  have I : InstAt s.heap x (excO C tt (some D)) C (some (dictOf es k)) := ⟨hx, rfl, rfl, (N (D, dictOf es k) (List.mem_append_right _ (.head _))).1⟩
  have X := X₀.keeps F.keep
  exact set_plain X I Z.set (osx_open (s := { s with toks := s.toks + 1 }) Z X I (own_dict (s := { s with toks := s.toks + 1 }) Z X F N h1 h2 hx hl hz h))
end
end Mine
end
section
open PySem PySem.W PyProof.Rows PySem.Calls
namespace Mine
noncomputable abbrev bmT (CE : Addr) : List Value := [.ref CE, .type "Exception", .type "BaseException", .type "object"]
noncomputable abbrev bmE : List Value := [.type "Exception", .type "BaseException", .type "object"]
theorem hT_of (CE : Addr) (X : String) : (bmT CE).contains (.type X) = bmE.contains (.type X) := by
  show ((Value.type X == Value.ref CE) || bmE.contains (.type X)) = _
  rw [show (Value.type X == Value.ref CE) = false from rfl, Bool.false_or]
structure InitAst (body : List Stmt) : Prop where
  is : ∃ p1 p2 p3 p4 p5 p6 q1 q2 q3 q4 q5 q6 q7 q8 : Pos, (p2.endLine == p5.line) = true ∧ body = [.Expr (.Call (.Attribute (.Name "Exception" p1) "__init__" p2) [.Name "self" p3, .Name "message" p4] [] p5) p6,
    .Assign [.Attribute (.Name "self" q1) "message" q2] (.Name "message" q3) q4, .Assign [.Attribute (.Name "self" q5) "spot" q6] (.Name "spot" q7) q8]
structure ExcOk (P : Pk) (C CE fI : Addr) : Prop where
  obj : ∃ nm q N bs hdct sn sub ab col dd k0 k1 k2 k3 k5, P.K.lookup C = some (excClassObj nm q C N bs (bmT CE) hdct sn sub ab col dd k0 k1 k2 k3 k5 "Exception.__new__")
  init : findIn P.K (.ref C) "__init__" = some (some (.ref fI))
  fn : isFn P.K (.ref fI) = true
  call : specialIn P.K (.ref C) "__call__" = some (some (.builtin "type.__call__"))
  inst : instIn P.K (.ref C) (.type "type") = some true
  msg : ExcSet P.K C CE "message"
  spot : ExcSet P.K C CE "spot"
  name : nsIn P.K mainGlobals "Exception" = some none
  meth : findCls P.K (.type "Exception") (.type "type") "__init__" = some (.val (.builtin "Exception.__init__"))
  code : ∃ name qual params body scope dV kV doc pm cdv ct oc an od osl, P.K.lookup fI = some ⟨oc, od, .func (fnOf name qual params body scope dV kV doc pm an cdv ct), osl⟩ ∧ codeIn P.K cdv qual = true ∧ InitAst body ∧
    (∀ s : Shared, P.K.In s.heap → ∀ a b c, BindsTo s (fnOf name qual params body scope dV kV doc pm an cdv ct) ⟨[a, b, c], []⟩ [("self", a), ("message", b), ("spot", c)]) ∧
    scope.names.lookup ("self" : Str) = some .local ∧ scope.names.lookup ("message" : Str) = some .local ∧ scope.names.lookup ("spot" : Str) = some .local ∧ scope.names.lookup ("Exception" : Str) = some .globalImplicit ∧
    scope.isCoroutine = false ∧ scope.isGenerator = false ∧ scope.kind = .function ∧ (∀ x ∈ scope.names, x.2 ≠ .cell) ∧ ∀ L', interactive (envX qual scope L' fI cdv []) = false
theorem nm_spot : cSpotN = ("spot" : Str) := by decide +kernel
theorem excT : typeOf (.type "Exception") = pure (.type "type") := by kernel_rfl
theorem excStub : Manifest.isStub "Exception" = false := by decide +kernel
theorem excBoot : bootBuiltins "Exception" = some (.type "Exception") := by decide +kernel
section
variable {P : Pk} {XR : XRel} {N H : Nat} {cs : Scope} {F : Fd} {cells oth : List (Addr × Obj)} {g g' : Gh} {real : List Blk} {m : Str → Option Value} {st st' : St} {s : Shared} {C CE fI : Addr}
theorem rd_local {M : Model} {A : Around} {E Q : Value → Shared → Prop} {env : Env} {x : Str} {v : Value} {pos : Pos} {h₀ : Heap} {L : Addr} (Fh : Fr h₀ L s.heap m) (hL : env.locals = L) (hk : env.scope.kind = .function) (h1 : env.kindOf x = some .local) (h2 : m x = some v)
    (hd : (x == ("__debug__" : Str)) = false) (h : Q v s) : wpAny M A (eval (.Name x pos) env) Q E s :=
  wpAny_Name (wpAny_loadName_local hk h1 (hL ▸ Fh.ns) h2 h) hd
theorem news_swap {h₀ h : Heap} {L : Addr} {a b : Addr × Obj} {r : List (Addr × Obj)} (N : News h₀ L h (a :: b :: r)) : News h₀ L h (b :: a :: r) := fun q hq => by
  rcases List.mem_cons.mp hq with e | hq
  · rw [e]; exact N _ (.tail _ (.head _))
  · rcases List.mem_cons.mp hq with e | hq
    · rw [e]; exact N _ (.head _)
    · exact N _ (.tail _ (.tail _ hq))
theorem exc_make (O : ExcOk P C CE fI) (Cx' : Cx P F) (hn : 1 ≤ F.n) (S : SR P F cells g real m st s) {mv sv : Value} {Q : Value → Shared → Prop} {E : Value → Shared → Prop}
    (h : ∀ e D es k t h' tk, getL cSpotN es = some (some sv) → (∀ q ∈ (D, dictOf es k) :: led F.oth cells g real, q.1 ≠ e) → (∀ q ∈ led F.oth cells g real, q.1 ≠ D) → Fr F.h₀ F.L h' m → News F.h₀ F.L h' ((e, excO C t (some D)) :: (D, dictOf es k) :: led F.oth cells g real) → Q (.ref e) { s with heap := h', toks := tk }) :
    wpAny P.M F.A (call (.ref C) [mv, sv]) Q E s := by
  obtain ⟨nm', q, Nn, bs, hdct, sn, sub, ab, col, dd, k0, k1, k2, k3, k5, hCl⟩ := O.obj
  obtain ⟨name, qual, params, body, scope, dV, kV, doc, pm, cdv, ct, oc, an, od, osl, ho, hcd, ⟨p1, p2, p3, p4, p5, p6, q1, q2, q3, q4, q5, q6, q7, q8, hline, hbody⟩, hb, n1, n2, n3, n4, hco, hgen, hk, hcell, hint⟩ := O.code
  subst hbody
  have X := Cx'.kin.keeps S.hr.fr.keep
  obtain ⟨hp, gs, dr, tk, os⟩ := s
  refine wpAny_call (exc_call F_X (hT_of CE) X (X _ _ hCl) O.init O.fn O.call O.inst (by show 2 ≤ sizeLine; rw [sizeLine_eq]; omega) ?_)
  have F1 := (S.hr.fr.push (tupO [mv, sv]))
  have F2 : Fr F.h₀ F.L ((hp.push (tupO [mv, sv])).push (excO C hp.objs.size none)) m := F1.push _
  have N1 : News F.h₀ F.L (hp.push (tupO [mv, sv])) (led F.oth cells g real) := S.hr.ns.pushKeep _
  have N2 : News F.h₀ F.L ((hp.push (tupO [mv, sv])).push (excO C hp.objs.size none)) ((hp.objs.size + 1, excO C hp.objs.size none) :: led F.oth cells g real) := by
    have := News.push F1 N1 (excO C hp.objs.size none)
    rwa [Heap.size_push] at this
  have lt : ∀ p ∈ led F.oth cells g real, p.1 < hp.objs.size := fun p hp => Heap.lt_size (S.hr.ns p hp).1
  have X2 := Cx'.kin.keeps F2.keep
  refine callX_plain (cl := []) Cx'.below F2 N2 Cx'.top.nolimit Cx'.fr rfl Cx'.kind (X2 _ _ ho) rfl (codeRec_of X2 hcd) (by have := Cx'.dep; show F.A.depth + 1 < _; omega) (hb _ X2 _ _ _) (fun y hy => ?_) (fun gG L' h₁ FG F3 N3 B3 stay lt3 => ?_) hcell hco hgen hk
  · rcases List.mem_cons.mp hy with e | hy
    · rw [e]; exact n1
    rcases List.mem_cons.mp hy with e | hy
    · rw [e]; exact n2
    · rw [List.mem_singleton.mp hy]; exact n3
  · have XG : P.K.In gG := Cx'.kin.keeps stay
    have TG := Cx'.top.keeps stay
    have hCG := XG _ _ hCl
    have ne : ∀ p ∈ led F.oth cells g real, p.1 ≠ hp.objs.size + 1 := fun p q => Nat.ne_of_lt (Nat.lt_succ_of_lt (lt p q))
    generalize hm : (fun y => List.lookup y [(("self" : Str), Value.ref (hp.objs.size + 1)), ("message", mv), ("spot", sv)].reverse) = m₁ at *
    have m1 : m₁ "self" = some (.ref (hp.objs.size + 1)) := by rw [← hm]; rfl
    have m2 : m₁ "message" = some mv := by rw [← hm]; rfl
    have m3 : m₁ "spot" = some sv := by rw [← hm]; rfl
    refine wpAny_execs_cons (wpAny_Expr (Call_methodG (by rfl) (by rfl) hline (nameX_B F3 XG (topRead_of TG) O.name excBoot (by decide +kernel) (fun pl => method_type (T := "Exception") (K := P.K) F3 XG excT excStub O.meth (by decide +kernel) ?_) hk n4 (by decide))) (hint _) rfl)
    refine callWith_method1 (first := []) (spliced_more (rd_local F3 rfl hk n1 m1 (by decide) (spliced_more (rd_local F3 rfl hk n2 m2 (by decide) (spliced_none ?_)) rfl)) rfl) rfl rfl
    have F3 : Fr gG L' h₁ m₁ := F3
    refine exc_init (s := ⟨h₁, gs, dr, _, os⟩) F_X (hT_of CE) F3 N3 ne hCG fun h2 t2 F4 N4 => ?_
    refine wpAny_execs_cons (plainObj_wpAny_Assign_Attribute (rd_local (s := ⟨h2, gs, dr, _, os⟩) F4 rfl hk n2 m2 (by decide) (rd_local (s := ⟨h2, gs, dr, _, os⟩) F4 rfl hk n1 m1 (by decide) ?_)) rfl)
    refine exc_set0 (s := ⟨h2, gs, dr, _, os⟩) O.msg XG F4 N4 ne fun h3 F5 N5 => ?_
    have lt4 : ∀ p ∈ (hp.objs.size + 1, excO C t2 none) :: led F.oth cells g real, p.1 ≠ h2.objs.size := fun p hp => Nat.ne_of_lt (Heap.lt_size (N4 p hp).1)
    have nD : ∀ p ∈ (hp.objs.size + 1, excO C t2 (some h2.objs.size)) :: led F.oth cells g real, p.1 ≠ h2.objs.size := fun p hp => by
      rcases List.mem_cons.mp hp with e | hp
      · rw [e]; exact lt4 (_, excO C t2 none) (.head _)
      · exact lt4 _ (.tail _ hp)
    refine wpAny_execs_cons (plainObj_wpAny_Assign_Attribute (rd_local (s := ⟨h3, gs, dr, _, os⟩) F5 rfl hk n3 m3 (by decide) (rd_local (s := ⟨h3, gs, dr, _, os⟩) F5 rfl hk n1 m1 (by decide) ?_)) rfl)
    refine exc_set (s := ⟨h3, gs, dr, _, os⟩) (pre := []) O.spot XG F5 N5 (fun _ h => nomatch h) nD (N5 _ (.tail _ (.head _))).1 rfl (Nat.le_trans (Nat.succ_le_succ (putL_len _ _ _ _ _)) (by have : ([] : List DictEntry).length = 0 := rfl; omega)) fun h4 F6 N6 => wpAny_execs_nil ?_
    refine leaveK_ F6 N6 fun FF NN => ⟨rfl, ?_⟩
    have NN' := news_swap NN
    refine h _ _ _ _ t2 h4 _ ?_ ?_ ?_ FF NN'
    · rw [nm_spot]; rfl
    · intro q hq
      rcases List.mem_cons.mp hq with e | hq
      · rw [e]; exact Ne.symm (nD _ (.head _))
      · exact ne _ hq
    · exact fun q hq => nD q (.tail _ hq)
end
end Mine
end
section
open PySem PySem.W PyProof.Rows PySem.Calls
namespace Mine
section
variable {M : Model} {A : Around} {E : Value → Shared → Prop} {env : Env}
variable {nm q : Str} {C N : Addr} {bs bm : List Value} {hdct : Bool} {sn : List Str} {sub : List Value} {ab : Bool} {col : Option Bool} {dd : Option Addr} {k0 k1 k2 k3 k5 : Option Value} {newId : String}
theorem raise_made {s : Shared} {x : Sem Value} {Q : Flow → Shared → Prop} (hbase : bm.contains (.type "BaseException") = true) (hh : A.handled = none)
    (h : wpAny M A x (fun v s₁ => ∃ e t D, v = .ref e ∧ s₁.heap.get? C = some (excClassObj nm q C N bs bm hdct sn sub ab col dd k0 k1 k2 k3 k5 newId) ∧ s₁.heap.get? e = some (excO C t (some D)) ∧ E (.ref e) s₁) E s) :
    wpAny M A (raiseStmt env (some x) none) Q E s := by
  have c1 : (Value.ref C :: bm).contains (.type "BaseException") = true := by rw [List.contains_cons, hbase, Bool.or_true]
  unfold raiseStmt
  refine wpAny_bind (wpAny_mono h (fun v s₁ h₁ => ?_) fun _ _ x => x)
  obtain ⟨e, t, D, rfl, hC, he, hE⟩ := h₁
  obtain ⟨hp, g, d, tk, os⟩ := s₁
  repeat (first | with_reducible refine wpAny_loadPart_at he ?_ | with_reducible refine wpAny_loadPart_at hC ?_ | (with_reducible refine wpAny_isSubtype_exc hC ?_; rw [c1]) | wp_step)
  exact wpAny_raiseNew_none hh hE
end
section
variable {P : Pk} {N : Nat} {cs : Scope} {C CE fI : Addr}
theorem msgK_true {a : AV} {k : Bool} (h : msgK a k = true) : k = true := by
  cases a with
  | str _ => exact h
  | ast _ => exact h
  | _ => cases h
theorem ev_some (e : Expr) (env : Env) : evalOpt (some e) env = some (eval e env) := rfl
theorem ev_none (env : Env) : evalOpt none env = none := rfl
theorem sndS_rai {cm cs' : EC} {x : Str} {e1 e2 : Expr} {np cpos pos : Pos} (O : ExcOk P C CE fI) (hN : 1 ≤ N) (hk : keepIn P.K (.ref C) = true) (hns : nsIn P.K mainGlobals x = some (some (.ref C))) (hx : cs.names.lookup x = some .globalImplicit) (hd : (x == ("__debug__" : Str)) = false)
    (h1 : SndE P (XRof P C) N cs cm e1) (h2 : SndE P (XRof P C) N cs cs' e2) (s1 : notStar e1 = true) (s2 : notStar e2 = true) : SndS1 P (XRof P C) N cs (sRai cm cs') (.Raise (some (.Call (.Name x np) [e1, e2] [] cpos)) none pos) :=
  fun F hcs hn C' cells g real m st s S ce kn kr kx q Q E pn pr px => by
    obtain ⟨nm', q', Nn, bs, hdct, sn, sub, ab, col, dd, k0, k1, k2, k3, k5, hCl⟩ := O.obj
    rw [arm_exec_Raise]
    simp only [ev_some, ev_none, Option.map]
    refine wpAny_bind (wpAny_standAt (raise_made (C := C) (nm := nm') (q := q') (N := Nn) (bs := bs) (bm := bmT CE) (hdct := hdct) (sn := sn) (sub := sub) (ab := ab) (col := col) (dd := dd) (k0 := k0) (k1 := k1) (k2 := k2) (k3 := k3) (k5 := k5) (newId := "Exception.__new__") ((hT_of CE _).trans (by decide)) C'.hd ?_))
    refine wpAny_bind (wpAny_mono (wpAny_Call_ofName (nameX_K S.hr.fr C'.kin (topRead_of C'.top) hns ?_ C'.kind (by rw [← hcs] at hx; exact hx) hd)) (fun v s₃ h₃ => wpAny_bind (wpAny_standAt (wpAny_pure h₃))) fun _ _ x => x)
    refine callWith_K C'.kin hk (spliced_more (h1 F hcs hn C' cells g real m st s S (fun a st => res a st fun a st => msgK a (cs' st (fun s st => kx s st) kx)) kx q _ E (fun mv a g1 r1 st1 s1 S1 x1 e1 V1 q1 => ?_) px) (star_cons s1)) (star_cons s1) (plain_trees _ _ _ (by rw [List.all_cons, s2]; rfl))
    obtain ⟨a', st2, R2, Sm2, V2, q2⟩ := res_sound S1.ar V1 q1
    have q3 := msgK_true q2
    refine spliced_more (h2 F hcs hn C' cells g1 r1 m st2 s1 (S1.sm R2 Sm2) (fun s st => kx s st) kx q3 _ E (fun sv b g2 r2 st3 s2 S2 x2 e2 V3 q4 => spliced_none ⟨C'.kin.keeps S2.hr.fr.keep, ?_⟩) (px.le x1)) (star_cons s2)
    refine exc_make O C' (Nat.le_trans hN hn) S2 (sv := sv) (mv := mv) fun e D es k t h' tk gl ne nD FF NN => ?_
    refine ⟨e, t, D, rfl, FF.keep _ _ (C'.kin _ _ hCl), (NN _ (.head _)).1, ?_⟩
    have sub : ∀ q ∈ (D, dictOf es k) :: led F.oth [] g2 r2, q ∈ (D, dictOf es k) :: led F.oth cells g2 r2 := fun q hq => by
      rcases List.mem_cons.mp hq with z | z
      · subst z; exact .head _
      · exact .tail _ (List.mem_append_right _ z)
    have nd : (((D, dictOf es k) :: led F.oth [] g2 r2).map (·.1)).Nodup := by
      refine List.nodup_cons.mpr ⟨fun z => ?_, perm_nodup_sub ((List.sublist_append_right _ _).map _) S2.hr.nd⟩
      obtain ⟨q, hq, e⟩ := List.mem_map.mp z
      exact nD q (List.mem_append_right _ hq) e
    refine px b (.ref e) g2 r2 m st3 _ (x1.trans x2) S2.ar ⟨e, D, es, k, sv, rfl, gl, V3, nd, S2.hr.rst.toks _ _, .made (excO C t (some D)) _ (NN _ (.head _)).1 rfl rfl rfl rfl (NN _ (.head _)).2.2 (fun z => ?_) FF (fun q hq => NN q (.tail _ (sub q hq)))⟩ q4
    obtain ⟨q, hq, e⟩ := List.mem_map.mp z
    exact ne q (sub q hq) e
theorem sndS_tryN {XR : XRel} {c : SC} {body : List Stmt} {h0 : ExceptHandler} {pos : Pos} (h : SndS P XR N cs c body) : SndS1 P XR N cs (sTryN c) (.Try body [h0] [] [] pos) :=
  fun F hcs hn C' cells g real m st s S ce kn kr kx q Q E pn pr px => by
    refine wpAny_Try_except (h F hcs hn C' cells g real m st s S ce kn kr no q _ _ (fun c1 g1 r1 m1 st1 s1 S1 ce1 x1 q1 => wpAny_execs_nil (pn c1 g1 r1 m1 st1 s1 S1 ce1 x1 q1)) (fun v a c1 g1 r1 m1 st1 s1 H1 R1 x1 V q1 => pr v a c1 g1 r1 m1 st1 s1 H1 R1 x1 V q1) (fun a x g1 r1 m1 st1 s1 _ _ _ q1 => nomatch q1))
end
end Mine
end
section
open PySem PySem.W PyProof.Rows PySem.Calls Builtin Builtin.ObjectAttr
namespace Mine
noncomputable abbrev gaX : String := "BaseException.__getattribute__"
theorem ga_kind : builtinKind gaX = some .slot := by decide +kernel
theorem ga_split : splitId gaX = some ("BaseException", "__getattribute__") := by decide +kernel
theorem ga_slot : Slot "Exception" "__getattribute__" gaX := by
  exact .of (owner := "BaseException") (n := "__getattribute__") (by rw [typeLookup_type, builtinLookup_eq_fast]; kernel_rfl) (by decide +kernel) (by decide +kernel) (by decide +kernel) (by first | exact .inl (by decide +kernel) | exact .inr (by decide +kernel)) (by rw [isSubtype_type]; kernel_rfl)
structure ExcGet (K : Frag) (C : Addr) (name : Str) : Prop where
  ga : findIn K (.ref C) "__getattribute__" = some (some (.builtin gaX))
  hook : findIn K (.ref C) "__getattr__" = some none
  no : findIn K (.ref C) name = some none
  dct : hasDictIn K C = true
  sub : subIn K (.ref C) (.type "BaseException") = some true
section
variable {prog : Program} {w : World} {A : Around} {E : Value → Shared → Prop} {s : Shared} {K : Frag} {C x : Addr} {ox : Obj} {od : Option Obj} {name : Str} {v : Value} {es : List DictEntry} {n : Nat} {Q : Value → Shared → Prop} {expr : Bool}
theorem exc_get (Z : ExcGet K C name) (X : K.In s.heap) (I : InstAt s.heap x ox C (some (dictOf es n))) (hl : getL name es = some (some v)) (hh : handedIn v = true) (h : Q v { s with toks := s.toks + 1 }) :
    wpAny (model prog w) A (getAttr (.ref x) name expr) Q E s := by
  have L0 := I.type (M := model prog w)
  refine wpAny_bind (wpAny_mkText (wpAny_holding (wpAny_bind (L0 _ _ _ _ (fun _ _ e => e) (wpAny_bind (looks_findIn X Z.ga _ _ _ _ (fun _ _ e => e) ?_))))))
  dsimp only
  rw [show (onTheHeap (Value.ref C) && Value.builtin gaX == Value.builtin "object.__getattribute__") = false from by rw [show (Value.builtin gaX == Value.builtin "object.__getattribute__") = false from by decide +kernel, Bool.and_false], if_neg (by decide)]
  refine wpAny_bind ((looks_hook X (r := none) (by rw [if_pos (show onTheHeap (Value.ref C) = true from rfl)]; exact Z.hook)) _ _ _ _ (fun _ _ e => e) (wpAny_bind (wpAny_attempt (wpAny_holding ?_))))
  unfold callGetattribute
  rw [show (expr && onTheHeap (Value.builtin gaX)) = false from by cases expr <;> rfl, if_neg (by decide)]
  unfold boundAndCalled
  rw [ga_slot.bind]
  refine wpAny_bind (wpAny_pure ?_)
  show wpAny _ _ (call (.builtin gaX) [.ref x, .str name s.toks]) _ _ _
  refine wpAny_call (codeAny_call_builtin ga_slot.plain PySem.F.entry_bexc_ga ?_)
  refine @check_slot (model prog w) _ _ { s with toks := s.toks + 1 } gaX "BaseException" "__getattribute__" (.ref x) [.str name s.toks] [] _ ga_kind ga_split (L0.andThen (looks_subIn X Z.sub)) (PySem.F.args_bexc_ga (.ref x) (.str name s.toks)) ?_
  have hf : findObj K C (some (dictOf es n)) name = some (.value v) := findObj_own Z.dct Z.no rfl ((lookIn_dict name es n).trans hl)
  have L1 := looks_find (M := model prog w) X I hf
  refine wpAny_bind (wpAny_pure (wpAny_bind (wpAny_pure (wpAny_bind (L0 _ _ _ _ (fun _ _ e => e) (wpAny_bind (L1 _ _ _ _ (fun _ _ e => e) ?_)))))))
  refine wpAny_pure ?_
  show wpAny _ _ (handedOut v) _ _ _
  rw [handedOut_of hh]; exact wpAny_pure h
end
end Mine
end
section
open PySem PySem.W PyProof.Rows PySem.Calls
namespace Mine
section
variable {P : Pk} {N H : Nat} {cs : Scope} {C CE fI : Addr} {F : Fd} {cells : List (Addr × Obj)} {g g' : Gh} {real : List Blk} {m : Str → Option Value} {st st' : St} {s : Shared}
theorem xcore_note {e D : Addr} {cls : Value} {news : List (Addr × Obj)} {E : Value → Shared → Prop} {Q : Unit → Shared → Prop} (Cf : Cx P F) (X : XCore F e D cls news m s.heap)
    (h : ∀ h' B G, F.base.StaysIn B → Fr F.h₀ F.L G m → G.UpToSlots h' → (∀ b o, G.get? b = some o → b ∉ (F.env :: F.outer).filterMap (·.frame) → B.get? b = some o) → (∀ q ∈ news, B.get? q.1 = some q.2 ∧ F.h₀.get? q.1 = none) → FlyX B (F.env :: F.outer) e cls D (rawInt F.L) h' → Q () { s with heap := h' }) :
    wpAny P.M F.A (noteFrame (.ref e) F.env) Q E s := by
  cases X with
  | made oe vs a1 a2 a3 a4 a5 a6 a7 a8 a9 =>
    have K := Cf.below
    have K' : Below F.A F.base (F.env :: F.outer) s.heap := by
      refine ⟨Cf.fr, fun b o q => a8.keep b o (K.stays b o q), ⟨Cf.kind ▸ (by decide), ?_, ?_⟩⟩
      · obtain ⟨o, es', ep, ho, hd, _⟩ := a8.ns
        refine ⟨F.L, o, rfl, ?_, ho, fun vs q => by rw [hd] at q; cases q⟩
        cases hq : F.base.get? F.L with
        | none => rfl
        | some o' => have := K.stays _ _ hq; rw [kts_self a8] at this; cases this
      · exact K.frames.of_keeps fun b o q _ => ⟨o, a8.keep b o q, rfl⟩
    have hin : ∀ env ∈ (F.env :: F.outer), ∀ b, env.frame = some b → b ∈ (F.env :: F.outer).filterMap (·.frame) := fun env he b hb => List.mem_filterMap.mpr ⟨env, he, hb⟩
    generalize hl : (F.env :: F.outer).filterMap (·.frame) = fs at *
    have nL : F.L ≠ e := fun z => by
      obtain ⟨o, es', ep, ho, hd, _⟩ := a8.ns
      rw [z, a1] at ho; cases ho; rw [a4] at hd; cases hd
    have nfs : ∀ b, F.h₀.get? b = none → b ≠ F.L → b ∉ fs := fun b e1 e2 hb => by
      rw [← hl] at hb
      rcases mem_frames envX_frame hb with z | z
      · exact e2 z
      · obtain ⟨_, o, ho, _⟩ := K.frames.mem z; rw [e1] at ho; cases ho
    have stB : F.base.StaysIn (hideAll s.heap (e :: fs)) := fun b o q => hideAll_get _ (K'.stays b o q) fun hm => by
      rcases List.mem_cons.mp hm with z | z
      · subst z; have := K.stays _ _ q; rw [a6] at this; cases this
      · rw [← hl] at z; rw [(K'.frames.mem z).1] at q; cases q
    refine noteX0 (B := hideAll s.heap (e :: fs)) Cf.fr (funFrames_hide K'.frames fun env he a ha => List.mem_cons_of_mem _ (hin env he a ha)) envX_frame a1 (fun b o q => of_hideAll _ q) (hideAll_none _ (.head _)) a4 a5 a2 a3 fun h'' x'' u'' => h h'' (hideAll s.heap (e :: fs)) (hideAll s.heap [e]) stB ⟨?_, fun b o q => hideAll_get _ (a8.keep b o q) fun hm => ?_, a8.above⟩ (fun b o q hn => u'' b o (of_hideAll _ q) hn) (fun b o q nm => hideAll_get _ (of_hideAll _ q) fun hm => ?_) (fun q hq => ⟨hideAll_get _ (a9 q hq).1 fun hm => ?_, (a9 q hq).2.2⟩) x''
    · obtain ⟨o, es', ep, ho, r⟩ := a8.ns
      exact ⟨o, es', ep, hideAll_get _ ho (fun z => nL (List.mem_singleton.mp z)), r⟩
    · rw [List.mem_singleton.mp hm, a6] at q; cases q
    · rcases List.mem_cons.mp hm with z | z
      · rw [z, hideAll_none _ (.head _)] at q; cases q
      · exact nm z
    · rcases List.mem_cons.mp hm with z | z
      · exact a7 (List.mem_map.mpr ⟨q, hq, z⟩)
      · exact nfs _ (a9 q hq).2.2 (a9 q hq).2.1 z
  | fly B G a1 a2 a3 a4 a5 a6 =>
    exact noteX Cf.fr envX_frame a6 fun h'' x'' u'' => h h'' B G a1 a2 (a3.trans u'') a4 a5 x''
noncomputable def SndFL (P : Pk) (XR : XRel) (H : Nat) (f : FC) (fv : Value) : Prop :=
  ∀ (F : Fd) A', Cx P F → F.outer = [] → F.cl = [] → CallAt F A' H → ∀ cells g real m st s, SR P F cells g real m st s → ∀ vs l, AllRel (P.VR g) vs l → ∀ k kx, f l st k kx = true → ∀ (R : Result → Shared → Prop),
    PostC P F cells g m st k R → PostX P XR F g kx (fun x s' => R (.error x) s') → codeAny P.M A' (.call fv ⟨vs, []⟩) R s
theorem codeAny_told {name qual : Str} {params : Arguments} {ce : Expr} {scope : Scope} {dV kV doc pm cdv ct oc : Value} {an od : Option Addr} {osl : Array (Option Value)} {f : Addr} {xs : List Nat} {e : EC} {p1 p2 p3 p4 p5 p6 p7 p8 p9 : Pos} {j k1 : Nat} {sp tfn : Str} {c : Nat} (O : ExcOk P C CE fI) (GT : ExcGet P.K C cSpotN)
    (ho : P.K.lookup f = some ⟨oc, od, .func (fnOf name qual params [.Try [.Return (some ce) p1] [.ExceptHandler (some (.Name tfn p2)) (some "fault") [.Return (some (.Tuple [.Constant (.str sp) k1 p3, .Attribute (.Name "fault" p4) "spot" p5] j p6)) p7] p8] [] [] p9] scope dV kV doc pm an cdv ct), osl⟩)
    (hcd : codeIn P.K cdv qual = true) (hb : BindOk P (fnOf name qual params [.Try [.Return (some ce) p1] [.ExceptHandler (some (.Name tfn p2)) (some "fault") [.Return (some (.Tuple [.Constant (.str sp) k1 p3, .Attribute (.Name "fault" p4) "spot" p5] j p6)) p7] p8] [] [] p9] scope dV kV doc pm an cdv ct) xs none)
    (hloc : ∀ x ∈ xs, x < tabN ∧ scope.names.lookup (nm x) = some .local) (nd : xs.Nodup) (hco : scope.isCoroutine = false) (hgen : scope.isGenerator = false) (hk : scope.kind = .function) (hcell : ∀ x ∈ scope.names, x.2 ≠ .cell) (hscr : scope.names.lookup ("script" : Str) = none)
    (hsp : sp = nm c) (hc : c < tabN) (hfa : scope.names.lookup ("fault" : Str) = some .local) (htf : scope.names.lookup tfn = some .globalImplicit) (htd : (tfn == ("__debug__" : Str)) = false) (hns : nsIn P.K mainGlobals tfn = some (some (.ref C)))
    (hs : SndE P (XRof P C) H scope e ce) : SndFL P (XRof P C) H (fDef xs none (sCons (sTryT c (sCons (sRet e) sNil)) sNil)) (.ref f) := by
  intro F A' Cf hout hcl CA cells g real m st s S vs l AL k kx q R pe px
  obtain ⟨nm', q', Nn, bs, hdct, sn, sub, ab, col, dd, k0, k1', k2, k3, k5, hCl⟩ := O.obj
  have q : @Option.rec (List (Nat × AV)) (fun _ => Bool) false (fun loc => sCons (sRet e) sNil (withLoc loc st) (fun st' => k .non (withLoc st.loc st')) (fun a st' => k a (withLoc st.loc st')) (fun s st' => k (.tup [.str c, s]) (withLoc st.loc st'))) (bindP none xs l) = true := q
  cases z : bindP none xs l with
  | none => rw [z] at q; cases q
  | some loc =>
    rw [z] at q
    obtain ⟨k1, rfl⟩ : l.length = xs.length ∧ loc = xs.zip l := by
      rcases bindP_some z with h | ⟨a, k1, _⟩
      · exact h
      · cases k1
    have hl' : vs.length = xs.length := AL.length.trans k1
    have X' := Cf.kin.keeps S.hr.fr.keep
    have CF := CA.fr
    have hK := Cf.below
    have hkind := Cf.kind
    rw [hout] at CF hK
    rw [show F.env = envOf F.cn F.cs F.L F.a F.ccd from by show envX _ _ _ _ _ F.cl = _; rw [hcl]; rfl] at CF
    refine code_defS0 (cn := F.cn) (cs := F.cs) (a := F.a) (ccd := F.ccd) hK S.hr.fr Cf.kin S.hr.ns Cf.top CF ho hcd (by have := CA.dep; omega) ((hb s X' vs).1 hl') (fun y hy => ?_) (fun gG L' h₁ FG F' N' B' XG TG DG => ?_) hkind hco hgen hk hcell
    · have : y.1 ∈ ((xs.map nm).zip vs).map (·.1) := List.mem_map_of_mem (f := fun q : Str × Value => q.1) hy
      rw [zip_keys hl'] at this
      obtain ⟨x, hx, e⟩ := List.mem_map.mp this
      rw [← e]; exact (hloc x hx).2
    · have eE : envOf F.cn F.cs F.L F.a F.ccd = F.env := by show _ = envX _ _ _ _ _ F.cl; rw [hcl]; rfl
      have B2 : Below A' F.base (F.env :: F.outer) gG := by rw [hout, ← eE]; exact B'
      have C' : Cx P (callee F A' H cells gG qual scope L' f cdv []) := ⟨B2, rfl, Around.frames_deeper CA.fr, XG, TG, CA.hd, hk, by have := CA.dep; rw [depth_deeper]; exact this, by have := CA.un; rw [units_deeper]; exact this, fun x hx => absurd rfl (hcell (x, .cell) (lookup_memK hx)), fun z => by rw [hscr] at z; cases z⟩
      have S' : SR P (callee F A' H cells gG qual scope L' f cdv []) [] g real (fun y => ((xs.map nm).zip vs).reverse.lookup y) (withLoc (xs.zip l) st) { s with heap := h₁, toks := s.toks + ((xs.map nm).zip vs).length } := by
        refine ⟨⟨F', ?_, ?_, S.hr.rst.toks _ _⟩, ⟨S.ar.rho, S.ar.hn, S.ar.ob, S.ar.kn, S.ar.nv⟩, fun x a hx => ?_⟩
        · show News _ _ _ (led (cells ++ F.oth) [] g real)
          rw [led_callee]; exact N'
        · show ((led (cells ++ F.oth) [] g real).map _).Nodup
          rw [led_callee]; exact S.hr.nd
        · obtain ⟨h1, v, h2, h3⟩ := zip_look (fun x hx => (hloc x hx).1) AL hl' hx
          exact ⟨(hloc x h1).1, v, .loc rfl hk (hloc x h1).2 (rev_lookup (by rw [zip_keys hl']; exact nodup_names (fun x hx => (hloc x hx).1) nd) h2), h3⟩
      have hbody : SndS P (XRof P C) H scope (sCons (sRet e) sNil) [.Return (some ce) p1] := sndS_cons (sndS_ret hs) sndS_nil
      refine wpAny_execs_cons (wpAny_Try_except (hbody _ rfl (Nat.le_refl _) C' [] g real _ _ _ S' ⟨rfl, fun _ h => nomatch h⟩ _ _ _ q _ _ (fun c1 g1 r1 m1 st1 s1 S1 ce1 x1 q1 => ?_) (fun v a c1 g1 r1 m1 st1 s1 H1 R1 x1 V q1 => ?_) (fun a x g1 r1 m1 st1 s1 x1 R1 X1 q1 => ?_)))
      · exact wpAny_execs_nil (wpAny_execs_nil (leaveS0_ S1.hr.fr S1.hr.ns KtsTurn.refl fun FF NN => pe .none .non g1 r1 _ s1 (back (F' := callee F A' H cells gG qual scope L' f cdv []) S rfl rfl S1.hr S1.ar x1 FF NN) x1 rfl .non q1))
      · exact leaveS0_ H1.fr H1.ns KtsTurn.refl fun FF NN => pe v a g1 r1 _ s1 (back (F' := callee F A' H cells gG qual scope L' f cdv []) S rfl rfl H1 R1 x1 FF NN) x1 rfl V q1
      · obtain ⟨ee, D, es, kk, sv, rfl, gl, Vs, ndX, rsX, XX⟩ := X1
        obtain ⟨hp1, gs1, dr1, tk1, os1⟩ := s1
        have eL : led (cells ++ F.oth) [] g1 r1 = led F.oth cells g1 r1 := by rw [led_callee]; rfl
        have ndX : (((D, dictOf es kk) :: led F.oth cells g1 r1).map (·.1)).Nodup := by rw [← eL]; exact ndX
        have XX : XCore (callee F A' H cells gG qual scope L' f cdv []) ee D (.ref C) ((D, dictOf es kk) :: led F.oth cells g1 r1) m1 hp1 := by rw [← eL]; exact XX
        have nFL : ∀ b o, F.h₀.get? b = some o → b ≠ F.L := fun b o q z => by rw [z, kts_self S.hr.fr] at q; cases q
        have stG : ∀ g3, KtsTurn ((F.env :: F.outer).filterMap (·.frame)) gG g3 → F.h₀.StaysIn g3 := fun g3 T b o q => T.other b o (FG.keep b o q) fun hm => by
          rcases mem_frames envX_frame hm with z | z
          · exact nFL b o q z
          · rw [hout] at z; cases z
        refine xcore_note C' XX fun h2 B G b1 b2 b3 b4 b5 b6 => flightX b6 fun h3 b7 u7 => ?_
        have b2 : Fr gG L' G m1 := b2
        obtain ⟨g3, T3, F3, K3⟩ := kts_ground (name := qual) (scope := scope) (a := f) (cd := cdv) B2 b2 b4 b7.stays (b3.trans u7)
        obtain ⟨ob, obv, hob, hobc, hobd, hobf⟩ := b7.there
        have st3 := stG g3 T3
        have X3 := Cf.kin.keeps st3
        refine wpAny_handleBy_cons (codeAny_handlers_test (nameX_K (s := ⟨h3, gs1, dr1, tk1, os1⟩) F3 X3 (topRead_of (Cf.top.keeps st3)) hns ?_ hk htf htd)) (by intro q; cases q)
        refine wpAny_excMatches_sub_self (F3.keep _ _ (X3 _ _ hCl)) hob hobc ((hT_of CE _).trans (by decide)) (codeAny_handlers_suite_as ?_)
        refine flightX (s := ⟨h3, gs1, dr1, tk1, os1⟩) b7 fun h4 b8 u8 => ?_
        obtain ⟨g4, T4, F4, K4⟩ := kts_ground (name := qual) (scope := scope) (a := f) (cd := cdv) B2 b2 b4 b8.stays ((b3.trans u7).trans u8)
        obtain ⟨oe, oev, hoe, hoec, hoed, hoef⟩ := b8.there
        have st4 := stG g4 T4
        have X4 := Cf.kin.keeps st4
        have ne4 : g4.get? ee = none := T4.none_ _ (kts_fresh (name := qual) (scope := scope) (a := f) (cd := cdv) b2 b4 b8.new fun o ho m => by
          obtain ⟨_, o', ho', hd⟩ := B2.frames.mem m
          rw [ho] at ho'
          cases ho'
          obtain ⟨sl, hs⟩ := ((b3.trans u7).trans u8) _ _ (b2.keep _ _ ho) hd
          rw [hoe] at hs
          cases hs
          exact hd _ hoef)
        have hL : B.get? L' = none := by
          obtain ⟨_, ⟨L1, _, hf, hn', _⟩, _⟩ := b8.frames
          obtain rfl : L' = L1 := Option.some.inj hf
          exact hn'
        have N4 : News g4 L' h4 ((D, dictOf es kk) :: led F.oth cells g1 r1) := fun q hq => ⟨b8.stays _ _ (b5 q hq).1, (fun z => by have := (b5 q hq).1; rw [z, hL] at this; cases this), T4.none_ _ (b5 q hq).2⟩
        have N4e : News g4 L' h4 ((ee, oe) :: (D, dictOf es kk) :: led F.oth cells g1 r1) := News.more F4 N4 hoe (fun es n q => by rw [hoef] at q; cases q) ne4
        refine stN (s := ⟨h4, gs1, dr1, tk1, os1⟩) (name := qual) (scope := scope) (L := L') (a := f) (cd := cdv) F4 N4e (fun h5 F5 N5 => ?_) hk hfa
        have F5 : Fr g4 L' h5 (fun y => if y = ("fault" : Str) then some (.ref ee) else m1 y) := F5
        have I5 : InstAt h5 ee oe C (some (dictOf es kk)) := ⟨(N5 _ (.head _)).1, hoec, by unfold notCls; rw [hoef], by rw [hoed]; exact (N5 _ (.tail _ (.head _))).1⟩
        have lt5 : ∀ q ∈ (ee, oe) :: (D, dictOf es kk) :: led F.oth cells g1 r1, q.1 < h5.objs.size := fun q hq => Heap.lt_size (N5 q hq).1
        refine wpAny_execs_cons (wpAny_Return_some (Tuple_ (spliced_more (wpAny_Constant_str (spliced_more (Attribute_any_ (rd_local (s := ⟨h5, gs1, dr1, _, os1⟩) F5 rfl hk hfa (if_pos rfl) (by decide) (exc_get (s := ⟨h5, gs1, dr1, _, os1⟩) GT (X4.keeps F5.keep) I5 gl Vs.handed (spliced_none ?_))) ) rfl)) rfl)))
        refine newTuple_N (s := ⟨h5, gs1, dr1, _, os1⟩) F5 N5 (fun h6 F6 N6 => ?_) (by rw [sizeLine_eq]; show 2 ≤ _; decide)
        refine name_goes_keeps (s := ⟨h6, gs1, dr1, _, os1⟩) (name := qual) (scope := scope) (L := L') (a := f) (cd := cdv) F6 N6 (fun h7 v7 F7 N7 => ?_) hk hfa
        have T4' : KtsTurn ([envOf F.cn F.cs F.L F.a F.ccd].filterMap (·.frame)) gG g4 := by have := T4; rw [hout, ← eE] at this; exact this
        refine leaveS0_ F7 N7 T4' fun FF NN => ?_
        have le2 := Gh.le_add (g := g1) [(h5.objs.size, tupO [.str sp (tk1 + 1), sv])]
        have R2 := R1.grow le2 rfl rfl
        refine pe (.ref h5.objs.size) (.tup [.str c, a]) (g1.add [(h5.objs.size, tupO [.str sp (tk1 + 1), sv])]) r1 (withLoc st.loc st1) _ ⟨⟨FF, fun q hq => ?_, ?_, rsX.toks _ _⟩, ⟨R2.rho, R2.hn, R2.ob, R2.kn, R2.nv⟩, S.lr.mono (x1.trans le2)⟩ (x1.trans le2) rfl ?_ q1
        · rcases List.mem_cons.mp (led_add [(h5.objs.size, tupO [.str sp (tk1 + 1), sv])] q hq) with z | z
          · subst z; exact NN _ (.head _)
          · exact NN _ (.tail _ (.tail _ (.tail _ z)))
        · have e := (led_add_perm (oth := F.oth) (cells := cells) (g := g1) (real := r1) [(h5.objs.size, tupO [.str sp (tk1 + 1), sv])]).map (·.1)
          refine e.nodup_iff.mpr (List.nodup_cons.mpr ⟨fun z => ?_, (List.nodup_cons.mp ndX).2⟩)
          obtain ⟨q, hq, eq⟩ := List.mem_map.mp z
          exact Nat.ne_of_lt (lt5 q (.tail _ (.tail _ hq))) eq
        · subst hsp
          exact .tup (.inl (List.mem_append_right _ (.head _))) (.cons (.str c _ hc) (.cons (Vs.mono le2) .nil))
end
end Mine
end
section
open PySem PySem.W PyProof.Rows PySem.Calls
namespace Mine
section
variable (prog : Program) (w : World) (A : Around) (cn : Str) (cs : Scope) (a : Addr) (ccd : Value) (cl : List (Str × Addr)) (h₀ : Heap) (L : Addr) (m : Str → Option Value) (news : List (Addr × Obj))
noncomputable def EvI (e : Expr) (n : Int) : Prop := ∀ s, Fr h₀ L s.heap m → News h₀ L s.heap news → ∀ (Q E : Value → Shared → Prop), (∀ t h' tk, Fr h₀ L h' m → News h₀ L h' news → Q (.int n t) { s with heap := h', toks := tk }) → wpAny (model prog w) A (eval e (envX cn cs L a ccd cl)) Q E s
noncomputable def EvB (e : Expr) (b : Bool) : Prop := ∀ s, Fr h₀ L s.heap m → News h₀ L s.heap news → ∀ (Q E : Value → Shared → Prop), (∀ h' tk, Fr h₀ L h' m → News h₀ L h' news → Q (.bool b) { s with heap := h', toks := tk }) → wpAny (model prog w) A (eval e (envX cn cs L a ccd cl)) Q E s
noncomputable def EvT (e : Expr) (b : Bool) : Prop := ∀ s, Fr h₀ L s.heap m → News h₀ L s.heap news → ∀ (Q : Bool → Shared → Prop) (E : Value → Shared → Prop), (∀ h' tk, Fr h₀ L h' m → News h₀ L h' news → Q b { s with heap := h', toks := tk }) → wpAny (model prog w) A (isTrue e (envX cn cs L a ccd cl) (eval e (envX cn cs L a ccd cl))) Q E s
end
section
variable {prog : Program} {w : World} {A : Around} {cn : Str} {cs : Scope} {a : Addr} {ccd : Value} {cl : List (Str × Addr)} {h₀ : Heap} {L : Addr} {m : Str → Option Value} {news : List (Addr × Obj)} {e f : Expr} {i j : Int} {pos np : Pos} {kd : Nat}
theorem evi_con : EvI prog w A cn cs a ccd cl h₀ L m news (.Constant (.int i) kd pos) i := fun s F N Q E h => wpAny_Constant_int (h _ _ _ F N)
theorem evi_var {x : Str} {t : Tok} (hk : cs.kind = .function) (hx : cs.names.lookup x = some .local) (hm : m x = some (.int i t)) (hd : (x == ("__debug__" : Str)) = false) : EvI prog w A cn cs a ccd cl h₀ L m news (.Name x pos) i :=
  fun s F N Q E h => rd_local F rfl hk hx hm hd (h _ _ _ F N)
theorem evi_item {x : Str} {d : Addr} {items : Array Value} {t : Tok} (hk : cs.kind = .function) (hx : cs.names.lookup x = some .local) (hm : m x = some (.ref d)) (hd : (x == ("__debug__" : Str)) = false)
    (hl : ∀ h, Fr h₀ L h m → News h₀ L h news → h.IsList d items) (hs : notSlice f = true) (hf : EvI prog w A cn cs a ccd cl h₀ L m news f i) (h0 : 0 ≤ i) (h1 : i < 2 ^ 63) (hi : items[i.toNat]? = some (.int j t)) : EvI prog w A cn cs a ccd cl h₀ L m news (.Subscript (.Name x np) f pos) j :=
  fun s F N Q E h => by
    refine Subscript_ (rd_local F rfl hk hx hm hd (hf s F N _ _ fun t' h' tk F' N' => ?_))
    have I := hl h' F' N'
    exact tail_any (s := { s with heap := h', toks := tk }) I.typeIs slot_list_getitem.lookup (wpAny_getItem_list (s := { s with heap := h', toks := tk }) (x := .int j t) I h0 h1 hi (h _ _ _ F' N')) (subs_of hs _ _)
theorem evi_bin {op : Operator} {k : Int} (he : EvI prog w A cn cs a ccd cl h₀ L m news e i) (hf : EvI prog w A cn cs a ccd cl h₀ L m news f j)
    (ho : ∀ (s : Shared) t u (Q E : Value → Shared → Prop), Q (.int k s.toks) { s with toks := s.toks + 1 } → wpAny (model prog w) A (binaryOp op (.int i t) (.int j u)) Q E s) : EvI prog w A cn cs a ccd cl h₀ L m news (.BinOp e op f pos) k :=
  fun s F N Q E h => wpAny_BinOp (he s F N _ _ fun t h1 tk F1 N1 => hf _ F1 N1 _ _ fun u h2 tk2 F2 N2 => ho _ _ _ _ _ (h _ _ _ F2 N2))
theorem evi_add (he : EvI prog w A cn cs a ccd cl h₀ L m news e i) (hf : EvI prog w A cn cs a ccd cl h₀ L m news f j) : EvI prog w A cn cs a ccd cl h₀ L m news (.BinOp e .Add f pos) (i + j) := evi_bin he hf fun s t u Q E q => add_int q
theorem evi_sub (he : EvI prog w A cn cs a ccd cl h₀ L m news e i) (hf : EvI prog w A cn cs a ccd cl h₀ L m news f j) : EvI prog w A cn cs a ccd cl h₀ L m news (.BinOp e .Sub f pos) (i - j) := evi_bin he hf fun s t u Q E q => sub_int q
theorem evi_mul (he : EvI prog w A cn cs a ccd cl h₀ L m news e i) (hf : EvI prog w A cn cs a ccd cl h₀ L m news f j) (ok : IntMulOk i j) : EvI prog w A cn cs a ccd cl h₀ L m news (.BinOp e .Mult f pos) (i * j) := evi_bin he hf fun s t u Q E q => PyProof.Rows.mul_int q ok
theorem evi_mod (he : EvI prog w A cn cs a ccd cl h₀ L m news e i) (hf : EvI prog w A cn cs a ccd cl h₀ L m news f j) (h0 : j ≠ 0) : EvI prog w A cn cs a ccd cl h₀ L m news (.BinOp e .Mod f pos) (i.fmod j) := evi_bin he hf fun s t u Q E q => PyProof.Rows.mod_int h0 q
theorem evi_fdiv (he : EvI prog w A cn cs a ccd cl h₀ L m news e i) (hf : EvI prog w A cn cs a ccd cl h₀ L m news f j) (h0 : j ≠ 0) (h1 : j.natAbs < 1073741824) : EvI prog w A cn cs a ccd cl h₀ L m news (.BinOp e .FloorDiv f pos) (i.fdiv j) := evi_bin he hf fun s t u Q E q => PyProof.Rows.floordiv_int h0 q (.inl (PyProof.noPylong_small h1))
theorem evi_pow (he : EvI prog w A cn cs a ccd cl h₀ L m news e i) (hf : EvI prog w A cn cs a ccd cl h₀ L m news f j) (h0 : 0 ≤ j) (hz : (Builtin.Int.intBits i : Int) * j ≤ 2 ^ 27) : EvI prog w A cn cs a ccd cl h₀ L m news (.BinOp e .Pow f pos) (i ^ j.toNat) := evi_bin he hf fun s t u Q E q => PyProof.Rows.pow_int h0 hz q
theorem evb_ge {c : Bool} (hm : behindInMarks .GtE f = false) (he : EvI prog w A cn cs a ccd cl h₀ L m news e i) (hf : EvI prog w A cn cs a ccd cl h₀ L m news f j) (hc : c = decide (j ≤ i)) : EvB prog w A cn cs a ccd cl h₀ L m news (.Compare e [.GtE] [f] pos) c :=
  fun s F N Q E h => wpAny_Compare1 (he s F N _ _ fun t h1 tk F1 N1 => hf _ F1 N1 _ _ fun u h2 tk2 F2 N2 => PyProof.Rows.ge_int (hc ▸ h _ _ F2 N2)) hm
theorem evt_gt (hm : behindInMarks .Gt f = false) (he : EvI prog w A cn cs a ccd cl h₀ L m news e i) (hf : EvI prog w A cn cs a ccd cl h₀ L m news f j) : EvT prog w A cn cs a ccd cl h₀ L m news (.Compare e [.Gt] [f] pos) (decide (j < i)) :=
  fun s F N Q E h => wpAny_isTrue_Compare1 (he s F N _ _ fun t h1 tk F1 N1 => hf _ F1 N1 _ _ fun u h2 tk2 F2 N2 => PyProof.Rows.gt_int (wpAny_truthy_bool (h _ _ F2 N2))) hm
theorem evt_lt (hm : behindInMarks .Lt f = false) (he : EvI prog w A cn cs a ccd cl h₀ L m news e i) (hf : EvI prog w A cn cs a ccd cl h₀ L m news f j) : EvT prog w A cn cs a ccd cl h₀ L m news (.Compare e [.Lt] [f] pos) (decide (i < j)) :=
  fun s F N Q E h => wpAny_isTrue_Compare1 (he s F N _ _ fun t h1 tk F1 N1 => hf _ F1 N1 _ _ fun u h2 tk2 F2 N2 => PyProof.Rows.lt_int (wpAny_truthy_bool (h _ _ F2 N2))) hm
variable {K : Frag} {p : Program} {loose : List Str} {mg mb : Str → Option Value}
theorem evi_int (X : K.In h₀) (T : TopRead p loose mg mb h₀) (hns : nsIn K mainGlobals "int" = some none) (hk : cs.kind = .function) (hx : cs.names.lookup ("int" : Str) = some .globalImplicit) (hs : notStar e = true) (he : EvI prog w A cn cs a ccd cl h₀ L m news e i) :
    EvI prog w A cn cs a ccd cl h₀ L m news (.Call (.Name "int" np) [e] [] pos) i := fun s F N Q E h => by
  refine Call_name1 (by rw [star_cons hs]; rfl) (nameX_B F X T hns (by decide +kernel : bootBuiltins "int" = some (.type "int")) (by decide) ?_ hk hx (by decide))
  exact PySem.callWith_type1 (he s F N _ _ fun t h1 tk F1 N1 => PySem.call_int_int (h _ _ _ F1 N1))
theorem evi_intB {c : Bool} (X : K.In h₀) (T : TopRead p loose mg mb h₀) (hns : nsIn K mainGlobals "int" = some none) (hk : cs.kind = .function) (hx : cs.names.lookup ("int" : Str) = some .globalImplicit) (hs : notStar e = true) (he : EvB prog w A cn cs a ccd cl h₀ L m news e c) :
    EvI prog w A cn cs a ccd cl h₀ L m news (.Call (.Name "int" np) [e] [] pos) (if c then 1 else 0) := fun s F N Q E h => by
  refine Call_name1 (by rw [star_cons hs]; rfl) (nameX_B F X T hns (by decide +kernel : bootBuiltins "int" = some (.type "int")) (by decide) ?_ hk hx (by decide))
  exact PySem.callWith_type1 (he s F N _ _ fun h1 tk F1 N1 => PySem.call_int_bool (h _ _ _ F1 N1))
theorem evi_max (X : K.In h₀) (T : TopRead p loose mg mb h₀) (hns : nsIn K mainGlobals "max" = some none) (hk : cs.kind = .function) (hx : cs.names.lookup ("max" : Str) = some .globalImplicit) (hh : A.handled = none) (hs : notStar e = true) (hs2 : notStar f = true)
    (he : EvI prog w A cn cs a ccd cl h₀ L m news e i) (hf : EvI prog w A cn cs a ccd cl h₀ L m news f j) : EvI prog w A cn cs a ccd cl h₀ L m news (.Call (.Name "max" np) [e, f] [] pos) (if j > i then j else i) := fun s F N Q E h => by
  refine wpAny_Call_ofName (nameX_B F X T hns (by decide +kernel : bootBuiltins "max" = some (.builtin "max")) (by decide) ?_ hk hx (by decide))
  refine callWith_method1 (first := []) (spliced_more (he s F N _ _ fun t h1 tk F1 N1 => spliced_more (hf _ F1 N1 _ _ fun u h2 tk2 F2 N2 => spliced_none ?_) (star_cons hs2)) (star_cons hs)) (star_cons hs) (by rw [star_cons hs2]; rfl)
  exact max_two_N hh F2 N2 fun h3 tk3 F3 N3 => h _ _ _ F3 N3
theorem evi_len {x : Str} {pos2 : Pos} {d : Addr} {items : Array Value} (X : K.In h₀) (T : TopRead p loose mg mb h₀) (hns : nsIn K mainGlobals "len" = some none) (hk : cs.kind = .function) (hx : cs.names.lookup ("len" : Str) = some .globalImplicit) (hxx : cs.names.lookup x = some .local) (hm : m x = some (.ref d)) (hd : (x == ("__debug__" : Str)) = false)
    (hl : ∀ h, Fr h₀ L h m → News h₀ L h news → h.IsList d items) (hz : (items.size : Int) < 2 ^ 63) : EvI prog w A cn cs a ccd cl h₀ L m news (.Call (.Name "len" np) [.Name x pos2] [] pos) items.size := fun s F N Q E h => by
  refine Call_name1 (by rfl) (nameX_B F X T hns (by decide +kernel : bootBuiltins "len" = some (.builtin "len")) (by decide) ?_ hk hx (by decide))
  exact callWith_builtin1 (rd_local F rfl hk hxx hm hd (PySem.Calls.call_len_list (hl _ F N) hz (h _ _ _ F N)))
end
end Mine
end
section
open PySem PySem.W PyProof.Rows PySem.Calls
namespace Mine
section
variable {P : Pk} {XR : XRel} {N H : Nat} {cs : Scope} {F : Fd} {cells : List (Addr × Obj)} {g g' : Gh} {real : List Blk} {m : Str → Option Value} {st st' : St} {s : Shared}
theorem unkK_true {a : AV} {k : Bool} (h : unkK a k = true) : a = .unk ∧ k = true := by
  cases a with
  | unk => exact ⟨rfl, h⟩
  | _ => cases h
theorem rng_nth : ∀ (m n j : Nat), j < m → nth (rngL n m) j = some (.int (.ofNat (n + j)))
  | 0, _, _, h => by omega
  | m + 1, n, 0, _ => rfl
  | m + 1, n, j + 1, h => by
    show nth (rngL (n + 1) m) j = _
    rw [rng_nth m (n + 1) j (by omega), show n + 1 + j = n + (j + 1) by omega]
theorem SR.draw (S : SR P F cells g real m st s) (j : Nat) : SR P F cells ⟨g.cst, g.rho, g.tht ++ [j]⟩ real m (bumpV st) s ∧ g.Le ⟨g.cst, g.rho, g.tht ++ [j]⟩ ∧ (⟨g.cst, g.rho, g.tht ++ [j]⟩ : Gh).tht[st.nv]? = some j := by
  have le : g.Le ⟨g.cst, g.rho, g.tht ++ [j]⟩ := ⟨fun _ h => h, fun _ _ h => h, fun k a h => by
    show (g.tht ++ [j])[k]? = _
    rw [List.getElem?_append_left (List.getElem?_eq_some_iff.mp h).1]; exact h⟩
  refine ⟨⟨⟨S.hr.fr, S.hr.ns, S.hr.nd, S.hr.rst⟩, ⟨S.ar.rho, S.ar.hn, fun k o q => ?_, fun i S' q => ?_, ?_⟩, S.lr.mono le⟩, le, ?_⟩
  · obtain ⟨b, h1, h2⟩ := S.ar.ob k o q
    exact ⟨b, h1, h2.mono le⟩
  · obtain ⟨j', h1, h2⟩ := S.ar.kn i S' q
    exact ⟨j', le.tht _ _ h1, h2⟩
  · show (g.tht ++ [j]).length = st.nv + 1
    rw [List.length_append, S.ar.nv]; rfl
  · show (g.tht ++ [j])[st.nv]? = some j
    rw [← S.ar.nv, List.getElem?_append_right (Nat.le_refl _), Nat.sub_self]; rfl
theorem SR.upd0 (S : SR P F cells g real m st s) {x : Nat} {b b' : Blk} {o' : AO} (hb : real[x]? = some b) (hx : st.H.get x = some o') (ha : b'.addr = b.addr) (hm : b'.objs.map (·.1) = b.objs.map (·.1)) {rest : List (Addr × Obj)} (p1 : (led F.oth cells g real).Perm (b.objs ++ rest))
    (p2 : (led F.oth cells g (real.set x b')).Perm (b'.objs ++ rest)) {h' : Heap} {t : Nat} (F' : Fr F.h₀ F.L h' m) (N' : News F.h₀ F.L h' (b'.objs ++ rest)) (B : BRel P.prog P.w P.K P.cA g b' o') :
    SR P F cells g (real.set x b') m st { s with heap := h', toks := t } := by
  refine ⟨⟨F', fun q hq => N' q (p2.mem_iff.mp hq), ?_, S.hr.rst.toks _ _⟩, ⟨?_, ?_, fun k o q => ?_, S.ar.kn, S.ar.nv⟩, S.lr⟩
  · refine (p2.map (·.1)).nodup_iff.mpr ?_
    rw [List.map_append, hm, ← List.map_append]
    exact (p1.map (·.1)).nodup_iff.mp S.hr.nd
  · rw [List.map_set, ha, S.ar.rho]
    have : (real.map Blk.addr)[x]? = some b.addr := by rw [List.getElem?_map, hb]; rfl
    obtain ⟨lt, e⟩ := List.getElem?_eq_some_iff.mp this
    rw [← e, List.set_getElem_self]
  · rw [List.length_set]; exact S.ar.hn
  · by_cases e : k = x
    · subst e
      rw [hx] at q; cases q
      exact ⟨b', List.getElem?_set_self (List.getElem?_eq_some_iff.mp hb).1, B⟩
    · obtain ⟨c, h1, h2⟩ := S.ar.ob k o q
      exact ⟨c, by rw [List.getElem?_set_ne (Ne.symm e)]; exact h1, h2⟩
theorem fmod_lt {a : Int} {n : Nat} (hn : 1 ≤ n) : ∃ j, j < n ∧ a.fmod (.ofNat n) = .ofNat j := by
  have h0 : (0 : Int) < (n : Int) := by omega
  have e : a.fmod (.ofNat n) = a % (n : Int) := Int.fmod_eq_emod_of_nonneg _ (by show (0 : Int) ≤ (n : Int); omega)
  have l1 := Int.emod_nonneg a (Int.ne_of_gt h0)
  have l2 := Int.emod_lt_of_pos a h0
  refine ⟨(a % (n : Int)).toNat, by omega, ?_⟩
  rw [e]
  show _ = (((a % (n : Int)).toNat : Nat) : Int)
  omega
theorem fmod_rng {a b : Int} (hb : 0 < b) : 0 ≤ a.fmod b ∧ a.fmod b < b := by
  rw [Int.fmod_eq_emod_of_nonneg _ (Int.le_of_lt hb)]
  exact ⟨Int.emod_nonneg a (Int.ne_of_gt hb), Int.emod_lt_of_pos a hb⟩
theorem fdiv_nn {a b : Int} (ha : 0 ≤ a) (hb : 0 < b) : 0 ≤ a.fdiv b := by
  rw [Int.fdiv_eq_ediv_of_nonneg _ (Int.le_of_lt hb)]
  exact Int.ediv_nonneg ha (Int.le_of_lt hb)
theorem small64 {k : Int} (h0 : 0 ≤ k) (h1 : k < 2147483648) : Builtin.Int.intBits k ≤ 64 := PySem.intBits_le_64 (by omega) (by omega)
theorem sndF_take {name qual : Str} {params : Arguments} {scope : Scope} {dV kV doc pm cdv ct oc : Value} {an od : Option Addr} {osl : Array (Option Value)} {f : Addr}
    {p1 p2 p3 p4 p5 p6 p7 p8 p9 p10 p11 p12 p13 p14 p15 p16 p17 p18 p19 p20 p21 p22 p23 p24 p25 p26 p27 p28 p29 p30 p31 p32 p33 p34 p35 p36 p37 p38 p39 p40 p41 p42 p43 p44 p45 p46 p47 p48 p49 p50 p51 p52 p53 p54 p55 p56 p57 p58 p59 : Pos} {k1 k2 k3 k4 k5 k6 k7 k8 k9 k10 k11 k12 k13 k14 : Nat} {body : List Stmt}
    (hbody : body = [.If (.Compare (.Subscript (.Name "source" p1) (.Constant (.int 0) k1 p2) p3) [.Gt] [.Constant (.int 0) k2 p4] p5)
      [.Assign [.Name "drawn" p6] (.BinOp (.Call (.Name "int" p7) [.Subscript (.Name "source" p8) (.Constant (.int 0) k3 p9) p10] [] p11) .Mod (.Name "top" p12) p13) p14,
       .Assign [.Subscript (.Name "source" p15) (.Constant (.int 0) k4 p16) p17] (.BinOp (.Subscript (.Name "source" p18) (.Constant (.int 0) k5 p19) p20) .FloorDiv (.Name "top" p21) p22) p23,
       .Return (some (.Name "drawn" p24)) p25] [] p26,
      .Assign [.Subscript (.Name "source" p27) (.Constant (.int 1) k6 p28) p29] (.BinOp (.Call (.Name "int" p30) [.BinOp (.BinOp (.Subscript (.Name "source" p31) (.Constant (.int 1) k7 p32) p33) .Mult (.Constant (.int 39373) k8 p34) p35) .Add (.Constant (.int 7) k9 p36) p37] [] p38) .Mod (.Constant (.int 2147483647) k10 p39) p40) p41,
      .Return (some (.BinOp (.Call (.Name "int" p42) [.BinOp (.BinOp (.Call (.Name "int" p43) [.BinOp (.Subscript (.Name "source" p44) (.Constant (.int 1) k11 p45) p46) .Mult (.Subscript (.Name "source" p47) (.Constant (.int 1) k12 p48) p49) p50] [] p51) .Mod (.Constant (.int 2147483629) k13 p52) p53) .FloorDiv (.Constant (.int 32) k14 p54) p55] [] p56) .Mod (.Name "top" p57) p58)) p59])
    (ho : P.K.lookup f = some ⟨oc, od, .func (fnOf name qual params body scope dV kV doc pm an cdv ct), osl⟩) (hcd : codeIn P.K cdv qual = true) (hb : ∀ s : Shared, P.K.In s.heap → ∀ a b, BindsTo s (fnOf name qual params body scope dV kV doc pm an cdv ct) ⟨[a, b], []⟩ [("source", a), ("top", b)])
    (hco : scope.isCoroutine = false) (hgen : scope.isGenerator = false) (hk : scope.kind = .function) (hcell : ∀ x ∈ scope.names, x.2 ≠ .cell)
    (n1 : scope.names.lookup ("source" : Str) = some .local) (n2 : scope.names.lookup ("top" : Str) = some .local) (n3 : scope.names.lookup ("drawn" : Str) = some .local) (n4 : scope.names.lookup ("int" : Str) = some .globalImplicit) (hint : nsIn P.K mainGlobals "int" = some none) : SndF P XR H fTake (.ref f) := by
  intro F A' C CA cells g real m st s S vs l AL k kx q R pe px
  subst hbody
  obtain ⟨a, t, rfl, q1⟩ := arg2_true q
  obtain ⟨x, l1, rfl, hx, q2⟩ := asL_true q1
  obtain ⟨u, v, rfl, q3⟩ := arg2_true q2
  obtain ⟨rfl, q4⟩ := unkK_true q3
  obtain ⟨rfl, q5⟩ := unkK_true q4
  obtain ⟨top, rfl, htop, q6⟩ := natOf_true q5
  have q6 : @Bool.rec (fun _ => Bool) false (k (.alt st.nv (rngL 0 top)) (bumpV st)) (Nat.ble 1 top) = true := q6
  obtain ⟨h1, q7⟩ : 1 ≤ top ∧ k (.alt st.nv (rngL 0 top)) (bumpV st) = true := by
    rcases bool_rec_true q6 with ⟨h1, h2⟩ | ⟨_, h2⟩
    · exact ⟨Nat.le_of_ble_eq_true h1, h2⟩
    · cases h2
  rcases AL with _ | ⟨Va, AL⟩
  rcases AL with _ | ⟨Vt, AL⟩
  cases AL
  rename_i va vt
  obtain ⟨d, ws, n, rfl, hb1, A1, I1⟩ := S.list Va hx
  obtain ⟨tt, rfl⟩ := Vt.int_inv
  rcases A1 with _ | ⟨V0, A1⟩
  rcases A1 with _ | ⟨V1, A1⟩
  cases A1
  rename_i w0 w1
  obtain ⟨b0, t0, hb0, rfl⟩ : ∃ b t, 0 ≤ b ∧ w0 = .int b t := by cases V0; exact ⟨_, _, by assumption, rfl⟩
  obtain ⟨b1, t1, hbb1, rfl⟩ : ∃ b t, 0 ≤ b ∧ w1 = .int b t := by cases V1; exact ⟨_, _, by assumption, rfl⟩
  have X' := C.kin.keeps S.hr.fr.keep
  obtain ⟨rest, pp1, pp2⟩ := led_split (oth := F.oth) (cells := cells) (g := g) hb1
  have nd := (pp1.map (·.1)).nodup_iff.mp S.hr.nd
  have ap := head_apart nd
  have ht0 : (Int.ofNat top) ≠ 0 := by
    intro z
    have : top = 0 := by simpa using z
    omega
  have htp : (0 : Int) < (Int.ofNat top) := by
    show (0 : Int) < (top : Int); omega
  have htn : (Int.ofNat top).natAbs < 1073741824 := by
    show (top : Int).natAbs < _; rw [Int.natAbs_natCast]; omega
  refine callX_plain (cl := []) C.below S.hr.fr (news := (d, listOf [Value.int b0 t0, .int b1 t1].toArray n) :: rest) (fun q hq => S.hr.ns q (pp1.mem_iff.mpr hq)) C.top.nolimit CA.fr rfl C.kind (X' _ _ ho) rfl (codeRec_of X' hcd) (by have := CA.dep; omega) (hb _ X' _ _) (fun y hy => ?_) (fun gG L' h₁ FG F' N' B' stay _ => ?_) hcell hco hgen hk
  · rcases List.mem_cons.mp hy with e | hy
    · rw [e]; exact n1
    · rw [List.mem_singleton.mp hy]; exact n2
  · have XG : P.K.In gG := C.kin.keeps stay
    have TG := topRead_of (C.top.keeps stay)
    generalize hm : (fun y => List.lookup y [(("source" : Str), Value.ref d), ("top", .int (.ofNat top) tt)].reverse) = m₁ at *
    have m1 : m₁ "source" = some (.ref d) := by rw [← hm]; rfl
    have m2 : m₁ "top" = some (.int (.ofNat top) tt) := by rw [← hm]; rfl
    have hl : ∀ (mm : Str → Option Value) h, Fr gG L' h mm → News gG L' h ((d, listOf [Value.int b0 t0, .int b1 t1].toArray n) :: rest) → h.IsList d #[Value.int b0 t0, .int b1 t1] := fun mm h _ N => PySem.IsL.isList (n := n) (N _ (.head _)).1
    have fin : ∀ (j : Nat) (c0 c1 : Int) (u0 u1 : Tok) (n' : Nat) (h4 : Heap) (tk u : Tok) (m4 : Str → Option Value), j < top → 0 ≤ c0 → 0 ≤ c1 → Fr gG L' h4 m4 → News gG L' h4 ((d, listOf [Value.int c0 u0, .int c1 u1].toArray n') :: rest) →
        LeaveK F.h₀ F.L m gG R (.int (.ofNat j) u) { s with heap := h4, toks := tk } := by
      intro j c0 c1 u0 u1 n' h4 tk u m4 hj hc0 hc1 F4 N4
      refine leaveK_ F4 N4 fun FF NN => ?_
      have S2 := S.upd0 (b' := .lst d [Value.int c0 u0, .int c1 u1] n') (t := tk) hb1 hx rfl rfl pp1 (pp2 _) FF NN (.lst (.cons (.unk _ _ hc0) (.cons (.unk _ _ hc1) .nil)))
      obtain ⟨S3, le, ht⟩ := S2.draw j
      refine pe (.int (.ofNat j) u) (.alt st.nv (rngL 0 top)) _ _ _ _ S3 le rfl (.alt ht (rng_nth top 0 j hj) ?_) q7
      rw [Nat.zero_add]
      exact .int _ _
    have vsrc : ∀ {M : Model} {A : Around} {E Q : Value → Shared → Prop} {s : Shared} {mm : Str → Option Value} {pos : Pos}, Fr gG L' s.heap mm → mm "source" = some (.ref d) → Q (.ref d) s → wpAny M A (eval (.Name "source" pos) (envX qual scope L' f cdv [])) Q E s := fun F4 e q => rd_local F4 rfl hk n1 e (by decide) q
    refine wpAny_execs_cons (wpAny_If (evt_gt (m := m₁) rfl (evi_item hk n1 m1 (by decide) (hl m₁) rfl evi_con (by decide) (by decide) rfl) evi_con _ F' N' _ _ fun h2 tk2 F2 N2 => ?_))
    by_cases hpos : 0 < b0
    · rw [decide_eq_true hpos]
      refine wpAny_execs_cons (wpAny_Assign_Name (evi_mod (evi_int XG TG hint hk n4 rfl (evi_item hk n1 m1 (by decide) (hl m₁) rfl evi_con (by decide) (by decide) rfl)) (evi_var hk n2 m2 (by decide)) ht0 _ F2 N2 _ _ fun u3 h3 tk3 F3 N3 => ?_) rfl)
      refine stN (name := qual) (scope := scope) (L := L') (a := f) (cd := cdv) F3 N3 (fun h4 F4 N4 => ?_) hk n3
      have e1 : (fun y => if y = ("drawn" : Str) then some (Value.int (b0.fmod (Int.ofNat top)) u3) else m₁ y) "source" = some (.ref d) := m1
      have e2 : (fun y => if y = ("drawn" : Str) then some (Value.int (b0.fmod (Int.ofNat top)) u3) else m₁ y) "top" = some (.int (.ofNat top) tt) := m2
      have e3 : (fun y => if y = ("drawn" : Str) then some (Value.int (b0.fmod (Int.ofNat top)) u3) else m₁ y) "drawn" = some (Value.int (b0.fmod (Int.ofNat top)) u3) := if_pos rfl
      generalize (fun y => if y = ("drawn" : Str) then some (Value.int (b0.fmod (Int.ofNat top)) u3) else m₁ y) = m4 at *
      refine wpAny_execs_cons (wpAny_Assign_Subscript (evi_fdiv (evi_item hk n1 e1 (by decide) (hl m4) rfl evi_con (by decide) (by decide) rfl) (evi_var hk n2 e2 (by decide)) ht0 htn _ F4 N4 _ _ fun u5 h5 tk5 F5 N5 => vsrc F5 e1 (wpAny_Constant_int ?_)) rfl)
      refine ksa_set F5 N5 (.head ap) (.cons _ _ (.cons _ _ .nil)) (by decide) (by show (0 : Int) < 2; decide) (by decide) fun h6 F6 N6 _ _ _ => ?_
      obtain ⟨j, hj, ej⟩ := fmod_lt (a := b0) h1
      refine wpAny_execs_cons (wpAny_Return_some (rd_local F6 rfl hk n3 e3 (by decide) ?_))
      rw [ej]
      exact fin j _ b1 u5 t1 n h6 _ u3 m4 hj (fdiv_nn hb0 htp) hbb1 F6 N6
    · rw [decide_eq_false hpos]
      refine wpAny_execs_nil ?_
      have hM := fmod_rng (a := b1 * 39373 + 7) (b := 2147483647) (by decide)
      generalize hMM : (b1 * 39373 + 7).fmod 2147483647 = M at *
      refine wpAny_execs_cons (wpAny_Assign_Subscript (evi_mod (evi_int XG TG hint hk n4 rfl (evi_add (evi_mul (evi_item hk n1 m1 (by decide) (hl m₁) rfl evi_con (by decide) (by decide) rfl) evi_con (.of_right (small64 (by decide) (by decide)))) evi_con)) evi_con (by decide) _ F2 N2 _ _ fun u5 h5 tk5 F5 N5 => vsrc F5 m1 (wpAny_Constant_int ?_)) rfl)
      rw [hMM]
      refine ksa_set F5 N5 (.head ap) (.cons _ _ (.cons _ _ .nil)) (by decide) (by show (1 : Int) < 2; decide) (by decide) fun h6 F6 N6 _ _ _ => ?_
      have hl6 : ∀ h, Fr gG L' h m₁ → News gG L' h ((d, listOf [Value.int b0 t0, .int M u5].toArray n) :: rest) → h.IsList d #[Value.int b0 t0, .int M u5] := fun h _ N => PySem.IsL.isList (n := n) (N _ (.head _)).1
      refine wpAny_execs_cons (wpAny_Return_some (evi_mod (evi_int XG TG hint hk n4 rfl (evi_fdiv (evi_mod (evi_int XG TG hint hk n4 rfl (evi_mul (evi_item hk n1 m1 (by decide) hl6 rfl evi_con (by decide) (by decide) rfl) (evi_item hk n1 m1 (by decide) hl6 rfl evi_con (by decide) (by decide) rfl) (.of_right (small64 hM.1 (by omega))))) evi_con (by decide)) evi_con (by decide) (by decide))) (evi_var hk n2 m2 (by decide)) ht0 _ F6 N6 _ _ fun u7 h7 tk7 F7 N7 => ?_))
      obtain ⟨j, hj, ej⟩ := fmod_lt (a := ((M * M).fmod 2147483629).fdiv 32) h1
      rw [ej]
      exact fin j b0 M t0 u5 n h7 _ u7 m₁ hj hb0 hM.1 F7 N7
end
end Mine
end
section
open PySem PySem.W PyProof.Rows PySem.Calls
namespace Mine
section
variable {P : Pk} {XR : XRel} {N H : Nat} {cs : Scope} {F : Fd} {cells : List (Addr × Obj)} {g g' : Gh} {real : List Blk} {m : Str → Option Value} {st st' : St} {s : Shared}
theorem evi_neg {prog : Program} {w : World} {A : Around} {cn : Str} {cs : Scope} {a : Addr} {ccd : Value} {cl : List (Str × Addr)} {h₀ : Heap} {L : Addr} {m : Str → Option Value} {news : List (Addr × Obj)} {e : Expr} {i : Int} {pos : Pos} (he : EvI prog w A cn cs a ccd cl h₀ L m news e i) : EvI prog w A cn cs a ccd cl h₀ L m news (.UnaryOp .USub e pos) (-i) :=
  fun s F N Q E h => wpAny_UnaryOp (he s F N _ _ fun t h1 tk F1 N1 => PyProof.Rows.neg_int (h _ _ _ F1 N1))
theorem bits18 : (Builtin.Int.intBits 10 : Int) * 18 ≤ 2 ^ 27 := by decide +kernel
set_option maxHeartbeats 1000000 in
theorem pool_call {name qual : Str} {params : Arguments} {scope : Scope} {dV kV doc pm cdv ct oc : Value} {an od : Option Addr} {osl : Array (Option Value)} {f d : Addr} {items : Array Value} {k : Nat} {tk : Tok} {A' : Around} {R : Result → Shared → Prop}
    {p1 p2 p3 p4 p5 p6 p7 p8 p9 p10 p11 p12 p13 p14 p15 p16 p17 p18 p19 p20 p21 p22 p23 p24 p25 p26 p27 p28 p29 p30 p31 p32 p33 p34 p35 p36 p37 p38 p39 p40 p41 p42 p43 p44 p45 p46 p47 p48 p49 p50 p51 p52 p53 p54 p55 p56 p57 p58 p59 p60 p61 p62 : Pos} {k1 k2 k3 k4 k5 k6 k7 k8 k9 k10 : Nat} {body : List Stmt}
    (hbody : body = [.Assign [(.Name "cell" p11)] (.IfExp (.Compare (.Name "k" p1) [.Lt] [(.Call (.Name "len" p3) [(.Name "script" p2)] [] p4)] p5) (.Subscript (.Name "script" p6) (.Name "k" p7) p8) (.Constant (.int 0) k1 p9) p10) p12,
      .Assign [(.Name "big" p24)] (.Call (.Name "max" p22) [(.Call (.Name "int" p14) [(.Name "cell" p13)] [] p15), (.Call (.Name "int" p20) [(.BinOp (.UnaryOp .USub (.Constant (.int 1) k2 p16) p17) .Sub (.Name "cell" p18) p19)] [] p21)] [] p23) p25,
      .Assign [(.Name "mixed" p49)] (.BinOp (.Call (.Name "int" p45) [(.BinOp (.BinOp (.BinOp (.BinOp (.BinOp (.Call (.Name "int" p27) [(.Name "big" p26)] [] p28) .Mod (.Constant (.int 2147483629) k3 p29) p30) .Add (.BinOp (.BinOp (.Constant (.int 7919) k4 p31) .Mult (.Name "k" p32) p33) .Mult (.Name "k" p34) p35) p36) .Add (.BinOp (.Constant (.int 31) k5 p37) .Mult (.Name "k" p38) p39) p40) .Add (.Constant (.int 17) k6 p41) p42) .Mult (.Constant (.int 48271) k7 p43) p44)] [] p46) .Mod (.Constant (.int 2147483647) k8 p47) p48) p50,
      .Return (some (.List [(.BinOp (.Name "big" p51) .Mult (.Call (.Name "int" p57) [(.Compare (.Name "big" p52) [.GtE] [(.BinOp (.Constant (.int 10) k9 p53) .Pow (.Constant (.int 18) k10 p54) p55)] p56)] [] p58) p59), (.Name "mixed" p60)] p61)) p62])
    (ho : P.K.lookup f = some ⟨oc, od, .func (fnOf name qual params body scope dV kV doc pm an cdv ct), osl⟩) (hcd : codeIn P.K cdv qual = true) (hb : ∀ s : Shared, P.K.In s.heap → ∀ a b, BindsTo s (fnOf name qual params body scope dV kV doc pm an cdv ct) ⟨[a, b], []⟩ [("script", a), ("k", b)])
    (hco : scope.isCoroutine = false) (hgen : scope.isGenerator = false) (hk : scope.kind = .function) (hcell : ∀ x ∈ scope.names, x.2 ≠ .cell)
    (n1 : scope.names.lookup ("script" : Str) = some .local) (n2 : scope.names.lookup ("k" : Str) = some .local) (n3 : scope.names.lookup ("cell" : Str) = some .local) (n4 : scope.names.lookup ("big" : Str) = some .local) (n5 : scope.names.lookup ("mixed" : Str) = some .local)
    (n6 : scope.names.lookup ("int" : Str) = some .globalImplicit) (n7 : scope.names.lookup ("max" : Str) = some .globalImplicit) (n8 : scope.names.lookup ("len" : Str) = some .globalImplicit) (h6 : nsIn P.K mainGlobals "int" = some none) (h7 : nsIn P.K mainGlobals "max" = some none) (h8 : nsIn P.K mainGlobals "len" = some none)
    (C : Cx P F) (CA : CallAt F A' 0) (S : SR P F cells g real m st s) (hn : st.hn ≤ 4000) (hl : ∀ h, F.h₀.StaysIn h → h.IsList d items) (hit : ∀ i : Nat, i < items.size → ∃ n t, items[i]? = some (.int n t)) (hz : (items.size : Int) < 2 ^ 63) (hk2 : k ≤ 2)
    (h : ∀ d' g' real' s', SR P F cells g' real' m ⟨st.loc, HT.put 12 st.H st.hn (.lst [.unk, .unk]), st.hn + 1, st.known, st.nv⟩ s' → g.Le g' → P.VR g' (.ref d') (.ref st.hn) → R (.ok (.ret (.ref d'))) s') :
    codeAny P.M A' (.call (.ref f) ⟨[.ref d, .int k tk], []⟩) R s := by
  subst hbody
  have X' := C.kin.keeps S.hr.fr.keep
  refine callX_plain (cl := []) C.below S.hr.fr S.hr.ns C.top.nolimit CA.fr rfl C.kind (X' _ _ ho) rfl (codeRec_of X' hcd) (by have := CA.dep; omega) (hb _ X' _ _) (fun y hy => ?_) (fun gG L' h₁ FG F1 N1 B' stay _ => ?_) hcell hco hgen hk
  · rcases List.mem_cons.mp hy with e | hy
    · rw [e]; exact n1
    · rw [List.mem_singleton.mp hy]; exact n2
  · have XG : P.K.In gG := C.kin.keeps stay
    have TG := topRead_of (C.top.keeps stay)
    have hh : (A'.deeper (envX qual scope L' f cdv [])).handled = none := CA.hd
    generalize hm : (fun y => List.lookup y [(("script" : Str), Value.ref d), ("k", .int k tk)].reverse) = m₁ at *
    have m1 : m₁ "script" = some (.ref d) := by rw [← hm]; rfl
    have m2 : m₁ "k" = some (.int k tk) := by rw [← hm]; rfl
    have hl' : ∀ (mm : Str → Option Value) h, Fr gG L' h mm → News gG L' h (led F.oth cells g real) → h.IsList d items := fun mm h F _ => hl h fun b o q => F.keep b o (stay b o q)
    have cellE : ∃ c : Int, EvI P.prog P.w (A'.deeper (envX qual scope L' f cdv [])) qual scope f cdv [] gG L' m₁ (led F.oth cells g real) (.IfExp (.Compare (.Name "k" p1) [.Lt] [(.Call (.Name "len" p3) [(.Name "script" p2)] [] p4)] p5) (.Subscript (.Name "script" p6) (.Name "k" p7) p8) (.Constant (.int 0) k1 p9) p10) c := by
      by_cases hlt : k < items.size
      · obtain ⟨c, t, hc⟩ := hit k hlt
        refine ⟨c, fun s F N Q E q => wpAny_IfExp (evt_lt rfl (evi_var hk n2 m2 (by decide)) (evi_len XG TG h8 hk n8 n1 m1 (by decide) (hl' m₁) hz) s F N _ _ fun h2 tk2 F2 N2 => ?_)⟩
        rw [decide_eq_true (show (k : Int) < (items.size : Int) by omega)]
        exact evi_item hk n1 m1 (by decide) (hl' m₁) rfl (evi_var hk n2 m2 (by decide)) (by omega) (by omega) (by rw [Int.toNat_natCast]; exact hc) _ F2 N2 _ _ q
      · refine ⟨0, fun s F N Q E q => wpAny_IfExp (evt_lt rfl (evi_var hk n2 m2 (by decide)) (evi_len XG TG h8 hk n8 n1 m1 (by decide) (hl' m₁) hz) s F N _ _ fun h2 tk2 F2 N2 => ?_)⟩
        rw [decide_eq_false (show ¬ (k : Int) < (items.size : Int) by omega)]
        exact evi_con _ F2 N2 _ _ q
    obtain ⟨c, hc⟩ := cellE
    refine wpAny_execs_cons (wpAny_Assign_Name (hc _ F1 N1 _ _ fun u2 h2 tk2 F2 N2 => ?_) rfl)
    refine stN (name := qual) (scope := scope) (L := L') (a := f) (cd := cdv) F2 N2 (fun h3 F3 N3 => ?_) hk n3
    have e2 : (fun y => if y = ("cell" : Str) then some (Value.int c u2) else m₁ y) "k" = some (.int k tk) := m2
    have e3 : (fun y => if y = ("cell" : Str) then some (Value.int c u2) else m₁ y) "cell" = some (.int c u2) := if_pos rfl
    generalize (fun y => if y = ("cell" : Str) then some (Value.int c u2) else m₁ y) = m3 at *
    refine wpAny_execs_cons (wpAny_Assign_Name (evi_max XG TG h7 hk n7 hh rfl rfl (evi_int XG TG h6 hk n6 rfl (evi_var hk n3 e3 (by decide))) (evi_int XG TG h6 hk n6 rfl (evi_sub (evi_neg evi_con) (evi_var hk n3 e3 (by decide)))) _ F3 N3 _ _ fun u4 h4 tk4 F4 N4 => ?_) rfl)
    have hbig : 0 ≤ (if -1 - c > c then -1 - c else c) := by split <;> omega
    generalize (if -1 - c > c then -1 - c else c) = big at *
    refine stN (name := qual) (scope := scope) (L := L') (a := f) (cd := cdv) F4 N4 (fun h5 F5 N5 => ?_) hk n4
    have e2' : (fun y => if y = ("big" : Str) then some (Value.int big u4) else m3 y) "k" = some (.int k tk) := e2
    have e4 : (fun y => if y = ("big" : Str) then some (Value.int big u4) else m3 y) "big" = some (.int big u4) := if_pos rfl
    generalize (fun y => if y = ("big" : Str) then some (Value.int big u4) else m3 y) = m5 at *
    have vk : ∀ {p : Pos}, EvI P.prog P.w (A'.deeper (envX qual scope L' f cdv [])) qual scope f cdv [] gG L' m5 (led F.oth cells g real) (.Name "k" p) (k : Int) := fun {p} => evi_var hk n2 e2' (by decide)
    have sk : Builtin.Int.intBits (k : Int) ≤ 64 := small64 (by omega) (by omega)
    have s7 : Builtin.Int.intBits 7919 ≤ 64 := small64 (by decide) (by decide)
    have s31 : Builtin.Int.intBits 31 ≤ 64 := small64 (by decide) (by decide)
    have s48 : Builtin.Int.intBits 48271 ≤ 64 := small64 (by decide) (by decide)
    refine wpAny_execs_cons (wpAny_Assign_Name (evi_mod (evi_int XG TG h6 hk n6 rfl (evi_mul (evi_add (evi_add (evi_add (evi_mod (evi_int XG TG h6 hk n6 rfl (evi_var hk n4 e4 (by decide))) evi_con (by decide)) (evi_mul (evi_mul evi_con vk (.of_left s7)) vk (.of_right sk))) (evi_mul evi_con vk (.of_left s31))) evi_con) evi_con (.of_right s48))) evi_con (by decide) _ F5 N5 _ _ fun u6 h6x tk6 F6 N6 => ?_) rfl)
    generalize hM : ((big.fmod 2147483629 + 7919 * (k : Int) * (k : Int) + 31 * (k : Int) + 17) * 48271).fmod 2147483647 = M at *
    have hM0 : 0 ≤ M := by rw [← hM]; exact (fmod_rng (by decide)).1
    refine stN (name := qual) (scope := scope) (L := L') (a := f) (cd := cdv) F6 N6 (fun h7' F7 N7 => ?_) hk n5
    have e5 : (fun y => if y = ("mixed" : Str) then some (Value.int M u6) else m5 y) "mixed" = some (.int M u6) := if_pos rfl
    have e4' : (fun y => if y = ("mixed" : Str) then some (Value.int M u6) else m5 y) "big" = some (.int big u4) := e4
    generalize (fun y => if y = ("mixed" : Str) then some (Value.int M u6) else m5 y) = m7 at *
    have hbit : Builtin.Int.intBits (if (decide ((10 : Int) ^ (18 : Int).toNat ≤ big)) = true then 1 else 0) ≤ 64 := by split <;> exact small64 (by decide) (by decide)
    refine wpAny_execs_cons (wpAny_Return_some (List_ (spliced_more (evi_mul (evi_var hk n4 e4' (by decide)) (evi_intB XG TG h6 hk n6 rfl (evb_ge rfl (evi_var hk n4 e4' (by decide)) (evi_pow evi_con evi_con (by decide) bits18) rfl)) (.of_right hbit) _ F7 N7 _ _ fun u8 h8' tk8 F8 N8 => spliced_more (evi_var hk n5 e5 (by decide) _ F8 N8 _ _ fun u9 h9 tk9 F9 N9 => spliced_none ?_) rfl) rfl)))
    refine newList_K F9 N9 (fun d' hd F10 N10 lt => ?_) (by rw [sizeLine_eq]; show 2 ≤ _; decide)
    have hb0 : 0 ≤ big * (if (decide ((10 : Int) ^ (18 : Int).toNat ≤ big)) = true then 1 else 0) := Int.mul_nonneg hbig (by split <;> decide)
    refine leaveK_ F10 N10 fun FF NN => ?_
    obtain ⟨S2, le, hr⟩ := S.newBlk (b := .lst d' [.int _ u8, .int M u9] 0) (o := .lst [.unk, .unk]) (t := tk9) FF NN (fun q hq r hr => by
      rw [List.mem_singleton.mp (show r ∈ [_] from hr)]; exact Nat.ne_of_lt (lt q hq)) (nd1 _) (.lst (.cons (.unk _ _ hb0) (.cons (.unk _ _ hM0) .nil))) hn
    exact h _ _ _ _ S2 le (.ref hr)
end
end Mine
end
section
open PySem PySem.W PyProof.Rows PySem.Calls
namespace Mine
theorem lk_list_keys : typeLookup (.type "list") "keys" = pure none := by rw [typeLookup_type, builtinLookup_eq_fast]; kernel_rfl
section
variable {prog : Program} {w : World} {A : Around} {E : Value → Shared → Prop} {h : Heap} {g : Array GenState} {d : Drawn} {t : Nat} {os : OsState} {a : Addr} {o : Obj}
theorem no_keys {Q : Option Value → Shared → Prop} {xs : Array Value} {k : Nat} (hA : A.handled = none) (hx : h.get? a = some (listOf xs k))
    (hq : ∀ h' tk', (∀ b o, h.get? b = some o → h'.get? b = some o) → Q none ⟨h', g, d, tk', os⟩) :
    wpAny (model prog w) A (getAttr? (.ref a) "keys") Q E ⟨h, g, d, t, os⟩ := by
  have hT : ∀ tk', (⟨h, g, d, tk', os⟩ : Shared).TypeIs (.ref a) "list" := fun _ => ⟨_, hx, rfl⟩
  have f1 := sub_AttributeError
  have f3 := F.slot_list_getattribute.lookup
  have f4 := F.slot_list_getattribute.bind (.ref a)
  have f5 := am_list_getattr_none
  unfold getAttr? getAttrBy? getAttrBy
  repeat (any_goals (first | assumption | exact hT _ | ((with_reducible show wpAny _ _ (call (Value.builtin "list.__getattribute__") _ _) _ _ _); refine call_meets F.slot_list_getattribute (hT _) am_entry_list_getattribute (F.args_list_getattribute_2 _ _) (meets_getattribute_miss_list a xs k _ "keys" _ lk_list_keys (by decide +kernel)) ⟨hx, hA, fun h' tk' e hx' => ?_⟩) | wp_step))
  obtain ⟨t', u', he⟩ := hx'.there
  show wpAny _ _ (getattributeRaised _ _ _ _ _ _ _) _ _ _
  unfold getattributeRaised
  repeat (any_goals (first | assumption | wp_step))
  exact hq _ _ hx'.keeps
end
theorem entry_dul : entryFor table "dict.update.loop" = some Builtin.«dict.update.loop» := entryFor_of_tree (by kernel_rfl)
theorem plain_dul : plainId "dict.update.loop" = true := by decide +kernel
structure PairsAre (h : Heap) (it d : Addr) (vs : List Value) (kvs : List (Str × Value)) : Prop where
  len : vs.length = kvs.length
  at_ : ∀ (i : Nat) (v : Value) (kv : Str × Value), vs[i]? = some v → kvs[i]? = some kv → ∃ a t, v = .ref a ∧ IsTup h a #[.str kv.1 t, kv.2] ∧ a ≠ it ∧ a ≠ d
theorem tupKeep {h h' : Heap} {a : Addr} {items : Array Value} (x : IsTup h a items) (k : ∀ o, h.get? a = some o → h'.get? a = some o) : IsTup h' a items := by
  obtain ⟨o, ho, r⟩ := x
  exact ⟨o, k o ho, r⟩
theorem lisKeep {h h' : Heap} {a : Addr} {items : Array Value} (x : h.IsList a items) (k : ∀ o, h.get? a = some o → h'.get? a = some o) : h'.IsList a items := by
  obtain ⟨o, ho, r⟩ := x
  exact ⟨o, k o ho, r⟩
theorem PairsAre.keeps {h h' : Heap} {it d : Addr} {vs : List Value} {kvs : List (Str × Value)} (x : PairsAre h it d vs kvs) (k : ∀ b o, b ≠ it → b ≠ d → h.get? b = some o → h'.get? b = some o) : PairsAre h' it d vs kvs :=
  ⟨x.len, fun i v kv h1 h2 => by
    obtain ⟨a, t, e, T, n1, n2⟩ := x.at_ i v kv h1 h2
    exact ⟨a, t, e, tupKeep T fun o => k a o n1 n2, n1, n2⟩⟩
theorem stored_new {kvs : List (Str × Value)} {k : Str} {v : Value} (h : k ∉ kvs.map (·.1)) : stored kvs k v = kvs ++ [(k, v)] := by
  unfold stored
  rw [if_neg]
  intro z
  rw [List.any_eq_true] at z
  obtain ⟨q, hq, e⟩ := z
  exact h (List.mem_map.mpr ⟨q, hq, by simpa using e⟩)
section
variable {prog : Program} {w : World} {A : Around} {R : Result → Shared → Prop}
theorem dict_loop {l it d : Addr} {vs : List Value} {kvs : List (Str × Value)} (hA : A.handled = none) (hnd : (kvs.map (·.1)).Nodup) (hlen : kvs.length ≤ 900) (hli : l ≠ it) (hld : l ≠ d) (hdi : d ≠ it) :
    ∀ (k i : Nat) (s : Shared) (tk : Tok), kvs.length - i = k → i ≤ kvs.length → s.heap.IsListIter it l i → s.heap.IsList l vs.toArray → PairsAre s.heap it d vs kvs → s.heap.DictOf (strKind prog w) d (kvs.take i) →
      (∀ h' tk', (∀ b o, b ≠ it → b ≠ d → s.heap.get? b = some o → h'.get? b = some o) → h'.DictOf (strKind prog w) d kvs → R (.ok (.ret .none)) { s with heap := h', toks := tk' }) →
      codeAny (model prog w) A (.builtin "dict.update.loop" ⟨[.ref d, .ref it, .int i tk, .none], []⟩) R s := by
  intro k
  induction k with
  | zero =>
    intro i s tk hk hi hit hl hp hd hR
    have ei : i = kvs.length := by omega
    subst ei
    refine codeAny_builtin entry_dul ?_
    rw [Around.under_plainId plain_dul _]
    show wpAny _ A.in1 (pyNext (.ref it) >>= _) _ _ s
    refine wpAny_bind (wpAny_pyNext_list_end (show A.in1.handled = none from hA) hit hl (by rw [List.getElem?_toArray, List.getElem?_eq_none_iff]; exact Nat.le_of_eq hp.len) fun h' hs => ?_)
    show wpAny _ A.in1 (pure () >>= fun _ => ret Value.none) _ _ _
    refine wpAny_bind (wpAny_pure (wpAny_pure (hR h' s.toks (fun b o n1 _ q => hs b o n1 q) ?_)))
    rw [List.take_length] at hd
    exact hd.extBut hs hdi
  | succ k ih =>
    intro i s tk hk hi hit hl hp hd hR
    have hlt : i < kvs.length := by omega
    have hlt' : i < vs.length := by rw [hp.len]; exact hlt
    obtain ⟨a, t, ev, T, n1, n2⟩ := hp.at_ i vs[i] kvs[i] (List.getElem?_eq_getElem hlt') (List.getElem?_eq_getElem hlt)
    refine codeAny_builtin entry_dul ?_
    rw [Around.under_plainId plain_dul _]
    show wpAny _ A.in1 (pyNext (.ref it) >>= _) _ _ s
    refine wpAny_bind (wpAny_pyNext_list_item (x := vs[i]) hit hl (by rw [List.getElem?_toArray]; exact List.getElem?_eq_getElem hlt') fun h1 hit1 hs1 => ?_)
    rw [ev]
    have T1 : IsTup h1 a #[.str kvs[i].1 t, kvs[i].2] := tupKeep T fun o q => (hs1.2 a n1).trans q
    have hd1 : h1.DictOf (strKind prog w) d (kvs.take i) := hd.sameBut hs1 hdi
    have hl1 : h1.IsList l vs.toArray := lisKeep hl fun o q => (hs1.2 l hli).trans q
    have hp1 : PairsAre h1 it d vs kvs := hp.keeps fun b o e1 _ q => (hs1.2 b e1).trans q
    obtain ⟨ot, hot, hoc, n, hod⟩ := T1
    show wpAny _ A.in1 (holding [Value.ref a] _ >>= _) _ _ _
    refine wpAny_bind (wpAny_holding ?_)
    have hT : (⟨h1, s.gens, s.drawn, s.toks, s.os⟩ : Shared).TypeIs (.ref a) "tuple" := ⟨_, hot, hoc⟩
    refine wpAny_bind (wpAny_tryCatch ?_)
    unfold Builtin.Dict.pairItems
    refine wpAny_bind (wpAny_typeOf hT ?_)
    rw [if_pos (by decide)]
    refine wpAny_bind (wpAny_seqItems hot hod ?_)
    refine wpAny_pure ?_
    show wpAny _ A.in1 (holding [Value.str kvs[i].1 t, kvs[i].2] (dictSet d (.str kvs[i].1 t) kvs[i].2)) _ _ _
    have hni : kvs[i].1 ∉ (kvs.take i).map (·.1) := fun z => by
      obtain ⟨q, hq, e⟩ := List.mem_map.mp z
      obtain ⟨j, hj⟩ := List.mem_iff_getElem?.mp hq
      rw [List.getElem?_take] at hj
      split at hj
      · rename_i lt
        have e1 : (kvs.map (·.1))[j]? = some q.1 := by rw [List.getElem?_map, hj]; rfl
        have e2 : (kvs.map (·.1))[i]? = some kvs[i].1 := by rw [List.getElem?_map, List.getElem?_eq_getElem hlt]; rfl
        have := (List.getElem?_inj (by rw [List.length_map]; omega) hnd).mp (e1.trans ((congrArg some e).trans e2.symm))
        omega
      · cases hj
    refine wpAny_holding (wpAny_dictSet_pairs (kvs := kvs.take i) (k := kvs[i].1) (strKind_is _ _ _ _) hd1 (fun h2 hd2 hs2 => ?_) (by rw [List.length_take, sizeLine_eq]; omega))
    rw [stored_new hni] at hd2
    have et : kvs.take i ++ [(kvs[i].1, kvs[i].2)] = kvs.take (i + 1) := by rw [List.take_add_one, List.getElem?_eq_getElem hlt]; rfl
    rw [et] at hd2
    refine wpAny_pure ⟨Code.quiet_builtin _ (by decide +kernel), ?_⟩
    have e1 : rawInt ((i : Int) + 1) = .int ((i + 1 : Nat) : Int) 0 := by push_cast; rfl
    refine ih (i + 1) { s with heap := h2, toks := s.toks + 1 } 0 (by omega) hlt (let ⟨o, ho, r⟩ := hit1; ⟨o, (hs2.2 it (Ne.symm hdi)).trans ho, r⟩) (lisKeep hl1 fun o q => (hs2.2 l hld).trans q) (hp1.keeps fun b o _ e2 q => (hs2.2 b e2).trans q) hd2 fun h3 tk3 k3 hd3 => ?_
    exact hR h3 tk3 (fun b o e1 e2 q => k3 b o e1 e2 ((hs2.2 b e2).trans ((hs1.2 b e1).trans q))) hd3
structure Pairs0 (h : Heap) (vs : List Value) (kvs : List (Str × Value)) : Prop where
  len : vs.length = kvs.length
  at_ : ∀ (i : Nat) (v : Value) (kv : Str × Value), vs[i]? = some v → kvs[i]? = some kv → ∃ a t, v = .ref a ∧ IsTup h a #[.str kv.1 t, kv.2]
theorem call_dict_pairs {E : Value → Shared → Prop} {s : Shared} {l : Addr} {vs : List Value} {kvs : List (Str × Value)} {n : Nat} {Q : Value → Shared → Prop} (hA : A.handled = none) (hx : s.heap.get? l = some (listOf vs.toArray n)) (hp : Pairs0 s.heap vs kvs) (hnd : (kvs.map (·.1)).Nodup) (hlen : kvs.length ≤ 900)
    (h : ∀ h' tk, (∀ b o, s.heap.get? b = some o → h'.get? b = some o) → h'.DictOf (strKind prog w) s.heap.objs.size kvs → Q (.ref s.heap.objs.size) { s with heap := h', toks := tk }) :
    wpAny (model prog w) A (call (.type "dict") [.ref l]) Q E s := by
  refine callType_codes (Q₁ := fun obj s₁ => obj = .ref s.heap.objs.size ∧ s₁ = { s with heap := s.heap.push { cls := .type "dict", data := .dict #[] } }) PySem.F.kt_called_dict (PySem.F.kt_typeCall_dict_1 _) PySem.F.entry_dict_init (kt_code_dict_new _ ⟨rfl, rfl⟩) ?_
  rintro obj s₁ ⟨rfl, rfl⟩
  have hnew : (s.heap.push { cls := .type "dict", data := .dict #[] }).DictOf (strKind prog w) s.heap.objs.size [] := Heap.DictOf.new s.heap
  have hx1 : (s.heap.push { cls := .type "dict", data := .dict #[] }).get? l = some (listOf vs.toArray n) := Heap.get?_push_of_some _ hx
  refine ⟨hnew.typeIs, PySem.F.args_dict_init_2 _ _, ?_⟩
  unfold Builtin.«dict.__init__»
  refine wpAny_bind ?_
  unfold Builtin.Dict.selfAndRest
  refine wpAny_bind (wpAny_notOrdered_dict hnew.typeIs ?_)
  show wpAny _ _ (pure (s.heap.objs.size, [Value.ref l])) _ _ _
  refine wpAny_pure ?_
  show wpAny _ _ (Builtin.Dict.updateFrom "dict.__init__" s.heap.objs.size (.ref l) [] .none) _ _ _
  unfold Builtin.Dict.updateFrom
  refine wpAny_bind (wpAny_typeOf (T := "list") ⟨_, hx1, rfl⟩ ?_)
  rw [if_pos (by decide)]
  obtain ⟨hp0, g, dr, tk0, os⟩ := s
  refine wpAny_bind (no_keys (h := hp0.push { cls := .type "dict", data := .dict #[] }) (show A.in1.in1.handled = none from hA) hx1 fun h2 tk2 k2 => ?_)
  rw [if_pos (show (none : Option Value).isNone = true from rfl)]
  refine wpAny_bind (wpAny_rule ?_)
  have hx2 : h2.get? l = some (listOf vs.toArray n) := k2 _ _ hx1
  have I2 : (⟨h2, g, dr, tk2, os⟩ : Shared).heap.IsList l vs.toArray := PySem.IsL.isList (n := n) hx2
  refine wpAny_bind (wpAny_pyIter_list I2 ?_)
  have kk : ∀ b o, hp0.get? b = some o → (h2.push { cls := .type "list_iterator", data := .fields #[.ref l, .int 0 0] }).get? b = some o := fun b o q => Heap.get?_push_of_some _ (k2 _ _ (Heap.get?_push_of_some _ q))
  have lt0 : hp0.objs.size < h2.objs.size := by
    obtain ⟨o, es, ep, ho, _⟩ := hnew
    exact Heap.lt_size (k2 _ _ ho)
  have lx : ∀ b o, hp0.get? b = some o → b ≠ h2.objs.size ∧ b ≠ hp0.objs.size := fun b o q => ⟨Nat.ne_of_lt (Nat.lt_trans (Heap.lt_size q) lt0), Nat.ne_of_lt (Heap.lt_size q)⟩
  refine wpAny_pure ⟨Code.quiet_builtin _ (by decide +kernel), ?_⟩
  have hd2 : (h2.push { cls := .type "list_iterator", data := .fields #[.ref l, .int 0 0] }).DictOf (strKind prog w) hp0.objs.size (kvs.take 0) := by
    obtain ⟨o, es, ep, ho, r⟩ := hnew
    exact ⟨o, es, ep, Heap.get?_push_of_some _ (k2 _ _ ho), r⟩
  refine dict_loop (l := l) (it := h2.objs.size) (d := hp0.objs.size) (vs := vs) (kvs := kvs) (show A.in1.handled = none from hA) hnd hlen (lx _ _ hx).1 (lx _ _ hx).2 (Nat.ne_of_lt lt0) kvs.length 0 _ 0 rfl (Nat.zero_le _) ⟨_, Heap.get?_push_size _ rfl, rfl, rfl⟩ (lisKeep I2 fun o q => Heap.get?_push_of_some _ q) ⟨hp.len, fun i v kv e1 e2 => ?_⟩ hd2 fun h4 tk4 k4 hd4 => ?_
  · obtain ⟨a, t, e, T⟩ := hp.at_ i v kv e1 e2
    obtain ⟨o, ho, r⟩ := T
    exact ⟨a, t, e, ⟨o, kk _ _ ho, r⟩, (lx _ _ ho).1, (lx _ _ ho).2⟩
  · exact ⟨rfl, h h4 tk4 (fun b o q => k4 b o (lx b o q).1 (lx b o q).2 (kk b o q)) hd4⟩
end
end Mine
end
section
open PySem PySem.W PyProof.Rows PySem.Calls
namespace Mine
theorem AllRel.reverse {V : Value → AV → Prop} : ∀ {vs : List Value} {l : List AV}, AllRel V vs l → AllRel V vs.reverse l.reverse
  | _, _, .nil => .nil
  | _, _, .cons h r => by
    rw [List.reverse_cons, List.reverse_cons]
    exact r.reverse.snoc h
section
variable {P : Pk} {XR : XRel} {N H : Nat} {cs : Scope} {F : Fd} {cells : List (Addr × Obj)} {g g' : Gh} {real : List Blk} {m : Str → Option Value} {st st' : St} {s : Shared}
theorem sndE_slC {c : EC} {e : Expr} {k : Nat} {q1 q2 q3 pos : Pos} (hc : SndE P XR N cs c e) :
    SndE P XR N cs (eSlC c) (.Subscript e (.Slice none none (some (.UnaryOp .USub (.Constant (.int 1) k q1) q2)) q3) pos) :=
  fun F hcs hn C cells g real m st s S kk kx q Q E pe px => by
    refine Subscript_ ?_
    refine hc F hcs hn C cells g real m st s S (fun a st => asL a st fun _ l => capL l (newR (.lst (revL l)) st kk)) kx q _ E (fun v a g1 r1 st1 s1 S1 x1 e1 V q1 => ?_) px
    obtain ⟨x, l, rfl, hx, q2⟩ := asL_true q1
    obtain ⟨hl, q3⟩ := capL_true q2
    obtain ⟨hh, q4⟩ := new_true q3
    obtain ⟨d, vs, n, rfl, hb1, A1, I1⟩ := S1.list V hx
    rw [revL_eq] at q4
    refine wpAny_Slice (evalPart_none_step (evalPart_none_step (evalPart_some_step (UnaryOp_ (wpAny_Constant_int (neg_int ?_))))))
    have S2 := S1.toks (s1.toks + 1 + 1)
    have hlt : ∀ q ∈ led F.oth cells g1 r1, q.1 < s1.heap.objs.size := fun q hq => Heap.lt_size (S1.hr.ns q hq).1
    refine kba_turn (value' := PySem.Expr.Name (PySem.Str.ofString "_") ⟨0, 0, 0, 0⟩) (fun _ => rfl) ?_
    refine slice_list3 (ops := [.ref d, .ref s1.heap.objs.size]) (s := { s1 with toks := s1.toks + 1 + 1 }) S2.hr.fr S2.hr.ns I1 .none .none (.int _ _) (by decide) (fun h' F' N' => ?_) ?_ (fun _ => rfl) (by rw [List.size_toArray, A1.length, sizeLine_eq]; omega)
    · rw [krv_pick] at N'
      obtain ⟨S3, le, hr⟩ := S2.newBlk (b := .lst (s1.heap.objs.size + 1) vs.reverse 0) (o := .lst l.reverse) (t := s1.toks + 1 + 1) F' N' (fun q hq r hr => by
        rw [List.mem_singleton.mp (show r ∈ [_] from hr)]; exact Nat.ne_of_lt (Nat.lt_succ_of_lt (hlt q hq))) (nd1 _) (.lst A1.reverse) hh
      exact pe _ _ _ _ _ _ S3 (x1.trans le) e1 (.ref hr) q4
    · with_unfolding_all rfl
theorem strPair_true {l : List AV} {α : Type} {k : Nat → AV → Option α} {r : α} (h : strPair l none k = some r) : ∃ c v, l = [.str c, v] ∧ k c v = some r := by
  cases l with
  | nil => cases h
  | cons a l =>
    cases l with
    | nil => cases h
    | cons b l =>
      cases l with
      | cons _ _ => cases h
      | nil =>
        obtain ⟨c, rfl, h⟩ := strK_some (show strK a none (fun c => k c b) = some r from h)
        exact ⟨c, b, rfl, h⟩
theorem pairs_sound (H : HR F.h₀ F.L F.rst F.oth cells g real m s) (X : P.K.In F.h₀) : ∀ {l : List AV} {d : List (Nat × AV)} {vs : List Value}, pairsD l = some d → AllRel (P.VR g) vs l → ∃ kvs, KeyRel (P.VR g) kvs d ∧ Pairs0 s.heap vs kvs
  | [], d, _, h, .nil => by cases h; exact ⟨[], .nil, rfl, fun i v kv e => by simp at e⟩
  | a :: l, d, _, h, .cons Va AL => by
    rename_i v vs
    cases a <;> try (cases h; done)
    rename_i tl
    obtain ⟨c, b, rfl, h2⟩ := strPair_true (α := List (Nat × AV)) (k := fun c v => @Option.rec (List (Nat × AV)) (fun _ => Option (List (Nat × AV))) none (fun d => some ((c, v) :: d)) (pairsD l)) h
    obtain ⟨d', h3, h4⟩ := opt_bind_some h2
    cases h4
    obtain ⟨kvs, K, Pr⟩ := pairs_sound H X h3 AL
    cases Va with
    | tup T A =>
      rename_i t ws
      rcases A with _ | ⟨Vc, A⟩
      rcases A with _ | ⟨Vb, A⟩
      cases A
      rename_i w1 w2
      obtain ⟨hc, tk, rfl⟩ := Vc.str_inv
      refine ⟨(nm c, w2) :: kvs, .cons hc Vb K, ⟨by rw [List.length_cons, List.length_cons, Pr.len], fun i v kv e1 e2 => ?_⟩⟩
      cases i with
      | zero => cases e1; cases e2; exact ⟨_, _, rfl, T.isTup H X⟩
      | succ i => exact Pr.at_ i v kv e1 e2
theorem key_nodup {V : Value → AV → Prop} {kvs : List (Str × Value)} {d : List (Nat × AV)} (K : KeyRel V kvs d) (h : noDup d = true) : (kvs.map (·.1)).Nodup := by
  induction K with
  | nil => exact List.nodup_nil
  | cons hc hv hr ih =>
    rename_i c v a kvs d
    have h : @Option.rec AV (fun _ => Bool) (noDup d) (fun _ => false) (look c d) = true := h
    cases z : look c d with
    | some _ => rw [z] at h; cases h
    | none =>
      rw [z] at h
      refine List.nodup_cons.mpr ⟨fun q => ?_, ih h⟩
      obtain ⟨kv, hkv, e⟩ := List.mem_map.mp q
      have := key_none hr hc z
      unfold valueAt at this
      rw [Option.map_eq_none_iff, List.find?_eq_none] at this
      exact this kv hkv (by simpa using e)
theorem blt_dict : BltOk P (.type "dict") bDic := by
  intro F C cells g real m st s S v a V k q Q E h
  obtain ⟨x, l, rfl, hx, q2⟩ := asL_true q
  obtain ⟨hl, q3⟩ := capL_true q2
  obtain ⟨d0, vs, n, rfl, hb1, A1, I1⟩ := S.list V hx
  have q3 : @Option.rec (List (Nat × AV)) (fun _ => Bool) false (fun d => @Bool.rec (fun _ => Bool) false (newR (.dic d) st k) (noDup d)) (pairsD l) = true := q3
  cases z : pairsD l with
  | none => rw [z] at q3; cases q3
  | some d =>
    rw [z] at q3
    obtain ⟨hnd, q4⟩ : noDup d = true ∧ newR (.dic d) st k = true := by
      rcases bool_rec_true q3 with h | ⟨_, h⟩
      · exact h
      · cases h
    obtain ⟨hh, q5⟩ := new_true q4
    obtain ⟨kvs, K, Pr⟩ := pairs_sound S.hr C.kin z A1
    have hlen : kvs.length ≤ 900 := by rw [← Pr.len, A1.length]; exact hl
    have hm := (S.hr.ns _ (real_mem hb1 (.head _))).1
    refine call_dict_pairs C.hd hm Pr (key_nodup K hnd) hlen fun h' tk hk hd => ?_
    obtain ⟨o, ho, hdo⟩ := Heap.dictOf_iff.mp hd
    have big : 2 < s.heap.objs.size := by
      obtain ⟨mc, ⟨oc, _, _, hoc, _⟩, _⟩ := C.top.nolimit.keeps S.hr.fr.keep
      exact Heap.lt_size hoc
    have nsm : (s.heap.objs.size == sysModules) = false := by
      rw [beq_eq_false_iff_ne]; intro e; rw [e] at big; exact absurd big (by decide)
    have hlt : ∀ q ∈ led F.oth cells g real, q.1 < s.heap.objs.size := fun q hq => Heap.lt_size (S.hr.ns q hq).1
    have F' := S.hr.fr.grownK hk
    have N' : News F.h₀ F.L h' ((s.heap.objs.size, o) :: led F.oth cells g real) := fun q hq => by
      rcases List.mem_cons.mp hq with e | hq
      · subst e
        exact ⟨ho, Nat.ne_of_gt S.hr.fr.ns.lt, kts_none S.hr.fr.keep (Heap.get?_none_of_le (Nat.le_refl _))⟩
      · have n := S.hr.ns q hq
        exact ⟨hk _ _ n.1, n.2⟩
    obtain ⟨S2, le, hr⟩ := S.newBlk (b := .dic s.heap.objs.size o) (o := .dic d) (t := tk) F' N' (fun q hq r hr => by
      rw [List.mem_singleton.mp (show r ∈ [_] from hr)]; exact Nat.ne_of_lt (hlt q hq)) (nd1 _) (.dic hdo nsm K) hh
    exact h _ _ _ _ _ _ S2 le rfl (.ref hr) q5
end
end Mine
end
section
open PySem PySem.W PyProof.Rows PySem.Calls
namespace Mine
section
variable {P : Pk} {XR : XRel} {N H : Nat} {cs : Scope}
noncomputable def storB (cs : Scope) (x : Nat) : Bool := Nat.blt x tabN && (cs.names.lookup (nm x) == some .local || cs.names.lookup (nm x) == some .cell)
theorem stor_at {x : Nat} (h : storB cs x = true) : ∀ F : Fd, F.cs = cs → Cx P F → Stor F.cs F.cl x := fun F e C => by
  unfold storB at h
  rw [Bool.and_eq_true, Bool.or_eq_true] at h
  refine ⟨Nat.blt_eq ▸ h.1, ?_⟩
  rcases h.2 with k | k
  · exact .inl (e ▸ beq_iff_eq.mp k)
  · exact .inr ⟨e ▸ beq_iff_eq.mp k, C.keys _ (e ▸ beq_iff_eq.mp k)⟩
theorem stors_at {xs : List Nat} (h : xs.all (storB cs) = true) : ∀ F : Fd, F.cs = cs → Cx P F → ∀ x ∈ xs, Stor F.cs F.cl x := fun F e C x hx => stor_at (List.all_eq_true.mp h x hx) F e C
theorem inter_of (h : cs.kind = .function) : ∀ F : Fd, F.cs = cs → interactive F.env = false := fun F e => by
  unfold interactive
  rw [show F.env.scope.kind = .function from (show F.cs.kind = .function by rw [e]; exact h)]; rfl
theorem tak_of {K : Frag} {cA : Nat → Addr} {n : Nat} (h : clsL.all (fun c => takerIn K (cA c) (nm n) == some none) = true) : ∀ c ∈ clsL, takerIn K (cA c) (nm n) = some none := fun c hc => beq_iff_eq.mp (List.all_eq_true.mp h c hc)
theorem not_in_tab {name : Str} (h : (List.range tabN).all (fun c => !(nm c == name)) = true) : ∀ c, c < tabN → nm c ≠ name := fun c hc e => by
  have := List.all_eq_true.mp h c (List.mem_range.mpr hc)
  rw [e, beq_self_eq_true] at this; cases this
theorem hloc_of {scope : Scope} {xs : List Nat} (h : xs.all (fun x => Nat.blt x tabN && (scope.names.lookup (nm x) == some .local)) = true) : ∀ x ∈ xs, x < tabN ∧ scope.names.lookup (nm x) = some .local := fun x hx => by
  have := List.all_eq_true.mp h x hx
  rw [Bool.and_eq_true] at this
  exact ⟨Nat.blt_eq ▸ this.1, beq_iff_eq.mp this.2⟩
theorem hlocC_of {scope : Scope} {xs : List Nat} (h : xs.all (fun x => Nat.blt x tabN && (scope.names.lookup (nm x) == some .local || scope.names.lookup (nm x) == some .cell)) = true) : ∀ x ∈ xs, x < tabN ∧ (scope.names.lookup (nm x) = some .local ∨ scope.names.lookup (nm x) = some .cell) := fun x hx => by
  have := List.all_eq_true.mp h x hx
  rw [Bool.and_eq_true, Bool.or_eq_true] at this
  exact ⟨Nat.blt_eq ▸ this.1, this.2.imp beq_iff_eq.mp beq_iff_eq.mp⟩
theorem hcell_of {scope : Scope} (h : scope.names.all (fun x => !(x.2 == .cell)) = true) : ∀ x ∈ scope.names, x.2 ≠ .cell := fun x hx e => by
  have := List.all_eq_true.mp h x hx
  rw [e] at this; cases this
theorem tg_seq1 {x : Nat} {y : Str} {p : Pos} (hy : y = nm x) (h : storB cs x = true) : ∀ F : Fd, F.cs = cs → Cx P F → ∀ cells, CE F cells → ∀ n ax I, (n = "list_iterator" ∨ n = "tuple_iterator") → TgtOk P F I (IsIt n ax) (.Name y p) (bOne x) := fun F e C _ _ _ _ _ _ => tgt_one C hy (stor_at h F e C)
theorem tg_seq2 {x y : Nat} {nx ny : Str} {px py tp : Pos} {x1 : Nat} (hx : nx = nm x) (hy : ny = nm y) (ne : x ≠ y) (h : storB cs x = true) (h2 : storB cs y = true) : ∀ F : Fd, F.cs = cs → Cx P F → ∀ cells, CE F cells → ∀ n ax I, (n = "list_iterator" ∨ n = "tuple_iterator") → TgtOk P F I (IsIt n ax) (.Tuple [.Name nx px, .Name ny py] x1 tp) (bTwo x y) :=
  fun F e C _ _ n _ _ hn => tgt_two (by rcases hn with e | e <;> (rw [e]; decide)) C hx hy ne (stor_at h F e C) (stor_at h2 F e C)
theorem tg_key1 {x : Nat} {y : Str} {p : Pos} (hy : y = nm x) (h : storB cs x = true) : ∀ F : Fd, F.cs = cs → Cx P F → ∀ cells, CE F cells → ∀ d n ep I, TgtOk P F I (IsKi d n ep) (.Name y p) (bOne x) := fun F e C _ _ _ _ _ _ => tgt_one C hy (stor_at h F e C)
theorem tg_rng1 {x : Nat} {y : Str} {p : Pos} (hy : y = nm x) (h : storB cs x = true) : ∀ F : Fd, F.cs = cs → Cx P F → ∀ cells, CE F cells → ∀ n I, TgtOk P F I (IsRg n) (.Name y p) (bOne x) := fun F e C _ _ _ _ => tgt_one C hy (stor_at h F e C)
theorem sndE_call0 {f : FC} {fa : Addr} {x : Str} {np pos : Pos} (hf : SndF P XR H f (.ref fa)) (hH : H + 1 ≤ N) (hk : keepIn P.K (.ref fa) = true) (hns : nsIn P.K mainGlobals x = some (some (.ref fa)))
    (hx : cs.names.lookup x = some .globalImplicit) (hd : (x == ("__debug__" : Str)) = false) : SndE P XR N cs (eCallF f lNil) (.Call (.Name x np) [] [] pos) :=
  fun F hcs hn C cells g real m st s S k kx q Q E pe px => by
    refine wpAny_Call_ofName (nameX_K S.hr.fr C.kin (topRead_of C.top) hns ?_ C.kind (by rw [← hcs] at hx; exact hx) hd)
    refine callWith_K0 (C.kin.keeps S.hr.fr.keep) hk ?_
    exact wpAny_call (hf F F.A C ⟨C.fr, C.hd, by have := C.dep; omega, by have := C.un; omega⟩ cells g real m st s S [] [] .nil k kx q _ pe px)
theorem sndE_callL {f : FC} {fa : Addr} {l : LC} {x : Str} {np pos : Pos} {e : Expr} {es : List Expr} (hlaw : (cs.names.lookup ("script" : Str)).isSome = true) (hf : SndFL P XR H f (.ref fa)) (hH : H + 1 ≤ N) (hk : keepIn P.K (.ref fa) = true) (hns : nsIn P.K mainGlobals x = some (some (.ref fa)))
    (hx : cs.names.lookup x = some .globalImplicit) (hd : (x == ("__debug__" : Str)) = false) (hl : SndL P XR N cs l (e :: es)) (hst : (e :: es).all notStar = true) : SndE P XR N cs (eCallF f l) (.Call (.Name x np) (e :: es) [] pos) :=
  fun F hcs hn C cells g real m st s S k kx q Q E pe px => by
    have h0 := hst
    rw [List.all_cons, Bool.and_eq_true] at h0
    obtain ⟨l1, l2⟩ := C.law (by rw [hcs]; exact hlaw)
    refine wpAny_Call_ofName (nameX_K S.hr.fr C.kin (topRead_of C.top) hns ?_ C.kind (by rw [← hcs] at hx; exact hx) hd)
    refine callWith_K C.kin hk (hl F hcs hn C cells g real m st s S (fun l st => f l st k kx) kx q pos _ E (fun vs l g1 r1 st1 s1 S1 x1 e1 A1 hv q1 => ⟨C.kin.keeps S1.hr.fr.keep, ?_⟩) px) (star_cons h0.1) (plain_trees _ _ _ h0.2)
    refine wpAny_call (hf F F.A C l1 l2 ⟨C.fr, C.hd, by have := C.dep; omega, by have := C.un; omega⟩ cells g1 r1 m st1 s1 S1 vs l A1 k kx q1 _ (fun v a g2 r2 st2 s2 S2 x2 e2 V q2 => ?_) (px.le x1))
    exact pe v a g2 r2 st2 s2 S2 (x1.trans x2) (e2.trans e1) V q2
variable {fd : FuncData}
theorem bindOk0 (h : bindArgs fd ⟨[], []⟩ = pure []) : BindOk P fd [] none := by
  intro s X vs
  refine ⟨fun e => ?_, fun _ h => nomatch h⟩
  rcases vs with _ | ⟨_, _⟩
  · exact .of_eq (h)
  · cases e
theorem bindOk1 {x0 : Nat} (h : ∀ a0, bindArgs fd ⟨[a0], []⟩ = pure [(nm x0, a0)]) : BindOk P fd [x0] none := by
  intro s X vs
  refine ⟨fun e => ?_, fun _ h => nomatch h⟩
  rcases vs with _ | ⟨a0, _ | ⟨_, _⟩⟩
  · cases e
  · exact .of_eq (h a0)
  · cases e
theorem bindOk2 {x0 x1 : Nat} (h : ∀ a0 a1, bindArgs fd ⟨[a0, a1], []⟩ = pure [(nm x0, a0), (nm x1, a1)]) : BindOk P fd [x0, x1] none := by
  intro s X vs
  refine ⟨fun e => ?_, fun _ h => nomatch h⟩
  rcases vs with _ | ⟨a0, _ | ⟨a1, _ | ⟨_, _⟩⟩⟩
  · cases e
  · cases e
  · exact .of_eq (h a0 a1)
  · cases e
theorem bindOk3 {x0 x1 x2 : Nat} (h : ∀ a0 a1 a2, bindArgs fd ⟨[a0, a1, a2], []⟩ = pure [(nm x0, a0), (nm x1, a1), (nm x2, a2)]) : BindOk P fd [x0, x1, x2] none := by
  intro s X vs
  refine ⟨fun e => ?_, fun _ h => nomatch h⟩
  rcases vs with _ | ⟨a0, _ | ⟨a1, _ | ⟨a2, _ | ⟨_, _⟩⟩⟩⟩
  · cases e
  · cases e
  · cases e
  · exact .of_eq (h a0 a1 a2)
  · cases e
theorem bindOk4 {x0 x1 x2 x3 : Nat} (h : ∀ a0 a1 a2 a3, bindArgs fd ⟨[a0, a1, a2, a3], []⟩ = pure [(nm x0, a0), (nm x1, a1), (nm x2, a2), (nm x3, a3)]) : BindOk P fd [x0, x1, x2, x3] none := by
  intro s X vs
  refine ⟨fun e => ?_, fun _ h => nomatch h⟩
  rcases vs with _ | ⟨a0, _ | ⟨a1, _ | ⟨a2, _ | ⟨a3, _ | ⟨_, _⟩⟩⟩⟩⟩
  · cases e
  · cases e
  · cases e
  · cases e
  · exact .of_eq (h a0 a1 a2 a3)
  · cases e
theorem bindOk5 {x0 x1 x2 x3 x4 : Nat} (h : ∀ a0 a1 a2 a3 a4, bindArgs fd ⟨[a0, a1, a2, a3, a4], []⟩ = pure [(nm x0, a0), (nm x1, a1), (nm x2, a2), (nm x3, a3), (nm x4, a4)]) : BindOk P fd [x0, x1, x2, x3, x4] none := by
  intro s X vs
  refine ⟨fun e => ?_, fun _ h => nomatch h⟩
  rcases vs with _ | ⟨a0, _ | ⟨a1, _ | ⟨a2, _ | ⟨a3, _ | ⟨a4, _ | ⟨_, _⟩⟩⟩⟩⟩⟩
  · cases e
  · cases e
  · cases e
  · cases e
  · cases e
  · exact .of_eq (h a0 a1 a2 a3 a4)
  · cases e
end
end Mine
end
section
open PySem PySem.W PyProof.Rows PySem.Calls
namespace Mine
noncomputable def kvr (K : Frag) : Nat → Value → AV → Bool
  | n, v, a => match v, a with
    | .none, .non => true
    | .bool b, .boo c => b == c
    | .int i _, .int j => i == j
    | .str s _, .str c => Nat.blt c tabN && s == nm c
    | .ref t, .tup l => (match n with
      | 0 => false
      | n + 1 => match K.lookup t with
        | some o => o.cls == .type "tuple" && (match o.data with
          | .seq vs _ => vs.toList.length == l.length && (vs.toList.zip l).all fun q => kvr K n q.1 q.2
          | _ => false)
        | none => false)
    | _, _ => false
theorem allRel_zip {V : Value → AV → Prop} : ∀ {vs : List Value} {l : List AV}, vs.length = l.length → (∀ q ∈ vs.zip l, V q.1 q.2) → AllRel V vs l
  | [], [], _, _ => .nil
  | [], _ :: _, h, _ => by cases h
  | _ :: _, [], h, _ => by cases h
  | v :: vs, a :: l, h, k => .cons (k (v, a) (.head _)) (allRel_zip (Nat.succ.inj h) fun q hq => k q (.tail _ hq))
theorem kvr_sound {prog : Program} {w : World} {K : Frag} {cA : Nat → Addr} : ∀ {n : Nat} {v : Value} {a : AV}, kvr K n v a = true → ∀ g, VR prog w K cA g v a := by
  intro n
  induction n with
  | zero =>
    intro v a h g
    unfold kvr at h
    split at h
    · exact .non
    · rw [beq_iff_eq.mp h]; exact .boo _
    · rw [beq_iff_eq.mp h]; exact .int _ _
    · rw [Bool.and_eq_true] at h; rw [beq_iff_eq.mp h.2]; exact .str _ _ (Nat.blt_eq ▸ h.1)
    · cases h
    · cases h
  | succ n ih =>
    intro v a h g
    unfold kvr at h
    split at h
    · exact .non
    · rw [beq_iff_eq.mp h]; exact .boo _
    · rw [beq_iff_eq.mp h]; exact .int _ _
    · rw [Bool.and_eq_true] at h; rw [beq_iff_eq.mp h.2]; exact .str _ _ (Nat.blt_eq ▸ h.1)
    · dsimp only at h
      split at h
      · rename_i t l _ o ho
        rw [Bool.and_eq_true] at h
        obtain ⟨h1, h2⟩ := h
        split at h2
        · rename_i vs k hd
          rw [Bool.and_eq_true] at h2
          obtain ⟨oc, od, dt, sl⟩ := o
          obtain rfl : oc = .type "tuple" := beq_iff_eq.mp h1
          obtain rfl : dt = .seq vs k := hd
          exact .tup (.inr ⟨k, od, sl, ho⟩) (allRel_zip (beq_iff_eq.mp h2.1) fun q hq => ih (List.all_eq_true.mp h2.2 q hq) g)
        · cases h2
      · cases h
    · cases h
noncomputable def clsOkB (K : Frag) (cA : Nat → Addr) : Bool := clsL.all fun c => attL.all fun n => plainGet K (cA c) (nm n) && hasDictIn K (cA c) && findIn K (.ref (cA c)) (nm n) == some none
theorem clsOk_of {K : Frag} {cA : Nat → Addr} (h : clsOkB K cA = true) : ClsOk K cA := fun c hc n hn => by
  have := List.all_eq_true.mp (List.all_eq_true.mp h c hc) n hn
  rw [Bool.and_eq_true, Bool.and_eq_true] at this
  exact ⟨this.1.1, this.1.2, beq_iff_eq.mp this.2⟩
noncomputable def clsSetB (K : Frag) (cA : Nat → Addr) : Bool := clsL.all fun c => findIn K (.ref (cA c)) "__setattr__" == some (some (.builtin "object.__setattr__")) && plainOver K (cA c) && hasDictIn K (cA c)
theorem clsSet_of {P : Pk} (h : clsSetB P.K P.cA = true) : ClsSet P := fun c hc => by
  have := List.all_eq_true.mp h c hc
  rw [Bool.and_eq_true, Bool.and_eq_true] at this
  exact ⟨beq_iff_eq.mp this.1.1, this.1.2, this.2⟩
noncomputable def cAf (c : Nat) : Addr := if c = 99 then 195 else if c = 105 then 249 else if c = 33 then 559 else if c = 28 then 602 else 535
end Mine
end
section
open PySem PySem.W PyProof.Rows PySem.Calls
namespace Mine
theorem kScr_true {st : St} (h : kScr st = true) : look 152 st.loc = some .bot := by
  unfold kScr at h
  split at h
  · rename_i a e
    unfold botB at h
    split at h
    · exact e
    · cases h
  · cases h
section
variable {prog : Program} {w : World} {A : Around} {cn : Str} {cs : Scope} {a : Addr} {ccd : Value} {cl : List (Str × Addr)} {h₀ : Heap} {L : Addr} {m : Str → Option Value} {news : List (Addr × Obj)} {e f : Expr} {i j : Int} {pos np : Pos} {kd : Nat} {K : Frag} {p : Program} {loose : List Str} {mg mb : Str → Option Value}
theorem evi_min (X : K.In h₀) (T : TopRead p loose mg mb h₀) (hns : nsIn K mainGlobals "min" = some none) (hk : cs.kind = .function) (hx : cs.names.lookup ("min" : Str) = some .globalImplicit) (hh : A.handled = none) (hs : notStar e = true) (hs2 : notStar f = true)
    (he : EvI prog w A cn cs a ccd cl h₀ L m news e i) (hf : EvI prog w A cn cs a ccd cl h₀ L m news f j) : EvI prog w A cn cs a ccd cl h₀ L m news (.Call (.Name "min" np) [e, f] [] pos) (if j < i then j else i) := fun s F N Q E h => by
  refine wpAny_Call_ofName (nameX_B F X T hns (by decide +kernel : bootBuiltins "min" = some (.builtin "min")) (by decide) ?_ hk hx (by decide))
  refine callWith_method1 (first := []) (spliced_more (he s F N _ _ fun t h1 tk F1 N1 => spliced_more (hf _ F1 N1 _ _ fun u h2 tk2 F2 N2 => spliced_none ?_) (star_cons hs2)) (star_cons hs)) (star_cons hs) (by rw [star_cons hs2]; rfl)
  exact min_two_N hh F2 N2 fun h3 tk3 F3 N3 => h _ _ _ F3 N3
end
section
variable {P : Pk} {XR : XRel} {N H : Nat} {cs : Scope} {F : Fd} {cells : List (Addr × Obj)} {g g' : Gh} {real : List Blk} {m : Str → Option Value} {st st' : St} {s : Shared}
noncomputable def g0 : Gh := ⟨[], [], []⟩
theorem SR.forget (S : SR P F cells g real m st s) {loc : List (Nat × AV)} (h : ∀ x a, look x loc = some a → look x st.loc = some a ∧ a = .bot) : SR P F cells g0 [] m ⟨loc, .nil, 0, [], 0⟩ s := by
  refine ⟨⟨S.hr.fr, (fun (q : Addr × Obj) hq => S.hr.ns q ?_), ?_, S.hr.rst⟩, ⟨rfl, rfl, fun k o q => ?_, fun i S' q => (nomatch q), rfl⟩, fun x a q => ?_⟩
  · have hq : q ∈ cells ++ (F.oth ++ []) := hq
    rw [List.append_nil] at hq
    show q ∈ cells ++ (F.oth ++ (g.cst ++ ledger real))
    rw [← List.append_assoc]; exact List.mem_append_left _ hq
  · have nd : ((cells ++ (F.oth ++ (g.cst ++ ledger real))).map (fun q : Addr × Obj => q.1)).Nodup := S.hr.nd
    rw [← List.append_assoc, List.map_append, List.nodup_append] at nd
    show ((cells ++ (F.oth ++ ([] : List (Addr × Obj)))).map (fun q : Addr × Obj => q.1)).Nodup
    rw [List.append_nil]; exact nd.1
  · rw [HT.get_nil] at q; cases q
  · obtain ⟨q1, rfl⟩ := h x a q
    obtain ⟨lt, v, hv, V⟩ := S.lr x _ q1
    cases V with
    | bot => exact ⟨lt, _, hv, .bot⟩
theorem SR.less (S : SR P F cells g real m st s) {loc : List (Nat × AV)} (h : ∀ x a, look x loc = some a → look x st.loc = some a) : SR P F cells g real m ⟨loc, st.H, st.hn, st.known, st.nv⟩ s :=
  ⟨S.hr, ⟨S.ar.rho, S.ar.hn, S.ar.ob, S.ar.kn, S.ar.nv⟩, fun x a q => S.lr x a (h x a q)⟩
end
end Mine
end
section
open PySem PySem.W PyProof.Rows PySem.Calls
namespace Mine
section
variable {P : Pk} {XR : XRel} {N H : Nat} {cs : Scope} {F : Fd} {cells : List (Addr × Obj)} {g g' : Gh} {real : List Blk} {m : Str → Option Value} {st st' : St} {s : Shared}
theorem var_loc {env : Env} {L : Addr} {x : Str} {v : Value} (V : VarAt env L m [] x v) (h : env.kindOf x = some .local) : m x = some v := by
  cases V with
  | loc _ _ _ h4 => exact h4
  | cel _ h1 => rw [h] at h1; cases h1
  | fre _ h1 => rw [h] at h1; cases h1
  | com _ _ h1 => cases h1
theorem cells_nil (hcl : F.cl = []) (ce : CE F cells) : cells = [] := by
  have := ce.at_
  rw [hcl] at this
  exact List.map_eq_nil_iff.mp this
noncomputable abbrev stS : St := ⟨[(152, .bot)], .nil, 0, [], 0⟩
structure LawNames (P : Pk) (cs : Scope) (fp : Addr) : Prop where
  kind : cs.kind = .function
  script : cs.names.lookup ("script" : Str) = some .local
  k : cs.names.lookup ("k" : Str) = some .local
  source : cs.names.lookup ("source" : Str) = some .local
  range : cs.names.lookup ("range" : Str) = some .globalImplicit
  max : cs.names.lookup ("max" : Str) = some .globalImplicit
  min : cs.names.lookup ("min" : Str) = some .globalImplicit
  len : cs.names.lookup ("len" : Str) = some .globalImplicit
  pool : cs.names.lookup ("_law_pool" : Str) = some .globalImplicit
  n1 : nsIn P.K mainGlobals "range" = some none
  n2 : nsIn P.K mainGlobals "max" = some none
  n3 : nsIn P.K mainGlobals "min" = some none
  n4 : nsIn P.K mainGlobals "len" = some none
  n5 : nsIn P.K mainGlobals "_law_pool" = some (some (.ref fp))
  keep : keepIn P.K (.ref fp) = true
noncomputable def PoolOk (P : Pk) (fp : Addr) (items : Array Value) : Prop := ∀ (F : Fd) A', Cx P F → CallAt F A' 0 → ∀ cells g real m st s, SR P F cells g real m st s → st.hn ≤ 4000 → (∀ h, F.h₀.StaysIn h → h.IsList (P.cA 9999) items) → ∀ k : Nat, k ≤ 2 → ∀ tk R,
  (∀ d' g' real' s', SR P F cells g' real' m ⟨st.loc, HT.put 12 st.H st.hn (.lst [.unk, .unk]), st.hn + 1, st.known, st.nv⟩ s' → g.Le g' → P.VR g' (.ref d') (.ref st.hn) → R (.ok (.ret (.ref d'))) s') → codeAny P.M A' (.call (.ref fp) ⟨[.ref (P.cA 9999), .int k tk], []⟩) R s
theorem look_one {x y : Nat} {a b : AV} (q : look x [(y, b)] = some a) : x = y ∧ a = b := by
  rw [look_cons] at q
  by_cases e : x = y
  · rw [if_pos e] at q; exact ⟨e, (Option.some.inj q).symm⟩
  · rw [if_neg e] at q; cases q
theorem kRes_true {v : Value} {a : AV} (V : P.VR g v a) (h : kRes a st = true) : v = .bool true := by
  cases V <;> try (cases h; done)
  rename_i b
  cases b
  · cases h
  · rfl
theorem nm152 : nm 152 = ("script" : Str) := by decide +kernel
theorem nm94 : nm 94 = ("k" : Str) := by decide +kernel
theorem nm134 : nm 134 = ("source" : Str) := by decide +kernel
theorem tab152 : 152 < tabN := by decide
theorem law_walk {rest1 rest2 : List Stmt} {xk xs : Str} (hxk : xk = nm 94) (hxs : xs = nm 134) {fp : Addr} {items : Array Value} {p1 p2 p3 p4 p5 p6 p7 p8 p9 p10 p11 p12 p13 p14 p15 p16 p17 p18 p19 : Pos} {k1 k2 : Nat} (LN : LawNames P cs fp) (hp : PoolOk P fp items) (C : Cx P F) (hcs : F.cs = cs) (hN : N ≤ F.n) (hcl : F.cl = []) (h1N : 1 ≤ N)
    (hl : ∀ h, F.h₀.StaysIn h → h.IsList (P.cA 9999) items) (hz : (items.size : Int) < 2 ^ 63) (hT : SndS P XR N cs (preK turnK) rest1) (hR : SndS P XR N cs b_rest rest2) (S : SR P F [] g0 [] m stS s) {Q : Flow → Shared → Prop} {E : Value → Shared → Prop}
    (hQ : ∀ c g r m' s', HR F.h₀ F.L F.rst F.oth c g r m' s' → Q (.ret (.bool true)) s') :
    wpAny P.M F.A (execs (.For (.Name xk p1) (.Call (.Name "range" p2) [.Call (.Name "max" p3) [.Constant (.int 1) k1 p4, .Call (.Name "min" p5) [.Call (.Name "len" p6) [.Name "script" p7] [] p8, .Constant (.int 2) k2 p9] [] p10] [] p11] [] p12)
      (.Assign [.Name xs p13] (.Call (.Name "_law_pool" p14) [.Name "script" p15, .Name "k" p16] [] p17) p18 :: rest1) [] p19 :: rest2) F.env) Q E s := by
  subst hxk hxs
  have TR := topRead_of C.top
  have kd : ∀ {x : Str} {k : NameKind}, cs.names.lookup x = some k → F.env.kindOf x = some k := fun h => by show F.cs.names.lookup _ = _; rw [hcs]; exact h
  have ks : F.cs.names.lookup ("script" : Str) = some .local := by rw [hcs]; exact LN.script
  have scr : ∀ {F' : Fd} {g real m st s}, F'.env = F.env → SR P F' [] g real m st s → look 152 st.loc = some .bot → m "script" = some (.ref (P.cA 9999)) := fun {F' g real m st s} e S q => by
    obtain ⟨_, v, hv, V⟩ := S.lr 152 _ q
    cases V
    rw [nm152] at hv
    exact var_loc hv (by rw [e]; exact kd LN.script)
  have m1 := scr rfl S rfl
  have hh : F.A.handled = none := C.hd
  have hkind : F.cs.kind = .function := C.kind
  have gi : ∀ {x : Str}, cs.names.lookup x = some .globalImplicit → F.cs.names.lookup x = some .globalImplicit := fun h => by rw [hcs]; exact h
  have hl' : ∀ h, Fr F.h₀ F.L h m → News F.h₀ F.L h (led F.oth [] g0 []) → h.IsList (P.cA 9999) items := fun h Fh _ => hl h fun b o q => Fh.keep b o q
  obtain ⟨n, hn2, hn⟩ : ∃ n : Nat, n ≤ 2 ∧ (if (if (2 : Int) < (items.size : Int) then (2 : Int) else (items.size : Int)) > 1 then (if (2 : Int) < (items.size : Int) then (2 : Int) else (items.size : Int)) else 1) = (n : Int) := by
    by_cases a1 : (2 : Int) < (items.size : Int)
    · exact ⟨2, by omega, by rw [if_pos a1]; rfl⟩
    · by_cases a2 : (items.size : Int) > 1
      · exact ⟨items.size, by omega, by rw [if_neg a1, if_pos a2]⟩
      · exact ⟨1, by omega, by rw [if_neg a1, if_neg a2]; rfl⟩
  have EV := evi_max (prog := P.prog) (w := P.w) (A := F.A) (cn := F.cn) (cs := F.cs) (a := F.a) (ccd := F.ccd) (cl := F.cl) (h₀ := F.h₀) (L := F.L) (m := m) (news := led F.oth [] g0 []) (np := p3) (pos := p11) C.kin TR LN.n2 hkind (gi LN.max) hh rfl rfl (evi_con (i := 1) (kd := k1) (pos := p4))
    (evi_min (np := p5) (pos := p10) C.kin TR LN.n3 hkind (gi LN.min) hh rfl rfl (evi_len (np := p6) (pos := p8) (pos2 := p7) C.kin TR LN.n4 hkind (gi LN.len) ks m1 (by decide) hl' hz) (evi_con (i := 2) (kd := k2) (pos := p9)))
  rw [hn] at EV
  refine wpAny_execs_cons (wpAny_For (Call_name1 (by rfl) (nameX_B S.hr.fr C.kin TR LN.n1 (by decide +kernel : bootBuiltins "range" = some (.type "range")) (by decide) ?_ hkind (gi LN.range) (by decide))) (fun _ => rfl))
  refine PySem.callWith_type1 (EV _ S.hr.fr S.hr.ns _ _ fun t h1 tk1 F1 N1 => call_range_1 ?_)
  refine wpAny_pyIter_range (IsRange.new ..) (small_one (by decide) (by decide) (by show -(2 ^ 62) ≤ (n : Int); omega) (by show (n : Int) < 2 ^ 62; omega)) ?_
  have hsz : Builtin.Range.rangeSize 0 (n : Int) 1 = (n : Int) := by rw [rangeSize_one]; split <;> omega
  rw [hsz]
  have S1 : SR P F [] g0 [] m stS { s with heap := h1, toks := tk1 } := ⟨⟨F1, N1, S.hr.nd, S.hr.rst.toks _ _⟩, S.ar, S.lr⟩
  have S2 : SR P F [] g0 [] m stS { s with heap := h1.push { cls := .type "range", data := .fields #[.int 0 tk1, .int (n : Int) t, .int 1 (tk1 + 1)] }, toks := tk1 + 1 + 1 } := ⟨S1.hr.push { cls := .type "range", data := .fields #[.int 0 tk1, .int (n : Int) t, .int 1 (tk1 + 1)] } (tk1 + 1 + 1), S1.ar, S1.lr⟩
  have cE : CE F [] := ⟨by rw [hcl]; rfl, fun _ h => nomatch h⟩
  have st94 : Stor F.cs F.cl 94 := ⟨by decide, .inl (by rw [nm94, hcs]; exact LN.k)⟩
  have st134 : Stor F.cs F.cl 134 := ⟨by decide, .inl (by rw [nm134, hcs]; exact LN.source)⟩
  have kpool := gi LN.pool
  refine codeAny_forLoop_any (fun k s' => ∃ i m oi, k = n + 1 - i ∧ i ≤ n ∧ SR P (F.with (_, oi)) [] g0 [] m stS s' ∧ IsRg n i oi) ?_ (n + 1) ⟨0, m, _, rfl, Nat.zero_le _, S2.pushed _ rfl, ⟨by simp, Nat.zero_le _⟩⟩
  rintro k s' ⟨i, m', oi, rfl, hi, S, it⟩
  by_cases lt : i < n
  · refine (itOk_rng C).item i [] g0 [] m' stS s' oi (.int (.ofNat (0 + i))) S (Gh.Le.refl _) it (by rw [nth_rng, if_pos lt]) _ _ fun v o1 s1 S1 h1 V => ?_
    show wpAny _ _ (pure ()) _ _ _
    refine wpAny_pure (assign_Name ?_)
    refine store_sound (F := F.with (_, o1)) (C.with _) S1 cE.with V st94 fun c1 m1 s2 S2 ce1 => ?_
    obtain rfl := cells_nil hcl ce1.out
    have m152 := scr (F' := F.with (_, o1)) rfl S2 rfl
    obtain ⟨_, vk, hvk, Vk⟩ := S2.lr 94 _ rfl
    obtain ⟨tk, rfl⟩ := Vk.int_inv
    obtain ⟨_, vs, hvs, Vs⟩ := S2.lr 152 _ rfl
    cases Vs
    rw [nm152] at hvs
    refine wpAny_execs_cons (wpAny_Assign_Name (wpAny_Call_ofName (nameX_K S2.hr.fr C.kin TR LN.n5 ?_ hkind kpool (by decide))) (by rfl))
    refine callWith_K C.kin LN.keep (spliced_more (read_var S2.hr hvs (by decide) (spliced_more (read_var S2.hr hvk (by decide) (spliced_none ⟨C.kin.keeps S2.hr.fr.keep, ?_⟩)) rfl)) rfl) rfl rfl
    have ki : (Int.ofNat (0 + i)) = ((i : Nat) : Int) := by rw [Nat.zero_add]; rfl
    rw [ki] at hvk S2 ⊢
    refine wpAny_call (hp (F.with (_, o1)) F.A (C.with _) ⟨C.fr, C.hd, by have := C.dep; omega, by have := C.un; omega⟩ [] g0 [] m1 _ s2 S2 (Nat.zero_le _) hl i (by omega) tk _ fun d' g' r' s3 S3 x3 V3 => ?_)
    refine store_sound (F := F.with (_, o1)) (C.with _) S3 cE.with V3 st134 fun c4 m4 s4 S4 ce4 => ?_
    obtain rfl := cells_nil hcl ce4.out
    have S5 := S4.less (loc := stP.loc) (fun x a q => ?_)
    · refine hT (F.with (_, o1)) hcs hN (C.with _) [] g' r' m4 stP s4 S5 cE.with kScr no no (turnA) _ _ (fun c6 g6 r6 m6 st6 s6 S6 ce6 x6 q6 => ?_) (fun v a c3 g3 r3 m3 st3 s3 H3 R3 x3 V3 q3 => nomatch q3) (fun a x g3 r3 m3 st3 s3 _ _ _ q3 => nomatch q3)
      obtain rfl := cells_nil hcl ce6.out
      refine ⟨n + 1 - (i + 1), by omega, i + 1, m6, o1, rfl, lt, S6.forget (loc := stS.loc) (fun x a q => ?_), h1⟩
      obtain ⟨rfl, rfl⟩ := look_one q
      exact ⟨kScr_true q6, rfl⟩
    · have q : look x ((134, AV.ref 0) :: [(152, AV.bot)]) = some a := q
      show look x (put 134 (AV.ref 0) (put 94 (AV.int ((i : Nat) : Int)) [(152, AV.bot)])) = some a
      rw [look_put, look_put]
      rw [look_cons] at q
      by_cases e : x = 134
      · rw [if_pos e] at q ⊢; exact q
      · rw [if_neg e] at q ⊢
        obtain ⟨rfl, rfl⟩ := look_one q
        rw [if_neg (by decide)]; exact q
  · refine (itOk_rng C).done i [] g0 [] m' stS s' oi S (Gh.Le.refl _) it (by rw [nth_rng, if_neg lt]) _ _ fun s1 S1 => wpAny_execs_nil ?_
    have S2 := S1.forget (loc := []) (fun x a q => nomatch q)
    refine hR F hcs hN C [] g0 [] m' _ s1 S2 cE (fun _ => false) kRes no restOk _ _ (fun c6 g6 r6 m6 st6 s6 S6 ce6 x6 q6 => nomatch q6) (fun v a c3 g3 r3 m3 st3 s3 H3 R3 x3 V3 q3 => ?_) (fun a x g3 r3 m3 st3 s3 _ _ _ q3 => nomatch q3)
    have := kRes_true V3 q3
    subst this
    exact hQ _ _ _ _ _ H3
end
end Mine
end
section
open PySem PySem.W PyProof.Rows PySem.Calls
namespace Mine
noncomputable def cAd (d : Addr) (c : Nat) : Addr := cond (Nat.beq c 9999) d (cAf c)
noncomputable abbrev PKg (K : Frag) (d : Addr) (pg p : Program) (w : World) (loose : List Str) (mean : ExcName → Option Value) (mg mb : Str → Option Value) : Pk := { prog := pg, w := w, K := K, cA := cAd d, p := p, loose := loose, mean := mean, mg := mg, mb := mb }
noncomputable def excSetB (K : Frag) (C CE : Addr) (name : Str) : Bool := (clsIn K C).map (·.mro) == some [.ref C, .ref CE, .type "Exception", .type "BaseException", .type "object"] && hasDictIn K C && findIn K (.ref C) name == some none && findIn K (.ref C) "__setattr__" == some (some (.builtin "object.__setattr__"))
theorem excSet_of {K : Frag} {C CE : Addr} {name : Str} (h : excSetB K C CE name = true) : ExcSet K C CE name := by
  unfold excSetB at h
  rw [Bool.and_eq_true, Bool.and_eq_true, Bool.and_eq_true] at h
  exact ⟨beq_iff_eq.mp h.1.1.1, h.1.1.2, beq_iff_eq.mp h.1.2, beq_iff_eq.mp h.2⟩
noncomputable def excGetB (K : Frag) (C : Addr) (name : Str) : Bool := findIn K (.ref C) "__getattribute__" == some (some (.builtin gaX)) && findIn K (.ref C) "__getattr__" == some none && findIn K (.ref C) name == some none && hasDictIn K C && subIn K (.ref C) (.type "BaseException") == some true
theorem excGet_of {K : Frag} {C : Addr} {name : Str} (h : excGetB K C name = true) : ExcGet K C name := by
  unfold excGetB at h
  rw [Bool.and_eq_true, Bool.and_eq_true, Bool.and_eq_true, Bool.and_eq_true] at h
  exact ⟨beq_iff_eq.mp h.1.1.1.1, beq_iff_eq.mp h.1.1.1.2, beq_iff_eq.mp h.1.1.2, h.1.2, beq_iff_eq.mp h.2⟩
end Mine
end
section
open PySem PySem.W PyProof.Rows PySem.Calls
namespace Mine
noncomputable def bodyAt (K : Frag) (a : Addr) : List Stmt := match K.lookup a with
  | some ⟨_, _, .func f, _⟩ => (match f.body with | .stmts b => b | .expr _ => [])
  | _ => []
theorem look_memN {x : Str} {c : NameKind} : ∀ {l : List (Str × NameKind)}, l.lookup x = some c → (x, c) ∈ l
  | [], h => nomatch h
  | (y, d) :: l, h => by
    rw [List.lookup_cons] at h
    cases e : x == y with
    | true => rw [e] at h; cases h; rw [beq_iff_eq.mp e]; exact .head _
    | false => rw [e] at h; exact .tail _ (look_memN h)
noncomputable def scopeAt (K : Frag) (a : Addr) : Scope := match K.lookup a with
  | some ⟨_, _, .func f, _⟩ => f.scope
  | _ => { kind := .function, names := [], isGenerator := false, isCoroutine := false }
noncomputable def LawOk (P : Pk) (n : Nat) (cs : Scope) (body : List Stmt) (items : Array Value) : Prop := ∀ (F : Fd), Cx P F → F.cs = cs → n ≤ F.n → F.cl = [] → (∀ h, F.h₀.StaysIn h → h.IsList (P.cA 9999) items) → ∀ m s, SR P F [] g0 [] m stS s →
  ∀ (Q : Flow → Shared → Prop) (E : Value → Shared → Prop), (∀ c g r m' s', HR F.h₀ F.L F.rst F.oth c g r m' s' → Q (.ret (.bool true)) s') → wpAny P.M F.A (execs body F.env) Q E s
theorem law_fin {K : Frag} {d : Addr} {pg p : Program} {w : World} {loose : List Str} {mean : ExcName → Option Value} {mg mb : Str → Option Value} {h₀ : Heap} {s : Shared} {cn : Str} {scope : Scope} {body : List Stmt} {fa : Addr} {cd : Value} {items : Array Value}
    {m : Str → Option Value} {Q : Flow → Shared → Prop} {E : Value → Shared → Prop} (W : LawOk (PKg K d pg p w loose mean mg mb) 7 scope body items) (hk : scope.kind = .function) (hs : scope.names.lookup ("script" : Str) = some .local) (hcell : ∀ x ∈ scope.names, x.2 ≠ .cell)
    (T : Top p loose mean mg mb h₀) (KX : K.In h₀) (B : Below callerA h₀ [] h₀) (Fh : Fr h₀ h₀.objs.size s.heap m) (hm : m "script" = some (.ref d)) (hl : h₀.IsList d items)
    (hQ : ∀ m' s', Fr h₀ h₀.objs.size s'.heap m' → s'.os = s.os → s'.gens = s.gens → Q (.ret (.bool true)) s') :
    wpAny (model pg w) (callerA.deeper (envX cn scope h₀.objs.size fa cd [])) (execs body (envX cn scope h₀.objs.size fa cd [])) Q E s := by
  let F : Fd := { A := callerA.deeper (envX cn scope h₀.objs.size fa cd []), A₀ := callerA, base := h₀, h₀ := h₀, outer := [], cn := cn, cs := scope, L := h₀.objs.size, a := fa, ccd := cd, cl := [], n := 7, rst := s, oth := [] }
  have C : Cx (PKg K d pg p w loose mean mg mb) F := ⟨B, rfl, rfl, KX, T, rfl, hk, Nat.le_of_ble_eq_true rfl, Nat.le_of_ble_eq_true rfl, fun x hx => absurd rfl (hcell (x, .cell) (look_memN hx)), fun _ => ⟨rfl, rfl⟩⟩
  refine W F C rfl (Nat.le_refl _) rfl (fun h st => stays_list st hl) m s ⟨⟨Fh, News.nil, List.nodup_nil, Rst.self s⟩, ⟨rfl, rfl, fun k o q => ?_, fun i S' q => (nomatch q), rfl⟩, fun x a q => ?_⟩ Q E (fun c g r m' s' H => hQ m' s' H.fr H.rst.os H.rst.gens)
  · rw [HT.get_nil] at q; cases q
  · obtain ⟨rfl, rfl⟩ := look_one q
    exact ⟨by decide, .ref d, .loc rfl hk (by rw [nm152]; exact hs) (by rw [nm152]; exact hm), .bot⟩
end Mine
end
section
open PySem PySem.W PyProof.Rows PySem.Calls
namespace Mine
theorem cis_alt (a b : AV) (st : St) (x : Bool) (h : cis a b st = some x) : notAlt a ∧ notAlt b := by
  have h : is1 a b = some x := h
  cases b with
  | non =>
    cases a with
    | alt i l => cases h
    | _ => exact ⟨trivial, trivial⟩
  | _ => cases h
theorem cmpQ_is {P : Pk} : CmpQ P .Is (qOf cis) := cmpQ_of cmp_is cis_alt
structure Vs where
  d : Addr
  pg : Program
  p : Program
  w : World
  loose : List Str
  mean : ExcName → Option Value
  mg : Str → Option Value
  mb : Str → Option Value
noncomputable abbrev PV (H : Params → Frag) (v : Vs) : Pk := PKg (H v.w.params) v.d v.pg v.p v.w v.loose v.mean v.mg v.mb
theorem lawOk_of {P : Pk} {n : Nat} {items : Array Value} {a : Addr} {name qual : Str} {params : Arguments} {body : List Stmt} {scope : Scope} {dV kV doc pm cdv ct oc : Value} {an od : Option Addr} {osl : Array (Option Value)}
    (ho : P.K.lookup a = some ⟨oc, od, .func (fnOf name qual params body scope dV kV doc pm an cdv ct), osl⟩) (h : LawOk P n scope body items) : LawOk P n (scopeAt P.K a) (bodyAt P.K a) items := by
  unfold scopeAt bodyAt
  rw [ho]
  exact h
end Mine
end
section
open PySem PySem.W PyProof.Rows PySem.Calls
namespace Mine
theorem ints_hit {vs : List Value} {ns : List Int} (h : IntsAre vs ns) (i : Nat) (hi : i < vs.toArray.size) : ∃ n t, vs.toArray[i]? = some (.int n t) := by
  have hi' : i < vs.length := by simpa using hi
  obtain ⟨n, t, e⟩ := h.allInts vs[i] (by simp)
  exact ⟨n, t, by rw [List.getElem?_toArray, List.getElem?_eq_getElem hi', e]⟩
theorem law_end {H : Params → Frag} {v : Vs} {vs : List Value} {ns : List Int} {h₀ : Heap} {s : Shared} {cn : Str} {scope : Scope} {body : List Stmt} {fa : Addr} {cd : Value} {m : Str → Option Value} {Q : Flow → Shared → Prop} {E : Value → Shared → Prop}
    (W : ∀ {items : Array Value}, (∀ i : Nat, i < items.size → ∃ n t, items[i]? = some (.int n t)) → (items.size : Int) < 2 ^ 63 → LawOk (PV H v) 7 (scopeAt (PV H v).K 676) (bodyAt (PV H v).K 676) items) (hsc : scopeAt (PV H v).K 676 = scope) (hbo : bodyAt (PV H v).K 676 = body)
    (hk : scope.kind = .function) (hs : scope.names.lookup ("script" : Str) = some .local) (hcell : ∀ x ∈ scope.names, x.2 ≠ .cell) (T : Top v.p v.loose v.mean v.mg v.mb h₀) (KX : (H v.w.params).In h₀) (B : Below callerA h₀ [] h₀) (Fh : Fr h₀ h₀.objs.size s.heap m) (hm : m "script" = some (.ref v.d))
    (hl : h₀.IsList v.d vs.toArray) (hI : IntsAre vs ns) (hz : (ns.length : Int) ≤ 63) (hQ : ∀ m' s', Fr h₀ h₀.objs.size s'.heap m' → s'.os = s.os → s'.gens = s.gens → Q (.ret (.bool true)) s') :
    wpAny (model v.pg v.w) (callerA.deeper (envX cn scope h₀.objs.size fa cd [])) (execs body (envX cn scope h₀.objs.size fa cd [])) Q E s := by
  subst hsc hbo
  exact law_fin (W (ints_hit hI) (by rw [hI.sizeZ]; omega)) hk hs hcell T KX B Fh hm hl hQ
end Mine
end
open PySem PySem.W PyProof.Rows PySem.Calls
namespace Mine
namespace main
noncomputable def tw13962693860625380366 : Nat := 0
noncomputable def tw2852251193174398662 : Nat := 0
noncomputable def tw15589955886551607785 : Nat := 0
noncomputable def tw11273777480241942364 : Nat := 0
noncomputable def tw11692516046256081784 : Nat := 0
noncomputable def tw8260724100714396741 : Nat := 0
noncomputable def tw12741544251441588921 : Nat := 0
noncomputable def tw5084117380071580128 : Nat := 0
noncomputable def tw11156056980113079860 : Nat := 0
noncomputable def tw5638201095994319732 : Nat := 0
noncomputable def tw14864641218109852296 : Nat := 0
noncomputable def tw14646587721710459877 : Nat := 0
noncomputable def tw8090509862211737132 : Nat := 0
noncomputable def tw13626721169425172152 : Nat := 0
noncomputable def tw7083192437325867461 : Nat := 0
noncomputable def tw11857135199678951331 : Nat := 0
noncomputable def tw15803610866087392283 : Nat := 0
noncomputable def tw3305931106042330821 : Nat := 0
noncomputable def tw15491723280356408159 : Nat := 0
noncomputable def tw15023316991559800185 : Nat := 0
noncomputable def tw12298629886278197574 : Nat := 0
noncomputable def tw10896356407431480244 : Nat := 0
noncomputable def tw6801380410627298636 : Nat := 0
noncomputable def tw10114013102757674387 : Nat := 0
noncomputable def tw18431692314602308842 : Nat := 0
noncomputable def tw10876375607700338302 : Nat := 0
noncomputable def tw2704602940660078815 : Nat := 0
noncomputable def tw12747388180105724736 : Nat := 0
noncomputable def tw11735423636902730196 : Nat := 0
noncomputable def tw796168687070700412 : Nat := 0
noncomputable def tw12830023432997658123 : Nat := 0
noncomputable def tw15510692781650021527 : Nat := 0
noncomputable def tw17292155258170135553 : Nat := 0
noncomputable def tw4544244032028310869 : Nat := 0
noncomputable def tw1390771862084280389 : Nat := 0
noncomputable def tw5585478044538960755 : Nat := 0
noncomputable def tw1372806426800153423 : Nat := 0
noncomputable def tw15365013842991253249 : Nat := 0
noncomputable def tw4573282807186111410 : Nat := 0
noncomputable def tw9498315638749924794 : Nat := 0
noncomputable def tw471287901995484742 : Nat := 0
noncomputable def tw14845706477996680806 : Nat := 0
noncomputable def tw13974046611088194958 : Nat := 0
noncomputable def tw12872379398031375081 : Nat := 0
noncomputable def tw15616401959046598769 : Nat := 0
noncomputable def tw8930851030842425676 : Nat := 0
noncomputable def tw16026485685270457870 : Nat := 0
noncomputable def tw2744014450722944760 : Nat := 0
noncomputable def tw5665406974723832613 : Nat := 0
noncomputable def tw1306636233014830658 : Nat := 0
noncomputable def tw18132210956385157133 : Nat := 0
noncomputable def tw8440099810896429113 : Nat := 0
noncomputable def tw9274054859765456524 : Nat := 0
noncomputable def tw14216407083858561409 : Nat := 0
noncomputable def tw4650958065196391918 : Nat := 0
noncomputable def tw31828345220925962 : Nat := 0
noncomputable def tw10992214633131536827 : Nat := 0
noncomputable def tw18287795668848337631 : Nat := 0
noncomputable def tw14457758005677747962 : Nat := 0
noncomputable def tw365850788961202214 : Nat := 0
noncomputable def tw16035907590883218939 : Nat := 0
noncomputable def tw14539993770535171780 : Nat := 0
noncomputable def tw1099256609624015869 : Nat := 0
noncomputable def tw3549514262204291990 : Nat := 0
noncomputable def tw7113585516715319716 : Nat := 0
noncomputable def tw8546124895413445307 : Nat := 0
noncomputable def tw5842977544298395883 : Nat := 0
noncomputable def tw17708487481403421675 : Nat := 0
noncomputable def tw6361450105264607166 : Nat := 0
noncomputable def tw1289389943133740499 : Nat := 0
noncomputable def tw3864431920445960829 : Nat := 0
noncomputable def tw17146568849442343683 : Nat := 0
noncomputable def tw15624239662980076321 : Nat := 0
noncomputable def tw11239335112260394413 : Nat := 0
noncomputable def tw3911810758690780188 : Nat := 0
noncomputable def tw917386388269078853 : Nat := 0
noncomputable def tw12093647306153771053 : Nat := 0
noncomputable def tw14722489848711283861 : Nat := 0
noncomputable def tw9394770849952503311 : Nat := 0
noncomputable def tw13180746182150919023 : Nat := 0
noncomputable def tw5532463470591059822 : Nat := 0
noncomputable def tw4637267157515435788 : Nat := 0
noncomputable def tw6697339332421208802 : Nat := 0
noncomputable def tw2173562974560187446 : Nat := 0
noncomputable def tw10450603732522932521 : Nat := 0
noncomputable def tw4423423576564373014 : Nat := 0
noncomputable def tw11399646045708457374 : Nat := 0
noncomputable def tw9994787619460420439 : Nat := 0
noncomputable def tw11041547156204584376 : Nat := 0
noncomputable def tw9483120023164983764 : Nat := 0
noncomputable def tw1826329307503635854 : Nat := 0
noncomputable def tw1678875084529416142 : Nat := 0
noncomputable def tw1545906260438175962 : Nat := 0
noncomputable def tw244467455267321384 : Nat := 0
noncomputable def tw15737690656516749961 : Nat := 0
noncomputable def tw12623159325031504133 : Nat := 0
noncomputable def tw11020365191643786025 : Nat := 0
noncomputable def tw10140136200207757160 : Nat := 0
noncomputable def tw14106445559736802775 : Nat := 0
noncomputable def tw1677766988990989824 : Nat := 0
noncomputable def tw8844999433837080629 : Nat := 0
noncomputable def tw11135027115929721415 : Nat := 0
noncomputable def tw2629084897520917108 : Nat := 0
noncomputable def tw15970538086172389420 : Nat := 0
noncomputable def tw4413345314126155841 : Nat := 0
noncomputable def tw3748114642381145586 : Nat := 0
noncomputable def tw5127751686995613262 : Nat := 0
noncomputable def tw6557543464795787104 : Nat := 0
noncomputable def tw13803360072150633466 : Nat := 0
noncomputable def tw765107192605250810 : Nat := 0
noncomputable def tw11461230924637031220 : Nat := 0
noncomputable def tw16721930046160240684 : Nat := 0
noncomputable def tw12273490649430754879 : Nat := 0
noncomputable def tw10877679251791092727 : Nat := 0
noncomputable def tw7273056430967151046 : Nat := 0
noncomputable def tw6690441779611380620 : Nat := 0
noncomputable def tw6449824600675878752 : Nat := 0
noncomputable def tw1519992759497675636 : Nat := 0
noncomputable def tw5995161000843957690 : Nat := 0
noncomputable def tw5061512775090418087 : Nat := 0
noncomputable def tw1253437644075932092 : Nat := 0
noncomputable def tw7298748307773712898 : Nat := 0
noncomputable def tw10094358506670053839 : Nat := 0
noncomputable def tw17872656645039022641 : Nat := 0
noncomputable def tw14492832472218066102 : Nat := 0
noncomputable def tw9155575984036265788 : Nat := 0
noncomputable def tw8118072479153026202 : Nat := 0
noncomputable def tw6044114016751833949 : Nat := 0
noncomputable def tw16356685582667847594 : Nat := 0
noncomputable def tw14666387041718499266 : Nat := 0
noncomputable def tw13406003279186336099 : Nat := 0
noncomputable def tw918671981122897330 : Nat := 0
noncomputable def tw2402762420636078793 : Nat := 0
noncomputable def tw6334894449686545209 : Nat := 0
noncomputable def tw1933878519052835530 : Nat := 0
noncomputable def tw1178595665728414349 : Nat := 0
noncomputable def tw2538046985915079169 : Nat := 0
noncomputable def tw4324958949535026087 : Nat := 0
noncomputable def tw13995172100960836882 : Nat := 0
noncomputable def tw14368271195830560734 : Nat := 0
noncomputable def tw2697805940216412377 : Nat := 0
noncomputable def tw11101190512080308003 : Nat := 0
noncomputable def tw13110970153573199417 : Nat := 0
noncomputable def tw10298723112805639129 : Nat := 0
noncomputable def tw13313126695403321540 : Nat := 0
noncomputable def tw11716418206903941319 : Nat := 0
noncomputable def tw13838900630717943254 : Nat := 0
noncomputable def tw10924716458440934090 : Nat := 0
noncomputable def tw1469836325065767749 : Nat := 0
noncomputable def tw15350898050860989542 : Nat := 0
noncomputable def tw5790326737455844299 : Nat := 0
noncomputable def tw5921134243170700561 : Nat := 0
noncomputable def tw13157206579259725088 : Nat := 0
noncomputable def tw10652611922669240339 : Nat := 0
noncomputable def tw2406621943657119228 : Nat := 0
noncomputable def tw13132915859168520264 : Nat := 0
noncomputable def tw161903638078081290 : Nat := 0
noncomputable def tw16187894506366716058 : Nat := 0
noncomputable def tw16544489699163171333 : Nat := 0
noncomputable def tw6910295442248876197 : Nat := 0
noncomputable def tw1615956725737779560 : Nat := 0
noncomputable def tw17236958762192778904 : Nat := 0
noncomputable def tw962032349192862916 : Nat := 0
noncomputable def tw4775608329324902142 : Nat := 0
noncomputable def tw12361340156312767134 : Nat := 0
noncomputable def tw17297283025540448806 : Nat := 0
noncomputable def tw9925469786538053656 : Nat := 0
noncomputable def tw14771111431291430275 : Nat := 0
noncomputable def tw8748973510418095054 : Nat := 0
noncomputable def tw6660377722381337597 : Nat := 0
noncomputable def tw4812270449578504274 : Nat := 0
noncomputable def tw10047389527955405517 : Nat := 0
noncomputable def tw13547569757486424058 : Nat := 0
noncomputable def tw13077236301305049449 : Nat := 0
noncomputable def tw1496695287857109588 : Nat := 0
noncomputable def tw11531331273489700057 : Nat := 0
noncomputable def tw9848185148710128376 : Nat := 0
noncomputable def tw12646911602827044314 : Nat := 0
noncomputable def tw7332552209862256014 : Nat := 0
noncomputable def tw18403998269306519403 : Nat := 0
noncomputable def tw15608450976537380609 : Nat := 0
noncomputable def tw10642606787283503386 : Nat := 0
noncomputable def tw7904437144335635152 : Nat := 0
noncomputable def tw16656740534632174751 : Nat := 0
noncomputable def tw11967333016625521393 : Nat := 0
noncomputable def tw11774690029378154688 : Nat := 0
noncomputable def tw10813080517026676716 : Nat := 0
noncomputable def tw6164561884633627433 : Nat := 0
noncomputable def tw12431561837914552411 : Nat := 0
noncomputable def tw12594366453804578888 : Nat := 0
noncomputable def tw221909299271738847 : Nat := 0
noncomputable def tw8436210846270712021 : Nat := 0
noncomputable def tw7221758910455160077 : Nat := 0
noncomputable def tw15277975159832343749 : Nat := 0
noncomputable def tw9361300454564663673 : Nat := 0
noncomputable def tw12608185968620612914 : Nat := 0
noncomputable def tw7237411587787531456 : Nat := 0
noncomputable def tw5450094653865882931 : Nat := 0
noncomputable def tw12564604832814323664 : Nat := 0
noncomputable def tw17438294365789470252 : Nat := 0
noncomputable def tw452746233719593009 : Nat := 0
noncomputable def tw4585930131862741453 : Nat := 0
noncomputable def tw3298483428156984901 : Nat := 0
noncomputable def tw4253704501324577274 : Nat := 0
noncomputable def tw6385024630547198690 : Nat := 0
noncomputable def tw16965079339398995527 : Nat := 0
noncomputable def tw9303439499767911484 : Nat := 0
noncomputable def tw11943181271044574575 : Nat := 0
noncomputable def tw13465503431842376007 : Nat := 0
noncomputable def tw10609540516017602915 : Nat := 0
noncomputable def tw6886502059237256666 : Nat := 0
noncomputable def tw4924694640843408985 : Nat := 0
noncomputable def tw1027651156746619712 : Nat := 0
noncomputable def tw1454224541498743561 : Nat := 0
noncomputable def tw13693970394777133609 : Nat := 0
noncomputable def tw10564528347858357063 : Nat := 0
noncomputable def tw1632041292262086317 : Nat := 0
noncomputable def tw9189880136782149556 : Nat := 0
noncomputable def tw2729793432009153956 : Nat := 0
noncomputable def tw14235155234550121937 : Nat := 0
noncomputable def tw15062679425460387418 : Nat := 0
noncomputable def tw9369988214560726041 : Nat := 0
noncomputable def tw16451033083921036709 : Nat := 0
noncomputable def tw9121559901702372667 : Nat := 0
noncomputable def tw18218335207050127959 : Nat := 0
noncomputable def tw6389877041954997217 : Nat := 0
noncomputable def tw8207831470162742035 : Nat := 0
noncomputable def tw15225127925928830808 : Nat := 0
noncomputable def tw17336282652733537790 : Nat := 0
noncomputable def tw1980160206288974728 : Nat := 0
noncomputable def tw453184122279072053 : Nat := 0
noncomputable def tw6855474311058116810 : Nat := 0
noncomputable def tw10199874654664476236 : Nat := 0
noncomputable def tw8466321980469482115 : Nat := 0
noncomputable def tw13260870731297125680 : Nat := 0
noncomputable def tw6112859857366181021 : Nat := 0
noncomputable def tw5372645768047454471 : Nat := 0
noncomputable def tw5401703158475992631 : Nat := 0
noncomputable def tw1777545030009416734 : Nat := 0
noncomputable def tw49674306023711395 : Nat := 0
noncomputable def tw7074144079889050967 : Nat := 0
noncomputable def tw17453503289922162039 : Nat := 0
noncomputable def tw12800608258095302798 : Nat := 0
noncomputable def tw9175052073728820173 : Nat := 0
noncomputable def tw8947760058931562597 : Nat := 0
noncomputable def tw14793117695081215449 : Nat := 0
noncomputable def tw12463224122652932544 : Nat := 0
noncomputable def tw18421580907717582127 : Nat := 0
noncomputable def tw18425317256667529438 : Nat := 0
noncomputable def tw14027531716089632829 : Nat := 0
noncomputable def tw9957550378297406723 : Nat := 0
noncomputable def tw10123989817122485451 : Nat := 0
noncomputable def tw15847309855283100339 : Nat := 0
noncomputable def tw16320215318167395912 : Nat := 0
noncomputable def tw7698036289167662538 : Nat := 0
noncomputable def tw1142173933681417890 : Nat := 0
noncomputable def tw341453280667917650 : Nat := 0
noncomputable def tw12139096438432415106 : Nat := 0
noncomputable def tw14672674291997333471 : Nat := 0
noncomputable def tw17057053908230417247 : Nat := 0
noncomputable def tw4766233809647381661 : Nat := 0
noncomputable def tw7943094425149488825 : Nat := 0
noncomputable def tw18190005008629794160 : Nat := 0
noncomputable def tw799486724532869496 : Nat := 0
noncomputable def tw10169072693733980587 : Nat := 0
noncomputable def tw6981815665589151136 : Nat := 0
noncomputable def tw10231336680788121439 : Nat := 0
noncomputable def tw3613476055612923068 : Nat := 0
noncomputable def tw14060465935940456498 : Nat := 0
noncomputable def tw10669944970481658594 : Nat := 0
noncomputable def tw9897820754763898449 : Nat := 0
noncomputable def tw16480584520131690045 : Nat := 0
noncomputable def tw13597483153833180358 : Nat := 0
noncomputable def tw13224007501803129859 : Nat := 0
noncomputable def tw9515011664573035354 : Nat := 0
noncomputable def tw11349898740250378076 : Nat := 0
noncomputable def tw6663778134991626487 : Nat := 0
noncomputable def tw15438212644395081984 : Nat := 0
noncomputable def tw11962923498438245051 : Nat := 0
noncomputable def tw18203244108556882099 : Nat := 0
noncomputable def tw17456035664235451855 : Nat := 0
noncomputable def tw13667920496262714385 : Nat := 0
noncomputable def tw12450111651097656602 : Nat := 0
noncomputable def tw4491334807805099456 : Nat := 0
noncomputable def tw11218778669853930896 : Nat := 0
noncomputable def tw9392487213469676918 : Nat := 0
noncomputable def tw7699798408344515789 : Nat := 0
noncomputable def tw7929128423345735474 : Nat := 0
noncomputable def tw12751799325998411230 : Nat := 0
noncomputable def tw16826212616301561204 : Nat := 0
noncomputable def tw12992176717851604617 : Nat := 0
noncomputable def tw9243289123360041832 : Nat := 0
noncomputable def tw17906638245316424091 : Nat := 0
noncomputable def tw10876229203375891673 : Nat := 0
noncomputable def tw11261727412033496967 : Nat := 0
noncomputable def tw5436791530062809996 : Nat := 0
noncomputable def tw18165044119631177899 : Nat := 0
noncomputable def tw5473700226181020891 : Nat := 0
noncomputable def tw18031918436515192882 : Nat := 0
noncomputable def tw16922381011570985944 : Nat := 0
noncomputable def tw11388154006635350966 : Nat := 0
noncomputable def tw9069182735580402390 : Nat := 0
noncomputable def tw12909650291622432550 : Nat := 0
noncomputable def tw17268439761433841065 : Nat := 0
noncomputable def tw8729708805864041840 : Nat := 0
noncomputable def tw5871769198996169552 : Nat := 0
noncomputable def tw993764313979041722 : Nat := 0
noncomputable def tw9265829497004654079 : Nat := 0
noncomputable def tw12941917028564957548 : Nat := 0
noncomputable def tw11476092923266045095 : Nat := 0
noncomputable def tw15387884906608193903 : Nat := 0
noncomputable def tw14698914168384259385 : Nat := 0
noncomputable def tw1098248734344127483 : Nat := 0
noncomputable def tw7268301785047649679 : Nat := 0
noncomputable def tw5234446048077146213 : Nat := 0
noncomputable def tw2110754180369666209 : Nat := 0
noncomputable def tw545269030811804461 : Nat := 0
noncomputable def tw8265370782698574782 : Nat := 0
noncomputable def tw2334679739580974275 : Nat := 0
noncomputable def tw2007339730380871907 : Nat := 0
noncomputable def tw17561526911342447988 : Nat := 0
noncomputable def tw14562738103837258888 : Nat := 0
noncomputable def tw14406990849044604362 : Nat := 0
noncomputable def tw16629339528299215175 : Nat := 0
noncomputable def tw11092141859048813250 : Nat := 0
noncomputable def tw3557749057250611081 : Nat := 0
noncomputable def tw10750994468655217958 : Nat := 0
noncomputable def tw979501456738626862 : Nat := 0
noncomputable def tw17715262827843222689 : Nat := 0
noncomputable def tw6584820252761975732 : Nat := 0
noncomputable def tw5400957986263281647 : Nat := 0
noncomputable def tw1645717771770832407 : Nat := 0
noncomputable def tw834873547066669988 : Nat := 0
noncomputable def tw14439473939278146460 : Nat := 0
noncomputable def tw2750411421705246143 : Nat := 0
noncomputable def tw6222487380544312443 : Nat := 0
noncomputable def tw1628013610222277130 : Nat := 0
noncomputable def tw3796207824708393856 : Nat := 0
noncomputable def tw17864028415675338326 : Nat := 0
noncomputable def tw11221353774195762014 : Nat := 0
noncomputable def tw12922898485456448571 : Nat := 0
noncomputable def tw13593839371638185640 : Nat := 0
noncomputable def tw9670510015898674028 : Nat := 0
noncomputable def tw3137596982192898869 : Nat := 0
noncomputable def tw13590572293223372214 : Nat := 0
noncomputable def tw1130211791997205004 : Nat := 0
noncomputable def tw17450470499104002142 : Nat := 0
noncomputable def tw6912675738884088206 : Nat := 0
noncomputable def tw10204856939554784155 : Nat := 0
noncomputable def tw18332899500509843999 : Nat := 0
noncomputable def tw11001617756164336837 : Nat := 0
noncomputable def tw8969516679715200132 : Nat := 0
noncomputable def tw1409966394225722968 : Nat := 0
noncomputable def tw13116522157475607773 : Nat := 0
noncomputable def tw5243159528196176124 : Nat := 0
noncomputable def tw4638281056170512193 : Nat := 0
noncomputable def tw15356762974548107741 : Nat := 0
noncomputable def tw13503263706703578961 : Nat := 0
noncomputable def tw16136984950599521427 : Nat := 0
noncomputable def tw3521995779814947976 : Nat := 0
noncomputable def tw12483276189755474720 : Nat := 0
noncomputable def tw1587290215689348708 : Nat := 0
noncomputable def tw18344032359734412310 : Nat := 0
noncomputable def tw3160845607165458772 : Nat := 0
noncomputable def tw5309058905264134205 : Nat := 0
noncomputable def tw18120430973489738927 : Nat := 0
noncomputable def tw13876859957761632879 : Nat := 0
noncomputable def tw6877560268529008848 : Nat := 0
noncomputable def tw10455743928339290457 : Nat := 0
noncomputable def tw3583811862363856187 : Nat := 0
noncomputable def tw14064073609400967072 : Nat := 0
noncomputable def tw12518504611687188807 : Nat := 0
noncomputable def tw12431731261707249289 : Nat := 0
noncomputable def tw8478376212529829071 : Nat := 0
noncomputable def tw16135426469972691074 : Nat := 0
noncomputable def tw11544348965984651327 : Nat := 0
noncomputable def tw7590696779544312186 : Nat := 0
noncomputable def tw13348322127785295214 : Nat := 0
noncomputable def tw15059693217772790739 : Nat := 0
noncomputable def tw13533417706888488559 : Nat := 0
noncomputable def tw5677329702179833609 : Nat := 0
noncomputable def tw16806246253224384389 : Nat := 0
noncomputable def tw10363585996791799541 : Nat := 0
noncomputable def tw11501822485730972192 : Nat := 0
noncomputable def tw13972245371655741198 : Nat := 0
noncomputable def tw11311155076762098589 : Nat := 0
noncomputable def tw9681375758050803366 : Nat := 0
noncomputable def tw9406782406253462049 : Nat := 0
noncomputable def tw3466206800631347469 : Nat := 0
noncomputable def tw18238007617527299592 : Nat := 0
noncomputable def tw18302796317244248524 : Nat := 0
noncomputable def tw12543713266681445118 : Nat := 0
noncomputable def tw3706830351922483016 : Nat := 0
noncomputable def tw12872728687042982635 : Nat := 0
noncomputable def tw12885385263037960081 : Nat := 0
noncomputable def tw9417822746687237092 : Nat := 0
noncomputable def tw16102231251864390963 : Nat := 0
noncomputable def tw4139100593308808776 : Nat := 0
noncomputable def tw4500915450034043215 : Nat := 0
noncomputable def tw13110577991587790113 : Nat := 0
noncomputable def tw12690843524423533682 : Nat := 0
noncomputable def tw10953687544409504101 : Nat := 0
noncomputable def tw1156462466702112376 : Nat := 0
noncomputable def tw3562595001068472590 : Nat := 0
noncomputable def tw15928290008803537013 : Nat := 0
noncomputable def tw2496676261509829067 : Nat := 0
noncomputable def tw6635558491612396129 : Nat := 0
noncomputable def tw5396188567872606041 : Nat := 0
noncomputable def tw3027586509356016917 : Nat := 0
noncomputable def tw16022572192331126682 : Nat := 0
noncomputable def tw13402765919934010277 : Nat := 0
noncomputable def tw4310270188432123100 : Nat := 0
noncomputable def tw10234815189450012239 : Nat := 0
noncomputable def tw2724176850512262202 : Nat := 0
noncomputable def tw17477492558424962760 : Nat := 0
noncomputable def tw12170992721606120685 : Nat := 0
noncomputable def tw17128291446047057950 : Nat := 0
noncomputable def tw12653679108036650311 : Nat := 0
noncomputable def tw17679725944135375923 : Nat := 0
noncomputable def tw15270170921892066516 : Nat := 0
noncomputable def tw6519269512792494810 : Nat := 0
noncomputable def tw8475525182357872103 : Nat := 0
noncomputable def tw4948327476702027199 : Nat := 0
noncomputable def tw17510229520200029679 : Nat := 0
noncomputable def tw14907226015203709474 : Nat := 0
noncomputable def tw330327031418712150 : Nat := 0
noncomputable def tw1886080085820668685 : Nat := 0
noncomputable def tw13989496423458381343 : Nat := 0
noncomputable def tw104360540948158410 : Nat := 0
noncomputable def tw17403364634526059139 : Nat := 0
noncomputable def tw7293298908176781663 : Nat := 0
noncomputable def tw11554813239044494598 : Nat := 0
noncomputable def tw15734660467963936456 : Nat := 0
noncomputable def tw5102693214775723256 : Nat := 0
noncomputable def tw3960113756560652017 : Nat := 0
noncomputable def tw4749052000479324790 : Nat := 0
noncomputable def tw12590340796369385619 : Nat := 0
noncomputable def tw8046773169563483271 : Nat := 0
noncomputable def tw11982392923317675503 : Nat := 0
noncomputable def tw3370842686811476594 : Nat := 0
noncomputable def tw6565609875121592624 : Nat := 0
noncomputable def tw13154001654789283132 : Nat := 0
noncomputable def tw7875838824674609581 : Nat := 0
noncomputable def tw854977524454699277 : Nat := 0
noncomputable def tw8652556701797213591 : Nat := 0
noncomputable def tw17223442867436993403 : Nat := 0
noncomputable def tw15303317825217679618 : Nat := 0
noncomputable def tw12839114828313443825 : Nat := 0
noncomputable def tw10149618387772673413 : Nat := 0
noncomputable def tw16519101796099990279 : Nat := 0
noncomputable def tw9656510801202774680 : Nat := 0
noncomputable def tw18325589031809861271 : Nat := 0
noncomputable def tw1242282695825638017 : Nat := 0
noncomputable def tw7751025194823839400 : Nat := 0
noncomputable def tw11409991511011244131 : Nat := 0
noncomputable def tw2544328076492683441 : Nat := 0
noncomputable def tw9756827057097773860 : Nat := 0
noncomputable def tw2019394398466159022 : Nat := 0
noncomputable def tw52199770228462824 : Nat := 0
noncomputable def tw73751810991705359 : Nat := 0
noncomputable def tw17871620999419790863 : Nat := 0
noncomputable def tw716429049611869786 : Nat := 0
noncomputable def tw1054321117371714560 : Nat := 0
noncomputable def tw5287059835090251167 : Nat := 0
noncomputable def tw9976160756891316704 : Nat := 0
noncomputable def tw48596604365144762 : Nat := 0
noncomputable def tw1439166485080882 : Nat := 0
noncomputable def tw4330594992337426955 : Nat := 0
noncomputable def tw961187720498965250 : Nat := 0
noncomputable def tw4044139247061151142 : Nat := 0
noncomputable def tw6862492499505807319 : Nat := 0
noncomputable def tw8879939841973710529 : Nat := 0
noncomputable def tw14640416626631428029 : Nat := 0
noncomputable def tw7019240024125815769 : Nat := 0
noncomputable def tw223528310411579522 : Nat := 0
noncomputable def tw13219505800766818778 : Nat := 0
noncomputable def tw17353955331779342651 : Nat := 0
noncomputable def tw16218864148678617972 : Nat := 0
noncomputable def tw3779293765908593550 : Nat := 0
noncomputable def tw14814594519894181452 : Nat := 0
noncomputable def tw11987853993630220354 : Nat := 0
noncomputable def tw15595112118272840620 : Nat := 0
noncomputable def tw9360745474812902239 : Nat := 0
noncomputable def tw7411558596216406370 : Nat := 0
noncomputable def tw9964214247947446159 : Nat := 0
noncomputable def tw10707853282979444102 : Nat := 0
noncomputable def tw2895952525429962455 : Nat := 0
noncomputable def tw7093617532817203218 : Nat := 0
noncomputable def tw12670839924663504800 : Nat := 0
noncomputable def tw2759098988195820126 : Nat := 0
noncomputable def tw14759895335926876869 : Nat := 0
noncomputable def tw16676564476587882173 : Nat := 0
noncomputable def tw6418098437765475518 : Nat := 0
noncomputable def tw4039676971129161736 : Nat := 0
noncomputable def tw13187166440333854079 : Nat := 0
noncomputable def tw15514936471743626214 : Nat := 0
noncomputable def tw10982014176374687213 : Nat := 0
noncomputable def tw33456957511925785 : Nat := 0
noncomputable def tw6237627108579964202 : Nat := 0
noncomputable def tw4261964983698606537 : Nat := 0
noncomputable def tw2566753976717531306 : Nat := 0
noncomputable def tw1236483940969888574 : Nat := 0
noncomputable def tw5613160597433933154 : Nat := 0
noncomputable def tw14909365282108701170 : Nat := 0
noncomputable def tw4839478117068044826 : Nat := 0
noncomputable def tw9730157408454304684 : Nat := 0
noncomputable def tw17052023290607921161 : Nat := 0
noncomputable def tw7439787175107056256 : Nat := 0
noncomputable def tw4946776927847147119 : Nat := 0
noncomputable def tw9558744834307401277 : Nat := 0
noncomputable def tw11003572833241299968 : Nat := 0
noncomputable def tw3626430660855392483 : Nat := 0
noncomputable def tw12027323910402764344 : Nat := 0
noncomputable def tw4156125974679941130 : Nat := 0
noncomputable def tw16305672181175384284 : Nat := 0
noncomputable def tw6788530277367551627 : Nat := 0
noncomputable def tw12927740378394474205 : Nat := 0
noncomputable def tw18063282731904131703 : Nat := 0
noncomputable def tw12702744160499308131 : Nat := 0
noncomputable def tw17275675667316583603 : Nat := 0
noncomputable def tw16251939892948500945 : Nat := 0
noncomputable def tw16008252555379753968 : Nat := 0
noncomputable def tw15136431859952498927 : Nat := 0
noncomputable def tw1092785777240315536 : Nat := 0
noncomputable def tw13724616953566380437 : Nat := 0
noncomputable def tw10665089971535097683 : Nat := 0
noncomputable def tw9272984997812220495 : Nat := 0
noncomputable def tw12675357926760492328 : Nat := 0
noncomputable def tw4900431672193113347 : Nat := 0
noncomputable def tw9573086628692744296 : Nat := 0
noncomputable def tw6657087868060814 : Nat := 0
noncomputable def tw14859100970857779836 : Nat := 0
noncomputable def tw8467378866343419333 : Nat := 0
noncomputable def tw16952715711813285254 : Nat := 0
noncomputable def tw16563369274607658579 : Nat := 0
noncomputable def tw8952462522180670554 : Nat := 0
noncomputable def tw16049902774474827687 : Nat := 0
noncomputable def tw18284262389922463811 : Nat := 0
noncomputable def tw5363903885879670357 : Nat := 0
noncomputable def tw9903775340124721222 : Nat := 0
noncomputable def tw6455149578367423246 : Nat := 0
noncomputable def tw6674386428176565332 : Nat := 0
noncomputable def tw18418235949754561950 : Nat := 0
noncomputable def tw1725836610864060880 : Nat := 0
noncomputable def tw8484041278411425421 : Nat := 0
noncomputable def tw1453356044741674121 : Nat := 0
noncomputable def tw17298425922696826006 : Nat := 0
noncomputable def tw2647654807098235363 : Nat := 0
noncomputable def tw3343439749351644125 : Nat := 0
noncomputable def tw6696893160125735727 : Nat := 0
noncomputable def tw9376575566392132001 : Nat := 0
noncomputable def tw2195194259037543316 : Nat := 0
noncomputable def tw17201416709059790184 : Nat := 0
noncomputable def tw12732289081945773324 : Nat := 0
noncomputable def tw16193401482309157537 : Nat := 0
noncomputable def tw2524017781993486291 : Nat := 0
noncomputable def tw12748397558918655664 : Nat := 0
noncomputable def tw10625486282989778954 : Nat := 0
noncomputable def tw13293747886898857621 : Nat := 0
noncomputable def tw6880717277089553138 : Nat := 0
noncomputable def tw13113777628852026922 : Nat := 0
noncomputable def tw962193829226610041 : Nat := 0
noncomputable def tw1532499118470369260 : Nat := 0
noncomputable def tw9508770018378322450 : Nat := 0
noncomputable def tw10283388844273144081 : Nat := 0
noncomputable def tw9190990891756207365 : Nat := 0
noncomputable def tw2279707942289718827 : Nat := 0
noncomputable def tw5571399437266216444 : Nat := 0
noncomputable def tw15465920861327815835 : Nat := 0
noncomputable def tw10463206416058312583 : Nat := 0
noncomputable def tw17272174723667511238 : Nat := 0
noncomputable def tw15109750227778091905 : Nat := 0
noncomputable def tw4817600198373253283 : Nat := 0
noncomputable def tw7235775444256392728 : Nat := 0
noncomputable def tw1118068078248606362 : Nat := 0
noncomputable def tw11086099901593105684 : Nat := 0
noncomputable def tw17737603089517620647 : Nat := 0
noncomputable def tw10864377008497418100 : Nat := 0
noncomputable def tw9381277316556691805 : Nat := 0
noncomputable def tw387501639795913443 : Nat := 0
noncomputable def tw6788695710022549768 : Nat := 0
noncomputable def tw11403851563620829512 : Nat := 0
noncomputable def tw1504049600530537962 : Nat := 0
noncomputable def tw16959884160788844718 : Nat := 0
noncomputable def tw645136716886899192 : Nat := 0
noncomputable def tw14338414707916329796 : Nat := 0
noncomputable def tw7846812961960373227 : Nat := 0
noncomputable def tw3635900802997115186 : Nat := 0
noncomputable def tw18315214858253571532 : Nat := 0
noncomputable def tw11487549891475536569 : Nat := 0
noncomputable def tw14942518523226643122 : Nat := 0
noncomputable def tw6542085627976250192 : Nat := 0
noncomputable def tw6541472054586571296 : Nat := 0
noncomputable def tw15410482203810522393 : Nat := 0
noncomputable def tw17415231371625380664 : Nat := 0
noncomputable def tw6632538468102435922 : Nat := 0
noncomputable def tw8127475511531132179 : Nat := 0
noncomputable def tw1850612553970854742 : Nat := 0
noncomputable def tw6214117541549086881 : Nat := 0
noncomputable def tw16940794065300538585 : Nat := 0
noncomputable def tw13227692790652741651 : Nat := 0
noncomputable def tw4365514962571936147 : Nat := 0
noncomputable def tw6639522245352263942 : Nat := 0
noncomputable def tw4038153913678941442 : Nat := 0
noncomputable def tw5905124002604275100 : Nat := 0
noncomputable def tw10821422270917381399 : Nat := 0
noncomputable def tw5160751907100791332 : Nat := 0
noncomputable def tw15084373819210478048 : Nat := 0
noncomputable def tw6862268138105152660 : Nat := 0
noncomputable def tw16320729459185622934 : Nat := 0
noncomputable def tw10665469846841522134 : Nat := 0
noncomputable def tw4333880214566435006 : Nat := 0
noncomputable def tw1150287232629052791 : Nat := 0
noncomputable def tw8060562821785662972 : Nat := 0
noncomputable def tw15806524323241146399 : Nat := 0
noncomputable def tw8079908401900000222 : Nat := 0
noncomputable def tw14218914174604095658 : Nat := 0
noncomputable def tw5797031442667253490 : Nat := 0
noncomputable def tw17974016328880235120 : Nat := 0
noncomputable def tw16046730324260685337 : Nat := 0
noncomputable def tw12495339312024472815 : Nat := 0
noncomputable def tw3394367416137920725 : Nat := 0
noncomputable def tw15643365686152983790 : Nat := 0
noncomputable def tw10825838108423173272 : Nat := 0
noncomputable def tw1519927702969063271 : Nat := 0
noncomputable def tw16508919721030705984 : Nat := 0
noncomputable def tw2921958311620399285 : Nat := 0
noncomputable def tw7153082081811710619 : Nat := 0
noncomputable def tw10652863235454686790 : Nat := 0
noncomputable def tw3234112476842188716 : Nat := 0
noncomputable def tw11595355409239048105 : Nat := 0
noncomputable def tw16357356043003861740 : Nat := 0
noncomputable def tw18134284020713443437 : Nat := 0
noncomputable def tw18442785490491869365 : Nat := 0
noncomputable def tw1714950047550659301 : Nat := 0
noncomputable def tw8049371512179776102 : Nat := 0
noncomputable def tw372505627349444580 : Nat := 0
noncomputable def tw4475767826048309731 : Nat := 0
noncomputable def tw17290568124846718506 : Nat := 0
noncomputable def tw1261021989165538067 : Nat := 0
noncomputable def tw12205347405646519318 : Nat := 0
noncomputable def tw8834365191522931223 : Nat := 0
noncomputable def tw10391951854915411234 : Nat := 0
noncomputable def tw14788915703135433725 : Nat := 0
noncomputable def tw3627144658338631552 : Nat := 0
noncomputable def tw1157997071576566072 : Nat := 0
noncomputable def tw17402982504261768225 : Nat := 0
noncomputable def tw8707812797481193996 : Nat := 0
noncomputable def tw14009396871252706886 : Nat := 0
noncomputable def tw14639212616227390028 : Nat := 0
noncomputable def tw6162249291895867263 : Nat := 0
noncomputable def tw2821470743931037460 : Nat := 0
noncomputable def tw14061640607465278742 : Nat := 0
noncomputable def tw15768048840197415361 : Nat := 0
noncomputable def tw6053611964639427726 : Nat := 0
noncomputable def tw17091655785135471103 : Nat := 0
noncomputable def tw12222963475772708484 : Nat := 0
noncomputable def tw14364048958407549093 : Nat := 0
noncomputable def tw7514964652732493775 : Nat := 0
noncomputable def tw12692632004510240207 : Nat := 0
noncomputable def tw785246043732427063 : Nat := 0
noncomputable def tw6545385358150927430 : Nat := 0
noncomputable def tw17495560712657236704 : Nat := 0
noncomputable def tw2225956059507018244 : Nat := 0
noncomputable def tw3299218664060906527 : Nat := 0
noncomputable def tw16411370214107742406 : Nat := 0
noncomputable def tw11374851513655246148 : Nat := 0
noncomputable def tw7332330508316399935 : Nat := 0
noncomputable def tw6511744376749373798 : Nat := 0
noncomputable def tw17725498274588495791 : Nat := 0
noncomputable def tw15467891735981029475 : Nat := 0
noncomputable def tw9253799994812790149 : Nat := 0
noncomputable def tw10210597933619972095 : Nat := 0
noncomputable def tw2906824675625879941 : Nat := 0
noncomputable def tw832900586485598795 : Nat := 0
noncomputable def tw17699438841360665129 : Nat := 0
noncomputable def tw18392154025008590481 : Nat := 0
noncomputable def tw3994622017586750766 : Nat := 0
noncomputable def tw17118054049896295152 : Nat := 0
noncomputable def tw15131278010643852716 : Nat := 0
noncomputable def tw7173623326730630234 : Nat := 0
noncomputable def tw15984706205718930553 : Nat := 0
noncomputable def tw13642826006792871662 : Nat := 0
noncomputable def tw2900998541784483753 : Nat := 0
noncomputable def tw4681395471914393968 : Nat := 0
noncomputable def tw4088224383575840552 : Nat := 0
noncomputable def tw12900284412222446716 : Nat := 0
noncomputable def tw6596593509180878263 : Nat := 0
noncomputable def tw9682133043923132273 : Nat := 0
noncomputable def tw14161005256144132680 : Nat := 0
noncomputable def tw4990475226369331113 : Nat := 0
noncomputable def tw5781596087445459943 : Nat := 0
noncomputable def tw8496349624203035976 : Nat := 0
noncomputable def tw16817993663026736274 : Nat := 0
noncomputable def tw10663580350406149668 : Nat := 0
noncomputable def tw14662554035588321541 : Nat := 0
noncomputable def tw8228058824784995430 : Nat := 0
noncomputable def tw10044588960856096794 : Nat := 0
noncomputable def tw5649967823195072380 : Nat := 0
noncomputable def tw15485851114877660061 : Nat := 0
noncomputable def tw892681787802806017 : Nat := 0
noncomputable def tw1255815211270559930 : Nat := 0
noncomputable def tw14097447854668400296 : Nat := 0
noncomputable def tw2238316416991798583 : Nat := 0
noncomputable def tw15554039934745177238 : Nat := 0
noncomputable def tw17767330081159143506 : Nat := 0
noncomputable def tw4458048076830672230 : Nat := 0
noncomputable def tw7108953243070827183 : Nat := 0
noncomputable def tw5831584030425509755 : Nat := 0
noncomputable def tw5396361742852586263 : Nat := 0
end main
set_option Elab.async true
set_option maxHeartbeats 40000000 in
theorem main : PySem.Challenge.rw_pf0084_01.Holds := by
  w_on
  o_law
  k_head
  case hw => w_witness2
  have hCO : ∀ {v : Vs}, ClsOk (PV Mine.main.heap_1_39 v).K (PV Mine.main.heap_1_39 v).cA := by
    intro v
    exact clsOk_of (by kernel_rfl)
  have hCS : ∀ {v : Vs}, ClsSet (PV Mine.main.heap_1_39 v) := by
    intro v
    exact clsSet_of (by kernel_rfl)
  have hXO : ∀ {v : Vs}, ExcOk (PV Mine.main.heap_1_39 v) 164 139 136 := by
    intro v
    exact ⟨⟨_, _, _, _, _, _, _, _, _, _, _, _, _, _, _, rfl⟩, by kernel_rfl, by kernel_rfl, by kernel_rfl, by kernel_rfl, excSet_of (by kernel_rfl), excSet_of (by kernel_rfl), by kernel_rfl, by kernel_rfl,
      ⟨_, _, _, _, _, _, _, _, _, _, _, _, _, _, _, rfl, by kernel_rfl, ⟨_, _, _, _, _, _, _, _, _, _, _, _, _, _, rfl, rfl⟩, fun s X a b c => BindsTo.of_defaults rfl (X 129 _ rfl) rfl rfl (by kernel_rfl), rfl, rfl, rfl, rfl, rfl, rfl, rfl, hcell_of (by decide +kernel), fun _ => rfl⟩⟩
  have h_fTake : ∀ {v : Vs}, SndF (PV Mine.main.heap_1_39 v) (XRof (PV Mine.main.heap_1_39 v) 164) 0 fTake (.ref 620) := by
    intro v
    refine' sndF_take ?hbodyx4 ?hox4 ?hcdx4 ?hbx4 ?hcox4 ?hgenx4 ?hkx4 ?hcellx4 ?n1x4 ?n2x4 ?n3x4 ?n4x4 ?hintx4
    case hox4 => rfl
    case hbodyx4 => rfl
    case hcdx4 => kernel_rfl
    case hbx4 => exact fun s X a b => .of_eq (by kernel_rfl)
    case hcellx4 => exact hcell_of (by decide +kernel)
    case hintx4 => kernel_rfl
    all_goals rfl
  have h_f_World_base_of : ∀ {v : Vs}, SndF (PV Mine.main.heap_1_39 v) (XRof (PV Mine.main.heap_1_39 v) 164) 0 f_World_base_of (.ref 592) := by
    intro v
    unfold f_World_base_of
    refine' sndF_def (XL := xleave) ?hox5 ?hcdx5 ?hbx5 ?hlocx5 ?ndx5 ?hcox5 ?hgenx5 ?hkx5 ?hcellx5 ?hscrx5 ?hbodyx5
    case hox5 => rfl
    case hcdx5 => kernel_rfl
    case hbx5 => exact bindOk2 (fun _ _ => by kernel_rfl)
    case hlocx5 => exact hloc_of (by decide +kernel)
    case ndx5 => decide
    case hcox5 => rfl
    case hgenx5 => rfl
    case hkx5 => rfl
    case hcellx5 => exact hcell_of (by decide +kernel)
    case hscrx5 => decide +kernel
    case hbodyx5 =>
      unfold b_World_base_of
      refine sndS_cons ?_ ?_
      refine sndS_whl ?_ ?_
      refine sndT_pu ?_
      refine sndPT_cmp cmp_eq ?_ ?_ ?_
      exact rfl
      refine sndP_sub ?_ ?_ ?_
      exact rfl
      refine sndP_loc ?_ ?_
      decide +kernel
      decide +kernel
      exact sndP_int
      refine sndP_str ?_ ?_
      decide +kernel
      decide
      refine sndS_cons ?_ ?_
      refine sndS_iff ?_ ?_ ?_
      refine sndT_pu ?_
      refine sndPT_cmp cmp_notin ?_ ?_ ?_
      exact rfl
      refine sndP_sub ?_ ?_ ?_
      exact rfl
      refine sndP_loc ?_ ?_
      decide +kernel
      decide +kernel
      exact sndP_int
      refine sndP_att hCO ?_ ?_ ?_ ?_
      decide +kernel
      decide
      exact (fun _ => rfl)
      refine sndP_loc ?_ ?_
      decide +kernel
      decide +kernel
      refine sndS_cons ?_ ?_
      exact sndS_bad
      exact sndS_nil
      exact sndS_nil
      refine sndS_cons ?_ ?_
      refine sndS_asn ?_ ?_ ?_ ?_
      decide +kernel
      exact (fun _ => rfl)
      refine stor_at ?_
      decide +kernel
      refine sndE_pu ?_
      refine sndP_sub ?_ ?_ ?_
      exact rfl
      refine sndP_att hCO ?_ ?_ ?_ ?_
      decide +kernel
      decide
      exact (fun _ => rfl)
      refine sndP_loc ?_ ?_
      decide +kernel
      decide +kernel
      refine sndP_sub ?_ ?_ ?_
      exact rfl
      refine sndP_loc ?_ ?_
      decide +kernel
      decide +kernel
      exact sndP_int
      refine sndS_cons ?_ ?_
      refine sndS_iff ?_ ?_ ?_
      refine sndT_pu ?_
      refine sndPT_cmp cmp_is ?_ ?_ ?_
      exact rfl
      refine sndP_att hCO ?_ ?_ ?_ ?_
      decide +kernel
      decide
      exact (fun _ => rfl)
      refine sndP_loc ?_ ?_
      decide +kernel
      decide +kernel
      exact sndP_none
      refine sndS_cons ?_ ?_
      refine sndS_iff ?_ ?_ ?_
      refine sndT_pu ?_
      refine sndPT_cmp cmp_is ?_ ?_ ?_
      exact rfl
      refine sndP_att hCO ?_ ?_ ?_ ?_
      decide +kernel
      decide
      exact (fun _ => rfl)
      refine sndP_loc ?_ ?_
      decide +kernel
      decide +kernel
      exact sndP_none
      refine sndS_cons ?_ ?_
      exact sndS_bad
      exact sndS_nil
      exact sndS_nil
      refine sndS_cons ?_ ?_
      refine sndS_exp ?_ ?_ ?_
      exact (fun _ => rfl)
      refine inter_of ?_
      exact rfl
      exact sndE_bad
      exact sndS_nil
      exact sndS_nil
      refine sndS_cons ?_ ?_
      refine sndS_asn ?_ ?_ ?_ ?_
      decide +kernel
      exact (fun _ => rfl)
      refine stor_at ?_
      decide +kernel
      refine sndE_pu ?_
      refine sndP_att hCO ?_ ?_ ?_ ?_
      decide +kernel
      decide
      exact (fun _ => rfl)
      refine sndP_loc ?_ ?_
      decide +kernel
      decide +kernel
      exact sndS_nil
      refine sndS_cons ?_ ?_
      refine sndS_ret ?_
      refine sndE_loc ?_
      refine sndP_loc ?_ ?_
      decide +kernel
      decide +kernel
      exact sndS_nil
  have h_f_underlying_of : ∀ {v : Vs}, SndF (PV Mine.main.heap_1_39 v) (XRof (PV Mine.main.heap_1_39 v) 164) 1 f_underlying_of (.ref 71) := by
    intro v
    unfold f_underlying_of
    refine' sndF_def (XL := xleave) ?hox6 ?hcdx6 ?hbx6 ?hlocx6 ?ndx6 ?hcox6 ?hgenx6 ?hkx6 ?hcellx6 ?hscrx6 ?hbodyx6
    case hox6 => rfl
    case hcdx6 => kernel_rfl
    case hbx6 => exact bindOk2 (fun _ _ => by kernel_rfl)
    case hlocx6 => exact hloc_of (by decide +kernel)
    case ndx6 => decide
    case hcox6 => rfl
    case hgenx6 => rfl
    case hkx6 => rfl
    case hcellx6 => exact hcell_of (by decide +kernel)
    case hscrx6 => decide +kernel
    case hbodyx6 =>
      unfold b_underlying_of
      refine sndS_cons ?_ ?_
      refine sndS_ret ?_
      refine sndE_mthI h_f_World_base_of ?_ ?_ ?_ ?_ ?_ ?_ ?_ ?_ ?_ ?_ ?_ ?_
      decide
      kernel_rfl
      kernel_rfl
      kernel_rfl
      kernel_rfl
      refine not_in_tab ?_
      decide +kernel
      exact (fun _ => rfl)
      exact rfl
      exact rfl
      decide
      refine sndE_loc ?_
      refine sndP_loc ?_ ?_
      decide +kernel
      decide +kernel
      refine sndL_cons ?_ ?_ ?_
      exact rfl
      refine sndE_loc ?_
      refine sndP_loc ?_ ?_
      decide +kernel
      decide +kernel
      exact sndL_nil
      exact sndS_nil
  have h_f_NamedRow_init : ∀ {v : Vs}, SndF (PV Mine.main.heap_1_39 v) (XRof (PV Mine.main.heap_1_39 v) 164) 0 f_NamedRow_init (.ref 556) := by
    intro v
    unfold f_NamedRow_init
    refine' sndF_def (XL := xleave) ?hox7 ?hcdx7 ?hbx7 ?hlocx7 ?ndx7 ?hcox7 ?hgenx7 ?hkx7 ?hcellx7 ?hscrx7 ?hbodyx7
    case hox7 => rfl
    case hcdx7 => kernel_rfl
    case hbx7 => exact bindOk5 (fun _ _ _ _ _ => by kernel_rfl)
    case hlocx7 => exact hloc_of (by decide +kernel)
    case ndx7 => decide
    case hcox7 => rfl
    case hgenx7 => rfl
    case hkx7 => rfl
    case hcellx7 => exact hcell_of (by decide +kernel)
    case hscrx7 => decide +kernel
    case hbodyx7 =>
      unfold b_NamedRow_init
      refine sndS_cons ?_ ?_
      refine sndS_asa hCS ?_ ?_ ?_ ?_ ?_ ?_
      decide +kernel
      decide
      refine tak_of ?_
      kernel_rfl
      exact (fun _ => rfl)
      refine sndE_loc ?_
      refine sndP_loc ?_ ?_
      decide +kernel
      decide +kernel
      refine sndE_loc ?_
      refine sndP_loc ?_ ?_
      decide +kernel
      decide +kernel
      refine sndS_cons ?_ ?_
      refine sndS_asa hCS ?_ ?_ ?_ ?_ ?_ ?_
      decide +kernel
      decide
      refine tak_of ?_
      kernel_rfl
      exact (fun _ => rfl)
      refine sndE_loc ?_
      refine sndP_loc ?_ ?_
      decide +kernel
      decide +kernel
      refine sndE_loc ?_
      refine sndP_loc ?_ ?_
      decide +kernel
      decide +kernel
      refine sndS_cons ?_ ?_
      refine sndS_asa hCS ?_ ?_ ?_ ?_ ?_ ?_
      decide +kernel
      decide
      refine tak_of ?_
      kernel_rfl
      exact (fun _ => rfl)
      refine sndE_loc ?_
      refine sndP_loc ?_ ?_
      decide +kernel
      decide +kernel
      refine sndE_loc ?_
      refine sndP_loc ?_ ?_
      decide +kernel
      decide +kernel
      refine sndS_cons ?_ ?_
      refine sndS_asa hCS ?_ ?_ ?_ ?_ ?_ ?_
      decide +kernel
      decide
      refine tak_of ?_
      kernel_rfl
      exact (fun _ => rfl)
      refine sndE_loc ?_
      refine sndP_loc ?_ ?_
      decide +kernel
      decide +kernel
      refine sndE_loc ?_
      refine sndP_loc ?_ ?_
      decide +kernel
      decide +kernel
      exact sndS_nil
  have h_f_known_rows : ∀ {v : Vs}, SndF (PV Mine.main.heap_1_39 v) (XRof (PV Mine.main.heap_1_39 v) 164) 1 f_known_rows (.ref 570) := by
    intro v
    unfold f_known_rows
    refine' sndF_def (XL := xleave) ?hox8 ?hcdx8 ?hbx8 ?hlocx8 ?ndx8 ?hcox8 ?hgenx8 ?hkx8 ?hcellx8 ?hscrx8 ?hbodyx8
    case hox8 => rfl
    case hcdx8 => kernel_rfl
    case hbx8 => exact bindOk0 (by kernel_rfl)
    case hlocx8 => exact hloc_of (by decide +kernel)
    case ndx8 => decide
    case hcox8 => rfl
    case hgenx8 => rfl
    case hkx8 => rfl
    case hcellx8 => exact hcell_of (by decide +kernel)
    case hscrx8 => decide +kernel
    case hbodyx8 =>
      unfold b_known_rows
      refine sndS_cons ?_ ?_
      refine sndS_asn ?_ ?_ ?_ ?_
      decide +kernel
      exact (fun _ => rfl)
      refine stor_at ?_
      decide +kernel
      refine sndE_pu ?_
      refine sndP_tup ?_ ?_
      refine sndPs_cons ?_ ?_ ?_
      exact rfl
      refine sndP_str ?_ ?_
      decide +kernel
      decide
      refine sndPs_cons ?_ ?_ ?_
      exact rfl
      refine sndP_tup ?_ ?_
      exact sndPs_nil
      decide +kernel
      refine sndPs_cons ?_ ?_ ?_
      exact rfl
      refine sndP_tup ?_ ?_
      refine sndPs_cons ?_ ?_ ?_
      exact rfl
      refine sndP_tup ?_ ?_
      refine sndPs_cons ?_ ?_ ?_
      exact rfl
      refine sndP_str ?_ ?_
      decide +kernel
      decide
      exact sndPs_nil
      decide +kernel
      exact sndPs_nil
      decide +kernel
      refine sndPs_cons ?_ ?_ ?_
      exact rfl
      exact sndP_bool
      exact sndPs_nil
      decide +kernel
      refine sndS_cons ?_ ?_
      refine sndS_asn ?_ ?_ ?_ ?_
      decide +kernel
      exact (fun _ => rfl)
      refine stor_at ?_
      decide +kernel
      refine sndE_pu ?_
      refine sndP_tup ?_ ?_
      refine sndPs_cons ?_ ?_ ?_
      exact rfl
      refine sndP_str ?_ ?_
      decide +kernel
      decide
      refine sndPs_cons ?_ ?_ ?_
      exact rfl
      refine sndP_tup ?_ ?_
      refine sndPs_cons ?_ ?_ ?_
      exact rfl
      refine sndP_tup ?_ ?_
      refine sndPs_cons ?_ ?_ ?_
      exact rfl
      refine sndP_str ?_ ?_
      decide +kernel
      decide
      refine sndPs_cons ?_ ?_ ?_
      exact rfl
      refine sndP_str ?_ ?_
      decide +kernel
      decide
      exact sndPs_nil
      decide +kernel
      exact sndPs_nil
      decide +kernel
      refine sndPs_cons ?_ ?_ ?_
      exact rfl
      refine sndP_tup ?_ ?_
      exact sndPs_nil
      decide +kernel
      refine sndPs_cons ?_ ?_ ?_
      exact rfl
      exact sndP_bool
      exact sndPs_nil
      decide +kernel
      refine sndS_cons ?_ ?_
      refine sndS_asn ?_ ?_ ?_ ?_
      decide +kernel
      exact (fun _ => rfl)
      refine stor_at ?_
      decide +kernel
      refine sndE_pu ?_
      refine sndP_tup ?_ ?_
      refine sndPs_cons ?_ ?_ ?_
      exact rfl
      refine sndP_str ?_ ?_
      decide +kernel
      decide
      refine sndPs_cons ?_ ?_ ?_
      exact rfl
      refine sndP_tup ?_ ?_
      refine sndPs_cons ?_ ?_ ?_
      exact rfl
      refine sndP_tup ?_ ?_
      refine sndPs_cons ?_ ?_ ?_
      exact rfl
      refine sndP_str ?_ ?_
      decide +kernel
      decide
      refine sndPs_cons ?_ ?_ ?_
      exact rfl
      refine sndP_tup ?_ ?_
      refine sndPs_cons ?_ ?_ ?_
      exact rfl
      refine sndP_str ?_ ?_
      decide +kernel
      decide
      refine sndPs_cons ?_ ?_ ?_
      exact rfl
      refine sndP_str ?_ ?_
      decide +kernel
      decide
      exact sndPs_nil
      decide +kernel
      refine sndPs_cons ?_ ?_ ?_
      exact rfl
      exact sndP_bool
      exact sndPs_nil
      decide +kernel
      exact sndPs_nil
      decide +kernel
      exact sndPs_nil
      decide +kernel
      refine sndS_cons ?_ ?_
      refine sndS_asn ?_ ?_ ?_ ?_
      decide +kernel
      exact (fun _ => rfl)
      refine stor_at ?_
      decide +kernel
      refine sndE_dic (ks := [44]) ?_ ?_ ?_ ?_ ?_ ?_ ?_
      exact xoth
      refine sndD_cons ?_ ?_ ?_ ?_
      decide +kernel
      decide
      refine sndE_pu ?_
      refine sndP_tup ?_ ?_
      refine sndPs_cons ?_ ?_ ?_
      exact rfl
      exact sndP_bool
      refine sndPs_cons ?_ ?_ ?_
      exact rfl
      refine sndP_loc ?_ ?_
      decide +kernel
      decide +kernel
      refine sndPs_cons ?_ ?_ ?_
      exact rfl
      refine sndP_str ?_ ?_
      decide +kernel
      decide
      exact sndPs_nil
      decide +kernel
      exact sndD_nil
      rfl
      rfl
      simp
      decide +kernel
      decide
      refine sndS_cons ?_ ?_
      refine sndS_asn ?_ ?_ ?_ ?_
      decide +kernel
      exact (fun _ => rfl)
      refine stor_at ?_
      decide +kernel
      refine sndE_dic (ks := [57, 55]) ?_ ?_ ?_ ?_ ?_ ?_ ?_
      exact xoth
      refine sndD_cons ?_ ?_ ?_ ?_
      decide +kernel
      decide
      refine sndE_pu ?_
      refine sndP_tup ?_ ?_
      refine sndPs_cons ?_ ?_ ?_
      exact rfl
      exact sndP_bool
      refine sndPs_cons ?_ ?_ ?_
      exact rfl
      refine sndP_glb (v := .ref 542) ?_ ?_ ?_ ?_
      kernel_rfl
      decide +kernel
      decide +kernel
      refine kvr_sound (n := 5) ?_
      kernel_rfl
      refine sndPs_cons ?_ ?_ ?_
      exact rfl
      refine sndP_str ?_ ?_
      decide +kernel
      decide
      exact sndPs_nil
      decide +kernel
      refine sndD_cons ?_ ?_ ?_ ?_
      decide +kernel
      decide
      refine sndE_pu ?_
      refine sndP_tup ?_ ?_
      refine sndPs_cons ?_ ?_ ?_
      exact rfl
      exact sndP_bool
      refine sndPs_cons ?_ ?_ ?_
      exact rfl
      refine sndP_glb (v := .ref 542) ?_ ?_ ?_ ?_
      kernel_rfl
      decide +kernel
      decide +kernel
      refine kvr_sound (n := 5) ?_
      kernel_rfl
      refine sndPs_cons ?_ ?_ ?_
      exact rfl
      refine sndP_str ?_ ?_
      decide +kernel
      decide
      exact sndPs_nil
      decide +kernel
      exact sndD_nil
      rfl
      rfl
      simp
      decide +kernel
      decide
      refine sndS_cons ?_ ?_
      refine sndS_asn ?_ ?_ ?_ ?_
      decide +kernel
      exact (fun _ => rfl)
      refine stor_at ?_
      decide +kernel
      refine sndE_dic (ks := [52, 50, 47]) ?_ ?_ ?_ ?_ ?_ ?_ ?_
      exact xoth
      refine sndD_cons ?_ ?_ ?_ ?_
      decide +kernel
      decide
      refine sndE_pu ?_
      refine sndP_tup ?_ ?_
      refine sndPs_cons ?_ ?_ ?_
      exact rfl
      exact sndP_bool
      refine sndPs_cons ?_ ?_ ?_
      exact rfl
      refine sndP_loc ?_ ?_
      decide +kernel
      decide +kernel
      refine sndPs_cons ?_ ?_ ?_
      exact rfl
      refine sndP_str ?_ ?_
      decide +kernel
      decide
      exact sndPs_nil
      decide +kernel
      refine sndD_cons ?_ ?_ ?_ ?_
      decide +kernel
      decide
      refine sndE_pu ?_
      refine sndP_tup ?_ ?_
      refine sndPs_cons ?_ ?_ ?_
      exact rfl
      exact sndP_bool
      refine sndPs_cons ?_ ?_ ?_
      exact rfl
      refine sndP_glb (v := .ref 542) ?_ ?_ ?_ ?_
      kernel_rfl
      decide +kernel
      decide +kernel
      refine kvr_sound (n := 5) ?_
      kernel_rfl
      refine sndPs_cons ?_ ?_ ?_
      exact rfl
      refine sndP_str ?_ ?_
      decide +kernel
      decide
      exact sndPs_nil
      decide +kernel
      refine sndD_cons ?_ ?_ ?_ ?_
      decide +kernel
      decide
      refine sndE_pu ?_
      refine sndP_tup ?_ ?_
      refine sndPs_cons ?_ ?_ ?_
      exact rfl
      exact sndP_bool
      refine sndPs_cons ?_ ?_ ?_
      exact rfl
      refine sndP_glb (v := .ref 542) ?_ ?_ ?_ ?_
      kernel_rfl
      decide +kernel
      decide +kernel
      refine kvr_sound (n := 5) ?_
      kernel_rfl
      refine sndPs_cons ?_ ?_ ?_
      exact rfl
      refine sndP_str ?_ ?_
      decide +kernel
      decide
      exact sndPs_nil
      decide +kernel
      exact sndD_nil
      rfl
      rfl
      simp
      decide +kernel
      decide
      refine sndS_cons ?_ ?_
      refine sndS_ret ?_
      refine sndE_dic (ks := [42, 39, 37, 32]) ?_ ?_ ?_ ?_ ?_ ?_ ?_
      exact xoth
      refine sndD_cons ?_ ?_ ?_ ?_
      decide +kernel
      decide
      refine sndE_new h_f_NamedRow_init ?_ ?_ ?_ ?_ ?_ ?_ ?_ ?_ ?_ ?_ ?_
      decide
      decide
      kernel_rfl
      kernel_rfl
      kernel_rfl
      kernel_rfl
      kernel_rfl
      decide +kernel
      decide +kernel
      refine sndL_cons ?_ ?_ ?_
      exact rfl
      refine sndE_con ?_
      refine sndP_str ?_ ?_
      decide +kernel
      decide
      refine sndL_cons ?_ ?_ ?_
      exact rfl
      refine sndE_con ?_
      refine sndP_str ?_ ?_
      decide +kernel
      decide
      refine sndL_cons ?_ ?_ ?_
      exact rfl
      refine sndE_pu ?_
      refine sndP_tup ?_ ?_
      refine sndPs_cons ?_ ?_ ?_
      exact rfl
      refine sndP_str ?_ ?_
      decide +kernel
      decide
      refine sndPs_cons ?_ ?_ ?_
      exact rfl
      refine sndP_tup ?_ ?_
      refine sndPs_cons ?_ ?_ ?_
      exact rfl
      refine sndP_tup ?_ ?_
      refine sndPs_cons ?_ ?_ ?_
      exact rfl
      refine sndP_str ?_ ?_
      decide +kernel
      decide
      refine sndPs_cons ?_ ?_ ?_
      exact rfl
      refine sndP_loc ?_ ?_
      decide +kernel
      decide +kernel
      exact sndPs_nil
      decide +kernel
      exact sndPs_nil
      decide +kernel
      exact sndPs_nil
      decide +kernel
      refine sndL_cons ?_ ?_ ?_
      exact rfl
      exact sndE_dic0
      exact sndL_nil
      exact rfl
      refine sndD_cons ?_ ?_ ?_ ?_
      decide +kernel
      decide
      refine sndE_new h_f_NamedRow_init ?_ ?_ ?_ ?_ ?_ ?_ ?_ ?_ ?_ ?_ ?_
      decide
      decide
      kernel_rfl
      kernel_rfl
      kernel_rfl
      kernel_rfl
      kernel_rfl
      decide +kernel
      decide +kernel
      refine sndL_cons ?_ ?_ ?_
      exact rfl
      refine sndE_con ?_
      refine sndP_str ?_ ?_
      decide +kernel
      decide
      refine sndL_cons ?_ ?_ ?_
      exact rfl
      refine sndE_con ?_
      refine sndP_str ?_ ?_
      decide +kernel
      decide
      refine sndL_cons ?_ ?_ ?_
      exact rfl
      refine sndE_pu ?_
      refine sndP_tup ?_ ?_
      refine sndPs_cons ?_ ?_ ?_
      exact rfl
      refine sndP_str ?_ ?_
      decide +kernel
      decide
      exact sndPs_nil
      decide +kernel
      refine sndL_cons ?_ ?_ ?_
      exact rfl
      refine sndE_loc ?_
      refine sndP_loc ?_ ?_
      decide +kernel
      decide +kernel
      exact sndL_nil
      exact rfl
      refine sndD_cons ?_ ?_ ?_ ?_
      decide +kernel
      decide
      refine sndE_new h_f_NamedRow_init ?_ ?_ ?_ ?_ ?_ ?_ ?_ ?_ ?_ ?_ ?_
      decide
      decide
      kernel_rfl
      kernel_rfl
      kernel_rfl
      kernel_rfl
      kernel_rfl
      decide +kernel
      decide +kernel
      refine sndL_cons ?_ ?_ ?_
      exact rfl
      refine sndE_con ?_
      refine sndP_str ?_ ?_
      decide +kernel
      decide
      refine sndL_cons ?_ ?_ ?_
      exact rfl
      refine sndE_con ?_
      refine sndP_str ?_ ?_
      decide +kernel
      decide
      refine sndL_cons ?_ ?_ ?_
      exact rfl
      refine sndE_loc ?_
      refine sndP_loc ?_ ?_
      decide +kernel
      decide +kernel
      refine sndL_cons ?_ ?_ ?_
      exact rfl
      refine sndE_loc ?_
      refine sndP_loc ?_ ?_
      decide +kernel
      decide +kernel
      exact sndL_nil
      exact rfl
      refine sndD_cons ?_ ?_ ?_ ?_
      decide +kernel
      decide
      refine sndE_new h_f_NamedRow_init ?_ ?_ ?_ ?_ ?_ ?_ ?_ ?_ ?_ ?_ ?_
      decide
      decide
      kernel_rfl
      kernel_rfl
      kernel_rfl
      kernel_rfl
      kernel_rfl
      decide +kernel
      decide +kernel
      refine sndL_cons ?_ ?_ ?_
      exact rfl
      refine sndE_con ?_
      refine sndP_str ?_ ?_
      decide +kernel
      decide
      refine sndL_cons ?_ ?_ ?_
      exact rfl
      refine sndE_con ?_
      refine sndP_str ?_ ?_
      decide +kernel
      decide
      refine sndL_cons ?_ ?_ ?_
      exact rfl
      refine sndE_loc ?_
      refine sndP_loc ?_ ?_
      decide +kernel
      decide +kernel
      refine sndL_cons ?_ ?_ ?_
      exact rfl
      refine sndE_loc ?_
      refine sndP_loc ?_ ?_
      decide +kernel
      decide +kernel
      exact sndL_nil
      exact rfl
      exact sndD_nil
      rfl
      rfl
      simp
      decide +kernel
      decide
      exact sndS_nil
  have h_f_World_init : ∀ {v : Vs}, SndF (PV Mine.main.heap_1_39 v) (XRof (PV Mine.main.heap_1_39 v) 164) 2 f_World_init (.ref 585) := by
    intro v
    unfold f_World_init
    refine' sndF_def (XL := xleave) ?hox9 ?hcdx9 ?hbx9 ?hlocx9 ?ndx9 ?hcox9 ?hgenx9 ?hkx9 ?hcellx9 ?hscrx9 ?hbodyx9
    case hox9 => rfl
    case hcdx9 => kernel_rfl
    case hbx9 => 
      intro s X vs
      refine ⟨fun e => ?_, fun a h => ⟨by cases h; rfl, fun e => ?_⟩⟩
      · rcases vs with _ | ⟨a0, _ | ⟨a1, _ | ⟨_, _⟩⟩⟩
        · cases e
        · cases e
        · exact BindsTo.of_defaults rfl (X 578 _ rfl) rfl rfl (by kernel_rfl)
        · cases e
      · rcases vs with _ | ⟨a0, _ | ⟨_, _⟩⟩
        · cases e
        · exact BindsTo.of_defaults rfl (X 578 _ rfl) rfl rfl (by kernel_rfl)
        · cases e
    case hlocx9 => exact hloc_of (by decide +kernel)
    case ndx9 => decide
    case hcox9 => rfl
    case hgenx9 => rfl
    case hkx9 => rfl
    case hcellx9 => exact hcell_of (by decide +kernel)
    case hscrx9 => decide +kernel
    case hbodyx9 =>
      unfold b_World_init
      refine sndS_cons ?_ ?_
      refine sndS_asa hCS ?_ ?_ ?_ ?_ ?_ ?_
      decide +kernel
      decide
      refine tak_of ?_
      kernel_rfl
      exact (fun _ => rfl)
      refine sndE_loc ?_
      refine sndP_loc ?_ ?_
      decide +kernel
      decide +kernel
      refine sndE_loc ?_
      refine sndP_loc ?_ ?_
      decide +kernel
      decide +kernel
      refine sndS_cons ?_ ?_
      refine sndS_asa hCS ?_ ?_ ?_ ?_ ?_ ?_
      decide +kernel
      decide
      refine tak_of ?_
      kernel_rfl
      exact (fun _ => rfl)
      refine sndE_call0 h_f_known_rows ?_ ?_ ?_ ?_ ?_
      decide
      kernel_rfl
      kernel_rfl
      decide +kernel
      decide +kernel
      refine sndE_loc ?_
      refine sndP_loc ?_ ?_
      decide +kernel
      decide +kernel
      refine sndS_cons ?_ ?_
      refine sndS_asa hCS ?_ ?_ ?_ ?_ ?_ ?_
      decide +kernel
      decide
      refine tak_of ?_
      kernel_rfl
      exact (fun _ => rfl)
      exact sndE_dic0
      refine sndE_loc ?_
      refine sndP_loc ?_ ?_
      decide +kernel
      decide +kernel
      refine sndS_cons ?_ ?_
      refine sndS_asa hCS ?_ ?_ ?_ ?_ ?_ ?_
      decide +kernel
      decide
      refine tak_of ?_
      kernel_rfl
      exact (fun _ => rfl)
      exact sndE_dic0
      refine sndE_loc ?_
      refine sndP_loc ?_ ?_
      decide +kernel
      decide +kernel
      refine sndS_cons ?_ ?_
      refine sndS_asa hCS ?_ ?_ ?_ ?_ ?_ ?_
      decide +kernel
      decide
      refine tak_of ?_
      kernel_rfl
      exact (fun _ => rfl)
      exact sndE_dic0
      refine sndE_loc ?_
      refine sndP_loc ?_ ?_
      decide +kernel
      decide +kernel
      refine sndS_cons ?_ ?_
      refine sndS_asa hCS ?_ ?_ ?_ ?_ ?_ ?_
      decide +kernel
      decide
      refine tak_of ?_
      kernel_rfl
      exact (fun _ => rfl)
      exact sndE_dic0
      refine sndE_loc ?_
      refine sndP_loc ?_ ?_
      decide +kernel
      decide +kernel
      refine sndS_cons ?_ ?_
      refine sndS_asa hCS ?_ ?_ ?_ ?_ ?_ ?_
      decide +kernel
      decide
      refine tak_of ?_
      kernel_rfl
      exact (fun _ => rfl)
      exact sndE_dic0
      refine sndE_loc ?_
      refine sndP_loc ?_ ?_
      decide +kernel
      decide +kernel
      refine sndS_cons ?_ ?_
      refine sndS_asa hCS ?_ ?_ ?_ ?_ ?_ ?_
      decide +kernel
      decide
      refine tak_of ?_
      kernel_rfl
      exact (fun _ => rfl)
      exact sndE_dic0
      refine sndE_loc ?_
      refine sndP_loc ?_ ?_
      decide +kernel
      decide +kernel
      refine sndS_cons ?_ ?_
      refine sndS_asa hCS ?_ ?_ ?_ ?_ ?_ ?_
      decide +kernel
      decide
      refine tak_of ?_
      kernel_rfl
      exact (fun _ => rfl)
      refine sndE_lst ?_ ?_
      exact sndL_nil
      decide +kernel
      refine sndE_loc ?_
      refine sndP_loc ?_ ?_
      decide +kernel
      decide +kernel
      refine sndS_cons ?_ ?_
      refine sndS_asa hCS ?_ ?_ ?_ ?_ ?_ ?_
      decide +kernel
      decide
      refine tak_of ?_
      kernel_rfl
      exact (fun _ => rfl)
      refine sndE_lst ?_ ?_
      exact sndL_nil
      decide +kernel
      refine sndE_loc ?_
      refine sndP_loc ?_ ?_
      decide +kernel
      decide +kernel
      refine sndS_cons ?_ ?_
      refine sndS_asa hCS ?_ ?_ ?_ ?_ ?_ ?_
      decide +kernel
      decide
      refine tak_of ?_
      kernel_rfl
      exact (fun _ => rfl)
      refine sndE_con ?_
      exact sndP_none
      refine sndE_loc ?_
      refine sndP_loc ?_ ?_
      decide +kernel
      decide +kernel
      refine sndS_cons ?_ ?_
      refine sndS_asa hCS ?_ ?_ ?_ ?_ ?_ ?_
      decide +kernel
      decide
      refine tak_of ?_
      kernel_rfl
      exact (fun _ => rfl)
      refine sndE_lst ?_ ?_
      exact sndL_nil
      decide +kernel
      refine sndE_loc ?_
      refine sndP_loc ?_ ?_
      decide +kernel
      decide +kernel
      refine sndS_cons ?_ ?_
      refine sndS_asa hCS ?_ ?_ ?_ ?_ ?_ ?_
      decide +kernel
      decide
      refine tak_of ?_
      kernel_rfl
      exact (fun _ => rfl)
      refine sndE_con ?_
      exact sndP_bool
      refine sndE_loc ?_
      refine sndP_loc ?_ ?_
      decide +kernel
      decide +kernel
      exact sndS_nil
  have h_f_Checker_init : ∀ {v : Vs}, SndF (PV Mine.main.heap_1_39 v) (XRof (PV Mine.main.heap_1_39 v) 164) 0 f_Checker_init (.ref 444) := by
    intro v
    unfold f_Checker_init
    refine' sndF_def (XL := xleave) ?hox10 ?hcdx10 ?hbx10 ?hlocx10 ?ndx10 ?hcox10 ?hgenx10 ?hkx10 ?hcellx10 ?hscrx10 ?hbodyx10
    case hox10 => rfl
    case hcdx10 => kernel_rfl
    case hbx10 => 
      intro s X vs
      refine ⟨fun e => ?_, fun a h => ⟨by cases h; rfl, fun e => ?_⟩⟩
      · rcases vs with _ | ⟨a0, _ | ⟨a1, _ | ⟨a2, _ | ⟨a3, _ | ⟨a4, _ | ⟨a5, _ | ⟨a6, _ | ⟨a7, _ | ⟨_, _⟩⟩⟩⟩⟩⟩⟩⟩⟩
        · cases e
        · cases e
        · cases e
        · cases e
        · cases e
        · cases e
        · cases e
        · cases e
        · exact BindsTo.of_defaults rfl (X 437 _ rfl) rfl rfl (by kernel_rfl)
        · cases e
      · rcases vs with _ | ⟨a0, _ | ⟨a1, _ | ⟨a2, _ | ⟨a3, _ | ⟨a4, _ | ⟨a5, _ | ⟨a6, _ | ⟨_, _⟩⟩⟩⟩⟩⟩⟩⟩
        · cases e
        · cases e
        · cases e
        · cases e
        · cases e
        · cases e
        · cases e
        · exact BindsTo.of_defaults rfl (X 437 _ rfl) rfl rfl (by kernel_rfl)
        · cases e
    case hlocx10 => exact hloc_of (by decide +kernel)
    case ndx10 => decide
    case hcox10 => rfl
    case hgenx10 => rfl
    case hkx10 => rfl
    case hcellx10 => exact hcell_of (by decide +kernel)
    case hscrx10 => decide +kernel
    case hbodyx10 =>
      unfold b_Checker_init
      refine sndS_cons ?_ ?_
      refine sndS_asa hCS ?_ ?_ ?_ ?_ ?_ ?_
      decide +kernel
      decide
      refine tak_of ?_
      kernel_rfl
      exact (fun _ => rfl)
      refine sndE_loc ?_
      refine sndP_loc ?_ ?_
      decide +kernel
      decide +kernel
      refine sndE_loc ?_
      refine sndP_loc ?_ ?_
      decide +kernel
      decide +kernel
      refine sndS_cons ?_ ?_
      refine sndS_asa hCS ?_ ?_ ?_ ?_ ?_ ?_
      decide +kernel
      decide
      refine tak_of ?_
      kernel_rfl
      exact (fun _ => rfl)
      refine sndE_loc ?_
      refine sndP_loc ?_ ?_
      decide +kernel
      decide +kernel
      refine sndE_loc ?_
      refine sndP_loc ?_ ?_
      decide +kernel
      decide +kernel
      refine sndS_cons ?_ ?_
      refine sndS_asa hCS ?_ ?_ ?_ ?_ ?_ ?_
      decide +kernel
      decide
      refine tak_of ?_
      kernel_rfl
      exact (fun _ => rfl)
      refine sndE_loc ?_
      refine sndP_loc ?_ ?_
      decide +kernel
      decide +kernel
      refine sndE_loc ?_
      refine sndP_loc ?_ ?_
      decide +kernel
      decide +kernel
      refine sndS_cons ?_ ?_
      refine sndS_asa hCS ?_ ?_ ?_ ?_ ?_ ?_
      decide +kernel
      decide
      refine tak_of ?_
      kernel_rfl
      exact (fun _ => rfl)
      refine sndE_loc ?_
      refine sndP_loc ?_ ?_
      decide +kernel
      decide +kernel
      refine sndE_loc ?_
      refine sndP_loc ?_ ?_
      decide +kernel
      decide +kernel
      refine sndS_cons ?_ ?_
      refine sndS_asa hCS ?_ ?_ ?_ ?_ ?_ ?_
      decide +kernel
      decide
      refine tak_of ?_
      kernel_rfl
      exact (fun _ => rfl)
      refine sndE_loc ?_
      refine sndP_loc ?_ ?_
      decide +kernel
      decide +kernel
      refine sndE_loc ?_
      refine sndP_loc ?_ ?_
      decide +kernel
      decide +kernel
      refine sndS_cons ?_ ?_
      refine sndS_asa hCS ?_ ?_ ?_ ?_ ?_ ?_
      decide +kernel
      decide
      refine tak_of ?_
      kernel_rfl
      exact (fun _ => rfl)
      refine sndE_loc ?_
      refine sndP_loc ?_ ?_
      decide +kernel
      decide +kernel
      refine sndE_loc ?_
      refine sndP_loc ?_ ?_
      decide +kernel
      decide +kernel
      refine sndS_cons ?_ ?_
      refine sndS_asa hCS ?_ ?_ ?_ ?_ ?_ ?_
      decide +kernel
      decide
      refine tak_of ?_
      kernel_rfl
      exact (fun _ => rfl)
      refine sndE_loc ?_
      refine sndP_loc ?_ ?_
      decide +kernel
      decide +kernel
      refine sndE_loc ?_
      refine sndP_loc ?_ ?_
      decide +kernel
      decide +kernel
      refine sndS_cons ?_ ?_
      refine sndS_asa hCS ?_ ?_ ?_ ?_ ?_ ?_
      decide +kernel
      decide
      refine tak_of ?_
      kernel_rfl
      exact (fun _ => rfl)
      refine sndE_lst ?_ ?_
      exact sndL_nil
      decide +kernel
      refine sndE_loc ?_
      refine sndP_loc ?_ ?_
      decide +kernel
      decide +kernel
      refine sndS_cons ?_ ?_
      refine sndS_asa hCS ?_ ?_ ?_ ?_ ?_ ?_
      decide +kernel
      decide
      refine tak_of ?_
      kernel_rfl
      exact (fun _ => rfl)
      refine sndE_pu ?_
      refine sndP_tup ?_ ?_
      exact sndPs_nil
      decide +kernel
      refine sndE_loc ?_
      refine sndP_loc ?_ ?_
      decide +kernel
      decide +kernel
      refine sndS_cons ?_ ?_
      refine sndS_asa hCS ?_ ?_ ?_ ?_ ?_ ?_
      decide +kernel
      decide
      refine tak_of ?_
      kernel_rfl
      exact (fun _ => rfl)
      refine sndE_pu ?_
      refine sndP_tup ?_ ?_
      exact sndPs_nil
      decide +kernel
      refine sndE_loc ?_
      refine sndP_loc ?_ ?_
      decide +kernel
      decide +kernel
      refine sndS_cons ?_ ?_
      refine sndS_asa hCS ?_ ?_ ?_ ?_ ?_ ?_
      decide +kernel
      decide
      refine tak_of ?_
      kernel_rfl
      exact (fun _ => rfl)
      refine sndE_pu ?_
      refine sndP_tup ?_ ?_
      exact sndPs_nil
      decide +kernel
      refine sndE_loc ?_
      refine sndP_loc ?_ ?_
      decide +kernel
      decide +kernel
      refine sndS_cons ?_ ?_
      refine sndS_asa hCS ?_ ?_ ?_ ?_ ?_ ?_
      decide +kernel
      decide
      refine tak_of ?_
      kernel_rfl
      exact (fun _ => rfl)
      refine sndE_con ?_
      exact sndP_bool
      refine sndE_loc ?_
      refine sndP_loc ?_ ?_
      decide +kernel
      decide +kernel
      refine sndS_cons ?_ ?_
      refine sndS_asa hCS ?_ ?_ ?_ ?_ ?_ ?_
      decide +kernel
      decide
      refine tak_of ?_
      kernel_rfl
      exact (fun _ => rfl)
      refine sndE_lst ?_ ?_
      exact sndL_nil
      decide +kernel
      refine sndE_loc ?_
      refine sndP_loc ?_ ?_
      decide +kernel
      decide +kernel
      refine sndS_cons ?_ ?_
      refine sndS_asa hCS ?_ ?_ ?_ ?_ ?_ ?_
      decide +kernel
      decide
      refine tak_of ?_
      kernel_rfl
      exact (fun _ => rfl)
      exact sndE_dic0
      refine sndE_loc ?_
      refine sndP_loc ?_ ?_
      decide +kernel
      decide +kernel
      refine sndS_cons ?_ ?_
      refine sndS_asa hCS ?_ ?_ ?_ ?_ ?_ ?_
      decide +kernel
      decide
      refine tak_of ?_
      kernel_rfl
      exact (fun _ => rfl)
      refine sndE_lst ?_ ?_
      exact sndL_nil
      decide +kernel
      refine sndE_loc ?_
      refine sndP_loc ?_ ?_
      decide +kernel
      decide +kernel
      exact sndS_nil
  have h_f_Reached_init : ∀ {v : Vs}, SndF (PV Mine.main.heap_1_39 v) (XRof (PV Mine.main.heap_1_39 v) 164) 0 f_Reached_init (.ref 192) := by
    intro v
    unfold f_Reached_init
    refine' sndF_def (XL := xleave) ?hox11 ?hcdx11 ?hbx11 ?hlocx11 ?ndx11 ?hcox11 ?hgenx11 ?hkx11 ?hcellx11 ?hscrx11 ?hbodyx11
    case hox11 => rfl
    case hcdx11 => kernel_rfl
    case hbx11 => exact bindOk3 (fun _ _ _ => by kernel_rfl)
    case hlocx11 => exact hloc_of (by decide +kernel)
    case ndx11 => decide
    case hcox11 => rfl
    case hgenx11 => rfl
    case hkx11 => rfl
    case hcellx11 => exact hcell_of (by decide +kernel)
    case hscrx11 => decide +kernel
    case hbodyx11 =>
      unfold b_Reached_init
      refine sndS_cons ?_ ?_
      refine sndS_asa hCS ?_ ?_ ?_ ?_ ?_ ?_
      decide +kernel
      decide
      refine tak_of ?_
      kernel_rfl
      exact (fun _ => rfl)
      refine sndE_loc ?_
      refine sndP_loc ?_ ?_
      decide +kernel
      decide +kernel
      refine sndE_loc ?_
      refine sndP_loc ?_ ?_
      decide +kernel
      decide +kernel
      refine sndS_cons ?_ ?_
      refine sndS_asa hCS ?_ ?_ ?_ ?_ ?_ ?_
      decide +kernel
      decide
      refine tak_of ?_
      kernel_rfl
      exact (fun _ => rfl)
      refine sndE_loc ?_
      refine sndP_loc ?_ ?_
      decide +kernel
      decide +kernel
      refine sndE_loc ?_
      refine sndP_loc ?_ ?_
      decide +kernel
      decide +kernel
      exact sndS_nil
  have h_f_without_pointer : ∀ {v : Vs}, SndF (PV Mine.main.heap_1_39 v) (XRof (PV Mine.main.heap_1_39 v) 164) 0 f_without_pointer (.ref 206) := by
    intro v
    unfold f_without_pointer
    refine' sndF_def (XL := xleave) ?hox12 ?hcdx12 ?hbx12 ?hlocx12 ?ndx12 ?hcox12 ?hgenx12 ?hkx12 ?hcellx12 ?hscrx12 ?hbodyx12
    case hox12 => rfl
    case hcdx12 => kernel_rfl
    case hbx12 => exact bindOk1 (fun _ => by kernel_rfl)
    case hlocx12 => exact hloc_of (by decide +kernel)
    case ndx12 => decide
    case hcox12 => rfl
    case hgenx12 => rfl
    case hkx12 => rfl
    case hcellx12 => exact hcell_of (by decide +kernel)
    case hscrx12 => decide +kernel
    case hbodyx12 =>
      unfold b_without_pointer
      refine sndS_cons ?_ ?_
      refine sndS_ret ?_
      refine sndE_pu ?_
      refine sndP_ife ?_ ?_ ?_
      refine sndPT_cmp cmp_eq ?_ ?_ ?_
      exact rfl
      refine sndP_sub ?_ ?_ ?_
      exact rfl
      refine sndP_loc ?_ ?_
      decide +kernel
      decide +kernel
      exact sndP_int
      refine sndP_str ?_ ?_
      decide +kernel
      decide
      refine sndP_sub ?_ ?_ ?_
      exact rfl
      refine sndP_loc ?_ ?_
      decide +kernel
      decide +kernel
      exact sndP_int
      refine sndP_loc ?_ ?_
      decide +kernel
      decide +kernel
      exact sndS_nil
  have h_f_own_methods : ∀ {v : Vs}, SndF (PV Mine.main.heap_1_39 v) (XRof (PV Mine.main.heap_1_39 v) 164) 0 f_own_methods (.ref 213) := by
    intro v
    unfold f_own_methods
    refine' sndF_def (XL := xleave) ?hox13 ?hcdx13 ?hbx13 ?hlocx13 ?ndx13 ?hcox13 ?hgenx13 ?hkx13 ?hcellx13 ?hscrx13 ?hbodyx13
    case hox13 => rfl
    case hcdx13 => kernel_rfl
    case hbx13 => exact bindOk2 (fun _ _ => by kernel_rfl)
    case hlocx13 => exact hloc_of (by decide +kernel)
    case ndx13 => decide
    case hcox13 => rfl
    case hgenx13 => rfl
    case hkx13 => rfl
    case hcellx13 => exact hcell_of (by decide +kernel)
    case hscrx13 => decide +kernel
    case hbodyx13 =>
      unfold b_own_methods
      refine sndS_cons ?_ ?_
      refine sndS_ret ?_
      refine sndE_ife ?_ ?_ ?_
      refine sndT_pu ?_
      refine sndPT_cmp cmp_eq ?_ ?_ ?_
      exact rfl
      refine sndP_sub ?_ ?_ ?_
      exact rfl
      refine sndP_loc ?_ ?_
      decide +kernel
      decide +kernel
      exact sndP_int
      refine sndP_str ?_ ?_
      decide +kernel
      decide
      refine sndE_pu ?_
      refine sndP_att hCO ?_ ?_ ?_ ?_
      decide +kernel
      decide
      exact (fun _ => rfl)
      refine sndP_sub ?_ ?_ ?_
      exact rfl
      refine sndP_att hCO ?_ ?_ ?_ ?_
      decide +kernel
      decide
      exact (fun _ => rfl)
      refine sndP_loc ?_ ?_
      decide +kernel
      decide +kernel
      refine sndP_sub ?_ ?_ ?_
      exact rfl
      refine sndP_loc ?_ ?_
      decide +kernel
      decide +kernel
      exact sndP_int
      exact sndE_dic0
      exact sndS_nil
  have h_f_members_at : ∀ {v : Vs}, SndF (PV Mine.main.heap_1_39 v) (XRof (PV Mine.main.heap_1_39 v) 164) 1 f_members_at (.ref 218) := by
    intro v
    unfold f_members_at
    refine' sndF_defC (XL := xleave) ?hox14 ?hcdx14 ?hbx14 ?hlocx14 ?ndx14 ?hcox14 ?hgenx14 ?hkx14 ?hndx14 ?hscrx14 ?hbodyx14
    case hox14 => rfl
    case hcdx14 => kernel_rfl
    case hbx14 => exact bindOk3 (fun _ _ _ => by kernel_rfl)
    case hlocx14 => exact hlocC_of (by decide +kernel)
    case ndx14 => decide
    case hcox14 => rfl
    case hgenx14 => rfl
    case hkx14 => rfl
    case hndx14 => decide +kernel
    case hscrx14 => decide +kernel
    case hbodyx14 =>
      unfold b_members_at
      refine sndS_cons ?_ ?_
      refine sndS_ast ?_ ?_ ?_ ?_ ?_ ?_
      exact (.cons (by decide +kernel) (.cons (by decide +kernel) .nil))
      decide
      refine stors_at ?_
      decide +kernel
      exact (fun _ => rfl)
      first | exact .inl (fun F h => by obtain ⟨_, _, _, _, _, _, cs1, _, _, _, _, _, _, _⟩ := F; have h1 : cs1 = _ := h; subst h1; rfl) | exact .inr (fun F h => by obtain ⟨_, _, _, _, _, _, cs1, _, _, _, _, _, _, _⟩ := F; have h1 : cs1 = _ := h; subst h1; rfl)
      refine sndE_pu ?_
      refine sndP_tup ?_ ?_
      refine sndPs_cons ?_ ?_ ?_
      exact rfl
      refine sndP_att hCO ?_ ?_ ?_ ?_
      decide +kernel
      decide
      exact (fun _ => rfl)
      refine sndP_loc ?_ ?_
      decide +kernel
      decide +kernel
      refine sndPs_cons ?_ ?_ ?_
      exact rfl
      refine sndP_att hCO ?_ ?_ ?_ ?_
      decide +kernel
      decide
      exact (fun _ => rfl)
      refine sndP_loc ?_ ?_
      decide +kernel
      decide +kernel
      exact sndPs_nil
      decide +kernel
      refine sndS_cons ?_ ?_
      refine sndS_asn ?_ ?_ ?_ ?_
      decide +kernel
      exact (fun _ => rfl)
      refine stor_at ?_
      decide +kernel
      refine sndE_call h_f_own_methods ?_ ?_ ?_ ?_ ?_ ?_ ?_
      decide
      kernel_rfl
      kernel_rfl
      decide +kernel
      decide +kernel
      refine sndL_cons ?_ ?_ ?_
      exact rfl
      refine sndE_loc ?_
      refine sndP_loc ?_ ?_
      decide +kernel
      decide +kernel
      refine sndL_cons ?_ ?_ ?_
      exact rfl
      refine sndE_loc ?_
      refine sndP_loc ?_ ?_
      decide +kernel
      decide +kernel
      exact sndL_nil
      exact rfl
      refine sndS_cons ?_ ?_
      refine sndS_iff ?_ ?_ ?_
      refine sndT_pu ?_
      refine sndPT_cmp cmp_in ?_ ?_ ?_
      exact rfl
      refine sndP_loc ?_ ?_
      decide +kernel
      decide +kernel
      refine sndP_loc ?_ ?_
      decide +kernel
      decide +kernel
      refine sndS_cons ?_ ?_
      refine sndS_ast ?_ ?_ ?_ ?_ ?_ ?_
      exact (.cons (by decide +kernel) (.cons (by decide +kernel) (.cons (by decide +kernel) .nil)))
      decide
      refine stors_at ?_
      decide +kernel
      exact (fun _ => rfl)
      first | exact .inl (fun F h => by obtain ⟨_, _, _, _, _, _, cs1, _, _, _, _, _, _, _⟩ := F; have h1 : cs1 = _ := h; subst h1; rfl) | exact .inr (fun F h => by obtain ⟨_, _, _, _, _, _, cs1, _, _, _, _, _, _, _⟩ := F; have h1 : cs1 = _ := h; subst h1; rfl)
      refine sndE_pu ?_
      refine sndP_sub ?_ ?_ ?_
      exact rfl
      refine sndP_loc ?_ ?_
      decide +kernel
      decide +kernel
      refine sndP_loc ?_ ?_
      decide +kernel
      decide +kernel
      refine sndS_cons ?_ ?_
      refine sndS_ret ?_
      refine sndE_lst ?_ ?_
      refine sndL_cons ?_ ?_ ?_
      exact rfl
      refine sndE_pu ?_
      refine sndP_tup ?_ ?_
      refine sndPs_cons ?_ ?_ ?_
      exact rfl
      refine sndP_str ?_ ?_
      decide +kernel
      decide
      refine sndPs_cons ?_ ?_ ?_
      exact rfl
      refine sndP_loc ?_ ?_
      decide +kernel
      decide +kernel
      refine sndPs_cons ?_ ?_ ?_
      exact rfl
      refine sndP_loc ?_ ?_
      decide +kernel
      decide +kernel
      refine sndPs_cons ?_ ?_ ?_
      exact rfl
      refine sndP_loc ?_ ?_
      decide +kernel
      decide +kernel
      refine sndPs_cons ?_ ?_ ?_
      exact rfl
      refine sndP_loc ?_ ?_
      decide +kernel
      decide +kernel
      exact sndPs_nil
      decide +kernel
      exact sndL_nil
      decide +kernel
      exact sndS_nil
      exact sndS_nil
      refine sndS_cons ?_ ?_
      refine sndS_asn ?_ ?_ ?_ ?_
      decide +kernel
      exact (fun _ => rfl)
      refine stor_at ?_
      decide +kernel
      refine sndE_mthI h_f_World_base_of ?_ ?_ ?_ ?_ ?_ ?_ ?_ ?_ ?_ ?_ ?_ ?_
      decide
      kernel_rfl
      kernel_rfl
      kernel_rfl
      kernel_rfl
      refine not_in_tab ?_
      decide +kernel
      exact (fun _ => rfl)
      exact rfl
      exact rfl
      decide
      refine sndE_loc ?_
      refine sndP_loc ?_ ?_
      decide +kernel
      decide +kernel
      refine sndL_cons ?_ ?_ ?_
      exact rfl
      refine sndE_loc ?_
      refine sndP_loc ?_ ?_
      decide +kernel
      decide +kernel
      exact sndL_nil
      refine sndS_cons ?_ ?_
      refine sndS_iff ?_ ?_ ?_
      refine sndT_pu ?_
      refine sndPT_cmp cmp_eq ?_ ?_ ?_
      exact rfl
      refine sndP_sub ?_ ?_ ?_
      exact rfl
      refine sndP_loc ?_ ?_
      decide +kernel
      decide +kernel
      exact sndP_int
      refine sndP_str ?_ ?_
      decide +kernel
      decide
      refine sndS_cons ?_ ?_
      refine sndS_for_enum ?_ ?_ ?_ ?_ ?_ ?_ ?_ ?_ ?_ ?_ ?_ ?_
      decide +kernel
      decide +kernel
      decide
      refine stor_at ?_
      decide +kernel
      refine stor_at ?_
      decide +kernel
      exact (fun _ _ => rfl)
      kernel_rfl
      decide +kernel
      decide +kernel
      exact rfl
      refine sndE_pu ?_
      refine sndP_sub ?_ ?_ ?_
      exact rfl
      refine sndP_loc ?_ ?_
      decide +kernel
      decide +kernel
      exact sndP_int
      refine sndS_cons ?_ ?_
      refine sndS_iff ?_ ?_ ?_
      refine sndT_pu ?_
      refine sndPT_cmp cmp_eq ?_ ?_ ?_
      exact rfl
      refine sndP_sub ?_ ?_ ?_
      exact rfl
      refine sndP_loc ?_ ?_
      decide +kernel
      decide +kernel
      exact sndP_int
      refine sndP_loc ?_ ?_
      decide +kernel
      decide +kernel
      refine sndS_cons ?_ ?_
      refine sndS_ret ?_
      refine sndE_lst ?_ ?_
      refine sndL_cons ?_ ?_ ?_
      exact rfl
      refine sndE_pu ?_
      refine sndP_tup ?_ ?_
      refine sndPs_cons ?_ ?_ ?_
      exact rfl
      refine sndP_str ?_ ?_
      decide +kernel
      decide
      refine sndPs_cons ?_ ?_ ?_
      exact rfl
      refine sndP_add ?_ ?_
      refine sndP_loc ?_ ?_
      decide +kernel
      decide +kernel
      refine sndP_tup ?_ ?_
      refine sndPs_cons ?_ ?_ ?_
      exact rfl
      refine sndP_tup ?_ ?_
      refine sndPs_cons ?_ ?_ ?_
      exact rfl
      refine sndP_loc ?_ ?_
      decide +kernel
      decide +kernel
      refine sndPs_cons ?_ ?_ ?_
      exact rfl
      exact sndP_bool
      exact sndPs_nil
      decide +kernel
      exact sndPs_nil
      decide +kernel
      refine sndPs_cons ?_ ?_ ?_
      exact rfl
      refine sndP_sub ?_ ?_ ?_
      exact rfl
      refine sndP_loc ?_ ?_
      decide +kernel
      decide +kernel
      exact sndP_int
      exact sndPs_nil
      decide +kernel
      exact sndL_nil
      decide +kernel
      exact sndS_nil
      exact sndS_nil
      exact sndS_nil
      exact sndS_nil
      exact sndS_nil
      refine sndS_cons ?_ ?_
      refine sndS_iff ?_ ?_ ?_
      refine sndT_pu ?_
      refine sndPT_cmp cmp_eq ?_ ?_ ?_
      exact rfl
      refine sndP_sub ?_ ?_ ?_
      exact rfl
      refine sndP_loc ?_ ?_
      decide +kernel
      decide +kernel
      exact sndP_int
      refine sndP_str ?_ ?_
      decide +kernel
      decide
      refine sndS_cons ?_ ?_
      refine sndS_ret ?_
      refine sndE_lcp ?_ ?_ ?_ ?_ ?_
      exact ⟨rfl, (by decide +kernel), (by decide +kernel), (by decide +kernel), (by decide +kernel)⟩
      refine testsOk_one ?_
      refine sndPT_cmp cmp_eq ?_ ?_ ?_
      exact rfl
      refine sndP_loc ?_ ?_
      decide +kernel
      decide +kernel
      refine sndP_loc ?_ ?_
      decide +kernel
      decide +kernel
      refine eltOk_pu ?_
      refine sndP_tup ?_ ?_
      refine sndPs_cons ?_ ?_ ?_
      exact rfl
      refine sndP_str ?_ ?_
      decide +kernel
      decide
      refine sndPs_cons ?_ ?_ ?_
      exact rfl
      refine sndP_loc ?_ ?_
      decide +kernel
      decide +kernel
      refine sndPs_cons ?_ ?_ ?_
      exact rfl
      refine sndP_loc ?_ ?_
      decide +kernel
      decide +kernel
      refine sndPs_cons ?_ ?_ ?_
      exact rfl
      refine sndP_loc ?_ ?_
      decide +kernel
      decide +kernel
      exact sndPs_nil
      decide +kernel
      refine firstC_tup ?_ ?_
      refine sndE_pu ?_
      refine sndP_sub ?_ ?_ ?_
      exact rfl
      refine sndP_loc ?_ ?_
      decide +kernel
      decide +kernel
      exact sndP_int
      exact (fun _ h C _ _ _ _ _ hn => tgtC_two (by rcases hn with e | e <;> (rw [e]; decide)) C rfl (by decide +kernel) (by decide +kernel) (by decide) (by decide) (by rw [h]; decide +kernel) (by rw [h]; decide +kernel))
      exact (fun _ _ => rfl)
      exact sndS_nil
      exact sndS_nil
      refine sndS_cons ?_ ?_
      refine sndS_ret ?_
      refine sndE_lst ?_ ?_
      exact sndL_nil
      decide +kernel
      exact sndS_nil
  have h_f_embedded_in : ∀ {v : Vs}, SndF (PV Mine.main.heap_1_39 v) (XRof (PV Mine.main.heap_1_39 v) 164) 1 f_embedded_in (.ref 225) := by
    intro v
    unfold f_embedded_in
    refine' sndF_def (XL := xleave) ?hox15 ?hcdx15 ?hbx15 ?hlocx15 ?ndx15 ?hcox15 ?hgenx15 ?hkx15 ?hcellx15 ?hscrx15 ?hbodyx15
    case hox15 => rfl
    case hcdx15 => kernel_rfl
    case hbx15 => exact bindOk2 (fun _ _ => by kernel_rfl)
    case hlocx15 => exact hloc_of (by decide +kernel)
    case ndx15 => decide
    case hcox15 => rfl
    case hgenx15 => rfl
    case hkx15 => rfl
    case hcellx15 => exact hcell_of (by decide +kernel)
    case hscrx15 => decide +kernel
    case hbodyx15 =>
      unfold b_embedded_in
      refine sndS_cons ?_ ?_
      refine sndS_ast ?_ ?_ ?_ ?_ ?_ ?_
      exact (.cons (by decide +kernel) (.cons (by decide +kernel) .nil))
      decide
      refine stors_at ?_
      decide +kernel
      exact (fun _ => rfl)
      first | exact .inl (fun F h => by obtain ⟨_, _, _, _, _, _, cs1, _, _, _, _, _, _, _⟩ := F; have h1 : cs1 = _ := h; subst h1; rfl) | exact .inr (fun F h => by obtain ⟨_, _, _, _, _, _, cs1, _, _, _, _, _, _, _⟩ := F; have h1 : cs1 = _ := h; subst h1; rfl)
      refine sndE_tup ?_ ?_
      refine sndL_cons ?_ ?_ ?_
      exact rfl
      refine sndE_mthI h_f_World_base_of ?_ ?_ ?_ ?_ ?_ ?_ ?_ ?_ ?_ ?_ ?_ ?_
      decide
      kernel_rfl
      kernel_rfl
      kernel_rfl
      kernel_rfl
      refine not_in_tab ?_
      decide +kernel
      exact (fun _ => rfl)
      exact rfl
      exact rfl
      decide
      refine sndE_loc ?_
      refine sndP_loc ?_ ?_
      decide +kernel
      decide +kernel
      refine sndL_cons ?_ ?_ ?_
      exact rfl
      refine sndE_pu ?_
      refine sndP_att hCO ?_ ?_ ?_ ?_
      decide +kernel
      decide
      exact (fun _ => rfl)
      refine sndP_loc ?_ ?_
      decide +kernel
      decide +kernel
      exact sndL_nil
      refine sndL_cons ?_ ?_ ?_
      exact rfl
      refine sndE_lst ?_ ?_
      exact sndL_nil
      decide +kernel
      exact sndL_nil
      decide +kernel
      refine sndS_cons ?_ ?_
      refine sndS_iff ?_ ?_ ?_
      refine sndT_pu ?_
      refine sndPT_cmp cmp_eq ?_ ?_ ?_
      exact rfl
      refine sndP_sub ?_ ?_ ?_
      exact rfl
      refine sndP_loc ?_ ?_
      decide +kernel
      decide +kernel
      exact sndP_int
      refine sndP_str ?_ ?_
      decide +kernel
      decide
      refine sndS_cons ?_ ?_
      refine sndS_for_enum ?_ ?_ ?_ ?_ ?_ ?_ ?_ ?_ ?_ ?_ ?_ ?_
      decide +kernel
      decide +kernel
      decide
      refine stor_at ?_
      decide +kernel
      refine stor_at ?_
      decide +kernel
      exact (fun _ _ => rfl)
      kernel_rfl
      decide +kernel
      decide +kernel
      exact rfl
      refine sndE_pu ?_
      refine sndP_sub ?_ ?_ ?_
      exact rfl
      refine sndP_loc ?_ ?_
      decide +kernel
      decide +kernel
      exact sndP_int
      refine sndS_cons ?_ ?_
      refine sndS_iff ?_ ?_ ?_
      refine sndT_pu ?_
      refine sndPT_val ?_ ?_
      exact (fun _ _ => rfl)
      refine sndP_sub ?_ ?_ ?_
      exact rfl
      refine sndP_loc ?_ ?_
      decide +kernel
      decide +kernel
      exact sndP_int
      refine sndS_cons ?_ ?_
      refine sndS_asn ?_ ?_ ?_ ?_
      decide +kernel
      exact (fun _ => rfl)
      refine stor_at ?_
      decide +kernel
      refine sndE_pu ?_
      refine sndP_cmp cmp_eq ?_ ?_ ?_
      exact rfl
      refine sndP_sub ?_ ?_ ?_
      exact rfl
      refine sndP_sub ?_ ?_ ?_
      exact rfl
      refine sndP_loc ?_ ?_
      decide +kernel
      decide +kernel
      exact sndP_int
      exact sndP_int
      refine sndP_str ?_ ?_
      decide +kernel
      decide
      refine sndS_cons ?_ ?_
      refine sndS_exp ?_ ?_ ?_
      exact (fun _ => rfl)
      refine inter_of ?_
      exact rfl
      refine sndE_mthL mth_append PySem.F.slot_list_append ?_ ?_ ?_ ?_ ?_ ?_ ?_
      kernel_rfl
      exact (fun _ => rfl)
      exact rfl
      exact rfl
      decide
      refine sndE_loc ?_
      refine sndP_loc ?_ ?_
      decide +kernel
      decide +kernel
      refine sndL_cons ?_ ?_ ?_
      exact rfl
      refine sndE_new h_f_Reached_init ?_ ?_ ?_ ?_ ?_ ?_ ?_ ?_ ?_ ?_ ?_
      decide
      decide
      kernel_rfl
      kernel_rfl
      kernel_rfl
      kernel_rfl
      kernel_rfl
      decide +kernel
      decide +kernel
      refine sndL_cons ?_ ?_ ?_
      exact rfl
      refine sndE_call h_f_without_pointer ?_ ?_ ?_ ?_ ?_ ?_ ?_
      decide
      kernel_rfl
      kernel_rfl
      decide +kernel
      decide +kernel
      refine sndL_cons ?_ ?_ ?_
      exact rfl
      refine sndE_pu ?_
      refine sndP_sub ?_ ?_ ?_
      exact rfl
      refine sndP_loc ?_ ?_
      decide +kernel
      decide +kernel
      exact sndP_int
      exact sndL_nil
      exact rfl
      refine sndL_cons ?_ ?_ ?_
      exact rfl
      refine sndE_pu ?_
      refine sndP_add ?_ ?_
      refine sndP_att hCO ?_ ?_ ?_ ?_
      decide +kernel
      decide
      exact (fun _ => rfl)
      refine sndP_loc ?_ ?_
      decide +kernel
      decide +kernel
      refine sndP_tup ?_ ?_
      refine sndPs_cons ?_ ?_ ?_
      exact rfl
      refine sndP_tup ?_ ?_
      refine sndPs_cons ?_ ?_ ?_
      exact rfl
      refine sndP_loc ?_ ?_
      decide +kernel
      decide +kernel
      refine sndPs_cons ?_ ?_ ?_
      exact rfl
      refine sndP_loc ?_ ?_
      decide +kernel
      decide +kernel
      exact sndPs_nil
      decide +kernel
      exact sndPs_nil
      decide +kernel
      exact sndL_nil
      exact rfl
      exact sndL_nil
      exact sndS_nil
      exact sndS_nil
      exact sndS_nil
      exact sndS_nil
      exact sndS_nil
      refine sndS_cons ?_ ?_
      refine sndS_ret ?_
      refine sndE_loc ?_
      refine sndP_loc ?_ ?_
      decide +kernel
      decide +kernel
      exact sndS_nil
  have h_f_Levels_init : ∀ {v : Vs}, SndF (PV Mine.main.heap_1_39 v) (XRof (PV Mine.main.heap_1_39 v) 164) 1 f_Levels_init (.ref 239) := by
    intro v
    unfold f_Levels_init
    refine' sndF_def (XL := xleave) ?hox16 ?hcdx16 ?hbx16 ?hlocx16 ?ndx16 ?hcox16 ?hgenx16 ?hkx16 ?hcellx16 ?hscrx16 ?hbodyx16
    case hox16 => rfl
    case hcdx16 => kernel_rfl
    case hbx16 => exact bindOk3 (fun _ _ _ => by kernel_rfl)
    case hlocx16 => exact hloc_of (by decide +kernel)
    case ndx16 => decide
    case hcox16 => rfl
    case hgenx16 => rfl
    case hkx16 => rfl
    case hcellx16 => exact hcell_of (by decide +kernel)
    case hscrx16 => decide +kernel
    case hbodyx16 =>
      unfold b_Levels_init
      refine sndS_cons ?_ ?_
      refine sndS_asa hCS ?_ ?_ ?_ ?_ ?_ ?_
      decide +kernel
      decide
      refine tak_of ?_
      kernel_rfl
      exact (fun _ => rfl)
      refine sndE_loc ?_
      refine sndP_loc ?_ ?_
      decide +kernel
      decide +kernel
      refine sndE_loc ?_
      refine sndP_loc ?_ ?_
      decide +kernel
      decide +kernel
      refine sndS_cons ?_ ?_
      refine sndS_asa hCS ?_ ?_ ?_ ?_ ?_ ?_
      decide +kernel
      decide
      refine tak_of ?_
      kernel_rfl
      exact (fun _ => rfl)
      refine sndE_lst ?_ ?_
      refine sndL_cons ?_ ?_ ?_
      exact rfl
      refine sndE_new h_f_Reached_init ?_ ?_ ?_ ?_ ?_ ?_ ?_ ?_ ?_ ?_ ?_
      decide
      decide
      kernel_rfl
      kernel_rfl
      kernel_rfl
      kernel_rfl
      kernel_rfl
      decide +kernel
      decide +kernel
      refine sndL_cons ?_ ?_ ?_
      exact rfl
      refine sndE_loc ?_
      refine sndP_loc ?_ ?_
      decide +kernel
      decide +kernel
      refine sndL_cons ?_ ?_ ?_
      exact rfl
      refine sndE_pu ?_
      refine sndP_tup ?_ ?_
      exact sndPs_nil
      decide +kernel
      exact sndL_nil
      exact rfl
      exact sndL_nil
      decide +kernel
      refine sndE_loc ?_
      refine sndP_loc ?_ ?_
      decide +kernel
      decide +kernel
      refine sndS_cons ?_ ?_
      refine sndS_asa hCS ?_ ?_ ?_ ?_ ?_ ?_
      decide +kernel
      decide
      refine tak_of ?_
      kernel_rfl
      exact (fun _ => rfl)
      exact sndE_dic0
      refine sndE_loc ?_
      refine sndP_loc ?_ ?_
      decide +kernel
      decide +kernel
      exact sndS_nil
  have h_f_Levels_go_on : ∀ {v : Vs}, SndF (PV Mine.main.heap_1_39 v) (XRof (PV Mine.main.heap_1_39 v) 164) 2 f_Levels_go_on (.ref 246) := by
    intro v
    unfold f_Levels_go_on
    refine' sndF_def (XL := xleave) ?hox17 ?hcdx17 ?hbx17 ?hlocx17 ?ndx17 ?hcox17 ?hgenx17 ?hkx17 ?hcellx17 ?hscrx17 ?hbodyx17
    case hox17 => rfl
    case hcdx17 => kernel_rfl
    case hbx17 => exact bindOk1 (fun _ => by kernel_rfl)
    case hlocx17 => exact hloc_of (by decide +kernel)
    case ndx17 => decide
    case hcox17 => rfl
    case hgenx17 => rfl
    case hkx17 => rfl
    case hcellx17 => exact hcell_of (by decide +kernel)
    case hscrx17 => decide +kernel
    case hbodyx17 =>
      unfold b_Levels_go_on
      refine sndS_cons ?_ ?_
      refine sndS_for ?_ ?_ ?_ ?_
      refine tg_seq1 ?_ ?_
      decide +kernel
      decide +kernel
      exact (fun _ _ => rfl)
      refine sndE_pu ?_
      refine sndP_att hCO ?_ ?_ ?_ ?_
      decide +kernel
      decide
      exact (fun _ => rfl)
      refine sndP_loc ?_ ?_
      decide +kernel
      decide +kernel
      refine sndS_cons ?_ ?_
      refine sndS_iff ?_ ?_ ?_
      refine sndT_pu ?_
      refine sndPT_cmp cmp_eq ?_ ?_ ?_
      exact rfl
      refine sndP_sub ?_ ?_ ?_
      exact rfl
      refine sndP_att hCO ?_ ?_ ?_ ?_
      decide +kernel
      decide
      exact (fun _ => rfl)
      refine sndP_loc ?_ ?_
      decide +kernel
      decide +kernel
      exact sndP_int
      refine sndP_str ?_ ?_
      decide +kernel
      decide
      refine sndS_cons ?_ ?_
      refine sndS_ass ?_ ?_ ?_ ?_
      exact (fun _ => rfl)
      refine sndE_con ?_
      exact sndP_bool
      refine sndE_pu ?_
      refine sndP_att hCO ?_ ?_ ?_ ?_
      decide +kernel
      decide
      exact (fun _ => rfl)
      refine sndP_loc ?_ ?_
      decide +kernel
      decide +kernel
      refine sndE_pu ?_
      refine sndP_sub ?_ ?_ ?_
      exact rfl
      refine sndP_att hCO ?_ ?_ ?_ ?_
      decide +kernel
      decide
      exact (fun _ => rfl)
      refine sndP_loc ?_ ?_
      decide +kernel
      decide +kernel
      exact sndP_int
      exact sndS_nil
      exact sndS_nil
      exact sndS_nil
      refine sndS_cons ?_ ?_
      refine sndS_asn ?_ ?_ ?_ ?_
      decide +kernel
      exact (fun _ => rfl)
      refine stor_at ?_
      decide +kernel
      refine sndE_lst ?_ ?_
      exact sndL_nil
      decide +kernel
      refine sndS_cons ?_ ?_
      refine sndS_for ?_ ?_ ?_ ?_
      refine tg_seq1 ?_ ?_
      decide +kernel
      decide +kernel
      exact (fun _ _ => rfl)
      refine sndE_pu ?_
      refine sndP_att hCO ?_ ?_ ?_ ?_
      decide +kernel
      decide
      exact (fun _ => rfl)
      refine sndP_loc ?_ ?_
      decide +kernel
      decide +kernel
      refine sndS_cons ?_ ?_
      refine sndS_for ?_ ?_ ?_ ?_
      refine tg_seq1 ?_ ?_
      decide +kernel
      decide +kernel
      exact (fun _ _ => rfl)
      refine sndE_call h_f_embedded_in ?_ ?_ ?_ ?_ ?_ ?_ ?_
      decide
      kernel_rfl
      kernel_rfl
      decide +kernel
      decide +kernel
      refine sndL_cons ?_ ?_ ?_
      exact rfl
      refine sndE_pu ?_
      refine sndP_att hCO ?_ ?_ ?_ ?_
      decide +kernel
      decide
      exact (fun _ => rfl)
      refine sndP_loc ?_ ?_
      decide +kernel
      decide +kernel
      refine sndL_cons ?_ ?_ ?_
      exact rfl
      refine sndE_loc ?_
      refine sndP_loc ?_ ?_
      decide +kernel
      decide +kernel
      exact sndL_nil
      exact rfl
      refine sndS_cons ?_ ?_
      refine sndS_iff ?_ ?_ ?_
      refine sndT_pu ?_
      refine sndPT_or ?_ ?_
      refine sndPT_cmp cmp_ne ?_ ?_ ?_
      exact rfl
      refine sndP_sub ?_ ?_ ?_
      exact rfl
      refine sndP_att hCO ?_ ?_ ?_ ?_
      decide +kernel
      decide
      exact (fun _ => rfl)
      refine sndP_loc ?_ ?_
      decide +kernel
      decide +kernel
      exact sndP_int
      refine sndP_str ?_ ?_
      decide +kernel
      decide
      refine sndPT_or1 ?_
      refine sndPT_cmp cmp_notin ?_ ?_ ?_
      exact rfl
      refine sndP_sub ?_ ?_ ?_
      exact rfl
      refine sndP_att hCO ?_ ?_ ?_ ?_
      decide +kernel
      decide
      exact (fun _ => rfl)
      refine sndP_loc ?_ ?_
      decide +kernel
      decide +kernel
      exact sndP_int
      refine sndP_att hCO ?_ ?_ ?_ ?_
      decide +kernel
      decide
      exact (fun _ => rfl)
      refine sndP_loc ?_ ?_
      decide +kernel
      decide +kernel
      refine sndS_cons ?_ ?_
      refine sndS_exp ?_ ?_ ?_
      exact (fun _ => rfl)
      refine inter_of ?_
      exact rfl
      refine sndE_mthL mth_append PySem.F.slot_list_append ?_ ?_ ?_ ?_ ?_ ?_ ?_
      kernel_rfl
      exact (fun _ => rfl)
      exact rfl
      exact rfl
      decide
      refine sndE_loc ?_
      refine sndP_loc ?_ ?_
      decide +kernel
      decide +kernel
      refine sndL_cons ?_ ?_ ?_
      exact rfl
      refine sndE_loc ?_
      refine sndP_loc ?_ ?_
      decide +kernel
      decide +kernel
      exact sndL_nil
      exact sndS_nil
      exact sndS_nil
      exact sndS_nil
      exact sndS_nil
      refine sndS_cons ?_ ?_
      refine sndS_asa hCS ?_ ?_ ?_ ?_ ?_ ?_
      decide +kernel
      decide
      refine tak_of ?_
      kernel_rfl
      exact (fun _ => rfl)
      refine sndE_loc ?_
      refine sndP_loc ?_ ?_
      decide +kernel
      decide +kernel
      refine sndE_loc ?_
      refine sndP_loc ?_ ?_
      decide +kernel
      decide +kernel
      exact sndS_nil
  have h_f_start_type : ∀ {v : Vs}, SndF (PV Mine.main.heap_1_39 v) (XRof (PV Mine.main.heap_1_39 v) 164) 1 f_start_type (.ref 260) := by
    intro v
    unfold f_start_type
    refine' sndF_def (XL := xleave) ?hox18 ?hcdx18 ?hbx18 ?hlocx18 ?ndx18 ?hcox18 ?hgenx18 ?hkx18 ?hcellx18 ?hscrx18 ?hbodyx18
    case hox18 => rfl
    case hcdx18 => kernel_rfl
    case hbx18 => exact bindOk2 (fun _ _ => by kernel_rfl)
    case hlocx18 => exact hloc_of (by decide +kernel)
    case ndx18 => decide
    case hcox18 => rfl
    case hgenx18 => rfl
    case hkx18 => rfl
    case hcellx18 => exact hcell_of (by decide +kernel)
    case hscrx18 => decide +kernel
    case hbodyx18 =>
      unfold b_start_type
      refine sndS_cons ?_ ?_
      refine sndS_iff ?_ ?_ ?_
      refine sndT_pu ?_
      refine sndPT_cmp cmp_eq ?_ ?_ ?_
      exact rfl
      refine sndP_sub ?_ ?_ ?_
      exact rfl
      refine sndP_loc ?_ ?_
      decide +kernel
      decide +kernel
      exact sndP_int
      refine sndP_str ?_ ?_
      decide +kernel
      decide
      refine sndS_cons ?_ ?_
      refine sndS_asn ?_ ?_ ?_ ?_
      decide +kernel
      exact (fun _ => rfl)
      refine stor_at ?_
      decide +kernel
      refine sndE_pu ?_
      refine sndP_sub ?_ ?_ ?_
      exact rfl
      refine sndP_loc ?_ ?_
      decide +kernel
      decide +kernel
      exact sndP_int
      refine sndS_cons ?_ ?_
      refine sndS_ret ?_
      refine sndE_ife ?_ ?_ ?_
      refine sndT_cmp cmp_in cmpQ_in ?_ ?_ ?_
      exact rfl
      refine sndE_sub ?_ ?_ ?_
      exact rfl
      refine sndE_mthI h_f_World_base_of ?_ ?_ ?_ ?_ ?_ ?_ ?_ ?_ ?_ ?_ ?_ ?_
      decide
      kernel_rfl
      kernel_rfl
      kernel_rfl
      kernel_rfl
      refine not_in_tab ?_
      decide +kernel
      exact (fun _ => rfl)
      exact rfl
      exact rfl
      decide
      refine sndE_loc ?_
      refine sndP_loc ?_ ?_
      decide +kernel
      decide +kernel
      refine sndL_cons ?_ ?_ ?_
      exact rfl
      refine sndE_loc ?_
      refine sndP_loc ?_ ?_
      decide +kernel
      decide +kernel
      exact sndL_nil
      refine sndE_con ?_
      exact sndP_int
      refine sndE_pu ?_
      refine sndP_tup ?_ ?_
      refine sndPs_cons ?_ ?_ ?_
      exact rfl
      refine sndP_str ?_ ?_
      decide +kernel
      decide
      refine sndPs_cons ?_ ?_ ?_
      exact rfl
      refine sndP_str ?_ ?_
      decide +kernel
      decide
      exact sndPs_nil
      decide +kernel
      refine sndE_con ?_
      exact sndP_none
      refine sndE_pu ?_
      refine sndP_tup ?_ ?_
      refine sndPs_cons ?_ ?_ ?_
      exact rfl
      refine sndP_loc ?_ ?_
      decide +kernel
      decide +kernel
      refine sndPs_cons ?_ ?_ ?_
      exact rfl
      exact sndP_bool
      exact sndPs_nil
      decide +kernel
      exact sndS_nil
      exact sndS_nil
      refine sndS_cons ?_ ?_
      refine sndS_asn ?_ ?_ ?_ ?_
      decide +kernel
      exact (fun _ => rfl)
      refine stor_at ?_
      decide +kernel
      refine sndE_ife ?_ ?_ ?_
      refine sndT_pu ?_
      refine sndPT_cmp cmp_eq ?_ ?_ ?_
      exact rfl
      refine sndP_sub ?_ ?_ ?_
      exact rfl
      refine sndP_loc ?_ ?_
      decide +kernel
      decide +kernel
      exact sndP_int
      refine sndP_str ?_ ?_
      decide +kernel
      decide
      refine sndE_mthI h_f_World_base_of ?_ ?_ ?_ ?_ ?_ ?_ ?_ ?_ ?_ ?_ ?_ ?_
      decide
      kernel_rfl
      kernel_rfl
      kernel_rfl
      kernel_rfl
      refine not_in_tab ?_
      decide +kernel
      exact (fun _ => rfl)
      exact rfl
      exact rfl
      decide
      refine sndE_loc ?_
      refine sndP_loc ?_ ?_
      decide +kernel
      decide +kernel
      refine sndL_cons ?_ ?_ ?_
      exact rfl
      refine sndE_loc ?_
      refine sndP_loc ?_ ?_
      decide +kernel
      decide +kernel
      exact sndL_nil
      refine sndE_loc ?_
      refine sndP_loc ?_ ?_
      decide +kernel
      decide +kernel
      refine sndS_cons ?_ ?_
      refine sndS_iff ?_ ?_ ?_
      refine sndT_pu ?_
      refine sndPT_and ?_ ?_
      refine sndPT_cmp cmp_eq ?_ ?_ ?_
      exact rfl
      refine sndP_sub ?_ ?_ ?_
      exact rfl
      refine sndP_loc ?_ ?_
      decide +kernel
      decide +kernel
      exact sndP_int
      refine sndP_str ?_ ?_
      decide +kernel
      decide
      refine sndPT_and1 ?_
      refine sndPT_cmp cmp_eq ?_ ?_ ?_
      exact rfl
      refine sndP_sub ?_ ?_ ?_
      exact rfl
      refine sndP_loc ?_ ?_
      decide +kernel
      decide +kernel
      exact sndP_int
      refine sndP_str ?_ ?_
      decide +kernel
      decide
      refine sndS_cons ?_ ?_
      refine sndS_ret ?_
      refine sndE_pu ?_
      refine sndP_tup ?_ ?_
      refine sndPs_cons ?_ ?_ ?_
      exact rfl
      refine sndP_sub ?_ ?_ ?_
      exact rfl
      refine sndP_loc ?_ ?_
      decide +kernel
      decide +kernel
      exact sndP_int
      refine sndPs_cons ?_ ?_ ?_
      exact rfl
      exact sndP_bool
      exact sndPs_nil
      decide +kernel
      exact sndS_nil
      exact sndS_nil
      refine sndS_cons ?_ ?_
      refine sndS_ret ?_
      refine sndE_pu ?_
      refine sndP_tup ?_ ?_
      refine sndPs_cons ?_ ?_ ?_
      exact rfl
      refine sndP_loc ?_ ?_
      decide +kernel
      decide +kernel
      refine sndPs_cons ?_ ?_ ?_
      exact rfl
      exact sndP_bool
      exact sndPs_nil
      decide +kernel
      exact sndS_nil
  have h_f_find_member : ∀ {v : Vs}, SndF (PV Mine.main.heap_1_39 v) (XRof (PV Mine.main.heap_1_39 v) 164) 3 f_find_member (.ref 267) := by
    intro v
    unfold f_find_member
    refine' sndF_def (XL := xleave) ?hox19 ?hcdx19 ?hbx19 ?hlocx19 ?ndx19 ?hcox19 ?hgenx19 ?hkx19 ?hcellx19 ?hscrx19 ?hbodyx19
    case hox19 => rfl
    case hcdx19 => kernel_rfl
    case hbx19 => exact bindOk3 (fun _ _ _ => by kernel_rfl)
    case hlocx19 => exact hloc_of (by decide +kernel)
    case ndx19 => decide
    case hcox19 => rfl
    case hgenx19 => rfl
    case hkx19 => rfl
    case hcellx19 => exact hcell_of (by decide +kernel)
    case hscrx19 => decide +kernel
    case hbodyx19 =>
      unfold b_find_member
      refine sndS_cons ?_ ?_
      refine sndS_asn ?_ ?_ ?_ ?_
      decide +kernel
      exact (fun _ => rfl)
      refine stor_at ?_
      decide +kernel
      refine sndE_call h_f_start_type ?_ ?_ ?_ ?_ ?_ ?_ ?_
      decide
      kernel_rfl
      kernel_rfl
      decide +kernel
      decide +kernel
      refine sndL_cons ?_ ?_ ?_
      exact rfl
      refine sndE_loc ?_
      refine sndP_loc ?_ ?_
      decide +kernel
      decide +kernel
      refine sndL_cons ?_ ?_ ?_
      exact rfl
      refine sndE_loc ?_
      refine sndP_loc ?_ ?_
      decide +kernel
      decide +kernel
      exact sndL_nil
      exact rfl
      refine sndS_cons ?_ ?_
      refine sndS_iff ?_ ?_ ?_
      refine sndT_pu ?_
      refine sndPT_cmp cmp_is ?_ ?_ ?_
      exact rfl
      refine sndP_loc ?_ ?_
      decide +kernel
      decide +kernel
      exact sndP_none
      refine sndS_cons ?_ ?_
      refine sndS_ret ?_
      refine sndE_con ?_
      exact sndP_none
      exact sndS_nil
      exact sndS_nil
      refine sndS_cons ?_ ?_
      refine sndS_asn ?_ ?_ ?_ ?_
      decide +kernel
      exact (fun _ => rfl)
      refine stor_at ?_
      decide +kernel
      refine sndE_new h_f_Levels_init ?_ ?_ ?_ ?_ ?_ ?_ ?_ ?_ ?_ ?_ ?_
      decide
      decide
      kernel_rfl
      kernel_rfl
      kernel_rfl
      kernel_rfl
      kernel_rfl
      decide +kernel
      decide +kernel
      refine sndL_cons ?_ ?_ ?_
      exact rfl
      refine sndE_loc ?_
      refine sndP_loc ?_ ?_
      decide +kernel
      decide +kernel
      refine sndL_cons ?_ ?_ ?_
      exact rfl
      refine sndE_pu ?_
      refine sndP_sub ?_ ?_ ?_
      exact rfl
      refine sndP_loc ?_ ?_
      decide +kernel
      decide +kernel
      exact sndP_int
      exact sndL_nil
      exact rfl
      refine sndS_cons ?_ ?_
      refine sndS_whl ?_ ?_
      refine sndT_cmp cmp_ne cmpQ_ne ?_ ?_ ?_
      exact rfl
      refine sndE_pu ?_
      refine sndP_att hCO ?_ ?_ ?_ ?_
      decide +kernel
      decide
      exact (fun _ => rfl)
      refine sndP_loc ?_ ?_
      decide +kernel
      decide +kernel
      refine sndE_lst ?_ ?_
      exact sndL_nil
      decide +kernel
      refine sndS_cons ?_ ?_
      refine sndS_asn ?_ ?_ ?_ ?_
      decide +kernel
      exact (fun _ => rfl)
      refine stor_at ?_
      decide +kernel
      refine sndE_lst ?_ ?_
      exact sndL_nil
      decide +kernel
      refine sndS_cons ?_ ?_
      refine sndS_for ?_ ?_ ?_ ?_
      refine tg_seq1 ?_ ?_
      decide +kernel
      decide +kernel
      exact (fun _ _ => rfl)
      refine sndE_pu ?_
      refine sndP_att hCO ?_ ?_ ?_ ?_
      decide +kernel
      decide
      exact (fun _ => rfl)
      refine sndP_loc ?_ ?_
      decide +kernel
      decide +kernel
      refine sndS_cons ?_ ?_
      refine sndS_exp ?_ ?_ ?_
      exact (fun _ => rfl)
      refine inter_of ?_
      exact rfl
      refine sndE_mthL mth_extend PySem.F.slot_list_extend ?_ ?_ ?_ ?_ ?_ ?_ ?_
      kernel_rfl
      exact (fun _ => rfl)
      exact rfl
      exact rfl
      decide
      refine sndE_loc ?_
      refine sndP_loc ?_ ?_
      decide +kernel
      decide +kernel
      refine sndL_cons ?_ ?_ ?_
      exact rfl
      refine sndE_call h_f_members_at ?_ ?_ ?_ ?_ ?_ ?_ ?_
      decide
      kernel_rfl
      kernel_rfl
      decide +kernel
      decide +kernel
      refine sndL_cons ?_ ?_ ?_
      exact rfl
      refine sndE_loc ?_
      refine sndP_loc ?_ ?_
      decide +kernel
      decide +kernel
      refine sndL_cons ?_ ?_ ?_
      exact rfl
      refine sndE_loc ?_
      refine sndP_loc ?_ ?_
      decide +kernel
      decide +kernel
      refine sndL_cons ?_ ?_ ?_
      exact rfl
      refine sndE_loc ?_
      refine sndP_loc ?_ ?_
      decide +kernel
      decide +kernel
      exact sndL_nil
      exact rfl
      exact sndL_nil
      exact sndS_nil
      refine sndS_cons ?_ ?_
      refine sndS_iff ?_ ?_ ?_
      refine sndT_cmp cmp_gt cmpQ_gt ?_ ?_ ?_
      exact rfl
      refine sndE_blt blt_len ?_ ?_ ?_ ?_ ?_ ?_ ?_ ?_
      exact (.inl ⟨_, rfl⟩)
      kernel_rfl
      decide +kernel
      decide
      decide +kernel
      decide +kernel
      exact rfl
      refine sndE_loc ?_
      refine sndP_loc ?_ ?_
      decide +kernel
      decide +kernel
      refine sndE_con ?_
      exact sndP_int
      refine sndS_cons ?_ ?_
      exact sndS_bad
      exact sndS_nil
      exact sndS_nil
      refine sndS_cons ?_ ?_
      refine sndS_iff ?_ ?_ ?_
      refine sndT_cmp cmp_ne cmpQ_ne ?_ ?_ ?_
      exact rfl
      refine sndE_loc ?_
      refine sndP_loc ?_ ?_
      decide +kernel
      decide +kernel
      refine sndE_lst ?_ ?_
      exact sndL_nil
      decide +kernel
      refine sndS_cons ?_ ?_
      refine sndS_ret ?_
      refine sndE_pu ?_
      refine sndP_ife ?_ ?_ ?_
      refine sndPT_and ?_ ?_
      refine sndPT_val ?_ ?_
      exact (fun _ _ => rfl)
      refine sndP_sub ?_ ?_ ?_
      exact rfl
      refine sndP_loc ?_ ?_
      decide +kernel
      decide +kernel
      exact sndP_int
      refine sndPT_and1 ?_
      refine sndPT_cmp cmp_ne ?_ ?_ ?_
      exact rfl
      refine sndP_sub ?_ ?_ ?_
      exact rfl
      refine sndP_sub ?_ ?_ ?_
      exact rfl
      refine sndP_loc ?_ ?_
      decide +kernel
      decide +kernel
      exact sndP_int
      exact sndP_int
      refine sndP_str ?_ ?_
      decide +kernel
      decide
      exact sndP_none
      refine sndP_sub ?_ ?_ ?_
      exact rfl
      refine sndP_loc ?_ ?_
      decide +kernel
      decide +kernel
      exact sndP_int
      exact sndS_nil
      exact sndS_nil
      refine sndS_cons ?_ ?_
      refine sndS_exp ?_ ?_ ?_
      exact (fun _ => rfl)
      refine inter_of ?_
      exact rfl
      refine sndE_mthI0 h_f_Levels_go_on ?_ ?_ ?_ ?_ ?_ ?_ ?_ ?_ ?_
      decide
      kernel_rfl
      kernel_rfl
      kernel_rfl
      kernel_rfl
      refine not_in_tab ?_
      decide +kernel
      exact (fun _ => rfl)
      exact rfl
      refine sndE_loc ?_
      refine sndP_loc ?_ ?_
      decide +kernel
      decide +kernel
      exact sndS_nil
      refine sndS_cons ?_ ?_
      refine sndS_ret ?_
      refine sndE_con ?_
      exact sndP_none
      exact sndS_nil
  have h_f_is_exported : ∀ {v : Vs}, SndF (PV Mine.main.heap_1_39 v) (XRof (PV Mine.main.heap_1_39 v) 164) 0 f_is_exported (.ref 274) := by
    intro v
    unfold f_is_exported
    refine' sndF_def (XL := xleave) ?hox20 ?hcdx20 ?hbx20 ?hlocx20 ?ndx20 ?hcox20 ?hgenx20 ?hkx20 ?hcellx20 ?hscrx20 ?hbodyx20
    case hox20 => rfl
    case hcdx20 => kernel_rfl
    case hbx20 => exact bindOk1 (fun _ => by kernel_rfl)
    case hlocx20 => exact hloc_of (by decide +kernel)
    case ndx20 => decide
    case hcox20 => rfl
    case hgenx20 => rfl
    case hkx20 => rfl
    case hcellx20 => exact hcell_of (by decide +kernel)
    case hscrx20 => decide +kernel
    case hbodyx20 =>
      unfold b_is_exported
      refine sndS_cons ?_ ?_
      refine sndS_ret ?_
      refine sndE_pu ?_
      refine sndP_upp ?_ ?_ ?_
      exact (fun _ => rfl)
      exact rfl
      refine sndP_fst ?_ ?_
      exact (fun _ _ => rfl)
      refine sndP_loc ?_ ?_
      decide +kernel
      decide +kernel
      exact sndS_nil
  have h_f_is_hidden : ∀ {v : Vs}, SndF (PV Mine.main.heap_1_39 v) (XRof (PV Mine.main.heap_1_39 v) 164) 1 f_is_hidden (.ref 281) := by
    intro v
    unfold f_is_hidden
    refine' sndF_def (XL := xleave) ?hox21 ?hcdx21 ?hbx21 ?hlocx21 ?ndx21 ?hcox21 ?hgenx21 ?hkx21 ?hcellx21 ?hscrx21 ?hbodyx21
    case hox21 => rfl
    case hcdx21 => kernel_rfl
    case hbx21 => exact bindOk3 (fun _ _ _ => by kernel_rfl)
    case hlocx21 => exact hloc_of (by decide +kernel)
    case ndx21 => decide
    case hcox21 => rfl
    case hgenx21 => rfl
    case hkx21 => rfl
    case hcellx21 => exact hcell_of (by decide +kernel)
    case hscrx21 => decide +kernel
    case hbodyx21 =>
      unfold b_is_hidden
      refine sndS_cons ?_ ?_
      refine sndS_asn ?_ ?_ ?_ ?_
      decide +kernel
      exact (fun _ => rfl)
      refine stor_at ?_
      decide +kernel
      refine sndE_pu ?_
      refine sndP_ife ?_ ?_ ?_
      refine sndPT_cmp cmp_eq ?_ ?_ ?_
      exact rfl
      refine sndP_sub ?_ ?_ ?_
      exact rfl
      refine sndP_loc ?_ ?_
      decide +kernel
      decide +kernel
      exact sndP_int
      refine sndP_str ?_ ?_
      decide +kernel
      decide
      refine sndP_sub ?_ ?_ ?_
      exact rfl
      refine sndP_loc ?_ ?_
      decide +kernel
      decide +kernel
      exact sndP_int
      refine sndP_loc ?_ ?_
      decide +kernel
      decide +kernel
      refine sndS_cons ?_ ?_
      refine sndS_iff ?_ ?_ ?_
      refine sndT_or ?_ ?_
      refine sndT_val ?_ ?_
      exact (fun _ _ => rfl)
      refine sndE_call h_f_is_exported ?_ ?_ ?_ ?_ ?_ ?_ ?_
      decide
      kernel_rfl
      kernel_rfl
      decide +kernel
      decide +kernel
      refine sndL_cons ?_ ?_ ?_
      exact rfl
      refine sndE_loc ?_
      refine sndP_loc ?_ ?_
      decide +kernel
      decide +kernel
      exact sndL_nil
      exact rfl
      refine sndT_or1 ?_
      refine sndT_pu ?_
      refine sndPT_cmp cmp_ne ?_ ?_ ?_
      exact rfl
      refine sndP_sub ?_ ?_ ?_
      exact rfl
      refine sndP_loc ?_ ?_
      decide +kernel
      decide +kernel
      exact sndP_int
      refine sndP_str ?_ ?_
      decide +kernel
      decide
      refine sndS_cons ?_ ?_
      refine sndS_ret ?_
      refine sndE_con ?_
      exact sndP_bool
      exact sndS_nil
      exact sndS_nil
      refine sndS_cons ?_ ?_
      refine sndS_ret ?_
      refine sndE_pu ?_
      refine sndP_cmp cmp_notin ?_ ?_ ?_
      exact rfl
      refine sndP_att hCO ?_ ?_ ?_ ?_
      decide +kernel
      decide
      exact (fun _ => rfl)
      refine sndP_sub ?_ ?_ ?_
      exact rfl
      refine sndP_att hCO ?_ ?_ ?_ ?_
      decide +kernel
      decide
      exact (fun _ => rfl)
      refine sndP_att hCO ?_ ?_ ?_ ?_
      decide +kernel
      decide
      exact (fun _ => rfl)
      refine sndP_loc ?_ ?_
      decide +kernel
      decide +kernel
      refine sndP_sub ?_ ?_ ?_
      exact rfl
      refine sndP_loc ?_ ?_
      decide +kernel
      decide +kernel
      exact sndP_int
      refine sndP_tup ?_ ?_
      refine sndPs_cons ?_ ?_ ?_
      exact rfl
      refine sndP_str ?_ ?_
      decide +kernel
      decide
      refine sndPs_cons ?_ ?_ ?_
      exact rfl
      refine sndP_att hCO ?_ ?_ ?_ ?_
      decide +kernel
      decide
      exact (fun _ => rfl)
      refine sndP_loc ?_ ?_
      decide +kernel
      decide +kernel
      exact sndPs_nil
      decide +kernel
      exact sndS_nil
  have h_f_owner_of : ∀ {v : Vs}, SndF (PV Mine.main.heap_1_39 v) (XRof (PV Mine.main.heap_1_39 v) 164) 2 f_owner_of (.ref 288) := by
    intro v
    unfold f_owner_of
    refine' sndF_def (XL := xleave) ?hox22 ?hcdx22 ?hbx22 ?hlocx22 ?ndx22 ?hcox22 ?hgenx22 ?hkx22 ?hcellx22 ?hscrx22 ?hbodyx22
    case hox22 => rfl
    case hcdx22 => kernel_rfl
    case hbx22 => exact bindOk3 (fun _ _ _ => by kernel_rfl)
    case hlocx22 => exact hloc_of (by decide +kernel)
    case ndx22 => decide
    case hcox22 => rfl
    case hgenx22 => rfl
    case hkx22 => rfl
    case hcellx22 => exact hcell_of (by decide +kernel)
    case hscrx22 => decide +kernel
    case hbodyx22 =>
      unfold b_owner_of
      refine sndS_cons ?_ ?_
      refine sndS_asn ?_ ?_ ?_ ?_
      decide +kernel
      exact (fun _ => rfl)
      refine stor_at ?_
      decide +kernel
      refine sndE_pu ?_
      refine sndP_ife ?_ ?_ ?_
      refine sndPT_cmp cmp_eq ?_ ?_ ?_
      exact rfl
      refine sndP_sub ?_ ?_ ?_
      exact rfl
      refine sndP_loc ?_ ?_
      decide +kernel
      decide +kernel
      exact sndP_int
      refine sndP_str ?_ ?_
      decide +kernel
      decide
      refine sndP_sub ?_ ?_ ?_
      exact rfl
      refine sndP_loc ?_ ?_
      decide +kernel
      decide +kernel
      exact sndP_int
      refine sndP_loc ?_ ?_
      decide +kernel
      decide +kernel
      refine sndS_cons ?_ ?_
      refine sndS_iff ?_ ?_ ?_
      refine sndT_cmp cmp_eq cmpQ_eq ?_ ?_ ?_
      exact rfl
      refine sndE_sub ?_ ?_ ?_
      exact rfl
      refine sndE_call h_f_underlying_of ?_ ?_ ?_ ?_ ?_ ?_ ?_
      decide
      kernel_rfl
      kernel_rfl
      decide +kernel
      decide +kernel
      refine sndL_cons ?_ ?_ ?_
      exact rfl
      refine sndE_loc ?_
      refine sndP_loc ?_ ?_
      decide +kernel
      decide +kernel
      refine sndL_cons ?_ ?_ ?_
      exact rfl
      refine sndE_loc ?_
      refine sndP_loc ?_ ?_
      decide +kernel
      decide +kernel
      exact sndL_nil
      exact rfl
      refine sndE_con ?_
      exact sndP_int
      refine sndE_con ?_
      refine sndP_str ?_ ?_
      decide +kernel
      decide
      refine sndS_cons ?_ ?_
      refine sndS_asn ?_ ?_ ?_ ?_
      decide +kernel
      exact (fun _ => rfl)
      refine stor_at ?_
      decide +kernel
      refine sndE_sub ?_ ?_ ?_
      exact rfl
      refine sndE_call h_f_underlying_of ?_ ?_ ?_ ?_ ?_ ?_ ?_
      decide
      kernel_rfl
      kernel_rfl
      decide +kernel
      decide +kernel
      refine sndL_cons ?_ ?_ ?_
      exact rfl
      refine sndE_loc ?_
      refine sndP_loc ?_ ?_
      decide +kernel
      decide +kernel
      refine sndL_cons ?_ ?_ ?_
      exact rfl
      refine sndE_loc ?_
      refine sndP_loc ?_ ?_
      decide +kernel
      decide +kernel
      exact sndL_nil
      exact rfl
      refine sndE_con ?_
      exact sndP_int
      exact sndS_nil
      exact sndS_nil
      refine sndS_cons ?_ ?_
      refine sndS_for ?_ ?_ ?_ ?_
      refine tg_seq2 ?_ ?_ ?_ ?_ ?_
      decide +kernel
      decide +kernel
      decide
      decide +kernel
      decide +kernel
      exact (fun _ _ => rfl)
      refine sndE_pu ?_
      refine sndP_ife ?_ ?_ ?_
      refine sndPT_cmp cmp_eq ?_ ?_ ?_
      exact rfl
      refine sndP_sub ?_ ?_ ?_
      exact rfl
      refine sndP_loc ?_ ?_
      decide +kernel
      decide +kernel
      exact sndP_int
      refine sndP_str ?_ ?_
      decide +kernel
      decide
      refine sndP_upto ?_
      refine sndP_sub ?_ ?_ ?_
      exact rfl
      refine sndP_loc ?_ ?_
      decide +kernel
      decide +kernel
      exact sndP_int
      refine sndP_sub ?_ ?_ ?_
      exact rfl
      refine sndP_loc ?_ ?_
      decide +kernel
      decide +kernel
      exact sndP_int
      refine sndS_cons ?_ ?_
      refine sndS_asn ?_ ?_ ?_ ?_
      decide +kernel
      exact (fun _ => rfl)
      refine stor_at ?_
      decide +kernel
      refine sndE_sub ?_ ?_ ?_
      exact rfl
      refine sndE_sub ?_ ?_ ?_
      exact rfl
      refine sndE_call h_f_underlying_of ?_ ?_ ?_ ?_ ?_ ?_ ?_
      decide
      kernel_rfl
      kernel_rfl
      decide +kernel
      decide +kernel
      refine sndL_cons ?_ ?_ ?_
      exact rfl
      refine sndE_loc ?_
      refine sndP_loc ?_ ?_
      decide +kernel
      decide +kernel
      refine sndL_cons ?_ ?_ ?_
      exact rfl
      refine sndE_loc ?_
      refine sndP_loc ?_ ?_
      decide +kernel
      decide +kernel
      exact sndL_nil
      exact rfl
      refine sndE_con ?_
      exact sndP_int
      refine sndE_loc ?_
      refine sndP_loc ?_ ?_
      decide +kernel
      decide +kernel
      refine sndS_cons ?_ ?_
      refine sndS_asn ?_ ?_ ?_ ?_
      decide +kernel
      exact (fun _ => rfl)
      refine stor_at ?_
      decide +kernel
      refine sndE_pu ?_
      refine sndP_ife ?_ ?_ ?_
      refine sndPT_val ?_ ?_
      exact (fun _ _ => rfl)
      refine sndP_loc ?_ ?_
      decide +kernel
      decide +kernel
      refine sndP_sub ?_ ?_ ?_
      exact rfl
      refine sndP_sub ?_ ?_ ?_
      exact rfl
      refine sndP_loc ?_ ?_
      decide +kernel
      decide +kernel
      exact sndP_int
      exact sndP_int
      refine sndP_sub ?_ ?_ ?_
      exact rfl
      refine sndP_loc ?_ ?_
      decide +kernel
      decide +kernel
      exact sndP_int
      exact sndS_nil
      refine sndS_cons ?_ ?_
      refine sndS_ret ?_
      refine sndE_loc ?_
      refine sndP_loc ?_ ?_
      decide +kernel
      decide +kernel
      exact sndS_nil
  have h_f_type_text_1 : ∀ {v : Vs}, SndF (PV Mine.main.heap_1_39 v) (XRof (PV Mine.main.heap_1_39 v) 164) 1 f_type_text_1 (.ref 64) := by
    intro v
    unfold f_type_text_1
    refine' sndF_def (XL := xleave) ?hox23 ?hcdx23 ?hbx23 ?hlocx23 ?ndx23 ?hcox23 ?hgenx23 ?hkx23 ?hcellx23 ?hscrx23 ?hbodyx23
    case hox23 => rfl
    case hcdx23 => kernel_rfl
    case hbx23 => exact bindOk1 (fun _ => by kernel_rfl)
    case hlocx23 => exact hloc_of (by decide +kernel)
    case ndx23 => decide
    case hcox23 => rfl
    case hgenx23 => rfl
    case hkx23 => rfl
    case hcellx23 => exact hcell_of (by decide +kernel)
    case hscrx23 => decide +kernel
    case hbodyx23 =>
      unfold b_type_text
      refine sndS_cons ?_ ?_
      refine sndS_asn ?_ ?_ ?_ ?_
      decide +kernel
      exact (fun _ => rfl)
      refine stor_at ?_
      decide +kernel
      refine sndE_pu ?_
      refine sndP_sub ?_ ?_ ?_
      exact rfl
      refine sndP_loc ?_ ?_
      decide +kernel
      decide +kernel
      exact sndP_int
      refine sndS_cons ?_ ?_
      refine sndS_iff ?_ ?_ ?_
      refine sndT_pu ?_
      refine sndPT_or ?_ ?_
      refine sndPT_cmp cmp_eq ?_ ?_ ?_
      exact rfl
      refine sndP_loc ?_ ?_
      decide +kernel
      decide +kernel
      refine sndP_str ?_ ?_
      decide +kernel
      decide
      refine sndPT_or1 ?_
      refine sndPT_cmp cmp_eq ?_ ?_ ?_
      exact rfl
      refine sndP_loc ?_ ?_
      decide +kernel
      decide +kernel
      refine sndP_str ?_ ?_
      decide +kernel
      decide
      refine sndS_cons ?_ ?_
      refine sndS_ret ?_
      refine sndE_pu ?_
      refine sndP_sub ?_ ?_ ?_
      exact rfl
      refine sndP_loc ?_ ?_
      decide +kernel
      decide +kernel
      exact sndP_int
      exact sndS_nil
      exact sndS_nil
      refine sndS_cons ?_ ?_
      refine sndS_iff ?_ ?_ ?_
      refine sndT_pu ?_
      refine sndPT_cmp cmp_eq ?_ ?_ ?_
      exact rfl
      refine sndP_loc ?_ ?_
      decide +kernel
      decide +kernel
      refine sndP_str ?_ ?_
      decide +kernel
      decide
      refine sndS_cons ?_ ?_
      refine sndS_ret ?_
      refine sndE_pu ?_
      refine sndP_add ?_ ?_
      refine sndP_str ?_ ?_
      decide +kernel
      decide
      refine sndP_sub ?_ ?_ ?_
      exact rfl
      refine sndP_loc ?_ ?_
      decide +kernel
      decide +kernel
      exact sndP_int
      exact sndS_nil
      exact sndS_nil
      refine sndS_cons ?_ ?_
      refine sndS_iff ?_ ?_ ?_
      refine sndT_pu ?_
      refine sndPT_cmp cmp_eq ?_ ?_ ?_
      exact rfl
      refine sndP_loc ?_ ?_
      decide +kernel
      decide +kernel
      refine sndP_str ?_ ?_
      decide +kernel
      decide
      refine sndS_cons ?_ ?_
      refine sndS_ret ?_
      refine sndE_add ?_ ?_
      refine sndE_con ?_
      refine sndP_str ?_ ?_
      decide +kernel
      decide
      refine sndE_call (sndF_bad (H := 0) (v := .ref 64)) ?_ ?_ ?_ ?_ ?_ ?_ ?_
      decide
      kernel_rfl
      kernel_rfl
      decide +kernel
      decide +kernel
      refine sndL_cons ?_ ?_ ?_
      exact rfl
      refine sndE_pu ?_
      refine sndP_sub ?_ ?_ ?_
      exact rfl
      refine sndP_loc ?_ ?_
      decide +kernel
      decide +kernel
      exact sndP_int
      exact sndL_nil
      exact rfl
      exact sndS_nil
      exact sndS_nil
      refine sndS_cons ?_ ?_
      refine sndS_iff ?_ ?_ ?_
      refine sndT_pu ?_
      refine sndPT_cmp cmp_eq ?_ ?_ ?_
      exact rfl
      refine sndP_loc ?_ ?_
      decide +kernel
      decide +kernel
      refine sndP_str ?_ ?_
      decide +kernel
      decide
      refine sndS_cons ?_ ?_
      refine sndS_ret ?_
      refine sndE_add ?_ ?_
      refine sndE_add ?_ ?_
      refine sndE_add ?_ ?_
      refine sndE_con ?_
      refine sndP_str ?_ ?_
      decide +kernel
      decide
      exact sndE_bad
      refine sndE_con ?_
      refine sndP_str ?_ ?_
      decide +kernel
      decide
      refine sndE_call (sndF_bad (H := 0) (v := .ref 64)) ?_ ?_ ?_ ?_ ?_ ?_ ?_
      decide
      kernel_rfl
      kernel_rfl
      decide +kernel
      decide +kernel
      refine sndL_cons ?_ ?_ ?_
      exact rfl
      refine sndE_pu ?_
      refine sndP_sub ?_ ?_ ?_
      exact rfl
      refine sndP_loc ?_ ?_
      decide +kernel
      decide +kernel
      exact sndP_int
      exact sndL_nil
      exact rfl
      exact sndS_nil
      exact sndS_nil
      refine sndS_cons ?_ ?_
      refine sndS_iff ?_ ?_ ?_
      refine sndT_pu ?_
      refine sndPT_cmp cmp_eq ?_ ?_ ?_
      exact rfl
      refine sndP_loc ?_ ?_
      decide +kernel
      decide +kernel
      refine sndP_str ?_ ?_
      decide +kernel
      decide
      refine sndS_cons ?_ ?_
      refine sndS_ret ?_
      refine sndE_add ?_ ?_
      refine sndE_con ?_
      refine sndP_str ?_ ?_
      decide +kernel
      decide
      refine sndE_call (sndF_bad (H := 0) (v := .ref 64)) ?_ ?_ ?_ ?_ ?_ ?_ ?_
      decide
      kernel_rfl
      kernel_rfl
      decide +kernel
      decide +kernel
      refine sndL_cons ?_ ?_ ?_
      exact rfl
      refine sndE_pu ?_
      refine sndP_sub ?_ ?_ ?_
      exact rfl
      refine sndP_loc ?_ ?_
      decide +kernel
      decide +kernel
      exact sndP_int
      exact sndL_nil
      exact rfl
      exact sndS_nil
      exact sndS_nil
      refine sndS_cons ?_ ?_
      refine sndS_iff ?_ ?_ ?_
      refine sndT_pu ?_
      refine sndPT_cmp cmp_eq ?_ ?_ ?_
      exact rfl
      refine sndP_loc ?_ ?_
      decide +kernel
      decide +kernel
      refine sndP_str ?_ ?_
      decide +kernel
      decide
      refine sndS_cons ?_ ?_
      refine sndS_ret ?_
      refine sndE_add ?_ ?_
      refine sndE_add ?_ ?_
      refine sndE_add ?_ ?_
      refine sndE_con ?_
      refine sndP_str ?_ ?_
      decide +kernel
      decide
      refine sndE_call (sndF_bad (H := 0) (v := .ref 64)) ?_ ?_ ?_ ?_ ?_ ?_ ?_
      decide
      kernel_rfl
      kernel_rfl
      decide +kernel
      decide +kernel
      refine sndL_cons ?_ ?_ ?_
      exact rfl
      refine sndE_pu ?_
      refine sndP_sub ?_ ?_ ?_
      exact rfl
      refine sndP_loc ?_ ?_
      decide +kernel
      decide +kernel
      exact sndP_int
      exact sndL_nil
      exact rfl
      refine sndE_con ?_
      refine sndP_str ?_ ?_
      decide +kernel
      decide
      refine sndE_call (sndF_bad (H := 0) (v := .ref 64)) ?_ ?_ ?_ ?_ ?_ ?_ ?_
      decide
      kernel_rfl
      kernel_rfl
      decide +kernel
      decide +kernel
      refine sndL_cons ?_ ?_ ?_
      exact rfl
      refine sndE_pu ?_
      refine sndP_sub ?_ ?_ ?_
      exact rfl
      refine sndP_loc ?_ ?_
      decide +kernel
      decide +kernel
      exact sndP_int
      exact sndL_nil
      exact rfl
      exact sndS_nil
      exact sndS_nil
      refine sndS_cons ?_ ?_
      refine sndS_iff ?_ ?_ ?_
      refine sndT_pu ?_
      refine sndPT_cmp cmp_eq ?_ ?_ ?_
      exact rfl
      refine sndP_loc ?_ ?_
      decide +kernel
      decide +kernel
      refine sndP_str ?_ ?_
      decide +kernel
      decide
      refine sndS_cons ?_ ?_
      refine sndS_ret ?_
      exact sndE_bad
      exact sndS_nil
      exact sndS_nil
      refine sndS_cons ?_ ?_
      refine sndS_iff ?_ ?_ ?_
      refine sndT_pu ?_
      refine sndPT_cmp cmp_eq ?_ ?_ ?_
      exact rfl
      refine sndP_loc ?_ ?_
      decide +kernel
      decide +kernel
      refine sndP_str ?_ ?_
      decide +kernel
      decide
      refine sndS_cons ?_ ?_
      refine sndS_ret ?_
      refine sndE_add ?_ ?_
      refine sndE_con ?_
      refine sndP_str ?_ ?_
      decide +kernel
      decide
      exact sndE_bad
      exact sndS_nil
      exact sndS_nil
      refine sndS_cons ?_ ?_
      refine sndS_iff ?_ ?_ ?_
      refine sndT_pu ?_
      refine sndPT_cmp cmp_eq ?_ ?_ ?_
      exact rfl
      refine sndP_loc ?_ ?_
      decide +kernel
      decide +kernel
      refine sndP_str ?_ ?_
      decide +kernel
      decide
      refine sndS_cons ?_ ?_
      refine sndS_ret ?_
      exact sndE_bad
      exact sndS_nil
      exact sndS_nil
      refine sndS_cons ?_ ?_
      refine sndS_iff ?_ ?_ ?_
      refine sndT_pu ?_
      refine sndPT_cmp cmp_eq ?_ ?_ ?_
      exact rfl
      refine sndP_loc ?_ ?_
      decide +kernel
      decide +kernel
      refine sndP_str ?_ ?_
      decide +kernel
      decide
      refine sndS_cons ?_ ?_
      refine sndS_ret ?_
      exact sndE_bad
      exact sndS_nil
      exact sndS_nil
      refine sndS_cons ?_ ?_
      refine sndS_ret ?_
      refine sndE_ife ?_ ?_ ?_
      refine sndT_pu ?_
      refine sndPT_cmp cmp_eq ?_ ?_ ?_
      exact rfl
      refine sndP_loc ?_ ?_
      decide +kernel
      decide +kernel
      refine sndP_str ?_ ?_
      decide +kernel
      decide
      refine sndE_add ?_ ?_
      refine sndE_add ?_ ?_
      refine sndE_con ?_
      refine sndP_str ?_ ?_
      decide +kernel
      decide
      exact sndE_bad
      refine sndE_con ?_
      refine sndP_str ?_ ?_
      decide +kernel
      decide
      refine sndE_loc ?_
      refine sndP_loc ?_ ?_
      decide +kernel
      decide +kernel
      exact sndS_nil
  have h_f_type_text_2 : ∀ {v : Vs}, SndF (PV Mine.main.heap_1_39 v) (XRof (PV Mine.main.heap_1_39 v) 164) 2 f_type_text_2 (.ref 64) := by
    intro v
    unfold f_type_text_2
    refine' sndF_def (XL := xleave) ?hox24 ?hcdx24 ?hbx24 ?hlocx24 ?ndx24 ?hcox24 ?hgenx24 ?hkx24 ?hcellx24 ?hscrx24 ?hbodyx24
    case hox24 => rfl
    case hcdx24 => kernel_rfl
    case hbx24 => exact bindOk1 (fun _ => by kernel_rfl)
    case hlocx24 => exact hloc_of (by decide +kernel)
    case ndx24 => decide
    case hcox24 => rfl
    case hgenx24 => rfl
    case hkx24 => rfl
    case hcellx24 => exact hcell_of (by decide +kernel)
    case hscrx24 => decide +kernel
    case hbodyx24 =>
      unfold b_type_text
      refine sndS_cons ?_ ?_
      refine sndS_asn ?_ ?_ ?_ ?_
      decide +kernel
      exact (fun _ => rfl)
      refine stor_at ?_
      decide +kernel
      refine sndE_pu ?_
      refine sndP_sub ?_ ?_ ?_
      exact rfl
      refine sndP_loc ?_ ?_
      decide +kernel
      decide +kernel
      exact sndP_int
      refine sndS_cons ?_ ?_
      refine sndS_iff ?_ ?_ ?_
      refine sndT_pu ?_
      refine sndPT_or ?_ ?_
      refine sndPT_cmp cmp_eq ?_ ?_ ?_
      exact rfl
      refine sndP_loc ?_ ?_
      decide +kernel
      decide +kernel
      refine sndP_str ?_ ?_
      decide +kernel
      decide
      refine sndPT_or1 ?_
      refine sndPT_cmp cmp_eq ?_ ?_ ?_
      exact rfl
      refine sndP_loc ?_ ?_
      decide +kernel
      decide +kernel
      refine sndP_str ?_ ?_
      decide +kernel
      decide
      refine sndS_cons ?_ ?_
      refine sndS_ret ?_
      refine sndE_pu ?_
      refine sndP_sub ?_ ?_ ?_
      exact rfl
      refine sndP_loc ?_ ?_
      decide +kernel
      decide +kernel
      exact sndP_int
      exact sndS_nil
      exact sndS_nil
      refine sndS_cons ?_ ?_
      refine sndS_iff ?_ ?_ ?_
      refine sndT_pu ?_
      refine sndPT_cmp cmp_eq ?_ ?_ ?_
      exact rfl
      refine sndP_loc ?_ ?_
      decide +kernel
      decide +kernel
      refine sndP_str ?_ ?_
      decide +kernel
      decide
      refine sndS_cons ?_ ?_
      refine sndS_ret ?_
      refine sndE_pu ?_
      refine sndP_add ?_ ?_
      refine sndP_str ?_ ?_
      decide +kernel
      decide
      refine sndP_sub ?_ ?_ ?_
      exact rfl
      refine sndP_loc ?_ ?_
      decide +kernel
      decide +kernel
      exact sndP_int
      exact sndS_nil
      exact sndS_nil
      refine sndS_cons ?_ ?_
      refine sndS_iff ?_ ?_ ?_
      refine sndT_pu ?_
      refine sndPT_cmp cmp_eq ?_ ?_ ?_
      exact rfl
      refine sndP_loc ?_ ?_
      decide +kernel
      decide +kernel
      refine sndP_str ?_ ?_
      decide +kernel
      decide
      refine sndS_cons ?_ ?_
      refine sndS_ret ?_
      refine sndE_add ?_ ?_
      refine sndE_con ?_
      refine sndP_str ?_ ?_
      decide +kernel
      decide
      refine sndE_call h_f_type_text_1 ?_ ?_ ?_ ?_ ?_ ?_ ?_
      decide
      kernel_rfl
      kernel_rfl
      decide +kernel
      decide +kernel
      refine sndL_cons ?_ ?_ ?_
      exact rfl
      refine sndE_pu ?_
      refine sndP_sub ?_ ?_ ?_
      exact rfl
      refine sndP_loc ?_ ?_
      decide +kernel
      decide +kernel
      exact sndP_int
      exact sndL_nil
      exact rfl
      exact sndS_nil
      exact sndS_nil
      refine sndS_cons ?_ ?_
      refine sndS_iff ?_ ?_ ?_
      refine sndT_pu ?_
      refine sndPT_cmp cmp_eq ?_ ?_ ?_
      exact rfl
      refine sndP_loc ?_ ?_
      decide +kernel
      decide +kernel
      refine sndP_str ?_ ?_
      decide +kernel
      decide
      refine sndS_cons ?_ ?_
      refine sndS_ret ?_
      refine sndE_add ?_ ?_
      refine sndE_add ?_ ?_
      refine sndE_add ?_ ?_
      refine sndE_con ?_
      refine sndP_str ?_ ?_
      decide +kernel
      decide
      exact sndE_bad
      refine sndE_con ?_
      refine sndP_str ?_ ?_
      decide +kernel
      decide
      refine sndE_call h_f_type_text_1 ?_ ?_ ?_ ?_ ?_ ?_ ?_
      decide
      kernel_rfl
      kernel_rfl
      decide +kernel
      decide +kernel
      refine sndL_cons ?_ ?_ ?_
      exact rfl
      refine sndE_pu ?_
      refine sndP_sub ?_ ?_ ?_
      exact rfl
      refine sndP_loc ?_ ?_
      decide +kernel
      decide +kernel
      exact sndP_int
      exact sndL_nil
      exact rfl
      exact sndS_nil
      exact sndS_nil
      refine sndS_cons ?_ ?_
      refine sndS_iff ?_ ?_ ?_
      refine sndT_pu ?_
      refine sndPT_cmp cmp_eq ?_ ?_ ?_
      exact rfl
      refine sndP_loc ?_ ?_
      decide +kernel
      decide +kernel
      refine sndP_str ?_ ?_
      decide +kernel
      decide
      refine sndS_cons ?_ ?_
      refine sndS_ret ?_
      refine sndE_add ?_ ?_
      refine sndE_con ?_
      refine sndP_str ?_ ?_
      decide +kernel
      decide
      refine sndE_call h_f_type_text_1 ?_ ?_ ?_ ?_ ?_ ?_ ?_
      decide
      kernel_rfl
      kernel_rfl
      decide +kernel
      decide +kernel
      refine sndL_cons ?_ ?_ ?_
      exact rfl
      refine sndE_pu ?_
      refine sndP_sub ?_ ?_ ?_
      exact rfl
      refine sndP_loc ?_ ?_
      decide +kernel
      decide +kernel
      exact sndP_int
      exact sndL_nil
      exact rfl
      exact sndS_nil
      exact sndS_nil
      refine sndS_cons ?_ ?_
      refine sndS_iff ?_ ?_ ?_
      refine sndT_pu ?_
      refine sndPT_cmp cmp_eq ?_ ?_ ?_
      exact rfl
      refine sndP_loc ?_ ?_
      decide +kernel
      decide +kernel
      refine sndP_str ?_ ?_
      decide +kernel
      decide
      refine sndS_cons ?_ ?_
      refine sndS_ret ?_
      refine sndE_add ?_ ?_
      refine sndE_add ?_ ?_
      refine sndE_add ?_ ?_
      refine sndE_con ?_
      refine sndP_str ?_ ?_
      decide +kernel
      decide
      refine sndE_call h_f_type_text_1 ?_ ?_ ?_ ?_ ?_ ?_ ?_
      decide
      kernel_rfl
      kernel_rfl
      decide +kernel
      decide +kernel
      refine sndL_cons ?_ ?_ ?_
      exact rfl
      refine sndE_pu ?_
      refine sndP_sub ?_ ?_ ?_
      exact rfl
      refine sndP_loc ?_ ?_
      decide +kernel
      decide +kernel
      exact sndP_int
      exact sndL_nil
      exact rfl
      refine sndE_con ?_
      refine sndP_str ?_ ?_
      decide +kernel
      decide
      refine sndE_call h_f_type_text_1 ?_ ?_ ?_ ?_ ?_ ?_ ?_
      decide
      kernel_rfl
      kernel_rfl
      decide +kernel
      decide +kernel
      refine sndL_cons ?_ ?_ ?_
      exact rfl
      refine sndE_pu ?_
      refine sndP_sub ?_ ?_ ?_
      exact rfl
      refine sndP_loc ?_ ?_
      decide +kernel
      decide +kernel
      exact sndP_int
      exact sndL_nil
      exact rfl
      exact sndS_nil
      exact sndS_nil
      refine sndS_cons ?_ ?_
      refine sndS_iff ?_ ?_ ?_
      refine sndT_pu ?_
      refine sndPT_cmp cmp_eq ?_ ?_ ?_
      exact rfl
      refine sndP_loc ?_ ?_
      decide +kernel
      decide +kernel
      refine sndP_str ?_ ?_
      decide +kernel
      decide
      refine sndS_cons ?_ ?_
      refine sndS_ret ?_
      exact sndE_bad
      exact sndS_nil
      exact sndS_nil
      refine sndS_cons ?_ ?_
      refine sndS_iff ?_ ?_ ?_
      refine sndT_pu ?_
      refine sndPT_cmp cmp_eq ?_ ?_ ?_
      exact rfl
      refine sndP_loc ?_ ?_
      decide +kernel
      decide +kernel
      refine sndP_str ?_ ?_
      decide +kernel
      decide
      refine sndS_cons ?_ ?_
      refine sndS_ret ?_
      refine sndE_add ?_ ?_
      refine sndE_con ?_
      refine sndP_str ?_ ?_
      decide +kernel
      decide
      exact sndE_bad
      exact sndS_nil
      exact sndS_nil
      refine sndS_cons ?_ ?_
      refine sndS_iff ?_ ?_ ?_
      refine sndT_pu ?_
      refine sndPT_cmp cmp_eq ?_ ?_ ?_
      exact rfl
      refine sndP_loc ?_ ?_
      decide +kernel
      decide +kernel
      refine sndP_str ?_ ?_
      decide +kernel
      decide
      refine sndS_cons ?_ ?_
      refine sndS_ret ?_
      exact sndE_bad
      exact sndS_nil
      exact sndS_nil
      refine sndS_cons ?_ ?_
      refine sndS_iff ?_ ?_ ?_
      refine sndT_pu ?_
      refine sndPT_cmp cmp_eq ?_ ?_ ?_
      exact rfl
      refine sndP_loc ?_ ?_
      decide +kernel
      decide +kernel
      refine sndP_str ?_ ?_
      decide +kernel
      decide
      refine sndS_cons ?_ ?_
      refine sndS_ret ?_
      exact sndE_bad
      exact sndS_nil
      exact sndS_nil
      refine sndS_cons ?_ ?_
      refine sndS_ret ?_
      refine sndE_ife ?_ ?_ ?_
      refine sndT_pu ?_
      refine sndPT_cmp cmp_eq ?_ ?_ ?_
      exact rfl
      refine sndP_loc ?_ ?_
      decide +kernel
      decide +kernel
      refine sndP_str ?_ ?_
      decide +kernel
      decide
      refine sndE_add ?_ ?_
      refine sndE_add ?_ ?_
      refine sndE_con ?_
      refine sndP_str ?_ ?_
      decide +kernel
      decide
      exact sndE_bad
      refine sndE_con ?_
      refine sndP_str ?_ ?_
      decide +kernel
      decide
      refine sndE_loc ?_
      refine sndP_loc ?_ ?_
      decide +kernel
      decide +kernel
      exact sndS_nil
  have h_f_type_text : ∀ {v : Vs}, SndF (PV Mine.main.heap_1_39 v) (XRof (PV Mine.main.heap_1_39 v) 164) 3 f_type_text (.ref 64) := by
    intro v
    unfold f_type_text
    refine' sndF_def (XL := xleave) ?hox25 ?hcdx25 ?hbx25 ?hlocx25 ?ndx25 ?hcox25 ?hgenx25 ?hkx25 ?hcellx25 ?hscrx25 ?hbodyx25
    case hox25 => rfl
    case hcdx25 => kernel_rfl
    case hbx25 => exact bindOk1 (fun _ => by kernel_rfl)
    case hlocx25 => exact hloc_of (by decide +kernel)
    case ndx25 => decide
    case hcox25 => rfl
    case hgenx25 => rfl
    case hkx25 => rfl
    case hcellx25 => exact hcell_of (by decide +kernel)
    case hscrx25 => decide +kernel
    case hbodyx25 =>
      unfold b_type_text
      refine sndS_cons ?_ ?_
      refine sndS_asn ?_ ?_ ?_ ?_
      decide +kernel
      exact (fun _ => rfl)
      refine stor_at ?_
      decide +kernel
      refine sndE_pu ?_
      refine sndP_sub ?_ ?_ ?_
      exact rfl
      refine sndP_loc ?_ ?_
      decide +kernel
      decide +kernel
      exact sndP_int
      refine sndS_cons ?_ ?_
      refine sndS_iff ?_ ?_ ?_
      refine sndT_pu ?_
      refine sndPT_or ?_ ?_
      refine sndPT_cmp cmp_eq ?_ ?_ ?_
      exact rfl
      refine sndP_loc ?_ ?_
      decide +kernel
      decide +kernel
      refine sndP_str ?_ ?_
      decide +kernel
      decide
      refine sndPT_or1 ?_
      refine sndPT_cmp cmp_eq ?_ ?_ ?_
      exact rfl
      refine sndP_loc ?_ ?_
      decide +kernel
      decide +kernel
      refine sndP_str ?_ ?_
      decide +kernel
      decide
      refine sndS_cons ?_ ?_
      refine sndS_ret ?_
      refine sndE_pu ?_
      refine sndP_sub ?_ ?_ ?_
      exact rfl
      refine sndP_loc ?_ ?_
      decide +kernel
      decide +kernel
      exact sndP_int
      exact sndS_nil
      exact sndS_nil
      refine sndS_cons ?_ ?_
      refine sndS_iff ?_ ?_ ?_
      refine sndT_pu ?_
      refine sndPT_cmp cmp_eq ?_ ?_ ?_
      exact rfl
      refine sndP_loc ?_ ?_
      decide +kernel
      decide +kernel
      refine sndP_str ?_ ?_
      decide +kernel
      decide
      refine sndS_cons ?_ ?_
      refine sndS_ret ?_
      refine sndE_pu ?_
      refine sndP_add ?_ ?_
      refine sndP_str ?_ ?_
      decide +kernel
      decide
      refine sndP_sub ?_ ?_ ?_
      exact rfl
      refine sndP_loc ?_ ?_
      decide +kernel
      decide +kernel
      exact sndP_int
      exact sndS_nil
      exact sndS_nil
      refine sndS_cons ?_ ?_
      refine sndS_iff ?_ ?_ ?_
      refine sndT_pu ?_
      refine sndPT_cmp cmp_eq ?_ ?_ ?_
      exact rfl
      refine sndP_loc ?_ ?_
      decide +kernel
      decide +kernel
      refine sndP_str ?_ ?_
      decide +kernel
      decide
      refine sndS_cons ?_ ?_
      refine sndS_ret ?_
      refine sndE_add ?_ ?_
      refine sndE_con ?_
      refine sndP_str ?_ ?_
      decide +kernel
      decide
      refine sndE_call h_f_type_text_2 ?_ ?_ ?_ ?_ ?_ ?_ ?_
      decide
      kernel_rfl
      kernel_rfl
      decide +kernel
      decide +kernel
      refine sndL_cons ?_ ?_ ?_
      exact rfl
      refine sndE_pu ?_
      refine sndP_sub ?_ ?_ ?_
      exact rfl
      refine sndP_loc ?_ ?_
      decide +kernel
      decide +kernel
      exact sndP_int
      exact sndL_nil
      exact rfl
      exact sndS_nil
      exact sndS_nil
      refine sndS_cons ?_ ?_
      refine sndS_iff ?_ ?_ ?_
      refine sndT_pu ?_
      refine sndPT_cmp cmp_eq ?_ ?_ ?_
      exact rfl
      refine sndP_loc ?_ ?_
      decide +kernel
      decide +kernel
      refine sndP_str ?_ ?_
      decide +kernel
      decide
      refine sndS_cons ?_ ?_
      refine sndS_ret ?_
      refine sndE_add ?_ ?_
      refine sndE_add ?_ ?_
      refine sndE_add ?_ ?_
      refine sndE_con ?_
      refine sndP_str ?_ ?_
      decide +kernel
      decide
      exact sndE_bad
      refine sndE_con ?_
      refine sndP_str ?_ ?_
      decide +kernel
      decide
      refine sndE_call h_f_type_text_2 ?_ ?_ ?_ ?_ ?_ ?_ ?_
      decide
      kernel_rfl
      kernel_rfl
      decide +kernel
      decide +kernel
      refine sndL_cons ?_ ?_ ?_
      exact rfl
      refine sndE_pu ?_
      refine sndP_sub ?_ ?_ ?_
      exact rfl
      refine sndP_loc ?_ ?_
      decide +kernel
      decide +kernel
      exact sndP_int
      exact sndL_nil
      exact rfl
      exact sndS_nil
      exact sndS_nil
      refine sndS_cons ?_ ?_
      refine sndS_iff ?_ ?_ ?_
      refine sndT_pu ?_
      refine sndPT_cmp cmp_eq ?_ ?_ ?_
      exact rfl
      refine sndP_loc ?_ ?_
      decide +kernel
      decide +kernel
      refine sndP_str ?_ ?_
      decide +kernel
      decide
      refine sndS_cons ?_ ?_
      refine sndS_ret ?_
      refine sndE_add ?_ ?_
      refine sndE_con ?_
      refine sndP_str ?_ ?_
      decide +kernel
      decide
      refine sndE_call h_f_type_text_2 ?_ ?_ ?_ ?_ ?_ ?_ ?_
      decide
      kernel_rfl
      kernel_rfl
      decide +kernel
      decide +kernel
      refine sndL_cons ?_ ?_ ?_
      exact rfl
      refine sndE_pu ?_
      refine sndP_sub ?_ ?_ ?_
      exact rfl
      refine sndP_loc ?_ ?_
      decide +kernel
      decide +kernel
      exact sndP_int
      exact sndL_nil
      exact rfl
      exact sndS_nil
      exact sndS_nil
      refine sndS_cons ?_ ?_
      refine sndS_iff ?_ ?_ ?_
      refine sndT_pu ?_
      refine sndPT_cmp cmp_eq ?_ ?_ ?_
      exact rfl
      refine sndP_loc ?_ ?_
      decide +kernel
      decide +kernel
      refine sndP_str ?_ ?_
      decide +kernel
      decide
      refine sndS_cons ?_ ?_
      refine sndS_ret ?_
      refine sndE_add ?_ ?_
      refine sndE_add ?_ ?_
      refine sndE_add ?_ ?_
      refine sndE_con ?_
      refine sndP_str ?_ ?_
      decide +kernel
      decide
      refine sndE_call h_f_type_text_2 ?_ ?_ ?_ ?_ ?_ ?_ ?_
      decide
      kernel_rfl
      kernel_rfl
      decide +kernel
      decide +kernel
      refine sndL_cons ?_ ?_ ?_
      exact rfl
      refine sndE_pu ?_
      refine sndP_sub ?_ ?_ ?_
      exact rfl
      refine sndP_loc ?_ ?_
      decide +kernel
      decide +kernel
      exact sndP_int
      exact sndL_nil
      exact rfl
      refine sndE_con ?_
      refine sndP_str ?_ ?_
      decide +kernel
      decide
      refine sndE_call h_f_type_text_2 ?_ ?_ ?_ ?_ ?_ ?_ ?_
      decide
      kernel_rfl
      kernel_rfl
      decide +kernel
      decide +kernel
      refine sndL_cons ?_ ?_ ?_
      exact rfl
      refine sndE_pu ?_
      refine sndP_sub ?_ ?_ ?_
      exact rfl
      refine sndP_loc ?_ ?_
      decide +kernel
      decide +kernel
      exact sndP_int
      exact sndL_nil
      exact rfl
      exact sndS_nil
      exact sndS_nil
      refine sndS_cons ?_ ?_
      refine sndS_iff ?_ ?_ ?_
      refine sndT_pu ?_
      refine sndPT_cmp cmp_eq ?_ ?_ ?_
      exact rfl
      refine sndP_loc ?_ ?_
      decide +kernel
      decide +kernel
      refine sndP_str ?_ ?_
      decide +kernel
      decide
      refine sndS_cons ?_ ?_
      refine sndS_ret ?_
      exact sndE_bad
      exact sndS_nil
      exact sndS_nil
      refine sndS_cons ?_ ?_
      refine sndS_iff ?_ ?_ ?_
      refine sndT_pu ?_
      refine sndPT_cmp cmp_eq ?_ ?_ ?_
      exact rfl
      refine sndP_loc ?_ ?_
      decide +kernel
      decide +kernel
      refine sndP_str ?_ ?_
      decide +kernel
      decide
      refine sndS_cons ?_ ?_
      refine sndS_ret ?_
      refine sndE_add ?_ ?_
      refine sndE_con ?_
      refine sndP_str ?_ ?_
      decide +kernel
      decide
      exact sndE_bad
      exact sndS_nil
      exact sndS_nil
      refine sndS_cons ?_ ?_
      refine sndS_iff ?_ ?_ ?_
      refine sndT_pu ?_
      refine sndPT_cmp cmp_eq ?_ ?_ ?_
      exact rfl
      refine sndP_loc ?_ ?_
      decide +kernel
      decide +kernel
      refine sndP_str ?_ ?_
      decide +kernel
      decide
      refine sndS_cons ?_ ?_
      refine sndS_ret ?_
      exact sndE_bad
      exact sndS_nil
      exact sndS_nil
      refine sndS_cons ?_ ?_
      refine sndS_iff ?_ ?_ ?_
      refine sndT_pu ?_
      refine sndPT_cmp cmp_eq ?_ ?_ ?_
      exact rfl
      refine sndP_loc ?_ ?_
      decide +kernel
      decide +kernel
      refine sndP_str ?_ ?_
      decide +kernel
      decide
      refine sndS_cons ?_ ?_
      refine sndS_ret ?_
      exact sndE_bad
      exact sndS_nil
      exact sndS_nil
      refine sndS_cons ?_ ?_
      refine sndS_ret ?_
      refine sndE_ife ?_ ?_ ?_
      refine sndT_pu ?_
      refine sndPT_cmp cmp_eq ?_ ?_ ?_
      exact rfl
      refine sndP_loc ?_ ?_
      decide +kernel
      decide +kernel
      refine sndP_str ?_ ?_
      decide +kernel
      decide
      refine sndE_add ?_ ?_
      refine sndE_add ?_ ?_
      refine sndE_con ?_
      refine sndP_str ?_ ?_
      decide +kernel
      decide
      exact sndE_bad
      refine sndE_con ?_
      refine sndP_str ?_ ?_
      decide +kernel
      decide
      refine sndE_loc ?_
      refine sndP_loc ?_ ?_
      decide +kernel
      decide +kernel
      exact sndS_nil
  have h_f_member_of : ∀ {v : Vs}, SndF (PV Mine.main.heap_1_39 v) (XRof (PV Mine.main.heap_1_39 v) 164) 4 f_member_of (.ref 295) := by
    intro v
    unfold f_member_of
    refine' sndF_def (XL := xleave) ?hox26 ?hcdx26 ?hbx26 ?hlocx26 ?ndx26 ?hcox26 ?hgenx26 ?hkx26 ?hcellx26 ?hscrx26 ?hbodyx26
    case hox26 => rfl
    case hcdx26 => kernel_rfl
    case hbx26 => exact bindOk4 (fun _ _ _ _ => by kernel_rfl)
    case hlocx26 => exact hloc_of (by decide +kernel)
    case ndx26 => decide
    case hcox26 => rfl
    case hgenx26 => rfl
    case hkx26 => rfl
    case hcellx26 => exact hcell_of (by decide +kernel)
    case hscrx26 => decide +kernel
    case hbodyx26 =>
      unfold b_member_of
      refine sndS_cons ?_ ?_
      refine sndS_tryN ?_
      refine sndS_cons ?_ ?_
      refine sndS_asn ?_ ?_ ?_ ?_
      decide +kernel
      exact (fun _ => rfl)
      refine stor_at ?_
      decide +kernel
      refine sndE_call h_f_find_member ?_ ?_ ?_ ?_ ?_ ?_ ?_
      decide
      kernel_rfl
      kernel_rfl
      decide +kernel
      decide +kernel
      refine sndL_cons ?_ ?_ ?_
      exact rfl
      refine sndE_pu ?_
      refine sndP_att hCO ?_ ?_ ?_ ?_
      decide +kernel
      decide
      exact (fun _ => rfl)
      refine sndP_loc ?_ ?_
      decide +kernel
      decide +kernel
      refine sndL_cons ?_ ?_ ?_
      exact rfl
      refine sndE_loc ?_
      refine sndP_loc ?_ ?_
      decide +kernel
      decide +kernel
      refine sndL_cons ?_ ?_ ?_
      exact rfl
      refine sndE_loc ?_
      refine sndP_loc ?_ ?_
      decide +kernel
      decide +kernel
      exact sndL_nil
      exact rfl
      exact sndS_nil
      refine sndS_cons ?_ ?_
      refine sndS_iff ?_ ?_ ?_
      refine sndT_or ?_ ?_
      refine sndT_pu ?_
      refine sndPT_cmp cmp_is ?_ ?_ ?_
      exact rfl
      refine sndP_loc ?_ ?_
      decide +kernel
      decide +kernel
      exact sndP_none
      refine sndT_or1 ?_
      refine sndT_val ?_ ?_
      exact (fun _ _ => rfl)
      refine sndE_call h_f_is_hidden ?_ ?_ ?_ ?_ ?_ ?_ ?_
      decide
      kernel_rfl
      kernel_rfl
      decide +kernel
      decide +kernel
      refine sndL_cons ?_ ?_ ?_
      exact rfl
      refine sndE_loc ?_
      refine sndP_loc ?_ ?_
      decide +kernel
      decide +kernel
      refine sndL_cons ?_ ?_ ?_
      exact rfl
      refine sndE_call h_f_owner_of ?_ ?_ ?_ ?_ ?_ ?_ ?_
      decide
      kernel_rfl
      kernel_rfl
      decide +kernel
      decide +kernel
      refine sndL_cons ?_ ?_ ?_
      exact rfl
      refine sndE_pu ?_
      refine sndP_att hCO ?_ ?_ ?_ ?_
      decide +kernel
      decide
      exact (fun _ => rfl)
      refine sndP_loc ?_ ?_
      decide +kernel
      decide +kernel
      refine sndL_cons ?_ ?_ ?_
      exact rfl
      refine sndE_loc ?_
      refine sndP_loc ?_ ?_
      decide +kernel
      decide +kernel
      refine sndL_cons ?_ ?_ ?_
      exact rfl
      refine sndE_loc ?_
      refine sndP_loc ?_ ?_
      decide +kernel
      decide +kernel
      exact sndL_nil
      exact rfl
      refine sndL_cons ?_ ?_ ?_
      exact rfl
      refine sndE_loc ?_
      refine sndP_loc ?_ ?_
      decide +kernel
      decide +kernel
      exact sndL_nil
      exact rfl
      refine sndS_cons ?_ ?_
      refine sndS_rai hXO ?_ ?_ ?_ ?_ ?_ ?_ ?_ ?_ ?_
      decide
      kernel_rfl
      kernel_rfl
      decide +kernel
      decide +kernel
      refine sndE_add ?_ ?_
      refine sndE_add ?_ ?_
      refine sndE_call h_f_type_text ?_ ?_ ?_ ?_ ?_ ?_ ?_
      decide
      kernel_rfl
      kernel_rfl
      decide +kernel
      decide +kernel
      refine sndL_cons ?_ ?_ ?_
      exact rfl
      refine sndE_loc ?_
      refine sndP_loc ?_ ?_
      decide +kernel
      decide +kernel
      exact sndL_nil
      exact rfl
      refine sndE_con ?_
      refine sndP_str ?_ ?_
      decide +kernel
      decide
      refine sndE_loc ?_
      refine sndP_loc ?_ ?_
      decide +kernel
      decide +kernel
      refine sndE_loc ?_
      refine sndP_loc ?_ ?_
      decide +kernel
      decide +kernel
      exact rfl
      exact rfl
      exact sndS_nil
      exact sndS_nil
      refine sndS_cons ?_ ?_
      refine sndS_ret ?_
      refine sndE_loc ?_
      refine sndP_loc ?_ ?_
      decide +kernel
      decide +kernel
      exact sndS_nil
  have h_f_led_through : ∀ {v : Vs}, SndF (PV Mine.main.heap_1_39 v) (XRof (PV Mine.main.heap_1_39 v) 164) 2 f_led_through (.ref 302) := by
    intro v
    unfold f_led_through
    refine' sndF_def (XL := xleave) ?hox27 ?hcdx27 ?hbx27 ?hlocx27 ?ndx27 ?hcox27 ?hgenx27 ?hkx27 ?hcellx27 ?hscrx27 ?hbodyx27
    case hox27 => rfl
    case hcdx27 => kernel_rfl
    case hbx27 => exact bindOk3 (fun _ _ _ => by kernel_rfl)
    case hlocx27 => exact hloc_of (by decide +kernel)
    case ndx27 => decide
    case hcox27 => rfl
    case hgenx27 => rfl
    case hkx27 => rfl
    case hcellx27 => exact hcell_of (by decide +kernel)
    case hscrx27 => decide +kernel
    case hbodyx27 =>
      unfold b_led_through
      refine sndS_cons ?_ ?_
      refine sndS_asn ?_ ?_ ?_ ?_
      decide +kernel
      exact (fun _ => rfl)
      refine stor_at ?_
      decide +kernel
      refine sndE_call h_f_underlying_of ?_ ?_ ?_ ?_ ?_ ?_ ?_
      decide
      kernel_rfl
      kernel_rfl
      decide +kernel
      decide +kernel
      refine sndL_cons ?_ ?_ ?_
      exact rfl
      refine sndE_pu ?_
      refine sndP_att hCO ?_ ?_ ?_ ?_
      decide +kernel
      decide
      exact (fun _ => rfl)
      refine sndP_loc ?_ ?_
      decide +kernel
      decide +kernel
      refine sndL_cons ?_ ?_ ?_
      exact rfl
      refine sndE_pu ?_
      refine sndP_sub ?_ ?_ ?_
      exact rfl
      refine sndP_loc ?_ ?_
      decide +kernel
      decide +kernel
      exact sndP_int
      exact sndL_nil
      exact rfl
      refine sndS_cons ?_ ?_
      refine sndS_ret ?_
      refine sndE_pu ?_
      refine sndP_ife ?_ ?_ ?_
      refine sndPT_cmp cmp_eq ?_ ?_ ?_
      exact rfl
      refine sndP_sub ?_ ?_ ?_
      exact rfl
      refine sndP_loc ?_ ?_
      decide +kernel
      decide +kernel
      exact sndP_int
      refine sndP_str ?_ ?_
      decide +kernel
      decide
      refine sndP_tup ?_ ?_
      refine sndPs_cons ?_ ?_ ?_
      exact rfl
      refine sndP_str ?_ ?_
      decide +kernel
      decide
      refine sndPs_cons ?_ ?_ ?_
      exact rfl
      refine sndP_sub ?_ ?_ ?_
      exact rfl
      refine sndP_loc ?_ ?_
      decide +kernel
      decide +kernel
      exact sndP_int
      refine sndPs_cons ?_ ?_ ?_
      exact rfl
      refine sndP_loc ?_ ?_
      decide +kernel
      decide +kernel
      refine sndPs_cons ?_ ?_ ?_
      exact rfl
      refine sndP_loc ?_ ?_
      decide +kernel
      decide +kernel
      exact sndPs_nil
      decide +kernel
      refine sndP_loc ?_ ?_
      decide +kernel
      decide +kernel
      exact sndS_nil
  have h_f_field_at : ∀ {v : Vs}, SndF (PV Mine.main.heap_1_39 v) (XRof (PV Mine.main.heap_1_39 v) 164) 3 f_field_at (.ref 309) := by
    intro v
    unfold f_field_at
    refine' sndF_def (XL := xleave) ?hox28 ?hcdx28 ?hbx28 ?hlocx28 ?ndx28 ?hcox28 ?hgenx28 ?hkx28 ?hcellx28 ?hscrx28 ?hbodyx28
    case hox28 => rfl
    case hcdx28 => kernel_rfl
    case hbx28 => exact bindOk4 (fun _ _ _ _ => by kernel_rfl)
    case hlocx28 => exact hloc_of (by decide +kernel)
    case ndx28 => decide
    case hcox28 => rfl
    case hgenx28 => rfl
    case hkx28 => rfl
    case hcellx28 => exact hcell_of (by decide +kernel)
    case hscrx28 => decide +kernel
    case hbodyx28 =>
      unfold b_field_at
      refine sndS_cons ?_ ?_
      refine sndS_asn ?_ ?_ ?_ ?_
      decide +kernel
      exact (fun _ => rfl)
      refine stor_at ?_
      decide +kernel
      refine sndE_call h_f_led_through ?_ ?_ ?_ ?_ ?_ ?_ ?_
      decide
      kernel_rfl
      kernel_rfl
      decide +kernel
      decide +kernel
      refine sndL_cons ?_ ?_ ?_
      exact rfl
      refine sndE_loc ?_
      refine sndP_loc ?_ ?_
      decide +kernel
      decide +kernel
      refine sndL_cons ?_ ?_ ?_
      exact rfl
      refine sndE_loc ?_
      refine sndP_loc ?_ ?_
      decide +kernel
      decide +kernel
      refine sndL_cons ?_ ?_ ?_
      exact rfl
      refine sndE_loc ?_
      refine sndP_loc ?_ ?_
      decide +kernel
      decide +kernel
      exact sndL_nil
      exact rfl
      refine sndS_cons ?_ ?_
      refine sndS_ret ?_
      refine sndE_tup ?_ ?_
      refine sndL_cons ?_ ?_ ?_
      exact rfl
      refine sndE_con ?_
      refine sndP_str ?_ ?_
      decide +kernel
      decide
      refine sndL_cons ?_ ?_ ?_
      exact rfl
      refine sndE_sub ?_ ?_ ?_
      exact rfl
      refine sndE_sub ?_ ?_ ?_
      exact rfl
      refine sndE_sub ?_ ?_ ?_
      exact rfl
      refine sndE_call h_f_underlying_of ?_ ?_ ?_ ?_ ?_ ?_ ?_
      decide
      kernel_rfl
      kernel_rfl
      decide +kernel
      decide +kernel
      refine sndL_cons ?_ ?_ ?_
      exact rfl
      refine sndE_pu ?_
      refine sndP_att hCO ?_ ?_ ?_ ?_
      decide +kernel
      decide
      exact (fun _ => rfl)
      refine sndP_loc ?_ ?_
      decide +kernel
      decide +kernel
      refine sndL_cons ?_ ?_ ?_
      exact rfl
      refine sndE_pu ?_
      refine sndP_sub ?_ ?_ ?_
      exact rfl
      refine sndP_loc ?_ ?_
      decide +kernel
      decide +kernel
      exact sndP_int
      exact sndL_nil
      exact rfl
      refine sndE_con ?_
      exact sndP_int
      refine sndE_loc ?_
      refine sndP_loc ?_ ?_
      decide +kernel
      decide +kernel
      refine sndE_con ?_
      exact sndP_int
      refine sndL_cons ?_ ?_ ?_
      exact rfl
      refine sndE_loc ?_
      refine sndP_loc ?_ ?_
      decide +kernel
      decide +kernel
      refine sndL_cons ?_ ?_ ?_
      exact rfl
      refine sndE_loc ?_
      refine sndP_loc ?_ ?_
      decide +kernel
      decide +kernel
      refine sndL_cons ?_ ?_ ?_
      exact rfl
      refine sndE_loc ?_
      refine sndP_loc ?_ ?_
      decide +kernel
      decide +kernel
      exact sndL_nil
      decide +kernel
      exact sndS_nil
  have h_f_gone_along : ∀ {v : Vs}, SndF (PV Mine.main.heap_1_39 v) (XRof (PV Mine.main.heap_1_39 v) 164) 4 f_gone_along (.ref 316) := by
    intro v
    unfold f_gone_along
    refine' sndF_def (XL := xleave) ?hox29 ?hcdx29 ?hbx29 ?hlocx29 ?ndx29 ?hcox29 ?hgenx29 ?hkx29 ?hcellx29 ?hscrx29 ?hbodyx29
    case hox29 => rfl
    case hcdx29 => kernel_rfl
    case hbx29 => exact bindOk4 (fun _ _ _ _ => by kernel_rfl)
    case hlocx29 => exact hloc_of (by decide +kernel)
    case ndx29 => decide
    case hcox29 => rfl
    case hgenx29 => rfl
    case hkx29 => rfl
    case hcellx29 => exact hcell_of (by decide +kernel)
    case hscrx29 => decide +kernel
    case hbodyx29 =>
      unfold b_gone_along
      refine sndS_cons ?_ ?_
      refine sndS_for ?_ ?_ ?_ ?_
      refine tg_seq2 ?_ ?_ ?_ ?_ ?_
      decide +kernel
      decide +kernel
      decide
      decide +kernel
      decide +kernel
      exact (fun _ _ => rfl)
      refine sndE_loc ?_
      refine sndP_loc ?_ ?_
      decide +kernel
      decide +kernel
      refine sndS_cons ?_ ?_
      refine sndS_asn ?_ ?_ ?_ ?_
      decide +kernel
      exact (fun _ => rfl)
      refine stor_at ?_
      decide +kernel
      refine sndE_call h_f_field_at ?_ ?_ ?_ ?_ ?_ ?_ ?_
      decide
      kernel_rfl
      kernel_rfl
      decide +kernel
      decide +kernel
      refine sndL_cons ?_ ?_ ?_
      exact rfl
      refine sndE_loc ?_
      refine sndP_loc ?_ ?_
      decide +kernel
      decide +kernel
      refine sndL_cons ?_ ?_ ?_
      exact rfl
      refine sndE_loc ?_
      refine sndP_loc ?_ ?_
      decide +kernel
      decide +kernel
      refine sndL_cons ?_ ?_ ?_
      exact rfl
      refine sndE_loc ?_
      refine sndP_loc ?_ ?_
      decide +kernel
      decide +kernel
      refine sndL_cons ?_ ?_ ?_
      exact rfl
      refine sndE_loc ?_
      refine sndP_loc ?_ ?_
      decide +kernel
      decide +kernel
      exact sndL_nil
      exact rfl
      exact sndS_nil
      refine sndS_cons ?_ ?_
      refine sndS_ret ?_
      refine sndE_loc ?_
      refine sndP_loc ?_ ?_
      decide +kernel
      decide +kernel
      exact sndS_nil
  have h_f_is_place : ∀ {v : Vs}, SndF (PV Mine.main.heap_1_39 v) (XRof (PV Mine.main.heap_1_39 v) 164) 2 f_is_place (.ref 121) := by
    intro v
    unfold f_is_place
    refine' sndF_def (XL := xleave) ?hox30 ?hcdx30 ?hbx30 ?hlocx30 ?ndx30 ?hcox30 ?hgenx30 ?hkx30 ?hcellx30 ?hscrx30 ?hbodyx30
    case hox30 => rfl
    case hcdx30 => kernel_rfl
    case hbx30 => exact bindOk2 (fun _ _ => by kernel_rfl)
    case hlocx30 => exact hloc_of (by decide +kernel)
    case ndx30 => decide
    case hcox30 => rfl
    case hgenx30 => rfl
    case hkx30 => rfl
    case hcellx30 => exact hcell_of (by decide +kernel)
    case hscrx30 => decide +kernel
    case hbodyx30 =>
      unfold b_is_place
      refine sndS_cons ?_ ?_
      refine sndS_whl ?_ ?_
      refine sndT_val ?_ ?_
      exact (fun _ _ => rfl)
      refine sndE_con ?_
      exact sndP_bool
      refine sndS_cons ?_ ?_
      refine sndS_iff ?_ ?_ ?_
      refine sndT_pu ?_
      refine sndPT_cmp cmp_in ?_ ?_ ?_
      exact rfl
      refine sndP_sub ?_ ?_ ?_
      exact rfl
      refine sndP_loc ?_ ?_
      decide +kernel
      decide +kernel
      exact sndP_int
      refine sndP_glb (v := .ref 114) ?_ ?_ ?_ ?_
      kernel_rfl
      decide +kernel
      decide +kernel
      refine kvr_sound (n := 5) ?_
      kernel_rfl
      refine sndS_cons ?_ ?_
      refine sndS_ret ?_
      refine sndE_con ?_
      exact sndP_bool
      exact sndS_nil
      exact sndS_nil
      refine sndS_cons ?_ ?_
      refine sndS_iff ?_ ?_ ?_
      refine sndT_pu ?_
      refine sndPT_cmp cmp_eq ?_ ?_ ?_
      exact rfl
      refine sndP_sub ?_ ?_ ?_
      exact rfl
      refine sndP_loc ?_ ?_
      decide +kernel
      decide +kernel
      exact sndP_int
      refine sndP_str ?_ ?_
      decide +kernel
      decide
      refine sndS_cons ?_ ?_
      refine sndS_asn ?_ ?_ ?_ ?_
      decide +kernel
      exact (fun _ => rfl)
      refine stor_at ?_
      decide +kernel
      refine sndE_pu ?_
      refine sndP_sub ?_ ?_ ?_
      exact rfl
      refine sndP_loc ?_ ?_
      decide +kernel
      decide +kernel
      exact sndP_int
      exact sndS_nil
      refine sndS_cons ?_ ?_
      refine sndS_iff ?_ ?_ ?_
      refine sndT_pu ?_
      refine sndPT_cmp cmp_eq ?_ ?_ ?_
      exact rfl
      refine sndP_sub ?_ ?_ ?_
      exact rfl
      refine sndP_loc ?_ ?_
      decide +kernel
      decide +kernel
      exact sndP_int
      refine sndP_str ?_ ?_
      decide +kernel
      decide
      refine sndS_cons ?_ ?_
      refine sndS_asn ?_ ?_ ?_ ?_
      decide +kernel
      exact (fun _ => rfl)
      refine stor_at ?_
      decide +kernel
      refine sndE_call h_f_underlying_of ?_ ?_ ?_ ?_ ?_ ?_ ?_
      decide
      kernel_rfl
      kernel_rfl
      decide +kernel
      decide +kernel
      refine sndL_cons ?_ ?_ ?_
      exact rfl
      refine sndE_pu ?_
      refine sndP_att hCO ?_ ?_ ?_ ?_
      decide +kernel
      decide
      exact (fun _ => rfl)
      refine sndP_loc ?_ ?_
      decide +kernel
      decide +kernel
      refine sndL_cons ?_ ?_ ?_
      exact rfl
      refine sndE_pu ?_
      refine sndP_sub ?_ ?_ ?_
      exact rfl
      refine sndP_sub ?_ ?_ ?_
      exact rfl
      refine sndP_loc ?_ ?_
      decide +kernel
      decide +kernel
      exact sndP_int
      exact sndP_int
      exact sndL_nil
      exact rfl
      refine sndS_cons ?_ ?_
      refine sndS_iff ?_ ?_ ?_
      refine sndT_pu ?_
      refine sndPT_cmp cmp_ne ?_ ?_ ?_
      exact rfl
      refine sndP_sub ?_ ?_ ?_
      exact rfl
      refine sndP_loc ?_ ?_
      decide +kernel
      decide +kernel
      exact sndP_int
      refine sndP_str ?_ ?_
      decide +kernel
      decide
      refine sndS_cons ?_ ?_
      refine sndS_ret ?_
      refine sndE_pu ?_
      refine sndP_cmp cmp_eq ?_ ?_ ?_
      exact rfl
      refine sndP_sub ?_ ?_ ?_
      exact rfl
      refine sndP_loc ?_ ?_
      decide +kernel
      decide +kernel
      exact sndP_int
      refine sndP_str ?_ ?_
      decide +kernel
      decide
      exact sndS_nil
      exact sndS_nil
      refine sndS_cons ?_ ?_
      refine sndS_asn ?_ ?_ ?_ ?_
      decide +kernel
      exact (fun _ => rfl)
      refine stor_at ?_
      decide +kernel
      refine sndE_pu ?_
      refine sndP_sub ?_ ?_ ?_
      exact rfl
      refine sndP_loc ?_ ?_
      decide +kernel
      decide +kernel
      exact sndP_int
      exact sndS_nil
      refine sndS_cons ?_ ?_
      refine sndS_ret ?_
      refine sndE_con ?_
      exact sndP_bool
      exact sndS_nil
      exact sndS_nil
      exact sndS_nil
      exact sndS_nil
  have h_f_receiver_of : ∀ {v : Vs}, SndF (PV Mine.main.heap_1_39 v) (XRof (PV Mine.main.heap_1_39 v) 164) 3 f_receiver_of (.ref 323) := by
    intro v
    unfold f_receiver_of
    refine' sndF_def (XL := xleave) ?hox31 ?hcdx31 ?hbx31 ?hlocx31 ?ndx31 ?hcox31 ?hgenx31 ?hkx31 ?hcellx31 ?hscrx31 ?hbodyx31
    case hox31 => rfl
    case hcdx31 => kernel_rfl
    case hbx31 => exact bindOk4 (fun _ _ _ _ => by kernel_rfl)
    case hlocx31 => exact hloc_of (by decide +kernel)
    case ndx31 => decide
    case hcox31 => rfl
    case hgenx31 => rfl
    case hkx31 => rfl
    case hcellx31 => exact hcell_of (by decide +kernel)
    case hscrx31 => decide +kernel
    case hbodyx31 =>
      unfold b_receiver_of
      refine sndS_cons ?_ ?_
      refine sndS_asn ?_ ?_ ?_ ?_
      decide +kernel
      exact (fun _ => rfl)
      refine stor_at ?_
      decide +kernel
      refine sndE_pu ?_
      refine sndP_sub ?_ ?_ ?_
      exact rfl
      refine sndP_loc ?_ ?_
      decide +kernel
      decide +kernel
      exact sndP_int
      refine sndS_cons ?_ ?_
      refine sndS_iff ?_ ?_ ?_
      refine sndT_pu ?_
      refine sndPT_not ?_
      refine sndPT_val ?_ ?_
      exact (fun _ _ => rfl)
      refine sndP_loc ?_ ?_
      decide +kernel
      decide +kernel
      refine sndS_cons ?_ ?_
      refine sndS_ret ?_
      refine sndE_ife ?_ ?_ ?_
      refine sndT_pu ?_
      refine sndPT_cmp cmp_eq ?_ ?_ ?_
      exact rfl
      refine sndP_sub ?_ ?_ ?_
      exact rfl
      refine sndP_loc ?_ ?_
      decide +kernel
      decide +kernel
      exact sndP_int
      refine sndP_str ?_ ?_
      decide +kernel
      decide
      refine sndE_call h_f_led_through ?_ ?_ ?_ ?_ ?_ ?_ ?_
      decide
      kernel_rfl
      kernel_rfl
      decide +kernel
      decide +kernel
      refine sndL_cons ?_ ?_ ?_
      exact rfl
      refine sndE_loc ?_
      refine sndP_loc ?_ ?_
      decide +kernel
      decide +kernel
      refine sndL_cons ?_ ?_ ?_
      exact rfl
      refine sndE_loc ?_
      refine sndP_loc ?_ ?_
      decide +kernel
      decide +kernel
      refine sndL_cons ?_ ?_ ?_
      exact rfl
      refine sndE_loc ?_
      refine sndP_loc ?_ ?_
      decide +kernel
      decide +kernel
      exact sndL_nil
      exact rfl
      refine sndE_loc ?_
      refine sndP_loc ?_ ?_
      decide +kernel
      decide +kernel
      exact sndS_nil
      exact sndS_nil
      refine sndS_cons ?_ ?_
      refine sndS_iff ?_ ?_ ?_
      refine sndT_pu ?_
      refine sndPT_cmp cmp_eq ?_ ?_ ?_
      exact rfl
      refine sndP_sub ?_ ?_ ?_
      exact rfl
      refine sndP_loc ?_ ?_
      decide +kernel
      decide +kernel
      exact sndP_int
      refine sndP_str ?_ ?_
      decide +kernel
      decide
      refine sndS_cons ?_ ?_
      refine sndS_ret ?_
      refine sndE_loc ?_
      refine sndP_loc ?_ ?_
      decide +kernel
      decide +kernel
      exact sndS_nil
      exact sndS_nil
      refine sndS_cons ?_ ?_
      refine sndS_iff ?_ ?_ ?_
      refine sndT_nt ?_
      refine sndT_val ?_ ?_
      exact (fun _ _ => rfl)
      refine sndE_call h_f_is_place ?_ ?_ ?_ ?_ ?_ ?_ ?_
      decide
      kernel_rfl
      kernel_rfl
      decide +kernel
      decide +kernel
      refine sndL_cons ?_ ?_ ?_
      exact rfl
      refine sndE_loc ?_
      refine sndP_loc ?_ ?_
      decide +kernel
      decide +kernel
      refine sndL_cons ?_ ?_ ?_
      exact rfl
      refine sndE_loc ?_
      refine sndP_loc ?_ ?_
      decide +kernel
      decide +kernel
      exact sndL_nil
      exact rfl
      refine sndS_cons ?_ ?_
      refine sndS_rai hXO ?_ ?_ ?_ ?_ ?_ ?_ ?_ ?_ ?_
      decide
      kernel_rfl
      kernel_rfl
      decide +kernel
      decide +kernel
      refine sndE_con ?_
      refine sndP_str ?_ ?_
      decide +kernel
      decide
      refine sndE_loc ?_
      refine sndP_loc ?_ ?_
      decide +kernel
      decide +kernel
      exact rfl
      exact rfl
      exact sndS_nil
      exact sndS_nil
      refine sndS_cons ?_ ?_
      refine sndS_ret ?_
      refine sndE_pu ?_
      refine sndP_tup ?_ ?_
      refine sndPs_cons ?_ ?_ ?_
      exact rfl
      refine sndP_str ?_ ?_
      decide +kernel
      decide
      refine sndPs_cons ?_ ?_ ?_
      exact rfl
      refine sndP_tup ?_ ?_
      refine sndPs_cons ?_ ?_ ?_
      exact rfl
      refine sndP_str ?_ ?_
      decide +kernel
      decide
      refine sndPs_cons ?_ ?_ ?_
      exact rfl
      refine sndP_loc ?_ ?_
      decide +kernel
      decide +kernel
      exact sndPs_nil
      decide +kernel
      refine sndPs_cons ?_ ?_ ?_
      exact rfl
      refine sndP_loc ?_ ?_
      decide +kernel
      decide +kernel
      refine sndPs_cons ?_ ?_ ?_
      exact rfl
      refine sndP_loc ?_ ?_
      decide +kernel
      decide +kernel
      exact sndPs_nil
      decide +kernel
      exact sndS_nil
  have h_f_selected : ∀ {v : Vs}, SndF (PV Mine.main.heap_1_39 v) (XRof (PV Mine.main.heap_1_39 v) 164) 5 f_selected (.ref 330) := by
    intro v
    unfold f_selected
    refine' sndF_def (XL := xleave) ?hox32 ?hcdx32 ?hbx32 ?hlocx32 ?ndx32 ?hcox32 ?hgenx32 ?hkx32 ?hcellx32 ?hscrx32 ?hbodyx32
    case hox32 => rfl
    case hcdx32 => kernel_rfl
    case hbx32 => exact bindOk4 (fun _ _ _ _ => by kernel_rfl)
    case hlocx32 => exact hloc_of (by decide +kernel)
    case ndx32 => decide
    case hcox32 => rfl
    case hgenx32 => rfl
    case hkx32 => rfl
    case hcellx32 => exact hcell_of (by decide +kernel)
    case hscrx32 => decide +kernel
    case hbodyx32 =>
      unfold b_selected
      refine sndS_cons ?_ ?_
      refine sndS_asn ?_ ?_ ?_ ?_
      decide +kernel
      exact (fun _ => rfl)
      refine stor_at ?_
      decide +kernel
      refine sndE_call h_f_member_of ?_ ?_ ?_ ?_ ?_ ?_ ?_
      decide
      kernel_rfl
      kernel_rfl
      decide +kernel
      decide +kernel
      refine sndL_cons ?_ ?_ ?_
      exact rfl
      refine sndE_loc ?_
      refine sndP_loc ?_ ?_
      decide +kernel
      decide +kernel
      refine sndL_cons ?_ ?_ ?_
      exact rfl
      refine sndE_pu ?_
      refine sndP_sub ?_ ?_ ?_
      exact rfl
      refine sndP_loc ?_ ?_
      decide +kernel
      decide +kernel
      exact sndP_int
      refine sndL_cons ?_ ?_ ?_
      exact rfl
      refine sndE_loc ?_
      refine sndP_loc ?_ ?_
      decide +kernel
      decide +kernel
      refine sndL_cons ?_ ?_ ?_
      exact rfl
      refine sndE_loc ?_
      refine sndP_loc ?_ ?_
      decide +kernel
      decide +kernel
      exact sndL_nil
      exact rfl
      refine sndS_cons ?_ ?_
      refine sndS_asn ?_ ?_ ?_ ?_
      decide +kernel
      exact (fun _ => rfl)
      refine stor_at ?_
      decide +kernel
      refine sndE_call h_f_gone_along ?_ ?_ ?_ ?_ ?_ ?_ ?_
      decide
      kernel_rfl
      kernel_rfl
      decide +kernel
      decide +kernel
      refine sndL_cons ?_ ?_ ?_
      exact rfl
      refine sndE_loc ?_
      refine sndP_loc ?_ ?_
      decide +kernel
      decide +kernel
      refine sndL_cons ?_ ?_ ?_
      exact rfl
      refine sndE_loc ?_
      refine sndP_loc ?_ ?_
      decide +kernel
      decide +kernel
      refine sndL_cons ?_ ?_ ?_
      exact rfl
      refine sndE_pu ?_
      refine sndP_sub ?_ ?_ ?_
      exact rfl
      refine sndP_loc ?_ ?_
      decide +kernel
      decide +kernel
      exact sndP_int
      refine sndL_cons ?_ ?_ ?_
      exact rfl
      refine sndE_loc ?_
      refine sndP_loc ?_ ?_
      decide +kernel
      decide +kernel
      exact sndL_nil
      exact rfl
      refine sndS_cons ?_ ?_
      refine sndS_iff ?_ ?_ ?_
      refine sndT_pu ?_
      refine sndPT_cmp cmp_eq ?_ ?_ ?_
      exact rfl
      refine sndP_sub ?_ ?_ ?_
      exact rfl
      refine sndP_loc ?_ ?_
      decide +kernel
      decide +kernel
      exact sndP_int
      refine sndP_str ?_ ?_
      decide +kernel
      decide
      refine sndS_cons ?_ ?_
      refine sndS_ret ?_
      refine sndE_loc ?_
      refine sndP_loc ?_ ?_
      decide +kernel
      decide +kernel
      exact sndS_nil
      exact sndS_nil
      refine sndS_cons ?_ ?_
      refine sndS_iff ?_ ?_ ?_
      refine sndT_pu ?_
      refine sndPT_cmp cmp_eq ?_ ?_ ?_
      exact rfl
      refine sndP_sub ?_ ?_ ?_
      exact rfl
      refine sndP_loc ?_ ?_
      decide +kernel
      decide +kernel
      exact sndP_int
      refine sndP_str ?_ ?_
      decide +kernel
      decide
      refine sndS_cons ?_ ?_
      refine sndS_ret ?_
      refine sndE_pu ?_
      refine sndP_tup ?_ ?_
      refine sndPs_cons ?_ ?_ ?_
      exact rfl
      refine sndP_str ?_ ?_
      decide +kernel
      decide
      refine sndPs_cons ?_ ?_ ?_
      exact rfl
      refine sndP_sub ?_ ?_ ?_
      exact rfl
      refine sndP_loc ?_ ?_
      decide +kernel
      decide +kernel
      exact sndP_int
      refine sndPs_cons ?_ ?_ ?_
      exact rfl
      refine sndP_loc ?_ ?_
      decide +kernel
      decide +kernel
      refine sndPs_cons ?_ ?_ ?_
      exact rfl
      refine sndP_loc ?_ ?_
      decide +kernel
      decide +kernel
      refine sndPs_cons ?_ ?_ ?_
      exact rfl
      refine sndP_tup ?_ ?_
      refine sndPs_cons ?_ ?_ ?_
      exact rfl
      refine sndP_str ?_ ?_
      decide +kernel
      decide
      refine sndPs_cons ?_ ?_ ?_
      exact rfl
      refine sndP_loc ?_ ?_
      decide +kernel
      decide +kernel
      exact sndPs_nil
      decide +kernel
      exact sndPs_nil
      decide +kernel
      exact sndS_nil
      exact sndS_nil
      refine sndS_cons ?_ ?_
      refine sndS_ret ?_
      refine sndE_tup ?_ ?_
      refine sndL_cons ?_ ?_ ?_
      exact rfl
      refine sndE_con ?_
      refine sndP_str ?_ ?_
      decide +kernel
      decide
      refine sndL_cons ?_ ?_ ?_
      exact rfl
      refine sndE_pu ?_
      refine sndP_sub ?_ ?_ ?_
      exact rfl
      refine sndP_loc ?_ ?_
      decide +kernel
      decide +kernel
      exact sndP_int
      refine sndL_cons ?_ ?_ ?_
      exact rfl
      refine sndE_loc ?_
      refine sndP_loc ?_ ?_
      decide +kernel
      decide +kernel
      refine sndL_cons ?_ ?_ ?_
      exact rfl
      refine sndE_call h_f_receiver_of ?_ ?_ ?_ ?_ ?_ ?_ ?_
      decide
      kernel_rfl
      kernel_rfl
      decide +kernel
      decide +kernel
      refine sndL_cons ?_ ?_ ?_
      exact rfl
      refine sndE_loc ?_
      refine sndP_loc ?_ ?_
      decide +kernel
      decide +kernel
      refine sndL_cons ?_ ?_ ?_
      exact rfl
      refine sndE_loc ?_
      refine sndP_loc ?_ ?_
      decide +kernel
      decide +kernel
      refine sndL_cons ?_ ?_ ?_
      exact rfl
      refine sndE_pu ?_
      refine sndP_sub ?_ ?_ ?_
      exact rfl
      refine sndP_loc ?_ ?_
      decide +kernel
      decide +kernel
      exact sndP_int
      refine sndL_cons ?_ ?_ ?_
      exact rfl
      refine sndE_loc ?_
      refine sndP_loc ?_ ?_
      decide +kernel
      decide +kernel
      exact sndL_nil
      exact rfl
      refine sndL_cons ?_ ?_ ?_
      exact rfl
      refine sndE_pu ?_
      refine sndP_tup ?_ ?_
      refine sndPs_cons ?_ ?_ ?_
      exact rfl
      refine sndP_str ?_ ?_
      decide +kernel
      decide
      refine sndPs_cons ?_ ?_ ?_
      exact rfl
      refine sndP_sub ?_ ?_ ?_
      exact rfl
      refine sndP_loc ?_ ?_
      decide +kernel
      decide +kernel
      exact sndP_int
      exact sndPs_nil
      decide +kernel
      exact sndL_nil
      decide +kernel
      exact sndS_nil
  have h_f_law_one : ∀ {v : Vs}, SndF (PV Mine.main.heap_1_39 v) (XRof (PV Mine.main.heap_1_39 v) 164) 1 f_law_one (.ref 627) := by
    intro v
    unfold f_law_one
    refine' sndF_def (XL := xleave) ?hox33 ?hcdx33 ?hbx33 ?hlocx33 ?ndx33 ?hcox33 ?hgenx33 ?hkx33 ?hcellx33 ?hscrx33 ?hbodyx33
    case hox33 => rfl
    case hcdx33 => kernel_rfl
    case hbx33 => exact bindOk2 (fun _ _ => by kernel_rfl)
    case hlocx33 => exact hloc_of (by decide +kernel)
    case ndx33 => decide
    case hcox33 => rfl
    case hgenx33 => rfl
    case hkx33 => rfl
    case hcellx33 => exact hcell_of (by decide +kernel)
    case hscrx33 => decide +kernel
    case hbodyx33 =>
      unfold b_law_one
      refine sndS_cons ?_ ?_
      refine sndS_ret ?_
      refine sndE_sub ?_ ?_ ?_
      exact rfl
      refine sndE_loc ?_
      refine sndP_loc ?_ ?_
      decide +kernel
      decide +kernel
      refine sndE_call h_fTake ?_ ?_ ?_ ?_ ?_ ?_ ?_
      decide
      kernel_rfl
      kernel_rfl
      decide +kernel
      decide +kernel
      refine sndL_cons ?_ ?_ ?_
      exact rfl
      refine sndE_loc ?_
      refine sndP_loc ?_ ?_
      decide +kernel
      decide +kernel
      refine sndL_cons ?_ ?_ ?_
      exact rfl
      refine sndE_blt blt_len ?_ ?_ ?_ ?_ ?_ ?_ ?_ ?_
      exact (.inl ⟨_, rfl⟩)
      kernel_rfl
      decide +kernel
      decide
      decide +kernel
      decide +kernel
      exact rfl
      refine sndE_loc ?_
      refine sndP_loc ?_ ?_
      decide +kernel
      decide +kernel
      exact sndL_nil
      exact rfl
      exact sndS_nil
  have h_f_law_scene : ∀ {v : Vs}, SndF (PV Mine.main.heap_1_39 v) (XRof (PV Mine.main.heap_1_39 v) 164) 2 f_law_scene (.ref 638) := by
    intro v
    unfold f_law_scene
    refine' sndF_def (XL := xleave) ?hox34 ?hcdx34 ?hbx34 ?hlocx34 ?ndx34 ?hcox34 ?hgenx34 ?hkx34 ?hcellx34 ?hscrx34 ?hbodyx34
    case hox34 => rfl
    case hcdx34 => kernel_rfl
    case hbx34 => exact bindOk1 (fun _ => by kernel_rfl)
    case hlocx34 => exact hloc_of (by decide +kernel)
    case ndx34 => decide
    case hcox34 => rfl
    case hgenx34 => rfl
    case hkx34 => rfl
    case hcellx34 => exact hcell_of (by decide +kernel)
    case hscrx34 => decide +kernel
    case hbodyx34 =>
      unfold b_law_scene
      refine sndS_cons ?_ ?_
      refine sndS_ast ?_ ?_ ?_ ?_ ?_ ?_
      exact (.cons (by decide +kernel) (.cons (by decide +kernel) .nil))
      decide
      refine stors_at ?_
      decide +kernel
      exact (fun _ => rfl)
      first | exact .inl (fun F h => by obtain ⟨_, _, _, _, _, _, cs1, _, _, _, _, _, _, _⟩ := F; have h1 : cs1 = _ := h; subst h1; rfl) | exact .inr (fun F h => by obtain ⟨_, _, _, _, _, _, cs1, _, _, _, _, _, _, _⟩ := F; have h1 : cs1 = _ := h; subst h1; rfl)
      refine sndE_pu ?_
      refine sndP_tup ?_ ?_
      refine sndPs_cons ?_ ?_ ?_
      exact rfl
      refine sndP_tup ?_ ?_
      refine sndPs_cons ?_ ?_ ?_
      exact rfl
      refine sndP_str ?_ ?_
      decide +kernel
      decide
      refine sndPs_cons ?_ ?_ ?_
      exact rfl
      refine sndP_str ?_ ?_
      decide +kernel
      decide
      exact sndPs_nil
      decide +kernel
      refine sndPs_cons ?_ ?_ ?_
      exact rfl
      refine sndP_tup ?_ ?_
      refine sndPs_cons ?_ ?_ ?_
      exact rfl
      refine sndP_str ?_ ?_
      decide +kernel
      decide
      refine sndPs_cons ?_ ?_ ?_
      exact rfl
      refine sndP_str ?_ ?_
      decide +kernel
      decide
      exact sndPs_nil
      decide +kernel
      exact sndPs_nil
      decide +kernel
      refine sndS_cons ?_ ?_
      refine sndS_asn ?_ ?_ ?_ ?_
      decide +kernel
      exact (fun _ => rfl)
      refine stor_at ?_
      decide +kernel
      refine sndE_dic (ks := [10]) ?_ ?_ ?_ ?_ ?_ ?_ ?_
      exact xoth
      refine sndD_cons ?_ ?_ ?_ ?_
      decide +kernel
      decide
      refine sndE_lst ?_ ?_
      refine sndL_cons ?_ ?_ ?_
      exact rfl
      refine sndE_pu ?_
      refine sndP_tup ?_ ?_
      refine sndPs_cons ?_ ?_ ?_
      exact rfl
      refine sndP_str ?_ ?_
      decide +kernel
      decide
      refine sndPs_cons ?_ ?_ ?_
      exact rfl
      refine sndP_tup ?_ ?_
      refine sndPs_cons ?_ ?_ ?_
      exact rfl
      refine sndP_str ?_ ?_
      decide +kernel
      decide
      refine sndPs_cons ?_ ?_ ?_
      exact rfl
      refine sndP_str ?_ ?_
      decide +kernel
      decide
      exact sndPs_nil
      decide +kernel
      refine sndPs_cons ?_ ?_ ?_
      exact rfl
      exact sndP_bool
      exact sndPs_nil
      decide +kernel
      refine sndL_cons ?_ ?_ ?_
      exact rfl
      refine sndE_pu ?_
      refine sndP_tup ?_ ?_
      refine sndPs_cons ?_ ?_ ?_
      exact rfl
      refine sndP_str ?_ ?_
      decide +kernel
      decide
      refine sndPs_cons ?_ ?_ ?_
      exact rfl
      refine sndP_tup ?_ ?_
      refine sndPs_cons ?_ ?_ ?_
      exact rfl
      refine sndP_str ?_ ?_
      decide +kernel
      decide
      exact sndPs_nil
      decide +kernel
      refine sndPs_cons ?_ ?_ ?_
      exact rfl
      exact sndP_bool
      exact sndPs_nil
      decide +kernel
      exact sndL_nil
      decide +kernel
      exact sndD_nil
      rfl
      rfl
      simp
      decide +kernel
      decide
      refine sndS_cons ?_ ?_
      refine sndS_ass ?_ ?_ ?_ ?_
      exact (fun _ => rfl)
      refine sndE_lst ?_ ?_
      refine sndL_cons ?_ ?_ ?_
      exact rfl
      refine sndE_pu ?_
      refine sndP_tup ?_ ?_
      refine sndPs_cons ?_ ?_ ?_
      exact rfl
      refine sndP_str ?_ ?_
      decide +kernel
      decide
      refine sndPs_cons ?_ ?_ ?_
      exact rfl
      refine sndP_tup ?_ ?_
      refine sndPs_cons ?_ ?_ ?_
      exact rfl
      refine sndP_str ?_ ?_
      decide +kernel
      decide
      exact sndPs_nil
      decide +kernel
      refine sndPs_cons ?_ ?_ ?_
      exact rfl
      exact sndP_bool
      exact sndPs_nil
      decide +kernel
      refine sndL_cons ?_ ?_ ?_
      exact rfl
      refine sndE_tup ?_ ?_
      refine sndL_cons ?_ ?_ ?_
      exact rfl
      refine sndE_con ?_
      refine sndP_str ?_ ?_
      decide +kernel
      decide
      refine sndL_cons ?_ ?_ ?_
      exact rfl
      refine sndE_call h_f_law_one ?_ ?_ ?_ ?_ ?_ ?_ ?_
      decide
      kernel_rfl
      kernel_rfl
      decide +kernel
      decide +kernel
      refine sndL_cons ?_ ?_ ?_
      exact rfl
      refine sndE_loc ?_
      refine sndP_loc ?_ ?_
      decide +kernel
      decide +kernel
      refine sndL_cons ?_ ?_ ?_
      exact rfl
      refine sndE_lst ?_ ?_
      refine sndL_cons ?_ ?_ ?_
      exact rfl
      refine sndE_loc ?_
      refine sndP_loc ?_ ?_
      decide +kernel
      decide +kernel
      refine sndL_cons ?_ ?_ ?_
      exact rfl
      refine sndE_pu ?_
      refine sndP_tup ?_ ?_
      refine sndPs_cons ?_ ?_ ?_
      exact rfl
      refine sndP_str ?_ ?_
      decide +kernel
      decide
      refine sndPs_cons ?_ ?_ ?_
      exact rfl
      refine sndP_loc ?_ ?_
      decide +kernel
      decide +kernel
      exact sndPs_nil
      decide +kernel
      exact sndL_nil
      decide +kernel
      exact sndL_nil
      exact rfl
      refine sndL_cons ?_ ?_ ?_
      exact rfl
      refine sndE_con ?_
      exact sndP_bool
      exact sndL_nil
      decide +kernel
      exact sndL_nil
      decide +kernel
      refine sndE_loc ?_
      refine sndP_loc ?_ ?_
      decide +kernel
      decide +kernel
      refine sndE_con ?_
      refine sndP_str ?_ ?_
      decide +kernel
      decide
      refine sndS_cons ?_ ?_
      refine sndS_ass ?_ ?_ ?_ ?_
      exact (fun _ => rfl)
      refine sndE_lst ?_ ?_
      refine sndL_cons ?_ ?_ ?_
      exact rfl
      refine sndE_pu ?_
      refine sndP_tup ?_ ?_
      refine sndPs_cons ?_ ?_ ?_
      exact rfl
      refine sndP_str ?_ ?_
      decide +kernel
      decide
      refine sndPs_cons ?_ ?_ ?_
      exact rfl
      refine sndP_tup ?_ ?_
      refine sndPs_cons ?_ ?_ ?_
      exact rfl
      refine sndP_str ?_ ?_
      decide +kernel
      decide
      exact sndPs_nil
      decide +kernel
      refine sndPs_cons ?_ ?_ ?_
      exact rfl
      exact sndP_bool
      exact sndPs_nil
      decide +kernel
      refine sndL_cons ?_ ?_ ?_
      exact rfl
      refine sndE_tup ?_ ?_
      refine sndL_cons ?_ ?_ ?_
      exact rfl
      refine sndE_con ?_
      refine sndP_str ?_ ?_
      decide +kernel
      decide
      refine sndL_cons ?_ ?_ ?_
      exact rfl
      refine sndE_call h_f_law_one ?_ ?_ ?_ ?_ ?_ ?_ ?_
      decide
      kernel_rfl
      kernel_rfl
      decide +kernel
      decide +kernel
      refine sndL_cons ?_ ?_ ?_
      exact rfl
      refine sndE_loc ?_
      refine sndP_loc ?_ ?_
      decide +kernel
      decide +kernel
      refine sndL_cons ?_ ?_ ?_
      exact rfl
      refine sndE_lst ?_ ?_
      refine sndL_cons ?_ ?_ ?_
      exact rfl
      refine sndE_loc ?_
      refine sndP_loc ?_ ?_
      decide +kernel
      decide +kernel
      refine sndL_cons ?_ ?_ ?_
      exact rfl
      refine sndE_pu ?_
      refine sndP_tup ?_ ?_
      refine sndPs_cons ?_ ?_ ?_
      exact rfl
      refine sndP_str ?_ ?_
      decide +kernel
      decide
      refine sndPs_cons ?_ ?_ ?_
      exact rfl
      refine sndP_loc ?_ ?_
      decide +kernel
      decide +kernel
      exact sndPs_nil
      decide +kernel
      exact sndL_nil
      decide +kernel
      exact sndL_nil
      exact rfl
      refine sndL_cons ?_ ?_ ?_
      exact rfl
      refine sndE_con ?_
      exact sndP_bool
      exact sndL_nil
      decide +kernel
      exact sndL_nil
      decide +kernel
      refine sndE_loc ?_
      refine sndP_loc ?_ ?_
      decide +kernel
      decide +kernel
      refine sndE_con ?_
      refine sndP_str ?_ ?_
      decide +kernel
      decide
      refine sndS_cons ?_ ?_
      refine sndS_asn ?_ ?_ ?_ ?_
      decide +kernel
      exact (fun _ => rfl)
      refine stor_at ?_
      decide +kernel
      refine sndE_call h_f_law_one ?_ ?_ ?_ ?_ ?_ ?_ ?_
      decide
      kernel_rfl
      kernel_rfl
      decide +kernel
      decide +kernel
      refine sndL_cons ?_ ?_ ?_
      exact rfl
      refine sndE_loc ?_
      refine sndP_loc ?_ ?_
      decide +kernel
      decide +kernel
      refine sndL_cons ?_ ?_ ?_
      exact rfl
      refine sndE_lst ?_ ?_
      refine sndL_cons ?_ ?_ ?_
      exact rfl
      refine sndE_con ?_
      exact sndP_none
      refine sndL_cons ?_ ?_ ?_
      exact rfl
      refine sndE_con ?_
      exact sndP_none
      refine sndL_cons ?_ ?_ ?_
      exact rfl
      refine sndE_con ?_
      refine sndP_str ?_ ?_
      decide +kernel
      decide
      refine sndL_cons ?_ ?_ ?_
      exact rfl
      refine sndE_con ?_
      refine sndP_str ?_ ?_
      decide +kernel
      decide
      exact sndL_nil
      decide +kernel
      exact sndL_nil
      exact rfl
      refine sndS_cons ?_ ?_
      refine sndS_iff ?_ ?_ ?_
      refine sndT_pu ?_
      refine sndPT_cmp cmp_isnot ?_ ?_ ?_
      exact rfl
      refine sndP_loc ?_ ?_
      decide +kernel
      decide +kernel
      exact sndP_none
      refine sndS_cons ?_ ?_
      refine sndS_exp ?_ ?_ ?_
      exact (fun _ => rfl)
      refine inter_of ?_
      exact rfl
      refine sndE_mthL mth_insert PySem.F.slot_list_insert ?_ ?_ ?_ ?_ ?_ ?_ ?_
      kernel_rfl
      exact (fun _ => rfl)
      exact rfl
      exact rfl
      decide
      refine sndE_pu ?_
      refine sndP_sub ?_ ?_ ?_
      exact rfl
      refine sndP_loc ?_ ?_
      decide +kernel
      decide +kernel
      refine sndP_str ?_ ?_
      decide +kernel
      decide
      refine sndL_cons ?_ ?_ ?_
      exact rfl
      refine sndE_call h_fTake ?_ ?_ ?_ ?_ ?_ ?_ ?_
      decide
      kernel_rfl
      kernel_rfl
      decide +kernel
      decide +kernel
      refine sndL_cons ?_ ?_ ?_
      exact rfl
      refine sndE_loc ?_
      refine sndP_loc ?_ ?_
      decide +kernel
      decide +kernel
      refine sndL_cons ?_ ?_ ?_
      exact rfl
      refine sndE_con ?_
      exact sndP_int
      exact sndL_nil
      exact rfl
      refine sndL_cons ?_ ?_ ?_
      exact rfl
      refine sndE_pu ?_
      refine sndP_tup ?_ ?_
      refine sndPs_cons ?_ ?_ ?_
      exact rfl
      refine sndP_loc ?_ ?_
      decide +kernel
      decide +kernel
      refine sndPs_cons ?_ ?_ ?_
      exact rfl
      refine sndP_tup ?_ ?_
      refine sndPs_cons ?_ ?_ ?_
      exact rfl
      refine sndP_str ?_ ?_
      decide +kernel
      decide
      refine sndPs_cons ?_ ?_ ?_
      exact rfl
      refine sndP_str ?_ ?_
      decide +kernel
      decide
      exact sndPs_nil
      decide +kernel
      refine sndPs_cons ?_ ?_ ?_
      exact rfl
      exact sndP_bool
      exact sndPs_nil
      decide +kernel
      exact sndL_nil
      exact sndS_nil
      exact sndS_nil
      refine sndS_cons ?_ ?_
      refine sndS_iff ?_ ?_ ?_
      refine sndT_cmp cmp_eq cmpQ_eq ?_ ?_ ?_
      exact rfl
      refine sndE_call h_fTake ?_ ?_ ?_ ?_ ?_ ?_ ?_
      decide
      kernel_rfl
      kernel_rfl
      decide +kernel
      decide +kernel
      refine sndL_cons ?_ ?_ ?_
      exact rfl
      refine sndE_loc ?_
      refine sndP_loc ?_ ?_
      decide +kernel
      decide +kernel
      refine sndL_cons ?_ ?_ ?_
      exact rfl
      refine sndE_con ?_
      exact sndP_int
      exact sndL_nil
      exact rfl
      refine sndE_con ?_
      exact sndP_int
      refine sndS_cons ?_ ?_
      refine sndS_ass ?_ ?_ ?_ ?_
      exact (fun _ => rfl)
      refine sndE_slC ?_
      refine sndE_pu ?_
      refine sndP_sub ?_ ?_ ?_
      exact rfl
      refine sndP_loc ?_ ?_
      decide +kernel
      decide +kernel
      refine sndP_str ?_ ?_
      decide +kernel
      decide
      refine sndE_loc ?_
      refine sndP_loc ?_ ?_
      decide +kernel
      decide +kernel
      refine sndE_con ?_
      refine sndP_str ?_ ?_
      decide +kernel
      decide
      exact sndS_nil
      exact sndS_nil
      refine sndS_cons ?_ ?_
      refine sndS_ret ?_
      refine sndE_dic (ks := [136, 31]) ?_ ?_ ?_ ?_ ?_ ?_ ?_
      exact xoth
      refine sndD_cons ?_ ?_ ?_ ?_
      decide +kernel
      decide
      refine sndE_loc ?_
      refine sndP_loc ?_ ?_
      decide +kernel
      decide +kernel
      refine sndD_cons ?_ ?_ ?_ ?_
      decide +kernel
      decide
      refine sndE_dic (ks := [2, 3]) ?_ ?_ ?_ ?_ ?_ ?_ ?_
      exact xoth
      refine sndD_cons ?_ ?_ ?_ ?_
      decide +kernel
      decide
      refine sndE_cmp cmp_eq cmpQ_eq ?_ ?_ ?_
      exact rfl
      refine sndE_call h_fTake ?_ ?_ ?_ ?_ ?_ ?_ ?_
      decide
      kernel_rfl
      kernel_rfl
      decide +kernel
      decide +kernel
      refine sndL_cons ?_ ?_ ?_
      exact rfl
      refine sndE_loc ?_
      refine sndP_loc ?_ ?_
      decide +kernel
      decide +kernel
      refine sndL_cons ?_ ?_ ?_
      exact rfl
      refine sndE_con ?_
      exact sndP_int
      exact sndL_nil
      exact rfl
      refine sndE_con ?_
      exact sndP_int
      refine sndD_cons ?_ ?_ ?_ ?_
      decide +kernel
      decide
      refine sndE_cmp cmp_eq cmpQ_eq ?_ ?_ ?_
      exact rfl
      refine sndE_call h_fTake ?_ ?_ ?_ ?_ ?_ ?_ ?_
      decide
      kernel_rfl
      kernel_rfl
      decide +kernel
      decide +kernel
      refine sndL_cons ?_ ?_ ?_
      exact rfl
      refine sndE_loc ?_
      refine sndP_loc ?_ ?_
      decide +kernel
      decide +kernel
      refine sndL_cons ?_ ?_ ?_
      exact rfl
      refine sndE_con ?_
      exact sndP_int
      exact sndL_nil
      exact rfl
      refine sndE_con ?_
      exact sndP_int
      exact sndD_nil
      rfl
      rfl
      simp
      decide +kernel
      decide
      exact sndD_nil
      rfl
      rfl
      simp
      decide +kernel
      decide
      exact sndS_nil
  have h_f_law_checker : ∀ {v : Vs}, SndF (PV Mine.main.heap_1_39 v) (XRof (PV Mine.main.heap_1_39 v) 164) 3 f_law_checker (.ref 643) := by
    intro v
    unfold f_law_checker
    refine' sndF_defC (XL := xleave) ?hox35 ?hcdx35 ?hbx35 ?hlocx35 ?ndx35 ?hcox35 ?hgenx35 ?hkx35 ?hndx35 ?hscrx35 ?hbodyx35
    case hox35 => rfl
    case hcdx35 => kernel_rfl
    case hbx35 => exact bindOk1 (fun _ => by kernel_rfl)
    case hlocx35 => exact hlocC_of (by decide +kernel)
    case ndx35 => decide
    case hcox35 => rfl
    case hgenx35 => rfl
    case hkx35 => rfl
    case hndx35 => decide +kernel
    case hscrx35 => decide +kernel
    case hbodyx35 =>
      unfold b_law_checker
      refine sndS_cons ?_ ?_
      refine sndS_asn ?_ ?_ ?_ ?_
      decide +kernel
      exact (fun _ => rfl)
      refine stor_at ?_
      decide +kernel
      refine sndE_new0 h_f_World_init ?_ ?_ ?_ ?_ ?_ ?_ ?_ ?_ ?_
      decide
      decide
      kernel_rfl
      kernel_rfl
      kernel_rfl
      kernel_rfl
      kernel_rfl
      decide +kernel
      decide +kernel
      refine sndS_cons ?_ ?_
      refine sndS_asn ?_ ?_ ?_ ?_
      decide +kernel
      exact (fun _ => rfl)
      refine stor_at ?_
      decide +kernel
      refine sndE_blt blt_dict ?_ ?_ ?_ ?_ ?_ ?_ ?_ ?_
      exact (.inr ⟨_, rfl⟩)
      kernel_rfl
      decide +kernel
      decide
      decide +kernel
      decide +kernel
      exact rfl
      refine sndE_lcp ?_ ?_ ?_ ?_ ?_
      exact ⟨rfl, (by decide +kernel), (by decide +kernel), (by decide +kernel), (by decide +kernel)⟩
      exact testsOk_nil
      refine eltOk_pu ?_
      refine sndP_tup ?_ ?_
      refine sndPs_cons ?_ ?_ ?_
      exact rfl
      refine sndP_loc ?_ ?_
      decide +kernel
      decide +kernel
      refine sndPs_cons ?_ ?_ ?_
      exact rfl
      refine sndP_tup ?_ ?_
      refine sndPs_cons ?_ ?_ ?_
      exact rfl
      refine sndP_sub ?_ ?_ ?_
      exact rfl
      refine sndP_sub ?_ ?_ ?_
      exact rfl
      refine sndP_loc ?_ ?_
      decide +kernel
      decide +kernel
      refine sndP_str ?_ ?_
      decide +kernel
      decide
      refine sndP_loc ?_ ?_
      decide +kernel
      decide +kernel
      refine sndPs_cons ?_ ?_ ?_
      exact rfl
      refine sndP_glb (v := .ref 631) ?_ ?_ ?_ ?_
      kernel_rfl
      decide +kernel
      decide +kernel
      refine kvr_sound (n := 5) ?_
      kernel_rfl
      refine sndPs_cons ?_ ?_ ?_
      exact rfl
      refine sndP_add ?_ ?_
      refine sndP_str ?_ ?_
      decide +kernel
      decide
      refine sndP_loc ?_ ?_
      decide +kernel
      decide +kernel
      exact sndPs_nil
      decide +kernel
      exact sndPs_nil
      decide +kernel
      refine firstC_keys ?_ ?_
      refine sndE_pu ?_
      refine sndP_sub ?_ ?_ ?_
      exact rfl
      refine sndP_loc ?_ ?_
      decide +kernel
      decide +kernel
      refine sndP_str ?_ ?_
      decide +kernel
      decide
      exact (fun _ h _ _ _ _ _ _ _ => tgtC_one rfl (by decide +kernel) (by decide) (by rw [h]; decide +kernel))
      exact (fun _ _ => rfl)
      refine sndS_cons ?_ ?_
      refine sndS_for_keys ?_ ?_ ?_ ?_
      refine tg_key1 ?_ ?_
      decide +kernel
      decide +kernel
      exact (fun _ _ => rfl)
      refine sndE_pu ?_
      refine sndP_sub ?_ ?_ ?_
      exact rfl
      refine sndP_loc ?_ ?_
      decide +kernel
      decide +kernel
      refine sndP_str ?_ ?_
      decide +kernel
      decide
      refine sndS_cons ?_ ?_
      refine sndS_asn ?_ ?_ ?_ ?_
      decide +kernel
      exact (fun _ => rfl)
      refine stor_at ?_
      decide +kernel
      refine sndE_ife ?_ ?_ ?_
      refine sndT_pu ?_
      refine sndPT_cmp cmp_eq ?_ ?_ ?_
      exact rfl
      refine sndP_loc ?_ ?_
      decide +kernel
      decide +kernel
      refine sndP_str ?_ ?_
      decide +kernel
      decide
      refine sndE_loc ?_
      refine sndP_loc ?_ ?_
      decide +kernel
      decide +kernel
      exact sndE_dic0
      refine sndS_cons ?_ ?_
      refine sndS_ass ?_ ?_ ?_ ?_
      exact (fun _ => rfl)
      refine sndE_new h_f_NamedRow_init ?_ ?_ ?_ ?_ ?_ ?_ ?_ ?_ ?_ ?_ ?_
      decide
      decide
      kernel_rfl
      kernel_rfl
      kernel_rfl
      kernel_rfl
      kernel_rfl
      decide +kernel
      decide +kernel
      refine sndL_cons ?_ ?_ ?_
      exact rfl
      refine sndE_loc ?_
      refine sndP_loc ?_ ?_
      decide +kernel
      decide +kernel
      refine sndL_cons ?_ ?_ ?_
      exact rfl
      refine sndE_pu ?_
      refine sndP_sub ?_ ?_ ?_
      exact rfl
      refine sndP_loc ?_ ?_
      decide +kernel
      decide +kernel
      exact sndP_int
      refine sndL_cons ?_ ?_ ?_
      exact rfl
      refine sndE_tup ?_ ?_
      refine sndL_cons ?_ ?_ ?_
      exact rfl
      refine sndE_con ?_
      refine sndP_str ?_ ?_
      decide +kernel
      decide
      refine sndL_cons ?_ ?_ ?_
      exact rfl
      refine sndE_blt blt_tup ?_ ?_ ?_ ?_ ?_ ?_ ?_ ?_
      exact (.inr ⟨_, rfl⟩)
      kernel_rfl
      decide +kernel
      decide
      decide +kernel
      decide +kernel
      exact rfl
      refine sndE_pu ?_
      refine sndP_sub ?_ ?_ ?_
      exact rfl
      refine sndP_sub ?_ ?_ ?_
      exact rfl
      refine sndP_loc ?_ ?_
      decide +kernel
      decide +kernel
      refine sndP_str ?_ ?_
      decide +kernel
      decide
      refine sndP_loc ?_ ?_
      decide +kernel
      decide +kernel
      exact sndL_nil
      decide +kernel
      refine sndL_cons ?_ ?_ ?_
      exact rfl
      refine sndE_loc ?_
      refine sndP_loc ?_ ?_
      decide +kernel
      decide +kernel
      exact sndL_nil
      exact rfl
      refine sndE_pu ?_
      refine sndP_att hCO ?_ ?_ ?_ ?_
      decide +kernel
      decide
      exact (fun _ => rfl)
      refine sndP_loc ?_ ?_
      decide +kernel
      decide +kernel
      refine sndE_loc ?_
      refine sndP_loc ?_ ?_
      decide +kernel
      decide +kernel
      exact sndS_nil
      refine sndS_cons ?_ ?_
      refine sndS_ret ?_
      refine sndE_new h_f_Checker_init ?_ ?_ ?_ ?_ ?_ ?_ ?_ ?_ ?_ ?_ ?_
      decide
      decide
      kernel_rfl
      kernel_rfl
      kernel_rfl
      kernel_rfl
      kernel_rfl
      decide +kernel
      decide +kernel
      refine sndL_cons ?_ ?_ ?_
      exact rfl
      refine sndE_loc ?_
      refine sndP_loc ?_ ?_
      decide +kernel
      decide +kernel
      refine sndL_cons ?_ ?_ ?_
      exact rfl
      refine sndE_con ?_
      refine sndP_str ?_ ?_
      decide +kernel
      decide
      refine sndL_cons ?_ ?_ ?_
      exact rfl
      refine sndE_con ?_
      exact sndP_none
      refine sndL_cons ?_ ?_ ?_
      exact rfl
      refine sndE_con ?_
      refine sndP_str ?_ ?_
      decide +kernel
      decide
      refine sndL_cons ?_ ?_ ?_
      exact rfl
      exact sndE_dic0
      refine sndL_cons ?_ ?_ ?_
      exact rfl
      refine sndE_con ?_
      exact sndP_none
      exact sndL_nil
      exact rfl
      exact sndS_nil
  have h_f_law_field : ∀ {v : Vs}, SndF (PV Mine.main.heap_1_39 v) (XRof (PV Mine.main.heap_1_39 v) 164) 0 f_law_field (.ref 650) := by
    intro v
    unfold f_law_field
    refine' sndF_def (XL := xleave) ?hox36 ?hcdx36 ?hbx36 ?hlocx36 ?ndx36 ?hcox36 ?hgenx36 ?hkx36 ?hcellx36 ?hscrx36 ?hbodyx36
    case hox36 => rfl
    case hcdx36 => kernel_rfl
    case hbx36 => exact bindOk3 (fun _ _ _ => by kernel_rfl)
    case hlocx36 => exact hloc_of (by decide +kernel)
    case ndx36 => decide
    case hcox36 => rfl
    case hgenx36 => rfl
    case hkx36 => rfl
    case hcellx36 => exact hcell_of (by decide +kernel)
    case hscrx36 => decide +kernel
    case hbodyx36 =>
      unfold b_law_field
      refine sndS_cons ?_ ?_
      refine sndS_iff ?_ ?_ ?_
      refine sndT_pu ?_
      refine sndPT_cmp cmp_eq ?_ ?_ ?_
      exact rfl
      refine sndP_sub ?_ ?_ ?_
      exact rfl
      refine sndP_sub ?_ ?_ ?_
      exact rfl
      refine sndP_loc ?_ ?_
      decide +kernel
      decide +kernel
      exact sndP_int
      exact sndP_int
      refine sndP_str ?_ ?_
      decide +kernel
      decide
      refine sndS_cons ?_ ?_
      refine sndS_asn ?_ ?_ ?_ ?_
      decide +kernel
      exact (fun _ => rfl)
      refine stor_at ?_
      decide +kernel
      refine sndE_pu ?_
      refine sndP_tup ?_ ?_
      refine sndPs_cons ?_ ?_ ?_
      exact rfl
      refine sndP_str ?_ ?_
      decide +kernel
      decide
      refine sndPs_cons ?_ ?_ ?_
      exact rfl
      refine sndP_sub ?_ ?_ ?_
      exact rfl
      refine sndP_sub ?_ ?_ ?_
      exact rfl
      refine sndP_loc ?_ ?_
      decide +kernel
      decide +kernel
      exact sndP_int
      exact sndP_int
      refine sndPs_cons ?_ ?_ ?_
      exact rfl
      exact sndP_int
      refine sndPs_cons ?_ ?_ ?_
      exact rfl
      refine sndP_loc ?_ ?_
      decide +kernel
      decide +kernel
      exact sndPs_nil
      decide +kernel
      exact sndS_nil
      exact sndS_nil
      refine sndS_cons ?_ ?_
      refine sndS_ret ?_
      refine sndE_pu ?_
      refine sndP_tup ?_ ?_
      refine sndPs_cons ?_ ?_ ?_
      exact rfl
      refine sndP_str ?_ ?_
      decide +kernel
      decide
      refine sndPs_cons ?_ ?_ ?_
      exact rfl
      refine sndP_sub ?_ ?_ ?_
      exact rfl
      refine sndP_sub ?_ ?_ ?_
      exact rfl
      refine sndP_sub ?_ ?_ ?_
      exact rfl
      refine sndP_sub ?_ ?_ ?_
      exact rfl
      refine sndP_loc ?_ ?_
      decide +kernel
      decide +kernel
      refine sndP_str ?_ ?_
      decide +kernel
      decide
      refine sndP_sub ?_ ?_ ?_
      exact rfl
      refine sndP_sub ?_ ?_ ?_
      exact rfl
      refine sndP_loc ?_ ?_
      decide +kernel
      decide +kernel
      exact sndP_int
      exact sndP_int
      refine sndP_loc ?_ ?_
      decide +kernel
      decide +kernel
      exact sndP_int
      refine sndPs_cons ?_ ?_ ?_
      exact rfl
      exact sndP_int
      refine sndPs_cons ?_ ?_ ?_
      exact rfl
      refine sndP_loc ?_ ?_
      decide +kernel
      decide +kernel
      refine sndPs_cons ?_ ?_ ?_
      exact rfl
      refine sndP_loc ?_ ?_
      decide +kernel
      decide +kernel
      exact sndPs_nil
      decide +kernel
      exact sndS_nil
  have h_f_law_receiver : ∀ {v : Vs}, SndF (PV Mine.main.heap_1_39 v) (XRof (PV Mine.main.heap_1_39 v) 164) 0 f_law_receiver (.ref 657) := by
    intro v
    unfold f_law_receiver
    refine' sndF_def (XL := xleave) ?hox37 ?hcdx37 ?hbx37 ?hlocx37 ?ndx37 ?hcox37 ?hgenx37 ?hkx37 ?hcellx37 ?hscrx37 ?hbodyx37
    case hox37 => rfl
    case hcdx37 => kernel_rfl
    case hbx37 => exact bindOk2 (fun _ _ => by kernel_rfl)
    case hlocx37 => exact hloc_of (by decide +kernel)
    case ndx37 => decide
    case hcox37 => rfl
    case hgenx37 => rfl
    case hkx37 => rfl
    case hcellx37 => exact hcell_of (by decide +kernel)
    case hscrx37 => decide +kernel
    case hbodyx37 =>
      unfold b_law_receiver
      refine sndS_cons ?_ ?_
      refine sndS_iff ?_ ?_ ?_
      refine sndT_pu ?_
      refine sndPT_not ?_
      refine sndPT_val ?_ ?_
      exact (fun _ _ => rfl)
      refine sndP_loc ?_ ?_
      decide +kernel
      decide +kernel
      refine sndS_cons ?_ ?_
      refine sndS_ret ?_
      refine sndE_pu ?_
      refine sndP_ife ?_ ?_ ?_
      refine sndPT_cmp cmp_eq ?_ ?_ ?_
      exact rfl
      refine sndP_sub ?_ ?_ ?_
      exact rfl
      refine sndP_sub ?_ ?_ ?_
      exact rfl
      refine sndP_loc ?_ ?_
      decide +kernel
      decide +kernel
      exact sndP_int
      exact sndP_int
      refine sndP_str ?_ ?_
      decide +kernel
      decide
      refine sndP_tup ?_ ?_
      refine sndPs_cons ?_ ?_ ?_
      exact rfl
      refine sndP_str ?_ ?_
      decide +kernel
      decide
      refine sndPs_cons ?_ ?_ ?_
      exact rfl
      refine sndP_sub ?_ ?_ ?_
      exact rfl
      refine sndP_sub ?_ ?_ ?_
      exact rfl
      refine sndP_loc ?_ ?_
      decide +kernel
      decide +kernel
      exact sndP_int
      exact sndP_int
      refine sndPs_cons ?_ ?_ ?_
      exact rfl
      exact sndP_int
      refine sndPs_cons ?_ ?_ ?_
      exact rfl
      refine sndP_loc ?_ ?_
      decide +kernel
      decide +kernel
      exact sndPs_nil
      decide +kernel
      refine sndP_loc ?_ ?_
      decide +kernel
      decide +kernel
      exact sndS_nil
      exact sndS_nil
      refine sndS_cons ?_ ?_
      refine sndS_iff ?_ ?_ ?_
      refine sndT_pu ?_
      refine sndPT_cmp cmp_eq ?_ ?_ ?_
      exact rfl
      refine sndP_sub ?_ ?_ ?_
      exact rfl
      refine sndP_sub ?_ ?_ ?_
      exact rfl
      refine sndP_loc ?_ ?_
      decide +kernel
      decide +kernel
      exact sndP_int
      exact sndP_int
      refine sndP_str ?_ ?_
      decide +kernel
      decide
      refine sndS_cons ?_ ?_
      refine sndS_ret ?_
      refine sndE_loc ?_
      refine sndP_loc ?_ ?_
      decide +kernel
      decide +kernel
      exact sndS_nil
      exact sndS_nil
      refine sndS_cons ?_ ?_
      refine sndS_asn ?_ ?_ ?_ ?_
      decide +kernel
      exact (fun _ => rfl)
      refine stor_at ?_
      decide +kernel
      refine sndE_loc ?_
      refine sndP_loc ?_ ?_
      decide +kernel
      decide +kernel
      refine sndS_cons ?_ ?_
      refine sndS_whl ?_ ?_
      refine sndT_pu ?_
      refine sndPT_cmp cmp_eq ?_ ?_ ?_
      exact rfl
      refine sndP_sub ?_ ?_ ?_
      exact rfl
      refine sndP_loc ?_ ?_
      decide +kernel
      decide +kernel
      exact sndP_int
      refine sndP_str ?_ ?_
      decide +kernel
      decide
      refine sndS_cons ?_ ?_
      refine sndS_asn ?_ ?_ ?_ ?_
      decide +kernel
      exact (fun _ => rfl)
      refine stor_at ?_
      decide +kernel
      refine sndE_pu ?_
      refine sndP_sub ?_ ?_ ?_
      exact rfl
      refine sndP_loc ?_ ?_
      decide +kernel
      decide +kernel
      exact sndP_int
      exact sndS_nil
      refine sndS_cons ?_ ?_
      refine sndS_ret ?_
      refine sndE_ife ?_ ?_ ?_
      refine sndT_cmp cmp_in cmpQ_in ?_ ?_ ?_
      exact rfl
      refine sndE_pu ?_
      refine sndP_sub ?_ ?_ ?_
      exact rfl
      refine sndP_loc ?_ ?_
      decide +kernel
      decide +kernel
      exact sndP_int
      refine sndE_lst ?_ ?_
      refine sndL_cons ?_ ?_ ?_
      exact rfl
      refine sndE_con ?_
      refine sndP_str ?_ ?_
      decide +kernel
      decide
      refine sndL_cons ?_ ?_ ?_
      exact rfl
      refine sndE_con ?_
      refine sndP_str ?_ ?_
      decide +kernel
      decide
      exact sndL_nil
      decide +kernel
      refine sndE_pu ?_
      refine sndP_tup ?_ ?_
      refine sndPs_cons ?_ ?_ ?_
      exact rfl
      refine sndP_str ?_ ?_
      decide +kernel
      decide
      refine sndPs_cons ?_ ?_ ?_
      exact rfl
      refine sndP_tup ?_ ?_
      refine sndPs_cons ?_ ?_ ?_
      exact rfl
      refine sndP_str ?_ ?_
      decide +kernel
      decide
      refine sndPs_cons ?_ ?_ ?_
      exact rfl
      refine sndP_sub ?_ ?_ ?_
      exact rfl
      refine sndP_loc ?_ ?_
      decide +kernel
      decide +kernel
      exact sndP_int
      exact sndPs_nil
      decide +kernel
      refine sndPs_cons ?_ ?_ ?_
      exact rfl
      exact sndP_int
      refine sndPs_cons ?_ ?_ ?_
      exact rfl
      refine sndP_loc ?_ ?_
      decide +kernel
      decide +kernel
      exact sndPs_nil
      decide +kernel
      refine sndE_con ?_
      exact sndP_none
      exact sndS_nil
  have h_f_law_due : ∀ {v : Vs}, SndF (PV Mine.main.heap_1_39 v) (XRof (PV Mine.main.heap_1_39 v) 164) 1 f_law_due (.ref 662) := by
    intro v
    unfold f_law_due
    refine' sndF_defC (XL := xleave) ?hox38 ?hcdx38 ?hbx38 ?hlocx38 ?ndx38 ?hcox38 ?hgenx38 ?hkx38 ?hndx38 ?hscrx38 ?hbodyx38
    case hox38 => rfl
    case hcdx38 => kernel_rfl
    case hbx38 => exact bindOk3 (fun _ _ _ => by kernel_rfl)
    case hlocx38 => exact hlocC_of (by decide +kernel)
    case ndx38 => decide
    case hcox38 => rfl
    case hgenx38 => rfl
    case hkx38 => rfl
    case hndx38 => decide +kernel
    case hscrx38 => decide +kernel
    case hbodyx38 =>
      unfold b_law_due
      refine sndS_cons ?_ ?_
      refine sndS_for_rng ?_ ?_ ?_ ?_ ?_ ?_ ?_ ?_
      refine tg_rng1 ?_ ?_
      decide +kernel
      decide +kernel
      exact (fun _ _ => rfl)
      kernel_rfl
      decide +kernel
      decide +kernel
      exact rfl
      refine sndE_con ?_
      exact sndP_int
      refine sndS_cons ?_ ?_
      refine sndS_asn ?_ ?_ ?_ ?_
      decide +kernel
      exact (fun _ => rfl)
      refine stor_at ?_
      decide +kernel
      refine sndE_pu ?_
      refine sndP_ife ?_ ?_ ?_
      refine sndPT_cmp cmp_eq ?_ ?_ ?_
      exact rfl
      refine sndP_sub ?_ ?_ ?_
      exact rfl
      refine sndP_sub ?_ ?_ ?_
      exact rfl
      refine sndP_loc ?_ ?_
      decide +kernel
      decide +kernel
      exact sndP_int
      exact sndP_int
      refine sndP_str ?_ ?_
      decide +kernel
      decide
      refine sndP_sub ?_ ?_ ?_
      exact rfl
      refine sndP_sub ?_ ?_ ?_
      exact rfl
      refine sndP_sub ?_ ?_ ?_
      exact rfl
      refine sndP_loc ?_ ?_
      decide +kernel
      decide +kernel
      exact sndP_int
      exact sndP_int
      exact sndP_int
      refine sndP_sub ?_ ?_ ?_
      exact rfl
      refine sndP_sub ?_ ?_ ?_
      exact rfl
      refine sndP_loc ?_ ?_
      decide +kernel
      decide +kernel
      exact sndP_int
      exact sndP_int
      refine sndS_cons ?_ ?_
      refine sndS_asn ?_ ?_ ?_ ?_
      decide +kernel
      exact (fun _ => rfl)
      refine stor_at ?_
      decide +kernel
      refine sndE_pu ?_
      refine sndP_and ?_ ?_
      refine sndP_cmp cmp_eq ?_ ?_ ?_
      exact rfl
      refine sndP_loc ?_ ?_
      decide +kernel
      decide +kernel
      refine sndP_str ?_ ?_
      decide +kernel
      decide
      refine sndP_and1 ?_
      refine sndP_cmp cmp_eq ?_ ?_ ?_
      exact rfl
      refine sndP_loc ?_ ?_
      decide +kernel
      decide +kernel
      refine sndP_low ?_ ?_ ?_
      exact (fun _ => rfl)
      exact rfl
      refine sndP_loc ?_ ?_
      decide +kernel
      decide +kernel
      refine sndS_cons ?_ ?_
      refine sndS_asn ?_ ?_ ?_ ?_
      decide +kernel
      exact (fun _ => rfl)
      refine stor_at ?_
      decide +kernel
      refine sndE_pu ?_
      refine sndP_sub ?_ ?_ ?_
      exact rfl
      refine sndP_sub ?_ ?_ ?_
      exact rfl
      refine sndP_loc ?_ ?_
      decide +kernel
      decide +kernel
      refine sndP_str ?_ ?_
      decide +kernel
      decide
      refine sndP_loc ?_ ?_
      decide +kernel
      decide +kernel
      refine sndS_cons ?_ ?_
      refine sndS_iff ?_ ?_ ?_
      refine sndT_pu ?_
      refine sndPT_and ?_ ?_
      refine sndPT_cmp cmp_eq ?_ ?_ ?_
      exact rfl
      refine sndP_loc ?_ ?_
      decide +kernel
      decide +kernel
      refine sndP_str ?_ ?_
      decide +kernel
      decide
      refine sndPT_and ?_ ?_
      refine sndPT_cmp cmp_in ?_ ?_ ?_
      exact rfl
      refine sndP_loc ?_ ?_
      decide +kernel
      decide +kernel
      refine sndP_sub ?_ ?_ ?_
      exact rfl
      refine sndP_loc ?_ ?_
      decide +kernel
      decide +kernel
      refine sndP_str ?_ ?_
      decide +kernel
      decide
      refine sndPT_and1 ?_
      refine sndPT_not ?_
      refine sndPT_val ?_ ?_
      exact (fun _ _ => rfl)
      refine sndP_loc ?_ ?_
      decide +kernel
      decide +kernel
      refine sndS_cons ?_ ?_
      refine sndS_asn ?_ ?_ ?_ ?_
      decide +kernel
      exact (fun _ => rfl)
      refine stor_at ?_
      decide +kernel
      refine sndE_call h_f_law_receiver ?_ ?_ ?_ ?_ ?_ ?_ ?_
      decide
      kernel_rfl
      kernel_rfl
      decide +kernel
      decide +kernel
      refine sndL_cons ?_ ?_ ?_
      exact rfl
      refine sndE_loc ?_
      refine sndP_loc ?_ ?_
      decide +kernel
      decide +kernel
      refine sndL_cons ?_ ?_ ?_
      exact rfl
      refine sndE_pu ?_
      refine sndP_sub ?_ ?_ ?_
      exact rfl
      refine sndP_sub ?_ ?_ ?_
      exact rfl
      refine sndP_loc ?_ ?_
      decide +kernel
      decide +kernel
      refine sndP_str ?_ ?_
      decide +kernel
      decide
      refine sndP_loc ?_ ?_
      decide +kernel
      decide +kernel
      exact sndL_nil
      exact rfl
      refine sndS_cons ?_ ?_
      refine sndS_ret ?_
      refine sndE_pu ?_
      refine sndP_ife ?_ ?_ ?_
      refine sndPT_cmp cmp_is ?_ ?_ ?_
      exact rfl
      refine sndP_loc ?_ ?_
      decide +kernel
      decide +kernel
      exact sndP_none
      refine sndP_tup ?_ ?_
      refine sndPs_cons ?_ ?_ ?_
      exact rfl
      refine sndP_str ?_ ?_
      decide +kernel
      decide
      refine sndPs_cons ?_ ?_ ?_
      exact rfl
      exact sndP_int
      exact sndPs_nil
      decide +kernel
      refine sndP_tup ?_ ?_
      refine sndPs_cons ?_ ?_ ?_
      exact rfl
      refine sndP_str ?_ ?_
      decide +kernel
      decide
      refine sndPs_cons ?_ ?_ ?_
      exact rfl
      refine sndP_glb (v := .ref 631) ?_ ?_ ?_ ?_
      kernel_rfl
      decide +kernel
      decide +kernel
      refine kvr_sound (n := 5) ?_
      kernel_rfl
      refine sndPs_cons ?_ ?_ ?_
      exact rfl
      exact sndP_int
      refine sndPs_cons ?_ ?_ ?_
      exact rfl
      refine sndP_loc ?_ ?_
      decide +kernel
      decide +kernel
      refine sndPs_cons ?_ ?_ ?_
      exact rfl
      refine sndP_tup ?_ ?_
      refine sndPs_cons ?_ ?_ ?_
      exact rfl
      refine sndP_str ?_ ?_
      decide +kernel
      decide
      refine sndPs_cons ?_ ?_ ?_
      exact rfl
      refine sndP_add ?_ ?_
      refine sndP_str ?_ ?_
      decide +kernel
      decide
      refine sndP_loc ?_ ?_
      decide +kernel
      decide +kernel
      exact sndPs_nil
      decide +kernel
      exact sndPs_nil
      decide +kernel
      exact sndS_nil
      exact sndS_nil
      refine sndS_cons ?_ ?_
      refine sndS_asn_lcp ?_ ?_ ?_ ?_ ?_ ?_ ?_ ?_
      decide +kernel
      exact ⟨rfl, (by decide +kernel), (by decide +kernel), (by decide +kernel), (by decide +kernel)⟩
      refine testsOk_one ?_
      refine sndPT_cmp cmp_eq ?_ ?_ ?_
      exact rfl
      refine sndP_sub ?_ ?_ ?_
      exact rfl
      refine sndP_sub ?_ ?_ ?_
      exact rfl
      refine sndP_loc ?_ ?_
      decide +kernel
      decide +kernel
      refine sndP_loc ?_ ?_
      decide +kernel
      decide +kernel
      exact sndP_int
      refine sndP_loc ?_ ?_
      decide +kernel
      decide +kernel
      refine eltOk_loc ?_
      refine sndP_loc ?_ ?_
      decide +kernel
      decide +kernel
      refine firstC_rng ?_ ?_ ?_ ?_ ?_ ?_
      exact (fun _ h _ _ _ _ _ => tgtC_one rfl (by decide +kernel) (by decide) (by rw [h]; decide +kernel))
      kernel_rfl
      decide +kernel
      decide +kernel
      exact rfl
      refine sndE_blt blt_len ?_ ?_ ?_ ?_ ?_ ?_ ?_ ?_
      exact (.inl ⟨_, rfl⟩)
      kernel_rfl
      decide +kernel
      decide
      decide +kernel
      decide +kernel
      exact rfl
      refine sndE_loc ?_
      refine sndP_loc ?_ ?_
      decide +kernel
      decide +kernel
      exact (fun _ _ => rfl)
      exact (fun F h => by obtain ⟨_, _, _, _, _, _, cs1, _, _, _, _, _, _, _⟩ := F; have h1 : cs1 = _ := h; subst h1; rfl)
      refine stor_at ?_
      decide +kernel
      refine sndS_cons ?_ ?_
      refine sndS_iff ?_ ?_ ?_
      refine sndT_or ?_ ?_
      refine sndT_cmp cmp_ne cmpQ_ne ?_ ?_ ?_
      exact rfl
      refine sndE_loc ?_
      refine sndP_loc ?_ ?_
      decide +kernel
      decide +kernel
      refine sndE_lst ?_ ?_
      exact sndL_nil
      decide +kernel
      refine sndT_or1 ?_
      refine sndT_pu ?_
      refine sndPT_cmp cmp_eq ?_ ?_ ?_
      exact rfl
      refine sndP_loc ?_ ?_
      decide +kernel
      decide +kernel
      refine sndP_str ?_ ?_
      decide +kernel
      decide
      refine sndS_cons ?_ ?_
      refine sndS_ret ?_
      refine sndE_ife ?_ ?_ ?_
      refine sndT_or ?_ ?_
      refine sndT_val ?_ ?_
      exact (fun _ _ => rfl)
      refine sndE_loc ?_
      refine sndP_loc ?_ ?_
      decide +kernel
      decide +kernel
      refine sndT_or1 ?_
      refine sndT_cmp cmp_eq cmpQ_eq ?_ ?_ ?_
      exact rfl
      refine sndE_loc ?_
      refine sndP_loc ?_ ?_
      decide +kernel
      decide +kernel
      refine sndE_lst ?_ ?_
      exact sndL_nil
      decide +kernel
      refine sndE_pu ?_
      refine sndP_tup ?_ ?_
      refine sndPs_cons ?_ ?_ ?_
      exact rfl
      refine sndP_str ?_ ?_
      decide +kernel
      decide
      refine sndPs_cons ?_ ?_ ?_
      exact rfl
      exact sndP_int
      exact sndPs_nil
      decide +kernel
      refine sndE_call h_f_law_field ?_ ?_ ?_ ?_ ?_ ?_ ?_
      decide
      kernel_rfl
      kernel_rfl
      decide +kernel
      decide +kernel
      refine sndL_cons ?_ ?_ ?_
      exact rfl
      refine sndE_loc ?_
      refine sndP_loc ?_ ?_
      decide +kernel
      decide +kernel
      refine sndL_cons ?_ ?_ ?_
      exact rfl
      refine sndE_loc ?_
      refine sndP_loc ?_ ?_
      decide +kernel
      decide +kernel
      refine sndL_cons ?_ ?_ ?_
      exact rfl
      refine sndE_pu ?_
      refine sndP_sub ?_ ?_ ?_
      exact rfl
      refine sndP_loc ?_ ?_
      decide +kernel
      decide +kernel
      exact sndP_int
      exact sndL_nil
      exact rfl
      exact sndS_nil
      exact sndS_nil
      refine sndS_cons ?_ ?_
      refine sndS_asn ?_ ?_ ?_ ?_
      decide +kernel
      exact (fun _ => rfl)
      refine stor_at ?_
      decide +kernel
      refine sndE_call h_f_law_field ?_ ?_ ?_ ?_ ?_ ?_ ?_
      decide
      kernel_rfl
      kernel_rfl
      decide +kernel
      decide +kernel
      refine sndL_cons ?_ ?_ ?_
      exact rfl
      refine sndE_loc ?_
      refine sndP_loc ?_ ?_
      decide +kernel
      decide +kernel
      refine sndL_cons ?_ ?_ ?_
      exact rfl
      refine sndE_loc ?_
      refine sndP_loc ?_ ?_
      decide +kernel
      decide +kernel
      refine sndL_cons ?_ ?_ ?_
      exact rfl
      refine sndE_sub ?_ ?_ ?_
      exact rfl
      refine sndE_lcp ?_ ?_ ?_ ?_ ?_
      exact ⟨rfl, (by decide +kernel), (by decide +kernel), (by decide +kernel), (by decide +kernel)⟩
      refine testsOk_one ?_
      refine sndPT_val ?_ ?_
      exact (fun _ _ => rfl)
      refine sndP_sub ?_ ?_ ?_
      exact rfl
      refine sndP_sub ?_ ?_ ?_
      exact rfl
      refine sndP_loc ?_ ?_
      decide +kernel
      decide +kernel
      refine sndP_loc ?_ ?_
      decide +kernel
      decide +kernel
      exact sndP_int
      refine eltOk_loc ?_
      refine sndP_loc ?_ ?_
      decide +kernel
      decide +kernel
      refine firstC_rng ?_ ?_ ?_ ?_ ?_ ?_
      exact (fun _ h _ _ _ _ _ => tgtC_one rfl (by decide +kernel) (by decide) (by rw [h]; decide +kernel))
      kernel_rfl
      decide +kernel
      decide +kernel
      exact rfl
      refine sndE_blt blt_len ?_ ?_ ?_ ?_ ?_ ?_ ?_ ?_
      exact (.inl ⟨_, rfl⟩)
      kernel_rfl
      decide +kernel
      decide
      decide +kernel
      decide +kernel
      exact rfl
      refine sndE_loc ?_
      refine sndP_loc ?_ ?_
      decide +kernel
      decide +kernel
      exact (fun _ _ => rfl)
      refine sndE_con ?_
      exact sndP_int
      exact sndL_nil
      exact rfl
      exact sndS_nil
      refine sndS_cons ?_ ?_
      refine sndS_ret ?_
      refine sndE_pu ?_
      refine sndP_tup ?_ ?_
      refine sndPs_cons ?_ ?_ ?_
      exact rfl
      refine sndP_str ?_ ?_
      decide +kernel
      decide
      refine sndPs_cons ?_ ?_ ?_
      exact rfl
      exact sndP_int
      exact sndPs_nil
      decide +kernel
      exact sndS_nil
  have h_f_law_told : ∀ {v : Vs}, SndFL (PV Mine.main.heap_1_39 v) (XRof (PV Mine.main.heap_1_39 v) 164) 6 f_law_told (.ref 669) := by
    intro v
    unfold f_law_told b_law_told
    refine' codeAny_told hXO ?GTx39 ?hox39 ?hcdx39 ?hbx39 ?hlocx39 ?ndx39 ?hcox39 ?hgenx39 ?hkx39 ?hcellx39 ?hscrx39 ?hspx39 ?hcx39 ?hfax39 ?htfx39 ?htdx39 ?hnsx39 ?hsx39
    case GTx39 => exact excGet_of (by kernel_rfl)
    case hox39 => rfl
    case hcdx39 => kernel_rfl
    case hbx39 => exact bindOk3 (fun _ _ _ => by kernel_rfl)
    case hlocx39 => exact hloc_of (by decide +kernel)
    case ndx39 => decide
    case hcellx39 => exact hcell_of (by decide +kernel)
    case hscrx39 => decide +kernel
    case hspx39 => decide +kernel
    case hcx39 => decide
    case hnsx39 => kernel_rfl
    case htdx39 => decide
    case hsx39 =>
      refine sndE_call h_f_selected ?_ ?_ ?_ ?_ ?_ ?_ ?_
      decide
      kernel_rfl
      kernel_rfl
      decide +kernel
      decide +kernel
      refine sndL_cons ?_ ?_ ?_
      exact rfl
      refine sndE_loc ?_
      refine sndP_loc ?_ ?_
      decide +kernel
      decide +kernel
      refine sndL_cons ?_ ?_ ?_
      exact rfl
      refine sndE_loc ?_
      refine sndP_loc ?_ ?_
      decide +kernel
      decide +kernel
      refine sndL_cons ?_ ?_ ?_
      exact rfl
      refine sndE_loc ?_
      refine sndP_loc ?_ ?_
      decide +kernel
      decide +kernel
      refine sndL_cons ?_ ?_ ?_
      exact rfl
      refine sndE_con ?_
      exact sndP_int
      exact sndL_nil
      exact rfl
    all_goals rfl
  have hLaw : ∀ {v : Vs} {items : Array Value}, (∀ i : Nat, i < items.size → ∃ n t, items[i]? = some (.int n t)) → (items.size : Int) < 2 ^ 63 → LawOk (PV Mine.main.heap_1_39 v) 7 (scopeAt (PV Mine.main.heap_1_39 v).K 676) (bodyAt (PV Mine.main.heap_1_39 v).K 676) items := by
    intro v items hit hz
    refine' lawOk_of ?hoLx40 ?hwx40
    case hoLx40 => rfl
    case hwx40 =>
      intro F C hcs hn hcl hl m s S Q E hQ
      refine' law_walk (fp := 613) (XR := XRof (PV Mine.main.heap_1_39 v) 164) ?hxkx40 ?hxsx40 ?LNx40 ?hpx40 C hcs hn hcl (by decide) hl hz ?hTx40 ?hRx40 S hQ
      case hxkx40 => decide +kernel
      case hxsx40 => decide +kernel
      case LNx40 => exact ⟨rfl, rfl, rfl, rfl, rfl, rfl, rfl, rfl, rfl, by kernel_rfl, by kernel_rfl, by kernel_rfl, by kernel_rfl, by kernel_rfl, by kernel_rfl⟩
      case hpx40 =>
        intro F A' C CA cells g real m st s S hn hl k hk2 tk R h
        refine' pool_call ?hbodyx40 ?hox40 ?hcdx40 ?hbx40 ?hcox40 ?hgenx40 ?hkx40 ?hcellx40 ?n1x40 ?n2x40 ?n3x40 ?n4x40 ?n5x40 ?n6x40 ?n7x40 ?n8x40 ?h6x40 ?h7x40 ?h8x40 C CA S hn hl hit hz hk2 h
        case hox40 => rfl
        case hbodyx40 => rfl
        case hcdx40 => kernel_rfl
        case hbx40 => exact fun s X a b => .of_eq (by kernel_rfl)
        case hcellx40 => exact hcell_of (by decide +kernel)
        case h6x40 => kernel_rfl
        case h7x40 => kernel_rfl
        case h8x40 => kernel_rfl
        all_goals rfl
      case hTx40 =>
        unfold preK
        refine sndS_cons ?_ ?_
        refine sndS_asn ?_ ?_ ?_ ?_
        decide +kernel
        exact (fun _ => rfl)
        refine stor_at ?_
        decide +kernel
        refine sndE_call h_f_law_scene ?_ ?_ ?_ ?_ ?_ ?_ ?_
        decide
        kernel_rfl
        kernel_rfl
        decide +kernel
        decide +kernel
        refine sndL_cons ?_ ?_ ?_
        exact rfl
        refine sndE_loc ?_
        refine sndP_loc ?_ ?_
        decide +kernel
        decide +kernel
        exact sndL_nil
        exact rfl
        refine sndS_frz ?_
        refine sndS_cons ?_ ?_
        refine sndS_ast ?_ ?_ ?_ ?_ ?_ ?_
        exact (.cons (by decide +kernel) (.cons (by decide +kernel) .nil))
        decide
        refine stors_at ?_
        decide +kernel
        exact (fun _ => rfl)
        first | exact .inl (fun F h => by obtain ⟨_, _, _, _, _, _, cs1, _, _, _, _, _, _, _⟩ := F; have h1 : cs1 = _ := h; subst h1; rfl) | exact .inr (fun F h => by obtain ⟨_, _, _, _, _, _, cs1, _, _, _, _, _, _, _⟩ := F; have h1 : cs1 = _ := h; subst h1; rfl)
        refine sndE_tup ?_ ?_
        refine sndL_cons ?_ ?_ ?_
        exact rfl
        refine sndE_call h_f_law_checker ?_ ?_ ?_ ?_ ?_ ?_ ?_
        decide
        kernel_rfl
        kernel_rfl
        decide +kernel
        decide +kernel
        refine sndL_cons ?_ ?_ ?_
        exact rfl
        refine sndE_loc ?_
        refine sndP_loc ?_ ?_
        decide +kernel
        decide +kernel
        exact sndL_nil
        exact rfl
        refine sndL_cons ?_ ?_ ?_
        exact rfl
        refine sndE_tup ?_ ?_
        refine sndL_cons ?_ ?_ ?_
        exact rfl
        refine sndE_con ?_
        refine sndP_str ?_ ?_
        decide +kernel
        decide
        refine sndL_cons ?_ ?_ ?_
        exact rfl
        refine sndE_call h_f_law_one ?_ ?_ ?_ ?_ ?_ ?_ ?_
        decide
        kernel_rfl
        kernel_rfl
        decide +kernel
        decide +kernel
        refine sndL_cons ?_ ?_ ?_
        exact rfl
        refine sndE_loc ?_
        refine sndP_loc ?_ ?_
        decide +kernel
        decide +kernel
        refine sndL_cons ?_ ?_ ?_
        exact rfl
        refine sndE_lst ?_ ?_
        refine sndL_cons ?_ ?_ ?_
        exact rfl
        refine sndE_con ?_
        refine sndP_str ?_ ?_
        decide +kernel
        decide
        refine sndL_cons ?_ ?_ ?_
        exact rfl
        refine sndE_con ?_
        refine sndP_str ?_ ?_
        decide +kernel
        decide
        refine sndL_cons ?_ ?_ ?_
        exact rfl
        refine sndE_con ?_
        refine sndP_str ?_ ?_
        decide +kernel
        decide
        refine sndL_cons ?_ ?_ ?_
        exact rfl
        refine sndE_con ?_
        refine sndP_str ?_ ?_
        decide +kernel
        decide
        exact sndL_nil
        decide +kernel
        exact sndL_nil
        exact rfl
        exact sndL_nil
        decide +kernel
        exact sndL_nil
        decide +kernel
        refine sndS_cons ?_ ?_
        refine sndS_asn ?_ ?_ ?_ ?_
        decide +kernel
        exact (fun _ => rfl)
        refine stor_at ?_
        decide +kernel
        refine sndE_pu ?_
        refine sndP_tup ?_ ?_
        refine sndPs_cons ?_ ?_ ?_
        exact rfl
        refine sndP_str ?_ ?_
        decide +kernel
        decide
        refine sndPs_cons ?_ ?_ ?_
        exact rfl
        refine sndP_loc ?_ ?_
        decide +kernel
        decide +kernel
        refine sndPs_cons ?_ ?_ ?_
        exact rfl
        exact sndP_int
        refine sndPs_cons ?_ ?_ ?_
        exact rfl
        refine sndP_tup ?_ ?_
        refine sndPs_cons ?_ ?_ ?_
        exact rfl
        refine sndP_str ?_ ?_
        decide +kernel
        decide
        refine sndPs_cons ?_ ?_ ?_
        exact rfl
        refine sndP_str ?_ ?_
        decide +kernel
        decide
        exact sndPs_nil
        decide +kernel
        refine sndPs_cons ?_ ?_ ?_
        exact rfl
        refine sndP_tup ?_ ?_
        exact sndPs_nil
        decide +kernel
        exact sndPs_nil
        decide +kernel
        refine sndS_cons ?_ ?_
        refine sndS_asn ?_ ?_ ?_ ?_
        decide +kernel
        exact (fun _ => rfl)
        refine stor_at ?_
        decide +kernel
        refine sndE_call h_f_law_one ?_ ?_ ?_ ?_ ?_ ?_ ?_
        decide
        kernel_rfl
        kernel_rfl
        decide +kernel
        decide +kernel
        refine sndL_cons ?_ ?_ ?_
        exact rfl
        refine sndE_loc ?_
        refine sndP_loc ?_ ?_
        decide +kernel
        decide +kernel
        refine sndL_cons ?_ ?_ ?_
        exact rfl
        refine sndE_lst ?_ ?_
        refine sndL_cons ?_ ?_ ?_
        exact rfl
        refine sndE_pu ?_
        refine sndP_tup ?_ ?_
        refine sndPs_cons ?_ ?_ ?_
        exact rfl
        refine sndP_str ?_ ?_
        decide +kernel
        decide
        refine sndPs_cons ?_ ?_ ?_
        exact rfl
        refine sndP_loc ?_ ?_
        decide +kernel
        decide +kernel
        refine sndPs_cons ?_ ?_ ?_
        exact rfl
        exact sndP_int
        refine sndPs_cons ?_ ?_ ?_
        exact rfl
        exact sndP_int
        exact sndPs_nil
        decide +kernel
        refine sndL_cons ?_ ?_ ?_
        exact rfl
        refine sndE_pu ?_
        refine sndP_tup ?_ ?_
        refine sndPs_cons ?_ ?_ ?_
        exact rfl
        refine sndP_str ?_ ?_
        decide +kernel
        decide
        refine sndPs_cons ?_ ?_ ?_
        exact rfl
        refine sndP_tup ?_ ?_
        refine sndPs_cons ?_ ?_ ?_
        exact rfl
        refine sndP_str ?_ ?_
        decide +kernel
        decide
        refine sndPs_cons ?_ ?_ ?_
        exact rfl
        refine sndP_loc ?_ ?_
        decide +kernel
        decide +kernel
        exact sndPs_nil
        decide +kernel
        refine sndPs_cons ?_ ?_ ?_
        exact rfl
        exact sndP_int
        refine sndPs_cons ?_ ?_ ?_
        exact rfl
        exact sndP_int
        exact sndPs_nil
        decide +kernel
        refine sndL_cons ?_ ?_ ?_
        exact rfl
        refine sndE_loc ?_
        refine sndP_loc ?_ ?_
        decide +kernel
        decide +kernel
        exact sndL_nil
        decide +kernel
        exact sndL_nil
        exact rfl
        refine sndS_cons ?_ ?_
        refine sndS_eachK ?_ ?_ turnK_true ?_ ?_ ?_ ?_ ?_
        decide +kernel
        decide
        exact (fun _ _ => rfl)
        refine stor_at ?_
        decide +kernel
        refine sndE_lst ?_ ?_
        refine sndL_cons ?_ ?_ ?_
        exact rfl
        refine sndE_con ?_
        refine sndP_str ?_ ?_
        decide +kernel
        decide
        refine sndL_cons ?_ ?_ ?_
        exact rfl
        refine sndE_con ?_
        refine sndP_str ?_ ?_
        decide +kernel
        decide
        refine sndL_cons ?_ ?_ ?_
        exact rfl
        refine sndE_con ?_
        refine sndP_str ?_ ?_
        decide +kernel
        decide
        refine sndL_cons ?_ ?_ ?_
        exact rfl
        refine sndE_con ?_
        refine sndP_str ?_ ?_
        decide +kernel
        decide
        refine sndL_cons ?_ ?_ ?_
        exact rfl
        refine sndE_con ?_
        refine sndP_str ?_ ?_
        decide +kernel
        decide
        refine sndL_cons ?_ ?_ ?_
        exact rfl
        refine sndE_con ?_
        refine sndP_str ?_ ?_
        decide +kernel
        decide
        refine sndL_cons ?_ ?_ ?_
        exact rfl
        refine sndE_con ?_
        refine sndP_str ?_ ?_
        decide +kernel
        decide
        refine sndL_cons ?_ ?_ ?_
        exact rfl
        refine sndE_con ?_
        refine sndP_str ?_ ?_
        decide +kernel
        decide
        refine sndL_cons ?_ ?_ ?_
        exact rfl
        refine sndE_con ?_
        refine sndP_str ?_ ?_
        decide +kernel
        decide
        exact sndL_nil
        decide +kernel
        refine sndT_cmp cmp_ne cmpQ_ne ?_ ?_ ?_
        exact rfl
        refine sndE_callL ?_ h_f_law_told ?_ ?_ ?_ ?_ ?_ ?_ ?_
        decide +kernel
        decide
        kernel_rfl
        kernel_rfl
        decide +kernel
        decide +kernel
        refine sndL_cons ?_ ?_ ?_
        exact rfl
        refine sndE_loc ?_
        refine sndP_loc ?_ ?_
        decide +kernel
        decide +kernel
        refine sndL_cons ?_ ?_ ?_
        exact rfl
        refine sndE_loc ?_
        refine sndP_loc ?_ ?_
        decide +kernel
        decide +kernel
        refine sndL_cons ?_ ?_ ?_
        exact rfl
        refine sndE_loc ?_
        refine sndP_loc ?_ ?_
        decide +kernel
        decide +kernel
        exact sndL_nil
        exact rfl
        refine sndE_call h_f_law_due ?_ ?_ ?_ ?_ ?_ ?_ ?_
        decide
        kernel_rfl
        kernel_rfl
        decide +kernel
        decide +kernel
        refine sndL_cons ?_ ?_ ?_
        exact rfl
        refine sndE_loc ?_
        refine sndP_loc ?_ ?_
        decide +kernel
        decide +kernel
        refine sndL_cons ?_ ?_ ?_
        exact rfl
        refine sndE_loc ?_
        refine sndP_loc ?_ ?_
        decide +kernel
        decide +kernel
        refine sndL_cons ?_ ?_ ?_
        exact rfl
        refine sndE_loc ?_
        refine sndP_loc ?_ ?_
        decide +kernel
        decide +kernel
        exact sndL_nil
        exact rfl
        refine sndE_con ?_
        exact sndP_bool
        exact sndS_nil
      case hRx40 =>
        unfold b_rest
        refine sndS_cons ?_ ?_
        refine sndS_ast ?_ ?_ ?_ ?_ ?_ ?_
        exact (.cons (by decide +kernel) (.cons (by decide +kernel) .nil))
        decide
        refine stors_at ?_
        decide +kernel
        exact (fun _ => rfl)
        first | exact .inl (fun F h => by obtain ⟨_, _, _, _, _, _, cs1, _, _, _, _, _, _, _⟩ := F; have h1 : cs1 = _ := h; subst h1; rfl) | exact .inr (fun F h => by obtain ⟨_, _, _, _, _, _, cs1, _, _, _, _, _, _, _⟩ := F; have h1 : cs1 = _ := h; subst h1; rfl)
        refine sndE_tup ?_ ?_
        refine sndL_cons ?_ ?_ ?_
        exact rfl
        refine sndE_call h_f_law_checker ?_ ?_ ?_ ?_ ?_ ?_ ?_
        decide
        kernel_rfl
        kernel_rfl
        decide +kernel
        decide +kernel
        refine sndL_cons ?_ ?_ ?_
        exact rfl
        refine sndE_dic (ks := [136, 31]) ?_ ?_ ?_ ?_ ?_ ?_ ?_
        exact xoth
        refine sndD_cons ?_ ?_ ?_ ?_
        decide +kernel
        decide
        exact sndE_dic0
        refine sndD_cons ?_ ?_ ?_ ?_
        decide +kernel
        decide
        exact sndE_dic0
        exact sndD_nil
        rfl
        rfl
        simp
        decide +kernel
        decide
        exact sndL_nil
        exact rfl
        refine sndL_cons ?_ ?_ ?_
        exact rfl
        refine sndE_pu ?_
        refine sndP_tup ?_ ?_
        refine sndPs_cons ?_ ?_ ?_
        exact rfl
        refine sndP_str ?_ ?_
        decide +kernel
        decide
        refine sndPs_cons ?_ ?_ ?_
        exact rfl
        refine sndP_str ?_ ?_
        decide +kernel
        decide
        exact sndPs_nil
        decide +kernel
        exact sndL_nil
        decide +kernel
        refine sndS_cons ?_ ?_
        refine sndS_ass ?_ ?_ ?_ ?_
        exact (fun _ => rfl)
        refine sndE_new h_f_NamedRow_init ?_ ?_ ?_ ?_ ?_ ?_ ?_ ?_ ?_ ?_ ?_
        decide
        decide
        kernel_rfl
        kernel_rfl
        kernel_rfl
        kernel_rfl
        kernel_rfl
        decide +kernel
        decide +kernel
        refine sndL_cons ?_ ?_ ?_
        exact rfl
        refine sndE_con ?_
        refine sndP_str ?_ ?_
        decide +kernel
        decide
        refine sndL_cons ?_ ?_ ?_
        exact rfl
        refine sndE_con ?_
        refine sndP_str ?_ ?_
        decide +kernel
        decide
        refine sndL_cons ?_ ?_ ?_
        exact rfl
        refine sndE_pu ?_
        refine sndP_tup ?_ ?_
        refine sndPs_cons ?_ ?_ ?_
        exact rfl
        refine sndP_str ?_ ?_
        decide +kernel
        decide
        refine sndPs_cons ?_ ?_ ?_
        exact rfl
        refine sndP_tup ?_ ?_
        refine sndPs_cons ?_ ?_ ?_
        exact rfl
        refine sndP_tup ?_ ?_
        refine sndPs_cons ?_ ?_ ?_
        exact rfl
        refine sndP_str ?_ ?_
        decide +kernel
        decide
        refine sndPs_cons ?_ ?_ ?_
        exact rfl
        refine sndP_glb (v := .ref 631) ?_ ?_ ?_ ?_
        kernel_rfl
        decide +kernel
        decide +kernel
        refine kvr_sound (n := 5) ?_
        kernel_rfl
        exact sndPs_nil
        decide +kernel
        exact sndPs_nil
        decide +kernel
        exact sndPs_nil
        decide +kernel
        refine sndL_cons ?_ ?_ ?_
        exact rfl
        exact sndE_dic0
        exact sndL_nil
        exact rfl
        refine sndE_pu ?_
        refine sndP_att hCO ?_ ?_ ?_ ?_
        decide +kernel
        decide
        exact (fun _ => rfl)
        refine sndP_att hCO ?_ ?_ ?_ ?_
        decide +kernel
        decide
        exact (fun _ => rfl)
        refine sndP_loc ?_ ?_
        decide +kernel
        decide +kernel
        refine sndE_con ?_
        refine sndP_str ?_ ?_
        decide +kernel
        decide
        refine sndS_cons ?_ ?_
        refine sndS_iff ?_ ?_ ?_
        refine sndT_cmp cmp_ne cmpQ_ne ?_ ?_ ?_
        exact rfl
        refine sndE_call h_f_find_member ?_ ?_ ?_ ?_ ?_ ?_ ?_
        decide
        kernel_rfl
        kernel_rfl
        decide +kernel
        decide +kernel
        refine sndL_cons ?_ ?_ ?_
        exact rfl
        refine sndE_pu ?_
        refine sndP_att hCO ?_ ?_ ?_ ?_
        decide +kernel
        decide
        exact (fun _ => rfl)
        refine sndP_loc ?_ ?_
        decide +kernel
        decide +kernel
        refine sndL_cons ?_ ?_ ?_
        exact rfl
        refine sndE_loc ?_
        refine sndP_loc ?_ ?_
        decide +kernel
        decide +kernel
        refine sndL_cons ?_ ?_ ?_
        exact rfl
        refine sndE_con ?_
        refine sndP_str ?_ ?_
        decide +kernel
        decide
        exact sndL_nil
        exact rfl
        refine sndE_pu ?_
        refine sndP_tup ?_ ?_
        refine sndPs_cons ?_ ?_ ?_
        exact rfl
        refine sndP_str ?_ ?_
        decide +kernel
        decide
        refine sndPs_cons ?_ ?_ ?_
        exact rfl
        refine sndP_tup ?_ ?_
        exact sndPs_nil
        decide +kernel
        refine sndPs_cons ?_ ?_ ?_
        exact rfl
        refine sndP_str ?_ ?_
        decide +kernel
        decide
        refine sndPs_cons ?_ ?_ ?_
        exact rfl
        refine sndP_glb (v := .ref 631) ?_ ?_ ?_ ?_
        kernel_rfl
        decide +kernel
        decide +kernel
        refine kvr_sound (n := 5) ?_
        kernel_rfl
        exact sndPs_nil
        decide +kernel
        refine sndS_cons ?_ ?_
        refine sndS_ret ?_
        refine sndE_con ?_
        exact sndP_bool
        exact sndS_nil
        exact sndS_nil
        refine sndS_cons ?_ ?_
        refine sndS_asn ?_ ?_ ?_ ?_
        decide +kernel
        exact (fun _ => rfl)
        refine stor_at ?_
        decide +kernel
        refine sndE_pu ?_
        refine sndP_tup ?_ ?_
        refine sndPs_cons ?_ ?_ ?_
        exact rfl
        refine sndP_str ?_ ?_
        decide +kernel
        decide
        refine sndPs_cons ?_ ?_ ?_
        exact rfl
        refine sndP_loc ?_ ?_
        decide +kernel
        decide +kernel
        refine sndPs_cons ?_ ?_ ?_
        exact rfl
        exact sndP_int
        refine sndPs_cons ?_ ?_ ?_
        exact rfl
        exact sndP_int
        exact sndPs_nil
        decide +kernel
        refine sndS_cons ?_ ?_
        refine sndS_iff ?_ ?_ ?_
        refine sndT_cmp cmp_ne cmpQ_ne ?_ ?_ ?_
        exact rfl
        refine sndE_callL ?_ h_f_law_told ?_ ?_ ?_ ?_ ?_ ?_ ?_
        decide +kernel
        decide
        kernel_rfl
        kernel_rfl
        decide +kernel
        decide +kernel
        refine sndL_cons ?_ ?_ ?_
        exact rfl
        refine sndE_loc ?_
        refine sndP_loc ?_ ?_
        decide +kernel
        decide +kernel
        refine sndL_cons ?_ ?_ ?_
        exact rfl
        refine sndE_loc ?_
        refine sndP_loc ?_ ?_
        decide +kernel
        decide +kernel
        refine sndL_cons ?_ ?_ ?_
        exact rfl
        refine sndE_con ?_
        refine sndP_str ?_ ?_
        decide +kernel
        decide
        exact sndL_nil
        exact rfl
        refine sndE_pu ?_
        refine sndP_tup ?_ ?_
        refine sndPs_cons ?_ ?_ ?_
        exact rfl
        refine sndP_str ?_ ?_
        decide +kernel
        decide
        refine sndPs_cons ?_ ?_ ?_
        exact rfl
        refine sndP_glb (v := .ref 631) ?_ ?_ ?_ ?_
        kernel_rfl
        decide +kernel
        decide +kernel
        refine kvr_sound (n := 5) ?_
        kernel_rfl
        refine sndPs_cons ?_ ?_ ?_
        exact rfl
        exact sndP_int
        refine sndPs_cons ?_ ?_ ?_
        exact rfl
        refine sndP_loc ?_ ?_
        decide +kernel
        decide +kernel
        refine sndPs_cons ?_ ?_ ?_
        exact rfl
        refine sndP_tup ?_ ?_
        refine sndPs_cons ?_ ?_ ?_
        exact rfl
        refine sndP_str ?_ ?_
        decide +kernel
        decide
        refine sndPs_cons ?_ ?_ ?_
        exact rfl
        refine sndP_str ?_ ?_
        decide +kernel
        decide
        exact sndPs_nil
        decide +kernel
        exact sndPs_nil
        decide +kernel
        refine sndS_cons ?_ ?_
        refine sndS_ret ?_
        refine sndE_con ?_
        exact sndP_bool
        exact sndS_nil
        exact sndS_nil
        refine sndS_cons ?_ ?_
        refine sndS_ret ?_
        refine sndE_cmp cmp_is cmpQ_is ?_ ?_ ?_
        exact rfl
        refine sndE_call h_f_find_member ?_ ?_ ?_ ?_ ?_ ?_ ?_
        decide
        kernel_rfl
        kernel_rfl
        decide +kernel
        decide +kernel
        refine sndL_cons ?_ ?_ ?_
        exact rfl
        refine sndE_pu ?_
        refine sndP_att hCO ?_ ?_ ?_ ?_
        decide +kernel
        decide
        exact (fun _ => rfl)
        refine sndP_loc ?_ ?_
        decide +kernel
        decide +kernel
        refine sndL_cons ?_ ?_ ?_
        exact rfl
        refine sndE_pu ?_
        refine sndP_tup ?_ ?_
        refine sndPs_cons ?_ ?_ ?_
        exact rfl
        refine sndP_str ?_ ?_
        decide +kernel
        decide
        refine sndPs_cons ?_ ?_ ?_
        exact rfl
        refine sndP_loc ?_ ?_
        decide +kernel
        decide +kernel
        exact sndPs_nil
        decide +kernel
        refine sndL_cons ?_ ?_ ?_
        exact rfl
        refine sndE_con ?_
        refine sndP_str ?_ ?_
        decide +kernel
        decide
        exact sndL_nil
        exact rfl
        refine sndE_con ?_
        exact sndP_none
        exact sndS_nil
  k_go0
  refine' law_end (H := Mine.main.heap_1_39) (v := ⟨_, _, _, _, _, _, _, _⟩) hLaw ?hscZ ?hboZ ?hkZ ?hsZ ?hcellZ ?TZ ?KXZ ?BZ ?FhZ ?hmZ ?hlZ ?hIZ ?hzZ ?hQZ
  case TZ => assumption
  case KXZ => assumption
  case BZ => assumption
  case FhZ => assumption
  case hmZ => rfl
  case hlZ => assumption
  case hIZ => assumption
  case hzZ => omega
  case hkZ => rfl
  case hsZ => rfl
  case hcellZ => exact hcell_of (by decide +kernel)
  case hscZ => kernel_rfl
  case hboZ => kernel_rfl
  case hQZ =>
    intro m' s' F' hos hgn
    show GoodW _ _ _ _ _ (.ok (.ret (.bool true))) s'
    refine goodW_bool F' (hgn.trans (by assumption)) (raisesW_false ?_) ?_ hos
    · wrow_none_raised
    · wrow_post
end Mine
set_option Elab.async false
theorem PySem.Challenge.cw_pf0084_01_holds : PySem.Challenge.rw_pf0084_01.Holds :=
  Mine.main
