/- The operations on values; regions, codes and functions in continuation style, over frames of few slots. The operations on values are those of the interpreter. Functions in continuation style, over frames of few slots, do what the interpreter does. Codes over whole frames in continuation style: functions with a range over a function, and their rounds. Every operation is bad, whatever comes behind it, or goes on with one value and one heap. Known calls: what an evaluation shows, and an entry that remembers it. What a known call leaves: the post-condition of a law. What a function reaches, reckoned from a table of who leads to whom. Many runs of a law, one after the other; words of known and unknown bytes. -/
import Derived.Test.YtnahoaefglcnkaaGreatDoorA3
import Derived.ChangeSame
import Derived.RowKit3
import GoSem.ClaimFn
import GoSem.ClaimFollow
import GoSem.ClaimDataLaid
import GoSem.ClaimGoes
set_option autoImplicit false
namespace Go.Ai
noncomputable section
structure PartV where
  off : Nat
  size : Nat
  v : AV
def evL (ev : Opd → AV) (l : List Opd) : List AV := List.rec (motive := fun _ => List AV) [] (fun x _ ih => ev x :: ih) l
def evP (ev : Opd → AV) (l : List Part) : List PartV := List.rec (motive := fun _ => List PartV) [] (fun q _ ih => ⟨q.off, q.size, ev q.x⟩ :: ih) l
def evO (ev : Opd → AV) (x : Opo) : Option AV := Opo.rec (motive := fun _ => Option AV) none (fun x => some (ev x)) x
def forceL (l : List AV) : (List AV → Res) → Res := List.rec (motive := fun _ => (List AV → Res) → Res) (fun k => k []) (fun x _ ih k => x.force fun v => ih fun vs => k (v :: vs)) l
def boolK (b : Bool) (k : AV → Res) : Res := Bool.rec (motive := fun _ => Res) (k (.bool false)) (k (.bool true)) b
def onIntsY (x y : AV) (k : IntKind → Int → Int → Res) : Res := x.onInt fun kd a => y.onInt fun kd' b => must 12 (Nat.beq kd.ctorIdx kd'.ctorIdx) (k kd a b)
def onIntsUY (x y : AV) (k : IntKind → Int → Int → Res) (ku : Res) : Res := x.onIntU (fun kd a => y.onInt fun kd' b => must 12 (Nat.beq kd.ctorIdx kd'.ctorIdx) (k kd a b)) (fun _ => y.onInt fun kd' b => must 12 (Nat.beq kd'.ctorIdx 4) (ieqU b ku))
def onShiftY (x y : AV) (k : IntKind → Nat → Nat → Res) : Res := x.onInt fun kd a => y.onInt fun _ b => onNats a b fun a b => k kd a (minN b (IntKind.bitsK kd))
def onStrsY (x y : AV) (k : List Nat → List Nat → Res) : Res := x.onStr fun s => y.onStr fun t => k s t
def evNatY (x : AV) (k : Nat → Res) : Res := x.onInt fun _ n => natOf n k
def evNatOY (x : Option AV) (d : Nat) (k : Nat → Res) : Res := Option.rec (motive := fun _ => Res) (k d) (fun x => evNatY x k) x
def hsetK (v : Obj) (p : Path) : HT → (HT → Res) → Res :=
  Path.rec (motive := fun _ => HT → (HT → Res) → Res) (fun t k => HT.rec (motive := fun _ => Res) (k (.node .leaf v .leaf)) (fun l _ r _ _ => k (.node l v r)) t) (fun _ ih t k => HT.rec (motive := fun _ => Res) (ih .leaf fun l => k (.node l .none .leaf)) (fun l x r _ _ => ih l fun l => k (.node l x r)) t) (fun _ ih t k => HT.rec (motive := fun _ => Res) (ih .leaf fun r => k (.node .leaf .none r)) (fun l x r _ _ => ih r fun r => k (.node l x r)) t) p
def incK (p : Path) : (Path → Res) → Res := Path.rec (motive := fun _ => (Path → Res) → Res) (fun k => k (.l .e)) (fun p _ k => k (.r p)) (fun _ ih k => ih fun p => k (.l p)) p
def setObjK (o : Path) (b : Obj) (h : H) (k : H → Res) : Res := H.rec (motive := fun _ => Res) (fun t n => hsetK b o t fun t => k (.mk t n)) h
def hgetK (p : Path) : HT → (Obj → Res) → Res :=
  Path.rec (motive := fun _ => HT → (Obj → Res) → Res) (fun t k => HT.rec (motive := fun _ => Res) (k .none) (fun _ v _ _ _ => k v) t) (fun _ ih t k => HT.rec (motive := fun _ => Res) (k .none) (fun l _ _ _ _ => ih l k) t) (fun _ ih t k => HT.rec (motive := fun _ => Res) (k .none) (fun _ _ r _ _ => ih r k) t) p
def cellsOfK (o : Path) (h : H) (k : List AV → Nat → Res) : Res :=
  H.rec (motive := fun _ => Res) (fun t _ => hgetK o t fun b => Obj.rec (motive := fun _ => Res) (.bad 7) k (fun _ _ => .bad 8) (.bad 9) (fun _ _ _ _ _ _ => .bad 9) b) h
def mapOfK (o : Path) (h : H) (k : List Ent → Nat → Res) : Res :=
  H.rec (motive := fun _ => Res) (fun t _ => hgetK o t fun b => Obj.rec (motive := fun _ => Res) (.bad 10) (fun _ _ => .bad 10) k (.bad 10) (fun _ _ _ _ _ _ => .bad 10) b) h
def nthK {α : Type} (l : List α) : Nat → (α → Res) → Res := List.rec (motive := fun _ => Nat → (α → Res) → Res) (fun _ _ => .bad 11) (fun a _ ih i k => Nat.rec (motive := fun _ => Res) (k a) (fun j _ => ih j k) i) l
def partK (off size : Nat) (agg : Bool) (cs : List AV) (h : H) (k : Kont) : Res :=
  Bool.rec (motive := fun _ => Res) (nthK cs off fun v => k v h) (ldropC off cs fun cs => ltake size cs fun cs => k (.agg cs) h) agg
def sliceCellsK (size : Nat) (x : AV) (n : Nat) (h : H) (k : List AV → Res) : Res :=
  x.onSlcZ (must 12 (Nat.beq n 0) (k [])) fun o i m _ => must 12 (Nat.ble n m) (cellsOfK o h fun cs _ => ldropC i cs fun cs => ltake (Nat.mul n size) cs k)
def newObjK (b : Obj) (h : H) (k : Path → H → Res) : Res :=
  H.rec (motive := fun _ => Res) (fun t n => hgetK n t fun a => Obj.rec (motive := fun _ => Res) (hsetK b n t fun t => incK n fun n' => k n (.mk t n')) (fun _ _ => .bad 6) (fun _ _ => .bad 6) (.bad 6) (fun _ _ _ _ _ _ => .bad 6) a) h
def spineK {α : Type} (l : List α) : (List α → Res) → Res := List.rec (motive := fun _ => (List α → Res) → Res) (fun k => k []) (fun a _ ih k => ih fun t => k (a :: t)) l
def overK (v : List AV) : List AV → (List AV → Res) → Res := List.rec (motive := fun _ => List AV → (List AV → Res) → Res) (fun l k => k l) (fun a _ ih l k => List.rec (motive := fun _ => Res) (.bad 3) (fun _ t _ => ih t fun t => k (a :: t)) l) v
def atK (f : List AV → (List AV → Res) → Res) (l : List AV) : Nat → (List AV → Res) → Res :=
  List.rec (motive := fun _ => Nat → (List AV → Res) → Res) (fun _ _ => .bad 3) (fun b t ih i k => Nat.rec (motive := fun _ => Res) (f (b :: t) k) (fun j _ => ih j fun t => k (b :: t)) i) l
def lputK (v l : List AV) (i : Nat) (k : List AV → Res) : Res := List.rec (motive := fun _ => Res) (k l) (fun _ _ _ => atK (overK v) l i k) v
def putPartsY (l : List PartV) : List AV → (List AV → Res) → Res :=
  List.rec (motive := fun _ => List AV → (List AV → Res) → Res) (fun cs k => k cs) (fun q _ ih cs k => must 12 (Nat.beq (llen q.v.cells) q.size) (lputK q.v.cells cs q.off (fun cs => ih cs k))) l
def AV.onCells (v : AV) (ks : Res) (ka : List AV → Res) : Res := AV.rec (motive_1 := fun _ => Res) (motive_2 := fun _ => PUnit) (Res.bad 12) ks ks ks ks ks (fun _ => ks) (fun _ _ => ks) (fun _ _ _ => ks) (fun _ _ _ _ _ => ks) (fun _ => ks) (fun _ _ => .bad 12) (fun cs _ => ka cs) (fun _ => ks) (fun _ _ _ _ => ks) (fun _ => ks) (fun _ _ => ks) (fun _ _ => ks) (fun _ => ks) PUnit.unit (fun _ _ _ _ => PUnit.unit) v
def put1K (v : AV) (l : List AV) : Nat → (List AV → Res) → Res := atK (fun l k => List.rec (motive := fun _ => Res) (.bad 3) (fun _ t _ => k (v :: t)) l) l
def AV.onStrE (v : AV) (ks : List Nat → Res) (ke : Res) : Res := AV.rec (motive_1 := fun _ => Res) (motive_2 := fun _ => PUnit) ke ke ke ke ke ke (fun _ => ke) (fun _ _ => ke) (fun _ _ _ => ke) (fun _ _ _ _ _ => ke) (fun _ => ke) (fun _ _ => ke) (fun _ _ => ke) (fun s => ks s) (fun _ _ _ _ => ke) (fun _ => ke) (fun _ _ => ke) (fun _ _ => ke) (fun _ => ke) PUnit.unit (fun _ _ _ _ => PUnit.unit) v
def srcCellsY (size : Nat) (y : AV) (h : H) (k : Nat → List AV → Res) : Res := y.onStrE (fun s => must 12 (Nat.beq size 1) (spineK (ofBytes s) fun cs => k (llen s) cs)) (y.lenC fun n => sliceCellsK size y n h fun cs => k n cs)
def appendedY (es : Nat) (need : Nat) (cs : List AV) (h : H) (k : Kont) : Res := spineK cs fun cs => newObjK (.cells cs es) h fun o h => forceN need fun n => k (.slc o 0 n (.opn n)) h
def inPlaceY (size : Nat) (o : Path) (i n m : Nat) (c : Cap) (new cs : List AV) (es : Nat) (h : H) (k : Kont) : Res :=
  must 12 (scals new) (lputK new cs (Nat.add i (Nat.mul n size)) fun cs => forceN (Nat.add n m) fun q => setObjK o (.cells cs es) h fun h => k (.slc o i q c) h)
def yMv (x : AV) (h : H) (k : Kont) : Res := k x h
def yPk (c a b : AV) (h : H) (k : Kont) : Res := c.onBool fun t => ifC t (k a h) (k b h)
def yAl (es : Nat) (zero : List AV) (h : H) (k : Kont) : Res := newObjK (.cells zero es) h fun o h => k (.ptr o 0) h
def yBx (x : AV) (h : H) (k : Kont) : Res := newObjK (.cells x.cells 0) h fun o h => k (.ptr o 0) h
def yBd (zero : List AV) (parts : List PartV) (h : H) (k : Kont) : Res := putPartsY parts zero fun cs => k (.agg cs) h
def yBS (len : Nat) (cells : List AV) (parts : List PartV) (h : H) (k : Kont) : Res :=
  putPartsY parts cells fun cs => newObjK (.cells cs 0) h fun o h => k (.slc o 0 len (.exact len)) h
def yL (x : AV) (h : H) (k : Kont) : Res := x.onPtr fun o i => cellsOfK o h fun cs _ => nthK cs i fun v => k v h
def yLA (n : Nat) (x : AV) (h : H) (k : Kont) : Res := x.onPtr fun o i => cellsOfK o h fun cs _ => ldropC i cs fun cs => ltake n cs fun cs => k (.agg cs) h
def yS (n : Nat) (x v : AV) (h : H) (k : Kont) : Res := x.onPtr fun o i => cellsOfK o h fun cs es => v.onCells (must 12 (Nat.beq 1 n) (put1K v cs i fun cs => setObjK o (.cells cs es) h fun h => k .undef h)) fun vs => must 12 (Nat.beq (llen vs) n) (must 12 (scals vs) (lputK vs cs i fun cs => setObjK o (.cells cs es) h fun h => k .undef h))
def yNC (x : AV) (h : H) (k : Kont) : Res := AV.rec (motive_1 := fun _ => Res) (motive_2 := fun _ => PUnit) ((k x h)) (Res.bad 14) ((k x h)) ((k x h)) (Res.bad 14) (Res.bad 14) (fun _ => (k x h)) (fun _ _ => (k x h)) (fun _ _ _ => (k x h)) (fun _ _ _ _ _ => (k x h)) (fun _ => (k x h)) (fun _ _ => (k x h)) (fun _ _ => (k x h)) (fun _ => (k x h)) (fun _ _ _ _ => (k x h)) (fun _ => (k x h)) (fun _ _ => (k x h)) (fun _ _ => (k x h)) (fun _ => (k x h)) PUnit.unit (fun _ _ _ _ => PUnit.unit) x
def yA (x y : AV) (h : H) (k : Kont) : Res := onIntsY x y fun kd a b => addC kd a b fun n => k (.int kd n) h
def yD (x y : AV) (h : H) (k : Kont) : Res := onIntsY x y fun kd a b => subC kd a b fun n => k (.int kd n) h
def yM (x y : AV) (h : H) (k : Kont) : Res := onIntsY x y fun kd a b => wrapC kd (Int.mul a b) fun n => k (.int kd n) h
def yQ (x y : AV) (h : H) (k : Kont) : Res := onIntsY x y fun kd a b => ifC (ieq b 0) (.bad 15) (wrapC kd (Int.tdiv a b) fun n => k (.int kd n) h)
def yR (x y : AV) (h : H) (k : Kont) : Res := onIntsY x y fun kd a b => ifC (ieq b 0) (.bad 15) (forceI (Int.tmod a b) fun n => k (.int kd n) h)
def yAn (x y : AV) (h : H) (k : Kont) : Res := onIntsY x y fun kd a b => onNats a b fun a b => must 12 (Nat.blt a (IntKind.lim kd)) (must 12 (Nat.blt b (IntKind.lim kd)) (forceN (Nat.land a b) fun n => k (.int kd (.ofNat n)) h))
def yOr (x y : AV) (h : H) (k : Kont) : Res := onIntsY x y fun kd a b => onNats a b fun a b => must 12 (Nat.blt a (IntKind.lim kd)) (must 12 (Nat.blt b (IntKind.lim kd)) (forceN (Nat.lor a b) fun n => k (.int kd (.ofNat n)) h))
def ySl (x y : AV) (h : H) (k : Kont) : Res := onShiftY x y fun kd a n => wrapC kd (.ofNat (Nat.mul a (Nat.pow 2 n))) fun n => k (.int kd n) h
def ySr (x y : AV) (h : H) (k : Kont) : Res := onShiftY x y fun kd a n => forceN (Nat.div a (Nat.pow 2 n)) fun n => k (.int kd (.ofNat n)) h
def notB (b : Bool) : Bool := Bool.rec (motive := fun _ => Bool) true false b
def yC (neg swap : Bool) (x y : AV) (h : H) (k : Kont) : Res := onIntsY x y fun _ a b => boolK (Bool.rec (motive := fun _ => Bool) (Bool.rec (motive := fun _ => Bool) (ilt a b) (ilt b a) swap) (notB (Bool.rec (motive := fun _ => Bool) (ilt a b) (ilt b a) swap)) neg) fun v => k v h
def yE (neg : Bool) (x y : AV) (h : H) (k : Kont) : Res := onIntsUY x y (fun _ a b => boolK (Bool.rec (motive := fun _ => Bool) (ieq a b) (notB (ieq a b)) neg) fun v => k v h) (boolK neg fun v => k v h)
def ySA (x y : AV) (h : H) (k : Kont) : Res := onStrsY x y fun s t => must 12 (Nat.blt (llen s) 4611686018427387904) (must 12 (Nat.blt (llen t) 4611686018427387904) (spineK (lapp s t) fun s => k (.str s) h))
def ySE (neg : Bool) (x y : AV) (h : H) (k : Kont) : Res := onStrsY x y fun s t => seqC s t fun b => boolK (xorB neg b) fun v => k v h
def ySL (x y : AV) (h : H) (k : Kont) : Res := onStrsY x y fun s t => sltC s t fun b => boolK b fun v => k v h
def yNt (x : AV) (h : H) (k : Kont) : Res := x.onBool fun b => boolK (xorB true b) fun v => k v h
def yNg (x : AV) (h : H) (k : Kont) : Res := x.onInt fun kd n => wrapC kd (Int.neg n) fun n => k (.int kd n) h
def yCv (kd : IntKind) (x : AV) (h : H) (k : Kont) : Res := x.onInt fun _ n => wrapC kd n fun n => k (.int kd n) h
def yN (kind : Nat) (neg : Bool) (x : AV) (h : H) (k : Kont) : Res := AV.rec (motive_1 := fun _ => Res) (motive_2 := fun _ => PUnit) ((Res.bad 16)) (must 12 (Nat.beq kind 0) (k (.bool (xorB neg true)) h)) (must 12 (Nat.beq kind 1) (k (.bool (xorB neg true)) h)) (must 12 (Nat.beq kind 2) (k (.bool (xorB neg true)) h)) (must 12 (Nat.beq kind 3) (k (.bool (xorB neg true)) h)) (must 12 (Nat.beq kind 4) (k (.bool (xorB neg true)) h)) (fun _ => (Res.bad 16)) (fun _ _ => must 12 (Nat.beq kind 1) (k (.bool neg) h)) (fun _ _ _ => must 12 (Nat.beq kind 4) (k (.bool neg) h)) (fun _ _ _ _ _ => must 12 (Nat.beq kind 3) (k (.bool neg) h)) (fun _ => must 12 (Nat.beq kind 2) (k (.bool neg) h)) (fun _ _ => (Res.bad 16)) (fun _ _ => (Res.bad 16)) (fun _ => (Res.bad 16)) (fun _ _ _ _ => must 12 (Nat.beq kind 1) (k (.bool neg) h)) (fun _ => (Res.bad 16)) (fun _ _ => must 12 (Nat.beq kind 0) (k (.bool neg) h)) (fun _ _ => (Res.bad 16)) (fun _ => (Res.bad 16)) PUnit.unit (fun _ _ _ _ => PUnit.unit) x
def yEv (neg agg : Bool) (ks : List Nat) (x y : AV) (h : H) (k : Kont) : Res :=
  AV.cellsBy agg x fun l => AV.cellsBy agg y fun r => must 12 (Nat.beq (llen l) (llen ks)) (must 12 (Nat.beq (llen r) (llen ks)) (eqsC ks l r fun b => k (.bool (xorB neg b)) h))
def yB (x : AV) (h : H) (k : Kont) : Res := x.lenC fun n => sliceCellsK 1 x n h fun cs => bytesC cs fun l => k (.str l) h
def yBy (es : Nat) (x : AV) (h : H) (k : Kont) : Res := x.onStr fun s => spineK (ofBytes s) fun z => newObjK (.cells z es) h fun o h => k (.slc o 0 (llen s) (.opn (llen s))) h
def yMS (_size bytes : Nat) (zero : List AV) (len cap : AV) (h : H) (k : Kont) : Res :=
  evNatY len fun l => evNatY cap fun c => must 12 (Nat.ble l c) (must 12 (Nat.ble (Nat.mul bytes c) 1099511627776) (must 12 (Nat.ble c 1099511627776) (spineK (lrep zero c) fun z => newObjK (.cells z 0) h fun o h => forceN l fun l => forceN c fun c => k (.slc o 0 l (.exact c)) h)))
def yXS (x : AV) (lo hi : Option AV) (h : H) (k : Kont) : Res :=
  x.onStr fun s => evNatOY lo 0 fun l => Option.rec (motive := fun _ => Res) (ldropC l s fun s => k (.str s) h) (fun y => evNatY y fun m => must 12 (Nat.ble l m) (ldropC l s fun s => ltake (Nat.sub m l) s fun s => k (.str s) h)) hi
def yX (size : Nat) (x : AV) (lo hi mx : Option AV) (h : H) (k : Kont) : Res :=
  evNatOY lo 0 fun l => x.onSlc (evNatOY hi 0 fun m => must 12 (Nat.beq l 0) (must 12 (Nat.beq m 0) (evNatOY mx 0 fun q => must 12 (Nat.beq q 0) (k .nils h))))
    fun o i n c => evNatOY hi n fun m => Cap.rec (motive := fun _ => Res) (fun c => Option.rec (motive := fun _ => Res) (cutSlc size o i l m c .exact true h k) (fun y => evNatY y fun q => must 12 (Nat.ble q c) (cutSlc size o i l m q .exact true h k)) mx) (fun d => Option.rec (motive := fun _ => Res) (cutSlc size o i l m d .opn false h k) (fun y => evNatY y fun q => must 12 (Nat.ble q d) (cutSlc size o i l m q .exact true h k)) mx) c
def yXA (n size : Nat) (x : AV) (lo hi : Option AV) (h : H) (k : Kont) : Res :=
  evNatOY lo 0 fun l => evNatOY hi n fun m => x.onPtr fun o i => cutSlc size o i l m n .exact true h k
def yF (off : Nat) (x : AV) (h : H) (k : Kont) : Res := x.onPtr fun o i => forceN (Nat.add i off) fun i => k (.ptr o i) h
def yFd (off size : Nat) (agg : Bool) (x : AV) (h : H) (k : Kont) : Res := x.onAgg fun cs => partK off size agg cs h k
def yI (size : Nat) (x y : AV) (h : H) (k : Kont) : Res :=
  evNatY y fun j => x.onSlc (.bad 20) fun o i n _ => must 12 (Nat.blt j n) (forceN (Nat.add i (Nat.mul j size)) fun i => k (.ptr o i) h)
def yIA (len size : Nat) (x y : AV) (h : H) (k : Kont) : Res :=
  evNatY y fun j => x.onPtr fun o i => must 12 (Nat.blt j len) (forceN (Nat.add i (Nat.mul j size)) fun i => k (.ptr o i) h)
def yIS (x y : AV) (h : H) (k : Kont) : Res := evNatY y fun j => x.onStr fun s => nthK s j fun b => ifC (Nat.blt b 256) (k (.int .u8 (.ofNat b)) h) (k (.ub b) h)
def yIx (len size : Nat) (agg : Bool) (x y : AV) (h : H) (k : Kont) : Res := evNatY y fun j => x.onAgg fun cs => must 12 (Nat.blt j len) (partK (Nat.mul j size) size agg cs h k)
def yLk (str : Bool) (zero : AV) (commaOk : Bool) (x y : AV) (h : H) (k : Kont) : Res :=
  must 12 (y.isKey str) (x.onMapN (found commaOk zero false h k) fun o => mapOfK o h fun es _ => findEnt y es (fun q => Option.rec (motive := fun _ => Res) (found commaOk zero false h k) (fun q => found commaOk q.1 true h k) q) 0)
def yMU (str : Bool) (m y v : AV) (h : H) (k : Kont) : Res :=
  must 12 (y.isKey str) (m.onMap fun o => mapOfK o h fun es clock => findEnt y es (fun q => Option.rec (motive := fun _ => Res) (spineK (lapp es [⟨y, v, clock⟩]) fun es' => setObjK o (.map es' (Nat.succ clock)) h fun h => k .undef h) (fun q => nthK es q.2 fun e => spineK (lset ⟨y, v, e.born⟩ es q.2) fun es' => setObjK o (.map es' clock) h fun h => k .undef h) q) 0)
def yMM (h : H) (k : Kont) : Res := newObjK (.map [] 0) h fun o h => k (.map o) h
def yMF (f : Nat) (a c : List AV) (h : H) (k : Kont) : Res := k (.fn f (a) (c)) h
def yT (i : Nat) (x : AV) (h : H) (k : Kont) : Res := x.onTup fun vs => nthK vs i fun v => k v h
def yK (f : Path) (args : List AV) (call : Call) (h : H) (k : Kont) : Res := forceL args fun vs => call f vs h k
def yKv (f : AV) (args : List AV) (call : Call) (h : H) (k : Kont) : Res := f.onFnY (fun g a c => must 12 (Nat.blt g 8191) (call (pathOf g) (lapp a (lapp (args) c)) h k)) (fun o => call (pathOf 8191) (.yld o :: args) h k)
def yLn (x : AV) (h : H) (k : Kont) : Res := x.lenC fun n => k (.int .i64 (.ofNat n)) h
def yLS (x : AV) (h : H) (k : Kont) : Res := x.onStr fun s => forceN (llen s) fun n => k (.int .i64 (.ofNat n)) h
def yLM (x : AV) (h : H) (k : Kont) : Res := x.onMapN (k (.int .i64 0) h) fun o => mapOfK o h fun es _ => forceN (llen es) fun n => k (.int .i64 (.ofNat n)) h
def yLC (n : Nat) (h : H) (k : Kont) : Res := k (.int .i64 (.ofNat n)) h
def yAp (size bytes es0 : Nat) (x y : AV) (h : H) (k : Kont) : Res :=
  srcCellsY size y h fun m new => x.onSlcE (Nat.rec (motive := fun _ => Res) (k .nils h) (fun _ _ => must 12 (Nat.ble (Nat.mul m (Nat.succ bytes)) 1073741824) (appendedY es0 m new h k)) m)
    (fun o i n c => cellsOfK o h fun cs es => must 12 (Nat.ble (Nat.mul (Nat.add n m) (Nat.succ bytes)) 1073741824) (ldropC i cs fun cs' => ltake (Nat.mul n size) cs' fun old =>
      Cap.rec (motive := fun _ => Res) (fun d => ifC (Nat.ble (Nat.add n m) d) (inPlaceY size o i n m c new cs es h k) (appendedY es0 (Nat.add n m) (lapp old new) h k)) (fun d => ifC (Nat.ble (Nat.add n m) d) (inPlaceY size o i n m c new cs es h k)
          (must 12 (scals new) (must 12 (Nat.beq es es0) (must 12 (Nat.beq (Nat.add i (Nat.mul d size)) (llen cs)) (must 12 (Nat.ble n d) (setObjK o .dead h fun h => appendedY es0 (Nat.add n m) (lapp old new) h k)))))) c))
    fun o i => cellsOfK o h fun cs es => must 12 (Nat.blt 0 m) (must 12 (Nat.ble (Nat.mul m (Nat.succ bytes)) 1073741824) (must 12 (scals new) (must 12 (Nat.beq es es0) (must 12 (Nat.beq i (llen cs)) (setObjK o .dead h fun h => appendedY es0 m new h k)))))
def yCp (size : Nat) (x y : AV) (h : H) (k : Kont) : Res :=
  srcCellsY size y h fun m new => x.onSlcZ (k (.int .i64 0) h) fun o i n _ => ltake (Nat.mul (minN m n) size) new fun new => must 12 (scals new) (cellsOfK o h fun cs es => lputK new cs i fun cs => forceN (minN m n) fun q => setObjK o (.cells cs es) h fun h => k (.int .i64 (.ofNat q)) h)
def yMx (x y : AV) (h : H) (k : Kont) : Res := onIntsY x y fun kd a b => ifC (ilt a b) (k (.int kd b) h) (k (.int kd a) h)
def yMi (x y : AV) (h : H) (k : Kont) : Res := onIntsY x y fun kd a b => ifC (ilt b a) (k (.int kd b) h) (k (.int kd a) h)
def yUb (es0 : Nat) (x y : AV) (h : H) (k : Kont) : Res :=
  evNatY y fun n => x.onPtrN (must 12 (Nat.beq n 0) (k (.str []) h)) fun o i => must 12 (Nat.blt 0 n) (must 12 (Nat.ble n 1099511627776) (cellsOfK o h fun cs es => must 12 (Nat.beq es es0) (ldropC i cs fun cs => ltake n cs fun cs => bytesC cs fun l => setObjK o .dead h fun h => k (.str l) h)))
def yRE (x : AV) (h : H) (k : Kont) : Res :=
  x.onMap fun q => mapOfK q h fun es _ => List.rec (motive := fun _ => Res) (newObjK (.loop 9 .no (fset (.map q) .e .leaf) [] .skip .skip) h fun o h => k (.ptr o 0) h) (fun _ _ _ => .bad 52) es
def yNE (x : AV) (h : H) (k : Kont) : Res :=
  x.onPtr fun o i => must 12 (Nat.beq i 0) (iterOf o h fun q => mapOfK q h fun es _ => List.rec (motive := fun _ => Res) (k (.tup [.bool false]) h) (fun _ _ _ => .bad 52) es)
def ySD (x : AV) (h : H) (k : Kont) : Res :=
  x.onSlc (k .nilp h) fun o i _ c => must 12 (Nat.blt 0 (Cap.rec (motive := fun _ => Nat) (fun c => c) (fun d => d) c)) (k (.ptr o i) h)
def yPU (x : AV) (h : H) (k : Kont) : Res :=
  x.onPtrN (k .nilp h) fun o i => cellsOfK o h fun cs _ => must 12 (Nat.blt i (llen cs)) (k (.ptr o i) h)
def yUP (es0 size : Nat) (x : AV) (h : H) (k : Kont) : Res :=
  x.onPtrN (k .nilp h) fun o i => cellsOfK o h fun cs es => must 12 (Nat.beq es es0) (must 12 (Nat.beq (Nat.mod i size) 0) (must 12 (Nat.ble (Nat.add i size) (llen cs)) (k (.ptr o i) h)))
def yPE (neg : Bool) (x y : AV) (h : H) (k : Kont) : Res :=
  x.onPtr fun o i => y.onPtr fun q j => must 12 (o.beq q) (must 12 (Nat.beq i j) (k (.bool (xorB neg true)) h))
def yCS (x : AV) (h : H) (k : Kont) : Res :=
  x.onSlc (k (.int .i64 0) h) fun _ _ _ c => Cap.rec (motive := fun _ => Res) (fun c => k (.int .i64 (.ofNat c)) h) (fun _ => .bad 51) c
def yCl (zero : List AV) (x : AV) (h : H) (k : Kont) : Res :=
  x.onSlcZ (k (.tup []) h) fun o i n _ => must 12 (scals (lrep zero n)) (cellsOfK o h fun cs es => lputK (lrep zero n) cs i fun cs => setObjK o (.cells cs es) h fun h => k (.tup []) h)
def O.stepY (o : O) (ev : Opd → AV) (call : Call) (h : H) (k : Kont) : Res := match o with
  | .mov a0 => yMv (ev a0) h k
  | .pick a0 a1 a2 => yPk (ev a0) (ev a1) (ev a2) h k
  | .alloc a0 a1 => yAl a0 a1 h k
  | .box a0 => yBx (ev a0) h k
  | .build a0 a1 => yBd a0 (evP ev a1) h k
  | .buildSlice a0 a1 a2 => yBS a0 a1 (evP ev a2) h k
  | .loadS a0 => yL (ev a0) h k
  | .loadA a0 a1 => yLA a0 (ev a1) h k
  | .store a0 a1 a2 => yS a0 (ev a1) (ev a2) h k
  | .nilCheck a0 => yNC (ev a0) h k
  | .iadd a0 a1 => yA (ev a0) (ev a1) h k
  | .isub a0 a1 => yD (ev a0) (ev a1) h k
  | .imul a0 a1 => yM (ev a0) (ev a1) h k
  | .iquo a0 a1 => yQ (ev a0) (ev a1) h k
  | .irem a0 a1 => yR (ev a0) (ev a1) h k
  | .iand a0 a1 => yAn (ev a0) (ev a1) h k
  | .ior a0 a1 => yOr (ev a0) (ev a1) h k
  | .ishl a0 a1 => ySl (ev a0) (ev a1) h k
  | .ishr a0 a1 => ySr (ev a0) (ev a1) h k
  | .cmp a0 a1 a2 a3 => yC a0 a1 (ev a2) (ev a3) h k
  | .ieq a0 a1 a2 => yE a0 (ev a1) (ev a2) h k
  | .sadd a0 a1 => ySA (ev a0) (ev a1) h k
  | .seq a0 a1 a2 => ySE a0 (ev a1) (ev a2) h k
  | .slt a0 a1 => ySL (ev a0) (ev a1) h k
  | .eqv a0 a1 a2 a3 a4 => yEv a0 a1 a2 (ev a3) (ev a4) h k
  | .isnil a0 a1 a2 => yN a0 a1 (ev a2) h k
  | .not a0 => yNt (ev a0) h k
  | .neg a0 => yNg (ev a0) h k
  | .convI a0 a1 => yCv a0 (ev a1) h k
  | .b2s a0 => yB (ev a0) h k
  | .s2b a0 a1 => yBy a0 (ev a1) h k
  | .mkSlice a0 a1 a2 a3 a4 => yMS a0 a1 a2 (ev a3) (ev a4) h k
  | .sliceStr a0 a1 a2 => yXS (ev a0) (evO ev a1) (evO ev a2) h k
  | .sliceSlc a0 a1 a2 a3 a4 => yX a0 (ev a1) (evO ev a2) (evO ev a3) (evO ev a4) h k
  | .sliceArr a0 a1 a2 a3 a4 => yXA a0 a1 (ev a2) (evO ev a3) (evO ev a4) h k
  | .faddr a0 a1 => yF a0 (ev a1) h k
  | .field a0 a1 a2 a3 => yFd a0 a1 a2 (ev a3) h k
  | .iaddrS a0 a1 a2 => yI a0 (ev a1) (ev a2) h k
  | .iaddrA a0 a1 a2 a3 => yIA a0 a1 (ev a2) (ev a3) h k
  | .indexStr a0 a1 => yIS (ev a0) (ev a1) h k
  | .indexArr a0 a1 a2 a3 a4 => yIx a0 a1 a2 (ev a3) (ev a4) h k
  | .lookup a0 a1 a2 a3 a4 => yLk a0 a1 a2 (ev a3) (ev a4) h k
  | .mapUpd a0 a1 a2 a3 => yMU a0 (ev a1) (ev a2) (ev a3) h k
  | .mkMap => yMM h k
  | .mkFunc a0 a1 a2 => yMF a0 (evL ev a1) (evL ev a2) h k
  | .extract a0 a1 => yT a0 (ev a1) h k
  | .call a0 a1 => yK a0 (evL ev a1) call h k
  | .callv a0 a1 => yKv (ev a0) (evL ev a1) call h k
  | .len a0 => yLn (ev a0) h k
  | .lenStr a0 => yLS (ev a0) h k
  | .lenMap a0 => yLM (ev a0) h k
  | .lenC a0 => yLC a0 h k
  | .append a0 a1 a2 a3 a4 => yAp a0 a1 a2 (ev a3) (ev a4) h k
  | .copy a0 a1 a2 => yCp a0 (ev a1) (ev a2) h k
  | .imax a0 a1 => yMx (ev a0) (ev a1) h k
  | .imin a0 a1 => yMi (ev a0) (ev a1) h k
  | .ubs a0 a1 a2 => yUb a0 (ev a1) (ev a2) h k
  | .clear a0 a1 => yCl a0 (ev a1) h k
  | .rangeE a0 => yRE (ev a0) h k
  | .nextE a0 => yNE (ev a0) h k
  | .sdata a0 => ySD (ev a0) h k
  | .p2u a0 => yPU (ev a0) h k
  | .u2p a0 a1 a2 => yUP a0 a1 (ev a2) h k
  | .peq a0 a1 a2 => yPE a0 (ev a1) (ev a2) h k
  | .capS a0 => yCS (ev a0) h k
def O.opds (o : O) : List Opd := match o with
  | .mov a0 => [a0]
  | .pick a0 a1 a2 => [a0] ++ [a1] ++ [a2]
  | .alloc _ _ => []
  | .box a0 => [a0]
  | .build _ a1 => a1.map Part.x
  | .buildSlice _ _ a2 => a2.map Part.x
  | .loadS a0 => [a0]
  | .loadA _ a1 => [a1]
  | .store _ a1 a2 => [a1] ++ [a2]
  | .nilCheck a0 => [a0]
  | .iadd a0 a1 => [a0] ++ [a1]
  | .isub a0 a1 => [a0] ++ [a1]
  | .imul a0 a1 => [a0] ++ [a1]
  | .iquo a0 a1 => [a0] ++ [a1]
  | .irem a0 a1 => [a0] ++ [a1]
  | .iand a0 a1 => [a0] ++ [a1]
  | .ior a0 a1 => [a0] ++ [a1]
  | .ishl a0 a1 => [a0] ++ [a1]
  | .ishr a0 a1 => [a0] ++ [a1]
  | .cmp _ _ a2 a3 => [a2] ++ [a3]
  | .ieq _ a1 a2 => [a1] ++ [a2]
  | .sadd a0 a1 => [a0] ++ [a1]
  | .seq _ a1 a2 => [a1] ++ [a2]
  | .slt a0 a1 => [a0] ++ [a1]
  | .eqv _ _ _ a3 a4 => [a3] ++ [a4]
  | .isnil _ _ a2 => [a2]
  | .not a0 => [a0]
  | .neg a0 => [a0]
  | .convI _ a1 => [a1]
  | .b2s a0 => [a0]
  | .s2b _ a1 => [a1]
  | .mkSlice _ _ _ a3 a4 => [a3] ++ [a4]
  | .sliceStr a0 a1 a2 => [a0] ++ (match a1 with | .no => [] | .it x => [x]) ++ (match a2 with | .no => [] | .it x => [x])
  | .sliceSlc _ a1 a2 a3 a4 => [a1] ++ (match a2 with | .no => [] | .it x => [x]) ++ (match a3 with | .no => [] | .it x => [x]) ++ (match a4 with | .no => [] | .it x => [x])
  | .sliceArr _ _ a2 a3 a4 => [a2] ++ (match a3 with | .no => [] | .it x => [x]) ++ (match a4 with | .no => [] | .it x => [x])
  | .faddr _ a1 => [a1]
  | .field _ _ _ a3 => [a3]
  | .iaddrS _ a1 a2 => [a1] ++ [a2]
  | .iaddrA _ _ a2 a3 => [a2] ++ [a3]
  | .indexStr a0 a1 => [a0] ++ [a1]
  | .indexArr _ _ _ a3 a4 => [a3] ++ [a4]
  | .lookup _ _ _ a3 a4 => [a3] ++ [a4]
  | .mapUpd _ a1 a2 a3 => [a1] ++ [a2] ++ [a3]
  | .mkMap => []
  | .mkFunc _ a1 a2 => a1 ++ a2
  | .extract _ a1 => [a1]
  | .call _ a1 => a1
  | .callv a0 a1 => [a0] ++ a1
  | .len a0 => [a0]
  | .lenStr a0 => [a0]
  | .lenMap a0 => [a0]
  | .lenC _ => []
  | .append _ _ _ a3 a4 => [a3] ++ [a4]
  | .copy _ a1 a2 => [a1] ++ [a2]
  | .imax a0 a1 => [a0] ++ [a1]
  | .imin a0 a1 => [a0] ++ [a1]
  | .ubs _ a1 a2 => [a1] ++ [a2]
  | .clear _ a1 => [a1]
  | .rangeE a0 => [a0]
  | .nextE a0 => [a0]
  | .sdata a0 => [a0]
  | .p2u a0 => [a0]
  | .u2p _ _ a2 => [a2]
  | .peq _ a1 a2 => [a1] ++ [a2]
  | .capS a0 => [a0]
def guardK (v : AV) (want : Bool) (h : H) (s : Kont → Res) (k : Kont) : Res := v.onGuard want (s k) (k .undef h)
def againY (s : H → Kont → Res) (v : AV) (k : Res) (n : Nat) : List H → Res :=
  Nat.rec (motive := fun _ => List H → Res) (fun _ => k) (fun _ ih hs => List.rec (motive := fun _ => Res) (.bad 22) (fun h t _ => s h fun w _ => must 12 (w.alike v) (ih t)) hs) n
def freshK (al : Bool) (h : H) (k : Res) (hs : List H) : Res :=
  Bool.rec (motive := fun _ => Res) k (H.rec (motive := fun _ => Res) (fun _ n => List.rec (motive := fun _ => Res) k (fun s _ ih => H.rec (motive := fun _ => Res) (fun t _ => hgetK n t fun a => Obj.rec (motive := fun _ => Res) ih (fun _ _ => .bad 50) (fun _ _ => .bad 50) (.bad 50) (fun _ _ _ _ _ _ => .bad 50) a) s) hs) h) al
def plainD (back : Nat) (eff al : Bool) : Bool := Nat.rec (motive := fun _ => Bool) (Bool.rec (motive := fun _ => Bool) (Bool.rec (motive := fun _ => Bool) true false al) false eff) (fun _ _ => false) back
def O.movX (o : O) : Option Opd := match o with | .mov x => some x | _ => none
section
variable {Φ : Type}
abbrev CT' (Φ : Type) := Call → (Φ → H → Res) → (Nat → Φ → H → Res) → (Φ → H → Res) → Φ → H → Res
def kS : CT' Φ := fun _ _ _ kn fr h => kn fr h
def kR (l : Call → Φ → H → (Φ → H → Res) → Res) : CT' Φ := fun call _ _ kn fr h => l call fr h kn
def kQ (a b : CT' Φ) : CT' Φ := fun call kr ke kn fr h => a call kr ke (b call kr ke kn) fr h
def k_cond (c : Φ → AV) (ok : Bool) (a b : CT' Φ) : CT' Φ := fun call kr ke kn fr h => must 60 ok ((c fr).onBool fun t => Bool.rec (motive := fun _ => Res) (b call kr ke kn fr h) (a call kr ke kn fr h) t)
def kI (c : Φ → AV) (a b : CT' Φ) : CT' Φ := fun call kr ke kn fr h => (c fr).onBool fun t => Bool.rec (motive := fun _ => Res) (b call kr ke kn fr h) (a call kr ke kn fr h) t
def argK (l : List AV) (f : AV → List AV → Res) : Res := List.rec (motive := fun _ => Res) (.bad 24) (fun v t _ => f v t) l
def arg0 (l : List AV) (x : Res) : Res := List.rec (motive := fun _ => Res) x (fun _ _ _ => .bad 24) l
def kB (id : Nat) (b : CT' Φ) : CT' Φ := fun call kr ke kn fr h => b call kr (fun j => Bool.rec (motive := fun _ => Φ → H → Res) (ke j) kn (Nat.beq j id)) kn fr h
def roundsK (f : (Φ → H → Res) → Φ → H → Res) (n : Nat) : (Φ → H → Res) → Φ → H → Res :=
  Nat.rec (motive := fun _ => (Φ → H → Res) → Φ → H → Res) f (fun _ ih kn fr h => ih (ih kn) fr h) n
def kL (b : CT' Φ) : CT' Φ := fun call kr ke _ fr h => roundsK (fun kn fr h => b call kr ke kn fr h) 30 (fun _ _ => .bad 23) fr h
def kX (id : Nat) : CT' Φ := fun _ _ ke _ fr h => ke id fr h
def kT : CT' Φ := fun _ kr _ _ fr h => kr fr h
def k_no (why : Nat) : CT' Φ := fun _ _ _ _ _ _ => .bad why
end
structure Rep (Φ : Type) where
  n : Nat
  init : Φ
  get : Nat → Φ → AV
  set : Nat → AV → Φ → (Φ → Res) → Res
structure O8 (α : Type) where
  (a b c d e f g h : α)

def lf0 (v : AV) (x : O8 AV) (k : O8 AV → Res) : Res := O8.rec (motive := fun _ => Res) (fun _ b c d e f g h => k ⟨v, b, c, d, e, f, g, h⟩) x
def lf1 (v : AV) (x : O8 AV) (k : O8 AV → Res) : Res := O8.rec (motive := fun _ => Res) (fun a _ c d e f g h => k ⟨a, v, c, d, e, f, g, h⟩) x
def lf2 (v : AV) (x : O8 AV) (k : O8 AV → Res) : Res := O8.rec (motive := fun _ => Res) (fun a b _ d e f g h => k ⟨a, b, v, d, e, f, g, h⟩) x
def lf3 (v : AV) (x : O8 AV) (k : O8 AV → Res) : Res := O8.rec (motive := fun _ => Res) (fun a b c _ e f g h => k ⟨a, b, c, v, e, f, g, h⟩) x
def lf4 (v : AV) (x : O8 AV) (k : O8 AV → Res) : Res := O8.rec (motive := fun _ => Res) (fun a b c d _ f g h => k ⟨a, b, c, d, v, f, g, h⟩) x
def lf5 (v : AV) (x : O8 AV) (k : O8 AV → Res) : Res := O8.rec (motive := fun _ => Res) (fun a b c d e _ g h => k ⟨a, b, c, d, e, v, g, h⟩) x
def lf6 (v : AV) (x : O8 AV) (k : O8 AV → Res) : Res := O8.rec (motive := fun _ => Res) (fun a b c d e f _ h => k ⟨a, b, c, d, e, f, v, h⟩) x
def lf7 (v : AV) (x : O8 AV) (k : O8 AV → Res) : Res := O8.rec (motive := fun _ => Res) (fun a b c d e f g _ => k ⟨a, b, c, d, e, f, g, v⟩) x
def up0 {α : Type} (s : AV → α → (α → Res) → Res) (v : AV) (x : O8 α) (k : O8 α → Res) : Res := O8.rec (motive := fun _ => Res) (fun a b c d e f g h => s v a fun a => k ⟨a, b, c, d, e, f, g, h⟩) x
def up1 {α : Type} (s : AV → α → (α → Res) → Res) (v : AV) (x : O8 α) (k : O8 α → Res) : Res := O8.rec (motive := fun _ => Res) (fun a b c d e f g h => s v b fun b => k ⟨a, b, c, d, e, f, g, h⟩) x
def up2 {α : Type} (s : AV → α → (α → Res) → Res) (v : AV) (x : O8 α) (k : O8 α → Res) : Res := O8.rec (motive := fun _ => Res) (fun a b c d e f g h => s v c fun c => k ⟨a, b, c, d, e, f, g, h⟩) x
def up3 {α : Type} (s : AV → α → (α → Res) → Res) (v : AV) (x : O8 α) (k : O8 α → Res) : Res := O8.rec (motive := fun _ => Res) (fun a b c d e f g h => s v d fun d => k ⟨a, b, c, d, e, f, g, h⟩) x
def up4 {α : Type} (s : AV → α → (α → Res) → Res) (v : AV) (x : O8 α) (k : O8 α → Res) : Res := O8.rec (motive := fun _ => Res) (fun a b c d e f g h => s v e fun e => k ⟨a, b, c, d, e, f, g, h⟩) x
def up5 {α : Type} (s : AV → α → (α → Res) → Res) (v : AV) (x : O8 α) (k : O8 α → Res) : Res := O8.rec (motive := fun _ => Res) (fun a b c d e f g h => s v f fun f => k ⟨a, b, c, d, e, f, g, h⟩) x
def up6 {α : Type} (s : AV → α → (α → Res) → Res) (v : AV) (x : O8 α) (k : O8 α → Res) : Res := O8.rec (motive := fun _ => Res) (fun a b c d e f g h => s v g fun g => k ⟨a, b, c, d, e, f, g, h⟩) x
def up7 {α : Type} (s : AV → α → (α → Res) → Res) (v : AV) (x : O8 α) (k : O8 α → Res) : Res := O8.rec (motive := fun _ => Res) (fun a b c d e f g h => s v h fun h => k ⟨a, b, c, d, e, f, g, h⟩) x
abbrev F8 := O8 AV
abbrev F64 := O8 F8
structure F128 where
  (l r : F64)
def i8 : F8 := ⟨.undef, .undef, .undef, .undef, .undef, .undef, .undef, .undef⟩
def i64 : F64 := ⟨i8, i8, i8, i8, i8, i8, i8, i8⟩
def i128 : F128 := ⟨i64, i64⟩
def upl (s : AV → F64 → (F64 → Res) → Res) (v : AV) (x : F128) (k : F128 → Res) : Res := F128.rec (motive := fun _ => Res) (fun l r => s v l fun l => k ⟨l, r⟩) x
def upr (s : AV → F64 → (F64 → Res) → Res) (v : AV) (x : F128) (k : F128 → Res) : Res := F128.rec (motive := fun _ => Res) (fun l r => s v r fun r => k ⟨l, r⟩) x
def ga0 (x : F8) : AV := x.a
def ga1 (x : F8) : AV := x.b
def ga2 (x : F8) : AV := x.c
def ga3 (x : F8) : AV := x.d
def ga4 (x : F8) : AV := x.e
def ga5 (x : F8) : AV := x.f
def ga6 (x : F8) : AV := x.g
def ga7 (x : F8) : AV := x.h
def gb0 (x : F64) : AV := x.a.a
def sb0 : AV → F64 → (F64 → Res) → Res := up0 lf0
def gb1 (x : F64) : AV := x.a.b
def sb1 : AV → F64 → (F64 → Res) → Res := up0 lf1
def gb2 (x : F64) : AV := x.a.c
def sb2 : AV → F64 → (F64 → Res) → Res := up0 lf2
def gb3 (x : F64) : AV := x.a.d
def sb3 : AV → F64 → (F64 → Res) → Res := up0 lf3
def gb4 (x : F64) : AV := x.a.e
def sb4 : AV → F64 → (F64 → Res) → Res := up0 lf4
def gb5 (x : F64) : AV := x.a.f
def sb5 : AV → F64 → (F64 → Res) → Res := up0 lf5
def gb6 (x : F64) : AV := x.a.g
def sb6 : AV → F64 → (F64 → Res) → Res := up0 lf6
def gb7 (x : F64) : AV := x.a.h
def sb7 : AV → F64 → (F64 → Res) → Res := up0 lf7
def gb8 (x : F64) : AV := x.b.a
def sb8 : AV → F64 → (F64 → Res) → Res := up1 lf0
def gb9 (x : F64) : AV := x.b.b
def sb9 : AV → F64 → (F64 → Res) → Res := up1 lf1
def gb10 (x : F64) : AV := x.b.c
def sb10 : AV → F64 → (F64 → Res) → Res := up1 lf2
def gb11 (x : F64) : AV := x.b.d
def sb11 : AV → F64 → (F64 → Res) → Res := up1 lf3
def gb12 (x : F64) : AV := x.b.e
def sb12 : AV → F64 → (F64 → Res) → Res := up1 lf4
def gb13 (x : F64) : AV := x.b.f
def sb13 : AV → F64 → (F64 → Res) → Res := up1 lf5
def gb14 (x : F64) : AV := x.b.g
def sb14 : AV → F64 → (F64 → Res) → Res := up1 lf6
def gb15 (x : F64) : AV := x.b.h
def sb15 : AV → F64 → (F64 → Res) → Res := up1 lf7
def gb16 (x : F64) : AV := x.c.a
def sb16 : AV → F64 → (F64 → Res) → Res := up2 lf0
def gb17 (x : F64) : AV := x.c.b
def sb17 : AV → F64 → (F64 → Res) → Res := up2 lf1
def gb18 (x : F64) : AV := x.c.c
def sb18 : AV → F64 → (F64 → Res) → Res := up2 lf2
def gb19 (x : F64) : AV := x.c.d
def sb19 : AV → F64 → (F64 → Res) → Res := up2 lf3
def gb20 (x : F64) : AV := x.c.e
def sb20 : AV → F64 → (F64 → Res) → Res := up2 lf4
def gb21 (x : F64) : AV := x.c.f
def sb21 : AV → F64 → (F64 → Res) → Res := up2 lf5
def gb22 (x : F64) : AV := x.c.g
def sb22 : AV → F64 → (F64 → Res) → Res := up2 lf6
def gb23 (x : F64) : AV := x.c.h
def sb23 : AV → F64 → (F64 → Res) → Res := up2 lf7
def gb24 (x : F64) : AV := x.d.a
def sb24 : AV → F64 → (F64 → Res) → Res := up3 lf0
def gb25 (x : F64) : AV := x.d.b
def sb25 : AV → F64 → (F64 → Res) → Res := up3 lf1
def gb26 (x : F64) : AV := x.d.c
def sb26 : AV → F64 → (F64 → Res) → Res := up3 lf2
def gb27 (x : F64) : AV := x.d.d
def sb27 : AV → F64 → (F64 → Res) → Res := up3 lf3
def gb28 (x : F64) : AV := x.d.e
def sb28 : AV → F64 → (F64 → Res) → Res := up3 lf4
def gb29 (x : F64) : AV := x.d.f
def sb29 : AV → F64 → (F64 → Res) → Res := up3 lf5
def gb30 (x : F64) : AV := x.d.g
def sb30 : AV → F64 → (F64 → Res) → Res := up3 lf6
def gb31 (x : F64) : AV := x.d.h
def sb31 : AV → F64 → (F64 → Res) → Res := up3 lf7
def gb32 (x : F64) : AV := x.e.a
def sb32 : AV → F64 → (F64 → Res) → Res := up4 lf0
def gb33 (x : F64) : AV := x.e.b
def sb33 : AV → F64 → (F64 → Res) → Res := up4 lf1
def gb34 (x : F64) : AV := x.e.c
def sb34 : AV → F64 → (F64 → Res) → Res := up4 lf2
def gb35 (x : F64) : AV := x.e.d
def sb35 : AV → F64 → (F64 → Res) → Res := up4 lf3
def gb36 (x : F64) : AV := x.e.e
def sb36 : AV → F64 → (F64 → Res) → Res := up4 lf4
def gb37 (x : F64) : AV := x.e.f
def sb37 : AV → F64 → (F64 → Res) → Res := up4 lf5
def gb38 (x : F64) : AV := x.e.g
def sb38 : AV → F64 → (F64 → Res) → Res := up4 lf6
def gb39 (x : F64) : AV := x.e.h
def sb39 : AV → F64 → (F64 → Res) → Res := up4 lf7
def gb40 (x : F64) : AV := x.f.a
def sb40 : AV → F64 → (F64 → Res) → Res := up5 lf0
def gb41 (x : F64) : AV := x.f.b
def sb41 : AV → F64 → (F64 → Res) → Res := up5 lf1
def gb42 (x : F64) : AV := x.f.c
def sb42 : AV → F64 → (F64 → Res) → Res := up5 lf2
def gb43 (x : F64) : AV := x.f.d
def sb43 : AV → F64 → (F64 → Res) → Res := up5 lf3
def gb44 (x : F64) : AV := x.f.e
def sb44 : AV → F64 → (F64 → Res) → Res := up5 lf4
def gb45 (x : F64) : AV := x.f.f
def sb45 : AV → F64 → (F64 → Res) → Res := up5 lf5
def gb46 (x : F64) : AV := x.f.g
def sb46 : AV → F64 → (F64 → Res) → Res := up5 lf6
def gb47 (x : F64) : AV := x.f.h
def sb47 : AV → F64 → (F64 → Res) → Res := up5 lf7
def gb48 (x : F64) : AV := x.g.a
def sb48 : AV → F64 → (F64 → Res) → Res := up6 lf0
def gb49 (x : F64) : AV := x.g.b
def sb49 : AV → F64 → (F64 → Res) → Res := up6 lf1
def gb50 (x : F64) : AV := x.g.c
def sb50 : AV → F64 → (F64 → Res) → Res := up6 lf2
def gb51 (x : F64) : AV := x.g.d
def sb51 : AV → F64 → (F64 → Res) → Res := up6 lf3
def gb52 (x : F64) : AV := x.g.e
def sb52 : AV → F64 → (F64 → Res) → Res := up6 lf4
def gb53 (x : F64) : AV := x.g.f
def sb53 : AV → F64 → (F64 → Res) → Res := up6 lf5
def gb54 (x : F64) : AV := x.g.g
def sb54 : AV → F64 → (F64 → Res) → Res := up6 lf6
def gb55 (x : F64) : AV := x.g.h
def sb55 : AV → F64 → (F64 → Res) → Res := up6 lf7
def gb56 (x : F64) : AV := x.h.a
def sb56 : AV → F64 → (F64 → Res) → Res := up7 lf0
def gb57 (x : F64) : AV := x.h.b
def sb57 : AV → F64 → (F64 → Res) → Res := up7 lf1
def gb58 (x : F64) : AV := x.h.c
def sb58 : AV → F64 → (F64 → Res) → Res := up7 lf2
def gb59 (x : F64) : AV := x.h.d
def sb59 : AV → F64 → (F64 → Res) → Res := up7 lf3
def gb60 (x : F64) : AV := x.h.e
def sb60 : AV → F64 → (F64 → Res) → Res := up7 lf4
def gb61 (x : F64) : AV := x.h.f
def sb61 : AV → F64 → (F64 → Res) → Res := up7 lf5
def gb62 (x : F64) : AV := x.h.g
def sb62 : AV → F64 → (F64 → Res) → Res := up7 lf6
def gb63 (x : F64) : AV := x.h.h
def sb63 : AV → F64 → (F64 → Res) → Res := up7 lf7
def gc0 (x : F128) : AV := x.l.a.a
def pc0 : AV → F128 → (F128 → Res) → Res := upl sb0
def gc1 (x : F128) : AV := x.l.a.b
def pc1 : AV → F128 → (F128 → Res) → Res := upl sb1
def gc2 (x : F128) : AV := x.l.a.c
def pc2 : AV → F128 → (F128 → Res) → Res := upl sb2
def gc3 (x : F128) : AV := x.l.a.d
def pc3 : AV → F128 → (F128 → Res) → Res := upl sb3
def gc4 (x : F128) : AV := x.l.a.e
def pc4 : AV → F128 → (F128 → Res) → Res := upl sb4
def gc5 (x : F128) : AV := x.l.a.f
def pc5 : AV → F128 → (F128 → Res) → Res := upl sb5
def gc6 (x : F128) : AV := x.l.a.g
def pc6 : AV → F128 → (F128 → Res) → Res := upl sb6
def gc7 (x : F128) : AV := x.l.a.h
def pc7 : AV → F128 → (F128 → Res) → Res := upl sb7
def gc8 (x : F128) : AV := x.l.b.a
def pc8 : AV → F128 → (F128 → Res) → Res := upl sb8
def gc9 (x : F128) : AV := x.l.b.b
def pc9 : AV → F128 → (F128 → Res) → Res := upl sb9
def gc10 (x : F128) : AV := x.l.b.c
def pc10 : AV → F128 → (F128 → Res) → Res := upl sb10
def gc11 (x : F128) : AV := x.l.b.d
def pc11 : AV → F128 → (F128 → Res) → Res := upl sb11
def gc12 (x : F128) : AV := x.l.b.e
def pc12 : AV → F128 → (F128 → Res) → Res := upl sb12
def gc13 (x : F128) : AV := x.l.b.f
def pc13 : AV → F128 → (F128 → Res) → Res := upl sb13
def gc14 (x : F128) : AV := x.l.b.g
def pc14 : AV → F128 → (F128 → Res) → Res := upl sb14
def gc15 (x : F128) : AV := x.l.b.h
def pc15 : AV → F128 → (F128 → Res) → Res := upl sb15
def gc16 (x : F128) : AV := x.l.c.a
def pc16 : AV → F128 → (F128 → Res) → Res := upl sb16
def gc17 (x : F128) : AV := x.l.c.b
def pc17 : AV → F128 → (F128 → Res) → Res := upl sb17
def gc18 (x : F128) : AV := x.l.c.c
def pc18 : AV → F128 → (F128 → Res) → Res := upl sb18
def gc19 (x : F128) : AV := x.l.c.d
def pc19 : AV → F128 → (F128 → Res) → Res := upl sb19
def gc20 (x : F128) : AV := x.l.c.e
def pc20 : AV → F128 → (F128 → Res) → Res := upl sb20
def gc21 (x : F128) : AV := x.l.c.f
def pc21 : AV → F128 → (F128 → Res) → Res := upl sb21
def gc22 (x : F128) : AV := x.l.c.g
def pc22 : AV → F128 → (F128 → Res) → Res := upl sb22
def gc23 (x : F128) : AV := x.l.c.h
def pc23 : AV → F128 → (F128 → Res) → Res := upl sb23
def gc24 (x : F128) : AV := x.l.d.a
def pc24 : AV → F128 → (F128 → Res) → Res := upl sb24
def gc25 (x : F128) : AV := x.l.d.b
def pc25 : AV → F128 → (F128 → Res) → Res := upl sb25
def gc26 (x : F128) : AV := x.l.d.c
def pc26 : AV → F128 → (F128 → Res) → Res := upl sb26
def gc27 (x : F128) : AV := x.l.d.d
def pc27 : AV → F128 → (F128 → Res) → Res := upl sb27
def gc28 (x : F128) : AV := x.l.d.e
def pc28 : AV → F128 → (F128 → Res) → Res := upl sb28
def gc29 (x : F128) : AV := x.l.d.f
def pc29 : AV → F128 → (F128 → Res) → Res := upl sb29
def gc30 (x : F128) : AV := x.l.d.g
def pc30 : AV → F128 → (F128 → Res) → Res := upl sb30
def gc31 (x : F128) : AV := x.l.d.h
def pc31 : AV → F128 → (F128 → Res) → Res := upl sb31
def gc32 (x : F128) : AV := x.l.e.a
def pc32 : AV → F128 → (F128 → Res) → Res := upl sb32
def gc33 (x : F128) : AV := x.l.e.b
def pc33 : AV → F128 → (F128 → Res) → Res := upl sb33
def gc34 (x : F128) : AV := x.l.e.c
def pc34 : AV → F128 → (F128 → Res) → Res := upl sb34
def gc35 (x : F128) : AV := x.l.e.d
def pc35 : AV → F128 → (F128 → Res) → Res := upl sb35
def gc36 (x : F128) : AV := x.l.e.e
def pc36 : AV → F128 → (F128 → Res) → Res := upl sb36
def gc37 (x : F128) : AV := x.l.e.f
def pc37 : AV → F128 → (F128 → Res) → Res := upl sb37
def gc38 (x : F128) : AV := x.l.e.g
def pc38 : AV → F128 → (F128 → Res) → Res := upl sb38
def gc39 (x : F128) : AV := x.l.e.h
def pc39 : AV → F128 → (F128 → Res) → Res := upl sb39
def gc40 (x : F128) : AV := x.l.f.a
def pc40 : AV → F128 → (F128 → Res) → Res := upl sb40
def gc41 (x : F128) : AV := x.l.f.b
def pc41 : AV → F128 → (F128 → Res) → Res := upl sb41
def gc42 (x : F128) : AV := x.l.f.c
def pc42 : AV → F128 → (F128 → Res) → Res := upl sb42
def gc43 (x : F128) : AV := x.l.f.d
def pc43 : AV → F128 → (F128 → Res) → Res := upl sb43
def gc44 (x : F128) : AV := x.l.f.e
def pc44 : AV → F128 → (F128 → Res) → Res := upl sb44
def gc45 (x : F128) : AV := x.l.f.f
def pc45 : AV → F128 → (F128 → Res) → Res := upl sb45
def gc46 (x : F128) : AV := x.l.f.g
def pc46 : AV → F128 → (F128 → Res) → Res := upl sb46
def gc47 (x : F128) : AV := x.l.f.h
def pc47 : AV → F128 → (F128 → Res) → Res := upl sb47
def gc48 (x : F128) : AV := x.l.g.a
def pc48 : AV → F128 → (F128 → Res) → Res := upl sb48
def gc49 (x : F128) : AV := x.l.g.b
def pc49 : AV → F128 → (F128 → Res) → Res := upl sb49
def gc50 (x : F128) : AV := x.l.g.c
def pc50 : AV → F128 → (F128 → Res) → Res := upl sb50
def gc51 (x : F128) : AV := x.l.g.d
def pc51 : AV → F128 → (F128 → Res) → Res := upl sb51
def gc52 (x : F128) : AV := x.l.g.e
def pc52 : AV → F128 → (F128 → Res) → Res := upl sb52
def gc53 (x : F128) : AV := x.l.g.f
def pc53 : AV → F128 → (F128 → Res) → Res := upl sb53
def gc54 (x : F128) : AV := x.l.g.g
def pc54 : AV → F128 → (F128 → Res) → Res := upl sb54
def gc55 (x : F128) : AV := x.l.g.h
def pc55 : AV → F128 → (F128 → Res) → Res := upl sb55
def gc56 (x : F128) : AV := x.l.h.a
def pc56 : AV → F128 → (F128 → Res) → Res := upl sb56
def gc57 (x : F128) : AV := x.l.h.b
def pc57 : AV → F128 → (F128 → Res) → Res := upl sb57
def gc58 (x : F128) : AV := x.l.h.c
def pc58 : AV → F128 → (F128 → Res) → Res := upl sb58
def gc59 (x : F128) : AV := x.l.h.d
def pc59 : AV → F128 → (F128 → Res) → Res := upl sb59
def gc60 (x : F128) : AV := x.l.h.e
def pc60 : AV → F128 → (F128 → Res) → Res := upl sb60
def gc61 (x : F128) : AV := x.l.h.f
def pc61 : AV → F128 → (F128 → Res) → Res := upl sb61
def gc62 (x : F128) : AV := x.l.h.g
def pc62 : AV → F128 → (F128 → Res) → Res := upl sb62
def gc63 (x : F128) : AV := x.l.h.h
def pc63 : AV → F128 → (F128 → Res) → Res := upl sb63
def gc64 (x : F128) : AV := x.r.a.a
def pc64 : AV → F128 → (F128 → Res) → Res := upr sb0
def gc65 (x : F128) : AV := x.r.a.b
def pc65 : AV → F128 → (F128 → Res) → Res := upr sb1
def gc66 (x : F128) : AV := x.r.a.c
def pc66 : AV → F128 → (F128 → Res) → Res := upr sb2
def gc67 (x : F128) : AV := x.r.a.d
def pc67 : AV → F128 → (F128 → Res) → Res := upr sb3
def gc68 (x : F128) : AV := x.r.a.e
def pc68 : AV → F128 → (F128 → Res) → Res := upr sb4
def gc69 (x : F128) : AV := x.r.a.f
def pc69 : AV → F128 → (F128 → Res) → Res := upr sb5
def gc70 (x : F128) : AV := x.r.a.g
def pc70 : AV → F128 → (F128 → Res) → Res := upr sb6
def gc71 (x : F128) : AV := x.r.a.h
def pc71 : AV → F128 → (F128 → Res) → Res := upr sb7
def gc72 (x : F128) : AV := x.r.b.a
def pc72 : AV → F128 → (F128 → Res) → Res := upr sb8
def gc73 (x : F128) : AV := x.r.b.b
def pc73 : AV → F128 → (F128 → Res) → Res := upr sb9
def gc74 (x : F128) : AV := x.r.b.c
def pc74 : AV → F128 → (F128 → Res) → Res := upr sb10
def gc75 (x : F128) : AV := x.r.b.d
def pc75 : AV → F128 → (F128 → Res) → Res := upr sb11
def gc76 (x : F128) : AV := x.r.b.e
def pc76 : AV → F128 → (F128 → Res) → Res := upr sb12
def gc77 (x : F128) : AV := x.r.b.f
def pc77 : AV → F128 → (F128 → Res) → Res := upr sb13
def gc78 (x : F128) : AV := x.r.b.g
def pc78 : AV → F128 → (F128 → Res) → Res := upr sb14
def gc79 (x : F128) : AV := x.r.b.h
def pc79 : AV → F128 → (F128 → Res) → Res := upr sb15
def gc80 (x : F128) : AV := x.r.c.a
def pc80 : AV → F128 → (F128 → Res) → Res := upr sb16
def gc81 (x : F128) : AV := x.r.c.b
def pc81 : AV → F128 → (F128 → Res) → Res := upr sb17
def gc82 (x : F128) : AV := x.r.c.c
def pc82 : AV → F128 → (F128 → Res) → Res := upr sb18
def gc83 (x : F128) : AV := x.r.c.d
def pc83 : AV → F128 → (F128 → Res) → Res := upr sb19
def gc84 (x : F128) : AV := x.r.c.e
def pc84 : AV → F128 → (F128 → Res) → Res := upr sb20
def gc85 (x : F128) : AV := x.r.c.f
def pc85 : AV → F128 → (F128 → Res) → Res := upr sb21
def gc86 (x : F128) : AV := x.r.c.g
def pc86 : AV → F128 → (F128 → Res) → Res := upr sb22
def gc87 (x : F128) : AV := x.r.c.h
def pc87 : AV → F128 → (F128 → Res) → Res := upr sb23
def gc88 (x : F128) : AV := x.r.d.a
def pc88 : AV → F128 → (F128 → Res) → Res := upr sb24
def gc89 (x : F128) : AV := x.r.d.b
def pc89 : AV → F128 → (F128 → Res) → Res := upr sb25
def gc90 (x : F128) : AV := x.r.d.c
def pc90 : AV → F128 → (F128 → Res) → Res := upr sb26
def gc91 (x : F128) : AV := x.r.d.d
def pc91 : AV → F128 → (F128 → Res) → Res := upr sb27
def gc92 (x : F128) : AV := x.r.d.e
def pc92 : AV → F128 → (F128 → Res) → Res := upr sb28
def gc93 (x : F128) : AV := x.r.d.f
def pc93 : AV → F128 → (F128 → Res) → Res := upr sb29
def gc94 (x : F128) : AV := x.r.d.g
def pc94 : AV → F128 → (F128 → Res) → Res := upr sb30
def gc95 (x : F128) : AV := x.r.d.h
def pc95 : AV → F128 → (F128 → Res) → Res := upr sb31
def gc96 (x : F128) : AV := x.r.e.a
def pc96 : AV → F128 → (F128 → Res) → Res := upr sb32
def gc97 (x : F128) : AV := x.r.e.b
def pc97 : AV → F128 → (F128 → Res) → Res := upr sb33
def gc98 (x : F128) : AV := x.r.e.c
def pc98 : AV → F128 → (F128 → Res) → Res := upr sb34
def gc99 (x : F128) : AV := x.r.e.d
def pc99 : AV → F128 → (F128 → Res) → Res := upr sb35
def gc100 (x : F128) : AV := x.r.e.e
def pc100 : AV → F128 → (F128 → Res) → Res := upr sb36
def gc101 (x : F128) : AV := x.r.e.f
def pc101 : AV → F128 → (F128 → Res) → Res := upr sb37
def gc102 (x : F128) : AV := x.r.e.g
def pc102 : AV → F128 → (F128 → Res) → Res := upr sb38
def gc103 (x : F128) : AV := x.r.e.h
def pc103 : AV → F128 → (F128 → Res) → Res := upr sb39
def gc104 (x : F128) : AV := x.r.f.a
def pc104 : AV → F128 → (F128 → Res) → Res := upr sb40
def gc105 (x : F128) : AV := x.r.f.b
def pc105 : AV → F128 → (F128 → Res) → Res := upr sb41
def gc106 (x : F128) : AV := x.r.f.c
def pc106 : AV → F128 → (F128 → Res) → Res := upr sb42
def gc107 (x : F128) : AV := x.r.f.d
def pc107 : AV → F128 → (F128 → Res) → Res := upr sb43
def gc108 (x : F128) : AV := x.r.f.e
def pc108 : AV → F128 → (F128 → Res) → Res := upr sb44
def gc109 (x : F128) : AV := x.r.f.f
def pc109 : AV → F128 → (F128 → Res) → Res := upr sb45
def gc110 (x : F128) : AV := x.r.f.g
def pc110 : AV → F128 → (F128 → Res) → Res := upr sb46
def gc111 (x : F128) : AV := x.r.f.h
def pc111 : AV → F128 → (F128 → Res) → Res := upr sb47
def gc112 (x : F128) : AV := x.r.g.a
def pc112 : AV → F128 → (F128 → Res) → Res := upr sb48
def gc113 (x : F128) : AV := x.r.g.b
def pc113 : AV → F128 → (F128 → Res) → Res := upr sb49
def gc114 (x : F128) : AV := x.r.g.c
def pc114 : AV → F128 → (F128 → Res) → Res := upr sb50
def gc115 (x : F128) : AV := x.r.g.d
def pc115 : AV → F128 → (F128 → Res) → Res := upr sb51
def gc116 (x : F128) : AV := x.r.g.e
def pc116 : AV → F128 → (F128 → Res) → Res := upr sb52
def gc117 (x : F128) : AV := x.r.g.f
def pc117 : AV → F128 → (F128 → Res) → Res := upr sb53
def gc118 (x : F128) : AV := x.r.g.g
def pc118 : AV → F128 → (F128 → Res) → Res := upr sb54
def gc119 (x : F128) : AV := x.r.g.h
def pc119 : AV → F128 → (F128 → Res) → Res := upr sb55
def gc120 (x : F128) : AV := x.r.h.a
def pc120 : AV → F128 → (F128 → Res) → Res := upr sb56
def gc121 (x : F128) : AV := x.r.h.b
def pc121 : AV → F128 → (F128 → Res) → Res := upr sb57
def gc122 (x : F128) : AV := x.r.h.c
def pc122 : AV → F128 → (F128 → Res) → Res := upr sb58
def gc123 (x : F128) : AV := x.r.h.d
def pc123 : AV → F128 → (F128 → Res) → Res := upr sb59
def gc124 (x : F128) : AV := x.r.h.e
def pc124 : AV → F128 → (F128 → Res) → Res := upr sb60
def gc125 (x : F128) : AV := x.r.h.f
def pc125 : AV → F128 → (F128 → Res) → Res := upr sb61
def gc126 (x : F128) : AV := x.r.h.g
def pc126 : AV → F128 → (F128 → Res) → Res := upr sb62
def gc127 (x : F128) : AV := x.r.h.h
def pc127 : AV → F128 → (F128 → Res) → Res := upr sb63
def pick0 {α : Type} (d : α) (l : List α) : Nat → α := List.rec (motive := fun _ => Nat → α) (fun _ => d) (fun a _ ih i => Nat.rec (motive := fun _ => α) a (fun j _ => ih j) i) l
def get8 : Nat → F8 → AV := pick0 (fun _ => .undef) [ga0, ga1, ga2, ga3, ga4, ga5, ga6, ga7]
def set8 : Nat → AV → F8 → (F8 → Res) → Res := pick0 (fun _ _ _ => .bad 61) [lf0, lf1, lf2, lf3, lf4, lf5, lf6, lf7]
def oc {α : Type} (d : α) : Nat → O8 α → α := pick0 (fun _ => d) [O8.a, O8.b, O8.c, O8.d, O8.e, O8.f, O8.g, O8.h]
def upn {α : Type} : Nat → (AV → α → (α → Res) → Res) → AV → O8 α → (O8 α → Res) → Res := pick0 (fun _ _ _ _ => .bad 61) [up0, up1, up2, up3, up4, up5, up6, up7]
def get64 (i : Nat) (x : F64) : AV := get8 (Nat.mod i 8) (oc i8 (Nat.div i 8) x)
def set64 (i : Nat) : AV → F64 → (F64 → Res) → Res := upn (Nat.div i 8) (set8 (Nat.mod i 8))
def get128 (i : Nat) (x : F128) : AV := Bool.rec (motive := fun _ => AV) (get64 (Nat.sub i 64) x.r) (get64 i x.l) (Nat.blt i 64)
def set128 (i : Nat) : AV → F128 → (F128 → Res) → Res := Bool.rec (motive := fun _ => AV → F128 → (F128 → Res) → Res) (upr (set64 (Nat.sub i 64))) (upl (set64 i)) (Nat.blt i 64)
def rep8 : Rep F8 := ⟨8, i8, get8, set8⟩
def rep64 : Rep F64 := ⟨64, i64, get64, set64⟩
def rep128 : Rep F128 := ⟨128, i128, get128, set128⟩
def ena0 (b : CT' F8) (e : Kont → F8 → H → Res) : Call → List AV → H → Kont → Res := fun c a h k => arg0 a (b c (e k) (fun _ _ _ => .bad 25) (e k) i8 h)
def ena1 (b : CT' F8) (e : Kont → F8 → H → Res) : Call → List AV → H → Kont → Res := fun c a h k => argK a fun v0 a => arg0 a (b c (e k) (fun _ _ _ => .bad 25) (e k) ⟨v0, .undef, .undef, .undef, .undef, .undef, .undef, .undef⟩ h)
def ena2 (b : CT' F8) (e : Kont → F8 → H → Res) : Call → List AV → H → Kont → Res := fun c a h k => argK a fun v0 a => argK a fun v1 a => arg0 a (b c (e k) (fun _ _ _ => .bad 25) (e k) ⟨v0, v1, .undef, .undef, .undef, .undef, .undef, .undef⟩ h)
def ena3 (b : CT' F8) (e : Kont → F8 → H → Res) : Call → List AV → H → Kont → Res := fun c a h k => argK a fun v0 a => argK a fun v1 a => argK a fun v2 a => arg0 a (b c (e k) (fun _ _ _ => .bad 25) (e k) ⟨v0, v1, v2, .undef, .undef, .undef, .undef, .undef⟩ h)
def ena4 (b : CT' F8) (e : Kont → F8 → H → Res) : Call → List AV → H → Kont → Res := fun c a h k => argK a fun v0 a => argK a fun v1 a => argK a fun v2 a => argK a fun v3 a => arg0 a (b c (e k) (fun _ _ _ => .bad 25) (e k) ⟨v0, v1, v2, v3, .undef, .undef, .undef, .undef⟩ h)
def ena5 (b : CT' F8) (e : Kont → F8 → H → Res) : Call → List AV → H → Kont → Res := fun c a h k => argK a fun v0 a => argK a fun v1 a => argK a fun v2 a => argK a fun v3 a => argK a fun v4 a => arg0 a (b c (e k) (fun _ _ _ => .bad 25) (e k) ⟨v0, v1, v2, v3, v4, .undef, .undef, .undef⟩ h)
def ena6 (b : CT' F8) (e : Kont → F8 → H → Res) : Call → List AV → H → Kont → Res := fun c a h k => argK a fun v0 a => argK a fun v1 a => argK a fun v2 a => argK a fun v3 a => argK a fun v4 a => argK a fun v5 a => arg0 a (b c (e k) (fun _ _ _ => .bad 25) (e k) ⟨v0, v1, v2, v3, v4, v5, .undef, .undef⟩ h)
def ena7 (b : CT' F8) (e : Kont → F8 → H → Res) : Call → List AV → H → Kont → Res := fun c a h k => argK a fun v0 a => argK a fun v1 a => argK a fun v2 a => argK a fun v3 a => argK a fun v4 a => argK a fun v5 a => argK a fun v6 a => arg0 a (b c (e k) (fun _ _ _ => .bad 25) (e k) ⟨v0, v1, v2, v3, v4, v5, v6, .undef⟩ h)
def ena8 (b : CT' F8) (e : Kont → F8 → H → Res) : Call → List AV → H → Kont → Res := fun c a h k => argK a fun v0 a => argK a fun v1 a => argK a fun v2 a => argK a fun v3 a => argK a fun v4 a => argK a fun v5 a => argK a fun v6 a => argK a fun v7 a => arg0 a (b c (e k) (fun _ _ _ => .bad 25) (e k) ⟨v0, v1, v2, v3, v4, v5, v6, v7⟩ h)
def enb0 (b : CT' F64) (e : Kont → F64 → H → Res) : Call → List AV → H → Kont → Res := fun c a h k => arg0 a (b c (e k) (fun _ _ _ => .bad 25) (e k) i64 h)
def enb1 (b : CT' F64) (e : Kont → F64 → H → Res) : Call → List AV → H → Kont → Res := fun c a h k => argK a fun v0 a => arg0 a (b c (e k) (fun _ _ _ => .bad 25) (e k) ⟨⟨v0, .undef, .undef, .undef, .undef, .undef, .undef, .undef⟩, i8, i8, i8, i8, i8, i8, i8⟩ h)
def enb2 (b : CT' F64) (e : Kont → F64 → H → Res) : Call → List AV → H → Kont → Res := fun c a h k => argK a fun v0 a => argK a fun v1 a => arg0 a (b c (e k) (fun _ _ _ => .bad 25) (e k) ⟨⟨v0, v1, .undef, .undef, .undef, .undef, .undef, .undef⟩, i8, i8, i8, i8, i8, i8, i8⟩ h)
def enb3 (b : CT' F64) (e : Kont → F64 → H → Res) : Call → List AV → H → Kont → Res := fun c a h k => argK a fun v0 a => argK a fun v1 a => argK a fun v2 a => arg0 a (b c (e k) (fun _ _ _ => .bad 25) (e k) ⟨⟨v0, v1, v2, .undef, .undef, .undef, .undef, .undef⟩, i8, i8, i8, i8, i8, i8, i8⟩ h)
def enb4 (b : CT' F64) (e : Kont → F64 → H → Res) : Call → List AV → H → Kont → Res := fun c a h k => argK a fun v0 a => argK a fun v1 a => argK a fun v2 a => argK a fun v3 a => arg0 a (b c (e k) (fun _ _ _ => .bad 25) (e k) ⟨⟨v0, v1, v2, v3, .undef, .undef, .undef, .undef⟩, i8, i8, i8, i8, i8, i8, i8⟩ h)
def enb5 (b : CT' F64) (e : Kont → F64 → H → Res) : Call → List AV → H → Kont → Res := fun c a h k => argK a fun v0 a => argK a fun v1 a => argK a fun v2 a => argK a fun v3 a => argK a fun v4 a => arg0 a (b c (e k) (fun _ _ _ => .bad 25) (e k) ⟨⟨v0, v1, v2, v3, v4, .undef, .undef, .undef⟩, i8, i8, i8, i8, i8, i8, i8⟩ h)
def enb6 (b : CT' F64) (e : Kont → F64 → H → Res) : Call → List AV → H → Kont → Res := fun c a h k => argK a fun v0 a => argK a fun v1 a => argK a fun v2 a => argK a fun v3 a => argK a fun v4 a => argK a fun v5 a => arg0 a (b c (e k) (fun _ _ _ => .bad 25) (e k) ⟨⟨v0, v1, v2, v3, v4, v5, .undef, .undef⟩, i8, i8, i8, i8, i8, i8, i8⟩ h)
def enb7 (b : CT' F64) (e : Kont → F64 → H → Res) : Call → List AV → H → Kont → Res := fun c a h k => argK a fun v0 a => argK a fun v1 a => argK a fun v2 a => argK a fun v3 a => argK a fun v4 a => argK a fun v5 a => argK a fun v6 a => arg0 a (b c (e k) (fun _ _ _ => .bad 25) (e k) ⟨⟨v0, v1, v2, v3, v4, v5, v6, .undef⟩, i8, i8, i8, i8, i8, i8, i8⟩ h)
def enb8 (b : CT' F64) (e : Kont → F64 → H → Res) : Call → List AV → H → Kont → Res := fun c a h k => argK a fun v0 a => argK a fun v1 a => argK a fun v2 a => argK a fun v3 a => argK a fun v4 a => argK a fun v5 a => argK a fun v6 a => argK a fun v7 a => arg0 a (b c (e k) (fun _ _ _ => .bad 25) (e k) ⟨⟨v0, v1, v2, v3, v4, v5, v6, v7⟩, i8, i8, i8, i8, i8, i8, i8⟩ h)
def enb9 (b : CT' F64) (e : Kont → F64 → H → Res) : Call → List AV → H → Kont → Res := fun c a h k => argK a fun v0 a => argK a fun v1 a => argK a fun v2 a => argK a fun v3 a => argK a fun v4 a => argK a fun v5 a => argK a fun v6 a => argK a fun v7 a => argK a fun v8 a => arg0 a (b c (e k) (fun _ _ _ => .bad 25) (e k) ⟨⟨v0, v1, v2, v3, v4, v5, v6, v7⟩, ⟨v8, .undef, .undef, .undef, .undef, .undef, .undef, .undef⟩, i8, i8, i8, i8, i8, i8⟩ h)
def enb10 (b : CT' F64) (e : Kont → F64 → H → Res) : Call → List AV → H → Kont → Res := fun c a h k => argK a fun v0 a => argK a fun v1 a => argK a fun v2 a => argK a fun v3 a => argK a fun v4 a => argK a fun v5 a => argK a fun v6 a => argK a fun v7 a => argK a fun v8 a => argK a fun v9 a => arg0 a (b c (e k) (fun _ _ _ => .bad 25) (e k) ⟨⟨v0, v1, v2, v3, v4, v5, v6, v7⟩, ⟨v8, v9, .undef, .undef, .undef, .undef, .undef, .undef⟩, i8, i8, i8, i8, i8, i8⟩ h)
def enb11 (b : CT' F64) (e : Kont → F64 → H → Res) : Call → List AV → H → Kont → Res := fun c a h k => argK a fun v0 a => argK a fun v1 a => argK a fun v2 a => argK a fun v3 a => argK a fun v4 a => argK a fun v5 a => argK a fun v6 a => argK a fun v7 a => argK a fun v8 a => argK a fun v9 a => argK a fun v10 a => arg0 a (b c (e k) (fun _ _ _ => .bad 25) (e k) ⟨⟨v0, v1, v2, v3, v4, v5, v6, v7⟩, ⟨v8, v9, v10, .undef, .undef, .undef, .undef, .undef⟩, i8, i8, i8, i8, i8, i8⟩ h)
def enb12 (b : CT' F64) (e : Kont → F64 → H → Res) : Call → List AV → H → Kont → Res := fun c a h k => argK a fun v0 a => argK a fun v1 a => argK a fun v2 a => argK a fun v3 a => argK a fun v4 a => argK a fun v5 a => argK a fun v6 a => argK a fun v7 a => argK a fun v8 a => argK a fun v9 a => argK a fun v10 a => argK a fun v11 a => arg0 a (b c (e k) (fun _ _ _ => .bad 25) (e k) ⟨⟨v0, v1, v2, v3, v4, v5, v6, v7⟩, ⟨v8, v9, v10, v11, .undef, .undef, .undef, .undef⟩, i8, i8, i8, i8, i8, i8⟩ h)
def enb13 (b : CT' F64) (e : Kont → F64 → H → Res) : Call → List AV → H → Kont → Res := fun c a h k => argK a fun v0 a => argK a fun v1 a => argK a fun v2 a => argK a fun v3 a => argK a fun v4 a => argK a fun v5 a => argK a fun v6 a => argK a fun v7 a => argK a fun v8 a => argK a fun v9 a => argK a fun v10 a => argK a fun v11 a => argK a fun v12 a => arg0 a (b c (e k) (fun _ _ _ => .bad 25) (e k) ⟨⟨v0, v1, v2, v3, v4, v5, v6, v7⟩, ⟨v8, v9, v10, v11, v12, .undef, .undef, .undef⟩, i8, i8, i8, i8, i8, i8⟩ h)
def enb14 (b : CT' F64) (e : Kont → F64 → H → Res) : Call → List AV → H → Kont → Res := fun c a h k => argK a fun v0 a => argK a fun v1 a => argK a fun v2 a => argK a fun v3 a => argK a fun v4 a => argK a fun v5 a => argK a fun v6 a => argK a fun v7 a => argK a fun v8 a => argK a fun v9 a => argK a fun v10 a => argK a fun v11 a => argK a fun v12 a => argK a fun v13 a => arg0 a (b c (e k) (fun _ _ _ => .bad 25) (e k) ⟨⟨v0, v1, v2, v3, v4, v5, v6, v7⟩, ⟨v8, v9, v10, v11, v12, v13, .undef, .undef⟩, i8, i8, i8, i8, i8, i8⟩ h)
def enb15 (b : CT' F64) (e : Kont → F64 → H → Res) : Call → List AV → H → Kont → Res := fun c a h k => argK a fun v0 a => argK a fun v1 a => argK a fun v2 a => argK a fun v3 a => argK a fun v4 a => argK a fun v5 a => argK a fun v6 a => argK a fun v7 a => argK a fun v8 a => argK a fun v9 a => argK a fun v10 a => argK a fun v11 a => argK a fun v12 a => argK a fun v13 a => argK a fun v14 a => arg0 a (b c (e k) (fun _ _ _ => .bad 25) (e k) ⟨⟨v0, v1, v2, v3, v4, v5, v6, v7⟩, ⟨v8, v9, v10, v11, v12, v13, v14, .undef⟩, i8, i8, i8, i8, i8, i8⟩ h)
def enb16 (b : CT' F64) (e : Kont → F64 → H → Res) : Call → List AV → H → Kont → Res := fun c a h k => argK a fun v0 a => argK a fun v1 a => argK a fun v2 a => argK a fun v3 a => argK a fun v4 a => argK a fun v5 a => argK a fun v6 a => argK a fun v7 a => argK a fun v8 a => argK a fun v9 a => argK a fun v10 a => argK a fun v11 a => argK a fun v12 a => argK a fun v13 a => argK a fun v14 a => argK a fun v15 a => arg0 a (b c (e k) (fun _ _ _ => .bad 25) (e k) ⟨⟨v0, v1, v2, v3, v4, v5, v6, v7⟩, ⟨v8, v9, v10, v11, v12, v13, v14, v15⟩, i8, i8, i8, i8, i8, i8⟩ h)
def enc0 (b : CT' F128) (e : Kont → F128 → H → Res) : Call → List AV → H → Kont → Res := fun c a h k => arg0 a (b c (e k) (fun _ _ _ => .bad 25) (e k) ⟨i64, i64⟩ h)
def enc1 (b : CT' F128) (e : Kont → F128 → H → Res) : Call → List AV → H → Kont → Res := fun c a h k => argK a fun v0 a => arg0 a (b c (e k) (fun _ _ _ => .bad 25) (e k) ⟨⟨⟨v0, .undef, .undef, .undef, .undef, .undef, .undef, .undef⟩, i8, i8, i8, i8, i8, i8, i8⟩, i64⟩ h)
def enc2 (b : CT' F128) (e : Kont → F128 → H → Res) : Call → List AV → H → Kont → Res := fun c a h k => argK a fun v0 a => argK a fun v1 a => arg0 a (b c (e k) (fun _ _ _ => .bad 25) (e k) ⟨⟨⟨v0, v1, .undef, .undef, .undef, .undef, .undef, .undef⟩, i8, i8, i8, i8, i8, i8, i8⟩, i64⟩ h)
def enc3 (b : CT' F128) (e : Kont → F128 → H → Res) : Call → List AV → H → Kont → Res := fun c a h k => argK a fun v0 a => argK a fun v1 a => argK a fun v2 a => arg0 a (b c (e k) (fun _ _ _ => .bad 25) (e k) ⟨⟨⟨v0, v1, v2, .undef, .undef, .undef, .undef, .undef⟩, i8, i8, i8, i8, i8, i8, i8⟩, i64⟩ h)
def enc4 (b : CT' F128) (e : Kont → F128 → H → Res) : Call → List AV → H → Kont → Res := fun c a h k => argK a fun v0 a => argK a fun v1 a => argK a fun v2 a => argK a fun v3 a => arg0 a (b c (e k) (fun _ _ _ => .bad 25) (e k) ⟨⟨⟨v0, v1, v2, v3, .undef, .undef, .undef, .undef⟩, i8, i8, i8, i8, i8, i8, i8⟩, i64⟩ h)
def enc5 (b : CT' F128) (e : Kont → F128 → H → Res) : Call → List AV → H → Kont → Res := fun c a h k => argK a fun v0 a => argK a fun v1 a => argK a fun v2 a => argK a fun v3 a => argK a fun v4 a => arg0 a (b c (e k) (fun _ _ _ => .bad 25) (e k) ⟨⟨⟨v0, v1, v2, v3, v4, .undef, .undef, .undef⟩, i8, i8, i8, i8, i8, i8, i8⟩, i64⟩ h)
def enc6 (b : CT' F128) (e : Kont → F128 → H → Res) : Call → List AV → H → Kont → Res := fun c a h k => argK a fun v0 a => argK a fun v1 a => argK a fun v2 a => argK a fun v3 a => argK a fun v4 a => argK a fun v5 a => arg0 a (b c (e k) (fun _ _ _ => .bad 25) (e k) ⟨⟨⟨v0, v1, v2, v3, v4, v5, .undef, .undef⟩, i8, i8, i8, i8, i8, i8, i8⟩, i64⟩ h)
def enc7 (b : CT' F128) (e : Kont → F128 → H → Res) : Call → List AV → H → Kont → Res := fun c a h k => argK a fun v0 a => argK a fun v1 a => argK a fun v2 a => argK a fun v3 a => argK a fun v4 a => argK a fun v5 a => argK a fun v6 a => arg0 a (b c (e k) (fun _ _ _ => .bad 25) (e k) ⟨⟨⟨v0, v1, v2, v3, v4, v5, v6, .undef⟩, i8, i8, i8, i8, i8, i8, i8⟩, i64⟩ h)
def enc8 (b : CT' F128) (e : Kont → F128 → H → Res) : Call → List AV → H → Kont → Res := fun c a h k => argK a fun v0 a => argK a fun v1 a => argK a fun v2 a => argK a fun v3 a => argK a fun v4 a => argK a fun v5 a => argK a fun v6 a => argK a fun v7 a => arg0 a (b c (e k) (fun _ _ _ => .bad 25) (e k) ⟨⟨⟨v0, v1, v2, v3, v4, v5, v6, v7⟩, i8, i8, i8, i8, i8, i8, i8⟩, i64⟩ h)
def enc9 (b : CT' F128) (e : Kont → F128 → H → Res) : Call → List AV → H → Kont → Res := fun c a h k => argK a fun v0 a => argK a fun v1 a => argK a fun v2 a => argK a fun v3 a => argK a fun v4 a => argK a fun v5 a => argK a fun v6 a => argK a fun v7 a => argK a fun v8 a => arg0 a (b c (e k) (fun _ _ _ => .bad 25) (e k) ⟨⟨⟨v0, v1, v2, v3, v4, v5, v6, v7⟩, ⟨v8, .undef, .undef, .undef, .undef, .undef, .undef, .undef⟩, i8, i8, i8, i8, i8, i8⟩, i64⟩ h)
def enc10 (b : CT' F128) (e : Kont → F128 → H → Res) : Call → List AV → H → Kont → Res := fun c a h k => argK a fun v0 a => argK a fun v1 a => argK a fun v2 a => argK a fun v3 a => argK a fun v4 a => argK a fun v5 a => argK a fun v6 a => argK a fun v7 a => argK a fun v8 a => argK a fun v9 a => arg0 a (b c (e k) (fun _ _ _ => .bad 25) (e k) ⟨⟨⟨v0, v1, v2, v3, v4, v5, v6, v7⟩, ⟨v8, v9, .undef, .undef, .undef, .undef, .undef, .undef⟩, i8, i8, i8, i8, i8, i8⟩, i64⟩ h)
def enc11 (b : CT' F128) (e : Kont → F128 → H → Res) : Call → List AV → H → Kont → Res := fun c a h k => argK a fun v0 a => argK a fun v1 a => argK a fun v2 a => argK a fun v3 a => argK a fun v4 a => argK a fun v5 a => argK a fun v6 a => argK a fun v7 a => argK a fun v8 a => argK a fun v9 a => argK a fun v10 a => arg0 a (b c (e k) (fun _ _ _ => .bad 25) (e k) ⟨⟨⟨v0, v1, v2, v3, v4, v5, v6, v7⟩, ⟨v8, v9, v10, .undef, .undef, .undef, .undef, .undef⟩, i8, i8, i8, i8, i8, i8⟩, i64⟩ h)
def enc12 (b : CT' F128) (e : Kont → F128 → H → Res) : Call → List AV → H → Kont → Res := fun c a h k => argK a fun v0 a => argK a fun v1 a => argK a fun v2 a => argK a fun v3 a => argK a fun v4 a => argK a fun v5 a => argK a fun v6 a => argK a fun v7 a => argK a fun v8 a => argK a fun v9 a => argK a fun v10 a => argK a fun v11 a => arg0 a (b c (e k) (fun _ _ _ => .bad 25) (e k) ⟨⟨⟨v0, v1, v2, v3, v4, v5, v6, v7⟩, ⟨v8, v9, v10, v11, .undef, .undef, .undef, .undef⟩, i8, i8, i8, i8, i8, i8⟩, i64⟩ h)
def enc13 (b : CT' F128) (e : Kont → F128 → H → Res) : Call → List AV → H → Kont → Res := fun c a h k => argK a fun v0 a => argK a fun v1 a => argK a fun v2 a => argK a fun v3 a => argK a fun v4 a => argK a fun v5 a => argK a fun v6 a => argK a fun v7 a => argK a fun v8 a => argK a fun v9 a => argK a fun v10 a => argK a fun v11 a => argK a fun v12 a => arg0 a (b c (e k) (fun _ _ _ => .bad 25) (e k) ⟨⟨⟨v0, v1, v2, v3, v4, v5, v6, v7⟩, ⟨v8, v9, v10, v11, v12, .undef, .undef, .undef⟩, i8, i8, i8, i8, i8, i8⟩, i64⟩ h)
def enc14 (b : CT' F128) (e : Kont → F128 → H → Res) : Call → List AV → H → Kont → Res := fun c a h k => argK a fun v0 a => argK a fun v1 a => argK a fun v2 a => argK a fun v3 a => argK a fun v4 a => argK a fun v5 a => argK a fun v6 a => argK a fun v7 a => argK a fun v8 a => argK a fun v9 a => argK a fun v10 a => argK a fun v11 a => argK a fun v12 a => argK a fun v13 a => arg0 a (b c (e k) (fun _ _ _ => .bad 25) (e k) ⟨⟨⟨v0, v1, v2, v3, v4, v5, v6, v7⟩, ⟨v8, v9, v10, v11, v12, v13, .undef, .undef⟩, i8, i8, i8, i8, i8, i8⟩, i64⟩ h)
def enc15 (b : CT' F128) (e : Kont → F128 → H → Res) : Call → List AV → H → Kont → Res := fun c a h k => argK a fun v0 a => argK a fun v1 a => argK a fun v2 a => argK a fun v3 a => argK a fun v4 a => argK a fun v5 a => argK a fun v6 a => argK a fun v7 a => argK a fun v8 a => argK a fun v9 a => argK a fun v10 a => argK a fun v11 a => argK a fun v12 a => argK a fun v13 a => argK a fun v14 a => arg0 a (b c (e k) (fun _ _ _ => .bad 25) (e k) ⟨⟨⟨v0, v1, v2, v3, v4, v5, v6, v7⟩, ⟨v8, v9, v10, v11, v12, v13, v14, .undef⟩, i8, i8, i8, i8, i8, i8⟩, i64⟩ h)
def enc16 (b : CT' F128) (e : Kont → F128 → H → Res) : Call → List AV → H → Kont → Res := fun c a h k => argK a fun v0 a => argK a fun v1 a => argK a fun v2 a => argK a fun v3 a => argK a fun v4 a => argK a fun v5 a => argK a fun v6 a => argK a fun v7 a => argK a fun v8 a => argK a fun v9 a => argK a fun v10 a => argK a fun v11 a => argK a fun v12 a => argK a fun v13 a => argK a fun v14 a => argK a fun v15 a => arg0 a (b c (e k) (fun _ _ _ => .bad 25) (e k) ⟨⟨⟨v0, v1, v2, v3, v4, v5, v6, v7⟩, ⟨v8, v9, v10, v11, v12, v13, v14, v15⟩, i8, i8, i8, i8, i8, i8⟩, i64⟩ h)
section
variable {Φ : Type}
def r0 (k : Kont) (_ : Φ) (h : H) : Res := k (.tup []) h
def r1 (a : Φ → AV) (k : Kont) (f : Φ) (h : H) : Res := (a f).force fun a => k a h
def r2 (a b : Φ → AV) (k : Kont) (f : Φ) (h : H) : Res := (a f).force fun a => (b f).force fun b => k (.tup [a, b]) h
def r3 (a b c : Φ → AV) (k : Kont) (f : Φ) (h : H) : Res := (a f).force fun a => (b f).force fun b => (c f).force fun c => k (.tup [a, b, c]) h
end
def U0 : AV := .int .u64 (.ofNat 0)
def U1 : AV := .int .u64 (.ofNat 1)
def U2 : AV := .int .u64 (.ofNat 2)
def W (n : Nat) : AV := .int .u8 (.ofNat n)
def E0 : AV := .str []
def B0 : AV := .bool false
def B1 : AV := .bool true
def ylt (x y : AV) (h : H) (k : Kont) : Res := onIntsY x y fun _ a b => boolK (ilt a b) fun v => k v h
def ygt (x y : AV) (h : H) (k : Kont) : Res := onIntsY x y fun _ a b => boolK (ilt b a) fun v => k v h
def yge (x y : AV) (h : H) (k : Kont) : Res := onIntsY x y fun _ a b => boolK (notB (ilt a b)) fun v => k v h
def yle (x y : AV) (h : H) (k : Kont) : Res := onIntsY x y fun _ a b => boolK (notB (ilt b a)) fun v => k v h
def yeq (x y : AV) (h : H) (k : Kont) : Res := onIntsUY x y (fun _ a b => boolK (Ai.ieq a b) fun v => k v h) (k (.bool false) h)
def yne (x y : AV) (h : H) (k : Kont) : Res := onIntsUY x y (fun _ a b => boolK (notB (Ai.ieq a b)) fun v => k v h) (k (.bool true) h)
def J0 : AV := .int .i64 (.ofNat 0)
def J1 : AV := .int .i64 (.ofNat 1)
def J2 : AV := .int .i64 (.ofNat 2)
def J3 : AV := .int .i64 (.ofNat 3)
def J4 : AV := .int .i64 (.ofNat 4)
def J5 : AV := .int .i64 (.ofNat 5)
def J6 : AV := .int .i64 (.ofNat 6)
def J7 : AV := .int .i64 (.ofNat 7)
def J8 : AV := .int .i64 (.ofNat 8)
def J9 : AV := .int .i64 (.ofNat 9)
def J10 : AV := .int .i64 (.ofNat 10)
def J11 : AV := .int .i64 (.ofNat 11)
def J12 : AV := .int .i64 (.ofNat 12)
def J13 : AV := .int .i64 (.ofNat 13)
def J14 : AV := .int .i64 (.ofNat 14)
def J15 : AV := .int .i64 (.ofNat 15)
def J16 : AV := .int .i64 (.ofNat 16)
def J17 : AV := .int .i64 (.ofNat 17)
def J18 : AV := .int .i64 (.ofNat 18)
def J19 : AV := .int .i64 (.ofNat 19)
section
variable {Φ : Type} (rep : Rep Φ) (S : List Path)
abbrev LEnv := List (Path × Bool × AV)
def idx (p : Path) : Nat := List.rec (motive := fun _ => Nat) 1000000 (fun q _ ih => Bool.rec (motive := fun _ => Nat) (Bool.rec (motive := fun _ => Nat) (Nat.succ ih) 1000000 (Nat.beq ih 1000000)) 0 (Path.beq q p)) S
def slotOk (p : Path) : Bool := Nat.blt (idx S p) rep.n
def find (p : Path) (env : LEnv) (d : AV) : AV := List.rec (motive := fun _ => AV) d (fun a _ ih => Bool.rec (motive := fun _ => AV) ih a.2.2 (Path.beq a.1 p)) env
def inEnv (p : Path) (env : LEnv) : Bool := List.rec (motive := fun _ => Bool) false (fun a _ ih => Bool.rec (motive := fun _ => Bool) ih true (Path.beq a.1 p)) env
def lazyP (p : Path) (env : LEnv) : Bool := List.rec (motive := fun _ => Bool) false (fun a _ ih => Bool.rec (motive := fun _ => Bool) ih a.2.1 (Path.beq a.1 p)) env
def lazyF (env : LEnv) (x : Opd) : Bool := Opd.rec (motive := fun _ => Bool) (fun t => Bool.rec (motive := fun _ => Bool) (lazyP t.p env) true (slotOk rep S t.p)) (fun _ => false) x
def flagF (env : LEnv) (g : G) (o : O) : Bool := G.rec (motive := fun _ => Bool) (Option.rec (motive := fun _ => Bool) false (lazyF rep S env) o.movX) (fun _ _ => false) g
def pv (env : LEnv) (fr : Φ) (p : Path) : AV := Bool.rec (motive := fun _ => AV) (find p env .undef) (rep.get (idx S p) fr) (slotOk rep S p)
def hasP (env : LEnv) (p : Path) : Bool := Bool.rec (motive := fun _ => Bool) (inEnv p env) true (slotOk rep S p)
def evF (env : LEnv) (fr : Φ) (x : Opd) : AV := Opd.rec (motive := fun _ => AV) (fun t => pv rep S env fr t.p) (fun v => v) x
def hasF (env : LEnv) (x : Opd) : Bool := Opd.rec (motive := fun _ => Bool) (fun t => hasP rep S env t.p) (fun _ => true) x
def hasG (env : LEnv) (g : G) : Bool := G.rec (motive := fun _ => Bool) true (fun x _ => hasP rep S env x.p) g
def hasO (env : LEnv) (o : O) : Bool := List.rec (motive := fun _ => Bool) true (fun x _ ih => Bool.rec (motive := fun _ => Bool) false ih (hasF rep S env x)) o.opds
def putF (d : D) (fl : Bool) (v : AV) (env : LEnv) (fr : Φ) (k : LEnv → Φ → Res) : Res :=
  D.rec (motive := fun _ => Res) (k env fr) (fun x => Bool.rec (motive := fun _ => Res) (k ((x.p, fl, v) :: env) fr) (rep.set (idx S x.p) v fr fun fr => k env fr) (slotOk rep S x.p)) d
def onG (env : LEnv) (fr : Φ) (g : G) (h : H) (s : Kont → Res) (k : Kont) : Res := G.rec (motive := fun _ => Res) (s k) (fun x want => guardK (pv rep S env fr x.p) want h s k) g
def movK (env : LEnv) (fr : Φ) (d : D) (x : Opd) (k : AV → Res) : Res :=
  D.rec (motive := fun _ => Res) (k (evF rep S env fr x)) (fun t => Bool.rec (motive := fun _ => Res) (k (evF rep S env fr x)) (Bool.rec (motive := fun _ => Res) (k (evF rep S env fr x)) ((evF rep S env fr x).force k) (lazyF rep S env x)) (slotOk rep S t.p)) d
def stepG (env : LEnv) (fr : Φ) (d : D) (g : G) (o : O) (call : Call) (h : H) (k : Kont) : Res :=
  G.rec (motive := fun _ => Res) (Option.rec (motive := fun _ => Res) (o.stepY (evF rep S env fr) call h k) (fun x => movK rep S env fr d x fun v => k v h) o.movX) (fun x want => guardK (pv rep S env fr x.p) want h (fun k => o.stepY (evF rep S env fr) call h k) k) g
abbrev RunT (Φ : Type) := LEnv → Call → Φ → H → List H → (Φ → H → Res) → Res
def f_nil : RunT Φ := fun _ _ fr h _ kn => kn fr h
def f_op (d : D) (g : G) (o : O) (_ : L) (ih : RunT Φ) : RunT Φ := fun env call fr h hs kn =>
  must 60 (hasO rep S env o) (must 60 (hasG rep S env g) (stepG rep S env fr d g o call h fun v h => putF rep S d (flagF rep S env g o) v env fr fun env fr => ih env call fr h hs kn))
def f_dop (d : D) (g : G) (o : O) (back : Nat) (eff al : Bool) (_ : L) (ih : RunT Φ) : RunT Φ := fun env call fr h hs kn =>
  must 60 (hasO rep S env o) (must 60 (hasG rep S env g) (Bool.rec (motive := fun _ => Res)
    (G.rec (motive := fun _ => Res) (o.stepY (evF rep S env fr) call h fun v h' => againY (fun h k => o.stepY (evF rep S env fr) call h k) v (freshK al h (putF rep S d false v env fr fun env fr => ih env call fr h' (Bool.rec (motive := fun _ => List H) hs (h :: hs) eff) kn) hs) back hs)
      (fun x want => guardK (pv rep S env fr x.p) want h (fun k => o.stepY (evF rep S env fr) call h fun v h' => againY (fun h k => o.stepY (evF rep S env fr) call h k) v (freshK al h (k v h') hs) back hs) fun v h' => putF rep S d false v env fr fun env fr => ih env call fr h' (Bool.rec (motive := fun _ => List H) hs (h :: hs) eff) kn) g)
    (stepG rep S env fr d g o call h fun v h' => putF rep S d (flagF rep S env g o) v env fr fun env fr => ih env call fr h' hs kn) (plainD back eff al)))
def L.runF (l : L) : RunT Φ := L.rec (motive := fun _ => RunT Φ) f_nil (f_op rep S) (f_dop rep S) l
abbrev CT (Φ : Type) := Call → (Φ → H → Res) → (Nat → Φ → H → Res) → (Φ → H → Res) → Φ → H → Res
def C.runF (c : C) : CT Φ := C.rec (motive := fun _ => CT Φ) kS (fun l => kR fun call fr h kn => l.runF rep S [] call fr h [] kn) (fun _ _ => kQ) (fun c _ _ => k_cond (fun fr => evF rep S [] fr c) (hasF rep S [] c)) (fun id _ => kB id) (fun _ => kL) kX kT k_no (fun _ _ _ _ _ _ => k_no 99) c
def setArgsF (ps : List Path) : List AV → Φ → (Φ → Res) → Res :=
  List.rec (motive := fun _ => List AV → Φ → (Φ → Res) → Res) (fun vs fr k => List.rec (motive := fun _ => Res) (k fr) (fun _ _ _ => .bad 24) vs) (fun q _ ih vs fr k => List.rec (motive := fun _ => Res) (.bad 24) (fun v t _ => Bool.rec (motive := fun _ => Res) (ih t fr k) (rep.set (idx S q) v fr fun fr => ih t fr k) (slotOk rep S q)) vs) ps
def rvsF (l : List RV) (fr : Φ) (h : H) : (List AV → Res) → Res :=
  List.rec (motive := fun _ => (List AV → Res) → Res) (fun k => k []) (fun x _ ih k => RV.rec (motive := fun _ => Res) (fun p => ih fun t => k (rep.get (idx S p) fr :: t)) (fun p => (rep.get (idx S p) fr).onPtr fun o i => cellsOf o h fun cs _ => nthC cs i fun v => ih fun t => k (v :: t)) (fun p n => (rep.get (idx S p) fr).onPtr fun o i => cellsOf o h fun cs _ => ldropC i cs fun cs => ltake n cs fun cs => ih fun t => k (.agg cs :: t)) x) l
def rvOk (l : List RV) : Bool := List.rec (motive := fun _ => Bool) true (fun x _ ih => Bool.rec (motive := fun _ => Bool) false ih (slotOk rep S (RV.rec (motive := fun _ => Path) (fun p => p) (fun p => p) (fun p _ => p) x))) l
def endF (res : List RV) (k : Kont) (fr : Φ) (h : H) : Res := rvsF rep S res fr h fun vs => forceL vs fun vs => k (one vs) h
def enterF (params : List Path) (body : CT Φ) (res : List RV) (call : Call) (args : List AV) (h : H) (k : Kont) : Res :=
  must 60 (rvOk rep S res) (setArgsF rep S params args rep.init fun fr => body call (endF rep S res k) (fun _ _ _ => .bad 25) (endF rep S res k) fr h)
def fastF (fn : Fn) : Call → List AV → H → Kont → Res := Fn.rec (motive := fun _ => Call → List AV → H → Kont → Res) (fun params body res => enterF rep S params (body.runF rep S) res) fn
end
end
end Go.Ai
set_option autoImplicit false
set_option linter.unusedSimpArgs false
namespace Go.Ai
set_option linter.unusedSectionVars false
variable [Nu]
open Go

theorem hsetK_eq (v : Obj) (p : Path) : ∀ (t : HT) (k : HT → Res), hsetK v p t k = k (hset v p t) := by
  induction p with
  | e => intro t k; cases t <;> rfl
  | l p ih => intro t k; cases t with
    | leaf => exact ih .leaf fun l => k (.node l .none .leaf)
    | node l x r => exact ih l fun l => k (.node l x r)
  | r p ih => intro t k; cases t with
    | leaf => exact ih .leaf fun r => k (.node .leaf .none r)
    | node l x r => exact ih r fun r => k (.node l x r)
theorem incK_eq (p : Path) : ∀ k : Path → Res, incK p k = k p.inc := by
  induction p with
  | e => intro k; rfl
  | l p _ => intro k; rfl
  | r p ih => intro k; exact ih fun p => k (.l p)
theorem setObjK_eq (o : Path) (b : Obj) (h : H) (k : H → Res) : setObjK o b h k = k (setObj o b h) := by
  cases h with | mk t n => exact hsetK_eq b o t fun t => k (.mk t n)
theorem hgetK_eq (p : Path) : ∀ (t : HT) (k : Obj → Res), hgetK p t k = k (hget p t) := by
  induction p with
  | e => intro t k; cases t <;> rfl
  | l p ih => intro t k; cases t with
    | leaf => show k .none = k (hget (.l p) .leaf); rw [hget_leaf]
    | node l x r => exact ih l k
  | r p ih => intro t k; cases t with
    | leaf => show k .none = k (hget (.r p) .leaf); rw [hget_leaf]
    | node l x r => exact ih r k
theorem cellsOfK_eq (o : Path) (h : H) (k : List AV → Nat → Res) : cellsOfK o h k = cellsOf o h k := by
  cases h with
  | mk t n =>
    show hgetK o t _ = Obj.rec (motive := fun _ => Res) (.bad 7) k (fun _ _ => .bad 8) (.bad 9) (fun _ _ _ _ _ _ => .bad 9) (hget o t)
    rw [hgetK_eq]
theorem mapOfK_eq (o : Path) (h : H) (k : List Ent → Nat → Res) : mapOfK o h k = mapOf o h k := by
  cases h with
  | mk t n =>
    show hgetK o t _ = Obj.rec (motive := fun _ => Res) (.bad 10) (fun _ _ => .bad 10) k (.bad 10) (fun _ _ _ _ _ _ => .bad 10) (hget o t)
    rw [hgetK_eq]
theorem nthK_eq {α : Type} : ∀ (l : List α) (i : Nat) (k : α → Res), nthK l i k = nthC l i k
  | [], _, _ => rfl
  | _ :: _, 0, _ => rfl
  | _ :: l, i + 1, k => nthK_eq l i k
theorem partK_eq (off size : Nat) (agg : Bool) (cs : List AV) (h : H) (k : Kont) : partK off size agg cs h k = part off size agg cs h k := by
  unfold partK part
  simp only [nthK_eq]
theorem sliceCellsK_eq (size : Nat) (x : AV) (n : Nat) (h : H) (k : List AV → Res) : sliceCellsK size x n h k = sliceCells size x n h k := by
  unfold sliceCellsK sliceCells
  simp only [cellsOfK_eq]
theorem freshK_eq (al : Bool) (h : H) (k : Res) (hs : List H) : freshK al h k hs = freshIn al h k hs := by
  unfold freshK freshIn
  simp only [hgetK_eq]
theorem newObjK_eq (b : Obj) (h : H) (k : Path → H → Res) : newObjK b h k = newObj b h k := by
  cases h with
  | mk t n =>
    show hgetK n t _ = Obj.rec (motive := fun _ => Res) (k n (.mk (hset b n t) n.inc)) _ _ _ _ (hget n t)
    rw [hgetK_eq, hsetK_eq, incK_eq]
theorem spineK_eq {α : Type} (l : List α) : ∀ k : List α → Res, spineK l k = k l := by
  induction l with
  | nil => intro k; rfl
  | cons a t ih => intro k; exact ih fun t => k (a :: t)
theorem lput_cons (b : AV) (l : List AV) : ∀ (v : List AV) (i : Nat) (k : List AV → Res), lput v (b :: l) (i + 1) k = lput v l i fun x => k (b :: x) := by
  intro v
  induction v generalizing l with
  | nil => intro i k; rfl
  | cons a v ih =>
    intro i k
    show Option.rec (motive := fun _ => Res) (Res.bad 3) (fun _ => lput v (b :: lset a l i) (i + 2) k) (nth l i) = Option.rec (motive := fun _ => Res) (Res.bad 3) (fun _ => lput v (lset a l i) (i + 1) fun x => k (b :: x)) (nth l i)
    rw [ih]
theorem overK_eq : ∀ (v l : List AV) (k : List AV → Res), overK v l k = lput v l 0 k := by
  intro v
  induction v with
  | nil => intro l k; rfl
  | cons a v ih =>
    intro l k
    cases l with
    | nil => rfl
    | cons d l =>
      show overK v l (fun t => k (a :: t)) = lput v (a :: l) 1 k
      rw [ih, lput_cons a l v 0 k]
theorem atK_eq (a : AV) (v : List AV) : ∀ (l : List AV) (i : Nat) (k : List AV → Res), atK (overK (a :: v)) l i k = lput (a :: v) l i k := by
  intro l
  induction l with
  | nil => intro i k; rfl
  | cons b l ih =>
    intro i k
    cases i with
    | zero => exact overK_eq (a :: v) (b :: l) k
    | succ i =>
      show atK (overK (a :: v)) l i (fun t => k (b :: t)) = _
      rw [ih, lput_cons]
theorem lputK_eq (v l : List AV) (i : Nat) (k : List AV → Res) : lputK v l i k = lput v l i k := by
  cases v with
  | nil => rfl
  | cons a v => exact atK_eq a v l i k
theorem put1K_eq (v : AV) (l : List AV) (i : Nat) (k : List AV → Res) : put1K v l i k = lput [v] l i k := atK_eq v [] l i k
theorem forceL_eq (l : List AV) : ∀ k : List AV → Res, forceL l k = k l := by
  induction l with
  | nil => intro k; rfl
  | cons a t ih =>
    intro k
    show a.force (fun v => forceL t fun vs => k (v :: vs)) = _
    rw [force_eq, ih]
theorem boolK_eq (b : Bool) (k : AV → Res) : boolK b k = k (.bool b) := by cases b <;> rfl
theorem srcCellsY_eq (size : Nat) (y : AV) (h : H) (k : Nat → List AV → Res) : srcCellsY size y h k = srcCells size y h k := by
  unfold srcCellsY
  simp only [spineK_eq, sliceCellsK_eq]
  cases y <;> rfl
theorem appendedY_eq (es need : Nat) (cs : List AV) (h : H) (k : Kont) : appendedY es need cs h k = appended es need cs h k := by
  unfold appendedY appended
  rw [spineK_eq, newObjK_eq]
theorem inPlaceY_eq (size : Nat) (o : Path) (i n m : Nat) (c : Cap) (new cs : List AV) (es : Nat) (h : H) (k : Kont) : inPlaceY size o i n m c new cs es h k = inPlace size o i n m c new cs es h k := by
  unfold inPlaceY inPlace
  simp only [lputK_eq, setObjK_eq]
theorem must_self (w : Nat) (b : Bool) : must w b (.bad w) = .bad w := by cases b <;> rfl
theorem onCells_eq (v : AV) (n : Nat) (F : List AV → Res) : v.onCells (must 12 (Nat.beq 1 n) (F [v])) (fun vs => must 12 (Nat.beq (llen vs) n) (must 12 (scals vs) (F vs))) = must 12 (Nat.beq (llen v.cells) n) (must 12 (scals v.cells) (F v.cells)) := by
  cases v <;> first | rfl | (show Res.bad 12 = must 12 _ (Res.bad 12); rw [must_self])
theorem storeY_eq (n : Nat) (x v : AV) (h : H) (k : Kont) : yS n x v h k = x.onPtr fun o i => cellsOf o h fun cs es => must 12 (Nat.beq (llen v.cells) n) (must 12 (scals v.cells) (lput v.cells cs i fun cs => k .undef (setObj o (.cells cs es) h))) := by
  unfold yS
  congr 1
  funext o i
  rw [cellsOfK_eq]
  congr 1
  funext cs es
  rw [← onCells_eq v n fun vs => lput vs cs i fun cs => k .undef (setObj o (.cells cs es) h)]
  simp only [put1K_eq, lputK_eq, setObjK_eq]
theorem putPartsY_eq (ps : List Part) (fr : FT) : ∀ (cs : List AV) (k : List AV → Res), putPartsY (evP (fun x => x.ev fr) ps) cs k = putParts ps fr cs k := by
  induction ps with
  | nil => intro cs k; rfl
  | cons q t ih =>
    intro cs k
    show must 12 (Nat.beq (llen (q.x.ev fr).cells) q.size) (lputK (q.x.ev fr).cells cs q.off fun cs => putPartsY (evP (fun x => x.ev fr) t) cs k) = must 12 (Nat.beq (llen (q.x.ev fr).cells) q.size) (lput (q.x.ev fr).cells cs q.off fun cs => putParts t fr cs k)
    simp only [lputK_eq, ih]
theorem evL_eq (l : List Opd) (fr : FT) : evL (fun x => x.ev fr) l = evs l fr := rfl
theorem evNatOY_eq (x : Opo) (fr : FT) (d : Nat) (k : Nat → Res) : evNatOY (evO (fun x => x.ev fr) x) d k = evNatO x fr d k := by cases x <;> rfl
theorem step_eq (o : O) (call : Call) (fr : FT) (h : H) (k : Kont) : o.stepY (fun x => x.ev fr) call h k = o.step call fr h k := by
  cases o with
  | store n x v => exact storeY_eq n (x.ev fr) (v.ev fr) h k
  | build z ps => show putPartsY (evP (fun x => x.ev fr) ps) z _ = putParts ps fr z _; exact putPartsY_eq ps fr z _
  | buildSlice n z ps =>
    show putPartsY (evP (fun x => x.ev fr) ps) z (fun cs => newObjK (.cells cs 0) h fun o h => k (.slc o 0 n (.exact n)) h) = putParts ps fr z fun cs => newObj (.cells cs 0) h fun o h => k (.slc o 0 n (.exact n)) h
    rw [putPartsY_eq]; simp only [boolK_eq, spineK_eq, newObjK_eq, setObjK_eq, lputK_eq, srcCellsY_eq, appendedY_eq, inPlaceY_eq, cellsOfK_eq, mapOfK_eq, nthK_eq, partK_eq, sliceCellsK_eq]
  | sliceStr x lo hi => cases lo <;> cases hi <;> rfl
  | sliceSlc s x lo hi mx => cases lo <;> cases hi <;> cases mx <;> rfl
  | sliceArr n s x lo hi => cases lo <;> cases hi <;> rfl
  | call f as => show forceL (evs as fr) (fun vs => call f vs h k) = evsK as fr fun vs => call f vs h k; rw [forceL_eq, evsK_eq]
  | cmp n s x y => show yC n s (x.ev fr) (y.ev fr) h k = onInts x y fr _; unfold yC; simp only [boolK_eq]; cases n <;> rfl
  | ieq n x y => show yE n (x.ev fr) (y.ev fr) h k = onIntsU x y fr (fun _ a b => k (.bool (xorB n (ieq a b))) h) (k (.bool n) h); unfold yE; simp only [boolK_eq]; cases n <;> rfl
  | seq n x y => show ySE n (x.ev fr) (y.ev fr) h k = onStrs x y fr _; unfold ySE; simp only [boolK_eq, spineK_eq, newObjK_eq, setObjK_eq, lputK_eq, srcCellsY_eq, appendedY_eq, inPlaceY_eq, cellsOfK_eq, mapOfK_eq, nthK_eq, partK_eq, sliceCellsK_eq]; rfl
  | slt x y => show ySL (x.ev fr) (y.ev fr) h k = onStrs x y fr _; unfold ySL; simp only [boolK_eq, spineK_eq, newObjK_eq, setObjK_eq, lputK_eq, srcCellsY_eq, appendedY_eq, inPlaceY_eq, cellsOfK_eq, mapOfK_eq, nthK_eq, partK_eq, sliceCellsK_eq]; rfl
  | not x => show yNt (x.ev fr) h k = (x.ev fr).onBool _; unfold yNt; simp only [boolK_eq, spineK_eq, newObjK_eq, setObjK_eq, lputK_eq, srcCellsY_eq, appendedY_eq, inPlaceY_eq, cellsOfK_eq, mapOfK_eq, nthK_eq, partK_eq, sliceCellsK_eq]
  | sadd x y => show ySA (x.ev fr) (y.ev fr) h k = onStrs x y fr _; unfold ySA; simp only [boolK_eq, spineK_eq, newObjK_eq, setObjK_eq, lputK_eq, srcCellsY_eq, appendedY_eq, inPlaceY_eq, cellsOfK_eq, mapOfK_eq, nthK_eq, partK_eq, sliceCellsK_eq]; rfl
  | alloc es z => exact newObjK_eq (.cells z es) h fun o h => k (.ptr o 0) h
  | box x => exact newObjK_eq (.cells (x.ev fr).cells 0) h fun o h => k (.ptr o 0) h
  | mkMap => exact newObjK_eq (.map [] 0) h fun o h => k (.map o) h
  | s2b es x => show yBy es (x.ev fr) h k = (x.ev fr).onStr _; unfold yBy; simp only [boolK_eq, spineK_eq, newObjK_eq, setObjK_eq, lputK_eq, srcCellsY_eq, appendedY_eq, inPlaceY_eq, cellsOfK_eq, mapOfK_eq, nthK_eq, partK_eq, sliceCellsK_eq]
  | mkSlice s b z l c => show yMS s b z (l.ev fr) (c.ev fr) h k = x_mkSlice s b z l.fn c.fn call fr h k; unfold yMS; simp only [boolK_eq, spineK_eq, newObjK_eq, setObjK_eq, lputK_eq, srcCellsY_eq, appendedY_eq, inPlaceY_eq, cellsOfK_eq, mapOfK_eq, nthK_eq, partK_eq, sliceCellsK_eq]; rfl
  | mapUpd s m y v => show yMU s (m.ev fr) (y.ev fr) (v.ev fr) h k = x_mapUpd s m.fn y.fn v.fn call fr h k; unfold yMU; simp only [boolK_eq, spineK_eq, newObjK_eq, setObjK_eq, lputK_eq, srcCellsY_eq, appendedY_eq, inPlaceY_eq, cellsOfK_eq, mapOfK_eq, nthK_eq, partK_eq, sliceCellsK_eq]; rfl
  | append s b es x y => show yAp s b es (x.ev fr) (y.ev fr) h k = x_append s b es x.fn y.fn call fr h k; unfold yAp; simp only [boolK_eq, spineK_eq, newObjK_eq, setObjK_eq, lputK_eq, srcCellsY_eq, appendedY_eq, inPlaceY_eq, cellsOfK_eq, mapOfK_eq, nthK_eq, partK_eq, sliceCellsK_eq]; rfl
  | copy s x y => show yCp s (x.ev fr) (y.ev fr) h k = x_copy s x.fn y.fn call fr h k; unfold yCp; simp only [boolK_eq, spineK_eq, newObjK_eq, setObjK_eq, lputK_eq, srcCellsY_eq, appendedY_eq, inPlaceY_eq, cellsOfK_eq, mapOfK_eq, nthK_eq, partK_eq, sliceCellsK_eq]; rfl
  | ubs es x y => show yUb es (x.ev fr) (y.ev fr) h k = x_ubs es x.fn y.fn call fr h k; unfold yUb; simp only [boolK_eq, spineK_eq, newObjK_eq, setObjK_eq, lputK_eq, srcCellsY_eq, appendedY_eq, inPlaceY_eq, cellsOfK_eq, mapOfK_eq, nthK_eq, partK_eq, sliceCellsK_eq]; rfl
  | clear z x => show yCl z (x.ev fr) h k = x_clear z x.fn call fr h k; unfold yCl; simp only [boolK_eq, spineK_eq, newObjK_eq, setObjK_eq, lputK_eq, srcCellsY_eq, appendedY_eq, inPlaceY_eq, cellsOfK_eq, mapOfK_eq, nthK_eq, partK_eq, sliceCellsK_eq]; rfl
  | rangeE x => show yRE (x.ev fr) h k = x_rangeE x.fn call fr h k; unfold yRE; simp only [boolK_eq, spineK_eq, newObjK_eq, setObjK_eq, lputK_eq, srcCellsY_eq, appendedY_eq, inPlaceY_eq, cellsOfK_eq, mapOfK_eq, nthK_eq, partK_eq, sliceCellsK_eq]; rfl
  | loadS x => show yL (x.ev fr) h k = x_loadS x.fn call fr h k; unfold yL; simp only [boolK_eq, spineK_eq, newObjK_eq, setObjK_eq, lputK_eq, srcCellsY_eq, appendedY_eq, inPlaceY_eq, cellsOfK_eq, mapOfK_eq, nthK_eq, partK_eq, sliceCellsK_eq]; rfl
  | loadA n x => show yLA n (x.ev fr) h k = x_loadA n x.fn call fr h k; unfold yLA; simp only [boolK_eq, spineK_eq, newObjK_eq, setObjK_eq, lputK_eq, srcCellsY_eq, appendedY_eq, inPlaceY_eq, cellsOfK_eq, mapOfK_eq, nthK_eq, partK_eq, sliceCellsK_eq]; rfl
  | b2s x => show yB (x.ev fr) h k = x_b2s x.fn call fr h k; unfold yB; simp only [boolK_eq, spineK_eq, newObjK_eq, setObjK_eq, lputK_eq, srcCellsY_eq, appendedY_eq, inPlaceY_eq, cellsOfK_eq, mapOfK_eq, nthK_eq, partK_eq, sliceCellsK_eq]; rfl
  | indexStr x i => show yIS (x.ev fr) (i.ev fr) h k = x_indexStr x.fn i.fn call fr h k; unfold yIS; simp only [boolK_eq, spineK_eq, newObjK_eq, setObjK_eq, lputK_eq, srcCellsY_eq, appendedY_eq, inPlaceY_eq, cellsOfK_eq, mapOfK_eq, nthK_eq, partK_eq, sliceCellsK_eq]; rfl
  | indexArr n s a x i => show yIx n s a (x.ev fr) (i.ev fr) h k = x_indexArr n s a x.fn i.fn call fr h k; unfold yIx; simp only [boolK_eq, spineK_eq, newObjK_eq, setObjK_eq, lputK_eq, srcCellsY_eq, appendedY_eq, inPlaceY_eq, cellsOfK_eq, mapOfK_eq, nthK_eq, partK_eq, sliceCellsK_eq]; rfl
  | field o s a x => show yFd o s a (x.ev fr) h k = x_field o s a x.fn call fr h k; unfold yFd; simp only [boolK_eq, spineK_eq, newObjK_eq, setObjK_eq, lputK_eq, srcCellsY_eq, appendedY_eq, inPlaceY_eq, cellsOfK_eq, mapOfK_eq, nthK_eq, partK_eq, sliceCellsK_eq]; rfl
  | extract i x => show yT i (x.ev fr) h k = x_extract i x.fn call fr h k; unfold yT; simp only [boolK_eq, spineK_eq, newObjK_eq, setObjK_eq, lputK_eq, srcCellsY_eq, appendedY_eq, inPlaceY_eq, cellsOfK_eq, mapOfK_eq, nthK_eq, partK_eq, sliceCellsK_eq]; rfl
  | lookup s z c x y => show yLk s z c (x.ev fr) (y.ev fr) h k = x_lookup s z c x.fn y.fn call fr h k; unfold yLk; simp only [boolK_eq, spineK_eq, newObjK_eq, setObjK_eq, lputK_eq, srcCellsY_eq, appendedY_eq, inPlaceY_eq, cellsOfK_eq, mapOfK_eq, nthK_eq, partK_eq, sliceCellsK_eq]; rfl
  | lenMap x => show yLM (x.ev fr) h k = x_lenMap x.fn call fr h k; unfold yLM; simp only [boolK_eq, spineK_eq, newObjK_eq, setObjK_eq, lputK_eq, srcCellsY_eq, appendedY_eq, inPlaceY_eq, cellsOfK_eq, mapOfK_eq, nthK_eq, partK_eq, sliceCellsK_eq]; rfl
  | p2u x => show yPU (x.ev fr) h k = x_p2u x.fn call fr h k; unfold yPU; simp only [boolK_eq, spineK_eq, newObjK_eq, setObjK_eq, lputK_eq, srcCellsY_eq, appendedY_eq, inPlaceY_eq, cellsOfK_eq, mapOfK_eq, nthK_eq, partK_eq, sliceCellsK_eq]; rfl
  | u2p e s x => show yUP e s (x.ev fr) h k = x_u2p e s x.fn call fr h k; unfold yUP; simp only [boolK_eq, spineK_eq, newObjK_eq, setObjK_eq, lputK_eq, srcCellsY_eq, appendedY_eq, inPlaceY_eq, cellsOfK_eq, mapOfK_eq, nthK_eq, partK_eq, sliceCellsK_eq]; rfl
  | nextE x => show yNE (x.ev fr) h k = x_nextE x.fn call fr h k; unfold yNE; simp only [boolK_eq, spineK_eq, newObjK_eq, setObjK_eq, lputK_eq, srcCellsY_eq, appendedY_eq, inPlaceY_eq, cellsOfK_eq, mapOfK_eq, nthK_eq, partK_eq, sliceCellsK_eq]; rfl
  | _ => rfl
theorem evL_congr {e1 e2 : Opd → AV} : ∀ {l : List Opd}, (∀ x ∈ l, e1 x = e2 x) → evL e1 l = evL e2 l
  | [], _ => rfl
  | x :: t, h => by
    show e1 x :: evL e1 t = e2 x :: evL e2 t
    rw [h x List.mem_cons_self, evL_congr fun y hy => h y (List.mem_cons_of_mem _ hy)]
theorem evP_congr {e1 e2 : Opd → AV} : ∀ {l : List Part}, (∀ x ∈ l.map Part.x, e1 x = e2 x) → evP e1 l = evP e2 l
  | [], _ => rfl
  | q :: t, h => by
    show (⟨q.off, q.size, e1 q.x⟩ : PartV) :: evP e1 t = ⟨q.off, q.size, e2 q.x⟩ :: evP e2 t
    rw [h q.x List.mem_cons_self, evP_congr fun y hy => h y (List.mem_cons_of_mem _ hy)]
theorem step_congr {e1 e2 : Opd → AV} (o : O) (h : ∀ x ∈ o.opds, e1 x = e2 x) : o.stepY e1 = o.stepY e2 := by
  funext call hp k
  have hO : ∀ x : Opo, (∀ y ∈ (match x with | .no => ([] : List Opd) | .it x => [x]), e1 y = e2 y) → evO e1 x = evO e2 x := fun x hx => by
    cases x with
    | no => rfl
    | it y => exact congrArg some (hx y List.mem_cons_self)
  cases o <;> simp only [O.opds, List.mem_append, List.mem_cons, List.not_mem_nil, or_false, forall_eq, or_imp, forall_and, false_imp_iff, implies_true] at h <;> simp only [O.stepY]
  all_goals first
    | (simp only [h]; done)
    | (obtain ⟨h1, h2⟩ := h; rw [h1, h2]; done)
    | (rw [evP_congr h]; done)
    | (rw [evL_congr h]; done)
    | (obtain ⟨h1, h2⟩ := h; rw [evL_congr h1, evL_congr h2]; done)
    | (obtain ⟨h1, h2⟩ := h; rw [h1, evL_congr h2]; done)
    | (obtain ⟨⟨h1, h2⟩, h3⟩ := h; rw [h1, hO _ h2, hO _ h3]; done)
    | (obtain ⟨⟨⟨h1, h2⟩, h3⟩, h4⟩ := h; rw [h1, hO _ h2, hO _ h3, hO _ h4]; done)
    | (obtain ⟨⟨h1, h2⟩, h3⟩ := h; simp only [h1, h2, h3]; done)
end Go.Ai
set_option autoImplicit false
namespace Go.Ai
set_option linter.unusedSectionVars false
variable [Nu]
open Go
variable {Φ : Type} {P : Program} {rep : Rep Φ} {S : List Path}

def Uni (r : Kont → Res) : Prop := (∀ k, Bad (r k)) ∨ ∃ v h, ∀ k, r k = k v h
def US (P : Program) (o : O) : Prop := ∀ call, CallGood P call → ∀ fr h, Uni (o.step call fr h)
structure RepOk (rep : Rep Φ) : Prop where
  le : rep.n ≤ 1000000
  init : ∀ i, i < rep.n → rep.get i rep.init = .undef
  set : ∀ i, i < rep.n → ∀ v fr, ∃ fr', (∀ k, rep.set i v fr k = k fr') ∧ rep.get i fr' = v ∧ ∀ j, j < rep.n → j ≠ i → rep.get j fr' = rep.get j fr
def Agree (rep : Rep Φ) (S : List Path) (fr : Φ) (fr2 : FT) : Prop := ∀ p, slotOk rep S p = true → fget p fr2 = rep.get (idx S p) fr
def EnvOk (rep : Rep Φ) (S : List Path) (env : LEnv) (fr2 : FT) : Prop := ∀ p, slotOk rep S p = false → inEnv p env = true → fget p fr2 = find p env .undef
theorem pbeq_self (p : Path) : p.beq p = true := by
  induction p with
  | e => rfl
  | l p ih => exact ih
  | r p ih => exact ih
theorem pbeq_ne {p q : Path} (h : p ≠ q) : p.beq q = false := by
  cases e : p.beq q with
  | false => rfl
  | true => exact absurd (pbeq_eq p q e) h
theorem idx_get (p : Path) : ∀ S : List Path, idx S p < 1000000 → S[idx S p]? = some p
  | [], h => absurd h (Nat.lt_irrefl _)
  | q :: t, h => by
    have e0 : idx (q :: t) p = Bool.rec (motive := fun _ => Nat) (Bool.rec (motive := fun _ => Nat) (Nat.succ (idx t p)) 1000000 (Nat.beq (idx t p) 1000000)) 0 (Path.beq q p) := rfl
    cases hb : q.beq p with
    | true => rw [e0, hb]; rw [pbeq_eq q p hb]; rfl
    | false =>
      rw [e0, hb] at h ⊢
      cases hc : Nat.beq (idx t p) 1000000 with
      | true => rw [hc] at h; exact absurd h (Nat.lt_irrefl _)
      | false =>
        rw [hc] at h
        exact idx_get p t (by have : Nat.succ (idx t p) < 1000000 := h; omega)
theorem slot_lt {p : Path} (h : slotOk rep S p = true) : idx S p < rep.n := by
  have h' : Nat.blt (idx S p) rep.n = true := h
  rw [blt_dec] at h'; exact of_decide_eq_true h'
theorem idx_inj (hr : RepOk rep) {p q : Path} (hp : slotOk rep S p = true) (hq : slotOk rep S q = true) (h : idx S p = idx S q) : p = q := by
  have h1 := idx_get p S (Nat.lt_of_lt_of_le (slot_lt hp) hr.le)
  have h2 := idx_get q S (Nat.lt_of_lt_of_le (slot_lt hq) hr.le)
  rw [h, h2] at h1
  exact (Option.some.inj h1).symm
theorem pv_eq {env : LEnv} {fr : Φ} {fr2 : FT} (hA : Agree rep S fr fr2) (hE : EnvOk rep S env fr2) {p : Path} (h : hasP rep S env p = true) : pv rep S env fr p = fget p fr2 := by
  have e0 : hasP rep S env p = Bool.rec (motive := fun _ => Bool) (inEnv p env) true (slotOk rep S p) := rfl
  have e1 : pv rep S env fr p = Bool.rec (motive := fun _ => AV) (find p env .undef) (rep.get (idx S p) fr) (slotOk rep S p) := rfl
  cases hs : slotOk rep S p with
  | true => rw [e1, hs]; exact (hA p hs).symm
  | false => rw [e0, hs] at h; rw [e1, hs]; exact (hE p hs h).symm
theorem evF_eq {env : LEnv} {fr : Φ} {fr2 : FT} (hA : Agree rep S fr fr2) (hE : EnvOk rep S env fr2) {x : Opd} (h : hasF rep S env x = true) : evF rep S env fr x = x.ev fr2 := by
  cases x with
  | const v => rfl
  | tmp t =>
    show pv rep S env fr t.p = t.get fr2
    rw [t.okg]; exact pv_eq hA hE h
theorem hasO_mem {env : LEnv} {o : O} (h : hasO rep S env o = true) : ∀ x ∈ o.opds, hasF rep S env x = true := by
  unfold hasO at h
  generalize o.opds = l at h ⊢
  induction l with
  | nil => intro x hx; cases hx
  | cons a t ih =>
    intro x hx
    have h' : Bool.rec (motive := fun _ => Bool) false (List.rec (motive := fun _ => Bool) true (fun x _ ih => Bool.rec (motive := fun _ => Bool) false ih (hasF rep S env x)) t) (hasF rep S env a) = true := h
    cases ha : hasF rep S env a with
    | false => rw [ha] at h'; cases h'
    | true =>
      rw [ha] at h'
      rcases List.mem_cons.1 hx with e | e
      · rw [e]; exact ha
      · exact ih h' x e
theorem stepF_eq {env : LEnv} {fr : Φ} {fr2 : FT} (hA : Agree rep S fr fr2) (hE : EnvOk rep S env fr2) {o : O} (h : hasO rep S env o = true) (call : Call) (hp : H) (k : Kont) : o.stepY (evF rep S env fr) call hp k = o.step call fr2 hp k := by
  rw [← step_eq, step_congr o fun x hx => evF_eq hA hE (hasO_mem h x hx)]
theorem putF_ok (hr : RepOk rep) (d : D) (fl : Bool) (v : AV) {env : LEnv} {fr : Φ} {fr2 : FT} (hA : Agree rep S fr fr2) (hE : EnvOk rep S env fr2) : ∃ env' fr', (∀ k, putF rep S d fl v env fr k = k env' fr') ∧ Agree rep S fr' (d.put v fr2) ∧ EnvOk rep S env' (d.put v fr2) := by
  cases d with
  | no => exact ⟨env, fr, fun _ => rfl, hA, hE⟩
  | to x =>
    have e0 : ∀ k, putF rep S (.to x) fl v env fr k = Bool.rec (motive := fun _ => Res) (k ((x.p, fl, v) :: env) fr) (rep.set (idx S x.p) v fr fun fr => k env fr) (slotOk rep S x.p) := fun _ => rfl
    have e1 : (D.to x).put v fr2 = fset v x.p fr2 := x.oks v fr2
    simp only [e0, e1]
    cases hs : slotOk rep S x.p with
    | true =>
      obtain ⟨fr', h1, h2, h3⟩ := hr.set _ (slot_lt hs) v fr
      refine ⟨env, fr', fun k => h1 _, fun p hp => ?_, fun p hp hi => ?_⟩
      · rw [fget_fset]
        by_cases e : p = x.p
        · rw [if_pos e, e, h2]
        · rw [if_neg e, hA p hp, h3 _ (slot_lt hp) fun h => e (idx_inj hr hp hs h)]
      · rw [fget_fset, if_neg fun e => by rw [e, hs] at hp; cases hp]
        exact hE p hp hi
    | false =>
      refine ⟨(x.p, fl, v) :: env, fr, fun _ => rfl, fun p hp => ?_, fun p hp hi => ?_⟩
      · rw [fget_fset, if_neg fun e => by rw [e, hs] at hp; cases hp]
        exact hA p hp
      · have e2 : inEnv p ((x.p, fl, v) :: env) = Bool.rec (motive := fun _ => Bool) (inEnv p env) true (x.p.beq p) := rfl
        have e3 : find p ((x.p, fl, v) :: env) .undef = Bool.rec (motive := fun _ => AV) (find p env .undef) v (x.p.beq p) := rfl
        rw [fget_fset, e3]
        by_cases e : p = x.p
        · rw [if_pos e, e, pbeq_self]
        · rw [if_neg e]
          have hb := pbeq_ne fun h : x.p = p => e h.symm
          rw [e2, hb] at hi
          rw [hb]; exact hE p hp hi
theorem movX_eq {o : O} {x : Opd} (h : o.movX = some x) : o = .mov x := by
  cases o <;> first | (cases h; rfl) | cases h
theorem movK_eq {env : LEnv} {fr : Φ} {d : D} {x : Opd} (k : AV → Res) : movK rep S env fr d x k = k (evF rep S env fr x) := by
  cases d with
  | no => rfl
  | to t =>
    have e0 : movK rep S env fr (.to t) x k = Bool.rec (motive := fun _ => Res) (k (evF rep S env fr x)) (Bool.rec (motive := fun _ => Res) (k (evF rep S env fr x)) ((evF rep S env fr x).force k) (lazyF rep S env x)) (slotOk rep S t.p) := rfl
    rw [e0]
    cases slotOk rep S t.p with
    | false => rfl
    | true =>
      cases lazyF rep S env x with
      | false => rfl
      | true => exact force_eq _ _
theorem guard_eq {env : LEnv} {fr : Φ} {fr2 : FT} (hA : Agree rep S fr fr2) (hE : EnvOk rep S env fr2) {x : Tm} {want : Bool} (hg : hasG rep S env (.on x want) = true) (h : H) (s : Kont → Res) (k : Kont) : guardK (pv rep S env fr x.p) want h s k = (G.on x want).on' fr2 (s k) (k .undef h) := by
  show (pv rep S env fr x.p).onGuard want _ _ = (x.get fr2).onGuard want _ _
  rw [x.okg, pv_eq hA hE hg]
theorem stepG_eq {env : LEnv} {fr : Φ} {fr2 : FT} (hA : Agree rep S fr fr2) (hE : EnvOk rep S env fr2) {d : D} {g : G} {o : O} (ho : hasO rep S env o = true) (hg : hasG rep S env g = true) (call : Call) (h : H) (k : Kont) : stepG rep S env fr d g o call h k = g.on' fr2 (o.step call fr2 h k) (k .undef h) := by
  cases g with
  | no =>
    show Option.rec (motive := fun _ => Res) (o.stepY (evF rep S env fr) call h k) (fun x => movK rep S env fr d x fun v => k v h) o.movX = o.step call fr2 h k
    cases hm : o.movX with
    | none => exact stepF_eq hA hE ho call h k
    | some x =>
      have := movX_eq hm
      subst this
      show movK rep S env fr d x (fun v => k v h) = k (x.ev fr2) h
      rw [movK_eq, evF_eq hA hE (hasO_mem ho x (by simp [O.opds]))]
  | on x want =>
    show guardK (pv rep S env fr x.p) want h (fun k => o.stepY (evF rep S env fr) call h k) k = _
    rw [guard_eq hA hE hg, stepF_eq hA hE ho]
theorem onG_w (g : G) (fr : FT) : (∀ y n, Bad (g.on' fr y n)) ∨ ∃ t : Bool, ∀ y n, g.on' fr y n = ifC t y n := by
  cases g with
  | no => exact .inr ⟨true, fun _ _ => rfl⟩
  | on x want =>
    rcases onGuard_w (x.get fr) want with hb | ⟨t, h, _⟩
    · exact .inl hb
    · exact .inr ⟨t, h⟩
theorem op_run (d : D) (g : G) (o : O) (rest : L) (call : Call) (fr : FT) (h : H) (hs : List H) : (L.op d g o rest).run call fr h hs = g.on' fr (o.step call fr h fun v h => rest.run call (d.put v fr) h hs) (rest.run call (d.put .undef fr) h hs) := by cases d <;> cases g <;> rfl
theorem dop_run (d : D) (g : G) (o : O) (back : Nat) (eff al : Bool) (rest : L) (call : Call) (fr : FT) (h : H) (hs : List H) : (L.dop d g o back eff al rest).run call fr h hs =
    g.on' fr (o.step call fr h fun v h' => again o.step call fr v (freshIn al h (rest.run call (d.put v fr) h' (Bool.rec (motive := fun _ => List H) hs (h :: hs) eff)) hs) back hs) (rest.run call (d.put .undef fr) h (Bool.rec (motive := fun _ => List H) hs (h :: hs) eff)) := by
  cases d <;> cases g <;> cases back <;> cases eff <;> cases al <;> rfl
theorem freshF_w (al : Bool) (h : H) (hs : List H) : (∀ K, Bad (freshIn al h K hs)) ∨ ∀ K, freshIn al h K hs = K := by
  cases al with
  | false => exact .inr fun _ => rfl
  | true =>
    cases h with
    | mk t n =>
      induction hs with
      | nil => exact .inr fun _ => rfl
      | cons s hs ih =>
        cases s with
        | mk t' n' =>
          have e0 : ∀ K, freshIn true (.mk t n) K (.mk t' n' :: hs) = Obj.rec (motive := fun _ => Res) (freshIn true (.mk t n) K hs) (fun _ _ => .bad 50) (fun _ _ => .bad 50) (.bad 50) (fun _ _ _ _ _ _ => .bad 50) (hget n t') := fun _ => rfl
          simp only [e0]
          cases hget n t' with
          | none => exact ih
          | _ => exact .inl fun _ => ⟨_, rfl⟩
theorem againF_w {o : O} {call : Call} (hU : ∀ fr h, Uni (o.step call fr h)) (fr : FT) (v : AV) : ∀ (n : Nat) (hs : List H), (∀ K, Bad (again o.step call fr v K n hs)) ∨ ∀ K, again o.step call fr v K n hs = K
  | 0, _ => .inr fun _ => rfl
  | n + 1, [] => .inl fun _ => ⟨_, rfl⟩
  | n + 1, h :: t => by
    have e0 : ∀ K, again o.step call fr v K (n + 1) (h :: t) = o.step call fr h fun w _ => must 12 (w.alike v) (again o.step call fr v K n t) := fun _ => rfl
    simp only [e0]
    rcases hU fr h with hb | ⟨w, h1, e⟩
    · exact .inl fun _ => hb _
    · simp only [e]
      rcases must_w 12 (w.alike v) with hb | ⟨_, e2⟩
      · exact .inl fun _ => hb _
      · simp only [e2]
        exact againF_w hU fr v n t
theorem againY_eq {s : H → Kont → Res} {o : O} {call : Call} {fr : FT} (hs' : ∀ h k, s h k = o.step call fr h k) (v : AV) (K : Res) : ∀ (n : Nat) (hs : List H), againY s v K n hs = again o.step call fr v K n hs
  | 0, _ => rfl
  | n + 1, [] => rfl
  | n + 1, h :: t => by
    show s h (fun w _ => must 12 (w.alike v) (againY s v K n t)) = o.step call fr h fun w _ => must 12 (w.alike v) (again o.step call fr v K n t)
    rw [hs', againY_eq hs' v K n t]
def L.ops : L → List O
  | .nil => []
  | .op _ _ o r => o :: r.ops
  | .dop _ _ o _ _ _ r => o :: r.ops
theorem runF_ok (hr : RepOk rep) {call : Call} (hC : CallGood P call) : ∀ (l : L), (∀ o ∈ l.ops, US P o) → ∀ (env : LEnv) (fr : Φ) (fr2 : FT) (h : H) (hs : List H), Agree rep S fr fr2 → EnvOk rep S env fr2 →
    (∀ kn, Bad (l.runF rep S env call fr h hs kn)) ∨ ∃ fr' fr2' h', l.run call fr2 h hs = .nrm fr2' h' ∧ Agree rep S fr' fr2' ∧ ∀ kn, l.runF rep S env call fr h hs kn = kn fr' h' := by
  intro l
  induction l with
  | nil => exact fun _ env fr fr2 h hs hA hE => .inr ⟨fr, fr2, h, rfl, hA, fun _ => rfl⟩
  | op d g o rest ih =>
    intro hU env fr fr2 h hs hA hE
    have hUo : ∀ fr h, Uni (o.step call fr h) := hU o List.mem_cons_self call hC
    have ih := ih fun o ho => hU o (List.mem_cons_of_mem _ ho)
    have e0 : ∀ kn, (L.op d g o rest).runF rep S env call fr h hs kn = must 60 (hasO rep S env o) (must 60 (hasG rep S env g) (stepG rep S env fr d g o call h fun v h => putF rep S d (flagF rep S env g o) v env fr fun env fr => rest.runF rep S env call fr h hs kn)) := fun _ => rfl
    simp only [e0]
    rcases must_w 60 (hasO rep S env o) with hb | ⟨ho, e1⟩
    · exact .inl fun _ => hb _
    rcases must_w 60 (hasG rep S env g) with hb | ⟨hg, e2⟩
    · exact .inl fun _ => by rw [e1]; exact hb _
    simp only [e1, e2, stepG_eq hA hE ho hg, op_run]
    rcases onG_w g fr2 with hb | ⟨t, e3⟩
    · exact .inl fun _ => hb _ _
    simp only [e3]
    cases t with
    | true =>
      simp only [ifC_true]
      rcases hUo fr2 h with hb | ⟨v, h1, e4⟩
      · exact .inl fun _ => hb _
      simp only [e4]
      obtain ⟨env', fr', e5, hA', hE'⟩ := putF_ok hr d (flagF rep S env g o) v hA hE
      simp only [e5]
      exact ih env' fr' _ h1 hs hA' hE'
    | false =>
      simp only [ifC_false]
      obtain ⟨env', fr', e5, hA', hE'⟩ := putF_ok hr d (flagF rep S env g o) .undef hA hE
      simp only [e5]
      exact ih env' fr' _ h hs hA' hE'
  | dop d g o back eff al rest ih =>
    intro hU env fr fr2 h hs hA hE
    have hUo : ∀ fr h, Uni (o.step call fr h) := hU o List.mem_cons_self call hC
    have ih := ih fun o ho => hU o (List.mem_cons_of_mem _ ho)
    have e0 : ∀ kn, (L.dop d g o back eff al rest).runF rep S env call fr h hs kn = f_dop rep S d g o back eff al rest (rest.runF rep S) env call fr h hs kn := fun _ => rfl
    simp only [e0, f_dop, freshK_eq]
    rcases must_w 60 (hasO rep S env o) with hb | ⟨ho, e1⟩
    · exact .inl fun _ => hb _
    rcases must_w 60 (hasG rep S env g) with hb | ⟨hg, e2⟩
    · exact .inl fun _ => by rw [e1]; exact hb _
    simp only [e1, e2, dop_run]
    cases hpl : plainD back eff al with
    | true =>
      have hpl' : back = 0 ∧ eff = false ∧ al = false := by cases back <;> cases eff <;> cases al <;> first | exact ⟨rfl, rfl, rfl⟩ | cases hpl
      obtain ⟨rfl, rfl, rfl⟩ := hpl'
      show (∀ kn, Bad (stepG rep S env fr d g o call h fun v h' => putF rep S d (flagF rep S env g o) v env fr fun env fr => rest.runF rep S env call fr h' hs kn)) ∨ _
      simp only [stepG_eq hA hE ho hg]
      have e8 : g.on' fr2 (o.step call fr2 h fun v h' => again o.step call fr2 v (freshIn false h (rest.run call (d.put v fr2) h' hs) hs) 0 hs) (rest.run call (d.put .undef fr2) h hs) = g.on' fr2 (o.step call fr2 h fun v h' => rest.run call (d.put v fr2) h' hs) (rest.run call (d.put .undef fr2) h hs) := rfl
      rw [e8]
      rcases onG_w g fr2 with hb | ⟨t, e3⟩
      · exact .inl fun _ => hb _ _
      simp only [e3]
      cases t with
      | true =>
        simp only [ifC_true]
        rcases hUo fr2 h with hb | ⟨v, h1, e4⟩
        · exact .inl fun _ => hb _
        simp only [e4]
        obtain ⟨env', fr', e5, hA', hE'⟩ := putF_ok hr d (flagF rep S env g o) v hA hE
        simp only [e5]
        exact ih env' fr' _ h1 hs hA' hE'
      | false =>
        simp only [ifC_false]
        obtain ⟨env', fr', e5, hA', hE'⟩ := putF_ok hr d (flagF rep S env g o) .undef hA hE
        simp only [e5]
        exact ih env' fr' _ h hs hA' hE'
    | false =>
      have hsY : ∀ h k, o.stepY (evF rep S env fr) call h k = o.step call fr2 h k := fun h k => stepF_eq hA hE ho call h k
      have e9 : ∀ kn, G.rec (motive := fun _ => Res) (o.stepY (evF rep S env fr) call h fun v h' => againY (fun h k => o.stepY (evF rep S env fr) call h k) v (freshIn al h (putF rep S d false v env fr fun env fr => rest.runF rep S env call fr h' (Bool.rec (motive := fun _ => List H) hs (h :: hs) eff) kn) hs) back hs)
          (fun x want => guardK (pv rep S env fr x.p) want h (fun k => o.stepY (evF rep S env fr) call h fun v h' => againY (fun h k => o.stepY (evF rep S env fr) call h k) v (freshIn al h (k v h') hs) back hs) fun v h' => putF rep S d false v env fr fun env fr => rest.runF rep S env call fr h' (Bool.rec (motive := fun _ => List H) hs (h :: hs) eff) kn) g =
          g.on' fr2 (o.step call fr2 h fun v h' => again o.step call fr2 v (freshIn al h (putF rep S d false v env fr fun env fr => rest.runF rep S env call fr h' (Bool.rec (motive := fun _ => List H) hs (h :: hs) eff) kn) hs) back hs) (putF rep S d false .undef env fr fun env fr => rest.runF rep S env call fr h (Bool.rec (motive := fun _ => List H) hs (h :: hs) eff) kn) := fun kn => by
        cases g with
        | no =>
          show (o.stepY (evF rep S env fr) call h fun v h' => _) = o.step call fr2 h _
          rw [hsY]
          simp only [againY_eq hsY]
        | on x want =>
          show guardK (pv rep S env fr x.p) want h _ _ = _
          rw [guard_eq hA hE hg]
          simp only [hsY, againY_eq (s := fun h k => o.step call fr2 h k) (o := o) (call := call) (fr := fr2) fun _ _ => rfl]
      simp only [e9]
      rcases onG_w g fr2 with hb | ⟨t, e3⟩
      · exact .inl fun _ => hb _ _
      simp only [e3]
      cases t with
      | true =>
        simp only [ifC_true]
        rcases hUo fr2 h with hb | ⟨v, h1, e4⟩
        · exact .inl fun _ => hb _
        simp only [e4]
        rcases againF_w hUo fr2 v back hs with hb | e6
        · exact .inl fun _ => hb _
        simp only [e6]
        rcases freshF_w al h hs with hb | e7
        · exact .inl fun _ => hb _
        simp only [e7]
        obtain ⟨env', fr', e5, hA', hE'⟩ := putF_ok hr d false v hA hE
        simp only [e5]
        exact ih env' fr' _ h1 _ hA' hE'
      | false =>
        simp only [ifC_false]
        obtain ⟨env', fr', e5, hA', hE'⟩ := putF_ok hr d false .undef hA hE
        simp only [e5]
        exact ih env' fr' _ h _ hA' hE'
def C.US (P : Program) : C → Prop
  | .reg l => ∀ o ∈ l.ops, Ai.US P o
  | .seq a b => a.US P ∧ b.US P
  | .cond _ a b => a.US P ∧ b.US P
  | .block _ b => b.US P
  | .loop b => b.US P
  | _ => True
def Sim (rep : Rep Φ) (S : List Path) (run : Res) (F : (Φ → H → Res) → (Nat → Φ → H → Res) → (Φ → H → Res) → Res) : Prop :=
  (∀ kr ke kn, Bad (F kr ke kn)) ∨ ∃ fr' fr2' h', Agree rep S fr' fr2' ∧ ((run = .nrm fr2' h' ∧ ∀ kr ke kn, F kr ke kn = kn fr' h') ∨ (run = .ret fr2' h' ∧ ∀ kr ke kn, F kr ke kn = kr fr' h') ∨ ∃ id, run = .ext id fr2' h' ∧ ∀ kr ke kn, F kr ke kn = ke id fr' h')
theorem rounds_sim {call : Call} {b : C} (ih : ∀ fr fr2 h, Agree rep S fr fr2 → Sim rep S (b.run call fr2 h) fun kr ke kn => b.runF rep S call kr ke kn fr h) : ∀ (n : Nat) (fr : Φ) (fr2 : FT) (h : H), Agree rep S fr fr2 →
    Sim rep S (rounds (b.run call) n fr2 h) fun kr ke kn => roundsK (fun kn fr h => b.runF rep S call kr ke kn fr h) n kn fr h
  | 0, fr, fr2, h, hA => ih fr fr2 h hA
  | n + 1, fr, fr2, h, hA => by
    have e0 : rounds (b.run call) (n + 1) fr2 h = Res.rec (motive := fun _ => Res) (rounds (b.run call) n) .ext .ret .fin .bad (rounds (b.run call) n fr2 h) := rfl
    have e1 : ∀ kr ke kn, roundsK (fun kn fr h => b.runF rep S call kr ke kn fr h) (n + 1) kn fr h = roundsK (fun kn fr h => b.runF rep S call kr ke kn fr h) n (roundsK (fun kn fr h => b.runF rep S call kr ke kn fr h) n kn) fr h := fun _ _ _ => rfl
    simp only [e0, e1]
    rcases rounds_sim ih n fr fr2 h hA with hb | ⟨fr', fr2', h', hA', ⟨e2, e3⟩ | ⟨e2, e3⟩ | ⟨id, e2, e3⟩⟩
    · exact .inl fun kr ke kn => hb kr ke _
    · simp only [e2, e3]
      exact rounds_sim ih n fr' fr2' h' hA'
    · simp only [e2, e3]
      exact .inr ⟨fr', fr2', h', hA', .inr (.inl ⟨rfl, fun _ _ _ => rfl⟩)⟩
    · simp only [e2, e3]
      exact .inr ⟨fr', fr2', h', hA', .inr (.inr ⟨id, rfl, fun _ _ _ => rfl⟩)⟩
theorem codeF_ok (hr : RepOk rep) {call : Call} (hC : CallGood P call) : ∀ (c : C), c.US P → ∀ (fr : Φ) (fr2 : FT) (h : H), Agree rep S fr fr2 → Sim rep S (c.run call fr2 h) fun kr ke kn => c.runF rep S call kr ke kn fr h := by
  intro c
  induction c with
  | skip => exact fun _ fr fr2 h hA => .inr ⟨fr, fr2, h, hA, .inl ⟨rfl, fun _ _ _ => rfl⟩⟩
  | reg l =>
    intro hU fr fr2 h hA
    rcases runF_ok hr hC l hU [] fr fr2 h [] hA (fun p _ hi => by cases hi) with hb | ⟨fr', fr2', h', e1, hA', e2⟩
    · exact .inl fun _ _ kn => hb kn
    · exact .inr ⟨fr', fr2', h', hA', .inl ⟨e1, fun _ _ kn => e2 kn⟩⟩
  | seq a b iha ihb =>
    intro hU fr fr2 h hA
    have e0 : (C.seq a b).run call fr2 h = Res.rec (motive := fun _ => Res) (b.run call) .ext .ret .fin .bad (a.run call fr2 h) := rfl
    have e1 : ∀ kr ke kn, (C.seq a b).runF rep S call kr ke kn fr h = a.runF rep S call kr ke (b.runF rep S call kr ke kn) fr h := fun _ _ _ => rfl
    simp only [e0, e1]
    rcases iha hU.1 fr fr2 h hA with hb | ⟨fr', fr2', h', hA', ⟨e2, e3⟩ | ⟨e2, e3⟩ | ⟨id, e2, e3⟩⟩
    · exact .inl fun kr ke kn => hb kr ke _
    · simp only [e2, e3]
      exact ihb hU.2 fr' fr2' h' hA'
    · simp only [e2, e3]
      exact .inr ⟨fr', fr2', h', hA', .inr (.inl ⟨rfl, fun _ _ _ => rfl⟩)⟩
    · simp only [e2, e3]
      exact .inr ⟨fr', fr2', h', hA', .inr (.inr ⟨id, rfl, fun _ _ _ => rfl⟩)⟩
  | cond c a b iha ihb =>
    intro hU fr fr2 h hA
    have e0 : (C.cond c a b).run call fr2 h = (c.ev fr2).onBool fun t => Bool.rec (motive := fun _ => Res) (b.run call fr2 h) (a.run call fr2 h) t := rfl
    have e1 : ∀ kr ke kn, (C.cond c a b).runF rep S call kr ke kn fr h = must 60 (hasF rep S [] c) ((evF rep S [] fr c).onBool fun t => Bool.rec (motive := fun _ => Res) (b.runF rep S call kr ke kn fr h) (a.runF rep S call kr ke kn fr h) t) := fun _ _ _ => rfl
    simp only [e0, e1]
    rcases must_w 60 (hasF rep S [] c) with hb | ⟨hc, e2⟩
    · exact .inl fun _ _ _ => hb _
    simp only [e2, evF_eq hA (fun p _ hi => by cases hi) hc]
    rcases onBool_w (c.ev fr2) with hb | ⟨t, e3⟩
    · exact .inl fun _ _ _ => hb _
    simp only [e3]
    cases t with
    | true => exact iha hU.1 fr fr2 h hA
    | false => exact ihb hU.2 fr fr2 h hA
  | block id b ih =>
    intro hU fr fr2 h hA
    have e0 : (C.block id b).run call fr2 h = Res.rec (motive := fun _ => Res) .nrm (fun j fr h => ifC (Nat.beq j id) (.nrm fr h) (.ext j fr h)) .ret .fin .bad (b.run call fr2 h) := rfl
    have e1 : ∀ kr ke kn, (C.block id b).runF rep S call kr ke kn fr h = b.runF rep S call kr (fun j => Bool.rec (motive := fun _ => Φ → H → Res) (ke j) kn (Nat.beq j id)) kn fr h := fun _ _ _ => rfl
    simp only [e0, e1]
    rcases ih hU fr fr2 h hA with hb | ⟨fr', fr2', h', hA', ⟨e2, e3⟩ | ⟨e2, e3⟩ | ⟨j, e2, e3⟩⟩
    · exact .inl fun kr ke kn => hb kr _ kn
    · simp only [e2, e3]
      exact .inr ⟨fr', fr2', h', hA', .inl ⟨rfl, fun _ _ _ => rfl⟩⟩
    · simp only [e2, e3]
      exact .inr ⟨fr', fr2', h', hA', .inr (.inl ⟨rfl, fun _ _ _ => rfl⟩)⟩
    · simp only [e2, e3]
      cases Nat.beq j id with
      | true => exact .inr ⟨fr', fr2', h', hA', .inl ⟨rfl, fun _ _ _ => rfl⟩⟩
      | false => exact .inr ⟨fr', fr2', h', hA', .inr (.inr ⟨j, rfl, fun _ _ _ => rfl⟩)⟩
  | loop b ih =>
    intro hU fr fr2 h hA
    have e0 : (C.loop b).run call fr2 h = Res.rec (motive := fun _ => Res) (fun _ _ => .bad 23) .ext .ret .fin .bad (rounds (b.run call) 30 fr2 h) := rfl
    have e1 : ∀ kr ke kn, (C.loop b).runF rep S call kr ke kn fr h = roundsK (fun kn fr h => b.runF rep S call kr ke kn fr h) 30 (fun _ _ => .bad 23) fr h := fun _ _ _ => rfl
    simp only [e0, e1]
    rcases rounds_sim (ih hU) 30 fr fr2 h hA with hb | ⟨fr', fr2', h', hA', ⟨e2, e3⟩ | ⟨e2, e3⟩ | ⟨id, e2, e3⟩⟩
    · exact .inl fun kr ke kn => hb kr ke _
    · simp only [e3]
      exact .inl fun _ _ _ => ⟨_, rfl⟩
    · simp only [e2, e3]
      exact .inr ⟨fr', fr2', h', hA', .inr (.inl ⟨rfl, fun _ _ _ => rfl⟩)⟩
    · simp only [e2, e3]
      exact .inr ⟨fr', fr2', h', hA', .inr (.inr ⟨id, rfl, fun _ _ _ => rfl⟩)⟩
  | exit id => exact fun _ fr fr2 h hA => .inr ⟨fr, fr2, h, hA, .inr (.inr ⟨id, rfl, fun _ _ _ => rfl⟩)⟩
  | ret => exact fun _ fr fr2 h hA => .inr ⟨fr, fr2, h, hA, .inr (.inl ⟨rfl, fun _ _ _ => rfl⟩)⟩
  | no w => exact fun _ fr fr2 h hA => .inl fun _ _ _ => ⟨_, rfl⟩
  | rangeF f ps a b _ _ => exact fun _ fr fr2 h hA => .inl fun _ _ _ => ⟨_, rfl⟩
theorem setArgsF_ok (hr : RepOk rep) : ∀ (ps : List Path) (vs : List AV) (fr : Φ) (fr2 : FT), Agree rep S fr fr2 → (∀ K, Bad (setArgsF rep S ps vs fr K)) ∨ ∃ fr' fr2', Agree rep S fr' fr2' ∧ (∀ K, setArgsF rep S ps vs fr K = K fr') ∧ ∀ K, setArgs ps vs fr2 K = K fr2'
  | [], [], fr, fr2, hA => .inr ⟨fr, fr2, hA, fun _ => rfl, fun _ => rfl⟩
  | [], _ :: _, _, _, _ => .inl fun _ => ⟨_, rfl⟩
  | _ :: _, [], _, _, _ => .inl fun _ => ⟨_, rfl⟩
  | q :: ps, v :: vs, fr, fr2, hA => by
    have e0 : ∀ K, setArgsF rep S (q :: ps) (v :: vs) fr K = Bool.rec (motive := fun _ => Res) (setArgsF rep S ps vs fr K) (rep.set (idx S q) v fr fun fr => setArgsF rep S ps vs fr K) (slotOk rep S q) := fun _ => rfl
    have e1 : ∀ K, setArgs (q :: ps) (v :: vs) fr2 K = setArgs ps vs (fset v q fr2) K := fun _ => rfl
    simp only [e0, e1]
    cases hs : slotOk rep S q with
    | true =>
      obtain ⟨fr', h1, h2, h3⟩ := hr.set _ (slot_lt hs) v fr
      simp only [h1]
      refine setArgsF_ok hr ps vs fr' _ fun p hp => ?_
      rw [fget_fset]
      by_cases e : p = q
      · rw [if_pos e, e, h2]
      · rw [if_neg e, hA p hp, h3 _ (slot_lt hp) fun h => e (idx_inj hr hp hs h)]
    | false =>
      refine setArgsF_ok hr ps vs fr _ fun p hp => ?_
      rw [fget_fset, if_neg fun e => by rw [e, hs] at hp; cases hp]
      exact hA p hp
theorem rvsF_eq {fr : Φ} {fr2 : FT} (hA : Agree rep S fr fr2) (h : H) : ∀ (l : List RV), rvOk rep S l = true → ∀ k, rvsF rep S l fr h k = rvs l fr2 h k
  | [], _, _ => rfl
  | x :: t, hl, k => by
    have h0 : Bool.rec (motive := fun _ => Bool) false (rvOk rep S t) (slotOk rep S (RV.rec (motive := fun _ => Path) (fun p => p) (fun p => p) (fun p _ => p) x)) = true := hl
    cases hs : slotOk rep S (RV.rec (motive := fun _ => Path) (fun p => p) (fun p => p) (fun p _ => p) x) with
    | false => rw [hs] at h0; cases h0
    | true =>
      rw [hs] at h0
      have ih := rvsF_eq hA h t h0
      cases x with
      | tmp p =>
        show rvsF rep S t fr h (fun u => k (rep.get (idx S p) fr :: u)) = rvs t fr2 h fun u => k (fget p fr2 :: u)
        rw [ih, hA p hs]
      | cell p =>
        show ((rep.get (idx S p) fr).onPtr fun o i => cellsOf o h fun cs _ => nthC cs i fun v => rvsF rep S t fr h fun t => k (v :: t)) = (fget p fr2).onPtr fun o i => cellsOf o h fun cs _ => nthC cs i fun v => rvs t fr2 h fun t => k (v :: t)
        simp only [ih, hA p hs]
      | agg p n =>
        show ((rep.get (idx S p) fr).onPtr fun o i => cellsOf o h fun cs _ => ldropC i cs fun cs => ltake n cs fun cs => rvsF rep S t fr h fun t => k (.agg cs :: t)) = (fget p fr2).onPtr fun o i => cellsOf o h fun cs _ => ldropC i cs fun cs => ltake n cs fun cs => rvs t fr2 h fun t => k (.agg cs :: t)
        simp only [ih, hA p hs]
theorem fastF_ok (hr : RepOk rep) {call : Call} (hC : CallGood P call) (fn : Fn) (hU : fn.body.US P) (args : List AV) (h : H) : (∀ k, Bad (fastF rep S fn call args h k)) ∨ ∀ k, fastF rep S fn call args h k = enter fn call args h k := by
  obtain ⟨ps, body, res⟩ := fn
  have e0 : ∀ k, fastF rep S ⟨ps, body, res⟩ call args h k = must 60 (rvOk rep S res) (setArgsF rep S ps args rep.init fun fr => body.runF rep S call (endF rep S res k) (fun _ _ _ => .bad 25) (endF rep S res k) fr h) := fun _ => rfl
  have e1 : ∀ k, enter ⟨ps, body, res⟩ call args h k = setArgs ps args .leaf fun fr => Res.rec (motive := fun _ => Res) (fun fr h => rvs res fr h fun vs => k (one vs) h) (fun _ _ _ => .bad 25) (fun fr h => rvs res fr h fun vs => k (one vs) h) (fun _ _ => .bad 26) .bad (body.run call fr h) := fun _ => rfl
  simp only [e0, e1]
  rcases must_w 60 (rvOk rep S res) with hb | ⟨ho, e2⟩
  · exact .inl fun _ => hb _
  simp only [e2]
  rcases setArgsF_ok (S := S) hr ps args rep.init .leaf (fun p hp => by rw [fget_leaf, hr.init _ (slot_lt hp)]) with hb | ⟨fr, fr2, hA, e3, e4⟩
  · exact .inl fun _ => hb _
  simp only [e3, e4]
  have hend : ∀ fr' fr2' h' k, Agree rep S fr' fr2' → endF rep S res k fr' h' = rvs res fr2' h' fun vs => k (one vs) h' := fun fr' fr2' h' k hA' => by
    unfold endF
    simp only [forceL_eq]
    exact rvsF_eq hA' h' res ho _
  rcases codeF_ok (S := S) hr hC body hU fr fr2 h hA with hb | ⟨fr', fr2', h', hA', ⟨e5, e6⟩ | ⟨e5, e6⟩ | ⟨id, e5, e6⟩⟩
  · exact .inl fun _ => hb _ _ _
  · right; intro k; rw [e5]; exact (e6 _ _ _).trans (hend _ _ _ _ hA')
  · right; intro k; rw [e5]; exact (e6 _ _ _).trans (hend _ _ _ _ hA')
  · right; intro k; rw [e5]; exact e6 _ _ _
theorem regionUS {N : Nat} (ops : Array Oper) : ∀ (l : List Oper), ∀ o ∈ (region P N ops l).ops, US P o
  | [], _, h => by cases h
  | x :: t, o, h => by
    have hbad : US P badO := fun call _ fr h => .inl fun k => badO_bad call fr h k
    cases hd : dstOf N x.dst with
    | none =>
      have e0 : region P N ops (x :: t) = .op .no .no badO .nil := by rw [region]; rw [hd]
      rw [e0] at h
      rcases List.mem_cons.1 h with rfl | h
      · exact hbad
      · cases h
    | some d =>
      cases hg : guardOf N ops x.guard with
      | none =>
        have e0 : region P N ops (x :: t) = .op .no .no badO .nil := by rw [region]; rw [hd, hg]
        rw [e0] at h
        rcases List.mem_cons.1 h with rfl | h
        · exact hbad
        · cases h
      | some g =>
        have e0 : region P N ops (x :: t) = .op d g ((compOp P N x.op).getD badO) (region P N ops t) := by rw [region]; rw [hd, hg]
        rw [e0] at h
        rcases List.mem_cons.1 h with rfl | h
        · intro call hC fr h
          rcases oper_gives (N := N) hC x fr h with hb | ⟨_, hb | ⟨v, h1, e, _⟩⟩
          · exact .inl hb
          · exact .inl hb
          · exact .inr ⟨v, h1, e⟩
        · exact regionUS ops t o h
theorem opOfUS {N : Nat} (x : Oper) : US P (opOf P N x) := by
  intro call hC fr h
  rcases oper_gives (N := N) hC x fr h with hb | ⟨_, hb | ⟨v, h1, e, _⟩⟩
  · exact .inl hb
  · exact .inl hb
  · exact .inr ⟨v, h1, e⟩
theorem dopsUS {N : Nat} (ops : Array Oper) (b : Array Nat) : ∀ (l es : List Nat), ∀ o ∈ (dops P N ops b l es).ops, US P o
  | [], _, _, h => by cases h
  | i :: t, es, o, h => by
    have hbad : US P badO := fun call _ fr h => .inl fun k => badO_bad call fr h k
    have hone : ∀ o ∈ (L.op .no .no badO .nil).ops, US P o := fun o h => by
      rcases List.mem_cons.1 h with rfl | h
      · exact hbad
      · cases h
    rw [dops] at h
    split at h
    · exact hone o h
    · split at h
      · dsimp only at h
        split at h <;> rcases List.mem_cons.1 h with rfl | h <;> first | exact opOfUS _ | exact dopsUS ops b t _ o h
      · exact hone o h
theorem codeUS {N : Nat} : ∀ c : Code, (code P N c).US P
  | .region _ ops false => regionUS ops ops.toList
  | .region _ ops true => by
    show ∀ o ∈ (dregion P N ops).ops, US P o
    unfold dregion
    dsimp only
    split
    · exact dopsUS ops _ _ _
    · intro o h
      rcases List.mem_cons.1 h with rfl | h
      · exact fun call _ fr h => .inl fun k => badO_bad call fr h k
      · cases h
  | .seq a b => ⟨codeUS a, codeUS b⟩
  | .cond c a b => by
    show C.US P (match opd N c with | some x => .cond x (code P N a) (code P N b) | none => .no 33)
    split
    · exact ⟨codeUS a, codeUS b⟩
    · trivial
  | .block _ b => codeUS b
  | .loop b => codeUS b
  | .scope b => codeUS b
  | .skip | .exit _ | .label _ | .ret | .goto _ | .refuse _ => trivial
  | .rangeFunc f ps a b => by
    show C.US P (match opd N f with | some x => if ps.all (· < N) then .rangeF x (ps.toList.map pathOf) (tag N (code P N a)) (code P N b) else .no 31 | none => .no 31)
    split
    · split <;> trivial
    · trivial
theorem fast_good {f : FuncId} {func : Func} {s : Go.Ai.Call → List AV → H → Kont → Res} (hr : RepOk rep) (hDr : DrawnGood P) (hlt : f < 8191) (hf : P.funcs[f]? = some func) (hn : (func.name == "runtime.NumGoroutine") = false) (hs : (fn P func).map (fastF rep S) = some s) : IntrGood P (pathOf f) s := by
  simp only [Option.map_eq_some_iff] at hs
  obtain ⟨q, hq, rfl⟩ := hs
  intro call hC args h
  have hU : q.body.US P := by
    obtain ⟨b, res, hb, hq'⟩ := fn_some hq
    rw [hq'.2.2.2]
    exact codeUS b
  rcases fastF_ok (S := S) hr hC q hU args h with hb | e
  · exact .inl hb
  · have := go_good hDr hlt hf hn (s := enter q) (by rw [hq]; rfl) call hC args h
    rcases this with hb | ⟨v, h1, e1, ok⟩
    · exact .inl fun k => by rw [e k]; exact hb k
    · exact .inr ⟨v, h1, fun k => by rw [e k]; exact e1 k, ok⟩
theorem leaf8 : ∀ i, i < 8 → ∀ (v : AV) (x : F8), ∃ x', (∀ k, set8 i v x k = k x') ∧ get8 i x' = v ∧ ∀ j, j < 8 → j ≠ i → get8 j x' = get8 j x := by
  intro i hi v x
  match i, hi with
  | 0, _ | 1, _ | 2, _ | 3, _ | 4, _ | 5, _ | 6, _ | 7, _ =>
    refine ⟨_, fun k => rfl, rfl, fun j hj hne => ?_⟩
    match j, hj with
    | 0, _ | 1, _ | 2, _ | 3, _ | 4, _ | 5, _ | 6, _ | 7, _ => first | rfl | exact absurd rfl hne
theorem rep8_ok : RepOk rep8 := ⟨by decide, fun i hi => by
  match i, hi with
  | 0, _ | 1, _ | 2, _ | 3, _ | 4, _ | 5, _ | 6, _ | 7, _ => rfl, leaf8⟩
theorem up8 {α : Type} (d : α) {s : AV → α → (α → Res) → Res} {v : AV} : ∀ i, i < 8 → ∀ (x : O8 α) (y : α), (∀ k, s v (oc d i x) k = k y) → ∃ x', (∀ k, upn i s v x k = k x') ∧ oc d i x' = y ∧ ∀ j, j < 8 → j ≠ i → oc d j x' = oc d j x := by
  intro i hi x y h
  match i, hi with
  | 0, _ => exact ⟨⟨y, x.b, x.c, x.d, x.e, x.f, x.g, x.h⟩, fun k => h _, rfl, fun j hj hne => by match j, hj with | 0, _ | 1, _ | 2, _ | 3, _ | 4, _ | 5, _ | 6, _ | 7, _ => first | rfl | exact absurd rfl hne⟩
  | 1, _ => exact ⟨⟨x.a, y, x.c, x.d, x.e, x.f, x.g, x.h⟩, fun k => h _, rfl, fun j hj hne => by match j, hj with | 0, _ | 1, _ | 2, _ | 3, _ | 4, _ | 5, _ | 6, _ | 7, _ => first | rfl | exact absurd rfl hne⟩
  | 2, _ => exact ⟨⟨x.a, x.b, y, x.d, x.e, x.f, x.g, x.h⟩, fun k => h _, rfl, fun j hj hne => by match j, hj with | 0, _ | 1, _ | 2, _ | 3, _ | 4, _ | 5, _ | 6, _ | 7, _ => first | rfl | exact absurd rfl hne⟩
  | 3, _ => exact ⟨⟨x.a, x.b, x.c, y, x.e, x.f, x.g, x.h⟩, fun k => h _, rfl, fun j hj hne => by match j, hj with | 0, _ | 1, _ | 2, _ | 3, _ | 4, _ | 5, _ | 6, _ | 7, _ => first | rfl | exact absurd rfl hne⟩
  | 4, _ => exact ⟨⟨x.a, x.b, x.c, x.d, y, x.f, x.g, x.h⟩, fun k => h _, rfl, fun j hj hne => by match j, hj with | 0, _ | 1, _ | 2, _ | 3, _ | 4, _ | 5, _ | 6, _ | 7, _ => first | rfl | exact absurd rfl hne⟩
  | 5, _ => exact ⟨⟨x.a, x.b, x.c, x.d, x.e, y, x.g, x.h⟩, fun k => h _, rfl, fun j hj hne => by match j, hj with | 0, _ | 1, _ | 2, _ | 3, _ | 4, _ | 5, _ | 6, _ | 7, _ => first | rfl | exact absurd rfl hne⟩
  | 6, _ => exact ⟨⟨x.a, x.b, x.c, x.d, x.e, x.f, y, x.h⟩, fun k => h _, rfl, fun j hj hne => by match j, hj with | 0, _ | 1, _ | 2, _ | 3, _ | 4, _ | 5, _ | 6, _ | 7, _ => first | rfl | exact absurd rfl hne⟩
  | 7, _ => exact ⟨⟨x.a, x.b, x.c, x.d, x.e, x.f, x.g, y⟩, fun k => h _, rfl, fun j hj hne => by match j, hj with | 0, _ | 1, _ | 2, _ | 3, _ | 4, _ | 5, _ | 6, _ | 7, _ => first | rfl | exact absurd rfl hne⟩
theorem slots64 (i : Nat) (hi : i < 64) (v : AV) (x : F64) : ∃ x', (∀ k, set64 i v x k = k x') ∧ get64 i x' = v ∧ ∀ j, j < 64 → j ≠ i → get64 j x' = get64 j x := by
  obtain ⟨y, h1, h2, h3⟩ := leaf8 (Nat.mod i 8) (Nat.mod_lt i (by decide)) v (oc i8 (Nat.div i 8) x)
  obtain ⟨x', h4, h5, h6⟩ := up8 i8 (s := set8 (Nat.mod i 8)) (v := v) (Nat.div i 8) (show i / 8 < 8 by omega) x y h1
  refine ⟨x', h4, ?_, fun j hj hne => ?_⟩
  · show get8 (Nat.mod i 8) (oc i8 (Nat.div i 8) x') = v
    rw [h5, h2]
  · show get8 (Nat.mod j 8) (oc i8 (Nat.div j 8) x') = get8 (Nat.mod j 8) (oc i8 (Nat.div j 8) x)
    by_cases e : Nat.div j 8 = Nat.div i 8
    · rw [e, h5]
      refine h3 _ (Nat.mod_lt j (by decide)) fun e2 => hne ?_
      have e' : j / 8 = i / 8 := e
      have e2' : j % 8 = i % 8 := e2
      omega
    · rw [h6 (Nat.div j 8) (show j / 8 < 8 by omega) e]
theorem rep64_ok : RepOk rep64 := ⟨by decide, fun i hi => by
  have h1 : i / 8 < 8 := by have : i < 64 := hi; omega
  have h2 : i % 8 < 8 := Nat.mod_lt i (by decide)
  show get8 (i % 8) (oc i8 (i / 8) i64) = .undef
  have h3 : ∀ q, q < 8 → oc i8 q i64 = i8 := fun q hq => by match q, hq with | 0, _ | 1, _ | 2, _ | 3, _ | 4, _ | 5, _ | 6, _ | 7, _ => rfl
  rw [h3 _ h1]
  exact rep8_ok.init _ h2, slots64⟩
theorem rep128_ok : RepOk rep128 := ⟨by decide, fun i hi => by
  show Bool.rec (motive := fun _ => AV) (get64 (Nat.sub i 64) i64) (get64 i i64) (Nat.blt i 64) = .undef
  by_cases h : i < 64
  · rw [blt_dec, decide_eq_true h]; exact rep64_ok.init i h
  · rw [blt_dec, decide_eq_false h]; exact rep64_ok.init (i - 64) (by have : i < 128 := hi; show i - 64 < 64; omega), fun i hi v x => by
  have hi' : i < 128 := hi
  have e0 : ∀ j y, rep128.get j y = Bool.rec (motive := fun _ => AV) (get64 (Nat.sub j 64) y.r) (get64 j y.l) (Nat.blt j 64) := fun _ _ => rfl
  have e1 : ∀ k, rep128.set i v x k = (Bool.rec (motive := fun _ => AV → F128 → (F128 → Res) → Res) (upr (set64 (Nat.sub i 64))) (upl (set64 i)) (Nat.blt i 64)) v x k := fun _ => rfl
  simp only [e0, e1]
  by_cases h : i < 64
  · obtain ⟨y, h1, h2, h3⟩ := slots64 i h v x.l
    rw [blt_dec, decide_eq_true h]
    refine ⟨⟨y, x.r⟩, fun k => h1 _, h2, fun j hj hne => ?_⟩
    by_cases h' : j < 64
    · rw [blt_dec, decide_eq_true h']; exact h3 j h' hne
    · rw [blt_dec, decide_eq_false h']
  · obtain ⟨y, h1, h2, h3⟩ := slots64 (i - 64) (by omega) v x.r
    rw [blt_dec, decide_eq_false h]
    refine ⟨⟨x.l, y⟩, fun k => h1 _, h2, fun j hj hne => ?_⟩
    have hj' : j < 128 := hj
    by_cases h' : j < 64
    · rw [blt_dec, decide_eq_true h']
    · rw [blt_dec, decide_eq_false h']; exact h3 (j - 64) (by omega) (by omega)⟩
end Go.Ai
set_option autoImplicit false
namespace Go.Ai
set_option linter.unusedSectionVars false
variable [Nu]
open Go
variable {P : Program}

noncomputable section
abbrev KL := Call → FT → H → List H → (FT → H → Res) → Res
def kl_op (d : D) (g : G) (o : O) (_ : L) (ih : KL) : KL := fun call fr h hs kn => g.on' fr (o.stepY (fun x => x.ev fr) call h fun v h => ih call (d.put v fr) h hs kn) (ih call (d.put .undef fr) h hs kn)
def kl_dop (d : D) (g : G) (o : O) (back : Nat) (eff al : Bool) (_ : L) (ih : KL) : KL := fun call fr h hs kn =>
  g.on' fr (o.stepY (fun x => x.ev fr) call h fun v h' => againY (fun h k => o.stepY (fun x => x.ev fr) call h k) v (freshK al h (ih call (d.put v fr) h' (Bool.rec (motive := fun _ => List H) hs (h :: hs) eff) kn) hs) back hs) (ih call (d.put .undef fr) h (Bool.rec (motive := fun _ => List H) hs (h :: hs) eff) kn)
def L.runK (l : L) : KL := L.rec (motive := fun _ => KL) (fun _ fr h _ kn => kn fr h) kl_op kl_dop l
def endLoopK (o : Path) (fr : FT) (h : H) (kr : FT → H → Res) (ke : Nat → FT → H → Res) (kn : FT → H → Res) : Res :=
  H.rec (motive := fun _ => Res) (fun t n => hgetK o t fun b => Obj.rec (motive := fun _ => Res) (.bad 40) (fun _ _ => .bad 40) (fun _ _ => .bad 40) (.bad 40) (fun st pd f ps a c => must 12 (Nat.blt st 4) (Bool.rec (motive := fun _ => Res) (hsetK (.loop 3 pd f ps a c) o t fun t => Jump.rec (motive := fun _ => Res) (kn fr (.mk t n)) (kr fr (.mk t n)) (fun id => ke id fr (.mk t n)) pd) (.bad 41) (Nat.beq st 1))) b) h
def k_range (f : Opd) (ps : List Path) (a b : C) : CT FT := fun call kr ke kn fr h =>
  newObjK (.loop 0 .no fr ps a b) h fun o h => (f.ev fr).onFnY (fun g x c => must 12 (Nat.blt g 8191) (call (pathOf g) (lapp x (.yld o :: c)) h fun _ h => endLoopK o fr h kr ke kn)) (fun _ => .bad 42)
def C.runK (c : C) : CT FT := C.rec (motive := fun _ => CT FT) kS (fun l => kR fun call fr h kn => l.runK call fr h [] kn) (fun _ _ => kQ) (fun c _ _ => kI fun fr => c.ev fr) (fun id _ => kB id) (fun _ => kL) kX kT k_no (fun f ps a b _ _ => k_range f ps a b) c
def endK (res : List RV) (k : Kont) (fr : FT) (h : H) : Res := rvs res fr h fun vs => forceL vs fun vs => k (one vs) h
def enterK (fn : Fn) : Call → List AV → H → Kont → Res := Fn.rec (motive := fun _ => Call → List AV → H → Kont → Res) (fun ps body res call args h k => setArgs ps args .leaf fun fr => body.runK call (endK res k) (fun _ _ _ => .bad 25) (endK res k) fr h) fn
def endRoundK (o : Path) (j : Jump) (h : H) (k : Kont) : Res :=
  H.rec (motive := fun _ => Res) (fun t n => hgetK o t fun x => Obj.rec (motive := fun _ => Res) (.bad 43) (fun _ _ => .bad 43) (fun _ _ => .bad 43) (.bad 43) (fun st _ f ps a b =>
    must 12 (Nat.blt st 4) (Jump.rec (motive := fun _ => Res) (hsetK (.loop 0 .no f ps a b) o t fun t => k (.bool true) (.mk t n)) (hsetK (.loop 2 .ret f ps a b) o t fun t => k (.bool false) (.mk t n)) (fun id => hsetK (.loop 2 (.exit id) f ps a b) o t fun t => k (.bool false) (.mk t n)) j)) x) h
def beginRoundK (o : Path) (h : H) (k : H → Res) : Res :=
  H.rec (motive := fun _ => Res) (fun t n => hgetK o t fun x => Obj.rec (motive := fun _ => Res) (.bad 44) (fun _ _ => .bad 44) (fun _ _ => .bad 44) (.bad 44) (fun st pd f ps a b => must 12 (Nat.beq st 0) (hsetK (.loop 1 pd f ps a b) o t fun t => k (.mk t n))) x) h
def roundK (call : Call) (args : List AV) (h : H) (k : Kont) : Res :=
  List.rec (motive := fun _ => Res) (.bad 46) (fun y vs _ => y.onFnY (fun _ _ _ => .bad 46) fun o => H.rec (motive := fun _ => Res) (fun t _ => hgetK o t fun x => Obj.rec (motive := fun _ => Res) (.bad 47) (fun _ _ => .bad 47) (fun _ _ => .bad 47) (.bad 47) (fun st _ f ps a b =>
    must 12 (Nat.blt st 4) (setArgs ps vs f fun fr => a.runK call (fun _ _ => .bad 48) (fun _ _ _ => .bad 48) (fun fr h => beginRoundK o h fun h => b.runK call (fun _ h => endRoundK o .ret h k) (fun id _ h => endRoundK o (.exit id) h k) (fun _ h => endRoundK o .no h k) fr h) fr h)) x) h) args
end
theorem endLoopK_eq (o : Path) (fr : FT) (h : H) : (∀ kr ke kn, Bad (endLoopK o fr h kr ke kn)) ∨ ∃ h', (endLoop o fr h = .nrm fr h' ∧ ∀ kr ke kn, endLoopK o fr h kr ke kn = kn fr h') ∨ (endLoop o fr h = .ret fr h' ∧ ∀ kr ke kn, endLoopK o fr h kr ke kn = kr fr h') ∨ ∃ id, endLoop o fr h = .ext id fr h' ∧ ∀ kr ke kn, endLoopK o fr h kr ke kn = ke id fr h' := by
  cases h with
  | mk t n =>
    have e0 : endLoop o fr (.mk t n) = Obj.rec (motive := fun _ => Res) (.bad 40) (fun _ _ => .bad 40) (fun _ _ => .bad 40) (.bad 40) (fun st pd f ps a b => must 12 (Nat.blt st 4) (Bool.rec (motive := fun _ => Res) (Jump.rec (motive := fun _ => Res) (.nrm fr (.mk (hset (.loop 3 pd f ps a b) o t) n)) (.ret fr (.mk (hset (.loop 3 pd f ps a b) o t) n)) (fun id => .ext id fr (.mk (hset (.loop 3 pd f ps a b) o t) n)) pd) (.bad 41) (Nat.beq st 1))) (hget o t) := rfl
    have e1 : ∀ kr ke kn, endLoopK o fr (.mk t n) kr ke kn = Obj.rec (motive := fun _ => Res) (.bad 40) (fun _ _ => .bad 40) (fun _ _ => .bad 40) (.bad 40) (fun st pd f ps a c => must 12 (Nat.blt st 4) (Bool.rec (motive := fun _ => Res) (Jump.rec (motive := fun _ => Res) (kn fr (.mk (hset (.loop 3 pd f ps a c) o t) n)) (kr fr (.mk (hset (.loop 3 pd f ps a c) o t) n)) (fun id => ke id fr (.mk (hset (.loop 3 pd f ps a c) o t) n)) pd) (.bad 41) (Nat.beq st 1))) (hget o t) := fun kr ke kn => by
      show hgetK o t _ = _
      simp only [hgetK_eq, hsetK_eq]
    simp only [e0, e1]
    cases hget o t with
    | loop st pd f ps a b =>
      dsimp only
      rcases must_w 12 (Nat.blt st 4) with hb | ⟨_, e2⟩
      · exact .inl fun _ _ _ => hb _
      simp only [e2]
      cases Nat.beq st 1 with
      | true => exact .inl fun _ _ _ => ⟨_, rfl⟩
      | false =>
        cases pd with
        | no => exact .inr ⟨_, .inl ⟨rfl, fun _ _ _ => rfl⟩⟩
        | ret => exact .inr ⟨_, .inr (.inl ⟨rfl, fun _ _ _ => rfl⟩)⟩
        | exit id => exact .inr ⟨_, .inr (.inr ⟨id, rfl, fun _ _ _ => rfl⟩)⟩
    | _ => exact .inl fun _ _ _ => ⟨_, rfl⟩
theorem runK_ok {call : Go.Ai.Call} (hC : CallGood P call) : ∀ (l : L), (∀ o ∈ l.ops, US P o) → ∀ (fr : FT) (h : H) (hs : List H),
    (∀ kn, Bad (l.runK call fr h hs kn)) ∨ ∃ fr' h', l.run call fr h hs = .nrm fr' h' ∧ ∀ kn, l.runK call fr h hs kn = kn fr' h' := by
  intro l
  induction l with
  | nil => exact fun _ fr h hs => .inr ⟨fr, h, rfl, fun _ => rfl⟩
  | op d g o rest ih =>
    intro hU fr h hs
    have hUo : ∀ fr h, Uni (o.step call fr h) := hU o List.mem_cons_self call hC
    have ih := ih fun o ho => hU o (List.mem_cons_of_mem _ ho)
    have e0 : ∀ kn, (L.op d g o rest).runK call fr h hs kn = g.on' fr (o.stepY (fun x => x.ev fr) call h fun v h => rest.runK call (d.put v fr) h hs kn) (rest.runK call (d.put .undef fr) h hs kn) := fun _ => rfl
    simp only [e0, step_eq, op_run]
    rcases onG_w g fr with hb | ⟨t, e3⟩
    · exact .inl fun _ => hb _ _
    simp only [e3]
    cases t with
    | true =>
      simp only [ifC_true]
      rcases hUo fr h with hb | ⟨v, h1, e4⟩
      · exact .inl fun _ => hb _
      simp only [e4]
      exact ih _ h1 hs
    | false =>
      simp only [ifC_false]
      exact ih _ h hs
  | dop d g o back eff al rest ih =>
    intro hU fr h hs
    have hUo : ∀ fr h, Uni (o.step call fr h) := hU o List.mem_cons_self call hC
    have ih := ih fun o ho => hU o (List.mem_cons_of_mem _ ho)
    have e0 : ∀ kn, (L.dop d g o back eff al rest).runK call fr h hs kn = g.on' fr (o.stepY (fun x => x.ev fr) call h fun v h' => againY (fun h k => o.stepY (fun x => x.ev fr) call h k) v (freshK al h (rest.runK call (d.put v fr) h' (Bool.rec (motive := fun _ => List H) hs (h :: hs) eff) kn) hs) back hs) (rest.runK call (d.put .undef fr) h (Bool.rec (motive := fun _ => List H) hs (h :: hs) eff) kn) := fun _ => rfl
    simp only [e0, step_eq, freshK_eq, againY_eq (s := fun h k => o.step call fr h k) (o := o) (call := call) (fr := fr) fun _ _ => rfl, dop_run]
    rcases onG_w g fr with hb | ⟨t, e3⟩
    · exact .inl fun _ => hb _ _
    simp only [e3]
    cases t with
    | true =>
      simp only [ifC_true]
      rcases hUo fr h with hb | ⟨v, h1, e4⟩
      · exact .inl fun _ => hb _
      simp only [e4]
      rcases againF_w hUo fr v back hs with hb | e6
      · exact .inl fun _ => hb _
      simp only [e6]
      rcases freshF_w al h hs with hb | e7
      · exact .inl fun _ => hb _
      simp only [e7]
      exact ih _ h1 _
    | false =>
      simp only [ifC_false]
      exact ih _ h _
def SimK (run : Res) (F : (FT → H → Res) → (Nat → FT → H → Res) → (FT → H → Res) → Res) : Prop :=
  (∀ kr ke kn, Bad (F kr ke kn)) ∨ ∃ fr' h', (run = .nrm fr' h' ∧ ∀ kr ke kn, F kr ke kn = kn fr' h') ∨ (run = .ret fr' h' ∧ ∀ kr ke kn, F kr ke kn = kr fr' h') ∨ ∃ id, run = .ext id fr' h' ∧ ∀ kr ke kn, F kr ke kn = ke id fr' h'
theorem roundsK_sim {call : Go.Ai.Call} {b : C} (ih : ∀ fr h, SimK (b.run call fr h) fun kr ke kn => b.runK call kr ke kn fr h) : ∀ (n : Nat) (fr : FT) (h : H),
    SimK (rounds (b.run call) n fr h) fun kr ke kn => roundsK (fun kn fr h => b.runK call kr ke kn fr h) n kn fr h
  | 0, fr, h => ih fr h
  | n + 1, fr, h => by
    have e0 : rounds (b.run call) (n + 1) fr h = Res.rec (motive := fun _ => Res) (rounds (b.run call) n) .ext .ret .fin .bad (rounds (b.run call) n fr h) := rfl
    have e1 : ∀ kr ke kn, roundsK (fun kn fr h => b.runK call kr ke kn fr h) (n + 1) kn fr h = roundsK (fun kn fr h => b.runK call kr ke kn fr h) n (roundsK (fun kn fr h => b.runK call kr ke kn fr h) n kn) fr h := fun _ _ _ => rfl
    simp only [e0, e1]
    rcases roundsK_sim ih n fr h with hb | ⟨fr', h', ⟨e2, e3⟩ | ⟨e2, e3⟩ | ⟨id, e2, e3⟩⟩
    · exact .inl fun kr ke kn => hb kr ke _
    · simp only [e2, e3]
      exact roundsK_sim ih n fr' h'
    · simp only [e2, e3]
      exact .inr ⟨fr', h', .inr (.inl ⟨rfl, fun _ _ _ => rfl⟩)⟩
    · simp only [e2, e3]
      exact .inr ⟨fr', h', .inr (.inr ⟨id, rfl, fun _ _ _ => rfl⟩)⟩
theorem codeK_ok {call : Go.Ai.Call} (hC : CallGood P call) : ∀ (c : C), c.US P → ∀ (fr : FT) (h : H), SimK (c.run call fr h) fun kr ke kn => c.runK call kr ke kn fr h := by
  intro c
  induction c with
  | skip => exact fun _ fr h => .inr ⟨fr, h, .inl ⟨rfl, fun _ _ _ => rfl⟩⟩
  | reg l =>
    intro hU fr h
    rcases runK_ok hC l hU fr h [] with hb | ⟨fr', h', e1, e2⟩
    · exact .inl fun _ _ kn => hb kn
    · exact .inr ⟨fr', h', .inl ⟨e1, fun _ _ kn => e2 kn⟩⟩
  | seq a b iha ihb =>
    intro hU fr h
    have e0 : (C.seq a b).run call fr h = Res.rec (motive := fun _ => Res) (b.run call) .ext .ret .fin .bad (a.run call fr h) := rfl
    have e1 : ∀ kr ke kn, (C.seq a b).runK call kr ke kn fr h = a.runK call kr ke (b.runK call kr ke kn) fr h := fun _ _ _ => rfl
    simp only [e0, e1]
    rcases iha hU.1 fr h with hb | ⟨fr', h', ⟨e2, e3⟩ | ⟨e2, e3⟩ | ⟨id, e2, e3⟩⟩
    · exact .inl fun kr ke kn => hb kr ke _
    · simp only [e2, e3]
      exact ihb hU.2 fr' h'
    · simp only [e2, e3]
      exact .inr ⟨fr', h', .inr (.inl ⟨rfl, fun _ _ _ => rfl⟩)⟩
    · simp only [e2, e3]
      exact .inr ⟨fr', h', .inr (.inr ⟨id, rfl, fun _ _ _ => rfl⟩)⟩
  | cond c a b iha ihb =>
    intro hU fr h
    have e0 : (C.cond c a b).run call fr h = (c.ev fr).onBool fun t => Bool.rec (motive := fun _ => Res) (b.run call fr h) (a.run call fr h) t := rfl
    have e1 : ∀ kr ke kn, (C.cond c a b).runK call kr ke kn fr h = (c.ev fr).onBool fun t => Bool.rec (motive := fun _ => Res) (b.runK call kr ke kn fr h) (a.runK call kr ke kn fr h) t := fun _ _ _ => rfl
    simp only [e0, e1]
    rcases onBool_w (c.ev fr) with hb | ⟨t, e3⟩
    · exact .inl fun _ _ _ => hb _
    simp only [e3]
    cases t with
    | true => exact iha hU.1 fr h
    | false => exact ihb hU.2 fr h
  | block id b ih =>
    intro hU fr h
    have e0 : (C.block id b).run call fr h = Res.rec (motive := fun _ => Res) .nrm (fun j fr h => ifC (Nat.beq j id) (.nrm fr h) (.ext j fr h)) .ret .fin .bad (b.run call fr h) := rfl
    have e1 : ∀ kr ke kn, (C.block id b).runK call kr ke kn fr h = b.runK call kr (fun j => Bool.rec (motive := fun _ => FT → H → Res) (ke j) kn (Nat.beq j id)) kn fr h := fun _ _ _ => rfl
    simp only [e0, e1]
    rcases ih hU fr h with hb | ⟨fr', h', ⟨e2, e3⟩ | ⟨e2, e3⟩ | ⟨j, e2, e3⟩⟩
    · exact .inl fun kr ke kn => hb kr _ kn
    · simp only [e2, e3]
      exact .inr ⟨fr', h', .inl ⟨rfl, fun _ _ _ => rfl⟩⟩
    · simp only [e2, e3]
      exact .inr ⟨fr', h', .inr (.inl ⟨rfl, fun _ _ _ => rfl⟩)⟩
    · simp only [e2, e3]
      cases Nat.beq j id with
      | true => exact .inr ⟨fr', h', .inl ⟨rfl, fun _ _ _ => rfl⟩⟩
      | false => exact .inr ⟨fr', h', .inr (.inr ⟨j, rfl, fun _ _ _ => rfl⟩)⟩
  | loop b ih =>
    intro hU fr h
    have e0 : (C.loop b).run call fr h = Res.rec (motive := fun _ => Res) (fun _ _ => .bad 23) .ext .ret .fin .bad (rounds (b.run call) 30 fr h) := rfl
    have e1 : ∀ kr ke kn, (C.loop b).runK call kr ke kn fr h = roundsK (fun kn fr h => b.runK call kr ke kn fr h) 30 (fun _ _ => .bad 23) fr h := fun _ _ _ => rfl
    simp only [e0, e1]
    rcases roundsK_sim (ih hU) 30 fr h with hb | ⟨fr', h', ⟨e2, e3⟩ | ⟨e2, e3⟩ | ⟨id, e2, e3⟩⟩
    · exact .inl fun kr ke kn => hb kr ke _
    · simp only [e3]
      exact .inl fun _ _ _ => ⟨_, rfl⟩
    · simp only [e2, e3]
      exact .inr ⟨fr', h', .inr (.inl ⟨rfl, fun _ _ _ => rfl⟩)⟩
    · simp only [e2, e3]
      exact .inr ⟨fr', h', .inr (.inr ⟨id, rfl, fun _ _ _ => rfl⟩)⟩
  | exit id => exact fun _ fr h => .inr ⟨fr, h, .inr (.inr ⟨id, rfl, fun _ _ _ => rfl⟩)⟩
  | ret => exact fun _ fr h => .inr ⟨fr, h, .inr (.inl ⟨rfl, fun _ _ _ => rfl⟩)⟩
  | no w => exact fun _ fr h => .inl fun _ _ _ => ⟨_, rfl⟩
  | rangeF f ps a b _ _ =>
    intro _ fr h
    have e0 : (C.rangeF f ps a b).run call fr h = newObj (.loop 0 .no fr ps a b) h fun o h => (f.ev fr).onFnY (fun g x c => must 12 (Nat.blt g 8191) (call (pathOf g) (lapp x (.yld o :: c)) h fun _ h => endLoop o fr h)) (fun _ => .bad 42) := rfl
    have e1 : ∀ kr ke kn, (C.rangeF f ps a b).runK call kr ke kn fr h = newObj (.loop 0 .no fr ps a b) h fun o h => (f.ev fr).onFnY (fun g x c => must 12 (Nat.blt g 8191) (call (pathOf g) (lapp x (.yld o :: c)) h fun _ h => endLoopK o fr h kr ke kn)) (fun _ => .bad 42) := fun kr ke kn => newObjK_eq (.loop 0 .no fr ps a b) h fun o h => (f.ev fr).onFnY (fun g x c => must 12 (Nat.blt g 8191) (call (pathOf g) (lapp x (.yld o :: c)) h fun _ h => endLoopK o fr h kr ke kn)) (fun _ => .bad 42)
    simp only [e0, e1]
    rcases newObj_w (.loop 0 .no fr ps a b) h with hb | ⟨o, h1, _, _, e2⟩
    · exact .inl fun _ _ _ => hb _
    simp only [e2]
    rcases onFnY_w (f.ev fr) with hb | ⟨g, x, cc, e3⟩ | ⟨q, e3⟩
    · exact .inl fun _ _ _ => hb _ _
    · simp only [e3]
      show SimK (must 12 (Nat.blt g 8191) (call (pathOf g) (lapp x (.yld o :: cc)) h1 fun _ h => endLoop o fr h)) fun kr ke kn => must 12 (Nat.blt g 8191) (call (pathOf g) (lapp x (.yld o :: cc)) h1 fun _ h => endLoopK o fr h kr ke kn)
      rcases must_w 12 (Nat.blt g 8191) with hb | ⟨_, e4⟩
      · exact .inl fun _ _ _ => hb _
      simp only [e4]
      rcases hC (pathOf g) (lapp x (.yld o :: cc)) h1 with hb | ⟨v, h2, e5, _⟩
      · exact .inl fun _ _ _ => hb _
      simp only [e5]
      rcases endLoopK_eq o fr h2 with hb | ⟨h', hw⟩
      · exact .inl hb
      · exact .inr ⟨fr, h', hw⟩
    · simp only [e3]
      exact .inl fun _ _ _ => ⟨_, rfl⟩
theorem enterK_ok {call : Go.Ai.Call} (hC : CallGood P call) (fn : Fn) (hU : fn.body.US P) (args : List AV) (h : H) : (∀ k, Bad (enterK fn call args h k)) ∨ ∀ k, enterK fn call args h k = enter fn call args h k := by
  obtain ⟨ps, body, res⟩ := fn
  have e0 : ∀ k, enterK ⟨ps, body, res⟩ call args h k = setArgs ps args .leaf fun fr => body.runK call (endK res k) (fun _ _ _ => .bad 25) (endK res k) fr h := fun _ => rfl
  have e1 : ∀ k, enter ⟨ps, body, res⟩ call args h k = setArgs ps args .leaf fun fr => Res.rec (motive := fun _ => Res) (fun fr h => rvs res fr h fun vs => k (one vs) h) (fun _ _ _ => .bad 25) (fun fr h => rvs res fr h fun vs => k (one vs) h) (fun _ _ => .bad 26) .bad (body.run call fr h) := fun _ => rfl
  simp only [e0, e1]
  rcases setArgs_w ps args .leaf with hb | ⟨fr, e3⟩
  · exact .inl fun _ => hb _
  simp only [e3]
  have hend : ∀ fr' h' k, endK res k fr' h' = rvs res fr' h' fun vs => k (one vs) h' := fun fr' h' k => by
    unfold endK
    simp only [forceL_eq]
  rcases codeK_ok hC body hU fr h with hb | ⟨fr', h', ⟨e5, e6⟩ | ⟨e5, e6⟩ | ⟨id, e5, e6⟩⟩
  · exact .inl fun _ => hb _ _ _
  · right; intro k; rw [e5]; exact (e6 _ _ _).trans (hend _ _ _)
  · right; intro k; rw [e5]; exact (e6 _ _ _).trans (hend _ _ _)
  · right; intro k; rw [e5]; exact e6 _ _ _
theorem slow_good {f : FuncId} {func : Func} {s : Go.Ai.Call → List AV → H → Kont → Res} (hDr : DrawnGood P) (hlt : f < 8191) (hf : P.funcs[f]? = some func) (hn : (func.name == "runtime.NumGoroutine") = false) (hs : (fn P func).map enterK = some s) : IntrGood P (pathOf f) s := by
  simp only [Option.map_eq_some_iff] at hs
  obtain ⟨q, hq, rfl⟩ := hs
  intro call hC args h
  have hU : q.body.US P := by
    obtain ⟨b, res, hb, hq'⟩ := fn_some hq
    rw [hq'.2.2.2]
    exact codeUS b
  rcases enterK_ok hC q hU args h with hb | e
  · exact .inl hb
  · rcases go_good hDr hlt hf hn (s := enter q) (by rw [hq]; rfl) call hC args h with hb | ⟨v, h1, e1, ok⟩
    · exact .inl fun k => by rw [e k]; exact hb k
    · exact .inr ⟨v, h1, fun k => by rw [e k]; exact e1 k, ok⟩
end Go.Ai
set_option autoImplicit false
set_option linter.unusedSimpArgs false
namespace Go.Ai
set_option linter.unusedSectionVars false
variable [Nu]
open Go
variable {P : Program}

theorem Uni.k (v : AV) (h : H) : Uni fun k => k v h := .inr ⟨v, h, fun _ => rfl⟩
theorem Uni.bad (n : Nat) : Uni fun _ => .bad n := .inl fun _ => ⟨n, rfl⟩
theorem Uni.onInt (v : AV) {F : IntKind → Int → Kont → Res} (h : ∀ a b, Uni (F a b)) : Uni fun k => v.onInt fun a b => F a b k := by
  rcases onInt_w v with hb | ⟨a, b, rfl⟩
  · exact .inl fun _ => hb _
  · exact h a b
theorem Uni.onIntU (v : AV) {F : IntKind → Int → Kont → Res} {G : Nat → Kont → Res} (h : ∀ a b, Uni (F a b)) (h' : ∀ c, Uni (G c)) : Uni fun k => v.onIntU (fun a b => F a b k) fun c => G c k := by
  rcases onIntU_w v with hb | ⟨a, b, rfl⟩ | ⟨c, rfl⟩
  · exact .inl fun _ => hb _ _
  · exact h a b
  · exact h' c
theorem Uni.onBool (v : AV) {F : Bool → Kont → Res} (h : ∀ a, Uni (F a)) : Uni fun k => v.onBool fun a => F a k := by
  rcases onBool_w v with hb | ⟨a, rfl⟩
  · exact .inl fun _ => hb _
  · exact h a
theorem Uni.onStr (v : AV) {F : List Nat → Kont → Res} (h : ∀ a, Uni (F a)) : Uni fun k => v.onStr fun a => F a k := by
  rcases onStr_w v with hb | ⟨a, rfl⟩
  · exact .inl fun _ => hb _
  · exact h a
theorem Uni.onPtr (v : AV) {F : Path → Nat → Kont → Res} (h : ∀ a b, Uni (F a b)) : Uni fun k => v.onPtr fun a b => F a b k := by
  rcases onPtr_w v with hb | ⟨a, b, rfl⟩
  · exact .inl fun _ => hb _
  · exact h a b
theorem Uni.onPtrN (v : AV) {Z : Kont → Res} {F : Path → Nat → Kont → Res} (hz : Uni Z) (h : ∀ a b, Uni (F a b)) : Uni fun k => v.onPtrN (Z k) fun a b => F a b k := by
  rcases onPtrN_w v with hb | rfl | ⟨a, b, rfl⟩
  · exact .inl fun _ => hb _ _
  · exact hz
  · exact h a b
theorem Uni.onAgg (v : AV) {F : List AV → Kont → Res} (h : ∀ a, Uni (F a)) : Uni fun k => v.onAgg fun a => F a k := by
  rcases onAgg_w v with hb | ⟨a, rfl⟩
  · exact .inl fun _ => hb _
  · exact h a
theorem Uni.onTup (v : AV) {F : List AV → Kont → Res} (h : ∀ a, Uni (F a)) : Uni fun k => v.onTup fun a => F a k := by
  rcases onTup_w v with hb | ⟨a, rfl⟩
  · exact .inl fun _ => hb _
  · exact h a
theorem Uni.onMap (v : AV) {F : Path → Kont → Res} (h : ∀ a, Uni (F a)) : Uni fun k => v.onMap fun a => F a k := by
  rcases onMap_w v with hb | ⟨a, rfl⟩
  · exact .inl fun _ => hb _
  · exact h a
theorem Uni.onMapN (v : AV) {Z : Kont → Res} {F : Path → Kont → Res} (hz : Uni Z) (h : ∀ a, Uni (F a)) : Uni fun k => v.onMapN (Z k) fun a => F a k := by
  rcases onMapN_w v with hb | rfl | ⟨a, rfl⟩
  · exact .inl fun _ => hb _ _
  · exact hz
  · exact h a
theorem Uni.onSlc (v : AV) {Z : Kont → Res} {F : Path → Nat → Nat → Cap → Kont → Res} (hz : Uni Z) (h : ∀ a b c d, Uni (F a b c d)) : Uni fun k => v.onSlc (Z k) fun a b c d => F a b c d k := by
  rcases onSlc_w v with hb | rfl | ⟨a, b, c, d, rfl⟩
  · exact .inl fun _ => hb _ _
  · exact hz
  · exact h a b c d
theorem Uni.onSlcZ (v : AV) {Z : Kont → Res} {F : Path → Nat → Nat → Cap → Kont → Res} (hz : Uni Z) (h : ∀ a b c d, Uni (F a b c d)) : Uni fun k => v.onSlcZ (Z k) fun a b c d => F a b c d k := by
  rcases onSlcZ_w v with hb | (rfl | ⟨o, i, rfl⟩) | ⟨a, b, c, d, rfl⟩
  · exact .inl fun _ => hb _ _
  · exact hz
  · exact hz
  · exact h a b c d
theorem Uni.onSlcE (v : AV) {Z : Kont → Res} {F : Path → Nat → Nat → Cap → Kont → Res} {G : Path → Nat → Kont → Res} (hz : Uni Z) (h : ∀ a b c d, Uni (F a b c d)) (hg : ∀ a b, Uni (G a b)) : Uni fun k => v.onSlcE (Z k) (fun a b c d => F a b c d k) fun a b => G a b k := by
  rcases onSlcE_w v with hb | rfl | ⟨a, b, c, d, rfl⟩ | ⟨a, b, rfl⟩
  · exact .inl fun _ => hb _ _ _
  · exact hz
  · exact h a b c d
  · exact hg a b
theorem Uni.must (n : Nat) (b : Bool) {F : Kont → Res} (h : Uni F) : Uni fun k => must n b (F k) := by
  rcases must_w n b with hb | ⟨_, e⟩
  · exact .inl fun _ => hb _
  · simp only [e]; exact h
theorem Uni.ifC (b : Bool) {F G : Kont → Res} (hf : Uni F) (hg : Uni G) : Uni fun k => ifC b (F k) (G k) := by cases b <;> assumption
theorem Uni.natOf (a : Int) {F : Nat → Kont → Res} (h : ∀ a, Uni (F a)) : Uni fun k => natOf a fun a => F a k := by
  rcases natOf_w a with hb | ⟨n, _, e⟩
  · exact .inl fun _ => hb _
  · simp only [e]; exact h n
theorem Uni.cellsOf (o : Path) (hp : H) {F : List AV → Nat → Kont → Res} (h : ∀ a b, Uni (F a b)) : Uni fun k => cellsOf o hp fun a b => F a b k := by
  rcases cellsOf_w o hp with hb | ⟨a, b, _, e⟩
  · exact .inl fun _ => hb _
  · simp only [e]; exact h a b
theorem Uni.mapOf (o : Path) (hp : H) {F : List Ent → Nat → Kont → Res} (h : ∀ a b, Uni (F a b)) : Uni fun k => mapOf o hp fun a b => F a b k := by
  rcases mapOf_w o hp with hb | ⟨a, b, _, e⟩
  · exact .inl fun _ => hb _
  · simp only [e]; exact h a b
theorem Uni.newObj (b : Obj) (hp : H) {F : Path → H → Kont → Res} (h : ∀ a b, Uni (F a b)) : Uni fun k => newObj b hp fun a b => F a b k := by
  rcases newObj_w b hp with hb | ⟨a, b, _, _, e⟩
  · exact .inl fun _ => hb _
  · simp only [e]; exact h a b
theorem Uni.nthC {α : Type} (l : List α) (i : Nat) {F : α → Kont → Res} (h : ∀ a, Uni (F a)) : Uni fun k => nthC l i fun a => F a k := by
  rcases nthC_w l i with hb | ⟨a, _, e⟩
  · exact .inl fun _ => hb _
  · simp only [e]; exact h a
theorem Uni.ldropC {α : Type} (n : Nat) (l : List α) {F : List α → Kont → Res} (h : ∀ a, Uni (F a)) : Uni fun k => ldropC n l fun a => F a k := by
  rcases ldropC_w n l with hb | ⟨_, e⟩
  · exact .inl fun _ => hb _
  · simp only [e]; exact h _
theorem Uni.ltake {α : Type} (n : Nat) (l : List α) {F : List α → Kont → Res} (h : ∀ a, Uni (F a)) : Uni fun k => ltake n l fun a => F a k := by
  rcases ltake_w n l with hb | ⟨_, e⟩
  · exact .inl fun _ => hb _
  · simp only [e]; exact h _
theorem Uni.lput (v l : List AV) (i : Nat) {F : List AV → Kont → Res} (h : ∀ a, Uni (F a)) : Uni fun k => lput v l i fun a => F a k := by
  rcases lput_w v l i with hb | ⟨_, e⟩
  · exact .inl fun _ => hb _
  · simp only [e]; exact h _
theorem Uni.seqC (s t : List Nat) {F : Bool → Kont → Res} (h : ∀ a, Uni (F a)) : Uni fun k => seqC s t fun a => F a k := by
  rcases seqC_w s t with hb | ⟨q, e, _⟩
  · exact .inl fun _ => hb _
  · simp only [e]; exact h q
theorem Uni.sltC (s t : List Nat) {F : Bool → Kont → Res} (h : ∀ a, Uni (F a)) : Uni fun k => sltC s t fun a => F a k := by
  rcases sltC_w s t with hb | ⟨q, e, _⟩
  · exact .inl fun _ => hb _
  · simp only [e]; exact h q
theorem Uni.bytesC (cs : List AV) {F : List Nat → Kont → Res} (h : ∀ a, Uni (F a)) : Uni fun k => bytesC cs fun a => F a k := by
  rcases bytesC_w cs with hb | ⟨l, e, _⟩
  · exact .inl fun _ => hb _
  · simp only [e]; exact h l
theorem Uni.sliceCells (P : Program) (size : Nat) (v : AV) (n : Nat) (hp : H) {F : List AV → Kont → Res} (h : ∀ a, Uni (F a)) : Uni fun k => sliceCells size v n hp fun a => F a k := by
  rcases sliceCells_w (P := P) size v n hp with hb | ⟨cs, e, _⟩
  · exact .inl fun _ => hb _
  · simp only [e]; exact h cs
theorem Uni.srcCells (P : Program) (size : Nat) (v : AV) (hp : H) {F : Nat → List AV → Kont → Res} (h : ∀ a b, Uni (F a b)) : Uni fun k => srcCells size v hp fun a b => F a b k := by
  rcases srcCells_w (P := P) size v hp with hb | ⟨n, cs, e, _⟩
  · exact .inl fun _ => hb _
  · simp only [e]; exact h n cs
theorem Uni.lenC (v : AV) {F : Nat → Kont → Res} (h : ∀ a, Uni (F a)) : Uni fun k => v.lenC fun a => F a k := by
  rcases lenC_w v with hb | ⟨n, e, _⟩
  · exact .inl fun _ => hb _
  · simp only [e]; exact h n
theorem Uni.cellsBy (agg : Bool) (v : AV) {F : List AV → Kont → Res} (h : ∀ a, Uni (F a)) : Uni fun k => AV.cellsBy agg v fun a => F a k := by
  rcases cellsBy_w agg v with hb | ⟨l, e, _⟩
  · exact .inl fun _ => hb _
  · simp only [e]; exact h l
theorem Uni.eqC (kd : Nat) (v u : AV) {F : Bool → Kont → Res} (h : ∀ a, Uni (F a)) : Uni fun k => AV.eqC kd v u fun a => F a k := by
  rcases eqC_w kd v u with hb | ⟨p, q, _, _, _, e⟩ | ⟨j, p, q, _, _, _, e⟩ | ⟨s, t, q, _, _, _, _, e⟩
  · exact .inl fun _ => hb _
  · simp only [e]; exact h _
  · simp only [e]; exact h _
  · simp only [e]; exact h _
theorem Uni.eqsC : ∀ (ks : List Nat) (l r : List AV) {F : Bool → Kont → Res} (_ : ∀ a, Uni (F a)), Uni fun k => Ai.eqsC ks l r fun a => F a k
  | [], [], [], _, h => h true
  | [], [], _ :: _, _, _ => .bad 18
  | [], _ :: _, _, _, _ => .bad 18
  | _ :: _, [], _, _, _ => .bad 18
  | _ :: _, _ :: _, [], _, _ => .bad 18
  | kd :: ks, a :: l, b :: r, F, h => by
    show Uni fun k => AV.eqC kd a b fun q => Ai.ifC q (Ai.eqsC ks l r fun a => F a k) (F false k)
    exact .eqC kd a b fun q => .ifC q (Uni.eqsC ks l r h) (h false)
theorem Uni.iterOf (o : Path) (hp : H) {F : Path → Kont → Res} (h : ∀ a, Uni (F a)) : Uni fun k => Ai.iterOf o hp fun a => F a k := by
  cases hp with
  | mk t n =>
    have e0 : ∀ k, Ai.iterOf o (.mk t n) k = Obj.rec (motive := fun _ => Res) (.bad 53) (fun _ _ => .bad 53) (fun _ _ => .bad 53) (.bad 53) (fun st _ f _ _ _ => Ai.must 12 (Nat.beq st 9) ((fget .e f).onMap k)) (hget o t) := fun _ => rfl
    simp only [e0]
    cases hget o t with
    | loop st pd f ps a b => exact .must 12 _ (.onMap _ h)
    | _ => exact .bad 53
theorem Uni.putParts (l : List Part) (fr : FT) (cs : List AV) {F : List AV → Kont → Res} (h : ∀ a, Uni (F a)) : Uni fun k => putParts l fr cs fun a => F a k := by
  rcases putParts_w l fr cs with hb | ⟨l, e⟩
  · exact .inl fun _ => hb _
  · simp only [e]; exact h l
theorem Uni.keyC (v w : AV) {F G : Kont → Res} (hf : Uni F) (hg : Uni G) : Uni fun k => v.keyC w (F k) (G k) := by
  have hs : ∀ (s t : List Nat), Uni fun k => Ai.seqC s t fun b => Ai.ifC b (F k) (G k) := fun s t => .seqC s t fun b => .ifC b hf hg
  cases v <;> cases w <;> first
    | exact .bad 13
    | exact hs _ _
    | exact .ifC _ hf hg
    | exact .must 12 _ (.ifC _ hf hg)
    | exact .must 12 _ (hs _ _)
theorem Uni.findEnt (v : AV) : ∀ (es : List Ent) (i : Nat) {F : Option (AV × Nat) → Kont → Res} (_ : ∀ a, Uni (F a)), Uni fun k => Ai.findEnt v es (fun a => F a k) i
  | [], _, _, h => h none
  | e :: es, i, F, h => by
    show Uni fun k => v.keyC e.key (F (some (e.val, i)) k) (Ai.findEnt v es (fun a => F a k) (Nat.succ i))
    exact .keyC v e.key (h _) (Uni.findEnt v es _ h)
theorem Uni.bool (b : Bool) {F G : Kont → Res} (hf : Uni F) (hg : Uni G) : Uni fun k => Bool.rec (motive := fun _ => Res) (F k) (G k) b := by cases b <;> assumption
theorem Uni.nat (n : Nat) {F : Kont → Res} {G : Nat → Kont → Res} (hf : Uni F) (hg : ∀ m, Uni (G m)) : Uni fun k => Nat.rec (motive := fun _ => Res) (F k) (fun m _ => G m k) n := by
  cases n with
  | zero => exact hf
  | succ n => exact hg n
theorem Uni.opt {α : Type} (x : Option α) {F : Kont → Res} {G : α → Kont → Res} (hf : Uni F) (hg : ∀ m, Uni (G m)) : Uni fun k => Option.rec (motive := fun _ => Res) (F k) (fun m => G m k) x := by
  cases x with
  | none => exact hf
  | some n => exact hg n
theorem Uni.opo (x : Opo) {F : Kont → Res} {G : Opd → Kont → Res} (hf : Uni F) (hg : ∀ m, Uni (G m)) : Uni fun k => Opo.rec (motive := fun _ => Res) (F k) (fun m => G m k) x := by
  cases x with
  | no => exact hf
  | it n => exact hg n
theorem Uni.cap (x : Cap) {F G : Nat → Kont → Res} (hf : ∀ m, Uni (F m)) (hg : ∀ m, Uni (G m)) : Uni fun k => Cap.rec (motive := fun _ => Res) (fun m => F m k) (fun m => G m k) x := by
  cases x with
  | exact n => exact hf n
  | opn n => exact hg n
theorem Uni.list {α : Type} (l : List α) {F : Kont → Res} {G : α → List α → Kont → Res} (hf : Uni F) (hg : ∀ a t, Uni (G a t)) : Uni fun k => List.rec (motive := fun _ => Res) (F k) (fun a t _ => G a t k) l := by
  cases l with
  | nil => exact hf
  | cons a t => exact hg a t
theorem Uni.evNat (x : Opd) (fr : FT) {F : Nat → Kont → Res} (h : ∀ a, Uni (F a)) : Uni fun k => evNat x fr fun a => F a k := .onInt _ fun _ n => .natOf n h
theorem Uni.evNatX (x : FT → AV) (fr : FT) {F : Nat → Kont → Res} (h : ∀ a, Uni (F a)) : Uni fun k => evNatX x fr fun a => F a k := .onInt _ fun _ n => .natOf n h
theorem Uni.evNatO (x : Opo) (fr : FT) (d : Nat) {F : Nat → Kont → Res} (h : ∀ a, Uni (F a)) : Uni fun k => evNatO x fr d fun a => F a k := .opo x (h d) fun y => .evNat y fr h
theorem Uni.wrapC (kd : IntKind) (n : Int) {F : Int → Kont → Res} (h : ∀ a, Uni (F a)) : Uni fun k => wrapC kd n fun a => F a k := by simp only [wrapC_eq]; exact h _
theorem Uni.addC (kd : IntKind) (n m : Int) {F : Int → Kont → Res} (h : ∀ a, Uni (F a)) : Uni fun k => addC kd n m fun a => F a k := by simp only [addC_eq, wrapC_eq]; exact h _
theorem Uni.subC (kd : IntKind) (n m : Int) {F : Int → Kont → Res} (h : ∀ a, Uni (F a)) : Uni fun k => subC kd n m fun a => F a k := by simp only [subC_eq, wrapC_eq]; exact h _
theorem Uni.forceN (n : Nat) {F : Nat → Kont → Res} (h : ∀ a, Uni (F a)) : Uni fun k => forceN n fun a => F a k := by simp only [forceN_eq]; exact h _
theorem Uni.forceI (n : Int) {F : Int → Kont → Res} (h : ∀ a, Uni (F a)) : Uni fun k => forceI n fun a => F a k := by simp only [forceI_eq]; exact h _
theorem Uni.cutSlc (size : Nat) (o : Path) (i l m c : Nat) (cap : Nat → Cap) (ends : Bool) (h : H) : Uni fun k => cutSlc size o i l m c cap ends h k := by
  unfold Ai.cutSlc
  simp only [forceN_eq]
  exact .must _ _ (.must _ _ (.ifC _ (.k _ _) (.bool _ (.k _ _) (.k _ _))))
theorem uni_step {call : Go.Ai.Call} (hC : CallGood P call) (o : O) (fr : FT) (h : H) : Uni (o.step call fr h) := by
  have hc : ∀ p as h, Uni fun k => call p as h k := fun p as h => by
    rcases hC p as h with hb | ⟨v, h', e, _⟩
    · exact .inl hb
    · exact .inr ⟨v, h', e⟩
  have hcK : ∀ p as h, Uni (call p as h) := hc
  cases o with
  | nilCheck x =>
    show Uni fun k => x_nilCheck x.fn call fr h k
    unfold x_nilCheck
    generalize x.fn fr = v
    cases v <;> first | exact .k _ _ | exact .bad _
  | isnil kd ng x =>
    show Uni fun k => x_isnil kd ng x.fn call fr h k
    unfold x_isnil
    generalize x.fn fr = v
    cases v <;> first | exact .must _ _ (.k _ _) | exact .bad _
  | call f as =>
    show Uni fun k => evsK as fr fun vs => call f vs h k
    simp only [evsK_eq]; exact hc _ _ _
  | callv x as =>
    show Uni fun k => (x.ev fr).onFnY (fun g a c => Ai.must 12 (Nat.blt g 8191) (call (pathOf g) (lapp a (lapp (evs as fr) c)) h k)) (fun o => call (pathOf 8191) (.yld o :: evs as fr) h k)
    rcases onFnY_w (x.ev fr) with hb | ⟨g, a, c, e⟩ | ⟨o, e⟩
    · exact .inl fun _ => hb _ _
    · simp only [e]; exact Uni.must _ _ (hc _ _ _)
    · simp only [e]; exact hc _ _ _
  | sliceStr x lo hi =>
    show Uni fun k => st_sliceStr x lo hi call fr h k
    unfold st_sliceStr
    repeat (first
      | exact .k _ _ | exact .bad _ | exact .cutSlc _ _ _ _ _ _ _ _ _
      | refine .must _ _ ?_ | refine .onStr _ fun _ => ?_ | refine .onPtr _ fun _ _ => ?_ | refine .ldropC _ _ fun _ => ?_ | refine .ltake _ _ fun _ => ?_
      | refine .evNatO _ _ _ fun _ => ?_ | refine .evNat _ _ fun _ => ?_ | refine .onSlc _ ?_ fun _ _ _ _ => ?_ | refine .opo _ ?_ fun _ => ?_ | refine .cap _ (fun _ => ?_) fun _ => ?_)
  | sliceSlc s x lo hi mx =>
    show Uni fun k => st_sliceSlc s x lo hi mx call fr h k
    unfold st_sliceSlc
    repeat (first
      | exact .k _ _ | exact .bad _ | exact .cutSlc _ _ _ _ _ _ _ _ _
      | refine .must _ _ ?_ | refine .onStr _ fun _ => ?_ | refine .onPtr _ fun _ _ => ?_ | refine .ldropC _ _ fun _ => ?_ | refine .ltake _ _ fun _ => ?_
      | refine .evNatO _ _ _ fun _ => ?_ | refine .evNat _ _ fun _ => ?_ | refine .onSlc _ ?_ fun _ _ _ _ => ?_ | refine .opo _ ?_ fun _ => ?_ | refine .cap _ (fun _ => ?_) fun _ => ?_)
  | sliceArr n s x lo hi =>
    show Uni fun k => st_sliceArr n s x lo hi call fr h k
    unfold st_sliceArr
    repeat (first
      | exact .k _ _ | exact .bad _ | exact .cutSlc _ _ _ _ _ _ _ _ _
      | refine .must _ _ ?_ | refine .onStr _ fun _ => ?_ | refine .onPtr _ fun _ _ => ?_ | refine .ldropC _ _ fun _ => ?_ | refine .ltake _ _ fun _ => ?_
      | refine .evNatO _ _ _ fun _ => ?_ | refine .evNat _ _ fun _ => ?_ | refine .onSlc _ ?_ fun _ _ _ _ => ?_ | refine .opo _ ?_ fun _ => ?_ | refine .cap _ (fun _ => ?_) fun _ => ?_)
  | build z ps => exact .putParts _ _ _ fun _ => .k _ _
  | buildSlice n z ps => exact .putParts _ _ _ fun _ => .newObj _ _ fun _ _ => .k _ _
  | append s b es x y =>
    show Uni fun k => x_append s b es x.fn y.fn call fr h k
    unfold x_append appended inPlace
    simp only [forceN_eq]
    exact .srcCells P _ _ _ fun m new => .onSlcE _ (.nat _ (.k _ _) fun _ => .must _ _ (.newObj _ _ fun _ _ => .k _ _))
      (fun o i n c => .cellsOf _ _ fun cs es => .must _ _ (.ldropC _ _ fun cs' => .ltake _ _ fun old => .cap c (fun d => .ifC _ (.must _ _ (.lput _ _ _ fun _ => .k _ _)) (.newObj _ _ fun _ _ => .k _ _))
        fun d => .ifC _ (.must _ _ (.lput _ _ _ fun _ => .k _ _)) (.must _ _ (.must _ _ (.must _ _ (.must _ _ (.newObj _ _ fun _ _ => .k _ _)))))))
      fun o i => .cellsOf _ _ fun cs es => .must _ _ (.must _ _ (.must _ _ (.must _ _ (.must _ _ (.newObj _ _ fun _ _ => .k _ _)))))
  | _ =>
    simp only [O.step, x_mov, x_pick, st_alloc, x_box, x_loadS, x_loadA, x_store, x_iadd, x_isub, x_imul, x_iquo, x_irem, x_iand, x_ior, x_ishl, x_ishr, x_cmp, x_ieq, x_sadd, x_seq, x_slt, x_eqv, x_not, x_neg, x_convI, x_b2s, x_s2b, x_mkSlice, x_faddr, x_field, x_iaddrS, x_iaddrA, x_indexStr, x_indexArr, x_lookup, x_mapUpd, st_mkMap, st_mkFunc, x_extract, x_len, x_lenStr, x_lenMap, st_lenC, x_copy, x_imax, x_imin, x_ubs, x_clear, x_rangeE, x_nextE, x_sdata, x_p2u, x_u2p, x_peq, x_capS, onIntsUX, ieqU, onIntsX, onShiftX, onStrsX, onNats, part, found, forceN_eq, forceI_eq, wrapC_eq, addC_eq, subC_eq]
    repeat (first
      | exact .k _ _ | exact .bad _
      | refine .must _ _ ?_ | refine .ifC _ ?_ ?_
      | refine .onInt _ fun _ _ => ?_ | refine .onIntU _ (fun _ _ => ?_) fun _ => ?_ | refine .onStr _ fun _ => ?_ | refine .onBool _ fun _ => ?_ | refine .onPtr _ fun _ _ => ?_ | refine .onAgg _ fun _ => ?_ | refine .onTup _ fun _ => ?_ | refine .onMap _ fun _ => ?_
      | refine .wrapC _ _ fun _ => ?_ | refine .addC _ _ _ fun _ => ?_ | refine .subC _ _ _ fun _ => ?_ | refine .forceN _ fun _ => ?_ | refine .forceI _ fun _ => ?_
      | refine .natOf _ fun _ => ?_ | refine .cellsOf _ _ fun _ _ => ?_ | refine .mapOf _ _ fun _ _ => ?_ | refine .newObj _ _ fun _ _ => ?_ | refine .nthC _ _ fun _ => ?_ | refine .ldropC _ _ fun _ => ?_ | refine .ltake _ _ fun _ => ?_ | refine .lput _ _ _ fun _ => ?_
      | refine .seqC _ _ fun _ => ?_ | refine .sltC _ _ fun _ => ?_ | refine .bytesC _ fun _ => ?_ | refine .lenC _ fun _ => ?_ | refine .sliceCells P _ _ _ _ fun _ => ?_ | refine .srcCells P _ _ _ fun _ _ => ?_ | refine .cellsBy _ _ fun _ => ?_ | refine .eqsC _ _ _ fun _ => ?_ | refine .iterOf _ _ fun _ => ?_
      | refine .evNatX _ _ fun _ => ?_ | refine .onPtrN _ ?_ fun _ _ => ?_ | refine .onMapN _ ?_ fun _ => ?_ | refine .onSlc _ ?_ fun _ _ _ _ => ?_ | refine .onSlcZ _ ?_ fun _ _ _ _ => ?_
      | refine .findEnt _ _ _ fun _ => ?_ | refine .bool _ ?_ ?_ | refine .opt _ ?_ fun _ => ?_ | refine .cap _ (fun _ => ?_) fun _ => ?_ | refine .list _ ?_ fun _ _ => ?_ | refine .nat _ ?_ fun _ => ?_)
theorem us_all (o : O) : US P o := fun _ hC fr h => uni_step hC o fr h
theorem L.us (l : L) : ∀ o ∈ l.ops, US P o := fun o _ => us_all o
theorem C.us : ∀ c : C, c.US P
  | .reg l => l.us
  | .seq a b => ⟨a.us, b.us⟩
  | .cond _ a b => ⟨a.us, b.us⟩
  | .block _ b => b.us
  | .loop b => b.us
  | .skip | .exit _ | .ret | .no _ | .rangeF .. => trivial
theorem endRoundK_eq (o : Path) (j : Jump) (h : H) (k : Kont) : endRoundK o j h k = endRound o j h k := by
  cases h with
  | mk t n =>
    show hgetK o t _ = Obj.rec (motive := fun _ => Res) (.bad 43) (fun _ _ => .bad 43) (fun _ _ => .bad 43) (.bad 43) (fun st _ f ps a b => must 12 (Nat.blt st 4) (Jump.rec (motive := fun _ => Res) (k (.bool true) (.mk (hset (.loop 0 .no f ps a b) o t) n)) (k (.bool false) (.mk (hset (.loop 2 .ret f ps a b) o t) n)) (fun id => k (.bool false) (.mk (hset (.loop 2 (.exit id) f ps a b) o t) n)) j)) (hget o t)
    simp only [hgetK_eq, hsetK_eq]
theorem beginRoundK_eq (o : Path) (h : H) (k : H → Res) : beginRoundK o h k = beginRound o h k := by
  cases h with
  | mk t n =>
    show hgetK o t _ = Obj.rec (motive := fun _ => Res) (.bad 44) (fun _ _ => .bad 44) (fun _ _ => .bad 44) (.bad 44) (fun st pd f ps a b => must 12 (Nat.beq st 0) (k (.mk (hset (.loop 1 pd f ps a b) o t) n))) (hget o t)
    simp only [hgetK_eq, hsetK_eq]
theorem roundK_ok {call : Go.Ai.Call} (hC : CallGood P call) (args : List AV) (h : H) : (∀ k, Bad (roundK call args h k)) ∨ ∀ k, roundK call args h k = round call args h k := by
  cases args with
  | nil => exact .inl fun _ => ⟨46, rfl⟩
  | cons y vs =>
    cases h with
    | mk t n =>
      have e0 : ∀ k, roundK call (y :: vs) (.mk t n) k = y.onFnY (fun _ _ _ => .bad 46) fun o => hgetK o t fun x => Obj.rec (motive := fun _ => Res) (.bad 47) (fun _ _ => .bad 47) (fun _ _ => .bad 47) (.bad 47) (fun st _ f ps a b =>
        must 12 (Nat.blt st 4) (setArgs ps vs f fun fr => a.runK call (fun _ _ => .bad 48) (fun _ _ _ => .bad 48) (fun fr h => beginRoundK o h fun h => b.runK call (fun _ h => endRoundK o .ret h k) (fun id _ h => endRoundK o (.exit id) h k) (fun _ h => endRoundK o .no h k) fr h) fr (.mk t n))) x := fun _ => rfl
      have e1 : ∀ k, round call (y :: vs) (.mk t n) k = y.onFnY (fun _ _ _ => .bad 46) fun o => Obj.rec (motive := fun _ => Res) (.bad 47) (fun _ _ => .bad 47) (fun _ _ => .bad 47) (.bad 47) (fun st _ f ps a b =>
        must 12 (Nat.blt st 4) (setArgs ps vs f fun fr => Res.rec (motive := fun _ => Res) (fun fr h => beginRound o h fun h => inRound o (b.run call fr h) k) (fun _ _ _ => .bad 48) (fun _ _ => .bad 48) (fun _ _ => .bad 48) .bad (a.run call fr (.mk t n)))) (hget o t) := fun _ => rfl
      simp only [e0, e1, hgetK_eq, beginRoundK_eq, endRoundK_eq]
      rcases onFnY_w y with hb | ⟨g, a, c, rfl⟩ | ⟨o, rfl⟩
      · exact .inl fun _ => hb _ _
      · exact .inl fun _ => ⟨46, rfl⟩
      · show (∀ k, Bad (Obj.rec (motive := fun _ => Res) (.bad 47) (fun _ _ => .bad 47) (fun _ _ => .bad 47) (.bad 47) (fun st _ f ps a b =>
          must 12 (Nat.blt st 4) (setArgs ps vs f fun fr => a.runK call (fun _ _ => .bad 48) (fun _ _ _ => .bad 48) (fun fr h => beginRound o h fun h => b.runK call (fun _ h => endRound o .ret h k) (fun id _ h => endRound o (.exit id) h k) (fun _ h => endRound o .no h k) fr h) fr (.mk t n))) (hget o t))) ∨ ∀ k, Obj.rec (motive := fun _ => Res) (.bad 47) (fun _ _ => .bad 47) (fun _ _ => .bad 47) (.bad 47) (fun st _ f ps a b =>
          must 12 (Nat.blt st 4) (setArgs ps vs f fun fr => a.runK call (fun _ _ => .bad 48) (fun _ _ _ => .bad 48) (fun fr h => beginRound o h fun h => b.runK call (fun _ h => endRound o .ret h k) (fun id _ h => endRound o (.exit id) h k) (fun _ h => endRound o .no h k) fr h) fr (.mk t n))) (hget o t) = Obj.rec (motive := fun _ => Res) (.bad 47) (fun _ _ => .bad 47) (fun _ _ => .bad 47) (.bad 47) (fun st _ f ps a b =>
          must 12 (Nat.blt st 4) (setArgs ps vs f fun fr => Res.rec (motive := fun _ => Res) (fun fr h => beginRound o h fun h => inRound o (b.run call fr h) k) (fun _ _ _ => .bad 48) (fun _ _ => .bad 48) (fun _ _ => .bad 48) .bad (a.run call fr (.mk t n)))) (hget o t)
        cases hget o t with
        | loop st pd f ps a b =>
          dsimp only
          rcases must_w 12 (Nat.blt st 4) with hb | ⟨_, e2⟩
          · exact .inl fun _ => hb _
          simp only [e2]
          rcases setArgs_w ps vs f with hb | ⟨fr, e3⟩
          · exact .inl fun _ => hb _
          simp only [e3]
          rcases codeK_ok hC a a.us fr (.mk t n) with hb | ⟨fr', h', ⟨e5, e6⟩ | ⟨e5, e6⟩ | ⟨id, e5, e6⟩⟩
          · exact .inl fun _ => hb _ _ _
          · simp only [e5]
            have e6' : ∀ k, a.runK call (fun _ _ => .bad 48) (fun _ _ _ => .bad 48) (fun fr h => beginRound o h fun h => b.runK call (fun _ h => endRound o .ret h k) (fun id _ h => endRound o (.exit id) h k) (fun _ h => endRound o .no h k) fr h) fr (.mk t n) = beginRound o h' fun h => b.runK call (fun _ h => endRound o .ret h k) (fun id _ h => endRound o (.exit id) h k) (fun _ h => endRound o .no h k) fr' h := fun k => e6 _ _ _
            simp only [e6']
            rcases beginRound_w o h' with hb | ⟨_, _, _, _, _, h2, hw⟩
            · exact .inl fun _ => hb _
            obtain ⟨_, _, e7⟩ := hw
            simp only [e7]
            rcases codeK_ok hC b b.us fr' h2 with hb | ⟨fr3, h3, ⟨e8, e9⟩ | ⟨e8, e9⟩ | ⟨id, e8, e9⟩⟩
            · exact .inl fun _ => hb _ _ _
            · right; intro k; rw [e8]; exact e9 _ _ _
            · right; intro k; rw [e8]; exact e9 _ _ _
            · right; intro k; rw [e8]; exact e9 _ _ _
          · exact .inl fun k => ⟨48, e6 _ _ _⟩
          · exact .inl fun k => ⟨48, e6 _ _ _⟩
        | _ => exact .inl fun _ => ⟨47, rfl⟩
theorem roundK_good (hDr : DrawnGood P) : IntrGood P (pathOf 8191) roundK := by
  intro call hC args h
  rcases roundK_ok hC args h with hb | e
  · exact .inl hb
  · rcases round_good hC hDr args h with hb | ⟨v, h1, e1, ok⟩
    · exact .inl fun k => by rw [e k]; exact hb k
    · exact .inr ⟨v, h1, fun k => by rw [e k]; exact e1 k, ok⟩
end Go.Ai
set_option autoImplicit false
namespace Go.Ai
set_option linter.unusedSectionVars false
variable [Nu]
open Go
variable {P : Program}

noncomputable def kn0 (v : AV) : Go.Ai.Call → List AV → H → Kont → Res := fun _ args h k => arg0 args (k v h)
theorem kn0_good {p : Path} {v : AV} (hk : Known P p [] v) : IntrGood P p (kn0 v) := by
  intro call _ args h
  cases args with
  | nil => exact .inr ⟨v, h, fun _ => rfl, hk h⟩
  | cons a t => exact .inl fun _ => ⟨24, rfl⟩
theorem known_fin {T : Tb} {n : Nat} (hC : CallGood P (calls T n)) {p : Path} {args : List AV} {v : AV} (ha : args.all AV.plain1 = true) (hv : v.plain = true)
    (he : calls T n p args (.mk .leaf .e) (fun v _ => .fin v (.mk .leaf .e)) = .fin v (.mk .leaf .e)) : Known P p args v := by
  rcases hC p args (.mk .leaf .e) with hb | ⟨v1, h1, e1, ok⟩
  · obtain ⟨i, hb⟩ := hb fun v _ => .fin v (.mk .leaf .e)
    rw [hb] at he; cases he
  · rw [e1] at he
    cases he
    refine known_of ha hv (fun o vs hy => ?_) ok
    subst hy
    simp [AV.plain1, AV.plain0] at ha
end Go.Ai
set_option autoImplicit false
namespace Go.Ai
set_option linter.unusedSectionVars false
variable [Nu]
open Go Go.ChangeShapes Go.WideShapes
variable {P : Program}

theorem post_of_same {H : Type} {enc : TypeId × Value → H} {f : Func} {s : ChangeSpec} {apart fresh handsOn again : Bool} {W W' : World} {args : Array Value} {v : Value} {ds gs : List (DataW H)} {before pa pv : List MemPlace}
    (hW : DataW.Whole enc P f.params.toList s.vars apart W args.toList ds gs before)
    (hres : ∀ (b : Nat) (sp : Nat → Bool) (hd : Bool), DataW.TrodAll enc P W' b sp hd f.resultTypes.toList (v.resultList f.resultTypes.size) (s.fn H (ds ++ gs)).results [])
    (hargs : ∀ sp : Nat → Bool, (∀ p ∈ before, sp p.block = true) → DataW.TrodAll enc P W' 0 sp true f.params.toList args.toList (s.fn H (ds ++ gs)).args pa)
    (hvars : ∀ sp : Nat → Bool, (∀ p ∈ before, sp p.block = true) → DataW.TrodVars enc P W' sp s.vars (s.fn H (ds ++ gs)).vars pv)
    (hps : before = pa ++ pv) (hk : W.keptBut W' (· ∈ before)) (hfz : ∀ a, a.block < W.heap.size → W'.frozen? a = W.frozen? a)
    (hok : ∀ (j : Nat) (t : TypeId) (r : Value), f.resultTypes[j]? = some t → (v.resultList f.resultTypes.size)[j]? = some r → Value.okWide P W' .any 0 t r) :
    s.post enc P f apart fresh handsOn again W args v W' := by
  have hold : ∀ p ∈ before, (fun b => decide (b < W.heap.size)) p.block = true := fun p hp => by simpa using hW.lt p hp
  have hlt := hW.lt
  refine ⟨ds, gs, before, [], pa, pv, hW, hres _ _ _, hargs _ hold, hvars _ hold, World.keptBut_mono (fun p hp => ⟨hp, ?_⟩) hk, fun _ => ?_⟩
  · rw [hps, List.mem_append] at hp
    exact Or.inr hp
  · obtain ⟨_, _, _, _, _, hz, hn⟩ := hW
    refine ⟨hok, _, _, ([] ++ pa) ++ pv, ⟨[] ++ pa, pv, trodAll_append (hargs _ (fun _ _ => rfl)) (hres _ _ _), hvars _ (fun _ _ => rfl), rfl, ?_, ?_⟩, ?_⟩
    · intro b off hp
      have hm : MemPlace.cell b off ∈ before := by rw [hps]; simpa using hp
      rw [hfz _ (hlt _ hm)]
      exact hz b off hm
    · intro ha
      have := hn ha
      rw [hps] at this
      simpa using this
    · intro p hp _
      rw [hps]
      simpa using hp
def Stood (W W' : World) : Prop := W'.os = W.os ∧ W'.output = W.output ∧ ∀ b, b < W.heap.size → W'.heap[b]? = W.heap[b]?
theorem Stood.kept {W W' : World} (h : Stood W W') (may : MemPlace → Prop) : W.keptBut W' may := by
  refine ⟨h.1, h.2.1, fun i hi => ?_⟩
  rw [h.2.2 i hi]
  exact (World.keptBut_refl W may).2.2 i hi
theorem Stood.frozen {W W' : World} (h : Stood W W') (a : Addr) (ha : a.block < W.heap.size) : W'.frozen? a = W.frozen? a := by
  unfold World.frozen?
  rw [h.2.2 _ ha]
theorem calls_true {f : FuncId} {func : Func} (hlt : f < 8191) (hf : P.funcs[f]? = some func) (hn : (func.name == "runtime.NumGoroutine") = false) (hb : func.body.isSome = true) {A : List Value} {args : List AV} (hk : Known P (pathOf f) args (.bool true)) (hr : Rs (fun _ => ⟨0, 0, 0⟩) (fun _ => .none) args A) (W : World) :
    Calls P f A.toArray W fun e W' => e = .returned (.bool true) ∧ Stood W W' := by
  refine (calls_of_known hlt hk hr (fun w => run_callFunc hf hn hb)).mono fun e W' ⟨V, he, hv, adv⟩ => ?_
  simp only [R] at hv
  subst hv
  exact ⟨he, adv.os, adv.output, fun b hb => adv.frame b hb fun ⟨o, hl, _⟩ => hl⟩
end Go.Ai
set_option autoImplicit false
namespace Go.Ai
open Go

noncomputable def nthL (l : List (List Nat)) : Nat → List Nat := List.rec (motive := fun _ => Nat → List Nat) (fun _ => []) (fun a _ ih i => Nat.rec (motive := fun _ => List Nat) a (fun j _ => ih j) i) l
noncomputable def clM (adj : Nat → List Nat) (n : Nat) : List Nat → Nat → List Nat → List Nat :=
  Nat.rec (motive := fun _ => List Nat → Nat → List Nat → List Nat) (fun _ _ seen => seen.reverse)
    (fun _ ih todo m seen => List.rec (motive := fun _ => List Nat) seen.reverse (fun f t _ => Bool.rec (motive := fun _ => List Nat) (ih (adj f ++ t) (Nat.lor m (2 ^ f)) (f :: seen)) (ih t m seen) (Nat.testBit m f)) todo) n
theorem nthL_eq : ∀ (l : List (List Nat)) (i : Nat), nthL l i = (l[i]?).getD []
  | [], _ => rfl
  | _ :: _, 0 => rfl
  | _ :: t, i + 1 => by
    show nthL t i = ((_ :: t)[i + 1]?).getD []
    rw [nthL_eq t i]; rfl
theorem clM_eq {P : Program} {adj : Nat → List Nat} (h : ∀ g, (P.funcs[g]?).elim [] P.leadsTo = adj g) : ∀ (n : Nat) (todo : List Nat) (m : Nat) (seen : List Nat), (∀ x, m.testBit x = seen.contains x) → P.closureVia n todo seen = clM adj n todo m seen
  | 0, todo, m, seen, _ => by cases todo <;> rfl
  | n + 1, [], m, seen, _ => rfl
  | n + 1, f :: t, m, seen, hm => by
    have e0 : clM adj (n + 1) (f :: t) m seen = Bool.rec (motive := fun _ => List Nat) (clM adj n (adj f ++ t) (Nat.lor m (2 ^ f)) (f :: seen)) (clM adj n t m seen) (Nat.testBit m f) := rfl
    rw [e0, Program.closureVia, hm f]
    cases hc : seen.contains f with
    | true => simp only [if_true]; exact clM_eq h n t m seen hm
    | false =>
      simp only [Bool.false_eq_true, if_false]
      rw [h f]
      refine clM_eq h n (adj f ++ t) (Nat.lor m (2 ^ f)) (f :: seen) fun x => ?_
      have e1 : Nat.lor m (2 ^ f) = m ||| 2 ^ f := rfl
      rw [e1, Nat.testBit_or, hm x, Nat.testBit_two_pow, List.contains_cons]
      by_cases e : f = x
      · subst e; simp
      · have e' : (x == f) = false := by simpa using fun h => e h.symm
        simp [e, e']
theorem closure_of {P : Program} {adj : List (List Nat)} (h : P.funcs.toList.map P.leadsTo = adj) (f : FuncId) : P.closure f = clM (nthL adj) (1 + (adj.map fun l => l.length + 1).sum) [f] 0 [] := by
  have h1 : ∀ g, (P.funcs[g]?).elim [] P.leadsTo = nthL adj g := fun g => by
    rw [nthL_eq, ← h, List.getElem?_map, ← Array.getElem?_toList]
    cases P.funcs.toList[g]? <;> rfl
  have h2 : (P.funcs.toList.map fun g => (P.leadsTo g).length + 1) = adj.map fun l => l.length + 1 := by
    rw [← h, List.map_map]; rfl
  unfold Program.closure
  rw [h2]
  exact clM_eq h1 _ _ _ _ fun x => by simp
theorem range_parts (f : Nat → Bool) : ∀ (l : List Nat) (a : Nat), (l.foldl (fun s n => (s.1 + n, s.2 && (List.range' s.1 n).all f)) (a, true)).2 = true → (List.range' a l.sum).all f = true := by
  have key : ∀ (l : List Nat) (a : Nat) (b : Bool), (l.foldl (fun s n => (s.1 + n, s.2 && (List.range' s.1 n).all f)) (a, b)).2 = (b && (List.range' a l.sum).all f) := by
    intro l
    induction l with
    | nil => intro a b; simp
    | cons n t ih =>
      intro a b
      rw [List.foldl_cons, ih, List.sum_cons, ← List.range'_append_1, List.all_append, Bool.and_assoc]
  intro l a h
  rw [key, Bool.true_and] at h; exact h
theorem goes_none {P : Program} (h : P.funcs.toList.any Func.goes = false) (f : FuncId) : P.goes f = false := by
  have h1 : ∀ fn ∈ P.funcs.toList, Func.goes fn = false := fun fn hf => by
    cases e : Func.goes fn with
    | false => rfl
    | true => exact absurd (List.any_eq_true.2 ⟨fn, hf, e⟩) (by rw [h]; decide)
  have h2 : ((P.closure f).any fun g => (P.funcs[g]?).any Func.goes) = false := by
    rw [List.any_eq_false]
    intro g _
    cases e : P.funcs[g]? with
    | none => simp
    | some fn =>
      have hm : fn ∈ P.funcs.toList := by
        have := Array.mem_of_getElem? e
        simpa using this
      simp [h1 fn hm]
  have h3 : P.funcs.any Func.goes = false := by rw [← Array.any_toList]; exact h
  unfold Program.goes
  rw [h2, h3]
  simp
theorem goesBy_none {P : Program} {c : OpenClaim} (hs : c.start = .entering) (h : P.funcs.toList.any Func.goes = false) : false = c.goesBy P := by
  unfold OpenClaim.goesBy Program.goesAt Program.goesFrom
  rw [hs]
  cases e : P.funcNamed c.func with
  | none => rfl
  | some f => simp [goes_none h f]
end Go.Ai
set_option autoImplicit false
namespace Go.Ai
open Go

noncomputable section
def done : Res := .fin (.bool true) (.mk .leaf .e)
def run1 (call : Go.Ai.Call) (p : Path) (args : List AV) (k : Res) : Res := call p args (.mk .leaf .e) fun v _ => v.onBool fun b => Bool.rec (motive := fun _ => Res) (.bad 99) k b
def forR (n : Nat) (f : Nat → Res → Res) (a : Nat) (k : Res) : Res := Nat.rec (motive := fun _ => Nat → Res) (fun _ => k) (fun _ ih a => forceN a fun a => f a (ih (Nat.succ a))) n a
def wd (n : Nat) (a : Nat) : List Nat := Nat.rec (motive := fun _ => Nat → List Nat) (fun _ => []) (fun _ ih i => i :: ih (Nat.succ i)) n a
def fr (x : Nat → Nat) (n : Nat) (a : Nat) : List Nat := Nat.rec (motive := fun _ => Nat → List Nat) (fun _ => []) (fun _ ih i => x i :: ih (Nat.succ i)) n a
def forceW (l : List Nat) : (List Nat → Res) → Res := List.rec (motive := fun _ => (List Nat → Res) → Res) (fun k => k []) (fun c _ ih k => forceN c fun c => ih fun t => k (c :: t)) l
def dif (nm : List Nat) : Nat → Nat → List Nat := List.rec (motive := fun _ => Nat → Nat → List Nat) (fun _ _ => []) (fun a t ih p i => Nat.rec (motive := fun _ => List Nat) (Nat.add 256 a :: wd (llen t) (Nat.succ i)) (fun p _ => a :: ih p (Nat.succ i)) p) nm
end
section
set_option linter.unusedSectionVars false
variable [Nu] {P : Program}
theorem run1_ok {call : Go.Ai.Call} (hC : CallGood P call) {p : Path} {args : List AV} {k : Res} (h : run1 call p args k = done) : call p args (.mk .leaf .e) (fun v _ => .fin v (.mk .leaf .e)) = done ∧ k = done := by
  unfold run1 at h
  rcases hC p args (.mk .leaf .e) with hb | ⟨v, h1, e, _⟩
  · obtain ⟨i, hb⟩ := hb fun v _ => v.onBool fun b => Bool.rec (motive := fun _ => Res) (.bad 99) k b
    rw [hb] at h; cases h
  · rw [e] at h ⊢
    rcases onBool_w v with hb | ⟨b, rfl⟩
    · obtain ⟨i, hb⟩ := hb fun b => Bool.rec (motive := fun _ => Res) (.bad 99) k b
      rw [hb] at h; cases h
    · cases b with
      | false => cases h
      | true => exact ⟨rfl, h⟩
theorem forR_ok {f : Nat → Res → Res} {Q : Nat → Prop} (hf : ∀ i k, f i k = done → Q i ∧ k = done) : ∀ (n a : Nat) (k : Res), forR n f a k = done → (∀ i, a ≤ i → i < a + n → Q i) ∧ k = done
  | 0, _, _, h => ⟨fun i h1 h2 => absurd h1 (by omega), h⟩
  | n + 1, a, k, h => by
    have e : forR (n + 1) f a k = forceN a fun a => f a (forR n f (a + 1) k) := rfl
    rw [e, forceN_eq] at h
    obtain ⟨h1, h2⟩ := hf _ _ h
    obtain ⟨h3, h4⟩ := forR_ok hf n (a + 1) k h2
    refine ⟨fun i hi hj => ?_, h4⟩
    by_cases hia : i = a
    · rw [hia]; exact h1
    · exact h3 i (by omega) (by omega)
theorem forceW_eq (l : List Nat) (k : List Nat → Res) : forceW l k = k l := by
  induction l generalizing k with
  | nil => rfl
  | cons a t ih =>
    show forceN a (fun c => forceW t fun t => k (c :: t)) = _
    rw [forceN_eq, ih]
end
theorem wd_length : ∀ n a, (wd n a).length = n
  | 0, _ => rfl
  | n + 1, a => congrArg (· + 1) (wd_length n (a + 1))
theorem fr_eq (x : Nat → Nat) : ∀ n a, fr x n a = (List.range' a n).map x
  | 0, _ => rfl
  | n + 1, a => by
    have e : fr x (n + 1) a = x a :: fr x n (a + 1) := rfl
    rw [e, fr_eq x n (a + 1), List.range'_succ]; rfl
theorem wd_eq : ∀ n a, wd n a = List.range' a n
  | 0, _ => rfl
  | n + 1, a => by
    have e : wd (n + 1) a = a :: wd n (a + 1) := rfl
    rw [e, wd_eq n (a + 1), List.range'_succ]
def Calm (b : UInt8) : Prop := b ≠ 32 ∧ b ≠ 10
def nuF (B : List UInt8) (d : Nat) (b : UInt8) (c : Nat) : UInt8 :=
  if c < 256 then c.toUInt8 else if c < 512 then (if c = 256 + d then b else if c = 256 + 97 then 98 else 97) else B.getD (c - 512) 97
theorem u8_inj {i j : Nat} (hi : i < 256) (hj : j < 256) (h : i.toUInt8 = j.toUInt8) : i = j := by
  have := congrArg UInt8.toNat h
  simp at this; omega
abbrev nuOf (B : List UInt8) (d : Nat) (b : UInt8) (hB : ∀ x ∈ B, Calm x) (hd : b ≠ d.toUInt8) (hb : Calm b) : Nu where
  f := nuF B d b
  lo c hc := by unfold nuF; rw [if_pos hc]
  sp c hc := by
    unfold nuF
    rw [if_neg (by omega)]
    split
    · split
      · exact hb.1
      · split <;> decide
    · rw [List.getD_eq_getElem?_getD]
      cases h : B[c - 512]? with
      | none => decide
      | some x => exact (hB x (List.mem_of_getElem? h)).1
  nl c hc := by
    unfold nuF
    rw [if_neg (by omega)]
    split
    · split
      · exact hb.2
      · split <;> decide
    · rw [List.getD_eq_getElem?_getD]
      cases h : B[c - 512]? with
      | none => decide
      | some x => exact (hB x (List.mem_of_getElem? h)).2
  ne e he := by
    unfold nuF
    rw [if_neg (by omega), if_pos (by omega)]
    by_cases h : e = d
    · subst h; rw [if_pos rfl]; exact hd
    · rw [if_neg (by omega)]
      split
      · rename_i h2
        have : e = 97 := by omega
        subst this; decide
      · rename_i h2
        have h3 : e ≠ 97 := by omega
        intro h4
        exact h3 (u8_inj he (by decide) h4.symm)
abbrev nu0 : Nu := nuOf [] 0 97 (fun _ h => by cases h) (by decide) (by constructor <;> decide)
theorem bytes_known (nu : Nu) (B : List UInt8) : @bytesOf nu (B.map (·.toNat)) = ⟨B.toArray⟩ := by
  have h := @bytes_back nu ⟨B.toArray⟩
  simpa using h
theorem map_known (nu : Nu) (B : List UInt8) : (B.map (·.toNat)).map nu.f = B := by
  rw [List.map_map]
  conv => rhs; rw [← List.map_id B]
  apply List.map_congr_left
  intro b _
  have := nu.lo b.toNat b.toNat_lt
  simpa using this
theorem map_unknown (A : List UInt8) (d : Nat) (b : UInt8) (hB : ∀ x ∈ A, Calm x) (hd : b ≠ d.toUInt8) (hb : Calm b) (i : Nat) (B : List UInt8) (hi : A.drop i = B) : (wd B.length (512 + i)).map (nuOf A d b hB hd hb).f = B := by
  rw [wd_eq]
  apply List.ext_getElem?
  intro j
  rw [List.getElem?_map]
  by_cases hj : j < B.length
  · rw [List.getElem?_range' hj]
    show some (nuF A d b (512 + i + 1 * j)) = _
    unfold nuF
    rw [if_neg (by omega), if_neg (by omega), List.getD_eq_getElem?_getD]
    have e : 512 + i + 1 * j - 512 = i + j := by omega
    rw [e, ← List.getElem?_drop, hi, List.getElem?_eq_getElem hj]
    rfl
  · rw [List.getElem?_eq_none (by simp; omega), List.getElem?_eq_none (by omega)]; rfl
theorem calm_split : ∀ B : List UInt8, (∀ b ∈ B, Calm b) ∨ ∃ p s t, B = p ++ s :: t ∧ (s = 32 ∨ s = 10) ∧ ∀ b ∈ p, Calm b
  | [] => .inl fun _ h => by cases h
  | a :: B => by
    by_cases h1 : a = 32
    · exact .inr ⟨[], a, B, rfl, .inl h1, fun _ h => by cases h⟩
    by_cases h2 : a = 10
    · exact .inr ⟨[], a, B, rfl, .inr h2, fun _ h => by cases h⟩
    rcases calm_split B with h | ⟨p, s, t, rfl, hs, hp⟩
    · exact .inl fun b hb => by
        rcases List.mem_cons.1 hb with rfl | hb
        · exact ⟨h1, h2⟩
        · exact h b hb
    · exact .inr ⟨a :: p, s, t, rfl, hs, fun b hb => by
        rcases List.mem_cons.1 hb with rfl | hb
        · exact ⟨h1, h2⟩
        · exact hp b hb⟩
theorem first_diff : ∀ (B N : List UInt8), B.length = N.length → B = N ∨ ∃ p b t d u, B = p ++ b :: t ∧ N = p ++ d :: u ∧ b ≠ d
  | [], [], _ => .inl rfl
  | [], _ :: _, h => by cases h
  | _ :: _, [], h => by cases h
  | a :: B, c :: N, h => by
    by_cases hac : a = c
    · subst hac
      rcases first_diff B N (by simpa using h) with rfl | ⟨p, b, t, d, u, rfl, rfl, hd⟩
      · exact .inl rfl
      · exact .inr ⟨a :: p, b, t, d, u, rfl, rfl, hd⟩
    · exact .inr ⟨[], a, B, c, N, rfl, rfl, hac⟩
theorem llen_len (l : List Nat) : llen l = l.length := by
  induction l with
  | nil => rfl
  | cons a t ih => exact congrArg Nat.succ ih
theorem dif_at (d : Nat) (u : List Nat) : ∀ (p : List Nat) (i : Nat), dif (p ++ d :: u) p.length i = p ++ (256 + d) :: wd u.length (i + p.length + 1)
  | [], i => by
    show Nat.add 256 d :: wd (llen u) (i + 1) = _
    rw [llen_len]; rfl
  | a :: p, i => by
    show a :: dif (p ++ d :: u) p.length (i + 1) = _
    rw [dif_at d u p (i + 1)]
    simp only [List.cons_append, List.length_cons]
    congr 4
    omega
end Go.Ai
