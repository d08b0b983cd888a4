import PyProof.Rows.All
import PySem.Challenge.RW_twotexts_k04_whole_words_of_like_last_le
import KE.SortData
import KE.DataMinMax
import HandS.ForMost
import HandS.DictComp
import KE.GoesEnum
import KE.DataEq
import KE.DataCmp
import HandS.TupAny
import HandS.TupMul
import HandS.Wide
import HandS.IsInst
import HandS.Flt
import PyProof.ReprRoads
import PyProof.CollectStr
import PyProof.ListNew
import HandS.Conv
import PyProof.ConsumeWalk
import HandS.SetFor
import HandS.Style
import HandS.Zip
import PyProof.ReprBulk
set_option Elab.async false
set_option linter.all false
set_option maxRecDepth 100000
-- PLsem
/-! PL, the pure side: pieces of Python as partial functions over data (PyData), names by slots. No heap. -/
namespace PL
open PySem

abbrev D := PyData
def sL (s : Str) : List Nat := s.cps.toList
def tx (l : List Nat) : D := .str ⟨l.toArray⟩
theorem sL_mk (l : List Nat) : sL ⟨l.toArray⟩ = l := by simp [sL]
theorem tx_sL (s : Str) : tx (sL s) = .str s := by simp [tx, sL]
def big : Nat := 1000000

/-- what a slot holds: nothing; data that stays; a list or dict of the frame's own; one that the caller lent -/
inductive SD where
  | un | im (d : D) | mu (d : D) | ln (d : D)
abbrev En := List SD
def SD.get : SD → Option D
  | .un => none | .im d => some d | .mu d => some d | .ln d => some d
def rd (ε : En) (i : Nat) : Option D := (ε[i]?).bind SD.get
/-- the new content of an owned slot -/
def upc (ε : En) (i : Nat) (d : D) : Option En :=
  match ε[i]? with
  | some (.mu _) => some (ε.set i (.mu d))
  | some (.ln _) => some (ε.set i (.ln d))
  | _ => none

abbrev WE := En → Option (D × En)
abbrev WT := En → Option (Bool × En)
abbrev WI := En → Option (List D × En)
abbrev WG := D → En → Option En
inductive Out where
  | nx (ε : En) | rt (d : D) (ε : En) | bk (ε : En) | ct (ε : En)
abbrev WS := En → Option Out

/-! ### operands -/
inductive Opd where
  | e (f : WE) | s (i : Nat)
def Opd.ev : Opd → En → Option (Option D × En)
  | .e f, ε => (f ε).bind fun p => some (some p.1, p.2)
  | .s i, ε => (rd ε i).bind fun _ => some (none, ε)
def Opd.fin : Opd → Option D → En → Option D
  | .e _, x, _ => x
  | .s i, _, ε => rd ε i
def evs : List Opd → En → Option (List (Option D) × En)
  | [], ε => some ([], ε)
  | o :: os, ε => (o.ev ε).bind fun p => (evs os p.2).bind fun q => some (p.1 :: q.1, q.2)
def fins : List Opd → List (Option D) → En → Option (List D)
  | [], [], _ => some []
  | o :: os, x :: xs, ε => (o.fin x ε).bind fun d => (fins os xs ε).bind fun ds => some (d :: ds)
  | _, _, _ => none
/-! ### expressions -/
def vE (i : Nat) : WE := fun ε =>
  match ε[i]? with
  | some (.im d) => some (d, ε)
  | some (.mu d) => some (d, ε.set i (.im d))
  | _ => none
def cE (d : D) : WE := fun ε => some (d, ε)
def op1 (g : D → Option D) (a : Opd) : WE := fun ε =>
  (a.ev ε).bind fun p => (a.fin p.1 p.2).bind fun x => (g x).bind fun d => some (d, p.2)
def op2 (g : D → D → Option D) (a b : Opd) : WE := fun ε =>
  (a.ev ε).bind fun p => (b.ev p.2).bind fun q => (a.fin p.1 q.2).bind fun x => (b.fin q.1 q.2).bind fun y => (g x y).bind fun d => some (d, q.2)
def opN (g : List D → Option D) (as : List Opd) : WE := fun ε =>
  (evs as ε).bind fun p => (fins as p.1 p.2).bind fun ds => (g ds).bind fun d => some (d, p.2)
/-- items one after another, kept -/
def evl : List WE → En → Option (List D × En)
  | [], ε => some ([], ε)
  | f :: fs, ε => (f ε).bind fun p => (evl fs p.2).bind fun q => some (p.1 :: q.1, q.2)
def lstE (fs : List WE) : WE := fun ε => (evl fs ε).bind fun p => some (.list p.1, p.2)
def tupE (fs : List WE) : WE := fun ε => (evl fs ε).bind fun p => some (.tuple p.1, p.2)
/-- a call of a def of one's own; one to which slot i is lent -/
def callE (F : List D → Option D) (fs : List WE) : WE := fun ε => (evl fs ε).bind fun p => (F p.1).bind fun d => some (d, p.2)
def ownd (ε : En) (i : Nat) : Option D := match ε[i]? with
  | some (.mu h) => some h
  | some (.ln h) => some h
  | _ => none
def callM (F : D → List D → Option (D × D)) (i : Nat) (fs : List WE) : WE := fun ε => (ownd ε i).bind fun _ =>
  (evl fs ε).bind fun p => (ownd p.2 i).bind fun h => (F h p.1).bind fun q => (upc p.2 i q.2).bind fun ε' => some (q.1, ε')
/-- a method that changes the list or dict in slot i -/
def mutE (m : D → List D → Option (D × D)) (i : Nat) (fs : List WE) : WE := fun ε => (ownd ε i).bind fun _ =>
  (evl fs ε).bind fun p => (ownd p.2 i).bind fun c => (m c p.1).bind fun q => (upc p.2 i q.2).bind fun ε' => some (q.1, ε')
def chainE (g g' : D → D → Option D) (fa fb fc : WE) : WE := fun ε =>
  (fa ε).bind fun p => (fb p.2).bind fun q => (g p.1 q.1).bind fun z => match z with
    | .bool true => (fc q.2).bind fun r => (g' q.1 r.1).bind fun d => some (d, r.2)
    | .bool false => some (.bool false, q.2)
    | _ => none
/-! ### tests -/
def bT (f : WE) : WT := fun ε => (f ε).bind fun p => match p.1 with
  | .bool b => some (b, p.2)
  | _ => none
def andT (a b : WT) : WT := fun ε => (a ε).bind fun p => bif p.1 then b p.2 else some (false, p.2)
def orT (a b : WT) : WT := fun ε => (a ε).bind fun p => bif p.1 then some (true, p.2) else b p.2
def notT (a : WT) : WT := fun ε => (a ε).bind fun p => some (!p.1, p.2)
def andE (a b : WE) : WE := fun ε => (bT a ε).bind fun p => bif p.1 then b p.2 else some (.bool false, p.2)
def orE (a b : WE) : WE := fun ε => (bT a ε).bind fun p => bif p.1 then some (.bool true, p.2) else b p.2
def notE (a : WE) : WE := fun ε => (bT a ε).bind fun p => some (.bool (!p.1), p.2)
def ifE (t : WT) (a b : WE) : WE := fun ε => (t ε).bind fun p => bif p.1 then a p.2 else b p.2
def yesT : WT := fun ε => some (true, ε)
/-! ### what is walked -/
def itemsD : D → Option (List D)
  | .list ds => some ds
  | .tuple ds => some ds
  | .str s => some ((sL s).map fun c => tx [c])
  | .dict kvs => some (kvs.map Prod.fst)
  | _ => none
def seqD : D → Option (List D)
  | .list ds => some ds
  | .tuple ds => some ds
  | .str s => some ((sL s).map fun c => tx [c])
  | _ => none
def itI (f : WE) : WI := fun ε => (f ε).bind fun p => (seqD p.1).bind fun ds => some (ds, p.2)
/-- a name's thing, a dict too -/
def itV (i : Nat) : WI := fun ε => (vE i ε).bind fun p => (itemsD p.1).bind fun ds => some (ds, p.2)
def intsL (lo c : Int) (n : Nat) : List D := (List.range n).map fun (i : Nat) => PyData.int (lo + (i : Int) * c)
def okI (i : Int) : Bool := decide (-(2 ^ 62) ≤ i) && decide (i < 2 ^ 62)
def rngD : List D → Option (List D)
  | [.int j] => if okI j then some (intsL 0 1 j.toNat) else none
  | [.int i, .int j] => if okI i && okI j then some (intsL i 1 (j - i).toNat) else none
  | [.int i, .int j, .int c] => if okI i && okI j && decide (c = -1) then some (intsL i (-1) (i - j).toNat) else none
  | _ => none
def rngI (fs : List WE) : WI := fun ε => (evl fs ε).bind fun p => (rngD p.1).bind fun ds => some (ds, p.2)
def pairI (n : Nat) (d : D) : D := .tuple [.int n, d]
def enumL : Nat → List D → List D
  | _, [] => []
  | n, d :: ds => pairI n d :: enumL (n + 1) ds
def enI (f : WE) : WI := fun ε => (f ε).bind fun p => (seqD p.1).bind fun ds => some (enumL 0 ds, p.2)
def zipL : List D → List D → List D
  | x :: xs, y :: ys => .tuple [x, y] :: zipL xs ys
  | _, _ => []
def zipI (f g : WE) : WI := fun ε => (f ε).bind fun p => (g p.2).bind fun q => (seqD p.1).bind fun ds => (seqD q.1).bind fun es => some (zipL ds es, q.2)
/-! ### targets -/
def gN (i : Nat) : WG := fun d ε => some (ε.set i (.im d))
def gAll : List WG → List D → En → Option En
  | [], [], ε => some ε
  | g :: gs, d :: ds, ε => (g d ε).bind fun ε' => gAll gs ds ε'
  | _, _, _ => none
def gT (gs : List WG) : WG := fun d ε => match d with
  | .tuple ds => gAll gs ds ε
  | _ => none
/-! ### comprehensions -/
def wipeE (ε : En) : List Nat → En
  | [] => ε
  | v :: vs => (wipeE ε vs).set v .un
def okOwn (ε : En) (own : List Nat) : Bool := own.all fun i => match ε[i]? with
  | some (.im _) => true
  | some .un => true
  | _ => false
/-- the slots of the block's own names as they were ahead -/
def restE (ε0 ε : En) : List Nat → En
  | [] => ε
  | v :: vs => (restE ε0 ε vs).set v (ε0.getD v .un)
def lcL (own : List Nat) (g : WG) (t : WT) (f : WE) : List D → En → Option (List D × En)
  | [], ε => some ([], ε)
  | d :: ds, ε => (g d ε).bind fun ε1 => (t ε1).bind fun p => bif p.1
    then (f p.2).bind fun q => (lcL own g t f ds (wipeE q.2 own)).bind fun r => some (q.1 :: r.1, r.2)
    else lcL own g t f ds (wipeE p.2 own)
def lcE (src : WI) (own : List Nat) (g : WG) (t : WT) (f : WE) : WE := fun ε => (src ε).bind fun p =>
  if okOwn p.2 own && decide (p.1.length ≤ big) then (lcL own g t f p.1 (wipeE p.2 own)).bind fun q => some (.list q.1, restE p.2 q.2 own) else none
/-! ### dicts -/
def keyOf : D → Option (Int ⊕ Str)
  | .int i => some (.inl i)
  | .str s => some (.inr s)
  | _ => none
def isKey : D → Bool
  | .int _ => true
  | .str _ => true
  | .tuple ds => ds.all fun d => (keyOf d).isSome
  | _ => false
def isKey1 : D → Bool
  | .int _ => true
  | .str _ => true
  | _ => false
/-- the value at a key -/
def dget (kvs : List (D × D)) (k : D) : Option D := (kvs.find? fun p => PyData.eqv p.1 k).map Prod.snd
/-- in its place, or at the end -/
def dput (kvs : List (D × D)) (k v : D) : List (D × D) :=
  if (kvs.any fun p => PyData.eqv p.1 k) = true then kvs.map (fun p => if PyData.eqv p.1 k = true then (p.1, v) else p) else kvs ++ [(k, v)]
def ddrop (kvs : List (D × D)) (k : D) : List (D × D) := kvs.filter fun p => !PyData.eqv p.1 k
def dcL (own : List Nat) (g : WG) (t : WT) (fk fv : WE) : List D → List (D × D) → En → Option (List (D × D) × En)
  | [], kvs, ε => some (kvs, ε)
  | d :: ds, kvs, ε => (g d ε).bind fun ε1 => (t ε1).bind fun p => bif p.1
    then (fk p.2).bind fun q => (fv q.2).bind fun r => if isKey1 q.1 then dcL own g t fk fv ds (dput kvs q.1 r.1) (wipeE r.2 own) else none
    else dcL own g t fk fv ds kvs (wipeE p.2 own)
def dcE (src : WI) (own : List Nat) (g : WG) (t : WT) (fk fv : WE) : WE := fun ε => (src ε).bind fun p =>
  if okOwn p.2 own && decide (p.1.length ≤ big) then (dcL own g t fk fv p.1 [] (wipeE p.2 own)).bind fun q => some (.dict q.1, restE p.2 q.2 own) else none
/-! ### statements -/
def run1 (o : Out) (k : En → Option Out) : Option Out := match o with
  | .nx ε => k ε
  | o => some o
def nilS : WS := fun ε => some (.nx ε)
def seqS (a b : WS) : WS := fun ε => (a ε).bind fun o => run1 o b
def asgS (f : WE) (g : WG) : WS := fun ε => (f ε).bind fun p => (g p.1 p.2).bind fun ε' => some (.nx ε')
/-- a new list or dict, from now on the frame's own -/
def setM (i : Nat) (f : WE) : WS := fun ε => (f ε).bind fun p => some (.nx (p.2.set i (.mu p.1)))
def dropS (f : WE) : WS := fun ε => (f ε).bind fun p => some (.nx p.2)
def retS (f : WE) : WS := fun ε => (f ε).bind fun p => some (.rt p.1 p.2)
def retN : WS := fun ε => some (.rt .none ε)
def ifS (t : WT) (a b : WS) : WS := fun ε => (t ε).bind fun p => bif p.1 then a p.2 else b p.2
def brkS : WS := fun ε => some (.bk ε)
def cntS : WS := fun ε => some (.ct ε)
def nevS : WS := fun _ => none
def loop1 (o : Out) (k : En → Option Out) : Option Out := match o with
  | .nx ε => k ε
  | .ct ε => k ε
  | .bk ε => some (.nx ε)
  | .rt d ε => some (.rt d ε)
def forL (g : WG) (body : WS) : List D → En → Option Out
  | [], ε => some (.nx ε)
  | d :: ds, ε => (g d ε).bind fun ε1 => (body ε1).bind fun o => loop1 o (forL g body ds)
def forS (src : WI) (g : WG) (body : WS) : WS := fun ε => (src ε).bind fun p => forL g body p.1 p.2
def whileL (t : WT) (body : WS) : Nat → En → Option Out
  | 0, _ => none
  | n + 1, ε => (t ε).bind fun p => bif p.1 then (body p.2).bind fun o => loop1 o (whileL t body n) else some (.nx p.2)
/-- several names at once; a flag says: new, from now on the frame's own -/
def evp : List (Bool × WE) → En → Option (List (Bool × D) × En)
  | [], ε => some ([], ε)
  | f :: fs, ε => (f.2 ε).bind fun p => (evp fs p.2).bind fun q => some ((f.1, p.1) :: q.1, q.2)
def setp : List Nat → List (Bool × D) → En → Option En
  | [], [], ε => some ε
  | i :: is, d :: ds, ε => setp is ds (ε.set i (bif d.1 then .mu d.2 else .im d.2))
  | _, _, _ => none
def parS (is : List Nat) (fs : List (Bool × WE)) : WS := fun ε => (evp fs ε).bind fun p => (setp is p.1 p.2).bind fun ε' => some (.nx ε')
/-- x[i] = v, d[k] = v of an owned slot -/
def setI (m : D → D → D → Option D) (i : Nat) (fi fv : WE) : WS := fun ε =>
  (fv ε).bind fun p => (ownd p.2 i).bind fun _ => (fi p.2).bind fun q => (ownd q.2 i).bind fun c => (m c q.1 p.1).bind fun c' => (upc q.2 i c').bind fun ε' => some (.nx ε')
/-! ### a def -/
def ini (n : Nat) (ds : List D) : En := ds.map SD.im ++ List.replicate (n - ds.length) .un
def runD (n : Nat) (W : WS) (ds : List D) : Option D := (W (ini n ds)).bind fun o => match o with
  | .nx _ => some .none
  | .rt d _ => some d
  | _ => none
def lent (ε : En) : Option D := match ε[(0 : Nat)]? with
  | some (.ln h) => some h
  | _ => none
def runM (n : Nat) (W : WS) (h : D) (ds : List D) : Option (D × D) := (W (.ln h :: ini (n - 1) ds)).bind fun o => match o with
  | .nx ε => (lent ε).bind fun h' => some (.none, h')
  | .rt d ε => (lent ε).bind fun h' => some (d, h')
  | _ => none
end PL

-- PLcore
/-! PL, the ground: data held by values over an abstract heap; the frame's state; what a piece of Python computes, by its reading. -/
namespace PL
open PySem PySem.Spec PyProof.Rows L2

def Ex (H H' : Hp) : Prop := ∀ a o, H a = some o → H' a = some o
theorem Ex.refl (H : Hp) : Ex H H := fun _ _ h => h
theorem Ex.trans {A B C : Hp} (x : Ex A B) (y : Ex B C) : Ex A C := fun a o h => y a o (x a o h)
def Seen : HO → Prop
  | .lst _ => True | .tup _ => True | .dK _ => True | .dT _ => True | _ => False
def Imm : HO → Prop
  | .tup _ => True | .frz _ _ => True | _ => False
/-- all that may be read of G may be read of H -/
structure Mo (G H : Hp) : Prop where
  rd : ∀ a u, Seen u → Rd G a u → Rd H a u
  dom : ∀ a, H a = none → G a = none
  tp : ∀ a xs, G a = some (.tup xs) → H a = some (.tup xs)
theorem Mo.refl (G : Hp) : Mo G G := ⟨fun _ _ _ h => h, fun _ h => h, fun _ _ h => h⟩
theorem Mo.trans {A B C : Hp} (x : Mo A B) (y : Mo B C) : Mo A C := ⟨fun a u s h => y.rd a u s (x.rd a u s h), fun a h => x.dom a (y.dom a h), fun a xs h => y.tp a xs (x.tp a xs h)⟩
theorem Mo.of {G H : Hp} (x : Ex G H) : Mo G H := ⟨fun a u s h => by
  rcases h with h | ⟨o, h⟩
  · exact .inl (x a _ h)
  · exact .inr ⟨o, x a _ h⟩, fun a h => (by
  cases e : G a with
  | none => rfl
  | some o => (rw [x a o e] at h; cases h)), fun a xs h => x a _ h⟩
theorem Mo.up {G : Hp} {a : Addr} {u : HO} (h : G a = none) : Mo G (upd G a u) := .of fun b o e => by
  rw [upd_ne (ne_of_none e h)]
  exact e

def keyD : Key → PyData
  | .inl i => .int i
  | .inr x => .str x
def keyT (ks : List Key) : PyData := .tuple (ks.map keyD)

mutual
inductive Rp (K : PySem.W.Frag) (H : Hp) : V → PyData → Prop
  | non : Rp K H .non .none
  | bl (b : Bool) : Rp K H (.bl b) (.bool b)
  | int (i : Int) : Rp K H (.int i) (.int i)
  | str (x : Str) : Rp K H (.str x) (.str x)
  | lst {a : Addr} {xs : List V} {ds : List PyData} : Rd H a (.lst xs) → RpA K H xs ds → Rp K H (.ref a) (.list ds)
  | tup {a : Addr} {xs : List V} {ds : List PyData} : H a = some (.tup xs) → RpA K H xs ds → Rp K H (.ref a) (.tuple ds)
  | dk {a : Addr} {kvs : List (Key × V)} {ds : List (PyData × PyData)} : Rd H a (.dK kvs) → RpK K H kvs ds → Rp K H (.ref a) (.dict ds)
  | dt {a : Addr} {kvs : List (List Key × V)} {ds : List (PyData × PyData)} : Rd H a (.dT kvs) → RpT K H kvs ds → Rp K H (.ref a) (.dict ds)
inductive RpA (K : PySem.W.Frag) (H : Hp) : List V → List PyData → Prop
  | nil : RpA K H [] []
  | cons {v : V} {vs : List V} {d : PyData} {ds : List PyData} : Rp K H v d → RpA K H vs ds → RpA K H (v :: vs) (d :: ds)
inductive RpK (K : PySem.W.Frag) (H : Hp) : List (Key × V) → List (PyData × PyData) → Prop
  | nil : RpK K H [] []
  | cons {k : Key} {v : V} {vs : List (Key × V)} {d : PyData} {ds : List (PyData × PyData)} : Rp K H v d → RpK K H vs ds → RpK K H ((k, v) :: vs) ((keyD k, d) :: ds)
inductive RpT (K : PySem.W.Frag) (H : Hp) : List (List Key × V) → List (PyData × PyData) → Prop
  | nil : RpT K H [] []
  | cons {k : List Key} {v : V} {vs : List (List Key × V)} {d : PyData} {ds : List (PyData × PyData)} : Rp K H v d → RpT K H vs ds → RpT K H ((k, v) :: vs) ((keyT k, d) :: ds)
end
section
variable {K : PySem.W.Frag} {G H : Hp}
theorem sql_mo (m : Mo G H) {a : Addr} {xs : List V} (h : SqL K G a xs) : SqL K H a xs := by
  rcases h with h | h
  · exact .inl (m.rd a _ trivial h)
  · exact .inr h
theorem sqt_mo (m : Mo G H) {a : Addr} {xs : List V} (h : SqT K G a xs) : SqT K H a xs := by
  rcases h with h | h
  · exact .inl (m.rd a _ trivial h)
  · exact .inr h
mutual
theorem Rp.mo (m : Mo G H) : ∀ {v : V} {d : PyData}, Rp K G v d → Rp K H v d
  | _, _, .non => .non
  | _, _, .bl b => .bl b
  | _, _, .int i => .int i
  | _, _, .str x => .str x
  | _, _, .lst h t => .lst (m.rd _ _ trivial h) (RpA.mo m t)
  | _, _, .tup h t => .tup (m.tp _ _ h) (RpA.mo m t)
  | _, _, .dk h t => .dk (m.rd _ _ trivial h) (RpK.mo m t)
  | _, _, .dt h t => .dt (m.rd _ _ trivial h) (RpT.mo m t)
theorem RpA.mo (m : Mo G H) : ∀ {v : List V} {d : List PyData}, RpA K G v d → RpA K H v d
  | _, _, .nil => .nil
  | _, _, .cons h t => .cons (Rp.mo m h) (RpA.mo m t)
theorem RpK.mo (m : Mo G H) : ∀ {v : List (Key × V)} {d : List (PyData × PyData)}, RpK K G v d → RpK K H v d
  | _, _, .nil => .nil
  | _, _, .cons h t => .cons (Rp.mo m h) (RpK.mo m t)
theorem RpT.mo (m : Mo G H) : ∀ {v : List (List Key × V)} {d : List (PyData × PyData)}, RpT K G v d → RpT K H v d
  | _, _, .nil => .nil
  | _, _, .cons h t => .cons (Rp.mo m h) (RpT.mo m t)
end
theorem RpA.length : ∀ {v : List V} {d : List PyData}, RpA K G v d → v.length = d.length
  | _, _, .nil => rfl
  | _, _, .cons _ t => congrArg (· + 1) (RpA.length t)
theorem RpA.get : ∀ {v : List V} {d : List PyData} {i : Nat} {x : V}, RpA K G v d → v[i]? = some x → ∃ e, d[i]? = some e ∧ Rp K G x e
  | _, _, _, _, .nil, h => by simp at h
  | _, _, 0, _, .cons q _, h => by simp at h; subst h; exact ⟨_, rfl, q⟩
  | _, _, i + 1, x, .cons _ t, h => by simpa using RpA.get (i := i) (x := x) t (by simpa using h)
theorem RpA.getD : ∀ {v : List V} {d : List PyData} {i : Nat} {e : PyData}, RpA K G v d → d[i]? = some e → ∃ x, v[i]? = some x ∧ Rp K G x e
  | _, _, _, _, .nil, h => by simp at h
  | _, _, 0, _, .cons q _, h => by simp at h; subst h; exact ⟨_, rfl, q⟩
  | _, _, i + 1, x, .cons _ t, h => by simpa using RpA.getD (i := i) (e := x) t (by simpa using h)
theorem RpA.append : ∀ {v : List V} {d : List PyData} {v' : List V} {d' : List PyData}, RpA K G v d → RpA K G v' d' → RpA K G (v ++ v') (d ++ d')
  | _, _, _, _, .nil, s => s
  | _, _, _, _, .cons q t, s => .cons q (RpA.append t s)
theorem RpA.take : ∀ {v : List V} {d : List PyData} (n : Nat), RpA K G v d → RpA K G (v.take n) (d.take n)
  | _, _, 0, _ => .nil
  | _, _, _ + 1, .nil => .nil
  | _, _, n + 1, .cons q t => .cons q (RpA.take n t)
theorem RpA.drop : ∀ {v : List V} {d : List PyData} (n : Nat), RpA K G v d → RpA K G (v.drop n) (d.drop n)
  | _, _, 0, r => r
  | _, _, _ + 1, .nil => .nil
  | _, _, n + 1, .cons _ t => RpA.drop n t
theorem RpA.set {x : V} {e : PyData} (q : Rp K G x e) : ∀ {v : List V} {d : List PyData} (n : Nat), RpA K G v d → RpA K G (v.set n x) (d.set n e)
  | _, _, _, .nil => .nil
  | _, _, 0, .cons _ t => .cons q t
  | _, _, n + 1, .cons r t => .cons r (RpA.set q n t)
theorem RpA.reverse : ∀ {v : List V} {d : List PyData}, RpA K G v d → RpA K G v.reverse d.reverse
  | _, _, .nil => .nil
  | _, _, .cons q t => by rw [List.reverse_cons, List.reverse_cons]; exact (RpA.reverse t).append (.cons q .nil)
end

/-- what stands at an owned address -/
inductive Cont (K : PySem.W.Frag) (G : Hp) : HO → PyData → Prop
  | lst {vs : List V} {ds : List PyData} : RpA K G vs ds → Cont K G (.lst vs) (.list ds)
  | dk {kvs : List (Key × V)} {ds : List (PyData × PyData)} : RpK K G kvs ds → Cont K G (.dK kvs) (.dict ds)
  | dt {kvs : List (List Key × V)} {ds : List (PyData × PyData)} : RpT K G kvs ds → Cont K G (.dT kvs) (.dict ds)
theorem Cont.mo {K : PySem.W.Frag} {G H : Hp} (m : Mo G H) {u : HO} {d : PyData} (h : Cont K G u d) : Cont K H u d := by
  cases h with
  | lst h => exact .lst (h.mo m)
  | dk h => exact .dk (h.mo m)
  | dt h => exact .dt (h.mo m)
theorem Cont.noImm {K : PySem.W.Frag} {G : Hp} {u : HO} {d : PyData} (h : Cont K G u d) : ¬ Imm u := by
  cases h <;> exact fun z => z
theorem Cont.noTup {K : PySem.W.Frag} {G : Hp} {u : HO} {d : PyData} (h : Cont K G u d) : ∀ xs, u ≠ .tup xs := by
  cases h <;> intro xs z <;> cases z
theorem Cont.seen {K : PySem.W.Frag} {G : Hp} {u : HO} {d : PyData} (h : Cont K G u d) : Seen u := by
  cases h <;> trivial
theorem Cont.noFrz {K : PySem.W.Frag} {G : Hp} {u : HO} {d : PyData} (h : Cont K G u d) : ∀ o w, u ≠ .frz o w := by
  cases h <;> intro o w z <;> cases z
theorem Cont.rp {K : PySem.W.Frag} {G H : Hp} {a : Addr} {u : HO} {d : PyData} (h : Cont K G u d) (m : Mo G H) (e : H a = some u) : Rp K H (.ref a) d := by
  cases h with
  | lst h => exact .lst (.of e) (h.mo m)
  | dk h => exact .dk (.of e) (h.mo m)
  | dt h => exact .dt (.of e) (h.mo m)

def Slot (K : PySem.W.Frag) (Fr G H : Hp) (la : Addr) (o : Option (Option V)) : SD → Prop
  | .un => True
  | .im d => ∃ v, o = some (some v) ∧ Rp K G v d
  | .mu d => ∃ a u, o = some (some (.ref a)) ∧ G a = none ∧ Fr a = none ∧ H a = some u ∧ Cont K G u d
  | .ln d => ∃ u, o = some (some (.ref la)) ∧ G la = none ∧ Fr la = none ∧ H la = some u ∧ Cont K G u d
def IsOwn : SD → Prop
  | .mu _ => True | .ln _ => True | _ => False
def Own (σ : L2.St) (ε : En) (i : Nat) (a : Addr) : Prop := (∃ e : SD, ε[i]? = some e ∧ IsOwn e) ∧ σ[i]? = some (some (.ref a))
def DsJ (Fr G : Hp) : Prop := ∀ a o, Fr a = some o → G a = none ∨ Imm o
structure Stt (K : PySem.W.Frag) (Fr : Hp) (la : Addr) (σ : L2.St) (ε : En) (G H : Hp) : Prop where
  gh : Mo G H
  fr : Ex Fr H
  ds : DsJ Fr G
  len : σ.length = ε.length
  sl : ∀ (i : Nat) (e : SD), ε[i]? = some e → Slot K Fr G H la σ[i]? e
  sep : ∀ i j a, Own σ ε i a → Own σ ε j a → i = j

/-- only new objects -/
structure New (G H G' H' : Hp) : Prop where
  mo : Mo G G'
  gh : Mo G' H'
  ex : Ex H H'
  old : ∀ a o, H a = some o → G' a = G a ∨ Imm o
theorem New.refl {G H : Hp} (m : Mo G H) : New G H G H := ⟨Mo.refl G, m, Ex.refl H, fun _ _ _ => .inl rfl⟩
/-- a new object, readable -/
theorem New.one {G H : Hp} {p : Addr} {u : HO} (m : Mo G H) (h : H p = none) : New G H (upd G p u) (upd H p u) := by
  have g := m.dom p h
  refine ⟨.up g, ⟨fun a w s r => ?_, fun a z => ?_, fun a xs z => ?_⟩, fun a o e => ?_, fun a o e => .inl ?_⟩
  · by_cases e : a = p
    · subst e
      rcases r with r | ⟨o, r⟩
      · rw [upd_same] at r; exact .inl (by rw [upd_same]; exact r)
      · rw [upd_same] at r; exact .inr ⟨o, by rw [upd_same]; exact r⟩
    · have r' : Rd G a w := by
        rcases r with r | ⟨o, r⟩
        · rw [upd_ne e] at r; exact .inl r
        · rw [upd_ne e] at r; exact .inr ⟨o, r⟩
      rcases m.rd a w s r' with q | ⟨o, q⟩
      · exact .inl (by rw [upd_ne e]; exact q)
      · exact .inr ⟨o, by rw [upd_ne e]; exact q⟩
  · by_cases e : a = p
    · subst e; rw [upd_same] at z; cases z
    · rw [upd_ne e] at z ⊢; exact m.dom a z
  · by_cases e : a = p
    · subst e; rw [upd_same] at z ⊢; exact z
    · rw [upd_ne e] at z ⊢; exact m.tp a xs z
  · rw [upd_ne (ne_of_none e h)]; exact e
  · rw [upd_ne (ne_of_none e h)]
/-- a new object, not to be read by others -/
theorem New.own {G H : Hp} {p : Addr} {u : HO} (m : Mo G H) (h : H p = none) : New G H G (upd H p u) :=
  ⟨.refl G, m.trans (.up h), fun a o e => by rw [upd_ne (ne_of_none e h)]; exact e, fun _ _ _ => .inl rfl⟩
theorem New.trans {A B C A' B' C' : Hp} (x : New A A' B B') (y : New B B' C C') : New A A' C C' :=
  ⟨x.mo.trans y.mo, y.gh, x.ex.trans y.ex, fun a o e => by
    rcases y.old a o (x.ex a o e) with q | q
    · rcases x.old a o e with r | r
      · exact .inl (q.trans r)
      · exact .inr r
    · exact .inr q⟩
section
variable {K : PySem.W.Frag} {Fr : Hp} {la : Addr} {σ : L2.St} {ε : En} {G H G' H' : Hp}
theorem Slot.new (n : New G H G' H') {o : Option (Option V)} {e : SD} (h : Slot K Fr G H la o e) : Slot K Fr G' H' la o e := by
  have own : ∀ {a : Addr} {u : HO} {d : D}, G a = none → H a = some u → Cont K G u d → G' a = none := fun {a u d} g e c => by
    rcases n.old a u e with q | q
    · rw [q]; exact g
    · exact (c.noImm q).elim
  cases e with
  | un => trivial
  | im d => obtain ⟨v, q, r⟩ := h; exact ⟨v, q, r.mo n.mo⟩
  | mu d => obtain ⟨a, u, q, g, f, hu, c⟩ := h; exact ⟨a, u, q, own g hu c, f, n.ex a u hu, c.mo n.mo⟩
  | ln d => obtain ⟨u, q, g, f, hu, c⟩ := h; exact ⟨u, q, own g hu c, f, n.ex la u hu, c.mo n.mo⟩
theorem Stt.new (s : Stt K Fr la σ ε G H) (n : New G H G' H') : Stt K Fr la σ ε G' H' where
  gh := n.gh
  fr := s.fr.trans n.ex
  ds := fun a o e => by
    rcases n.old a o (s.fr a o e) with q | q
    · rw [q]; exact s.ds a o e
    · exact .inr q
  len := s.len
  sl := fun i e h => (s.sl i e h).new n
  sep := s.sep
/-- the owned slot's address and what stands there -/
theorem Stt.own (s : Stt K Fr la σ ε G H) {i : Nat} {a : Addr} (h : Own σ ε i a) : G a = none ∧ Fr a = none ∧ ∃ u d, rd ε i = some d ∧ H a = some u ∧ Cont K G u d := by
  obtain ⟨⟨e, he, ho⟩, hs⟩ := h
  have q := s.sl i e he
  cases e with
  | un => exact ho.elim
  | im d => exact ho.elim
  | mu d =>
    obtain ⟨b, u, q1, g, f, hu, c⟩ := q
    rw [hs] at q1; cases q1
    exact ⟨g, f, u, d, by simp [rd, he, SD.get], hu, c⟩
  | ln d =>
    obtain ⟨u, q1, g, f, hu, c⟩ := q
    rw [hs] at q1; cases q1
    exact ⟨g, f, u, d, by simp [rd, he, SD.get], hu, c⟩
/-- a slot set to data -/
theorem Stt.set (s : Stt K Fr la σ ε G H) (i : Nat) {v : V} {d : D} (r : Rp K G v d) : Stt K Fr la (σ.set i (some v)) (ε.set i (.im d)) G H where
  gh := s.gh
  fr := s.fr
  ds := s.ds
  len := by rw [List.length_set, List.length_set]; exact s.len
  sl := fun j e h => by
    by_cases q : i = j
    · subst q
      by_cases l : i < ε.length
      · rw [List.getElem?_set_self l] at h; cases h
        exact ⟨v, List.getElem?_set_self (by rw [s.len]; exact l), r⟩
      · rw [List.getElem?_eq_none (by rw [List.length_set]; omega)] at h; cases h
    · rw [List.getElem?_set_ne q] at h ⊢
      exact s.sl j e h
  sep := by
    have back : ∀ j a, Own (σ.set i (some v)) (ε.set i (.im d)) j a → Own σ ε j a := fun j a ⟨⟨e, he, ho⟩, hs⟩ => by
      by_cases q : i = j
      · subst q
        by_cases l : i < ε.length
        · rw [List.getElem?_set_self l] at he; cases he; exact ho.elim
        · rw [List.getElem?_eq_none (by rw [List.length_set]; omega)] at he; cases he
      · rw [List.getElem?_set_ne q] at he hs
        exact ⟨⟨e, he, ho⟩, hs⟩
    exact fun j k a x y => s.sep j k a (back j a x) (back k a y)
/-- what is new and no one's -/
structure Fsh (K : PySem.W.Frag) (Fr : Hp) (σ : L2.St) (ε : En) (G H : Hp) (p : Addr) (d : D) : Prop where
  g : G p = none
  f : Fr p = none
  h : ∃ u, H p = some u ∧ Cont K G u d
  o : ∀ i, ¬ Own σ ε i p
theorem upd_mo {G H : Hp} (m : Mo G H) {p : Addr} {u : HO} (h : H p = some u) (nz : ∀ o w, u ≠ .frz o w) : Mo (upd G p u) H := by
  refine ⟨fun a w s r => ?_, fun a z => ?_, fun a xs z => ?_⟩
  · by_cases e : a = p
    · subst e
      rcases r with r | ⟨o, r⟩
      · rw [upd_same] at r; cases r; exact .inl h
      · rw [upd_same] at r; cases r; exact (nz _ _ rfl).elim
    · refine m.rd a w s ?_
      rcases r with r | ⟨o, r⟩
      · rw [upd_ne e] at r; exact .inl r
      · rw [upd_ne e] at r; exact .inr ⟨o, r⟩
  · by_cases e : a = p
    · subst e; rw [h] at z; cases z
    · rw [upd_ne e]; exact m.dom a z
  · by_cases e : a = p
    · subst e; rw [upd_same] at z; cases z; exact h
    · rw [upd_ne e] at z; exact m.tp a xs z
/-- a new thing is kept for good: readable -/
theorem Stt.keep (s : Stt K Fr la σ ε G H) {p : Addr} {u : HO} (g : G p = none) (f : Fr p = none) (o : ∀ i, ¬ Own σ ε i p) (h : H p = some u) (nz : ∀ o w, u ≠ .frz o w) : Stt K Fr la σ ε (upd G p u) H where
  gh := upd_mo s.gh h nz
  fr := s.fr
  ds := fun a w e => by rw [upd_ne (ne_of_none e f)]; exact s.ds a w e
  len := s.len
  sl := fun i e he => by
    have q := s.sl i e he
    cases e with
    | un => trivial
    | im d => obtain ⟨v, q1, r⟩ := q; exact ⟨v, q1, r.mo (.up g)⟩
    | mu d =>
      obtain ⟨a, w, q1, g1, f1, hu, c⟩ := q
      have ne : a ≠ p := fun z => o i (z ▸ ⟨⟨_, he, trivial⟩, q1⟩)
      exact ⟨a, w, q1, by rw [upd_ne ne]; exact g1, f1, hu, c.mo (.up g)⟩
    | ln d =>
      obtain ⟨w, q1, g1, f1, hu, c⟩ := q
      have ne : la ≠ p := fun z => o i (z ▸ ⟨⟨_, he, trivial⟩, q1⟩)
      exact ⟨w, q1, by rw [upd_ne ne]; exact g1, f1, hu, c.mo (.up g)⟩
  sep := s.sep
/-- a new thing comes to a slot as the frame's own -/
theorem Stt.setM (s : Stt K Fr la σ ε G H) (i : Nat) {p : Addr} {d : D} (h : Fsh K Fr σ ε G H p d) : Stt K Fr la (σ.set i (some (.ref p))) (ε.set i (.mu d)) G H where
  gh := s.gh
  fr := s.fr
  ds := s.ds
  len := by rw [List.length_set, List.length_set]; exact s.len
  sl := fun j e he => by
    by_cases q : i = j
    · subst q
      by_cases l : i < ε.length
      · rw [List.getElem?_set_self l] at he; cases he
        obtain ⟨u, h1, h2⟩ := h.h
        exact ⟨p, u, List.getElem?_set_self (by rw [s.len]; exact l), h.g, h.f, h1, h2⟩
      · rw [List.getElem?_eq_none (by rw [List.length_set]; omega)] at he; cases he
    · rw [List.getElem?_set_ne q] at he ⊢
      exact s.sl j e he
  sep := by
    have back : ∀ j a, Own (σ.set i (some (.ref p))) (ε.set i (.mu d)) j a → (j = i ∧ a = p) ∨ Own σ ε j a := fun j a ⟨⟨e, he, ho⟩, hs⟩ => by
      by_cases q : i = j
      · subst q
        by_cases l : i < ε.length
        · rw [List.getElem?_set_self (by rw [s.len]; exact l)] at hs
          cases hs
          exact .inl ⟨rfl, rfl⟩
        · rw [List.getElem?_eq_none (by rw [List.length_set]; omega)] at he; cases he
      · rw [List.getElem?_set_ne q] at he hs
        exact .inr ⟨⟨e, he, ho⟩, hs⟩
    intro j k a x y
    rcases back j a x with ⟨e1, e2⟩ | x1
    · rcases back k a y with ⟨e3, _⟩ | y1
      · exact e1.trans e3.symm
      · rw [e2] at y1; exact (h.o k y1).elim
    · rcases back k a y with ⟨_, e2⟩ | y1
      · rw [e2] at x1; exact (h.o j x1).elim
      · exact s.sep j k a x1 y1
/-- an owned slot is given up: its list stays as it is from now on -/
theorem Stt.freeze (s : Stt K Fr la σ ε G H) {i : Nat} {d : D} (h : ε[i]? = some (.mu d)) : ∃ a u, σ[i]? = some (some (.ref a)) ∧ Mo G (upd G a u) ∧ Rp K (upd G a u) (.ref a) d ∧ Stt K Fr la σ (ε.set i (.im d)) (upd G a u) H := by
  obtain ⟨a, u, q1, g, f, hu, c⟩ := s.sl i _ h
  have m : Mo G (upd G a u) := .up g
  have rp : Rp K (upd G a u) (.ref a) d := c.rp m upd_same
  refine ⟨a, u, q1, m, rp, ?_⟩
  have hi : i < ε.length := (List.getElem?_eq_some_iff.mp h).1
  have own1 : ∀ j b, Own σ (ε.set i (.im d)) j b → Own σ ε j b ∧ j ≠ i := fun j b ⟨⟨e, he, ho⟩, hs⟩ => by
    by_cases q : i = j
    · subst q; rw [List.getElem?_set_self hi] at he; cases he; exact ho.elim
    · rw [List.getElem?_set_ne q] at he; exact ⟨⟨⟨e, he, ho⟩, hs⟩, Ne.symm q⟩
  refine ⟨upd_mo s.gh hu c.noFrz, s.fr, fun b w e => by rw [upd_ne (ne_of_none e f)]; exact s.ds b w e, by rw [List.length_set]; exact s.len, fun j e he => ?_, fun j k b x y => s.sep j k b (own1 j b x).1 (own1 k b y).1⟩
  by_cases q : i = j
  · subst q
    rw [List.getElem?_set_self hi] at he; cases he
    exact ⟨.ref a, q1, rp⟩
  · rw [List.getElem?_set_ne q] at he
    have z := s.sl j e he
    have neA : ∀ b, IsOwn e → σ[j]? = some (some (.ref b)) → b ≠ a := fun b ho hs e1 => q (s.sep i j a ⟨⟨_, h, trivial⟩, q1⟩ ⟨⟨e, he, ho⟩, e1 ▸ hs⟩)
    cases e with
    | un => trivial
    | im d => obtain ⟨v, q1, r⟩ := z; exact ⟨v, q1, r.mo m⟩
    | mu d =>
      obtain ⟨b, w, q1, g1, f1, hw, cw⟩ := z
      exact ⟨b, w, q1, by rw [upd_ne (neA b trivial q1)]; exact g1, f1, hw, cw.mo m⟩
    | ln d =>
      obtain ⟨w, q1, g1, f1, hw, cw⟩ := z
      exact ⟨w, q1, by rw [upd_ne (neA la trivial q1)]; exact g1, f1, hw, cw.mo m⟩
/-- an owned slot's list or dict is written -/
theorem Stt.write (s : Stt K Fr la σ ε G H) {i : Nat} {a : Addr} {u : HO} {d : D} {ε' : En} (h : Own σ ε i a) (hu : upc ε i d = some ε') (c : Cont K G u d) : Stt K Fr la σ ε' G (upd H a u) := by
  obtain ⟨g, f, u0, d0, _, hH, c0⟩ := s.own h
  have mo : Mo G (upd H a u) := ⟨fun b w sn r => by
    have ne : b ≠ a := fun z => by
      subst z
      rcases r with r | ⟨o, r⟩ <;> (rw [g] at r; cases r)
    rcases s.gh.rd b w sn r with q | ⟨o, q⟩
    · exact .inl (by rw [upd_ne ne]; exact q)
    · exact .inr ⟨o, by rw [upd_ne ne]; exact q⟩, fun b z => by
    by_cases e : b = a
    · subst e; rw [upd_same] at z; cases z
    · rw [upd_ne e] at z; exact s.gh.dom b z, fun b xs z => by
    have ne : b ≠ a := fun e => by rw [e, g] at z; cases z
    rw [upd_ne ne]; exact s.gh.tp b xs z⟩
  have fr : Ex Fr (upd H a u) := fun b o e => by rw [upd_ne (ne_of_none e f)]; exact s.fr b o e
  obtain ⟨⟨e0, he0, ho0⟩, hs0⟩ := id h
  have hi : i < ε.length := (List.getElem?_eq_some_iff.mp he0).1
  have key : ∀ e1 : SD, IsOwn e1 → (∀ H1 : Hp, H1 a = some u → Slot K Fr G H1 la σ[i]? e1) → Stt K Fr la σ (ε.set i e1) G (upd H a u) := fun e1 ho1 hs1 => by
    have back : ∀ j b, Own σ (ε.set i e1) j b → Own σ ε j b := fun j b ⟨⟨e, he, ho⟩, hs⟩ => by
      by_cases q : i = j
      · subst q; exact ⟨⟨e0, he0, ho0⟩, hs⟩
      · rw [List.getElem?_set_ne q] at he; exact ⟨⟨e, he, ho⟩, hs⟩
    refine ⟨mo, fr, s.ds, by rw [List.length_set]; exact s.len, fun j e he => ?_, fun j k b x y => s.sep j k b (back j b x) (back k b y)⟩
    by_cases q : i = j
    · subst q
      rw [List.getElem?_set_self hi] at he; cases he
      exact hs1 _ upd_same
    · rw [List.getElem?_set_ne q] at he
      have z := s.sl j e he
      have neA : ∀ b, IsOwn e → σ[j]? = some (some (.ref b)) → b ≠ a := fun b ho hs e1 => q (s.sep i j a h ⟨⟨e, he, ho⟩, e1 ▸ hs⟩)
      cases e with
      | un => trivial
      | im d => exact z
      | mu d =>
        obtain ⟨b, w, q1, g1, f1, hw, cw⟩ := z
        exact ⟨b, w, q1, g1, f1, by rw [upd_ne (neA b trivial q1)]; exact hw, cw⟩
      | ln d =>
        obtain ⟨w, q1, g1, f1, hw, cw⟩ := z
        exact ⟨w, q1, g1, f1, by rw [upd_ne (neA la trivial q1)]; exact hw, cw⟩
  unfold upc at hu
  rw [he0] at hu
  cases e0 with
  | un => exact ho0.elim
  | im d => exact ho0.elim
  | mu d1 =>
    cases hu
    exact key _ trivial fun H1 h1 => ⟨a, u, hs0, g, f, h1, c⟩
  | ln d1 =>
    cases hu
    obtain ⟨w, q1, _⟩ := s.sl i _ he0
    rw [hs0] at q1; cases q1
    exact key _ trivial fun H1 h1 => ⟨u, hs0, g, f, h1, c⟩
end
end PL

-- PLrule
/-! PL, readings and what they compute. -/
namespace PL
open PySem PySem.Spec PyProof.Rows L2

section
variable (K : PySem.W.Frag)
def RE (t : TE) (f : WE) : Prop := ∀ (Fr : Hp) (la : Addr) (σ : L2.St) (ε : En) (G H : Hp) (d : D) (ε' : En) (Q : VK), Stt K Fr la σ ε G H → f ε = some (d, ε') →
  (∀ v G' H', Mo G G' → Stt K Fr la σ ε' G' H' → Rp K G' v d → Q v H') → t σ H Q
def RF (t : TE) (f : WE) : Prop := ∀ (Fr : Hp) (la : Addr) (σ : L2.St) (ε : En) (G H : Hp) (d : D) (ε' : En) (Q : VK), Stt K Fr la σ ε G H → f ε = some (d, ε') →
  (∀ p G' H', Mo G G' → Stt K Fr la σ ε' G' H' → Fsh K Fr σ ε' G' H' p d → Q (.ref p) H') → t σ H Q
def RT (t : TT) (f : WT) : Prop := ∀ (Fr : Hp) (la : Addr) (σ : L2.St) (ε : En) (G H : Hp) (b : Bool) (ε' : En) (Q : Bool → Hp → Prop), Stt K Fr la σ ε G H → f ε = some (b, ε') →
  (∀ G' H', Mo G G' → Stt K Fr la σ ε' G' H' → Q b H') → t σ H Q
def RL (t : TA) (fs : List WE) : Prop := ∀ (Fr : Hp) (la : Addr) (σ : L2.St) (ε : En) (G H : Hp) (ds : List D) (ε' : En) (Q : List V → Hp → Prop), Stt K Fr la σ ε G H → evl fs ε = some (ds, ε') →
  (∀ vs G' H', Mo G G' → Stt K Fr la σ ε' G' H' → RpA K G' vs ds → Q vs H') → t σ H Q
/-- an operand's value: data, or the slot's -/
def OV (σ : L2.St) (G : Hp) : Opd → Option D → V → Prop
  | .e _, some d, v => Rp K G v d
  | .s i, _, v => σ[i]? = some (some v)
  | _, _, _ => False
def RO (t : TE) (o : Opd) : Prop := ∀ (Fr : Hp) (la : Addr) (σ : L2.St) (ε : En) (G H : Hp) (x : Option D) (ε' : En) (Q : VK), Stt K Fr la σ ε G H → o.ev ε = some (x, ε') →
  (∀ v G' H', Mo G G' → Stt K Fr la σ ε' G' H' → OV K σ G' o x v → Q v H') → t σ H Q
inductive OVs (σ : L2.St) (G : Hp) : List Opd → List (Option D) → List V → Prop
  | nil : OVs σ G [] [] []
  | cons {o os x xs v vs} : OV K σ G o x v → OVs σ G os xs vs → OVs σ G (o :: os) (x :: xs) (v :: vs)
def RP (t : TA) (os : List Opd) : Prop := ∀ (Fr : Hp) (la : Addr) (σ : L2.St) (ε : En) (G H : Hp) (xs : List (Option D)) (ε' : En) (Q : List V → Hp → Prop), Stt K Fr la σ ε G H → evs os ε = some (xs, ε') →
  (∀ vs G' H', Mo G G' → Stt K Fr la σ ε' G' H' → OVs K σ G' os xs vs → Q vs H') → t σ H Q
/-- what may be read just now -/
inductive Rb (G H : Hp) : V → D → Prop
  | rp {v d} : Rp K G v d → Rb G H v d
  | own {a u d} : H a = some u → Cont K G u d → Rb G H (.ref a) d
inductive RbA (G H : Hp) : List V → List D → Prop
  | nil : RbA G H [] []
  | cons {v vs d ds} : Rb K G H v d → RbA G H vs ds → RbA G H (v :: vs) (d :: ds)
/-- operations on values -/
def V1 (r : V → Hp → VK → Prop) (g : D → Option D) : Prop := ∀ (G H : Hp) (x : V) (dx d : D) (Q : VK), Mo G H → Rb K G H x dx → g dx = some d → (∀ v G' H', New G H G' H' → Rp K G' v d → Q v H') → r x H Q
def V2 (r : R2) (g : D → D → Option D) : Prop := ∀ (G H : Hp) (x y : V) (dx dy d : D) (Q : VK), Mo G H → Rb K G H x dx → Rb K G H y dy → g dx dy = some d → (∀ v G' H', New G H G' H' → Rp K G' v d → Q v H') → r x y H Q
def VN (r : List V → Hp → VK → Prop) (g : List D → Option D) : Prop := ∀ (G H : Hp) (xs : List V) (ds : List D) (d : D) (Q : VK), Mo G H → RbA K G H xs ds → g ds = some d → (∀ v G' H', New G H G' H' → Rp K G' v d → Q v H') → r xs H Q
/-- .. whose answer is a new list or dict -/
def V2F (r : R2) (g : D → D → Option D) : Prop := ∀ (G H : Hp) (x y : V) (dx dy d : D) (Q : VK), Mo G H → Rb K G H x dx → Rb K G H y dy → g dx dy = some d → (∀ p G' H', New G H G' H' → H p = none → G' p = none → (∃ u, H' p = some u ∧ Cont K G' u d) → Q (.ref p) H') → r x y H Q
def VNF (r : List V → Hp → VK → Prop) (g : List D → Option D) : Prop := ∀ (G H : Hp) (xs : List V) (ds : List D) (d : D) (Q : VK), Mo G H → RbA K G H xs ds → g ds = some d → (∀ p G' H', New G H G' H' → H p = none → G' p = none → (∃ u, H' p = some u ∧ Cont K G' u d) → Q (.ref p) H') → r xs H Q
end
section
variable {K : PySem.W.Frag} {Fr : Hp} {la : Addr} {σ : L2.St} {ε : En} {G H G' H' : Hp}
theorem OV.mo (m : Mo G G') {o : Opd} {x : Option D} {v : V} (h : OV K σ G o x v) : OV K σ G' o x v := by
  cases o with
  | s i => exact h
  | e f =>
    cases x with
    | none => exact h
    | some d => exact Rp.mo m h
theorem OVs.mo (m : Mo G G') {os : List Opd} {xs : List (Option D)} {vs : List V} (h : OVs K σ G os xs vs) : OVs K σ G' os xs vs := by
  induction h with
  | nil => exact .nil
  | cons q _ ih => exact .cons (q.mo m) ih
theorem OV.fin (s : Stt K Fr la σ ε G H) {o : Opd} {x : Option D} {v : V} {d : D} (h : OV K σ G o x v) (e : o.fin x ε = some d) : Rb K G H v d := by
  cases o with
  | e f =>
    cases x with
    | none => exact h.elim
    | some d' =>
      have : d' = d := Option.some.inj e
      subst this
      exact .rp h
  | s i =>
    have e : rd ε i = some d := e
    unfold rd at e
    cases q : ε[i]? with
    | none => rw [q] at e; cases e
    | some sd =>
      rw [q] at e
      have z := s.sl i sd q
      have h : σ[i]? = some (some v) := h
      cases sd with
      | un => cases e
      | im d' =>
        cases e
        obtain ⟨w, q1, r⟩ := z
        rw [h] at q1; cases q1
        exact .rp r
      | mu d' =>
        cases e
        obtain ⟨a, u, q1, g, f, hu, c⟩ := z
        rw [h] at q1; cases q1
        exact .own hu c
      | ln d' =>
        cases e
        obtain ⟨u, q1, g, f, hu, c⟩ := z
        rw [h] at q1; cases q1
        exact .own hu c
theorem OVs.fin (s : Stt K Fr la σ ε G H) : ∀ {os : List Opd} {xs : List (Option D)} {vs : List V} {ds : List D}, OVs K σ G os xs vs → fins os xs ε = some ds → RbA K G H vs ds
  | _, _, _, ds, .nil, e => by
    have : ds = [] := (Option.some.inj e).symm
    subst this; exact .nil
  | _, _, _, ds, .cons (o := o) (os := os) (x := x) (xs := xs) q t, e => by
    unfold fins at e
    cases e1 : o.fin x ε with
    | none => rw [e1] at e; cases e
    | some d =>
      rw [e1] at e
      cases e2 : fins os xs ε with
      | none => rw [e2] at e; cases e
      | some es =>
        rw [e2] at e
        have : ds = d :: es := (Option.some.inj e).symm
        subst this
        exact .cons (q.fin s e1) (OVs.fin s t e2)
theorem Fsh.of_new (s : Stt K Fr la σ ε G H) (n : New G H G' H') {p : Addr} {d : D} (hp : H p = none) (g : G' p = none) (c : ∃ u, H' p = some u ∧ Cont K G' u d) : Fsh K Fr σ ε G' H' p d := by
  refine ⟨g, ?_, c, fun i h => ?_⟩
  · cases e : Fr p with
    | none => rfl
    | some o => rw [s.fr p o e] at hp; cases hp
  · obtain ⟨_, _, u, _, _, hu, _⟩ := s.own h
    rw [hp] at hu; cases hu
theorem bind_some {α β : Type} {o : Option α} {k : α → Option β} {b : β} (h : o.bind k = some b) : ∃ a, o = some a ∧ k a = some b := by
  cases o with
  | none => cases h
  | some a => exact ⟨a, rfl, h⟩

/-! ### names, constants -/
theorem re_c {v : V} {d : D} (h : ∀ H, Rp K H v d) : RE K (tC v) (cE d) := fun Fr la σ ε G H d' ε' Q s e q => by
  cases e
  exact q v G H (.refl G) s (h G)
theorem re_v {i : Nat} : RE K (tVar i) (vE i) := fun Fr la σ ε G H d ε' Q s e q => by
  unfold vE at e
  cases h : ε[i]? with
  | none => rw [h] at e; cases e
  | some sd =>
    rw [h] at e
    cases sd with
    | un => cases e
    | ln d => cases e
    | im d =>
      cases e
      obtain ⟨v, q1, r⟩ := s.sl i _ h
      exact ⟨v, q1, q v G H (.refl G) s r⟩
    | mu d =>
      cases e
      obtain ⟨a, u, q1, m, rp, s'⟩ := s.freeze h
      exact ⟨_, q1, q _ _ H m s' rp⟩
theorem ro_e {t : TE} {f : WE} (h : RE K t f) : RO K t (.e f) := fun Fr la σ ε G H x ε' Q s e q => by
  obtain ⟨p, e1, e2⟩ := bind_some e
  cases e2
  exact h Fr la σ ε G H p.1 p.2 Q s e1 fun v G' H' m s' r => q v G' H' m s' r
theorem ro_s {i : Nat} : RO K (tVar i) (.s i) := fun Fr la σ ε G H x ε' Q s e q => by
  obtain ⟨d, e1, e2⟩ := bind_some e
  cases e2
  have hv : ∃ v, σ[i]? = some (some v) := by
    unfold rd at e1
    cases h : ε[i]? with
    | none => rw [h] at e1; cases e1
    | some sd =>
      rw [h] at e1
      have z := s.sl i sd h
      cases sd with
      | un => cases e1
      | im d => obtain ⟨v, q1, _⟩ := z; exact ⟨v, q1⟩
      | mu d => obtain ⟨a, u, q1, _⟩ := z; exact ⟨_, q1⟩
      | ln d => obtain ⟨u, q1, _⟩ := z; exact ⟨_, q1⟩
  obtain ⟨v, hv⟩ := hv
  exact ⟨v, hv, q v G H (.refl G) s hv⟩
theorem RF.re {t : TE} {f : WE} (h : RF K t f) : RE K t f := fun Fr la σ ε G H d ε' Q s e q =>
  h Fr la σ ε G H d ε' Q s e fun p G' H' m s' fr => by
    obtain ⟨u, hu, c⟩ := fr.h
    have m2 : Mo G' (upd G' p u) := .up fr.g
    exact q (.ref p) _ H' (m.trans m2) (s'.keep fr.g fr.f fr.o hu c.noFrz) (c.rp m2 upd_same)
/-! ### items one after another -/
theorem rl_nil : RL K tNil [] := fun Fr la σ ε G H ds ε' Q s e q => by
  cases e
  exact q [] G H (.refl G) s .nil
theorem rl_cons {te : TE} {t : TA} {f : WE} {fs : List WE} (h1 : RE K te f) (h2 : RL K t fs) : RL K (tCons te t) (f :: fs) := fun Fr la σ ε G H ds ε' Q s e q => by
  obtain ⟨p, e1, e⟩ := bind_some e
  obtain ⟨r, e2, e⟩ := bind_some e
  cases e
  refine h1 Fr la σ ε G H p.1 p.2 _ s e1 fun v G1 H1 m1 s1 r1 => ?_
  exact h2 Fr la σ p.2 G1 H1 r.1 r.2 _ s1 e2 fun vs G2 H2 m2 s2 r2 => q (v :: vs) G2 H2 (m1.trans m2) s2 (.cons (r1.mo m2) r2)
theorem rp_nil : RP K tNil [] := fun Fr la σ ε G H ds ε' Q s e q => by
  cases e
  exact q [] G H (.refl G) s .nil
theorem rp_cons {te : TE} {t : TA} {o : Opd} {os : List Opd} (h1 : RO K te o) (h2 : RP K t os) : RP K (tCons te t) (o :: os) := fun Fr la σ ε G H ds ε' Q s e q => by
  obtain ⟨p, e1, e⟩ := bind_some e
  obtain ⟨r, e2, e⟩ := bind_some e
  cases e
  refine h1 Fr la σ ε G H p.1 p.2 _ s e1 fun v G1 H1 m1 s1 r1 => ?_
  exact h2 Fr la σ p.2 G1 H1 r.1 r.2 _ s1 e2 fun vs G2 H2 m2 s2 r2 => q (v :: vs) G2 H2 (m1.trans m2) s2 (.cons (r1.mo m2) r2)
/-! ### operations -/
theorem re_op2 {ta tb : TE} {a b : Opd} {r : R2} {g : D → D → Option D} (ha : RO K ta a) (hb : RO K tb b) (hr : V2 K r g) : RE K (tOp r ta tb) (op2 g a b) := fun Fr la σ ε G H d ε' Q s e q => by
  obtain ⟨p, e1, e⟩ := bind_some e
  obtain ⟨p2, e2, e⟩ := bind_some e
  obtain ⟨x, e3, e⟩ := bind_some e
  obtain ⟨y, e4, e⟩ := bind_some e
  obtain ⟨z, e5, e⟩ := bind_some e
  cases e
  refine ha Fr la σ ε G H p.1 p.2 _ s e1 fun v G1 H1 m1 s1 r1 => ?_
  refine hb Fr la σ p.2 G1 H1 p2.1 p2.2 _ s1 e2 fun v2 G2 H2 m2 s2 r2 => ?_
  exact hr G2 H2 v v2 x y d Q s2.gh ((r1.mo m2).fin s2 e3) (r2.fin s2 e4) e5 fun w G' H' n rw => q w G' H' ((m1.trans m2).trans n.mo) (s2.new n) rw
theorem rf_op2 {ta tb : TE} {a b : Opd} {r : R2} {g : D → D → Option D} (ha : RO K ta a) (hb : RO K tb b) (hr : V2F K r g) : RF K (tOp r ta tb) (op2 g a b) := fun Fr la σ ε G H d ε' Q s e q => by
  obtain ⟨p, e1, e⟩ := bind_some e
  obtain ⟨p2, e2, e⟩ := bind_some e
  obtain ⟨x, e3, e⟩ := bind_some e
  obtain ⟨y, e4, e⟩ := bind_some e
  obtain ⟨z, e5, e⟩ := bind_some e
  cases e
  refine ha Fr la σ ε G H p.1 p.2 _ s e1 fun v G1 H1 m1 s1 r1 => ?_
  refine hb Fr la σ p.2 G1 H1 p2.1 p2.2 _ s1 e2 fun v2 G2 H2 m2 s2 r2 => ?_
  exact hr G2 H2 v v2 x y d Q s2.gh ((r1.mo m2).fin s2 e3) (r2.fin s2 e4) e5 fun w G' H' n hp hg c => q w G' H' ((m1.trans m2).trans n.mo) (s2.new n) (.of_new s2 n hp hg c)
theorem re_op1 {ta : TE} {a : Opd} {r : V → Hp → VK → Prop} {g : D → Option D} (ha : RO K ta a) (hr : V1 K r g) : RE K (tUn r ta) (op1 g a) := fun Fr la σ ε G H d ε' Q s e q => by
  obtain ⟨p, e1, e⟩ := bind_some e
  obtain ⟨x, e3, e⟩ := bind_some e
  obtain ⟨z, e5, e⟩ := bind_some e
  cases e
  refine ha Fr la σ ε G H p.1 p.2 _ s e1 fun v G1 H1 m1 s1 r1 => ?_
  exact hr G1 H1 v x d Q s1.gh (r1.fin s1 e3) e5 fun w G' H' n rw => q w G' H' (m1.trans n.mo) (s1.new n) rw
theorem re_cb {t : TA} {os : List Opd} {r : List V → Hp → VK → Prop} {g : List D → Option D} (ha : RP K t os) (hr : VN K r g) : RE K (tCB r t) (opN g os) := fun Fr la σ ε G H d ε' Q s e q => by
  obtain ⟨p, e1, e⟩ := bind_some e
  obtain ⟨x, e3, e⟩ := bind_some e
  obtain ⟨z, e5, e⟩ := bind_some e
  cases e
  refine ha Fr la σ ε G H p.1 p.2 _ s e1 fun vs G1 H1 m1 s1 r1 => ?_
  exact hr G1 H1 vs x d Q s1.gh (r1.fin s1 e3) e5 fun w G' H' n rw => q w G' H' (m1.trans n.mo) (s1.new n) rw
theorem rf_cb {t : TA} {os : List Opd} {r : List V → Hp → VK → Prop} {g : List D → Option D} (ha : RP K t os) (hr : VNF K r g) : RF K (tCB r t) (opN g os) := fun Fr la σ ε G H d ε' Q s e q => by
  obtain ⟨p, e1, e⟩ := bind_some e
  obtain ⟨x, e3, e⟩ := bind_some e
  obtain ⟨z, e5, e⟩ := bind_some e
  cases e
  refine ha Fr la σ ε G H p.1 p.2 _ s e1 fun vs G1 H1 m1 s1 r1 => ?_
  exact hr G1 H1 vs x d Q s1.gh (r1.fin s1 e3) e5 fun w G' H' n hp hg c => q w G' H' (m1.trans n.mo) (s1.new n) (.of_new s1 n hp hg c)
/-! ### displays -/
theorem evl_len : ∀ {fs : List WE} {ε : En} {ds : List D} {ε' : En}, evl fs ε = some (ds, ε') → ds.length = fs.length
  | [], _, _, _, e => by cases e; rfl
  | f :: fs, ε, ds, ε', e => by
    obtain ⟨p, e1, e⟩ := bind_some e
    obtain ⟨r, e2, e⟩ := bind_some e
    cases e
    rw [List.length_cons, List.length_cons, evl_len e2]
theorem rf_lst {t : TA} {fs : List WE} (h : RL K t fs) (hl : fs.length ≤ 1000 := by decide) : RF K (tLst t) (lstE fs) := fun Fr la σ ε G H d ε' Q s e q => by
  obtain ⟨p, e1, e⟩ := bind_some e
  cases e
  refine h Fr la σ ε G H p.1 p.2 _ s e1 fun vs G1 H1 m1 s1 r1 => ?_
  refine ⟨?_, fun a ha => ?_⟩
  · rw [r1.length, evl_len e1]
    exact Nat.le_of_lt (small1000 hl)
  · have n : New G1 H1 G1 (upd H1 a (.lst vs)) := .own s1.gh ha
    exact q a G1 _ m1 (s1.new n) (.of_new s1 n ha (s1.gh.dom a ha) ⟨_, upd_same, .lst r1⟩)
theorem re_tup {t : TA} {fs : List WE} (h : RL K t fs) (hl : fs.length ≤ 1000 := by decide) : RE K (tTup t) (tupE fs) := fun Fr la σ ε G H d ε' Q s e q => by
  obtain ⟨p, e1, e⟩ := bind_some e
  cases e
  refine h Fr la σ ε G H p.1 p.2 _ s e1 fun vs G1 H1 m1 s1 r1 => ?_
  refine ⟨?_, fun a ha => ?_⟩
  · rw [r1.length, evl_len e1]
    exact Nat.le_of_lt (small1000 hl)
  · have n : New G1 H1 (upd G1 a (.tup vs)) (upd H1 a (.tup vs)) := .one s1.gh ha
    exact q (.ref a) _ _ (m1.trans n.mo) (s1.new n) (.tup upd_same (r1.mo n.mo))
/-! ### tests, and, or, not -/
theorem rt_test {te : TE} {f : WE} (h : RE K te f) : RT K (tTest te) (bT f) := fun Fr la σ ε G H b ε' Q s e q => by
  obtain ⟨p, e1, e⟩ := bind_some e
  refine h Fr la σ ε G H p.1 p.2 _ s e1 fun v G1 H1 m1 s1 r1 => ?_
  obtain ⟨d, ε1⟩ := p
  cases d with
  | bool k =>
    cases e
    cases r1
    exact ⟨_, rfl, q G1 H1 m1 s1⟩
  | _ => cases e
theorem rt_B {te : TE} {f : WE} (h : RE K te f) : RT K (tB te) (bT f) := fun Fr la σ ε G H b ε' Q s e q => by
  obtain ⟨p, e1, e⟩ := bind_some e
  refine h Fr la σ ε G H p.1 p.2 _ s e1 fun v G1 H1 m1 s1 r1 => ?_
  obtain ⟨d, ε1⟩ := p
  cases d with
  | bool k =>
    cases e
    cases r1
    exact ⟨_, rfl, q G1 H1 m1 s1⟩
  | _ => cases e
theorem rt_not {t : TT} {f : WT} (h : RT K t f) : RT K (tNot t) (notT f) := fun Fr la σ ε G H b ε' Q s e q => by
  obtain ⟨p, e1, e⟩ := bind_some e
  cases e
  exact h Fr la σ ε G H p.1 p.2 _ s e1 fun G1 H1 m1 s1 => q G1 H1 m1 s1
theorem rt_and {t u : TT} {f g : WT} (h1 : RT K t f) (h2 : RT K u g) : RT K (tAnd t u) (andT f g) := fun Fr la σ ε G H b ε' Q s e q => by
  obtain ⟨⟨k, ε1⟩, e1, e⟩ := bind_some e
  refine h1 Fr la σ ε G H k ε1 _ s e1 fun G1 H1 m1 s1 => ?_
  cases k with
  | true => exact h2 Fr la σ ε1 G1 H1 b ε' Q s1 e fun G2 H2 m2 s2 => q G2 H2 (m1.trans m2) s2
  | false =>
    cases e
    exact q G1 H1 m1 s1
theorem rt_or {t u : TT} {f g : WT} (h1 : RT K t f) (h2 : RT K u g) : RT K (tOr t u) (orT f g) := fun Fr la σ ε G H b ε' Q s e q => by
  obtain ⟨⟨k, ε1⟩, e1, e⟩ := bind_some e
  refine h1 Fr la σ ε G H k ε1 _ s e1 fun G1 H1 m1 s1 => ?_
  cases k with
  | false => exact h2 Fr la σ ε1 G1 H1 b ε' Q s1 e fun G2 H2 m2 s2 => q G2 H2 (m1.trans m2) s2
  | true =>
    cases e
    exact q G1 H1 m1 s1
theorem rt_yes : RT K tYes yesT := fun Fr la σ ε G H b ε' Q s e q => by
  cases e
  exact q G H (.refl G) s
theorem bT_some {f : WE} {ε ε' : En} {b : Bool} (e : bT f ε = some (b, ε')) : f ε = some (.bool b, ε') := by
  obtain ⟨⟨d, ε1⟩, e1, e⟩ := bind_some e
  cases d with
  | bool k => cases e; exact e1
  | _ => cases e
theorem re_and {ta tb : TE} {f g : WE} (h1 : RE K ta f) (h2 : RE K tb g) : RE K (tAndV ta tb) (andE f g) := fun Fr la σ ε G H d ε' Q s e q => by
  obtain ⟨⟨k, ε1⟩, e1, e⟩ := bind_some e
  refine h1 Fr la σ ε G H _ ε1 _ s (bT_some e1) fun v G1 H1 m1 s1 r1 => ?_
  cases r1
  refine ⟨k, rfl, ?_⟩
  cases k with
  | true => exact h2 Fr la σ ε1 G1 H1 d ε' Q s1 e fun v G2 H2 m2 s2 => q v G2 H2 (m1.trans m2) s2
  | false =>
    cases e
    exact q _ G1 H1 m1 s1 (.bl false)
theorem re_or {ta tb : TE} {f g : WE} (h1 : RE K ta f) (h2 : RE K tb g) : RE K (tOrV ta tb) (orE f g) := fun Fr la σ ε G H d ε' Q s e q => by
  obtain ⟨⟨k, ε1⟩, e1, e⟩ := bind_some e
  refine h1 Fr la σ ε G H _ ε1 _ s (bT_some e1) fun v G1 H1 m1 s1 r1 => ?_
  cases r1
  refine ⟨k, rfl, ?_⟩
  cases k with
  | false => exact h2 Fr la σ ε1 G1 H1 d ε' Q s1 e fun v G2 H2 m2 s2 => q v G2 H2 (m1.trans m2) s2
  | true =>
    cases e
    exact q _ G1 H1 m1 s1 (.bl true)
theorem re_not {ta : TE} {f : WE} (h1 : RE K ta f) : RE K (tNotV ta) (notE f) := fun Fr la σ ε G H d ε' Q s e q => by
  obtain ⟨⟨k, ε1⟩, e1, e⟩ := bind_some e
  cases e
  refine h1 Fr la σ ε G H _ ε1 _ s (bT_some e1) fun v G1 H1 m1 s1 r1 => ?_
  cases r1
  exact ⟨k, rfl, q _ G1 H1 m1 s1 (.bl _)⟩
theorem re_if {t : TT} {ta tb : TE} {w : WT} {f g : WE} (h : RT K t w) (h1 : RE K ta f) (h2 : RE K tb g) : RE K (tIf t ta tb) (ifE w f g) := fun Fr la σ ε G H d ε' Q s e q => by
  obtain ⟨⟨k, ε1⟩, e1, e⟩ := bind_some e
  refine h Fr la σ ε G H k ε1 _ s e1 fun G1 H1 m1 s1 => ?_
  cases k with
  | true => exact h1 Fr la σ ε1 G1 H1 d ε' Q s1 e fun v G2 H2 m2 s2 => q v G2 H2 (m1.trans m2) s2
  | false => exact h2 Fr la σ ε1 G1 H1 d ε' Q s1 e fun v G2 H2 m2 s2 => q v G2 H2 (m1.trans m2) s2
/-! ### statements -/
end
section
variable (K : PySem.W.Frag)
def EndOk (Fr : Hp) (la : Addr) (G : Hp) (D : Ends) : Out → Prop
  | .nx ε' => ∀ σ' G' H', Mo G G' → Stt K Fr la σ' ε' G' H' → D.nx σ' H'
  | .bk ε' => ∀ σ' G' H', Mo G G' → Stt K Fr la σ' ε' G' H' → D.bk σ' H'
  | .ct ε' => ∀ σ' G' H', Mo G G' → Stt K Fr la σ' ε' G' H' → D.ct σ' H'
  | .rt d ε' => ∀ v σ' G' H', Mo G G' → Stt K Fr la σ' ε' G' H' → Rp K G' v d → D.rt v H'
def RS (t : TS) (W : WS) : Prop := ∀ (Fr : Hp) (la : Addr) (σ : L2.St) (ε : En) (G H : Hp) (o : Out) (D : Ends), Stt K Fr la σ ε G H → W ε = some o → EndOk K Fr la G D o → t D σ H
/-- alike but at the slots -/
def But (sl : List Nat) (σ σ' : L2.St) : Prop := σ'.length = σ.length ∧ ∀ i : Nat, i ∉ sl → σ'[i]? = σ[i]?
def RG (g : TG) (w : WG) (sl : List Nat) : Prop := ∀ (Fr : Hp) (la : Addr) (σ : L2.St) (ε : En) (G H : Hp) (v : V) (d : D) (ε' : En) (Q : L2.St → Hp → Prop), Stt K Fr la σ ε G H → Rp K G v d → w d ε = some ε' → (∀ σ', But sl σ σ' → Stt K Fr la σ' ε' G H → Q σ' H) → g v σ H Q
def RGs (g : TGs) (ws : List WG) (sl : List Nat) : Prop := ∀ (Fr : Hp) (la : Addr) (σ : L2.St) (ε : En) (G H : Hp) (vs : List V) (ds : List D) (ε' : En) (Q : L2.St → Hp → Prop), Stt K Fr la σ ε G H → RpA K G vs ds → gAll ws ds ε = some ε' → (∀ σ', But sl σ σ' → Stt K Fr la σ' ε' G H → Q σ' H) → g vs σ H Q
end
section
variable {K : PySem.W.Frag} {Fr : Hp} {la : Addr} {σ : L2.St} {ε : En} {G H G' H' : Hp}
theorem EndOk.mo (m : Mo G G') {D : Ends} {o : Out} (h : EndOk K Fr la G D o) : EndOk K Fr la G' D o := by
  cases o with
  | nx ε' => exact fun σ' G2 H2 m2 s => h σ' G2 H2 (m.trans m2) s
  | bk ε' => exact fun σ' G2 H2 m2 s => h σ' G2 H2 (m.trans m2) s
  | ct ε' => exact fun σ' G2 H2 m2 s => h σ' G2 H2 (m.trans m2) s
  | rt d ε' => exact fun v σ' G2 H2 m2 s => h v σ' G2 H2 (m.trans m2) s
theorem rs_nil : RS K tNext nilS := fun Fr la σ ε G H o D s e q => by
  cases e
  exact q σ G H (.refl G) s
theorem rs_seq {t u : TS} {W X : WS} (h1 : RS K t W) (h2 : RS K u X) : RS K (tSeq t u) (seqS W X) := fun Fr la σ ε G H o D s e q => by
  obtain ⟨o1, e1, e⟩ := bind_some e
  refine h1 Fr la σ ε G H o1 _ s e1 ?_
  cases o1 with
  | nx ε1 => exact fun σ1 G1 H1 m1 s1 => h2 Fr la σ1 ε1 G1 H1 o D s1 e (q.mo m1)
  | bk ε1 => cases e; exact q
  | ct ε1 => cases e; exact q
  | rt d ε1 => cases e; exact q
theorem rg_name {i : Nat} : RG K (gName i) (gN i) [i] := fun Fr la σ ε G H v d ε' Q s r e q => by
  cases e
  exact q _ ⟨List.length_set, fun j hj => List.getElem?_set_ne fun z => hj (by rw [z]; exact List.mem_singleton_self j)⟩ (s.set i r)
theorem rgs_nil : RGs K gNil [] [] := fun Fr la σ ε G H vs ds ε' Q s r e q => by
  cases r with
  | nil =>
    cases e
    exact ⟨rfl, q σ ⟨rfl, fun _ _ => rfl⟩ s⟩
  | cons _ _ => cases e
theorem rgs_cons {g : TG} {gs : TGs} {w : WG} {ws : List WG} {sl sls : List Nat} (h1 : RG K g w sl) (h2 : RGs K gs ws sls) : RGs K (gCons g gs) (w :: ws) (sl ++ sls) := fun Fr la σ ε G H vs ds ε' Q s r e q => by
  cases r with
  | nil => cases e
  | cons r1 r2 =>
    obtain ⟨ε1, e1, e⟩ := bind_some e
    exact ⟨_, _, rfl, h1 Fr la σ ε G H _ _ ε1 _ s r1 e1 fun σ1 b1 s1 => h2 Fr la σ1 ε1 G H _ _ ε' Q s1 r2 e fun σ2 b2 s2 => q σ2 ⟨b2.1.trans b1.1, fun i hi => (b2.2 i fun z => hi (List.mem_append_right _ z)).trans (b1.2 i fun z => hi (List.mem_append_left _ z))⟩ s2⟩
theorem gAll_len : ∀ {ws : List WG} {ds : List D} {ε ε' : En}, gAll ws ds ε = some ε' → ds.length = ws.length
  | [], [], _, _, _ => rfl
  | [], _ :: _, _, _, e => by cases e
  | _ :: _, [], _, _, e => by cases e
  | w :: ws, d :: ds, _, _, e => by
    obtain ⟨ε1, e1, e⟩ := bind_some e
    rw [List.length_cons, List.length_cons, gAll_len e]
theorem rg_tup {gs : TGs} {ws : List WG} {n : Nat} {sl : List Nat} (h : RGs K gs ws sl) (hn : ws.length = n := by rfl) : RG K (gTup K n gs) (gT ws) sl := fun Fr la σ ε G H v d ε' Q s r e q => by
  cases d with
  | tuple ds =>
    cases r with
    | tup hq r =>
      exact ⟨_, _, rfl, .of (s.gh.tp _ _ hq), by rw [r.length, gAll_len e, hn], h Fr la σ ε G H _ _ ε' Q s r e q⟩
  | _ => cases e
theorem rs_asg {te : TE} {g : TG} {f : WE} {w : WG} {sl : List Nat} (h1 : RE K te f) (h2 : RG K g w sl) : RS K (tAsg te g) (asgS f w) := fun Fr la σ ε G H o D s e q => by
  obtain ⟨p, e1, e⟩ := bind_some e
  obtain ⟨ε1, e2, e⟩ := bind_some e
  cases e
  refine h1 Fr la σ ε G H p.1 p.2 _ s e1 fun v G1 H1 m1 s1 r1 => ?_
  exact h2 Fr la σ p.2 G1 H1 v p.1 ε1 _ s1 r1 e2 fun σ2 _ s2 => q σ2 G1 H1 m1 s2
theorem rs_setM {te : TE} {f : WE} {i : Nat} (h1 : RF K te f) : RS K (tAsg te (gName i)) (setM i f) := fun Fr la σ ε G H o D s e q => by
  obtain ⟨p, e1, e⟩ := bind_some e
  cases e
  refine h1 Fr la σ ε G H p.1 p.2 _ s e1 fun a G1 H1 m1 s1 r1 => ?_
  exact q _ G1 H1 m1 (s1.setM i r1)
theorem rs_drop {te : TE} {f : WE} (h1 : RE K te f) : RS K (tDrop te) (dropS f) := fun Fr la σ ε G H o D s e q => by
  obtain ⟨p, e1, e⟩ := bind_some e
  cases e
  exact h1 Fr la σ ε G H p.1 p.2 _ s e1 fun a G1 H1 m1 s1 r1 => q σ G1 H1 m1 s1
theorem rs_ret {te : TE} {f : WE} (h1 : RE K te f) : RS K (tRet te) (retS f) := fun Fr la σ ε G H o D s e q => by
  obtain ⟨p, e1, e⟩ := bind_some e
  cases e
  exact h1 Fr la σ ε G H p.1 p.2 _ s e1 fun a G1 H1 m1 s1 r1 => q a σ G1 H1 m1 s1 r1
theorem rs_retN : RS K tRetN retN := fun Fr la σ ε G H o D s e q => by
  cases e
  exact q .non σ G H (.refl G) s .non
theorem rs_if {c : TT} {t u : TS} {w : WT} {W X : WS} (h : RT K c w) (h1 : RS K t W) (h2 : RS K u X) : RS K (tIfS c t u) (ifS w W X) := fun Fr la σ ε G H o D s e q => by
  obtain ⟨⟨k, ε1⟩, e1, e⟩ := bind_some e
  refine h Fr la σ ε G H k ε1 _ s e1 fun G1 H1 m1 s1 => ?_
  cases k with
  | true => exact h1 Fr la σ ε1 G1 H1 o D s1 e (q.mo m1)
  | false => exact h2 Fr la σ ε1 G1 H1 o D s1 e (q.mo m1)
theorem rs_brk : RS K tBreak brkS := fun Fr la σ ε G H o D s e q => by
  cases e
  exact q σ G H (.refl G) s
theorem rs_cnt : RS K tCont cntS := fun Fr la σ ε G H o D s e q => by
  cases e
  exact q σ G H (.refl G) s
theorem rs_never {t : TS} : RS K t nevS := fun Fr la σ ε G H o D s e q => by cases e
/-- a turn's end, for a loop -/
theorem loop1_end {D D' : Ends} {o o1 : Out} {k : En → Option Out} (e : loop1 o1 k = some o) (q : EndOk K Fr la G D o)
    (hn : ∀ ε1, k ε1 = some o → ∀ σ' G' H', Mo G G' → Stt K Fr la σ' ε1 G' H' → D'.nx σ' H' ∧ D'.ct σ' H') (hb : D'.bk = D.nx) (hr : D'.rt = D.rt) : EndOk K Fr la G D' o1 := by
  cases o1 with
  | nx ε1 => exact fun σ' G' H' m s => (hn ε1 e σ' G' H' m s).1
  | ct ε1 => exact fun σ' G' H' m s => (hn ε1 e σ' G' H' m s).2
  | bk ε1 =>
    cases e
    show ∀ σ' G' H', Mo G G' → Stt K Fr la σ' ε1 G' H' → D'.bk σ' H'
    rw [hb]; exact q
  | rt d ε1 =>
    cases e
    show ∀ v σ' G' H', Mo G G' → Stt K Fr la σ' ε1 G' H' → Rp K G' v d → D'.rt v H'
    rw [hr]; exact q
theorem rs_while {c : TT} {tb : TS} {w : WT} {W : WS} {n : Nat} (h : RT K c w) (hb : RS K tb W) : RS K (tWhile c tb) (whileL w W n) := fun Fr la σ ε G H o D s e q => by
  refine ⟨fun m σ1 H1 => ∃ ε1 G1, Mo G G1 ∧ Stt K Fr la σ1 ε1 G1 H1 ∧ whileL w W m ε1 = some o, ⟨n, ε, G, .refl G, s, e⟩, fun m σ1 H1 hw => ?_⟩
  obtain ⟨ε1, G1, m1, s1, e1⟩ := hw
  cases m with
  | zero => cases e1
  | succ m =>
    obtain ⟨⟨k, ε2⟩, e2, e1⟩ := bind_some e1
    refine h Fr la σ1 ε1 G1 H1 k ε2 _ s1 e2 fun G2 H2 m2 s2 => ?_
    cases k with
    | false =>
      cases e1
      exact q σ1 G2 H2 (m1.trans m2) s2
    | true =>
      obtain ⟨o1, e3, e1⟩ := bind_some e1
      refine ⟨fun σ' H' => ∃ ε3 G3, Mo G G3 ∧ Stt K Fr la σ' ε3 G3 H' ∧ whileL w W m ε3 = some o, fun σ' H' hN => ⟨m, Nat.lt_succ_self m, hN⟩, ?_⟩
      refine hb Fr la σ1 ε2 G2 H2 o1 _ s2 e3 (loop1_end e1 (q.mo (m1.trans m2)) (fun ε3 ek σ' G' H' m3 s3 => ?_) rfl rfl)
      exact ⟨⟨ε3, G', (m1.trans m2).trans m3, s3, ek⟩, ⟨ε3, G', (m1.trans m2).trans m3, s3, ek⟩⟩
/-! ### what is walked -/
end
section
variable (K : PySem.W.Frag)
/-- the walk J yields just the items -/
def JOk (Fr G : Hp) (J : It) (ds : List D) : Prop := ∀ G1 H1, Mo G G1 → Mo G1 H1 → Ex Fr H1 → (∀ i, i < ds.length → J.go i H1) ∧ (∀ i, ds.length ≤ i → J.stop i H1) ∧
  ∀ i x H2, i < ds.length → J.yld i H1 x H2 → ∃ d G2, ds[i]? = some d ∧ New G1 H1 G2 H2 ∧ Rp K G2 x d
def RI (wi : TI) (f : WI) : Prop := ∀ (Fr : Hp) (la : Addr) (σ : L2.St) (ε : En) (G H : Hp) (ds : List D) (ε' : En) (R : It → Hp → Prop), Stt K Fr la σ ε G H → f ε = some (ds, ε') →
  (∀ J G' H', Mo G G' → Stt K Fr la σ ε' G' H' → JOk K Fr G' J ds → R J H') → wi σ H R
end
section
variable {K : PySem.W.Frag} {Fr : Hp} {la : Addr} {σ : L2.St} {ε : En} {G H G' H' : Hp}
theorem JOk.mo {J : It} {ds : List D} (m : Mo G G') (h : JOk K Fr G J ds) : JOk K Fr G' J ds := fun G1 H1 m1 m2 f => h G1 H1 (m.trans m1) m2 f
/-- the loop itself -/
theorem for_run {J : It} {g : TG} {tb : TS} {w : WG} {W : WS} {D : Ends} {ds : List PyData} {o : Out} {sl : List Nat} (hg : RG K g w sl) (hb : RS K tb W) (s : Stt K Fr la σ ε G H) (j : JOk K Fr G J ds) (e : forL w W ds ε = some o) (q : EndOk K Fr la G D o) :
    ∃ W : Nat → Nat → L2.St → Hp → Prop, (∃ m, W 0 m σ H) ∧ ∀ i m σ H, W i m σ H →
      (J.stop i H ∧ D.nx σ H) ∨ (J.go i H ∧ ∃ N : L2.St → Hp → Prop, (∀ σ' H', N σ' H' → ∃ m', m' < m ∧ W (i + 1) m' σ' H') ∧ ∀ x H', J.yld i H x H' → g x σ H' fun σ2 H2 => tb { D with nx := N, ct := N, bk := D.nx } σ2 H2) := by
  refine ⟨fun i m σ1 H1 => ∃ ε1 G1, m = ds.length - i ∧ i ≤ ds.length ∧ Mo G G1 ∧ Stt K Fr la σ1 ε1 G1 H1 ∧ forL w W (ds.drop i) ε1 = some o, ⟨ds.length, ε, G, rfl, Nat.zero_le _, .refl G, s, e⟩, fun i m σ1 H1 hw => ?_⟩
  obtain ⟨ε1, G1, rfl, hi, m1, s1, e1⟩ := hw
  obtain ⟨j1, j2, j3⟩ := j G1 H1 m1 s1.gh s1.fr
  by_cases hl : i < ds.length
  · refine .inr ⟨j1 i hl, fun σ' H' => ∃ ε3 G3, Mo G G3 ∧ Stt K Fr la σ' ε3 G3 H' ∧ forL w W (ds.drop (i + 1)) ε3 = some o, fun σ' H' ⟨ε3, G3, a, b, c⟩ => ⟨ds.length - (i + 1), by omega, ε3, G3, rfl, hl, a, b, c⟩, fun x H2 hy => ?_⟩
    obtain ⟨d, G2, hd, n, r⟩ := j3 i x H2 hl hy
    have hd2 : ds.drop i = d :: ds.drop (i + 1) := by
      obtain ⟨h1, h2⟩ := List.getElem?_eq_some_iff.mp hd
      rw [← h2]; exact List.drop_eq_getElem_cons h1
    rw [hd2] at e1
    obtain ⟨ε2, e2, e1⟩ := bind_some e1
    obtain ⟨o1, e3, e1⟩ := bind_some e1
    refine hg Fr la σ1 ε1 G2 H2 x d ε2 _ (s1.new n) r e2 fun σ2 _ s2 => ?_
    refine hb Fr la σ2 ε2 G2 H2 o1 _ s2 e3 (loop1_end e1 (q.mo (m1.trans n.mo)) (fun ε3 ek σ' G' H' m3 s3 => ?_) rfl rfl)
    exact ⟨⟨ε3, G', (m1.trans n.mo).trans m3, s3, ek⟩, ⟨ε3, G', (m1.trans n.mo).trans m3, s3, ek⟩⟩
  · have hz : ds.drop i = [] := List.drop_eq_nil_of_le (by omega)
    rw [hz] at e1
    cases e1
    exact .inl ⟨j2 i (by omega), q σ1 G1 H1 m1 s1⟩
theorem rs_for {wi : TI} {g : TG} {tb : TS} {f : WI} {w : WG} {W : WS} {sl : List Nat} (hi : RI K wi f) (hg : RG K g w sl) (hb : RS K tb W) : RS K (tFor wi g tb) (forS f w W) := fun Fr la σ ε G H o D s e q => by
  obtain ⟨p, e1, e⟩ := bind_some e
  exact hi Fr la σ ε G H p.1 p.2 _ s e1 fun J G1 H1 m1 s1 j => for_run hg hb s1 j e (q.mo m1)
end
end PL

-- PLcomp
/-! PL, comprehensions. -/
namespace PL
open PySem PySem.Spec PyProof.Rows L2
section
variable {K : PySem.W.Frag} {Fr : Hp} {la : Addr} {σ : L2.St} {ε : En} {G H G' H' : Hp}
theorem big_lt {n m : Nat} (h : n < m) (hm : m ≤ big) : n < sizeLine := by
  have e : big = 1000000 := rfl
  rw [sizeLine_eq]; omega
theorem wipe_out {σ : L2.St} {i : Nat} : ∀ {own : List Nat}, i ∉ own → (wipe σ own)[i]? = σ[i]?
  | [], _ => rfl
  | v :: vs, h => by
    unfold wipe
    rw [List.getElem?_set_ne fun z => h (by rw [z]; exact List.mem_cons_self)]
    exact wipe_out fun z => h (List.mem_cons_of_mem _ z)
theorem wipeE_out {ε : En} {i : Nat} : ∀ {own : List Nat}, i ∉ own → (wipeE ε own)[i]? = ε[i]?
  | [], _ => rfl
  | v :: vs, h => by
    unfold wipeE
    rw [List.getElem?_set_ne fun z => h (by rw [z]; exact List.mem_cons_self)]
    exact wipeE_out fun z => h (List.mem_cons_of_mem _ z)
theorem wipeE_len {ε : En} : ∀ own : List Nat, (wipeE ε own).length = ε.length
  | [] => rfl
  | v :: vs => by unfold wipeE; rw [List.length_set, wipeE_len vs]
theorem restE_len {ε0 ε : En} : ∀ own : List Nat, (restE ε0 ε own).length = ε.length
  | [] => rfl
  | v :: vs => by unfold restE; rw [List.length_set, restE_len vs]
theorem restE_out {ε0 ε : En} {i : Nat} : ∀ {own : List Nat}, i ∉ own → (restE ε0 ε own)[i]? = ε[i]?
  | [], _ => rfl
  | v :: vs, h => by
    unfold restE
    rw [List.getElem?_set_ne fun z => h (by rw [z]; exact List.mem_cons_self)]
    exact restE_out fun z => h (List.mem_cons_of_mem _ z)
theorem restE_in {ε0 ε : En} {i : Nat} {e : SD} : ∀ {own : List Nat}, i ∈ own → (restE ε0 ε own)[i]? = some e → e = ε0.getD i .un
  | [], h, _ => by cases h
  | v :: vs, h, he => by
    unfold restE at he
    by_cases q : v = i
    · subst q
      by_cases l : v < (restE ε0 ε vs).length
      · rw [List.getElem?_set_self l] at he; exact (Option.some.inj he).symm
      · rw [List.getElem?_eq_none (by rw [List.length_set]; omega)] at he; cases he
    · rw [List.getElem?_set_ne q] at he
      exact restE_in ((List.mem_cons.mp h).resolve_left fun z => q z.symm) he
theorem wipeE_in {ε : En} {i : Nat} {e : SD} : ∀ {own : List Nat}, i ∈ own → (wipeE ε own)[i]? = some e → e = .un
  | [], h, _ => by cases h
  | v :: vs, h, he => by
    unfold wipeE at he
    by_cases q : v = i
    · subst q
      by_cases l : v < (wipeE ε vs).length
      · rw [List.getElem?_set_self l] at he; exact (Option.some.inj he).symm
      · rw [List.getElem?_eq_none (by rw [List.length_set]; omega)] at he; cases he
    · rw [List.getElem?_set_ne q] at he
      exact wipeE_in ((List.mem_cons.mp h).resolve_left fun z => q z.symm) he
theorem Stt.wipe (s : Stt K Fr la σ ε G H) (own : List Nat) : Stt K Fr la (L2.wipe σ own) (wipeE ε own) G H where
  gh := s.gh
  fr := s.fr
  ds := s.ds
  len := by rw [wipe_length, wipeE_len]; exact s.len
  sl := fun i e he => by
    by_cases h : i ∈ own
    · have : e = .un := wipeE_in h he
      subst this; trivial
    · rw [wipeE_out h] at he
      rw [wipe_out h]
      exact s.sl i e he
  sep := by
    have back : ∀ i a, Own (L2.wipe σ own) (wipeE ε own) i a → Own σ ε i a := fun i a ⟨⟨e, he, ho⟩, hs⟩ => by
      by_cases h : i ∈ own
      · have : e = .un := wipeE_in h he
        subst this; exact ho.elim
      · rw [wipeE_out h] at he
        rw [wipe_out h] at hs
        exact ⟨⟨e, he, ho⟩, hs⟩
    exact fun i j a x y => s.sep i j a (back i a x) (back j a y)
theorem wipe_but {sl own : List Nat} {σ σ' : L2.St} (h : But sl (wipe σ own) σ') (hs : ∀ i ∈ sl, i ∈ own) : wipe σ' own = wipe σ own := by
  apply List.ext_getElem?
  intro i
  by_cases hi : i ∈ own
  · have key : ∀ (τ : L2.St) (own : List Nat), i ∈ own → (wipe τ own)[i]? = if i < τ.length then some none else none := by
      intro τ own
      induction own with
      | nil => intro h; cases h
      | cons v vs ih =>
        intro h
        unfold wipe
        by_cases q : v = i
        · subst q
          by_cases l : v < τ.length
          · rw [List.getElem?_set_self (by rw [wipe_length]; exact l), if_pos l]
          · rw [List.getElem?_eq_none (by rw [List.length_set, wipe_length]; omega), if_neg l]
        · rw [List.getElem?_set_ne q]
          exact ih ((List.mem_cons.mp h).resolve_left fun z => q z.symm)
    rw [key σ' own hi, key σ own hi, h.1, wipe_length]
  · rw [wipe_out hi, h.2 i fun z => hi (hs i z), wipe_out hi]
/-- a foreign thing is written: the comprehension's own list or dict -/
theorem Stt.refr {a : Addr} {u u' : HO} (s : Stt K (upd Fr a u) la σ ε G H) (h : ¬ Imm u) (h' : ¬ Imm u') : Stt K (upd Fr a u') la σ ε G (upd H a u') := by
  have gn : G a = none := (s.ds a u upd_same).resolve_right h
  have ne : ∀ b, (upd Fr a u) b = none → b ≠ a := fun b e z => by rw [z, upd_same] at e; cases e
  refine ⟨⟨fun b w sn r => ?_, fun b z => ?_, fun b xs z => ?_⟩, fun b o e => ?_, fun b o e => ?_, s.len, fun i e he => ?_, s.sep⟩
  · have nb : b ≠ a := fun z => by
      subst z
      rcases r with r | ⟨o, r⟩ <;> (rw [gn] at r; cases r)
    rcases s.gh.rd b w sn r with q | ⟨o, q⟩
    · exact .inl (by rw [upd_ne nb]; exact q)
    · exact .inr ⟨o, by rw [upd_ne nb]; exact q⟩
  · by_cases q : b = a
    · subst q; rw [upd_same] at z; cases z
    · rw [upd_ne q] at z; exact s.gh.dom b z
  · have nb : b ≠ a := fun e => by rw [e, gn] at z; cases z
    rw [upd_ne nb]; exact s.gh.tp b xs z
  · by_cases q : b = a
    · subst q; rw [upd_same] at e ⊢; exact e
    · rw [upd_ne q] at e ⊢
      exact s.fr b o (by rw [upd_ne q]; exact e)
  · by_cases q : b = a
    · subst q; exact .inl gn
    · rw [upd_ne q] at e
      exact s.ds b o (by rw [upd_ne q]; exact e)
  · have z := s.sl i e he
    cases e with
    | un => trivial
    | im d => exact z
    | mu d =>
      obtain ⟨b, w, q1, g1, f1, hw, cw⟩ := z
      have nb := ne b f1
      exact ⟨b, w, q1, g1, by rw [upd_ne nb] at f1 ⊢; exact f1, by rw [upd_ne nb]; exact hw, cw⟩
    | ln d =>
      obtain ⟨w, q1, g1, f1, hw, cw⟩ := z
      have nb := ne la f1
      exact ⟨w, q1, g1, by rw [upd_ne nb] at f1 ⊢; exact f1, by rw [upd_ne nb]; exact hw, cw⟩
/-- a new thing becomes foreign -/
theorem Stt.lend {a : Addr} {u : HO} (s : Stt K Fr la σ ε G H) (h : H a = none) : Stt K (upd Fr a u) la σ ε G (upd H a u) := by
  have s1 := s.new (.own (u := u) s.gh h)
  have own : ∀ b, G b = none → ∀ w, H b = some w → b ≠ a := fun b _ w e z => by rw [z, h] at e; cases e
  refine ⟨s1.gh, fun b o e => ?_, fun b o e => ?_, s1.len, fun i e he => ?_, s1.sep⟩
  · by_cases q : b = a
    · subst q; rw [upd_same] at e ⊢; exact e
    · rw [upd_ne q] at e; exact s1.fr b o e
  · by_cases q : b = a
    · subst q; exact .inl (s.gh.dom b h)
    · rw [upd_ne q] at e; exact s1.ds b o e
  · have z := s.sl i e he
    cases e with
    | un => trivial
    | im d => exact z
    | mu d =>
      obtain ⟨b, w, q1, g1, f1, hw, cw⟩ := z
      have nb := own b g1 w hw
      exact ⟨b, w, q1, g1, by rw [upd_ne nb]; exact f1, by rw [upd_ne nb]; exact hw, cw⟩
    | ln d =>
      obtain ⟨w, q1, g1, f1, hw, cw⟩ := z
      have nb := own la g1 w hw
      exact ⟨w, q1, g1, by rw [upd_ne nb]; exact f1, by rw [upd_ne nb]; exact hw, cw⟩
/-- behind the block -/
theorem Stt.back {a : Addr} {u : HO} {ε1 : En} {own : List Nat} {G0 H0 : Hp} (s0 : Stt K Fr la σ ε G0 H0) (hok : okOwn ε own = true) (m : Mo G0 G) (fa : Fr a = none) (nu : ¬ Imm u) (s : Stt K (upd Fr a u) la (L2.wipe σ own) ε1 G H) :
    Stt K Fr la σ (restE ε ε1 own) G H ∧ G a = none ∧ H a = some u ∧ ∀ i, ¬ Own σ (restE ε ε1 own) i a := by
  have len : σ.length = ε1.length := by rw [← s.len, wipe_length]
  have noOwn : ∀ i e, i ∈ own → (restE ε ε1 own)[i]? = some e → ¬ IsOwn e := fun i e hi he => by
    have q := restE_in hi he
    have z := List.all_eq_true.mp hok i hi
    rw [q]
    cases x : ε[i]? with
    | none => rw [List.getD_eq_getElem?_getD, x]; exact fun w => w
    | some sd =>
      rw [List.getD_eq_getElem?_getD, x]
      rw [x] at z
      cases sd with
      | un => exact fun w => w
      | im d => exact fun w => w
      | mu d => cases z
      | ln d => cases z
  have back : ∀ i b, Own σ (restE ε ε1 own) i b → Own (L2.wipe σ own) ε1 i b := fun i b ⟨⟨e, he, ho⟩, hs⟩ => by
    by_cases hi : i ∈ own
    · exact (noOwn i e hi he ho).elim
    · rw [restE_out hi] at he
      exact ⟨⟨e, he, ho⟩, by rw [wipe_out hi]; exact hs⟩
  refine ⟨⟨s.gh, fun b o e => s.fr b o (by rw [upd_ne (ne_of_none e fa)]; exact e), fun b o e => s.ds b o (by rw [upd_ne (ne_of_none e fa)]; exact e), by rw [restE_len]; exact len, fun i e he => ?_, fun i j b x y => s.sep i j b (back i b x) (back j b y)⟩,
    (s.ds a u upd_same).resolve_right nu, s.fr a u upd_same, fun i h => ?_⟩
  · by_cases hi : i ∈ own
    · have q := restE_in hi he
      cases x : ε[i]? with
      | none =>
        rw [List.getD_eq_getElem?_getD, x] at q
        have : e = .un := q
        subst this; trivial
      | some sd =>
        rw [List.getD_eq_getElem?_getD, x] at q
        have : e = sd := q
        subst this
        have z := s0.sl i e x
        have w := List.all_eq_true.mp hok i hi
        rw [x] at w
        cases e with
        | un => trivial
        | im d => obtain ⟨v, q1, r⟩ := z; exact ⟨v, q1, r.mo m⟩
        | mu d => cases w
        | ln d => cases w
    · rw [restE_out hi] at he
      have z := s.sl i e he
      rw [wipe_out hi] at z
      cases e with
      | un => trivial
      | im d => exact z
      | mu d =>
        obtain ⟨b, w, q1, g1, f1, hw, cw⟩ := z
        have nb : b ≠ a := fun z => by rw [z, upd_same] at f1; cases f1
        exact ⟨b, w, q1, g1, by rw [upd_ne nb] at f1; exact f1, hw, cw⟩
      | ln d =>
        obtain ⟨w, q1, g1, f1, hw, cw⟩ := z
        have nb : la ≠ a := fun z => by rw [z, upd_same] at f1; cases f1
        exact ⟨w, q1, g1, by rw [upd_ne nb] at f1; exact f1, hw, cw⟩
  · obtain ⟨_, f, _⟩ := s.own (back i a h)
    rw [upd_same] at f; cases f
/-- the loop of a list comprehension -/
theorem lc_run {J : It} {g : TG} {tt : TT} {te : TE} {w : WG} {t : WT} {f : WE} {own sl : List Nat} {ds rs : List PyData} {ε' : En} {D : Addr} {Q : VK} (hg : RG K g w sl) (hs : ∀ i ∈ sl, i ∈ own) (ht : RT K tt t) (he : RE K te f)
    (s : Stt K Fr la σ ε G H) (hok : okOwn ε own = true) (hl : ds.length ≤ big) (j : JOk K Fr G J ds) (e : lcL own w t f ds (wipeE ε own) = some (rs, ε')) (hD : H D = none)
    (q : ∀ G' H', Mo G G' → Stt K Fr la σ (restE ε ε' own) G' H' → Fsh K Fr σ (restE ε ε' own) G' H' D (.list rs) → Q (.ref D) H') :
    ∃ W : Nat → Nat → Hp → Prop, (∃ m, W 0 m (upd H D (.lst []))) ∧ ∀ i m H, W i m H →
      (J.stop i H ∧ Q (.ref D) H) ∨ (J.go i H ∧ ∃ Nx : Hp → Prop, (∀ H', Nx H' → ∃ m', m' < m ∧ W (i + 1) m' H') ∧ ∀ x H', J.yld i H x H' → g x (wipe σ own) H' fun σ2 H2 => wipe σ2 own = wipe σ own ∧ tt σ2 H2 fun b H3 =>
        if b = true then te σ2 H3 fun y H4 => ∃ acc, H4 D = some (.lst acc) ∧ acc.length < sizeLine ∧ Nx (upd H4 D (.lst (acc ++ [y]))) else Nx H3) := by
  have fa : Fr D = none := by
    cases z : Fr D with
    | none => rfl
    | some o => rw [s.fr D o z] at hD; cases hD
  have frk : ∀ {acc : List V} {H1 : Hp}, Ex (upd Fr D (.lst acc)) H1 → Ex Fr H1 := fun h b o z => h b o (by rw [upd_ne (ne_of_none z fa)]; exact z)
  refine ⟨fun i m H1 => ∃ ε1 G1 acc pre post, m = ds.length - i ∧ i ≤ ds.length ∧ Mo G G1 ∧ Stt K (upd Fr D (.lst acc)) la (wipe σ own) ε1 G1 H1 ∧ RpA K G1 acc pre ∧ acc.length ≤ i ∧ lcL own w t f (ds.drop i) ε1 = some (post, ε') ∧ pre ++ post = rs,
    ⟨ds.length, wipeE ε own, G, [], [], rs, rfl, Nat.zero_le _, .refl G, (s.wipe own).lend hD, .nil, Nat.zero_le _, e, rfl⟩, fun i m H1 hw => ?_⟩
  obtain ⟨ε1, G1, acc, pre, post, rfl, hi, m1, s1, ra, la1, e1, e2⟩ := hw
  obtain ⟨j1, j2, j3⟩ := j G1 H1 m1 s1.gh (frk s1.fr)
  by_cases hlt : i < ds.length
  · refine .inr ⟨j1 i hlt, fun H' => ∃ ε1 G1 acc pre post, Mo G G1 ∧ Stt K (upd Fr D (.lst acc)) la (wipe σ own) ε1 G1 H' ∧ RpA K G1 acc pre ∧ acc.length ≤ i + 1 ∧ lcL own w t f (ds.drop (i + 1)) ε1 = some (post, ε') ∧ pre ++ post = rs,
      fun H' ⟨ε1, G1, acc, pre, post, a, b, c, d, e, f⟩ => ⟨ds.length - (i + 1), by omega, ε1, G1, acc, pre, post, rfl, hlt, a, b, c, d, e, f⟩, fun x H2 hy => ?_⟩
    obtain ⟨d, G2, hd, n, r⟩ := j3 i x H2 hlt hy
    have hd2 : ds.drop i = d :: ds.drop (i + 1) := by
      obtain ⟨h1, h2⟩ := List.getElem?_eq_some_iff.mp hd
      rw [← h2]; exact List.drop_eq_getElem_cons h1
    rw [hd2] at e1
    obtain ⟨ε2, e3, e1⟩ := bind_some e1
    obtain ⟨⟨k, ε3⟩, e4, e1⟩ := bind_some e1
    refine hg (upd Fr D (.lst acc)) la (wipe σ own) ε1 G2 H2 x d ε2 _ (s1.new n) r e3 fun σ2 b2 s2 => ⟨wipe_but b2 hs, ?_⟩
    refine ht (upd Fr D (.lst acc)) la σ2 ε2 G2 H2 k ε3 _ s2 e4 fun G3 H3 m3 s3 => ?_
    cases k with
    | false =>
      have s3' := s3.wipe own
      rw [wipe_but b2 hs] at s3'
      exact ⟨_, G3, acc, pre, post, (m1.trans n.mo).trans m3, s3', ra.mo (n.mo.trans m3), Nat.le_succ_of_le la1, e1, e2⟩
    | true =>
      obtain ⟨⟨y, ε4⟩, e5, e1⟩ := bind_some e1
      obtain ⟨⟨post', ε5⟩, e6, e1⟩ := bind_some e1
      cases e1
      refine he (upd Fr D (.lst acc)) la σ2 ε3 G3 H3 y ε4 _ s3 e5 fun v G4 H4 m4 s4 r4 => ?_
      refine ⟨acc, s4.fr D _ upd_same, big_lt (Nat.lt_of_le_of_lt la1 hlt) hl, ?_⟩
      have s4' := (s4.refr (u' := .lst (acc ++ [v])) (fun z => z) (fun z => z)).wipe own
      rw [wipe_but b2 hs] at s4'
      have mm : Mo G1 G4 := (n.mo.trans m3).trans m4
      refine ⟨_, G4, acc ++ [v], pre ++ [y], post', m1.trans mm, s4', (ra.mo mm).append (.cons r4 .nil), ?_, e6, ?_⟩
      · rw [List.length_append]; exact Nat.succ_le_succ la1
      · rw [List.append_assoc]; exact e2
  · have hz : ds.drop i = [] := List.drop_eq_nil_of_le (by omega)
    rw [hz] at e1
    cases e1
    rw [List.append_nil] at e2
    subst e2
    obtain ⟨b1, b2, b3, b4⟩ := s.back (u := .lst acc) hok m1 fa (fun z => z) s1
    exact .inl ⟨j2 i (by omega), q G1 H1 m1 b1 ⟨b2, fa, ⟨_, b3, .lst ra⟩, b4⟩⟩
theorem rf_lc {wi : TI} {g : TG} {tt : TT} {te : TE} {src : WI} {w : WG} {t : WT} {f : WE} {own sl : List Nat} (hi : RI K wi src) (hg : RG K g w sl) (ht : RT K tt t) (he : RE K te f) (hs : ∀ i ∈ sl, i ∈ own := by decide) : RF K (tLc wi g tt te own) (lcE src own w t f) := fun Fr la σ ε G H d ε' Q s e q => by
  obtain ⟨p, e1, e⟩ := bind_some e
  split at e
  · rename_i hc
    rw [Bool.and_eq_true, decide_eq_true_eq] at hc
    obtain ⟨r, e2, e⟩ := bind_some e
    cases e
    refine hi Fr la σ ε G H p.1 p.2 _ s e1 fun J G1 H1 m1 s1 j D hD => ?_
    exact lc_run hg hs ht he s1 hc.1 hc.2 j e2 hD fun G' H' m s' f => q D G' H' (m1.trans m) s' f
  · cases e
end
end PL

-- PLdict
/-! PL, dicts. -/
namespace PL
open PySem PySem.Spec PyProof.Rows L2
theorem eqv_keyD (a b : Key) : PyData.eqv (keyD a) (keyD b) = decide (a = b) := by
  cases a with
  | inl i =>
    cases b with
    | inl j => rw [key_ll]; simp only [keyD, PyData.eqv]
    | inr y => rw [key_lr]; simp only [keyD, PyData.eqv]
  | inr x =>
    cases b with
    | inl j => rw [key_rl]; simp only [keyD, PyData.eqv]
    | inr y =>
      rw [key_rr]; simp only [keyD, PyData.eqv]
      have := dec_str (i := x) (j := y)
      rw [← this]
      exact decide_eq_decide.mpr ⟨fun e => V.str.inj e, fun e => by rw [e]⟩
theorem eqvAll_keys : ∀ (a b : List Key), PyData.eqvAll (a.map keyD) (b.map keyD) = decide (a = b)
  | [], [] => by simp [PyData.eqvAll]
  | [], _ :: _ => by simp [PyData.eqvAll]
  | _ :: _, [] => by simp [PyData.eqvAll]
  | x :: xs, y :: ys => by
    rw [List.map_cons, List.map_cons, PyData.eqvAll, eqv_keyD, eqvAll_keys xs ys, ← Bool.decide_and]
    exact decide_eq_decide.mpr (by rw [List.cons.injEq])
theorem eqv_keyT (a b : List Key) : PyData.eqv (keyT a) (keyT b) = decide (a = b) := by
  unfold keyT; rw [PyData.eqv]; exact eqvAll_keys a b
section
variable {K : PySem.W.Frag} {G H : Hp}
inductive RpO (K : PySem.W.Frag) (G : Hp) : Option V → Option D → Prop
  | none : RpO K G none none
  | some {v d} : Rp K G v d → RpO K G (some v) (some d)
theorem RpK.val (k : Key) : ∀ {kvs : List (Key × V)} {ds : List (D × D)}, RpK K G kvs ds → RpO K G (valV kvs k) (dget ds (keyD k))
  | _, _, .nil => .none
  | _, _, .cons (k := k') (v := v) (vs := vs) (d := d) (ds := ds) q t => by
    by_cases e : k' = k
    · rw [valV_pos e]
      have : dget ((keyD k', d) :: ds) (keyD k) = Option.some d := by simp [dget, List.find?_cons, eqv_keyD, e]
      rw [this]; exact .some q
    · rw [valV_neg e]
      have : dget ((keyD k', d) :: ds) (keyD k) = dget ds (keyD k) := by simp [dget, List.find?_cons, eqv_keyD, e]
      rw [this]; exact RpK.val k t
theorem RpT.val (k : List Key) : ∀ {kvs : List (List Key × V)} {ds : List (D × D)}, RpT K G kvs ds → RpO K G (valV kvs k) (dget ds (keyT k))
  | _, _, .nil => .none
  | _, _, .cons (k := k') (v := v) (vs := vs) (d := d) (ds := ds) q t => by
    by_cases e : k' = k
    · rw [valV_pos e]
      have : dget ((keyT k', d) :: ds) (keyT k) = Option.some d := by simp [dget, List.find?_cons, eqv_keyT, e]
      rw [this]; exact .some q
    · rw [valV_neg e]
      have : dget ((keyT k', d) :: ds) (keyT k) = dget ds (keyT k) := by simp [dget, List.find?_cons, eqv_keyT, e]
      rw [this]; exact RpT.val k t
theorem RpK.append : ∀ {kvs kvs' : List (Key × V)} {ds ds' : List (D × D)}, RpK K G kvs ds → RpK K G kvs' ds' → RpK K G (kvs ++ kvs') (ds ++ ds')
  | _, _, _, _, .nil, s => s
  | _, _, _, _, .cons q t, s => .cons q (RpK.append t s)
theorem RpT.append : ∀ {kvs kvs' : List (List Key × V)} {ds ds' : List (D × D)}, RpT K G kvs ds → RpT K G kvs' ds' → RpT K G (kvs ++ kvs') (ds ++ ds')
  | _, _, _, _, .nil, s => s
  | _, _, _, _, .cons q t, s => .cons q (RpT.append t s)
theorem RpK.any (k : Key) : ∀ {kvs : List (Key × V)} {ds : List (D × D)}, RpK K G kvs ds → (kvs.any fun kv => decide (kv.1 = k)) = ds.any fun p => PyData.eqv p.1 (keyD k)
  | _, _, .nil => rfl
  | _, _, .cons q t => by rw [List.any_cons, List.any_cons, RpK.any k t, eqv_keyD]
theorem RpT.any (k : List Key) : ∀ {kvs : List (List Key × V)} {ds : List (D × D)}, RpT K G kvs ds → (kvs.any fun kv => decide (kv.1 = k)) = ds.any fun p => PyData.eqv p.1 (keyT k)
  | _, _, .nil => rfl
  | _, _, .cons q t => by rw [List.any_cons, List.any_cons, RpT.any k t, eqv_keyT]
theorem RpK.repl (k : Key) {v : V} {d : D} (r : Rp K G v d) : ∀ {kvs : List (Key × V)} {ds : List (D × D)}, RpK K G kvs ds →
    RpK K G (kvs.map fun kv => if kv.1 = k then (kv.1, v) else kv) (ds.map fun p => if PyData.eqv p.1 (keyD k) = true then (p.1, d) else p)
  | _, _, .nil => .nil
  | _, _, .cons (k := k') q t => by
    rw [List.map_cons, List.map_cons]
    simp only [eqv_keyD, decide_eq_true_eq]
    by_cases e : k' = k
    · rw [if_pos e, if_pos e]; exact .cons r (by simpa only [eqv_keyD, decide_eq_true_eq] using RpK.repl k r t)
    · rw [if_neg e, if_neg e]; exact .cons q (by simpa only [eqv_keyD, decide_eq_true_eq] using RpK.repl k r t)
theorem RpT.repl (k : List Key) {v : V} {d : D} (r : Rp K G v d) : ∀ {kvs : List (List Key × V)} {ds : List (D × D)}, RpT K G kvs ds →
    RpT K G (kvs.map fun kv => if kv.1 = k then (kv.1, v) else kv) (ds.map fun p => if PyData.eqv p.1 (keyT k) = true then (p.1, d) else p)
  | _, _, .nil => .nil
  | _, _, .cons (k := k') q t => by
    rw [List.map_cons, List.map_cons]
    simp only [eqv_keyT, decide_eq_true_eq]
    by_cases e : k' = k
    · rw [if_pos e, if_pos e]; exact .cons r (by simpa only [eqv_keyT, decide_eq_true_eq] using RpT.repl k r t)
    · rw [if_neg e, if_neg e]; exact .cons q (by simpa only [eqv_keyT, decide_eq_true_eq] using RpT.repl k r t)
theorem RpK.put {kvs : List (Key × V)} {ds : List (D × D)} (h : RpK K G kvs ds) (k : Key) {v : V} {d : D} (r : Rp K G v d) : RpK K G (putK kvs k v) (dput ds (keyD k) d) := by
  unfold putK dput
  rw [h.any k]
  split
  · exact h.repl k r
  · exact h.append (.cons r .nil)
theorem RpT.put {kvs : List (List Key × V)} {ds : List (D × D)} (h : RpT K G kvs ds) (k : List Key) {v : V} {d : D} (r : Rp K G v d) : RpT K G (putK kvs k v) (dput ds (keyT k) d) := by
  unfold putK dput
  rw [h.any k]
  split
  · exact h.repl k r
  · exact h.append (.cons r .nil)
theorem RpK.drop (k : Key) : ∀ {kvs : List (Key × V)} {ds : List (D × D)}, RpK K G kvs ds → RpK K G (dropK kvs k) (ddrop ds (keyD k))
  | _, _, .nil => .nil
  | _, _, .cons (k := k') (vs := vs) (ds := ds) q t => by
    have ih := RpK.drop k t
    unfold dropK ddrop at ih ⊢
    rw [List.filter_cons, List.filter_cons]
    simp only [eqv_keyD, ne_eq, decide_not]
    by_cases e : k' = k
    · simp only [e, decide_true, Bool.not_true, Bool.false_eq_true, if_false]
      simpa only [eqv_keyD, ne_eq, decide_not] using ih
    · simp only [e, decide_false, Bool.not_false, if_true]
      exact .cons q (by simpa only [eqv_keyD, ne_eq, decide_not] using ih)
theorem RpK.length : ∀ {kvs : List (Key × V)} {ds : List (D × D)}, RpK K G kvs ds → kvs.length = ds.length
  | _, _, .nil => rfl
  | _, _, .cons _ t => congrArg (· + 1) (RpK.length t)
theorem RpT.length : ∀ {kvs : List (List Key × V)} {ds : List (D × D)}, RpT K G kvs ds → kvs.length = ds.length
  | _, _, .nil => rfl
  | _, _, .cons _ t => congrArg (· + 1) (RpT.length t)
theorem RpK.get : ∀ {kvs : List (Key × V)} {ds : List (D × D)} {i : Nat}, RpK K G kvs ds → i < ds.length → ∃ k v d, kvs[i]? = some (k, v) ∧ ds[i]? = some (keyD k, d) ∧ Rp K G v d
  | _, _, _, .nil, h => by simp at h
  | _, _, 0, .cons q _, h => ⟨_, _, _, rfl, rfl, q⟩
  | _, _, i + 1, .cons _ t, h => by simpa using RpK.get (i := i) t (by simpa using h)
theorem RpT.get : ∀ {kvs : List (List Key × V)} {ds : List (D × D)} {i : Nat}, RpT K G kvs ds → i < ds.length → ∃ k v d, kvs[i]? = some (k, v) ∧ ds[i]? = some (keyT k, d) ∧ Rp K G v d
  | _, _, _, .nil, h => by simp at h
  | _, _, 0, .cons q _, h => ⟨_, _, _, rfl, rfl, q⟩
  | _, _, i + 1, .cons _ t, h => by simpa using RpT.get (i := i) t (by simpa using h)
/-- a value that is an int or a text, as a key -/
theorem Rp.key1 {v : V} {d : D} (h : Rp K G v d) (e : isKey1 d = true) : ∃ k : Key, v = kV k ∧ d = keyD k := by
  cases d with
  | int i => cases h; exact ⟨.inl i, rfl, rfl⟩
  | str s => cases h; exact ⟨.inr s, rfl, rfl⟩
  | _ => cases e
theorem RpA.keys : ∀ {vs : List V} {ds : List D}, RpA K G vs ds → (ds.all fun d => (keyOf d).isSome) = true → ∃ ks : List Key, vs = ks.map kV ∧ ds = ks.map keyD
  | _, _, .nil, _ => ⟨[], rfl, rfl⟩
  | _, _, .cons (d := d) q t, e => by
    rw [List.all_cons, Bool.and_eq_true] at e
    obtain ⟨ks, e1, e2⟩ := RpA.keys t e.2
    have h1 : isKey1 d = true := by
      cases d with
      | int i => rfl
      | str s => rfl
      | _ => cases e.1
    obtain ⟨k, e3, e4⟩ := q.key1 h1
    exact ⟨k :: ks, by rw [e1, e3]; rfl, by rw [e2, e4]; rfl⟩
variable {Fr : Hp} {la : Addr} {σ : L2.St} {ε : En}
theorem length_dput (kvs : List (D × D)) (k v : D) : (dput kvs k v).length ≤ kvs.length + 1 := by
  unfold dput
  split
  · rw [List.length_map]; omega
  · rw [List.length_append]; exact Nat.le_refl _
/-- the loop of a dict comprehension -/
theorem dc_run {J : It} {g : TG} {tt : TT} {tk tv : TE} {w : WG} {t : WT} {fk fv : WE} {own sl : List Nat} {ds : List PyData} {rs : List (D × D)} {ε' : En} {A : Addr} {Q : VK} (hg : RG K g w sl) (hs : ∀ i ∈ sl, i ∈ own) (ht : RT K tt t) (hk : RE K tk fk) (hv : RE K tv fv)
    (s : Stt K Fr la σ ε G H) (hok : okOwn ε own = true) (hl : ds.length ≤ big) (j : JOk K Fr G J ds) (e : dcL own w t fk fv ds [] (wipeE ε own) = some (rs, ε')) (hD : H A = none)
    (q : ∀ G' H', Mo G G' → Stt K Fr la σ (restE ε ε' own) G' H' → Fsh K Fr σ (restE ε ε' own) G' H' A (.dict rs) → Q (.ref A) H') :
    ∃ W : Nat → Nat → Hp → Prop, (∃ m, W 0 m (upd H A (.dK []))) ∧ ∀ i m H, W i m H →
      (J.stop i H ∧ Q (.ref A) H) ∨ (J.go i H ∧ ∃ Nx : Hp → Prop, (∀ H', Nx H' → ∃ m', m' < m ∧ W (i + 1) m' H') ∧ ∀ x H', J.yld i H x H' → g x (wipe σ own) H' fun σ2 H2 => wipe σ2 own = wipe σ own ∧ tt σ2 H2 fun b H3 =>
        if b = true then tk σ2 H3 fun y H4 => tv σ2 H4 fun z H5 => ∃ kvs k, y = kV k ∧ H5 A = some (.dK kvs) ∧ kvs.length < sizeLine ∧ Nx (upd H5 A (.dK (putK kvs k z))) else Nx H3) := by
  have fa : Fr A = none := by
    cases z : Fr A with
    | none => rfl
    | some o => rw [s.fr A o z] at hD; cases hD
  have frk : ∀ {acc : List (Key × V)} {H1 : Hp}, Ex (upd Fr A (.dK acc)) H1 → Ex Fr H1 := fun h b o z => h b o (by rw [upd_ne (ne_of_none z fa)]; exact z)
  refine ⟨fun i m H1 => ∃ ε1 G1 acc pre, m = ds.length - i ∧ i ≤ ds.length ∧ Mo G G1 ∧ Stt K (upd Fr A (.dK acc)) la (wipe σ own) ε1 G1 H1 ∧ RpK K G1 acc pre ∧ pre.length ≤ i ∧ dcL own w t fk fv (ds.drop i) pre ε1 = some (rs, ε'),
    ⟨ds.length, wipeE ε own, G, [], [], rfl, Nat.zero_le _, .refl G, (s.wipe own).lend hD, .nil, Nat.zero_le _, e⟩, fun i m H1 hw => ?_⟩
  obtain ⟨ε1, G1, acc, pre, rfl, hi, m1, s1, ra, la1, e1⟩ := hw
  obtain ⟨j1, j2, j3⟩ := j G1 H1 m1 s1.gh (frk s1.fr)
  by_cases hlt : i < ds.length
  · refine .inr ⟨j1 i hlt, fun H' => ∃ ε1 G1 acc pre, Mo G G1 ∧ Stt K (upd Fr A (.dK acc)) la (wipe σ own) ε1 G1 H' ∧ RpK K G1 acc pre ∧ pre.length ≤ i + 1 ∧ dcL own w t fk fv (ds.drop (i + 1)) pre ε1 = some (rs, ε'),
      fun H' ⟨ε1, G1, acc, pre, a, b, c, d, e⟩ => ⟨ds.length - (i + 1), by omega, ε1, G1, acc, pre, rfl, hlt, a, b, c, d, e⟩, fun x H2 hy => ?_⟩
    obtain ⟨d, G2, hd, n, r⟩ := j3 i x H2 hlt hy
    have hd2 : ds.drop i = d :: ds.drop (i + 1) := by
      obtain ⟨h1, h2⟩ := List.getElem?_eq_some_iff.mp hd
      rw [← h2]; exact List.drop_eq_getElem_cons h1
    rw [hd2] at e1
    obtain ⟨ε2, e3, e1⟩ := bind_some e1
    obtain ⟨⟨k, ε3⟩, e4, e1⟩ := bind_some e1
    refine hg (upd Fr A (.dK acc)) la (wipe σ own) ε1 G2 H2 x d ε2 _ (s1.new n) r e3 fun σ2 b2 s2 => ⟨wipe_but b2 hs, ?_⟩
    refine ht (upd Fr A (.dK acc)) la σ2 ε2 G2 H2 k ε3 _ s2 e4 fun G3 H3 m3 s3 => ?_
    cases k with
    | false =>
      have s3' := s3.wipe own
      rw [wipe_but b2 hs] at s3'
      exact ⟨_, G3, acc, pre, (m1.trans n.mo).trans m3, s3', ra.mo (n.mo.trans m3), Nat.le_succ_of_le la1, e1⟩
    | true =>
      obtain ⟨⟨y, ε4⟩, e5, e1⟩ := bind_some e1
      obtain ⟨⟨z, ε5⟩, e6, e1⟩ := bind_some e1
      split at e1
      · rename_i hkey
        refine hk (upd Fr A (.dK acc)) la σ2 ε3 G3 H3 y ε4 _ s3 e5 fun v G4 H4 m4 s4 r4 => ?_
        refine hv (upd Fr A (.dK acc)) la σ2 ε4 G4 H4 z ε5 _ s4 e6 fun u G5 H5 m5 s5 r5 => ?_
        obtain ⟨kk, e7, e8⟩ := r4.key1 hkey
        have mm : Mo G1 G5 := ((n.mo.trans m3).trans m4).trans m5
        refine ⟨acc, kk, e7, s5.fr A _ upd_same, ?_, ?_⟩
        · rw [ra.length]; exact big_lt (Nat.lt_of_le_of_lt la1 hlt) hl
        · have s5' := (s5.refr (u' := .dK (putK acc kk u)) (fun z => z) (fun z => z)).wipe own
          rw [wipe_but b2 hs] at s5'
          have e9 : y = keyD kk := e8
          rw [e9] at e1
          exact ⟨_, G5, _, _, m1.trans mm, s5', (ra.mo mm).put kk r5, Nat.le_trans (length_dput _ _ _) (Nat.succ_le_succ la1), e1⟩
      · cases e1
  · have hz : ds.drop i = [] := List.drop_eq_nil_of_le (by omega)
    rw [hz] at e1
    cases e1
    obtain ⟨b1, b2, b3, b4⟩ := s.back (u := .dK acc) hok m1 fa (fun z => z) s1
    exact .inl ⟨j2 i (by omega), q G1 H1 m1 b1 ⟨b2, fa, ⟨_, b3, .dk ra⟩, b4⟩⟩
theorem rf_dc {wi : TI} {g : TG} {tt : TT} {tk tv : TE} {src : WI} {w : WG} {t : WT} {fk fv : WE} {own sl : List Nat} (hi : RI K wi src) (hg : RG K g w sl) (ht : RT K tt t) (hk : RE K tk fk) (hv : RE K tv fv) (hs : ∀ i ∈ sl, i ∈ own := by decide) : RF K (tDc wi g tt tk tv own) (dcE src own w t fk fv) := fun Fr la σ ε G H d ε' Q s e q => by
  obtain ⟨p, e1, e⟩ := bind_some e
  split at e
  · rename_i hc
    rw [Bool.and_eq_true, decide_eq_true_eq] at hc
    obtain ⟨r, e2, e⟩ := bind_some e
    cases e
    refine hi Fr la σ ε G H p.1 p.2 _ s e1 fun J G1 H1 m1 s1 j D hD => ?_
    exact dc_run hg hs ht hk hv s1 hc.1 hc.2 j e2 hD fun G' H' m s' f => q D G' H' (m1.trans m) s' f
  · cases e
end
section
variable {X : Cx}
/-- name = {..} on one line, the name a local -/
theorem ps_setDc {i : Nat} {y : Str} {py : Pos} {kx vx tg iter : Expr} {ifs : List Expr} {scope : Scope} {own : List (Str × Nat)} {pos spos : Pos} {wi : TI} {g : TG} {tt : TT} {tk tv : TE} (hc : X.calm = true) (hN : X.N.Nodup) (hy : X.N[i]? = some y) (hyl : X.env.scope.names.lookup y = some .local)
    (hsw : swapsWith (.DictComp kx vx [⟨tg, iter, ifs, 0⟩] scope pos) (some (.Name y py)) spos.line X.env = pure true) (hi : PI X tg iter wi) (ok : BlkOk X.N X.env.scope scope own)
    (hg : ∀ (s : Shared) (H : Hp) (C : Addr) (cl : List (Str × Addr)) (fp : List Addr), PG (X.blk s H scope (compEnvC scope cl C X.env) fp) tg g) (ht : ∀ (s : Shared) (H : Hp) (C : Addr) (cl : List (Str × Addr)) (fp : List Addr), PTs (X.blk s H scope (compEnvC scope cl C X.env) fp) ifs tt)
    (hk : ∀ (s : Shared) (H : Hp) (C : Addr) (cl : List (Str × Addr)) (fp : List Addr), PE (X.blk s H scope (compEnvC scope cl C X.env) fp) kx tk)
    (he : ∀ (s : Shared) (H : Hp) (C : Addr) (cl : List (Str × Addr)) (fp : List Addr), PE (X.blk s H scope (compEnvC scope cl C X.env) fp) vx tv) (hs : ∀ x, foldedSetIterable iter X.env x = pure x := by intro _; rfl) :
    PS X (.Assign [.Name y py] (.DictComp kx vx [⟨tg, iter, ifs, 0⟩] scope pos) spos) (tAsg (tDc wi g tt tk tv (own.map (·.2))) (gName i)) := by
  refine ⟨fun pins s σ H D I h => ?_⟩
  rw [exec_Assign_Name_used _ _ _ _ hsw]
  refine wpAny_bind (wpAny_standAt (wpAny_bind ?_))
  show wpAny _ X.A (do let _ ← comprehension (.DictComp kx vx [⟨tg, iter, ifs, 0⟩] scope pos) scope X.env (firstIterPos [⟨tg, iter, ifs, 0⟩] pos) newDict false (eval iter X.env) (some (assign (.Name y py) X.env))) _ _ s
  have h : tDc wi g tt tk tv (own.map (·.2)) σ H (fun x H1 => gName i x σ H1 D.nx) := h
  refine wpAny_bind (thn (dc_core (Qf := fun _ s' => SP X pins D .next s') hc hN I hi ok hg ht hk he hs h fun L C s' m H' I' q hn f => ?_) fun _ s' hq => wpAny_pure (wpAny_pure hq))
  show wpAny _ _ (assign (.Name y py) X.env (.ref L)) _ _ _
  refine wpAny_assign_Name (store_ok2 (v := V.ref L) I' hN hy (.inl hyl) rfl (fun s2 I2 ⟨a, sb, ha⟩ => ?_) (.inr hyl))
  obtain ⟨f0, f1, f2, f3, f4, f5⟩ := f
  have haC : C ≠ a := by
    rcases ha with z | z
    · rw [z]; exact f1
    · exact fun e => f4 y a z e.symm
  refine ⟨m, hn.sameBut sb haC, fun h3 sb3 => ?_⟩
  exact ⟨_, H', I2.turned (t' := s2.toks) (fun b o hb e => (sb3.2 b hb).trans e) f0 f1 f3 f4 f5, q⟩
theorem sw_trueD {kx vx : Expr} {gs : List Comprehension} {scope : Scope} {pos py : Pos} {y : Str} {l : Nat} {env : Env} (hk : env.scope.kind = .function) (hy : env.scope.names.lookup y = some .local) (hl : (py.line == pos.line) = true)
    (ha : (scope.names.any fun (n, k) => n == y && (k == .local || k == .cell)) = false) : swapsWith (.DictComp kx vx gs scope pos) (some (.Name y py)) l env = pure true := by
  have ky : env.kindOf y = some .local := hy
  have hb : env.blockKind = .function := by unfold Env.blockKind; rw [hk]; rfl
  unfold swapsWith
  simp only [hb, ky, ha, Expr.pos, hl]
  rfl
end
end PL

-- PLiter
/-! PL, what is walked: enumerate and zip of lists, tuples, texts in any mix. -/
namespace PL
open PySem PySem.Spec PyProof.Rows L2
/-- a thing that is walked by its own iterator -/
inductive Src where
  | l (a : Addr) (vs : List V) | t (a : Addr) (vs : List V) | s (x : Str) (k : Tok)
def Src.vs : Src → List V
  | .l _ vs => vs | .t _ vs => vs | .s x _ => x.cps.toList.map fun c => .str ⟨#[c]⟩
def Src.ok (K : PySem.W.Frag) (H : Hp) : Src → Prop
  | .l a vs => SqL K H a vs | .t a vs => SqT K H a vs | .s _ _ => True
def Src.fpx : Src → List Addr
  | .l a _ => [a] | .t a _ => [a] | .s _ _ => []
def Src.val : Src → Value
  | .l a _ => .ref a | .t a _ => .ref a | .s x k => .str x k
def Src.tn (it : Addr) (i : Nat) (h : Heap) : Src → Prop
  | .l a _ => h.IsListIter it a i | .t a _ => h.IsTupleIter it a i | .s x k => h.IsStrIter it (strIterType x) x k i
def Src.beg : Src → Obj
  | .l a _ => { cls := .type "list_iterator", data := .fields #[.ref a, .int 0 0] }
  | .t a _ => { cls := .type "tuple_iterator", data := .fields #[.ref a, .int 0 0] }
  | .s x k => { cls := .type (strIterType x), data := .fields #[.str x k, .int 0 0] }
theorem Src.tn_at {it : Addr} {i : Nat} {h h' : Heap} {S : Src} (t : S.tn it i h) (k : ∀ o, h.get? it = some o → h'.get? it = some o) : S.tn it i h' := by
  cases S with
  | l a vs => exact Heap.IsListIter.at t k
  | t a vs => exact Heap.IsTupleIter.at t k
  | s x q => exact let ⟨o, ho, r⟩ := t; ⟨o, k o ho, r⟩
theorem Src.tn_obj {it : Addr} {i : Nat} {h : Heap} {S : Src} (t : S.tn it i h) : ∃ o, h.get? it = some o ∧ ∃ vs, o.data = .fields vs := by
  cases S with
  | l a vs => obtain ⟨o, e, c, d⟩ := t; exact ⟨o, e, _, d⟩
  | t a vs => obtain ⟨o, e, c, d⟩ := t; exact ⟨o, e, _, d⟩
  | s x q => obtain ⟨o, e, c, d⟩ := t; exact ⟨o, e, _, d⟩
theorem Src.tn_beg {h : Heap} {it : Addr} (S : Src) (e : h.get? it = some S.beg) : S.tn it 0 h := by
  cases S with
  | l a vs => exact ⟨_, e, rfl, rfl⟩
  | t a vs => exact ⟨_, e, rfl, rfl⟩
  | s x q => exact ⟨_, e, rfl, rfl⟩
section
variable {X : Cx} {pins : List (Addr × Obj)} {σ : L2.St} {H : Hp} {s : Shared}
/-- its draws, where it stands -/
theorem Src.draws {A : Around} {S : Src} (hh : A.handled = none) (I : Inv X pins σ H s) (ok : S.ok X.K H) {it : Addr} {i : Nat} (t : S.tn it i s.heap) :
    ∃ P St, Draws X.prog X.w A it (it :: S.fpx) S.vs.length P St ∧ St i s.heap ∧ (∀ j h, St j h → S.tn it j h) ∧ (∀ j u, P j u → ∃ x, S.vs[j]? = some x ∧ RelV x u) ∧
      (∀ b ∈ S.fpx, ∃ o, s.heap.get? b = some o ∧ ∃ xs k, o.data = .seq xs k) := by
  cases S with
  | l a vs =>
    obtain ⟨its, rv, p, _⟩ := I.list ok
    have ne : a ≠ it := fun z => by
      obtain ⟨o, n, e, _, _, d⟩ := p
      obtain ⟨o', e', _, d'⟩ := t
      rw [z, e'] at e; cases e
      rw [d'] at d; cases d
    have e1 : its.toArray.size = vs.length := by rw [List.size_toArray, rv.length]
    refine ⟨_, _, e1 ▸ Draws.list hh it a ne its.toArray, ⟨t, p.isList⟩, fun j h q => q.1, fun j u hu => ?_, fun b hb => ?_⟩
    · have hu : its[j]? = some u := by simpa using hu
      have hl : j < vs.length := by rw [rv.length]; exact (List.getElem?_eq_some_iff.mp hu).1
      obtain ⟨u', e2, r⟩ := rv.get (List.getElem?_eq_getElem hl)
      rw [hu] at e2; cases e2
      exact ⟨_, List.getElem?_eq_getElem hl, r⟩
    · have : b = a := by simpa [Src.fpx] using hb
      subst this
      obtain ⟨o, n, e, _, _, d⟩ := p
      exact ⟨o, e, _, _, d⟩
  | t a vs =>
    obtain ⟨its, rv, p, _⟩ := I.tuple ok
    have ne : a ≠ it := fun z => by
      obtain ⟨o, e, _, n, d⟩ := p
      obtain ⟨o', e', _, d'⟩ := t
      rw [z, e'] at e; cases e
      rw [d'] at d; cases d
    have e1 : its.toArray.size = vs.length := by rw [List.size_toArray, rv.length]
    refine ⟨_, _, e1 ▸ Draws.tuple hh it a ne its.toArray, ⟨t, p⟩, fun j h q => q.1, fun j u hu => ?_, fun b hb => ?_⟩
    · have hu : its[j]? = some u := by simpa using hu
      have hl : j < vs.length := by rw [rv.length]; exact (List.getElem?_eq_some_iff.mp hu).1
      obtain ⟨u', e2, r⟩ := rv.get (List.getElem?_eq_getElem hl)
      rw [hu] at e2; cases e2
      exact ⟨_, List.getElem?_eq_getElem hl, r⟩
    · have : b = a := by simpa [Src.fpx] using hb
      subst this
      obtain ⟨o, e, _, n, d⟩ := p
      exact ⟨o, e, _, _, d⟩
  | s x k =>
    have e1 : x.cps.size = (Src.s x k).vs.length := by simp [Src.vs]
    refine ⟨_, _, e1 ▸ Draws.text hh it x k, t, fun j h q => q, fun j u hu => ?_, fun b hb => by cases hb⟩
    obtain ⟨c, t', hc, rfl⟩ := hu
    have hc : x.cps.toList[j]? = some c := by simpa using hc
    exact ⟨.str ⟨#[c]⟩, by simp [Src.vs, hc], _, rfl⟩
theorem Src.begins {S : Src} (I : Inv X pins σ H s) (ok : S.ok X.K H) : ∃ Hb, Begins S.val S.beg Hb ∧ Hb s.heap := by
  cases S with
  | l a vs => obtain ⟨its, rv, p, _⟩ := I.list ok; exact ⟨_, begins_list a its.toArray, p.isList⟩
  | t a vs => obtain ⟨its, rv, p, _⟩ := I.tuple ok; exact ⟨_, begins_tuple a its.toArray, p⟩
  | s x k => exact ⟨_, begins_text x k, trivial⟩
end
/-- enumerate(S) -/
def ItE (K : PySem.W.Frag) (S : Src) : It :=
  ⟨fun i H => S.ok K H ∧ i < S.vs.length, fun i H v H' => ∃ T x, v = .ref T ∧ H T = none ∧ H' = upd H T (.tup [.int (i : Nat), x]) ∧ S.vs[i]? = some x, fun i H => S.ok K H ∧ S.vs.length ≤ i⟩
theorem turn_enumS {P : Program} {w : World} {K : PySem.W.Frag} {elts : List Expr} {kk : Nat} {tpos : Pos} (S : Src) (e it : Addr) :
    Turn P w K (.Tuple elts kk tpos) (ItE K S) [e, it] e (fun i h => (∃ old, IsEnum h e it ((i : Nat) : Int) old) ∧ S.tn it i h ∧ e ≠ it ∧ i ≤ S.vs.length) where
  mem := by simp
  obj := fun i h st b hb => by
    obtain ⟨⟨old, he⟩, ht, _⟩ := st
    obtain ⟨o, ho, fs, hd⟩ := Src.tn_obj ht
    have e' : b = e ∨ b = it := by simpa using hb
    rcases e' with z | z
    · rw [z]; exact ⟨_, he, fun v q => nomatch q⟩
    · rw [z]; exact ⟨o, ho, fun v q => by rw [hd] at q; cases q⟩
  keep := fun i h h' st k => let ⟨⟨old, he⟩, hi, hne⟩ := st; ⟨⟨old, k e (by simp) _ he⟩, Src.tn_at hi fun o q => k it (by simp) o q, hne⟩
  item := by
    intro X hP hw hK hc i pins s σ H E I hf st hg
    subst hP hw hK
    obtain ⟨⟨old, he⟩, hit, hne, _⟩ := st
    obtain ⟨ok, hlt⟩ := hg
    obtain ⟨P, St, D, hst, hback, hP, hsrc⟩ := Src.draws (A := X.A.in1) (I.ok.hd hc) I ok hit
    have hel : e < s.heap.objs.size := Heap.lt_size he
    have hil : it < s.heap.objs.size := by obtain ⟨_, q, _⟩ := Src.tn_obj hit; exact Heap.lt_size q
    have hef : e ∉ it :: S.fpx := fun z => by
      rcases List.mem_cons.mp z with z | z
      · exact hne z
      · obtain ⟨o, ho, xs, k, hd⟩ := hsrc e z
        have he' : s.heap.get? e = some _ := he
        rw [ho] at he'; cases he'; cases hd
    refine wpAny_pyNext_enum_itemD D he hst hlt hne hef fun u h' tk hu ho hit' hT hsz hk => ?_
    obtain ⟨x, hx, ru⟩ := hP i u hu
    refine ⟨_, rfl, wpAny_letOwnedTupleGo_enum (s := { s with heap := h', toks := tk + 1 }) ho fun h'' he' sb => ?_⟩
    have hT2 : h''.get? s.heap.objs.size = some { cls := .type "tuple", data := .seq #[.int i tk, u] } := (sb.2 _ (Nat.ne_of_gt hel)).trans hT
    have new : ObjOk X.prog X.w (upd H s.heap.objs.size (.tup [.int (i : Nat), x])) h'' s.heap.objs.size (.tup [.int (i : Nat), x]) :=
      ⟨by show 2 ≤ sizeLine; decide, [.int i tk, u], .cons ⟨_, rfl⟩ (.cons ru .nil), ⟨_, hT2, rfl, _, rfl⟩⟩
    have I1 : Inv X pins σ (upd H s.heap.objs.size (.tup [.int (i : Nat), x])) { s with heap := h'', toks := tk + 1 } :=
      I.turnedNew (ch := [e, it]) (fun b ob hb q => (sb.2 b (fun z => hb (by simp [z]))).trans (hk b ob (fun z => hb (by simp [z])) (fun z => hb (by simp [z])) q)) hf (Nat.le_refl _) new
    refine ⟨.ref s.heap.objs.size, _, I1, rfl, ⟨_, x, rfl, I.hok.fresh (Nat.le_refl _), rfl, hx⟩, ⟨⟨u, ?_⟩, Src.tn_at (hback _ _ hit') fun o q => (sb.2 it (Ne.symm hne)).trans q, hne, hlt⟩, fun b hb => ?_⟩
    · have e1 : ((i + 1 : Nat) : Int) = (i : Int) + 1 := by omega
      rw [e1]; exact he'
    · have hb' : b < s.heap.objs.size := by
        have e' : b = e ∨ b = it := by simpa using hb
        rcases e' with z | z
        · rw [z]; exact hel
        · rw [z]; exact hil
      rw [upd_ne (Nat.ne_of_lt hb')]
      exact (hf b hb).1
  done := by
    intro X hP hw hK hc i pins s σ H E I hf st hg
    subst hP hw hK
    obtain ⟨⟨old, he⟩, hit, hne, hle⟩ := st
    obtain ⟨ok, hge⟩ := hg
    obtain ⟨P, St, D, hst, hback, hP, hsrc⟩ := Src.draws (A := X.A.in1) (I.ok.hd hc) I ok hit
    obtain ⟨f0, f1, f2, f3, f4, f5⟩ := hf it (by simp)
    have ei : i = S.vs.length := Nat.le_antisymm hle hge
    rw [ei] at hst he
    exact wpAny_pyNext_enum_endD D he hst fun h' eb => ⟨rfl, I.turned (t' := s.toks) (fun b o hb q => eb b o hb q) f0 f1 f3 f4 f5⟩
  self := fun A i s Q E st h => let ⟨⟨_, he⟩, _⟩ := st; wpAny_pyIter_enum he h
/-- a value that is walked by its own iterator -/
def SrcV (K : PySem.W.Frag) (H : Hp) (v : V) (R : (Tok → Src) → Prop) : Prop :=
  (∃ a vs, v = .ref a ∧ SqL K H a vs ∧ R fun _ => .l a vs) ∨ (∃ a vs, v = .ref a ∧ SqT K H a vs ∧ R fun _ => .t a vs) ∨ ∃ x, v = .str x ∧ R fun k => .s x k
theorem SrcV.get {K : PySem.W.Frag} {H : Hp} {v : V} {R : (Tok → Src) → Prop} {u : Value} (h : SrcV K H v R) (r : RelV v u) : ∃ f : Tok → Src, ∃ k : Tok, (f k).ok K H ∧ (f k).val = u ∧ R f := by
  rcases h with ⟨a, vs, rfl, hq, hr⟩ | ⟨a, vs, rfl, hq, hr⟩ | ⟨x, rfl, hr⟩
  · cases r; exact ⟨fun _ => .l a vs, 0, hq, rfl, hr⟩
  · cases r; exact ⟨fun _ => .t a vs, 0, hq, rfl, hr⟩
  · obtain ⟨t, rfl⟩ := r; exact ⟨fun k => .s x k, t, trivial, rfl, hr⟩
def iEnumS (K : PySem.W.Frag) (ta : TA) : TI := fun σ H R => ta σ H fun vs H1 => ∃ v, vs = [v] ∧ SrcV K H1 v fun f => ∀ k, R (ItE K (f k)) H1
set_option maxHeartbeats 1000000 in
theorem meets_enumerate_newB1 {v : Value} {o : Obj} {H : Heap → Prop} (B : Begins v o H) :
    Meets (Builtin.«enumerate.__new__» ⟨[.type "enumerate", v], []⟩) (fun _ R s => H s.heap ∧
      R (.ok (.ret (.ref (s.heap.push o).objs.size))) { s with heap := (s.heap.push o).push { cls := .type "enumerate", data := .fields #[.none, .bool false, .ref s.heap.objs.size, rawInt 0, .none, .none] } }) :=
  .of_wp fun prog w A R s h => by
    obtain ⟨hp, g, d, tk, os⟩ := s; obtain ⟨h1, h⟩ := h
    have hsub := sub_enumerate
    have q1 : ∀ {A' : Around} {E : Value → Shared → Prop} {Q : Value → Shared → Prop}, Q (.ref hp.objs.size) ⟨hp.push o, g, d, tk, os⟩ → wpAny (model prog w) A' (pyIter v) Q E ⟨hp, g, d, tk, os⟩ :=
      fun q => B.iter prog w _ _ ⟨hp, g, d, tk, os⟩ _ h1 q
    wp_walk using q1
    refine wpAny_stack_any fun st => wpAny_pure ?_
    split
    · rename_i c _ _ _ _ _
      cases (c == Value.type "enumerate")
      · wp_walk using q1
        exact ⟨_, rfl, h⟩
      · wp_walk using q1
        exact ⟨_, rfl, h⟩
    · wp_walk using q1
      exact ⟨_, rfl, h⟩
theorem call_enumerate_1 {prog : Program} {w : World} {A : Around} {E : Value → Shared → Prop} {s : Shared} {S : Src} {X : Cx} {pins : List (Addr × Obj)} {σ : L2.St} {H : Hp} {Q : Value → Shared → Prop} (I : Inv X pins σ H s) (ok : S.ok X.K H)
    (h : ∀ h', IsEnum h' (s.heap.objs.size + 1) s.heap.objs.size 0 .none → S.tn s.heap.objs.size 0 h' → h'.objs.size = s.heap.objs.size + 2 →
      (∀ b o, s.heap.get? b = some o → h'.get? b = some o) → Q (.ref (s.heap.objs.size + 1)) { s with heap := h' }) :
    wpAny (model prog w) A (call (.type "enumerate") [S.val]) Q E s := by
  obtain ⟨Hb, B, hb⟩ := Src.begins I ok
  refine callType_new F.called_enumerate (by decide) (F.typeCall_enumerate_1 _) (F.newCall_enumerate_1 _) (fun obj => F.args_object_init_2 obj _) F.entry_enumerate_new
    (meets_enumerate_newB1 B) ⟨hb, ?_⟩
  have hz : (s.heap.push S.beg).objs.size = s.heap.objs.size + 1 := Heap.size_push ..
  show _ ∧ _
  rw [hz]
  have he : IsEnum ((s.heap.push S.beg).push { cls := .type "enumerate", data := .fields #[.none, .bool false, .ref s.heap.objs.size, rawInt 0, .none, .none] }) (s.heap.objs.size + 1) s.heap.objs.size 0 .none := by
    have := Heap.get?_push_size (s.heap.push S.beg) (o := { cls := .type "enumerate", data := .fields #[.none, .bool false, .ref s.heap.objs.size, rawInt 0, .none, .none] }) rfl
    rw [hz] at this; exact this
  refine ⟨⟨_, he, rfl⟩, h _ he (Src.tn_beg S (Heap.get?_push_of_some _ (Heap.get?_push_size _ B.free))) (by rw [Heap.size_push, hz]) fun b o x => Heap.get?_push_of_some _ (Heap.get?_push_of_some _ x)⟩
theorem pi_enumS {X : Cx} {e : Expr} {ta : TA} {p pos tpos : Pos} {elts : List Expr} {kk : Nat} (hg : Gl X "enumerate") (hm : X.mg "enumerate" = none) (ha : PA X [e] ta) (hs : starEach [e] X.env = [(false, eval e X.env)] := by rfl) :
    PI X (.Tuple elts kk tpos) (.Call (.Name "enumerate" p) [e] [] pos) (iEnumS X.K ta) := by
  refine ⟨fun pins s σ H R I h => ?_⟩
  refine Call_ (ld_blt I hg hm boot_enumerate (PyProof.Rows.callWith_type1 (thn (ha.run pos pins s σ H _ I h) fun us s1 ⟨vs, H1, I1, r1, v, ev, q1⟩ => ?_) hs rfl))
  subst ev
  obtain ⟨u, rfl, r⟩ := vals1 r1
  obtain ⟨f, k, ok, hu, q⟩ := q1.get r
  rw [← hu]
  refine call_enumerate_1 I1 ok fun h' he hit hsz hk => wpAny_pyIter_enum he ?_
  have I2 : Inv X pins σ H1 { s1 with heap := h' } := I1.kept (t' := s1.toks) hk
  refine ⟨s1.heap.objs.size + 1, [s1.heap.objs.size + 1, s1.heap.objs.size], _, _, H1, rfl, I2, turn_enumS (f k) (s1.heap.objs.size + 1) s1.heap.objs.size, ⟨⟨.none, he⟩, hit, Nat.succ_ne_self _, Nat.zero_le _⟩, fun b hb => ?_, q k⟩
  have e' : b = s1.heap.objs.size + 1 ∨ b = s1.heap.objs.size := by simpa using hb
  have hle : s1.heap.objs.size ≤ b := by
    rcases e' with z | z
    · rw [z]; exact Nat.le_add_right _ _
    · rw [z]; exact Nat.le_refl _
  exact I1.fpOk hle (I1.hok.fresh hle)
/-- zip(S1, S2) -/
def ItZ (K : PySem.W.Frag) (S1 S2 : Src) : It :=
  ⟨fun i H => S1.ok K H ∧ S2.ok K H ∧ i < S1.vs.length ∧ i < S2.vs.length, fun i H v H' => ∃ T x y, v = .ref T ∧ H T = none ∧ H' = upd H T (.tup [x, y]) ∧ S1.vs[i]? = some x ∧ S2.vs[i]? = some y,
    fun i H => S1.ok K H ∧ S2.ok K H ∧ (S1.vs.length ≤ i ∨ S2.vs.length ≤ i)⟩
structure ZipA (z TI TO i1 i2 : Addr) : Prop where
  TIz : TI ≠ z
  TOz : TO ≠ z
  TITO : TI ≠ TO
  TIi1 : TI ≠ i1
  TIi2 : TI ≠ i2
  i12 : i1 ≠ i2
  zi1 : z ≠ i1
  zi2 : z ≠ i2
  Ti1 : TO ≠ i1
  Ti2 : TO ≠ i2
theorem turn_zipS {P : Program} {w : World} {K : PySem.W.Frag} {elts : List Expr} {kk : Nat} {tpos : Pos} (S1 S2 : Src) {z TI TO i1 i2 : Addr} (D : ZipA z TI TO i1 i2) :
    Turn P w K (.Tuple elts kk tpos) (ItZ K S1 S2) [z, TI, TO, i1, i2] z (fun i h => IsZip h z TI TO .none ∧ IsTupOf2 h TI (.ref i1) (.ref i2) ∧ (∃ x y, IsTupOf2 h TO x y) ∧ S1.tn i1 i h ∧ S2.tn i2 i h ∧ i ≤ S1.vs.length ∧ i ≤ S2.vs.length ∧ (TO ∉ S1.fpx ∧ TO ∉ S2.fpx)) where
  mem := by simp
  obj := fun i h st c hc => by
    obtain ⟨hz, hTI, ⟨x, y, hTO⟩, t1, t2, _⟩ := st
    obtain ⟨o1, e1, _, d1⟩ := Src.tn_obj t1
    obtain ⟨o2, e2, _, d2⟩ := Src.tn_obj t2
    have e' : c = z ∨ c = TI ∨ c = TO ∨ c = i1 ∨ c = i2 := by simpa using hc
    rcases e' with q | q | q | q | q
    · rw [q]; exact ⟨_, hz, fun v q => nomatch q⟩
    · rw [q]; exact ⟨_, hTI, fun v q => nomatch q⟩
    · rw [q]; exact ⟨_, hTO, fun v q => nomatch q⟩
    · rw [q]; exact ⟨o1, e1, fun v q => by rw [d1] at q; cases q⟩
    · rw [q]; exact ⟨o2, e2, fun v q => by rw [d2] at q; cases q⟩
  keep := fun i h h' st k => by
    obtain ⟨hz, hTI, ⟨x, y, hTO⟩, h1, h2, r⟩ := st
    exact ⟨k z (by simp) _ hz, k TI (by simp) _ hTI, ⟨x, y, k TO (by simp) _ hTO⟩, Src.tn_at h1 fun o q => k i1 (by simp) o q, Src.tn_at h2 fun o q => k i2 (by simp) o q, r⟩
  item := by
    intro X hP hw hK hc i pins s σ H E I hf st hg
    subst hP hw hK
    obtain ⟨hz, hTI, ⟨x0, y0, hTO⟩, h1, h2, l1, l2, nT1, nT2⟩ := st
    obtain ⟨ok1, ok2, lt1, lt2⟩ := hg
    obtain ⟨P1, St1, D1, st1, back1, hP1, src1⟩ := Src.draws (A := X.A.in1) (I.ok.hd hc) I ok1 h1
    obtain ⟨P2, St2, D2, st2, back2, hP2, src2⟩ := Src.draws (A := X.A.in1) (I.ok.hd hc) I ok2 h2
    have fz : ∀ (S : Src), (∀ b ∈ S.fpx, ∃ o, s.heap.get? b = some o ∧ ∃ xs k, o.data = .seq xs k) → z ∉ S.fpx := fun S q m => by
      obtain ⟨o, ho, xs, k, hd⟩ := q z m
      have hz' : s.heap.get? z = some _ := hz
      rw [ho] at hz'; cases hz'; cases hd
    have fi : ∀ (S S' : Src) (it : Addr), S'.tn it i s.heap → (∀ b ∈ S.fpx, ∃ o, s.heap.get? b = some o ∧ ∃ xs k, o.data = .seq xs k) → it ∉ S.fpx := fun S S' it t q m => by
      obtain ⟨o, ho, xs, k, hd⟩ := q it m
      obtain ⟨o', e', fs, d'⟩ := Src.tn_obj t
      rw [ho] at e'; cases e'; rw [hd] at d'; cases d'
    have Sep : ZipSep2 z TI TO i1 i2 (i1 :: S1.fpx) (i2 :: S2.fpx) :=
      { TIz := D.TIz, TOz := D.TOz, TITO := D.TITO, TIi1 := D.TIi1, mem1 := List.mem_cons_self,
        zf1 := fun m => (List.mem_cons.mp m).elim D.zi1 (fz S1 src1), Tf1 := fun m => (List.mem_cons.mp m).elim D.Ti1 nT1,
        TIi2 := D.TIi2, mem2 := List.mem_cons_self, zf2 := fun m => (List.mem_cons.mp m).elim D.zi2 (fz S2 src2), Tf2 := fun m => (List.mem_cons.mp m).elim D.Ti2 nT2,
        sep1_2 := fun m => (List.mem_cons.mp m).elim D.i12 (fi S2 S1 i1 h1 src2), sep2_1 := fun m => (List.mem_cons.mp m).elim D.i12.symm (fi S1 S2 i2 h2 src1) }
    have hzl : z < s.heap.objs.size := Heap.lt_size hz
    refine wpAny_pyNext_zipD2_item Sep D1 D2 hz hTI hTO st1 st2 lt1 lt2 fun u u2 h' tk p1 p2 z' TO' s1' s2' hT hsz hk => ?_
    obtain ⟨x, hx, ru⟩ := hP1 i u p1
    obtain ⟨y, hy, ru2⟩ := hP2 i u2 p2
    refine ⟨_, rfl, wpAny_letOwnedTupleGo_zip (s := { s with heap := h', toks := tk }) z' fun h'' z'' sb => ?_⟩
    have hT2 : h''.get? s.heap.objs.size = some { cls := .type "tuple", data := .seq #[u, u2] } := (sb.2 _ (Nat.ne_of_gt hzl)).trans hT
    have new : ObjOk X.prog X.w (upd H s.heap.objs.size (.tup [x, y])) h'' s.heap.objs.size (.tup [x, y]) :=
      ⟨by show 2 ≤ sizeLine; decide, [u, u2], .cons ru (.cons ru2 .nil), ⟨_, hT2, rfl, _, rfl⟩⟩
    have I1 : Inv X pins σ (upd H s.heap.objs.size (.tup [x, y])) { s with heap := h'', toks := tk } :=
      I.turnedNew (t' := tk) (ch := [z, TI, TO, i1, i2]) (fun c o hb q => (sb.2 c (fun q' => hb (by simp [q']))).trans (hk c o (fun q' => hb (by simp [q'])) (fun q' => hb (by simp [q'])) (fun q' => hb (by simp [q'])) (fun q' => hb (by simp [q'])) q)) hf (Nat.le_refl _) new
    refine ⟨.ref s.heap.objs.size, _, I1, rfl, ⟨_, x, y, rfl, I.hok.fresh (Nat.le_refl _), rfl, hx, hy⟩, ⟨z'', ?_, ⟨u, u2, ?_⟩, ?_, ?_, lt1, lt2, nT1, nT2⟩, fun c hcm => ?_⟩
    · exact (sb.2 _ D.TIz).trans (hk _ _ D.TIz D.TITO D.TIi1 D.TIi2 hTI)
    · exact (sb.2 _ D.TOz).trans TO'
    · exact Src.tn_at (back1 _ _ s1') fun o q => (sb.2 _ D.zi1.symm).trans q
    · exact Src.tn_at (back2 _ _ s2') fun o q => (sb.2 _ D.zi2.symm).trans q
    · have hlt : c < s.heap.objs.size := by
        have e' : c = z ∨ c = TI ∨ c = TO ∨ c = i1 ∨ c = i2 := by simpa using hcm
        rcases e' with q | q | q | q | q
        · rw [q]; exact hzl
        · rw [q]; exact Heap.lt_size hTI
        · rw [q]; exact Heap.lt_size hTO
        · rw [q]; obtain ⟨_, e1, _⟩ := Src.tn_obj h1; exact Heap.lt_size e1
        · rw [q]; obtain ⟨_, e2, _⟩ := Src.tn_obj h2; exact Heap.lt_size e2
      rw [upd_ne (Nat.ne_of_lt hlt)]
      exact (hf c hcm).1
  done := by
    intro X hP hw hK hc i pins s σ H E I hf st hg
    subst hP hw hK
    obtain ⟨hz, hTI, ⟨x0, y0, hTO⟩, h1, h2, l1, l2, nT1, nT2⟩ := st
    obtain ⟨ok1, ok2, hend⟩ := hg
    obtain ⟨P1, St1, D1, st1, back1, hP1, src1⟩ := Src.draws (A := X.A.in1) (I.ok.hd hc) I ok1 h1
    obtain ⟨P2, St2, D2, st2, back2, hP2, src2⟩ := Src.draws (A := X.A.in1) (I.ok.hd hc) I ok2 h2
    have fz : ∀ (S : Src), (∀ b ∈ S.fpx, ∃ o, s.heap.get? b = some o ∧ ∃ xs k, o.data = .seq xs k) → z ∉ S.fpx := fun S q m => by
      obtain ⟨o, ho, xs, k, hd⟩ := q z m
      have hz' : s.heap.get? z = some _ := hz
      rw [ho] at hz'; cases hz'; cases hd
    have fi : ∀ (S S' : Src) (it : Addr), S'.tn it i s.heap → (∀ b ∈ S.fpx, ∃ o, s.heap.get? b = some o ∧ ∃ xs k, o.data = .seq xs k) → it ∉ S.fpx := fun S S' it t q m => by
      obtain ⟨o, ho, xs, k, hd⟩ := q it m
      obtain ⟨o', e', fs, d'⟩ := Src.tn_obj t
      rw [ho] at e'; cases e'; rw [hd] at d'; cases d'
    have Sep : ZipSep2 z TI TO i1 i2 (i1 :: S1.fpx) (i2 :: S2.fpx) :=
      { TIz := D.TIz, TOz := D.TOz, TITO := D.TITO, TIi1 := D.TIi1, mem1 := List.mem_cons_self,
        zf1 := fun m => (List.mem_cons.mp m).elim D.zi1 (fz S1 src1), Tf1 := fun m => (List.mem_cons.mp m).elim D.Ti1 nT1,
        TIi2 := D.TIi2, mem2 := List.mem_cons_self, zf2 := fun m => (List.mem_cons.mp m).elim D.zi2 (fz S2 src2), Tf2 := fun m => (List.mem_cons.mp m).elim D.Ti2 nT2,
        sep1_2 := fun m => (List.mem_cons.mp m).elim D.i12 (fi S2 S1 i1 h1 src2), sep2_1 := fun m => (List.mem_cons.mp m).elim D.i12.symm (fi S1 S2 i2 h2 src1) }
    refine wpAny_pyNext_zipD2_end Sep D1 D2 hz hTI hTO st1 st2 l1 l2 (by omega) fun h' tk hk => ⟨rfl, I.turnedL (t' := tk) (ch := [z, TI, TO, i1, i2]) (fun c o hb q =>
      hk c o (fun q' => hb (by simp [q'])) (fun q' => hb (by simp [q'])) (fun q' => hb (by simp [q'])) (fun q' => hb (by simp [q'])) q) hf⟩
  self := fun A i s Q E st h => wpAny_pyIter_zip st.1 h
def iZipS (K : PySem.W.Frag) (ta : TA) : TI := fun σ H R => ta σ H fun vs H1 => ∃ v u, vs = [v, u] ∧ SrcV K H1 v fun f => SrcV K H1 u fun g => ∀ k l, R (ItZ K (f k) (g l)) H1
theorem Src.fpx_lt {X : Cx} {pins : List (Addr × Obj)} {σ : L2.St} {H : Hp} {s : Shared} {S : Src} (I : Inv X pins σ H s) (ok : S.ok X.K H) : ∀ b ∈ S.fpx, b < s.heap.objs.size := fun b hb => by
  cases S with
  | l a vs =>
    obtain ⟨its, rv, ⟨o, n, e, _⟩, _⟩ := I.list ok
    have : b = a := by simpa [Src.fpx] using hb
    subst this; exact Heap.lt_size e
  | t a vs =>
    obtain ⟨its, rv, ⟨o, e, _⟩, _⟩ := I.tuple ok
    have : b = a := by simpa [Src.fpx] using hb
    subst this; exact Heap.lt_size e
  | s x k => cases hb
theorem pi_zipS {X : Cx} {e e2 : Expr} {ta : TA} {p pos tpos : Pos} {elts : List Expr} {kk : Nat} (hg : Gl X "zip") (hm : X.mg "zip" = none) (ha : PA X [e, e2] ta)
    (hs : starEach [e, e2] X.env = (false, eval e X.env) :: starEach [e2] X.env := by rfl) (hpl : (backTo pos (starEach [e2] X.env)).any (·.1) = false := by rfl) :
    PI X (.Tuple elts kk tpos) (.Call (.Name "zip" p) [e, e2] [] pos) (iZipS X.K ta) := by
  refine ⟨fun pins s σ H R I h => ?_⟩
  refine Call_ (ld_blt I hg hm PyProof.Rows.boot_zip (PyProof.Rows.callWith_type1 (thn (ha.run pos pins s σ H _ I h) fun us s1 ⟨vs, H1, I1, r1, v, u, ev, q1⟩ => ?_) hs hpl))
  subst ev
  obtain ⟨u1, u2, rfl, ra, rb⟩ := vals2 r1
  obtain ⟨f, k, ok1, hu1, q1⟩ := q1.get ra
  obtain ⟨g, l, ok2, hu2, q⟩ := q1.get rb
  rw [← hu1, ← hu2]
  obtain ⟨Hb1, B1, hb1⟩ := Src.begins I1 ok1
  obtain ⟨Hb2, B2, hb2⟩ := Src.begins I1 ok2
  refine zip_begins2 B1 B2 hb1 hb2 fun h' hz hTI hTO h1 h2 hsz hk => wpAny_pyIter_zip hz ?_
  have I2 : Inv X pins σ H1 { s1 with heap := h' } := I1.kept (t' := s1.toks) hk
  have fresh5 : ∀ c, c ∈ [s1.heap.objs.size + 4, s1.heap.objs.size + 2, s1.heap.objs.size + 3, s1.heap.objs.size, s1.heap.objs.size + 1] → FpOk X pins H1 c := fun c hcm => by
    have e' : c = s1.heap.objs.size + 4 ∨ c = s1.heap.objs.size + 2 ∨ c = s1.heap.objs.size + 3 ∨ c = s1.heap.objs.size ∨ c = s1.heap.objs.size + 1 := by simpa using hcm
    have hle : s1.heap.objs.size ≤ c := by
      rcases e' with z | z | z | z | z
      · rw [z]; exact Nat.le_add_right _ _
      · rw [z]; exact Nat.le_add_right _ _
      · rw [z]; exact Nat.le_add_right _ _
      · rw [z]; exact Nat.le_refl _
      · rw [z]; exact Nat.le_add_right _ _
    exact I1.fpOk hle (I1.hok.fresh hle)
  have ne : ∀ i j : Nat, i ≠ j → s1.heap.objs.size + i ≠ s1.heap.objs.size + j := fun i j h e => h (Nat.add_left_cancel e)
  have nf : ∀ (S : Src), S.ok X.K H1 → s1.heap.objs.size + 3 ∉ S.fpx := fun S ok m => absurd (Src.fpx_lt I1 ok _ m) (by intro z; exact absurd (Nat.lt_of_le_of_lt (Nat.le_add_right _ 3) z) (Nat.lt_irrefl _))
  refine ⟨s1.heap.objs.size + 4, _, _, _, H1, rfl, I2, turn_zipS (f k) (g l) ⟨ne 2 4 (by decide), ne 3 4 (by decide), ne 2 3 (by decide), ne 2 0 (by decide), ne 2 1 (by decide), ne 0 1 (by decide), ne 4 0 (by decide), ne 4 1 (by decide), ne 3 0 (by decide), ne 3 1 (by decide)⟩,
    ⟨hz, hTI, ⟨_, _, hTO⟩, Src.tn_beg _ h1, Src.tn_beg _ h2, Nat.zero_le _, Nat.zero_le _, nf _ ok1, nf _ ok2⟩, fresh5, q k l⟩
/-! ### one of several -/
def iOr (a b : TI) : TI := fun σ H R => a σ H R ∨ b σ H R
theorem pi_or {X : Cx} {tg e : Expr} {a b : TI} (h1 : PI X tg e a) (h2 : PI X tg e b) : PI X tg e (iOr a b) := ⟨fun pins s σ H R I h => h.elim (h1.run pins s σ H R I) (h2.run pins s σ H R I)⟩
def iSeq (K : PySem.W.Frag) (te : TE) : TI := iOr (iList K te) (iOr (iTup K te) (iStr te))
theorem pi_seq {X : Cx} {tg e : Expr} {te : TE} (h : PE X e te) : PI X tg e (iSeq X.K te) := pi_or (pi_list h) (pi_or (pi_tup h) (pi_str h))
def iAny (K : PySem.W.Frag) (te : TE) : TI := iOr (iSeq K te) (iKeys te)
theorem pi_any {X : Cx} {tg e : Expr} {te : TE} (h : PE X e te) : PI X tg e (iAny X.K te) := pi_or (pi_seq h) (pi_keys h)
end PL

-- PLwalk
/-! PL, what is walked: the items; locked dicts. -/
namespace PL
open PySem PySem.Spec PyProof.Rows L2
section
variable {K : PySem.W.Frag} {Fr : Hp} {la : Addr} {σ : L2.St} {ε : En} {G H G' H' : Hp}
theorem SqL.inl' {K : PySem.W.Frag} {H : Hp} {a : Addr} {xs : List V} (h : Rd H a (.lst xs)) : SqL K H a xs := .inl h
theorem jok_l {a : Addr} {vs : List V} {ds : List D} (h : SqL K G a vs) (r : RpA K G vs ds) : JOk K Fr G (Itl K a) ds := fun G1 H1 m1 m2 f => by
  have hq := sql_mo (m1.trans m2) h
  have len := r.length
  refine ⟨fun i hi => ⟨vs, vs[i]'(by omega), hq, List.getElem?_eq_getElem (by omega)⟩, fun i hi => ⟨vs, hq, by omega⟩, fun i x H2 hi hy => ?_⟩
  obtain ⟨rfl, hy⟩ := hy
  obtain ⟨d, hd, rd⟩ := r.get (hy vs hq)
  exact ⟨d, G1, hd, .refl m2, rd.mo m1⟩
theorem jok_t {a : Addr} {vs : List V} {ds : List D} (h : G a = some (.tup vs)) (r : RpA K G vs ds) : JOk K Fr G (Itt K a) ds := fun G1 H1 m1 m2 f => by
  have hq : SqT K H1 a vs := .of ((m1.trans m2).tp _ _ h)
  have len := r.length
  refine ⟨fun i hi => ⟨vs, vs[i]'(by omega), hq, List.getElem?_eq_getElem (by omega)⟩, fun i hi => ⟨vs, hq, by omega⟩, fun i x H2 hi hy => ?_⟩
  obtain ⟨rfl, hy⟩ := hy
  obtain ⟨d, hd, rd⟩ := r.get (hy vs hq)
  exact ⟨d, G1, hd, .refl m2, rd.mo m1⟩
def signs (x : Str) : List D := (sL x).map fun c => tx [c]
theorem signs_get {x : Str} {i : Nat} {c : Nat} (h : x.cps[i]? = some c) : (signs x)[i]? = some (.str ⟨#[c]⟩) := by
  have h' : x.cps.toList[i]? = some c := by simpa using h
  simp [signs, sL, h', tx]
theorem signs_len (x : Str) : (signs x).length = x.cps.size := by simp [signs, sL]
theorem jok_s (x : Str) : JOk K Fr G (Its x) (signs x) := fun G1 H1 m1 m2 f => by
  refine ⟨fun i hi => by rw [signs_len] at hi; exact hi, fun i hi => by rw [signs_len] at hi; exact hi, fun i v H2 hi hy => ?_⟩
  obtain ⟨rfl, c, hc, rfl⟩ := hy
  exact ⟨_, G1, signs_get hc, .refl m2, .str _⟩
theorem intsL_get {lo c : Int} {n i : Nat} (h : i < n) : (intsL lo c n)[i]? = some (.int (lo + (i : Nat) * c)) := by
  simp [intsL, h]
theorem intsL_len (lo c : Int) (n : Nat) : (intsL lo c n).length = n := by simp [intsL]
theorem jok_r {lo : Int} {n : Nat} : JOk K Fr G (Itr lo n) (intsL lo 1 n) := fun G1 H1 m1 m2 f => by
  refine ⟨fun i hi => by rw [intsL_len] at hi; exact hi, fun i hi => by rw [intsL_len] at hi; exact hi, fun i v H2 hi hy => ?_⟩
  obtain ⟨rfl, rfl⟩ := hy
  rw [intsL_len] at hi
  refine ⟨_, G1, intsL_get hi, .refl m2, ?_⟩
  rw [Int.mul_one]; exact .int _
theorem jok_c {lo c : Int} {n : Nat} : JOk K Fr G (Itc lo c n) (intsL lo c n) := fun G1 H1 m1 m2 f => by
  refine ⟨fun i hi => by rw [intsL_len] at hi; exact hi, fun i hi => by rw [intsL_len] at hi; exact hi, fun i v H2 hi hy => ?_⟩
  obtain ⟨rfl, rfl⟩ := hy
  rw [intsL_len] at hi
  exact ⟨_, G1, intsL_get hi, .refl m2, .int _⟩
/-- a datum that is walked by its own iterator -/
theorem rp_src {v : V} {d : D} {ds : List D} {R : (Tok → Src) → Prop} (r : Rp K G v d) (e : seqD d = some ds) (m : Mo G H)
    (h : ∀ f : Tok → Src, (∀ k, (∀ H1, Mo G H1 → (f k).ok K H1) ∧ RpA K G (f k).vs ds) → R f) : SrcV K H v R := by
  cases d with
  | list xs =>
    cases e
    cases r with
    | lst hq r => have hq := SqL.inl' (K := K) hq; exact .inl ⟨_, _, rfl, sql_mo m hq, h _ fun k => ⟨fun H1 m1 => sql_mo m1 hq, r⟩⟩
  | tuple xs =>
    cases e
    cases r with
    | tup hq r => exact .inr (.inl ⟨_, _, rfl, .of (m.tp _ _ hq), h _ fun k => ⟨fun H1 m1 => .of (m1.tp _ _ hq), r⟩⟩)
  | str x =>
    cases e
    cases r
    refine .inr (.inr ⟨x, rfl, h _ fun k => ⟨fun H1 m1 => trivial, ?_⟩⟩)
    have : ∀ l : List Nat, RpA K G (l.map fun c => V.str ⟨#[c]⟩) (l.map fun c => tx [c]) := fun l => by
      induction l with
      | nil => exact .nil
      | cons c l ih => exact .cons (.str _) ih
    exact this _
  | _ => cases e
theorem enumL_get : ∀ {ds : List D} {n i : Nat}, (enumL n ds)[i]? = (ds[i]?).map (pairI (n + i))
  | [], _, _ => by simp [enumL]
  | d :: ds, n, 0 => by simp [enumL]
  | d :: ds, n, i + 1 => by
    simp only [enumL, List.getElem?_cons_succ]
    rw [enumL_get (ds := ds) (n := n + 1) (i := i), Nat.add_assoc, Nat.add_comm 1 i]
theorem enumL_len : ∀ (ds : List D) (n : Nat), (enumL n ds).length = ds.length
  | [], _ => rfl
  | d :: ds, n => by simp [enumL, enumL_len ds]
theorem jok_e {S : Src} {ds : List D} (ok : ∀ H1, Mo G H1 → S.ok K H1) (r : RpA K G S.vs ds) : JOk K Fr G (ItE K S) (enumL 0 ds) := fun G1 H1 m1 m2 f => by
  have len := r.length
  refine ⟨fun i hi => ⟨ok _ (m1.trans m2), by rw [enumL_len] at hi; omega⟩, fun i hi => ⟨ok _ (m1.trans m2), by rw [enumL_len] at hi; omega⟩, fun i v H2 hi hy => ?_⟩
  obtain ⟨T, x, rfl, hT, rfl, hx⟩ := hy
  obtain ⟨d, hd, rd⟩ := r.get hx
  have n : New G1 H1 (upd G1 T (.tup [.int (i : Nat), x])) (upd H1 T (.tup [.int (i : Nat), x])) := .one m2 hT
  refine ⟨pairI i d, _, by rw [enumL_get, hd, Nat.zero_add]; rfl, n, .tup upd_same (.cons (.int _) (.cons ((rd.mo m1).mo n.mo) .nil))⟩
theorem zipL_get : ∀ {ds es : List D} {i : Nat} {x y : D}, ds[i]? = some x → es[i]? = some y → (zipL ds es)[i]? = some (.tuple [x, y])
  | [], _, _, _, _, h, _ => by simp at h
  | _ :: _, [], _, _, _, _, h => by simp at h
  | d :: ds, e :: es, 0, x, y, h1, h2 => by simp at h1 h2; simp [zipL, h1, h2]
  | d :: ds, e :: es, i + 1, x, y, h1, h2 => by
    simp only [List.getElem?_cons_succ] at h1 h2
    simp only [zipL, List.getElem?_cons_succ]
    exact zipL_get h1 h2
theorem zipL_len : ∀ (ds es : List D), (zipL ds es).length = min ds.length es.length
  | [], _ => by simp [zipL]
  | _ :: _, [] => by simp [zipL]
  | d :: ds, e :: es => by simp [zipL, zipL_len ds es]
theorem jok_z {S T : Src} {ds es : List D} (ok : ∀ H1, Mo G H1 → S.ok K H1) (r : RpA K G S.vs ds) (ok2 : ∀ H1, Mo G H1 → T.ok K H1) (r2 : RpA K G T.vs es) : JOk K Fr G (ItZ K S T) (zipL ds es) := fun G1 H1 m1 m2 f => by
  have len := r.length
  have len2 := r2.length
  refine ⟨fun i hi => ?_, fun i hi => ?_, fun i v H2 hi hy => ?_⟩
  · rw [zipL_len] at hi; exact ⟨ok _ (m1.trans m2), ok2 _ (m1.trans m2), by omega, by omega⟩
  · rw [zipL_len] at hi; exact ⟨ok _ (m1.trans m2), ok2 _ (m1.trans m2), by omega⟩
  · obtain ⟨A, x, y, rfl, hT, rfl, hx, hy⟩ := hy
    obtain ⟨d, hd, rd⟩ := r.get hx
    obtain ⟨e, he, re⟩ := r2.get hy
    have n : New G1 H1 (upd G1 A (.tup [x, y])) (upd H1 A (.tup [x, y])) := .one m2 hT
    exact ⟨_, _, zipL_get hd he, n, .tup upd_same (.cons ((rd.mo m1).mo n.mo) (.cons ((re.mo m1).mo n.mo) .nil))⟩
theorem ri_seq {te : TE} {f : WE} (h : RE K te f) : RI K (iSeq K te) (itI f) := fun Fr la σ ε G H ds ε' R s e q => by
  obtain ⟨⟨d, ε1⟩, e1, e⟩ := bind_some e
  obtain ⟨xs, e2, e⟩ := bind_some e
  cases e
  cases d with
  | list ys =>
    cases e2
    refine .inl (h Fr la σ ε G H _ _ _ s e1 fun v G1 H1 m1 s1 r1 => ?_)
    cases r1 with
    | lst hq r => have hq := SqL.inl' (K := K) hq; exact ⟨_, rfl, ⟨_, sql_mo s1.gh hq⟩, q _ G1 H1 m1 s1 (jok_l hq r)⟩
  | tuple ys =>
    cases e2
    refine .inr (.inl (h Fr la σ ε G H _ _ _ s e1 fun v G1 H1 m1 s1 r1 => ?_))
    cases r1 with
    | tup hq r => exact ⟨_, rfl, ⟨_, .of (s1.gh.tp _ _ hq)⟩, q _ G1 H1 m1 s1 (jok_t hq r)⟩
  | str x =>
    cases e2
    refine .inr (.inr (h Fr la σ ε G H _ _ _ s e1 fun v G1 H1 m1 s1 r1 => ?_))
    cases r1
    exact ⟨x, rfl, q _ G1 H1 m1 s1 (jok_s x)⟩
  | _ => cases e2
theorem okI_iff {i : Int} : okI i = true ↔ -(2 ^ 62) ≤ i ∧ i < 2 ^ 62 := by
  unfold okI; rw [Bool.and_eq_true, decide_eq_true_eq, decide_eq_true_eq]
theorem ri_rng1 {ta : TA} {f : WE} (h : RL K ta [f]) : RI K (iRng1 ta) (rngI [f]) := fun Fr la σ ε G H ds ε' R s e q => by
  obtain ⟨⟨xs, ε1⟩, e1, e⟩ := bind_some e
  obtain ⟨ys, e2, e⟩ := bind_some e
  cases e
  refine h Fr la σ ε G H xs ε1 _ s e1 fun vs G1 H1 m1 s1 r1 => ?_
  have hl := evl_len e1
  match xs, hl with
  | [d], _ =>
    cases d with
    | int j =>
      have e2 : (if okI j then some (intsL 0 1 j.toNat) else none) = some ds := e2
      split at e2
      · rename_i hj
        cases e2
        obtain ⟨a, b⟩ := okI_iff.mp hj
        cases r1 with
        | cons r1 r2 =>
          cases r2; cases r1
          exact ⟨j, rfl, a, b, q _ G1 H1 m1 s1 jok_r⟩
      · cases e2
    | _ => cases e2
theorem ri_rng2 {ta : TA} {f g : WE} (h : RL K ta [f, g]) : RI K (iRng2 ta) (rngI [f, g]) := fun Fr la σ ε G H ds ε' R s e q => by
  obtain ⟨⟨xs, ε1⟩, e1, e⟩ := bind_some e
  obtain ⟨ys, e2, e⟩ := bind_some e
  cases e
  refine h Fr la σ ε G H xs ε1 _ s e1 fun vs G1 H1 m1 s1 r1 => ?_
  have hl := evl_len e1
  match xs, hl with
  | [d, d2], _ =>
    cases d with
    | int i =>
      cases d2 with
      | int j =>
        have e2 : (if okI i && okI j then some (intsL i 1 (j - i).toNat) else none) = some ds := e2
        split at e2
        · rename_i hj
          cases e2
          rw [Bool.and_eq_true] at hj
          obtain ⟨a, b⟩ := okI_iff.mp hj.1
          obtain ⟨c, d⟩ := okI_iff.mp hj.2
          cases r1 with
          | cons r1 r2 =>
            cases r2 with
            | cons r2 r3 =>
              cases r3; cases r2; cases r1
              exact ⟨i, j, rfl, ⟨a, b, c, d⟩, q _ G1 H1 m1 s1 jok_r⟩
        · cases e2
      | _ => cases e2
    | _ => cases e2
theorem ri_rng3 {ta : TA} {f g k : WE} (h : RL K ta [f, g, k]) : RI K (iRng3 ta) (rngI [f, g, k]) := fun Fr la σ ε G H ds ε' R s e q => by
  obtain ⟨⟨xs, ε1⟩, e1, e⟩ := bind_some e
  obtain ⟨ys, e2, e⟩ := bind_some e
  cases e
  refine h Fr la σ ε G H xs ε1 _ s e1 fun vs G1 H1 m1 s1 r1 => ?_
  have hl := evl_len e1
  match xs, hl with
  | [d, d2, d3], _ =>
    cases d with
    | int i =>
      cases d2 with
      | int j =>
        cases d3 with
        | int c =>
          have e2 : (if okI i && okI j && decide (c = -1) then some (intsL i (-1) (i - j).toNat) else none) = some ds := e2
          split at e2
          · rename_i hj
            cases e2
            rw [Bool.and_eq_true, Bool.and_eq_true, decide_eq_true_eq] at hj
            obtain ⟨a, b⟩ := okI_iff.mp hj.1.1
            obtain ⟨c', d⟩ := okI_iff.mp hj.1.2
            have hc := hj.2
            subst hc
            cases r1 with
            | cons r1 r2 =>
              cases r2 with
              | cons r2 r3 =>
                cases r3 with
                | cons r3 r4 =>
                  cases r4; cases r3; cases r2; cases r1
                  exact ⟨i, j, -1, _, rfl, RgC.neg a b c' d, q _ G1 H1 m1 s1 jok_c⟩
          · cases e2
        | _ => cases e2
      | _ => cases e2
    | _ => cases e2
theorem ri_enum {ta : TA} {f : WE} (h : RL K ta [f]) : RI K (iEnumS K ta) (enI f) := fun Fr la σ ε G H ds ε' R s e q => by
  obtain ⟨⟨d, ε1⟩, e1, e⟩ := bind_some e
  obtain ⟨ys, e2, e⟩ := bind_some e
  cases e
  refine h Fr la σ ε G H [d] ε1 _ s (by simp [evl, e1]) fun vs G1 H1 m1 s1 r1 => ?_
  cases r1 with
  | cons r1 r2 =>
    cases r2
    exact ⟨_, rfl, rp_src r1 e2 s1.gh fun f hf k => q _ G1 H1 m1 s1 (jok_e (hf k).1 (hf k).2)⟩
theorem ri_zip {ta : TA} {f g : WE} (h : RL K ta [f, g]) : RI K (iZipS K ta) (zipI f g) := fun Fr la σ ε G H ds ε' R s e q => by
  obtain ⟨⟨d, ε1⟩, e1, e⟩ := bind_some e
  obtain ⟨⟨d2, ε2⟩, e2, e⟩ := bind_some e
  obtain ⟨ys, e3, e⟩ := bind_some e
  obtain ⟨zs, e4, e⟩ := bind_some e
  cases e
  have e2' : g ε1 = some (d2, ε2) := e2
  refine h Fr la σ ε G H [d, d2] ε2 _ s (by simp [evl, e1, e2']) fun vs G1 H1 m1 s1 r1 => ?_
  cases r1 with
  | cons r1 r2 =>
    cases r2 with
    | cons r2 r3 =>
      cases r3
      exact ⟨_, _, rfl, rp_src r1 e3 s1.gh fun f hf => rp_src r2 e4 s1.gh fun g hg k l => q _ G1 H1 m1 s1 (jok_z (hf k).1 (hf k).2 (hg l).1 (hg l).2)⟩
end
/-! ### locked dicts -/
def tOrS (a b : TS) : TS := fun D σ H => a D σ H ∨ b D σ H
def tOrE (a b : TE) : TE := fun σ H Q => a σ H Q ∨ b σ H Q
theorem ps_lockO {X : Cx} {st : Stmt} {t : TS} (h : PS X st t) : PS X st (tOrS t (tLock t)) := ⟨fun pins s σ H D I q => q.elim (h.run pins s σ H D I) ((ps_lock h).run pins s σ H D I)⟩
theorem pe_lockO {X : Cx} {e : Expr} {t : TE} (h : PE X e t) : PE X e (tOrE t (tLockE t)) := ⟨fun pins s σ H D I q => q.elim (h.run pins s σ H D I) ((pe_lock h).run pins s σ H D I)⟩
section
variable {K : PySem.W.Frag} {Fr Fr' : Hp} {la : Addr} {σ : L2.St} {ε : En} {G H G' H' : Hp}
theorem Stt.weak (s : Stt K Fr' la σ ε G H) (h : Ex Fr Fr') : Stt K Fr la σ ε G H where
  gh := s.gh
  fr := h.trans s.fr
  ds := fun a o e => s.ds a o (h a o e)
  len := s.len
  sl := fun i e he => by
    have nn : ∀ a, Fr' a = none → Fr a = none := fun a z => by
      cases q : Fr a with
      | none => rfl
      | some o => rw [h a o q] at z; cases z
    have z := s.sl i e he
    cases e with
    | un => trivial
    | im d => exact z
    | mu d => obtain ⟨a, u, q, g, f, r⟩ := z; exact ⟨a, u, q, g, nn a f, r⟩
    | ln d => obtain ⟨u, q, g, f, r⟩ := z; exact ⟨u, q, g, nn la f, r⟩
  sep := s.sep
theorem EndOk.weak {D : Ends} {o : Out} (h : Ex Fr Fr') (q : EndOk K Fr la G D o) : EndOk K Fr' la G D o := by
  cases o with
  | nx ε' => exact fun σ' G2 H2 m s => q σ' G2 H2 m (s.weak h)
  | bk ε' => exact fun σ' G2 H2 m s => q σ' G2 H2 m (s.weak h)
  | ct ε' => exact fun σ' G2 H2 m s => q σ' G2 H2 m (s.weak h)
  | rt d ε' => exact fun v σ' G2 H2 m s => q v σ' G2 H2 m (s.weak h)
/-- the dict at a, read till then, is locked -/
theorem Stt.lock {a : Addr} {u : HO} {od : Obj} (s : Stt K Fr la σ ε G H) (g : G a = some u) (hH : H a = some u) (sn : Seen u) (ni : ¬ Imm u) (nz : ∀ o w, u ≠ .frz o w) :
    Fr a = none ∧ Mo G (upd G a (.frz od u)) ∧ Stt K (upd Fr a (.frz od u)) la σ ε (upd G a (.frz od u)) (upd H a (.frz od u)) := by
  have fa : Fr a = none := by
    cases q : Fr a with
    | none => rfl
    | some o =>
      have e1 := s.fr a o q
      rw [hH] at e1; cases e1
      rcases s.ds a u q with z | z
      · rw [g] at z; cases z
      · exact (ni z).elim
  have mo : Mo G (upd G a (.frz od u)) := ⟨fun b w sw r => by
    by_cases e : b = a
    · subst e
      rcases r with r | ⟨o, r⟩
      · rw [g] at r; cases r; exact .inr ⟨od, upd_same⟩
      · rw [g] at r; cases r; exact (nz _ _ rfl).elim
    · rcases r with r | ⟨o, r⟩
      · exact .inl (by rw [upd_ne e]; exact r)
      · exact .inr ⟨o, by rw [upd_ne e]; exact r⟩, fun b z => by
    by_cases e : b = a
    · subst e; rw [upd_same] at z; cases z
    · rw [upd_ne e] at z; exact z, fun b xs z => by
    have ne : b ≠ a := fun e => by rw [e, g] at z; cases z; exact ni trivial
    rw [upd_ne ne]; exact z⟩
  have own : ∀ b w, G b = none → H b = some w → b ≠ a := fun b w gb _ e => by rw [e, g] at gb; cases gb
  refine ⟨fa, mo, ⟨fun b w sw r => ?_, fun b z => ?_, fun b xs z => ?_⟩, fun b o e => ?_, fun b o e => ?_, s.len, fun i e he => ?_, s.sep⟩
  · by_cases e : b = a
    · subst e
      rcases r with r | ⟨o, r⟩
      · rw [upd_same] at r; exact .inl (by rw [upd_same]; exact r)
      · rw [upd_same] at r; exact .inr ⟨o, by rw [upd_same]; exact r⟩
    · have r' : Rd G b w := by
        rcases r with r | ⟨o, r⟩
        · rw [upd_ne e] at r; exact .inl r
        · rw [upd_ne e] at r; exact .inr ⟨o, r⟩
      rcases s.gh.rd b w sw r' with q | ⟨o, q⟩
      · exact .inl (by rw [upd_ne e]; exact q)
      · exact .inr ⟨o, by rw [upd_ne e]; exact q⟩
  · by_cases e : b = a
    · subst e; rw [upd_same] at z; cases z
    · rw [upd_ne e] at z ⊢; exact s.gh.dom b z
  · by_cases e : b = a
    · subst e; rw [upd_same] at z; cases z
    · rw [upd_ne e] at z ⊢; exact s.gh.tp b xs z
  · by_cases q : b = a
    · subst q; rw [upd_same] at e ⊢; exact e
    · rw [upd_ne q] at e ⊢; exact s.fr b o e
  · by_cases q : b = a
    · subst q; rw [upd_same] at e; cases e; exact .inr trivial
    · rw [upd_ne q] at e ⊢; exact s.ds b o e
  · have z := s.sl i e he
    cases e with
    | un => trivial
    | im d => obtain ⟨v, q, r⟩ := z; exact ⟨v, q, r.mo mo⟩
    | mu d =>
      obtain ⟨b, w, q, gb, fb, hb, c⟩ := z
      have ne := own b w gb hb
      exact ⟨b, w, q, by rw [upd_ne ne]; exact gb, by rw [upd_ne ne]; exact fb, by rw [upd_ne ne]; exact hb, c.mo mo⟩
    | ln d =>
      obtain ⟨w, q, gb, fb, hb, c⟩ := z
      have ne := own la w gb hb
      exact ⟨w, q, by rw [upd_ne ne]; exact gb, by rw [upd_ne ne]; exact fb, by rw [upd_ne ne]; exact hb, c.mo mo⟩
theorem Stt.unlock {a : Addr} {u : HO} {od : Obj} {G0 : Hp} (s : Stt K (upd Fr a (.frz od u)) la σ ε G H) (fa : Fr a = none) (m0 : Mo (upd G0 a (.frz od u)) G) (g0 : G0 a = some u) (sn : Seen u) (nz : ∀ o w, u ≠ .frz o w) :
    H a = some (.frz od u) ∧ Mo G (upd G a u) ∧ Mo G0 (upd G a u) ∧ Stt K Fr la σ ε (upd G a u) (upd H a u) := by
  have ha : H a = some (.frz od u) := s.fr a _ upd_same
  have one : ∀ w, Seen w → Rd H a w → w = u := fun w sw r => by
    rcases r with r | ⟨o, r⟩
    · rw [ha] at r; cases r; cases sw
    · rw [ha] at r; cases r; rfl
  have ga : Rd G a u := m0.rd a u sn (.inr ⟨od, upd_same⟩)
  have gn : ∀ b, G b = none → b ≠ a := fun b z e => by
    subst e
    rcases ga with r | ⟨o, r⟩ <;> (rw [z] at r; cases r)
  have mo : Mo G (upd G a u) := ⟨fun b w sw r => by
    by_cases e : b = a
    · subst e
      have := one w sw (s.gh.rd b w sw r)
      subst this
      exact .inl upd_same
    · rcases r with r | ⟨o, r⟩
      · exact .inl (by rw [upd_ne e]; exact r)
      · exact .inr ⟨o, by rw [upd_ne e]; exact r⟩, fun b z => by
    by_cases e : b = a
    · subst e; rw [upd_same] at z; cases z
    · rw [upd_ne e] at z; exact z, fun b xs z => by
    have ne : b ≠ a := fun e => by
      have := s.gh.tp b xs z
      rw [e, ha] at this; cases this
    rw [upd_ne ne]; exact z⟩
  have mo2 : Mo G0 (upd G a u) := ⟨fun b w sw r => by
    by_cases e : b = a
    · subst e
      rcases r with r | ⟨o, r⟩
      · rw [g0] at r; cases r; exact .inl upd_same
      · rw [g0] at r; cases r; exact (nz _ _ rfl).elim
    · have r' : Rd (upd G0 a (.frz od u)) b w := by
        rcases r with r | ⟨o, r⟩
        · exact .inl (by rw [upd_ne e]; exact r)
        · exact .inr ⟨o, by rw [upd_ne e]; exact r⟩
      exact mo.rd b w sw (m0.rd b w sw r'), fun b z => by
    by_cases e : b = a
    · subst e; rw [upd_same] at z; cases z
    · rw [upd_ne e] at z
      have := m0.dom b z
      rw [upd_ne e] at this; exact this, fun b xs z => by
    by_cases e : b = a
    · subst e; rw [g0] at z; cases z; exact upd_same
    · exact mo.tp b xs (m0.tp b xs (by rw [upd_ne e]; exact z))⟩
  refine ⟨ha, mo, mo2, ⟨fun b w sw r => ?_, fun b z => ?_, fun b xs z => ?_⟩, fun b o e => ?_, fun b o e => ?_, s.len, fun i e he => ?_, s.sep⟩
  · by_cases e : b = a
    · subst e
      rcases r with r | ⟨o, r⟩
      · rw [upd_same] at r; exact .inl (by rw [upd_same]; exact r)
      · rw [upd_same] at r; exact .inr ⟨o, by rw [upd_same]; exact r⟩
    · have r' : Rd G b w := by
        rcases r with r | ⟨o, r⟩
        · rw [upd_ne e] at r; exact .inl r
        · rw [upd_ne e] at r; exact .inr ⟨o, r⟩
      rcases s.gh.rd b w sw r' with q | ⟨o, q⟩
      · exact .inl (by rw [upd_ne e]; exact q)
      · exact .inr ⟨o, by rw [upd_ne e]; exact q⟩
  · by_cases e : b = a
    · subst e; rw [upd_same] at z; cases z
    · rw [upd_ne e] at z ⊢; exact s.gh.dom b z
  · by_cases e : b = a
    · subst e; rw [upd_same] at z ⊢; exact z
    · rw [upd_ne e] at z ⊢; exact s.gh.tp b xs z
  · have ne : b ≠ a := fun z => by rw [z, fa] at e; cases e
    rw [upd_ne ne]; exact s.fr b o (by rw [upd_ne ne]; exact e)
  · have ne : b ≠ a := fun z => by rw [z, fa] at e; cases e
    rw [upd_ne ne]; exact s.ds b o (by rw [upd_ne ne]; exact e)
  · have z := s.sl i e he
    cases e with
    | un => trivial
    | im d => obtain ⟨v, q, r⟩ := z; exact ⟨v, q, r.mo mo⟩
    | mu d =>
      obtain ⟨b, w, q, gb, fb, hb, c⟩ := z
      have ne := gn b gb
      exact ⟨b, w, q, by rw [upd_ne ne]; exact gb, by rw [upd_ne ne] at fb; exact fb, by rw [upd_ne ne]; exact hb, c.mo mo⟩
    | ln d =>
      obtain ⟨w, q, gb, fb, hb, c⟩ := z
      have ne := gn la gb
      exact ⟨w, q, by rw [upd_ne ne]; exact gb, by rw [upd_ne ne] at fb; exact fb, by rw [upd_ne ne]; exact hb, c.mo mo⟩
end
section
variable (K : PySem.W.Frag)
/-- if slot i holds a dict, it is locked -/
def Lkd (Fr : Hp) (σ : L2.St) (ε : En) (i : Nat) : Prop := (∀ d, ε[i]? ≠ some (.mu d)) ∧ ∀ kds, ε[i]? = some (.im (.dict kds)) → ∃ a o u, σ[i]? = some (some (.ref a)) ∧ Fr a = some (.frz o u)
def RFL (i : Nat) (t : TE) (f : WE) : Prop := ∀ (Fr : Hp) (la : Addr) (σ : L2.St) (ε : En) (G H : Hp) (d : D) (ε' : En) (Q : VK), Stt K Fr la σ ε G H → Lkd Fr σ ε i → f ε = some (d, ε') →
  (∀ p G' H', Mo G G' → Stt K Fr la σ ε' G' H' → Fsh K Fr σ ε' G' H' p d → Q (.ref p) H') → t σ H Q
def RSL (i : Nat) (t : TS) (W : WS) : Prop := ∀ (Fr : Hp) (la : Addr) (σ : L2.St) (ε : En) (G H : Hp) (o : Out) (D : Ends), Stt K Fr la σ ε G H → Lkd Fr σ ε i → W ε = some o → EndOk K Fr la G D o → t D σ H
def RIL (i : Nat) (wi : TI) (f : WI) : Prop := ∀ (Fr : Hp) (la : Addr) (σ : L2.St) (ε : En) (G H : Hp) (ds : List D) (ε' : En) (R : It → Hp → Prop), Stt K Fr la σ ε G H → Lkd Fr σ ε i → f ε = some (ds, ε') →
  (∀ J G' H', Mo G G' → Stt K Fr la σ ε' G' H' → JOk K Fr G' J ds → R J H') → wi σ H R
end
section
variable {K : PySem.W.Frag} {Fr Fr' : Hp} {la : Addr} {σ : L2.St} {ε : En} {G H G' H' : Hp}
theorem rk_keys (G2 : Hp) : ∀ ks : List Key, RpA K G2 (ks.map kV) (ks.map keyD)
  | [] => .nil
  | .inl z :: ks => .cons (.int z) (rk_keys G2 ks)
  | .inr z :: ks => .cons (.str z) (rk_keys G2 ks)
theorem ril_any {i : Nat} : RIL K i (iAny K (tVar i)) (itV i) := fun Fr la σ ε G H ds ε' R s lk e q => by
  obtain ⟨⟨d, ε1⟩, e1, e⟩ := bind_some e
  obtain ⟨xs, e2, e⟩ := bind_some e
  cases e
  by_cases hdk : ∃ kds, d = .dict kds
  · obtain ⟨kds, rfl⟩ := hdk
    cases e2
    unfold vE at e1
    cases h : ε[i]? with
    | none => rw [h] at e1; cases e1
    | some sd =>
      rw [h] at e1
      cases sd with
      | un => cases e1
      | ln d => cases e1
      | mu d => exact (lk.1 d h).elim
      | im d' =>
        cases e1
        obtain ⟨a, o, u, hσ, hf⟩ := lk.2 kds h
        obtain ⟨v, q1, r⟩ := s.sl i _ h
        rw [hσ] at q1; cases q1
        have ha : H a = some (.frz o u) := s.fr a _ hf
        refine .inr ⟨_, hσ, a, o, rfl, ?_⟩
        cases r with
        | dk hr r =>
          rename_i kvs
          have hu : u = .dK kvs := by
            rcases s.gh.rd a (.dK kvs) trivial hr with z | ⟨o', z⟩
            · rw [ha] at z; cases z
            · rw [ha] at z; cases z; rfl
          subst hu
          refine .inl ⟨kvs, ha, q _ G H (.refl G) s fun G1 H1 m1 m2 f => ?_⟩
          have len := r.length
          refine ⟨fun j hj => ⟨f a _ hf, by rw [List.length_map] at hj; omega⟩, fun j hj => ⟨f a _ hf, by rw [List.length_map] at hj; omega⟩, fun j x H2 hj hy => ?_⟩
          obtain ⟨rfl, k, v, hk, rfl⟩ := hy
          rw [List.length_map] at hj
          obtain ⟨k', v', d', g1, g2, g3⟩ := r.get hj
          rw [hk] at g1; cases g1
          refine ⟨keyD k, G1, by rw [List.getElem?_map, g2]; rfl, .refl m2, ?_⟩
          cases k with
          | inl z => exact .int z
          | inr z => exact .str z
        | dt hr r =>
          rename_i kvs
          have hu : u = .dT kvs := by
            rcases s.gh.rd a (.dT kvs) trivial hr with z | ⟨o', z⟩
            · rw [ha] at z; cases z
            · rw [ha] at z; cases z; rfl
          subst hu
          refine .inr ⟨kvs, ha, q _ G H (.refl G) s fun G1 H1 m1 m2 f => ?_⟩
          have len := r.length
          refine ⟨fun j hj => ⟨f a _ hf, by rw [List.length_map] at hj; omega⟩, fun j hj => ⟨f a _ hf, by rw [List.length_map] at hj; omega⟩, fun j x H2 hj hy => ?_⟩
          obtain ⟨rfl, k, v, b, hk, rfl, hb⟩ := hy
          rw [List.length_map] at hj
          obtain ⟨k', v', d', g1, g2, g3⟩ := r.get hj
          rw [hk] at g1; cases g1
          -- the key's own tuple becomes readable
          have mo : Mo G1 (upd G1 b (.tup (k.map kV))) := ⟨fun c w sw rr => by
            by_cases e : c = b
            · subst e
              have := m2.rd c w sw rr
              rcases this with z | ⟨o', z⟩
              · rw [hb] at z; cases z; exact .inl upd_same
              · rw [hb] at z; cases z
            · rcases rr with z | ⟨o', z⟩
              · exact .inl (by rw [upd_ne e]; exact z)
              · exact .inr ⟨o', by rw [upd_ne e]; exact z⟩, fun c z => by
            by_cases e : c = b
            · subst e; rw [upd_same] at z; cases z
            · rw [upd_ne e] at z; exact z, fun c xs z => by
            by_cases e : c = b
            · subst e
              have := m2.tp c xs z
              rw [hb] at this; cases this; exact upd_same
            · rw [upd_ne e]; exact z⟩
          refine ⟨keyT k, upd G1 b (.tup (k.map kV)), by rw [List.getElem?_map, g2]; rfl, ⟨mo, upd_mo m2 hb (fun _ _ z => by cases z), Ex.refl _, fun c w hc => ?_⟩, .tup upd_same (rk_keys _ k)⟩
          by_cases e : c = b
          · subst e; rw [hb] at hc; cases hc; exact .inr trivial
          · exact .inl (upd_ne e)
  · have hd : seqD d = some ds := by
      cases d with
      | dict kds => exact (hdk ⟨kds, rfl⟩).elim
      | _ => exact e2
    exact .inl (ri_seq re_v Fr la σ ε G H _ _ R s (show itI (vE i) ε = some (ds, ε1) by simp [itI, e1, hd]) q)
theorem rsl_for {i : Nat} {wi : TI} {g : TG} {tb : TS} {f : WI} {w : WG} {W : WS} {sl : List Nat} (hi : RIL K i wi f) (hg : RG K g w sl) (hb : RS K tb W) : RSL K i (tFor wi g tb) (forS f w W) := fun Fr la σ ε G H o D s lk e q => by
  obtain ⟨p, e1, e⟩ := bind_some e
  exact hi Fr la σ ε G H p.1 p.2 _ s lk e1 fun J G1 H1 m1 s1 j => for_run hg hb s1 j e (q.mo m1)
theorem rfl_lc {i : Nat} {wi : TI} {g : TG} {tt : TT} {te : TE} {src : WI} {w : WG} {t : WT} {f : WE} {own sl : List Nat} (hi : RIL K i wi src) (hg : RG K g w sl) (ht : RT K tt t) (he : RE K te f) (hs : ∀ i ∈ sl, i ∈ own := by decide) : RFL K i (tLc wi g tt te own) (lcE src own w t f) := fun Fr la σ ε G H d ε' Q s lk e q => by
  obtain ⟨p, e1, e⟩ := bind_some e
  split at e
  · rename_i hc
    rw [Bool.and_eq_true, decide_eq_true_eq] at hc
    obtain ⟨r, e2, e⟩ := bind_some e
    cases e
    refine hi Fr la σ ε G H p.1 p.2 _ s lk e1 fun J G1 H1 m1 s1 j D hD => ?_
    exact lc_run hg hs ht he s1 hc.1 hc.2 j e2 hD fun G' H' m s' f => q D G' H' (m1.trans m) s' f
  · cases e
theorem rfl_dc {i : Nat} {wi : TI} {g : TG} {tt : TT} {tk tv : TE} {src : WI} {w : WG} {t : WT} {fk fv : WE} {own sl : List Nat} (hi : RIL K i wi src) (hg : RG K g w sl) (ht : RT K tt t) (hk : RE K tk fk) (hv : RE K tv fv) (hs : ∀ i ∈ sl, i ∈ own := by decide) : RFL K i (tDc wi g tt tk tv own) (dcE src own w t fk fv) := fun Fr la σ ε G H d ε' Q s lk e q => by
  obtain ⟨p, e1, e⟩ := bind_some e
  split at e
  · rename_i hc
    rw [Bool.and_eq_true, decide_eq_true_eq] at hc
    obtain ⟨r, e2, e⟩ := bind_some e
    cases e
    refine hi Fr la σ ε G H p.1 p.2 _ s lk e1 fun J G1 H1 m1 s1 j D hD => ?_
    exact dc_run hg hs ht hk hv s1 hc.1 hc.2 j e2 hD fun G' H' m s' f => q D G' H' (m1.trans m) s' f
  · cases e
theorem rsl_asg {i j : Nat} {te : TE} {f : WE} (h1 : RFL K i te f) : RSL K i (tAsg te (gName j)) (asgS f (gN j)) := fun Fr la σ ε G H o D s lk e q => by
  obtain ⟨p, e1, e⟩ := bind_some e
  obtain ⟨ε1, e2, e⟩ := bind_some e
  cases e; cases e2
  refine h1 Fr la σ ε G H p.1 p.2 _ s lk e1 fun a G1 H1 m1 s1 r1 => ?_
  obtain ⟨u, hu, c⟩ := r1.h
  have m2 : Mo G1 (upd G1 a u) := .up r1.g
  exact q _ _ H1 (m1.trans m2) ((s1.keep r1.g r1.f r1.o hu c.noFrz).set j (c.rp m2 upd_same))
theorem rsl_setM {i j : Nat} {te : TE} {f : WE} (h1 : RFL K i te f) : RSL K i (tAsg te (gName j)) (setM j f) := fun Fr la σ ε G H o D s lk e q => by
  obtain ⟨p, e1, e⟩ := bind_some e
  cases e
  exact h1 Fr la σ ε G H p.1 p.2 _ s lk e1 fun a G1 H1 m1 s1 r1 => q _ G1 H1 m1 (s1.setM j r1)
/-- an entry that was read while it was locked -/
theorem Stt.renew {a : Addr} {o : Obj} {u : HO} (s : Stt K Fr la σ ε G H) (g : G a = some (.frz o u)) (hH : H a = some u) (ni : ¬ Imm u) (nz : ∀ o w, u ≠ .frz o w) : Mo G (upd G a u) ∧ Stt K Fr la σ ε (upd G a u) H := by
  have fa : Fr a = none := by
    cases q : Fr a with
    | none => rfl
    | some w =>
      have e1 := s.fr a w q
      rw [hH] at e1; cases e1
      rcases s.ds a u q with z | z
      · rw [g] at z; cases z
      · exact (ni z).elim
  have mo : Mo G (upd G a u) := ⟨fun b w sw r => by
    by_cases e : b = a
    · subst e
      rcases r with r | ⟨o', r⟩
      · rw [g] at r; cases r; cases sw
      · rw [g] at r; cases r; exact .inl upd_same
    · rcases r with r | ⟨o', r⟩
      · exact .inl (by rw [upd_ne e]; exact r)
      · exact .inr ⟨o', by rw [upd_ne e]; exact r⟩, fun b z => by
    by_cases e : b = a
    · subst e; rw [upd_same] at z; cases z
    · rw [upd_ne e] at z; exact z, fun b xs z => by
    have ne : b ≠ a := fun e => by rw [e, g] at z; cases z
    rw [upd_ne ne]; exact z⟩
  have ne : ∀ b, G b = none → b ≠ a := fun b z e => by rw [e, g] at z; cases z
  refine ⟨mo, upd_mo s.gh hH nz, s.fr, fun b w e => ?_, s.len, fun i e he => ?_, s.sep⟩
  · have nb : b ≠ a := fun z => by rw [z, fa] at e; cases e
    rw [upd_ne nb]; exact s.ds b w e
  · have z := s.sl i e he
    cases e with
    | un => trivial
    | im d => obtain ⟨v, q, r⟩ := z; exact ⟨v, q, r.mo mo⟩
    | mu d => obtain ⟨b, w, q, gb, r, hb, c⟩ := z; exact ⟨b, w, q, by rw [upd_ne (ne b gb)]; exact gb, r, hb, c.mo mo⟩
    | ln d => obtain ⟨w, q, gb, r, hb, c⟩ := z; exact ⟨w, q, by rw [upd_ne (ne la gb)]; exact gb, r, hb, c.mo mo⟩
/-- slot i ahead of a walk: data (a dict among them), locked or to be locked -/
theorem lock_cases {i : Nat} (s : Stt K Fr la σ ε G H) (hm : ∀ d, ε[i]? ≠ some (.mu d)) :
    (∃ Fr', Ex Fr Fr' ∧ Stt K Fr' la σ ε G H ∧ Lkd Fr' σ ε i) ∨
    ∃ a u G1, Mo G G1 ∧ Stt K Fr la σ ε G1 H ∧ G1 a = some u ∧ H a = some u ∧ Seen u ∧ ¬ Imm u ∧ (∀ o w, u ≠ .frz o w) ∧ Mut (some u) ∧ σ[i]? = some (some (.ref a)) := by
  by_cases hk : ∃ kds, ε[i]? = some (.im (.dict kds))
  · obtain ⟨kds, hk⟩ := hk
    obtain ⟨v, q1, r⟩ := s.sl i _ hk
    have key : ∀ (a : Addr) (u : HO), Seen u → ¬ Imm u → (∀ o w, u ≠ .frz o w) → Mut (some u) → v = .ref a → Rd G a u → (∃ Fr', Ex Fr Fr' ∧ Stt K Fr' la σ ε G H ∧ Lkd Fr' σ ε i) ∨
        ∃ a u G1, Mo G G1 ∧ Stt K Fr la σ ε G1 H ∧ G1 a = some u ∧ H a = some u ∧ Seen u ∧ ¬ Imm u ∧ (∀ o w, u ≠ .frz o w) ∧ Mut (some u) ∧ σ[i]? = some (some (.ref a)) := fun a u sn ni nz mu ev hr => by
      subst ev
      have frz : ∀ o, H a = some (.frz o u) → ∃ Fr', Ex Fr Fr' ∧ Stt K Fr' la σ ε G H ∧ Lkd Fr' σ ε i := fun o hH => by
        refine ⟨fun b => if b = a then some (.frz o u) else Fr b, fun b w e => ?_, ⟨s.gh, fun b w e => ?_, fun b w e => ?_, s.len, fun j e he => ?_, s.sep⟩, hm, fun kds' h' => ⟨a, o, u, q1, if_pos rfl⟩⟩
        · by_cases q : b = a
          · subst q
            have := s.fr b w e
            rw [hH] at this; cases this
            exact if_pos rfl
          · exact (if_neg q).trans e
        · by_cases q : b = a
          · subst q
            have e' : some (HO.frz o u) = some w := (if_pos rfl).symm.trans e
            rw [← e']; exact hH
          · exact s.fr b w ((if_neg q).symm.trans e)
        · by_cases q : b = a
          · subst q
            have e' : some (HO.frz o u) = some w := (if_pos rfl).symm.trans e
            cases e'; exact .inr trivial
          · exact s.ds b w ((if_neg q).symm.trans e)
        · have z := s.sl j e he
          have ne : ∀ b w d, H b = some w → Cont K G w d → b ≠ a := fun b w d hb c e => by
            rw [e, hH] at hb; cases hb; exact c.noFrz _ _ rfl
          cases e with
          | un => trivial
          | im d => exact z
          | mu d => obtain ⟨b, w, q, g, f, hb, c⟩ := z; exact ⟨b, w, q, g, (if_neg (ne b w d hb c)).trans f, hb, c⟩
          | ln d => obtain ⟨w, q, g, f, hb, c⟩ := z; exact ⟨w, q, g, (if_neg (ne la w d hb c)).trans f, hb, c⟩
      rcases hr with hr | ⟨o, hr⟩
      · rcases s.gh.rd a u sn (.inl hr) with hH | ⟨o, hH⟩
        · exact .inr ⟨a, u, G, .refl G, s, hr, hH, sn, ni, nz, mu, q1⟩
        · exact .inl (frz o hH)
      · rcases s.gh.rd a u sn (.inr ⟨o, hr⟩) with hH | ⟨o, hH⟩
        · obtain ⟨mo, s'⟩ := s.renew hr hH ni nz
          exact .inr ⟨a, u, _, mo, s', upd_same, hH, sn, ni, nz, mu, q1⟩
        · exact .inl (frz o hH)
    cases r with
    | dk hr r => rename_i kvs; exact key _ (.dK kvs) trivial (fun z => z) (fun _ _ z => by cases z) trivial rfl hr
    | dt hr r => rename_i kvs; exact key _ (.dT kvs) trivial (fun z => z) (fun _ _ z => by cases z) trivial rfl hr
  · exact .inl ⟨Fr, Ex.refl _, s, hm, fun kds h => (hk ⟨kds, h⟩).elim⟩
/-- a walk over a name's thing: a dict is locked meanwhile -/
theorem lock_rs0 {i : Nat} {t : TS} {W : WS} (h : RSL K i t W) {o : Out} {D : Ends} (s : Stt K Fr la σ ε G H) (hm : ∀ d, ε[i]? ≠ some (.mu d)) (e : W ε = some o) (q : EndOk K Fr la G D o) : tOrS t (tLock t) D σ H := by
  rcases lock_cases s hm with ⟨Fr', x, s', lk⟩ | ⟨a, u, G1, m1, s1, ga, ha, sn, ni, nz, mu, hσ⟩
  · exact .inl (h Fr' la σ ε G H o D s' lk e (q.weak x))
  · refine .inr ⟨a, u, ha, mu, fun od => ?_⟩
    obtain ⟨fa, mo, s2⟩ := s1.lock (od := od) ga ha sn ni nz
    refine h (upd Fr a (.frz od u)) la σ ε _ _ o _ s2 ⟨hm, fun kds hk => ⟨a, od, u, hσ, upd_same⟩⟩ e ?_
    cases o with
    | nx ε' =>
      intro σ' G' H' m s'
      obtain ⟨h1, h2, h3, h4⟩ := s'.unlock fa m ga sn nz
      exact ⟨h1, q σ' _ _ (m1.trans h3) h4⟩
    | bk ε' =>
      intro σ' G' H' m s'
      obtain ⟨h1, h2, h3, h4⟩ := s'.unlock fa m ga sn nz
      exact ⟨h1, q σ' _ _ (m1.trans h3) h4⟩
    | ct ε' =>
      intro σ' G' H' m s'
      obtain ⟨h1, h2, h3, h4⟩ := s'.unlock fa m ga sn nz
      exact ⟨h1, q σ' _ _ (m1.trans h3) h4⟩
    | rt d ε' =>
      intro v σ' G' H' m s' r
      obtain ⟨h1, h2, h3, h4⟩ := s'.unlock fa m ga sn nz
      exact ⟨h1, q v σ' _ _ (m1.trans h3) h4 (r.mo h2)⟩
/-- W begins by reading slot i -/
def Beg (i : Nat) {α : Type} (W : En → Option α) : Prop := ∀ (ε : En) (d : D), ε[i]? = some (.mu d) → W ε = W (ε.set i (.im d))
theorem vE_beg {i : Nat} {ε : En} {d : D} (h : ε[i]? = some (.mu d)) : vE i ε = vE i (ε.set i (.im d)) := by
  have hl : i < ε.length := (List.getElem?_eq_some_iff.mp h).1
  unfold vE
  rw [h, List.getElem?_set_self hl]
theorem beg_for {i : Nat} {w : WG} {W : WS} : Beg i (forS (itV i) w W) := fun ε d h => by unfold forS itV; rw [vE_beg h]
theorem beg_lc {i : Nat} {own : List Nat} {w : WG} {t : WT} {f : WE} : Beg i (lcE (itV i) own w t f) := fun ε d h => by unfold lcE itV; rw [vE_beg h]
theorem beg_dc {i : Nat} {own : List Nat} {w : WG} {t : WT} {f g : WE} : Beg i (dcE (itV i) own w t f g) := fun ε d h => by unfold dcE itV; rw [vE_beg h]
theorem beg_asg {i : Nat} {f : WE} {g : WG} (h : Beg i f) : Beg i (asgS f g) := fun ε d e => by unfold asgS; rw [h ε d e]
theorem beg_setM {i j : Nat} {f : WE} (h : Beg i f) : Beg i (setM j f) := fun ε d e => by unfold setM; rw [h ε d e]
theorem lock_rs {i : Nat} {t : TS} {W : WS} (h : RSL K i t W) (hb : Beg i W) : RS K (tOrS t (tLock t)) W := fun Fr la σ ε G H o D s e q => by
  by_cases hm : ∃ d, ε[i]? = some (.mu d)
  · obtain ⟨d, hm⟩ := hm
    obtain ⟨a, u, _, mo, _, s'⟩ := s.freeze hm
    have hl : i < ε.length := (List.getElem?_eq_some_iff.mp hm).1
    exact lock_rs0 h s' (fun d' z => by rw [List.getElem?_set_self hl] at z; cases z) ((hb ε d hm).symm.trans e) (q.mo mo)
  · exact lock_rs0 h s (fun d z => hm ⟨d, z⟩) e q
theorem lock_rf0 {i : Nat} {t : TE} {f : WE} (h : RFL K i t f) {d : D} {ε' : En} {Q : VK} (s : Stt K Fr la σ ε G H) (hm : ∀ d, ε[i]? ≠ some (.mu d)) (e : f ε = some (d, ε'))
    (q : ∀ p G' H', Mo G G' → Stt K Fr la σ ε' G' H' → Fsh K Fr σ ε' G' H' p d → Q (.ref p) H') : tOrE t (tLockE t) σ H Q := by
  rcases lock_cases s hm with ⟨Fr', x, s', lk⟩ | ⟨a, u, G1, m1, s1, ga, ha, sn, ni, nz, mu, hσ⟩
  · refine .inl (h Fr' la σ ε G H d ε' Q s' lk e fun p G' H' m s2 f => q p G' H' m (s2.weak x) ⟨f.g, ?_, f.h, f.o⟩)
    cases z : Fr p with
    | none => rfl
    | some o => have := f.f; rw [x p o z] at this; cases this
  · refine .inr ⟨a, u, ha, mu, fun od => ?_⟩
    obtain ⟨fa, mo, s2⟩ := s1.lock (od := od) ga ha sn ni nz
    refine h (upd Fr a (.frz od u)) la σ ε _ _ d ε' _ s2 ⟨hm, fun kds hk => ⟨a, od, u, hσ, upd_same⟩⟩ e fun p G' H' m s' f => ?_
    obtain ⟨h1, h2, h3, h4⟩ := s'.unlock fa m ga sn nz
    have np : p ≠ a := fun z => by have := f.f; rw [z, upd_same] at this; cases this
    obtain ⟨w, hw, c⟩ := f.h
    refine ⟨h1, q p _ _ (m1.trans h3) h4 ⟨by rw [upd_ne np]; exact f.g, by have := f.f; rw [upd_ne np] at this; exact this, ⟨w, by rw [upd_ne np]; exact hw, c.mo h2⟩, f.o⟩⟩
theorem lock_rf {i : Nat} {t : TE} {f : WE} (h : RFL K i t f) (hb : Beg i f) : RF K (tOrE t (tLockE t)) f := fun Fr la σ ε G H d ε' Q s e q => by
  by_cases hm : ∃ d, ε[i]? = some (.mu d)
  · obtain ⟨d0, hm⟩ := hm
    obtain ⟨a, u, _, mo, _, s'⟩ := s.freeze hm
    have hl : i < ε.length := (List.getElem?_eq_some_iff.mp hm).1
    exact lock_rf0 h s' (fun d' z => by rw [List.getElem?_set_self hl] at z; cases z) ((hb ε d0 hm).symm.trans e) fun p G' H' m => q p G' H' (mo.trans m)
  · exact lock_rf0 h s (fun d z => hm ⟨d, z⟩) e q
end
end PL

-- PLcall
/-! PL, defs: their promises by what they compute; calls; changes of owned lists and dicts. -/
namespace PL
open PySem PySem.Spec PyProof.Rows L2

/-- a def's promise, where no repr runs around -/
structure FnG (P : Program) (w : World) (K : PySem.W.Frag) (mg : Str → Option Value) (base : Heap) (CX : CXT) (k : Nat) (f : Addr) (fd : FuncData) (ps : List Str) (sp : Sp) : Prop where
  len : ∀ vs H Q E, sp vs H Q E → vs.length = ps.length
  run : ∀ (A : Around) (outer : List Env) (s : Shared) (H : Hp) (args : Args) (us : List Value) (vs : List V) (Q : VK) (E : XK), Room k A → A.guards = some [] → Env0 P w K mg base A outer s H → BindsTo s fd args (ps.zip us) → Vals vs us → sp vs H Q E →
    codeAny (model P w) A (.call (.ref f) args) (CR CX outer P w H s Q E) s
theorem FnG.mono {P : Program} {w : World} {K : PySem.W.Frag} {mg : Str → Option Value} {base : Heap} {CX : CXT} {j k : Nat} {f : Addr} {fd : FuncData} {ps : List Str} {sp : Sp} (F : FnG P w K mg base CX j f fd ps sp) (h : j ≤ k) :
    FnG P w K mg base CX k f fd ps sp := ⟨F.len, fun A outer s H args us vs Q E hr => F.run A outer s H args us vs Q E (hr.mono h)⟩
section
variable {X : Cx} {CX : CXT} {k : Nat} {f C : Addr} {fd : FuncData} {ps : List Str} {sp : Sp} {dvs : List V} {ds : List Value} {E : XK} {x m : Str} {p pos apos : Pos} {e o : Expr} {es : List Expr} {ta : TE} {t : TA}
theorem run_fnG {pins : List (Addr × Obj)} {σ : L2.St} {H : Hp} {s : Shared} {Q : VK} {us : List Value} {vs : List V} (F : FnG X.prog X.w X.K X.mg X.base CX k f fd ps sp) (hr : Room k X.A) (hg : X.A.guards = some []) (hb : Binds X.K fd ps ds) (hd : Vals dvs ds) (hx : Passes CX X E)
    (I : Inv X pins σ H s) (r : Vals vs us) (h : sp (vs ++ dvs) H Q E) : wpAny (model X.prog X.w) X.A (call (.ref f) us) (EP X pins σ Q) X.xe s := by
  have r2 : Vals (vs ++ dvs) (us ++ ds) := r.append hd
  have hl : (us ++ ds).length = ps.length := by rw [← r2.length]; exact F.len _ _ _ _ h
  refine wpAny_call (codeAny_mono (F.run X.A X.stack s H ⟨us, []⟩ (us ++ ds) (vs ++ dvs) Q E hr hg I.env0 (hb s us I.kIn hl) r2 h) fun r s' hq => ?_)
  cases r with
  | error e => exact hx pins σ H s e s' I hq
  | ok fl =>
    cases fl with
    | ret u => exact I.after hq
    | next => exact False.elim hq
    | brk => exact False.elim hq
    | cont => exact False.elim hq
theorem pe_callG (F : FnG X.prog X.w X.K X.mg X.base CX k f fd ps sp) (hr : Room k X.A) (hq : X.A.guards = some []) (hg : Gl X x) (hm : X.mg x = some (.ref f)) (hk : PySem.W.keepIn X.K (.ref f) = true) (hb : Binds X.K fd ps ds) (hd : Vals dvs ds) (hx : Passes CX X E)
    (ha : PA X (e :: es) t) (hdb : (x == ("__debug__" : Str)) = false := by decide) (he : starEach (e :: es) X.env = (false, eval e X.env) :: starEach es X.env := by rfl) (hpl : (backTo pos (starEach es X.env)).any (·.1) = false := by rfl) :
    PE X (.Call (.Name x p) (e :: es) [] pos) (tCall sp dvs E t) := by
  refine ⟨fun pins s σ H Q I h => ?_⟩
  refine wpAny_Call_Name_kw (ld_glob I hg hm ?_ hdb)
  refine PySem.W.callWith_K (h₀ := X.base) I.ok.mod.kin hk (thn (ha.run pos pins s σ H _ I h) fun us s1 ⟨vs, H1, I1, r, q⟩ => ⟨I1.kIn, ?_⟩) he hpl
  exact run_fnG F hr hq hb hd hx I1 r q
end
theorem fn_ofG {CX : CXT} {P : Program} {w : World} {K : PySem.W.Frag} {mg : Str → Option Value} {base : Heap} {k : Nat} {f : Addr} {name qual : Str} {params : Arguments} {body : List Stmt} {scope : Scope} {dV kV doc pm cdv ct oc : Value} {an od : Option Addr}
    {osl : Array (Option Value)} {N ps : List Str} {sp : Sp} (lk : K.lookup f = some ⟨oc, od, .func (PySem.W.fnOf name qual params body scope dV kV doc pm an cdv ct), osl⟩) (hcd : PySem.W.codeIn K cdv qual = true) (S : FnScope N ps scope)
    (len : ∀ vs H Q E, sp vs H Q E → vs.length = ps.length)
    (hbody : ∀ (A : Around) (outer : List Env) (s : Shared) (H : Hp) (vs : List V) (Q : VK) (E : XK), Room k (A.deeper (envOfC qual scope s.heap.objs.size f cdv)) → A.guards = some [] → sp vs H Q E →
      ∃ t, PSs (cxOf CX P w K mg base N qual scope f cdv A outer s H E) body t ∧ t { nx := fun _ H' => Q .non H', rt := Q } (L2.start N vs) H) :
    FnG P w K mg base CX (k + 1) f (PySem.W.fnOf name qual params body scope dV kV doc pm an cdv ct) ps sp := by
  refine ⟨len, fun A outer s H args us vs Q E hr hgu e0 hb r hsp => ?_⟩
  have hl := len _ _ _ _ hsp
  have KX : K.In s.heap := e0.mod.kin.keeps fun b o e => (e0.bs b o e).1
  have lim : s.heap.NoLimit := e0.mod.nolimit.keeps fun b o e => (e0.bs b o e).1
  have hkind : ∀ y ∈ ps.zip us, scope.names.lookup y.1 = some .local ∨ (scope.names.lookup y.1 = some .cell ∧ ((cellsFrom (s.heap.objs.size + 1) scope.names []).lookup y.1).isSome = true) := fun ⟨n, v⟩ hy => by
    rcases S.par n (List.of_mem_zip hy).1 with q | q
    · exact .inl q
    · exact .inr ⟨q, PySem.W.cellsFrom_some _ _ _ (.inl q)⟩
  refine codeAny_call_function hr.depth (KX _ _ lk) rfl S.co S.gen rfl (PySem.W.codeRec_of KX hcd) (hb _ _ _ _ ?_)
  refine wpAny_newFunctionEnv_cells S.kind hkind fun env he s1 x => ?_
  subst he
  refine ⟨lim.keeps x.toInCall.keep, codeAny_func ?_⟩
  obtain ⟨t, ht, hq⟩ := hbody A outer s H vs Q E (hr.deeper _) hgu hsp
  have I : Inv (cxOf CX P w K mg base N qual scope f cdv A outer s H E) [] (L2.start N vs) H s1 := inv_start S hr.hd e0 hl r x
  refine wpAny_mono (ht.run [] s1 (L2.start N vs) H _ I hq) (fun fl s' hs => ?_) fun e s' hs => hs
  have fin : ∀ {σ' : L2.St} {H' : Hp} {v : V} {u : Value}, Inv (cxOf CX P w K mg base N qual scope f cdv A outer s H E) [] σ' H' s' → RelV v u → Q v H' → CE outer P w H s Q u s' :=
    fun {σ' H' v u} J rv q => ⟨v, H', J.os, J.bare, J.base, J.hok, rv, q⟩
  cases fl with
  | ret u =>
    obtain ⟨v, σ', H', J, rv, q⟩ := hs
    exact fin J rv q
  | next =>
    obtain ⟨σ', H', J, q⟩ := hs
    exact fin (v := V.non) (u := Value.none) J rfl q
  | brk =>
    obtain ⟨_, _, _, q⟩ := hs
    exact False.elim q
  | cont =>
    obtain ⟨_, _, _, q⟩ := hs
    exact False.elim q
section
variable {P : Program} {w : World} {K : PySem.W.Frag} {mg : Str → Option Value} {base : Heap}
/-- a def by its body; no exception leaves it -/
theorem fun_okG {x qual : Str} {st : Stmt} {f : Addr} {fd : FuncData} {N ps : List Str} {k : Nat} {sp : Sp} (F : Fun K x qual st f fd) (S : FnScope N ps (defScope st)) (len : ∀ vs H Q E, sp vs H Q E → vs.length = ps.length)
    (hbody : ∀ (cdv : Value) (A : Around) (outer : List Env) (s : Shared) (H : Hp) (vs : List V) (Q : VK) (E : XK), Room k (A.deeper (envOfC qual (defScope st) s.heap.objs.size f cdv)) → A.guards = some [] → sp vs H Q E →
      ∃ t, PSs (cxOf CX0 P w K mg base N qual (defScope st) f cdv A outer s H E).nox (defBody st) t ∧ t { nx := fun _ H' => Q .non H', rt := Q } (L2.start N vs) H) : FnG P w K mg base CX0 (k + 1) f fd ps sp := by
  obtain ⟨oc, od, kV, doc, pm, an, cdv, ct, osl, rfl, lk, hcd⟩ := F.ex
  refine fn_ofG lk hcd S len fun A outer s H vs Q E hr hg hsp => ?_
  obtain ⟨t, h, q⟩ := hbody cdv A outer s H vs Q E hr hg hsp
  exact ⟨t, h.nox, q⟩
end
/-! ### promises by what is computed -/
/-- a def of n arguments that computes F and changes nothing -/
def spP (K : PySem.W.Frag) (n : Nat) (F : List D → Option D) : Sp := fun vs H Q _ => ∃ (G Fr : Hp) (ds : List D) (d : D), Mo G H ∧ Ex Fr H ∧ DsJ Fr G ∧ RpA K G vs ds ∧ ds.length = n ∧ F ds = some d ∧
  ∀ v G' H', Mo G G' → Mo G' H' → Ex Fr H' → DsJ Fr G' → Rp K G' v d → Q v H'
/-- a def to which a list or dict is lent first -/
def spM (K : PySem.W.Frag) (n : Nat) (F : D → List D → Option (D × D)) : Sp := fun vs H Q _ => ∃ (G Fr : Hp) (la : Addr) (u : HO) (h : D) (us : List V) (ds : List D) (d h' : D), vs = .ref la :: us ∧ Mo G H ∧ Ex Fr H ∧ DsJ Fr G ∧
  G la = none ∧ Fr la = none ∧ H la = some u ∧ Cont K G u h ∧ RpA K G us ds ∧ ds.length = n ∧ F h ds = some (d, h') ∧
  ∀ v G' H' u', Mo G G' → Mo G' H' → Ex Fr H' → DsJ Fr G' → G' la = none → H' la = some u' → Cont K G' u' h' → Rp K G' v d → Q v H'
/-- what stands at a call that is not the callee's to see or to change -/
noncomputable def Frc (G H : Hp) (no : Addr → Prop) : Hp := fun a => match H a with
  | some o => @ite _ ((G a = none ∧ ¬ no a) ∨ Imm o) (Classical.propDecidable _) (some o) none
  | none => none
section
variable {K : PySem.W.Frag} {Fr : Hp} {la : Addr} {σ : L2.St} {ε : En} {G H G' H' : Hp} {no : Addr → Prop}
theorem frc_ex : Ex (Frc G H no) H := fun a o e => by
  unfold Frc at e
  split at e
  · split at e
    · rename_i h _; rw [h]; exact e
    · cases e
  · cases e
theorem frc_of {a : Addr} {o : HO} (h : H a = some o) (c : (G a = none ∧ ¬ no a) ∨ Imm o) : Frc G H no a = some o := by
  unfold Frc
  rw [h]
  exact if_pos c
theorem frc_ds : DsJ (Frc G H no) G := fun a o e => by
  have hH := frc_ex a o e
  unfold Frc at e
  rw [hH] at e
  simp only at e
  split at e
  · rename_i c
    exact c.imp (fun z => z.1) fun z => z
  · cases e
/-- behind a call: nothing of the frame's own was changed, but what was lent -/
theorem Stt.called (s : Stt K Fr la σ ε G H) (hn : ∀ a, no a → Fr a = none) (m : Mo G G') (gh : Mo G' H') (f : Ex (Frc G H no) H') (ds : DsJ (Frc G H no) G') (ε' : En) (len : ε'.length = ε.length)
    (own : ∀ (i : Nat) (a : Addr), Own σ ε' i a → Own σ ε i a) (sl : ∀ (i : Nat) (e : SD), ε'[i]? = some e → (ε[i]? = some e ∧ ∀ a, Own σ ε i a → ¬ no a) ∨ Slot K Fr G' H' la σ[i]? e) : Stt K Fr la σ ε' G' H' where
  gh := gh
  fr := fun a o e => by
    have nn : ¬ no a := fun z => by rw [hn a z] at e; cases e
    exact f a o (frc_of (s.fr a o e) ((s.ds a o e).imp (fun z => ⟨z, nn⟩) fun z => z))
  ds := fun a o e => by
    have nn : ¬ no a := fun z => by rw [hn a z] at e; cases e
    exact ds a o (frc_of (s.fr a o e) ((s.ds a o e).imp (fun z => ⟨z, nn⟩) fun z => z))
  len := by rw [len]; exact s.len
  sl := fun i e he => by
    rcases sl i e he with ⟨h1, h2⟩ | h
    · have z := s.sl i e h1
      have key : ∀ a u d, G a = none → H a = some u → Cont K G u d → ¬ no a → G' a = none ∧ H' a = some u := fun a u d g hu c nn => by
        have q := frc_of (no := no) hu (.inl ⟨g, nn⟩)
        exact ⟨(ds a u q).resolve_right c.noImm, f a u q⟩
      cases e with
      | un => trivial
      | im d => obtain ⟨v, q1, r⟩ := z; exact ⟨v, q1, r.mo m⟩
      | mu d =>
        obtain ⟨a, u, q1, g, fa, hu, c⟩ := z
        obtain ⟨g', h'⟩ := key a u d g hu c (h2 a ⟨⟨_, h1, trivial⟩, q1⟩)
        exact ⟨a, u, q1, g', fa, h', c.mo m⟩
      | ln d =>
        obtain ⟨u, q1, g, fa, hu, c⟩ := z
        obtain ⟨g', h'⟩ := key la u d g hu c (h2 la ⟨⟨_, h1, trivial⟩, q1⟩)
        exact ⟨u, q1, g', fa, h', c.mo m⟩
    · exact h
  sep := fun i j a x y => s.sep i j a (own i a x) (own j a y)
theorem re_call {n : Nat} {F : List D → Option D} {ta : TA} {fs : List WE} {E : XK} (h : RL K ta fs) (hn : fs.length = n := by rfl) : RE K (tCall (spP K n F) [] E ta) (callE F fs) := fun Fr la σ ε G H d ε' Q s e q => by
  obtain ⟨⟨ds, ε1⟩, e1, e⟩ := bind_some e
  obtain ⟨d1, e2, e⟩ := bind_some e
  cases e
  refine h Fr la σ ε G H ds ε1 _ s e1 fun vs G1 H1 m1 s1 r1 => ?_
  rw [List.append_nil]
  refine ⟨G1, Frc G1 H1 fun _ => False, ds, d, s1.gh, frc_ex, frc_ds, r1, (evl_len e1).trans hn, e2, fun v G2 H2 m2 gh f dsj r => ?_⟩
  exact q v G2 H2 (m1.trans m2) (s1.called (fun _ z => z.elim) m2 gh f dsj ε1 rfl (fun _ _ z => z) fun i e he => .inl ⟨he, fun _ _ z => z⟩) r
theorem Stt.ownd (s : Stt K Fr la σ ε G H) {i : Nat} {h : D} (e : ownd ε i = some h) : ∃ a u, Own σ ε i a ∧ G a = none ∧ Fr a = none ∧ H a = some u ∧ Cont K G u h := by
  unfold PL.ownd at e
  cases z : ε[i]? with
  | none => rw [z] at e; cases e
  | some sd =>
    rw [z] at e
    have w := s.sl i sd z
    cases sd with
    | un => cases e
    | im d => cases e
    | mu d => cases e; obtain ⟨a, u, q1, g, f, hu, c⟩ := w; exact ⟨a, u, ⟨⟨_, z, trivial⟩, q1⟩, g, f, hu, c⟩
    | ln d => cases e; obtain ⟨u, q1, g, f, hu, c⟩ := w; exact ⟨la, u, ⟨⟨_, z, trivial⟩, q1⟩, g, f, hu, c⟩
/-- the owned slot i given other content -/
theorem Stt.recont (s : Stt K Fr la σ ε G H) {i : Nat} {a : Addr} {u' : HO} {h' : D} {ε' : En} (ho : Own σ ε i a) (hu : upc ε i h' = some ε') (m : Mo G G') (gh : Mo G' H') (f : Ex (Frc G H fun b => b = a) H') (ds : DsJ (Frc G H fun b => b = a) G')
    (g' : G' a = none) (hh : H' a = some u') (c : Cont K G' u' h') : Stt K Fr la σ ε' G' H' := by
  obtain ⟨ga, fa, _⟩ := s.own ho
  obtain ⟨⟨e0, he0, ho0⟩, hs0⟩ := id ho
  have hi : i < ε.length := (List.getElem?_eq_some_iff.mp he0).1
  have key : ∀ e1 : SD, IsOwn e1 → Slot K Fr G' H' la σ[i]? e1 → Stt K Fr la σ (ε.set i e1) G' H' := fun e1 ho1 sl1 => by
    refine s.called (no := fun b => b = a) (fun b z => by rw [z]; exact fa) m gh f ds _ (by rw [List.length_set]) (fun j b ⟨⟨e, he, hoe⟩, hs⟩ => ?_) fun j e he => ?_
    · by_cases q : i = j
      · subst q; exact ⟨⟨e0, he0, ho0⟩, hs⟩
      · rw [List.getElem?_set_ne q] at he; exact ⟨⟨e, he, hoe⟩, hs⟩
    · by_cases q : i = j
      · subst q; rw [List.getElem?_set_self hi] at he; cases he; exact .inr sl1
      · rw [List.getElem?_set_ne q] at he
        exact .inl ⟨he, fun b hb z => q (s.sep i j a ho (z ▸ hb))⟩
  unfold upc at hu
  rw [he0] at hu
  cases e0 with
  | un => exact ho0.elim
  | im d => exact ho0.elim
  | mu d1 => cases hu; exact key _ trivial ⟨a, u', hs0, g', fa, hh, c⟩
  | ln d1 =>
    cases hu
    obtain ⟨w, q1, _⟩ := s.sl i _ he0
    rw [hs0] at q1; cases q1
    exact key _ trivial ⟨u', hs0, g', fa, hh, c⟩
theorem re_callM {n i : Nat} {F : D → List D → Option (D × D)} {ta : TA} {fs : List WE} {E : XK} (h : RL K ta fs) (hn : fs.length = n := by rfl) : RE K (tCall (spM K n F) [] E (tCons (tVar i) ta)) (callM F i fs) := fun Fr la σ ε G H d ε' Q s e q => by
  obtain ⟨h0, e0, e⟩ := bind_some e
  obtain ⟨⟨ds, ε1⟩, e1, e⟩ := bind_some e
  obtain ⟨hd, e2, e⟩ := bind_some e
  obtain ⟨⟨d1, h1⟩, e3, e⟩ := bind_some e
  obtain ⟨ε2, e4, e⟩ := bind_some e
  cases e
  obtain ⟨a, _, ⟨_, hσ⟩, _⟩ := s.ownd e0
  refine ⟨_, hσ, ?_⟩
  refine h Fr la σ ε G H ds ε1 _ s e1 fun vs G1 H1 m1 s1 r1 => ?_
  obtain ⟨b, u, ho, g, f, hu, c⟩ := s1.ownd e2
  have hb : b = a := by
    have := ho.2
    rw [hσ] at this
    cases this; rfl
  subst hb
  rw [List.append_nil]
  refine ⟨G1, Frc G1 H1 fun c => c = b, b, u, hd, vs, ds, _, h1, rfl, s1.gh, frc_ex, frc_ds, g, ?_, hu, c, r1, (evl_len e1).trans hn, e3, fun v G2 H2 u' m2 gh f2 dsj g2 hu2 c2 r => ?_⟩
  · cases z : Frc G1 H1 (fun c => c = b) b with
    | none => rfl
    | some o =>
      have e5 := frc_ex b o z
      rw [hu] at e5; cases e5
      unfold Frc at z
      rw [hu] at z
      simp only at z
      split at z
      · rename_i cc
        rcases cc with ⟨_, w⟩ | w
        · exact (w rfl).elim
        · exact (c.noImm w).elim
      · cases z
  · exact q v G2 H2 (m1.trans m2) (s1.recont ho e4 m2 gh f2 dsj g2 hu2 c2) r
end
section
variable {K : PySem.W.Frag}
theorem ini_get {n : Nat} {vs : List V} {ds : List D} {G : Hp} (r : RpA K G vs ds) (N : List Str) (hn : N.length = n) {i : Nat} {e : SD} (h : (ini n ds)[i]? = some e) : e = .un ∨ ∃ v d, e = .im d ∧ (L2.start N vs)[i]? = some (some v) ∧ Rp K G v d := by
  unfold ini at h
  by_cases hi : i < ds.length
  · rw [List.getElem?_append_left (by rw [List.length_map]; exact hi), List.getElem?_map, List.getElem?_eq_getElem hi] at h
    cases h
    obtain ⟨v, hv, rv⟩ := r.getD (List.getElem?_eq_getElem hi)
    refine .inr ⟨v, _, rfl, ?_, rv⟩
    unfold L2.start
    rw [List.getElem?_append_left (by rw [List.length_map, r.length]; exact hi), List.getElem?_map, hv]
    rfl
  · rw [List.getElem?_append_right (by rw [List.length_map]; omega), List.getElem?_replicate] at h
    split at h
    · cases h; exact .inl rfl
    · cases h
theorem start_len (N : List Str) (vs : List V) (h : vs.length ≤ N.length) : (L2.start N vs).length = N.length := by
  unfold L2.start
  rw [List.length_append, List.length_map, List.length_replicate]; omega
theorem ini_len (n : Nat) (ds : List D) (h : ds.length ≤ n) : (ini n ds).length = n := by
  unfold ini
  rw [List.length_append, List.length_map, List.length_replicate]; omega
theorem stt_ini {Fr G H : Hp} {la : Addr} {N : List Str} {n : Nat} {vs : List V} {ds : List D} (gh : Mo G H) (fr : Ex Fr H) (dj : DsJ Fr G) (r : RpA K G vs ds) (hn : N.length = n) (hl : ds.length ≤ n) : Stt K Fr la (L2.start N vs) (ini n ds) G H where
  gh := gh
  fr := fr
  ds := dj
  len := by rw [start_len N vs (by rw [r.length, hn]; exact hl), ini_len n ds hl, hn]
  sl := fun i e he => by
    rcases ini_get r N hn he with rfl | ⟨v, d, rfl, h1, h2⟩
    · trivial
    · exact ⟨v, h1, h2⟩
  sep := fun i j a ⟨⟨e, he, ho⟩, _⟩ _ => by
    rcases ini_get r N hn he with rfl | ⟨v, d, rfl, _⟩ <;> exact ho.elim
theorem stt_iniM {Fr G H : Hp} {la : Addr} {u : HO} {h : D} {N : List Str} {n : Nat} {vs : List V} {ds : List D} (gh : Mo G H) (fr : Ex Fr H) (dj : DsJ Fr G) (g : G la = none) (f : Fr la = none) (hu : H la = some u) (c : Cont K G u h)
    (r : RpA K G vs ds) (hn : N.length = n + 1) (hl : ds.length ≤ n) : Stt K Fr la (L2.start N (.ref la :: vs)) (.ln h :: ini n ds) G H := by
  have e1 : L2.start N (.ref la :: vs) = some (.ref la) :: L2.start N.tail vs := by
    cases N with
    | nil => cases hn
    | cons x N =>
      unfold L2.start
      simp only [List.map_cons, List.length_cons, List.tail_cons, List.cons_append]
      rw [Nat.add_sub_add_right]
  have hn' : N.tail.length = n := by rw [List.length_tail, hn]; rfl
  have s := stt_ini (la := la) gh fr dj r hn' hl
  rw [e1]
  refine ⟨gh, fr, dj, by rw [List.length_cons, List.length_cons, s.len], fun i e he => ?_, fun i j a x y => ?_⟩
  · cases i with
    | zero => cases he; exact ⟨u, rfl, g, f, hu, c⟩
    | succ i => exact s.sl i e he
  · have no : ∀ i a, Own (some (.ref la) :: L2.start N.tail vs) (.ln h :: ini n ds) (i + 1) a → False := fun i a ⟨⟨e, he, ho⟩, _⟩ => by
      rcases ini_get r N.tail hn' (show (ini n ds)[i]? = some e from he) with rfl | ⟨v, d, rfl, _⟩ <;> exact ho.elim
    cases i with
    | succ i => exact (no i a x).elim
    | zero =>
      cases j with
      | succ j => exact (no j a y).elim
      | zero => rfl
end
section
variable {P : Program} {w : World} {K : PySem.W.Frag} {mg : Str → Option Value} {base : Heap}
theorem spP_len {n : Nat} {F : List D → Option D} {vs : List V} {H : Hp} {Q : VK} {E : XK} (h : spP K n F vs H Q E) : vs.length = n := by
  obtain ⟨G, Fr, ds, d, _, _, _, r, hn, _⟩ := h
  rw [r.length]; exact hn
theorem spM_len {n : Nat} {F : D → List D → Option (D × D)} {vs : List V} {H : Hp} {Q : VK} {E : XK} (h : spM K n F vs H Q E) : vs.length = n + 1 := by
  obtain ⟨G, Fr, la, u, h, us, ds, d, h', rfl, _, _, _, _, _, _, _, r, hn, _⟩ := h
  rw [List.length_cons, r.length, hn]
/-- THE RULE: a def computes what its body's pieces say -/
theorem ok_P {x qual : Str} {st : Stmt} {f : Addr} {fd : FuncData} {N ps : List Str} {k n m : Nat} (F : Fun K x qual st f fd) (S : FnScope N ps (defScope st)) {W : WS} (hN : N.length = n) (hps : ps.length = m)
    (hbody : ∀ (cdv : Value) (A : Around) (outer : List Env) (s : Shared) (H : Hp) (E : XK), Room k (A.deeper (envOfC qual (defScope st) s.heap.objs.size f cdv)) → A.guards = some [] →
      ∃ t, PSs (cxOf CX0 P w K mg base N qual (defScope st) f cdv A outer s H E).nox (defBody st) t ∧ RS K t W) : FnG P w K mg base CX0 (k + 1) f fd ps (spP K m (runD n W)) := by
  refine fun_okG F S (fun vs H Q E h => (spP_len h).trans hps.symm) fun cdv A outer s H vs Q E hr hg h => ?_
  obtain ⟨t, ht, hs⟩ := hbody cdv A outer s H E hr hg
  refine ⟨t, ht, ?_⟩
  obtain ⟨G, Fr, ds, d, gh, fr, dj, r, hn, e, q⟩ := h
  have hl : ds.length ≤ n := by
    rw [hn, ← hps, ← hN]
    have := congrArg List.length S.pre
    rw [List.length_take] at this; omega
  obtain ⟨o, e1, e2⟩ := bind_some e
  refine hs Fr 0 _ _ G H o _ (stt_ini gh fr dj r hN hl) e1 ?_
  cases o with
  | nx ε' =>
    cases e2
    intro σ' G' H' m s'
    exact q .non G' H' m s'.gh s'.fr s'.ds .non
  | rt d' ε' =>
    cases e2
    intro v σ' G' H' m s' r'
    exact q v G' H' m s'.gh s'.fr s'.ds r'
  | bk ε' => cases e2
  | ct ε' => cases e2
theorem ok_M {x qual : Str} {st : Stmt} {f : Addr} {fd : FuncData} {N ps : List Str} {k n m : Nat} (F : Fun K x qual st f fd) (S : FnScope N ps (defScope st)) {W : WS} (hN : N.length = n) (hps : ps.length = m + 1)
    (hbody : ∀ (cdv : Value) (A : Around) (outer : List Env) (s : Shared) (H : Hp) (E : XK), Room k (A.deeper (envOfC qual (defScope st) s.heap.objs.size f cdv)) → A.guards = some [] →
      ∃ t, PSs (cxOf CX0 P w K mg base N qual (defScope st) f cdv A outer s H E).nox (defBody st) t ∧ RS K t W) : FnG P w K mg base CX0 (k + 1) f fd ps (spM K m (runM n W)) := by
  refine fun_okG F S (fun vs H Q E h => (spM_len h).trans hps.symm) fun cdv A outer s H vs Q E hr hg h => ?_
  obtain ⟨t, ht, hs⟩ := hbody cdv A outer s H E hr hg
  refine ⟨t, ht, ?_⟩
  obtain ⟨G, Fr, la, u, h, us, ds, d, h', rfl, gh, fr, dj, g, fl, hu, c, r, hn, e, q⟩ := h
  have hl : ds.length + 1 ≤ n := by
    rw [hn, ← hps, ← hN]
    have := congrArg List.length S.pre
    rw [List.length_take] at this; omega
  obtain ⟨o, e1, e2⟩ := bind_some e
  have s0 := stt_iniM (N := N) (n := n - 1) gh fr dj g fl hu c r (by omega) (by omega)
  refine hs Fr la _ _ G H o _ s0 e1 ?_
  have fin : ∀ {ε' : En} {h1 : D} {σ' : L2.St} {G' H' : Hp}, lent ε' = some h1 → Stt K Fr la σ' ε' G' H' → ∃ u', G' la = none ∧ H' la = some u' ∧ Cont K G' u' h1 := fun {ε' h1 σ' G' H'} e s' => by
    unfold lent at e
    cases z : ε'[(0 : Nat)]? with
    | none => rw [z] at e; cases e
    | some sd =>
      rw [z] at e
      have w := s'.sl 0 sd z
      cases sd with
      | ln d => cases e; obtain ⟨u', _, g', _, hu', c'⟩ := w; exact ⟨u', g', hu', c'⟩
      | _ => cases e
  cases o with
  | nx ε' =>
    obtain ⟨h1, e3, e2⟩ := bind_some e2
    cases e2
    intro σ' G' H' m s'
    obtain ⟨u', a, b, c⟩ := fin e3 s'
    exact q .non G' H' u' m s'.gh s'.fr s'.ds a b c .non
  | rt d' ε' =>
    obtain ⟨h1, e3, e2⟩ := bind_some e2
    cases e2
    intro v σ' G' H' m s' r'
    obtain ⟨u', a, b, c⟩ := fin e3 s'
    exact q v G' H' u' m s'.gh s'.fr s'.ds a b c r'
  | bk ε' => cases e2
  | ct ε' => cases e2
end
end PL

-- PLop1
/-! PL, operations: data out of heaps; + - * // %; == < in; x[i]; x[a:b]; len. -/
namespace PL
open PySem PySem.Spec PyProof.Rows L2

/-- data without dicts, nested at most n deep -/
def okD : Nat → D → Bool
  | 0 => fun d => match d with
    | .list _ => false | .tuple _ => false | .dict _ => false | _ => true
  | n + 1 => fun d => match d with
    | .list xs => xs.all (okD n) | .tuple xs => xs.all (okD n) | .dict _ => false | _ => true
theorem plainAll_of : ∀ {xs : List D}, (∀ x ∈ xs, x.plain = true) → PyData.plainAll xs = true
  | [], _ => by simp [PyData.plainAll]
  | x :: xs, h => by
    simp only [PyData.plainAll, h x List.mem_cons_self, plainAll_of (xs := xs) fun y hy => h y (List.mem_cons_of_mem _ hy), Bool.and_self]
theorem depthAll_of {n : Nat} : ∀ {xs : List D}, (∀ x ∈ xs, x.depth ≤ n) → PyData.depthAll xs ≤ n
  | [], _ => by simp [PyData.depthAll]
  | x :: xs, h => by
    have h1 := h x List.mem_cons_self
    have h2 := depthAll_of (xs := xs) fun y hy => h y (List.mem_cons_of_mem _ hy)
    simp only [PyData.depthAll]; omega
theorem okD_spec : ∀ (n : Nat) (d : D), okD n d = true → d.plain = true ∧ d.depth ≤ n
  | 0, d, h => by
    cases d with
    | list _ => cases h
    | tuple _ => cases h
    | dict _ => cases h
    | _ => exact ⟨by simp [PyData.plain], by simp [PyData.depth]⟩
  | n + 1, d, h => by
    have go : ∀ xs : List D, xs.all (okD n) = true → PyData.plainAll xs = true ∧ PyData.depthAll xs ≤ n := fun xs hx => by
      rw [List.all_eq_true] at hx
      exact ⟨plainAll_of fun x hm => (okD_spec n x (hx x hm)).1, depthAll_of fun x hm => (okD_spec n x (hx x hm)).2⟩
    cases d with
    | list xs =>
      obtain ⟨a, b⟩ := go xs h
      exact ⟨by simpa [PyData.plain] using a, by simp only [PyData.depth]; omega⟩
    | tuple xs =>
      obtain ⟨a, b⟩ := go xs h
      exact ⟨by simpa [PyData.plain] using a, by simp only [PyData.depth]; omega⟩
    | dict _ => cases h
    | _ => exact ⟨by simp [PyData.plain], by simp [PyData.depth]⟩
def ok9 (d : D) : Bool := okD 9 d

section
variable {K : PySem.W.Frag} {G H : Hp}
mutual
theorem Rp.dp (m : Mo G H) : ∀ {v : V} {d : D}, Rp K G v d → d.plain = true → Dp K H v d
  | _, _, .non, _ => .non
  | _, _, .bl b, _ => .bl b
  | _, _, .int i, _ => .int i
  | _, _, .str x, _ => .str x
  | _, _, .lst h t, e => .lst (.inl (m.rd _ _ trivial h)) (RpA.dp m t (by simpa [PyData.plain] using e))
  | _, _, .tup h t, e => .tup (.of (m.tp _ _ h)) (RpA.dp m t (by simpa [PyData.plain] using e))
  | _, _, .dk _ _, e => by simp [PyData.plain] at e
  | _, _, .dt _ _, e => by simp [PyData.plain] at e
theorem RpA.dp (m : Mo G H) : ∀ {vs : List V} {ds : List D}, RpA K G vs ds → PyData.plainAll ds = true → DpAll K H vs ds
  | _, _, .nil, _ => .nil
  | _, _, .cons h t, e => by
    simp only [PyData.plainAll, Bool.and_eq_true] at e
    exact .cons (Rp.dp m h e.1) (RpA.dp m t e.2)
end
theorem Rb.dp (m : Mo G H) {v : V} {d : D} (h : Rb K G H v d) (e : d.plain = true) : Dp K H v d := by
  cases h with
  | rp h => exact h.dp m e
  | own hu c =>
    cases c with
    | lst r => exact .lst (.inl (.of hu)) (r.dp m (by simpa [PyData.plain] using e))
    | dk _ => simp [PyData.plain] at e
    | dt _ => simp [PyData.plain] at e
theorem Rb.int {v : V} {i : Int} (h : Rb K G H v (.int i)) : v = .int i := by
  cases h with
  | rp h => cases h; rfl
  | own _ c => cases c
theorem Rb.bool {v : V} {i : Bool} (h : Rb K G H v (.bool i)) : v = .bl i := by
  cases h with
  | rp h => cases h; rfl
  | own _ c => cases c
theorem Rb.none {v : V} (h : Rb K G H v .none) : v = .non := by
  cases h with
  | rp h => cases h; rfl
  | own _ c => cases c
theorem Rb.str {v : V} {i : Str} (h : Rb K G H v (.str i)) : v = .str i := by
  cases h with
  | rp h => cases h; rfl
  | own _ c => cases c
theorem Rb.lst (m : Mo G H) {v : V} {ds : List D} (h : Rb K G H v (.list ds)) : ∃ a vs, v = .ref a ∧ Rd H a (.lst vs) ∧ RpA K G vs ds := by
  cases h with
  | rp h => cases h with | lst q r => exact ⟨_, _, rfl, m.rd _ _ trivial q, r⟩
  | own hu c => cases c with | lst r => exact ⟨_, _, rfl, .of hu, r⟩
theorem Rb.tup (m : Mo G H) {v : V} {ds : List D} (h : Rb K G H v (.tuple ds)) : ∃ a vs, v = .ref a ∧ H a = some (.tup vs) ∧ RpA K G vs ds ∧ Rp K G v (.tuple ds) := by
  cases h with
  | rp h => cases h with | tup q r => exact ⟨_, _, rfl, m.tp _ _ q, r, .tup q r⟩
  | own hu c => cases c
theorem new_lst {p : Addr} {vs : List V} {ds : List D} (m : Mo G H) (h : H p = none) (r : RpA K G vs ds) : New G H (upd G p (.lst vs)) (upd H p (.lst vs)) ∧ Rp K (upd G p (.lst vs)) (.ref p) (.list ds) :=
  have n : New G H (upd G p (.lst vs)) (upd H p (.lst vs)) := .one m h
  ⟨n, .lst (.of upd_same) (r.mo n.mo)⟩
theorem new_tup {p : Addr} {vs : List V} {ds : List D} (m : Mo G H) (h : H p = none) (r : RpA K G vs ds) : New G H (upd G p (.tup vs)) (upd H p (.tup vs)) ∧ Rp K (upd G p (.tup vs)) (.ref p) (.tuple ds) :=
  have n : New G H (upd G p (.tup vs)) (upd H p (.tup vs)) := .one m h
  ⟨n, .tup upd_same (r.mo n.mo)⟩
/-- a new list that may be written -/
theorem own_lst {p : Addr} {vs : List V} {ds : List D} (m : Mo G H) (h : H p = none) (r : RpA K G vs ds) : New G H G (upd H p (.lst vs)) ∧ H p = none ∧ G p = none ∧ ∃ u, upd H p (.lst vs) p = some u ∧ Cont K G u (.list ds) :=
  ⟨.own m h, h, m.dom p h, _, upd_same, .lst r⟩
end

/-! ### readings by data -/
def rDD (K : PySem.W.Frag) (C : D → D → Bool) (res : D → D → V) : R2 := fun x y H Q => ∃ d e, Dp K H x d ∧ Dp K H y e ∧ C d e = true ∧ Q (res d e) H
theorem v2_DD {K : PySem.W.Frag} {C : D → D → Bool} {res : D → D → V} {g : D → D → Option D} (hg : ∀ d e r, g d e = some r → C d e = true ∧ ∀ G, Rp K G (res d e) r) (hp : ∀ d e, C d e = true → d.plain = true ∧ e.plain = true) : V2 K (rDD K C res) g :=
  fun G H x y dx dy d Q m rx ry e q => by
    obtain ⟨h1, h2⟩ := hg _ _ _ e
    obtain ⟨p1, p2⟩ := hp _ _ h1
    exact ⟨dx, dy, rx.dp m p1, ry.dp m p2, h1, q _ G H (.refl m) (h2 G)⟩
def okk (d e : D) : Bool := ok9 d && ok9 e
theorem okk_spec {d e : D} (h : okk d e = true) : (d.plain = true ∧ d.depth ≤ 9) ∧ (e.plain = true ∧ e.depth ≤ 9) := by
  unfold okk at h
  rw [Bool.and_eq_true] at h
  exact ⟨okD_spec 9 d h.1, okD_spec 9 e h.2⟩
def eqD (d e : D) : Option D := if okk d e = true then some (.bool (PyData.eqv d e)) else none
def neD (d e : D) : Option D := if okk d e = true then some (.bool (!PyData.eqv d e)) else none
def isNoneD : D → Bool
  | .none => true
  | _ => false
theorem isNoneD_ne {d : D} (h : isNoneD d = false) : d ≠ .none := fun e => by subst e; cases h
def alk (d e : D) : Bool := okk d e && PySem.W.alike d e && !isNoneD d
def ltD (d e : D) : Option D := if alk d e = true then some (.bool (PySem.W.dataLt d e)) else none
def gtD (d e : D) : Option D := if alk d e = true then some (.bool (PySem.W.dataLt e d)) else none
def leD (d e : D) : Option D := if alk d e = true then some (.bool (!PySem.W.dataLt e d)) else none
def geD (d e : D) : Option D := if alk d e = true then some (.bool (!PySem.W.dataLt d e)) else none
theorem of_ite {c : Prop} [Decidable c] {α : Type} {a b : α} (h : (if c then some a else none) = some b) : c ∧ a = b := by
  by_cases k : c
  · rw [if_pos k] at h; exact ⟨k, Option.some.inj h⟩
  · rw [if_neg k] at h; cases h
theorem alk_spec {d e : D} (h : alk d e = true) : (d.plain = true ∧ d.depth ≤ 9) ∧ (e.plain = true ∧ e.depth ≤ 9) ∧ PySem.W.alike d e = true ∧ d ≠ .none := by
  unfold alk at h
  rw [Bool.and_eq_true, Bool.and_eq_true] at h
  obtain ⟨⟨h1, h2⟩, h3⟩ := h
  obtain ⟨a, b⟩ := okk_spec h1
  exact ⟨a, b, h2, isNoneD_ne (by simpa using h3)⟩
section
variable {X : Cx}
theorem op_eqP (hu : X.A.units + 64 < cLine) : OpR X (compareOp .Eq) (rDD X.K okk fun d e => .bl (PyData.eqv d e)) := by
  intro pins s σ H x y v u Q I rx ry h
  obtain ⟨d, e, hd, he, hc, q⟩ := h
  obtain ⟨as, r1⟩ := Dp.reads I d x v hd rx
  obtain ⟨bs, r2⟩ := Dp.reads I e y u he ry
  obtain ⟨a, b⟩ := okk_spec hc
  exact SeqAt.eq_plain r1 r2 a.1 b.1 (by omega) ⟨.bl _, H, I, rfl, q⟩
theorem op_neP (hu : X.A.units + 64 < cLine) : OpR X (compareOp .NotEq) (rDD X.K okk fun d e => .bl (!PyData.eqv d e)) := by
  intro pins s σ H x y v u Q I rx ry h
  obtain ⟨d, e, hd, he, hc, q⟩ := h
  obtain ⟨as, r1⟩ := Dp.reads I d x v hd rx
  obtain ⟨bs, r2⟩ := Dp.reads I e y u he ry
  obtain ⟨a, b⟩ := okk_spec hc
  exact SeqAt.ne_plain r1 r2 a.1 b.1 (by omega) ⟨.bl _, H, I, rfl, q⟩
theorem op_ltP (hu : X.A.units + 64 < cLine) : OpR X (compareOp .Lt) (rDD X.K alk fun d e => .bl (PySem.W.dataLt d e)) := by
  intro pins s σ H x y v u Q I rx ry h
  obtain ⟨d, e, hd, he, hc, q⟩ := h
  obtain ⟨as, r1⟩ := Dp.reads I d x v hd rx
  obtain ⟨bs, r2⟩ := Dp.reads I e y u he ry
  obtain ⟨a, b, hal, hn⟩ := alk_spec hc
  exact PySem.W.lt_data r1 r2 hal hn (by omega) ⟨.bl _, H, I, rfl, q⟩
theorem op_gtP (hu : X.A.units + 64 < cLine) : OpR X (compareOp .Gt) (rDD X.K alk fun d e => .bl (PySem.W.dataLt e d)) := by
  intro pins s σ H x y v u Q I rx ry h
  obtain ⟨d, e, hd, he, hc, q⟩ := h
  obtain ⟨as, r1⟩ := Dp.reads I d x v hd rx
  obtain ⟨bs, r2⟩ := Dp.reads I e y u he ry
  obtain ⟨a, b, hal, hn⟩ := alk_spec hc
  exact PySem.W.gt_data r1 r2 hal hn (by omega) ⟨.bl _, H, I, rfl, q⟩
theorem op_leP (hu : X.A.units + 64 < cLine) : OpR X (compareOp .LtE) (rDD X.K alk fun d e => .bl (!PySem.W.dataLt e d)) := by
  intro pins s σ H x y v u Q I rx ry h
  obtain ⟨d, e, hd, he, hc, q⟩ := h
  obtain ⟨as, r1⟩ := Dp.reads I d x v hd rx
  obtain ⟨bs, r2⟩ := Dp.reads I e y u he ry
  obtain ⟨a, b, hal, hn⟩ := alk_spec hc
  exact PySem.W.le_data r1 r2 hal hn (by omega) ⟨.bl _, H, I, rfl, q⟩
theorem op_geP (hu : X.A.units + 64 < cLine) : OpR X (compareOp .GtE) (rDD X.K alk fun d e => .bl (!PySem.W.dataLt d e)) := by
  intro pins s σ H x y v u Q I rx ry h
  obtain ⟨d, e, hd, he, hc, q⟩ := h
  obtain ⟨as, r1⟩ := Dp.reads I d x v hd rx
  obtain ⟨bs, r2⟩ := Dp.reads I e y u he ry
  obtain ⟨a, b, hal, hn⟩ := alk_spec hc
  exact PySem.W.ge_data r1 r2 hal hn (by omega) ⟨.bl _, H, I, rfl, q⟩
end
section
variable {K : PySem.W.Frag}
theorem v_eq : V2 K (rDD K okk fun d e => .bl (PyData.eqv d e)) eqD := v2_DD (fun d e r h => by obtain ⟨a, rfl⟩ := of_ite h; exact ⟨a, fun _ => .bl _⟩) fun d e h => ⟨(okk_spec h).1.1, (okk_spec h).2.1⟩
theorem v_ne : V2 K (rDD K okk fun d e => .bl (!PyData.eqv d e)) neD := v2_DD (fun d e r h => by obtain ⟨a, rfl⟩ := of_ite h; exact ⟨a, fun _ => .bl _⟩) fun d e h => ⟨(okk_spec h).1.1, (okk_spec h).2.1⟩
theorem v_lt : V2 K (rDD K alk fun d e => .bl (PySem.W.dataLt d e)) ltD := v2_DD (fun d e r h => by obtain ⟨a, rfl⟩ := of_ite h; exact ⟨a, fun _ => .bl _⟩) fun d e h => ⟨(alk_spec h).1.1, (alk_spec h).2.1.1⟩
theorem v_gt : V2 K (rDD K alk fun d e => .bl (PySem.W.dataLt e d)) gtD := v2_DD (fun d e r h => by obtain ⟨a, rfl⟩ := of_ite h; exact ⟨a, fun _ => .bl _⟩) fun d e h => ⟨(alk_spec h).1.1, (alk_spec h).2.1.1⟩
theorem v_le : V2 K (rDD K alk fun d e => .bl (!PySem.W.dataLt e d)) leD := v2_DD (fun d e r h => by obtain ⟨a, rfl⟩ := of_ite h; exact ⟨a, fun _ => .bl _⟩) fun d e h => ⟨(alk_spec h).1.1, (alk_spec h).2.1.1⟩
theorem v_ge : V2 K (rDD K alk fun d e => .bl (!PySem.W.dataLt d e)) geD := v2_DD (fun d e r h => by obtain ⟨a, rfl⟩ := of_ite h; exact ⟨a, fun _ => .bl _⟩) fun d e h => ⟨(alk_spec h).1.1, (alk_spec h).2.1.1⟩
end

/-! ### in -/
/-- a text in a text -/
def strIn (a b : Str) : Bool := match sL a with
  | [c] => decide (c ∈ sL b)
  | _ => !(Builtin.Str.occurrences b a 0 b.length 1).isEmpty
def seqOf : D → Option (List D)
  | .list xs => some xs
  | .tuple xs => some xs
  | _ => none
def inD (neg : Bool) (d e : D) : Option D := match d, e with
  | .str a, .str b => some (.bool (bne neg (strIn a b)))
  | d, e => (seqOf e).bind fun xs => if okk d e = true then some (.bool (bne neg (xs.any fun z => PyData.eqv z d))) else none
def rInS2 (neg : Bool) : R2 := fun x y H Q => ∃ a b, x = .str a ∧ y = .str b ∧ Q (.bl (bne neg (strIn a b))) H
def rInQ (K : PySem.W.Frag) (neg : Bool) : R2 := fun x y H Q => ∃ d e xs, Dp K H x d ∧ Dp K H y e ∧ seqOf e = some xs ∧ okk d e = true ∧ Q (.bl (bne neg (xs.any fun z => PyData.eqv z d))) H
def rInP (K : PySem.W.Frag) (neg : Bool) : R2 := fun x y H Q => rInS2 neg x y H Q ∨ rInQ K neg x y H Q
section
variable {X : Cx}
theorem room_in {d e : D} {xs : List D} (h : okk d e = true) (hs : seqOf e = some xs) : PyData.plainAll xs = true ∧ d.plain = true ∧ min (PyData.depthAll xs) d.depth ≤ 9 := by
  obtain ⟨a, b⟩ := okk_spec h
  refine ⟨?_, a.1, by omega⟩
  cases e <;> cases hs <;> simpa [PyData.plain] using b.1
theorem op_inP (hu : X.A.units + 64 < cLine) : OpR X (compareOp .In) (rInP X.K false) := by
  intro pins s σ H x y v u Q I rx ry h
  rcases h with ⟨a, b, rfl, rfl, q⟩ | ⟨d, e, xs, hd, he, hs, hc, q⟩
  · have e0 : bne false (strIn a b) = strIn a b := by cases strIn a b <;> rfl
    rw [e0] at q
    unfold strIn at q
    split at q
    · rename_i c hc
      have ea : a = ⟨#[c]⟩ := by
        cases a
        simp only [sL] at hc
        rw [← Array.toList_inj.mp (show _ = (#[c] : Array Nat).toList from hc)]
      subst ea
      exact op_in_sign pins s σ H _ _ v u Q I rx ry ⟨c, b, rfl, rfl, q⟩
    · exact op_in_str pins s σ H _ _ v u Q I rx ry ⟨a, b, rfl, rfl, q⟩
  · have e0 : bne false (xs.any fun z => PyData.eqv z d) = xs.any fun z => PyData.eqv z d := by cases xs.any fun z => PyData.eqv z d <;> rfl
    rw [e0] at q
    obtain ⟨as, r1⟩ := Dp.reads I d x v hd rx
    obtain ⟨bs, r2⟩ := Dp.reads I e y u he ry
    obtain ⟨p1, p2, p3⟩ := room_in hc hs
    cases e <;> cases hs
    · exact SeqAt.in_list_data r2 r1 p1 p2 (by omega) ⟨.bl _, H, I, rfl, q⟩
    · exact SeqAt.in_tuple_data r2 r1 p1 p2 (by omega) ⟨.bl _, H, I, rfl, q⟩
theorem op_notInP (hu : X.A.units + 64 < cLine) : OpR X (compareOp .NotIn) (rInP X.K true) := by
  intro pins s σ H x y v u Q I rx ry h
  rcases h with ⟨a, b, rfl, rfl, q⟩ | ⟨d, e, xs, hd, he, hs, hc, q⟩
  · have e0 : bne true (strIn a b) = !strIn a b := by cases strIn a b <;> rfl
    rw [e0] at q
    unfold strIn at q
    split at q
    · rename_i c hc
      have ea : a = ⟨#[c]⟩ := by
        cases a
        simp only [sL] at hc
        rw [← Array.toList_inj.mp (show _ = (#[c] : Array Nat).toList from hc)]
      subst ea
      exact op_notIn_sign pins s σ H _ _ v u Q I rx ry ⟨c, b, rfl, rfl, q⟩
    · exact op_notin_str pins s σ H _ _ v u Q I rx ry ⟨a, b, rfl, rfl, q⟩
  · have e0 : bne true (xs.any fun z => PyData.eqv z d) = !xs.any fun z => PyData.eqv z d := by cases xs.any fun z => PyData.eqv z d <;> rfl
    rw [e0] at q
    obtain ⟨as, r1⟩ := Dp.reads I d x v hd rx
    obtain ⟨bs, r2⟩ := Dp.reads I e y u he ry
    obtain ⟨p1, p2, p3⟩ := room_in hc hs
    cases e <;> cases hs
    · exact SeqAt.notIn_list_data r2 r1 p1 p2 (by omega) ⟨.bl _, H, I, rfl, q⟩
    · exact SeqAt.notIn_tuple_data r2 r1 p1 p2 (by omega) ⟨.bl _, H, I, rfl, q⟩
end
theorem v_inQ {K : PySem.W.Frag} {neg : Bool} {G H : Hp} {x y : V} {d e r : D} {Q : VK} (m : Mo G H) (rx : Rb K G H x d) (ry : Rb K G H y e) (h : ((seqOf e).bind fun xs => if okk d e = true then some (PyData.bool (bne neg (xs.any fun z => PyData.eqv z d))) else none) = some r)
    (q : ∀ v G' H', New G H G' H' → Rp K G' v r → Q v H') : rInP K neg x y H Q := by
  obtain ⟨xs, hs, h⟩ := bind_some h
  obtain ⟨hc, rfl⟩ := of_ite h
  obtain ⟨a, b⟩ := okk_spec hc
  exact .inr ⟨d, e, xs, rx.dp m a.1, ry.dp m b.1, hs, hc, q _ G H (.refl m) (.bl _)⟩
theorem v_in {K : PySem.W.Frag} {neg : Bool} : V2 K (rInP K neg) (inD neg) := fun G H x y dx dy d Q m rx ry e q => by
  unfold inD at e
  split at e
  · cases e
    exact .inl ⟨_, _, rx.str, ry.str, q _ G H (.refl m) (.bl _)⟩
  · exact v_inQ m rx ry e q
end PL

-- PLop2
/-! PL, operations: + - * // % **; x[i]; x[a:b]; len. -/
namespace PL
open PySem PySem.Spec PyProof.Rows L2

def lowI (i : Int) : Bool := decide (-(2 ^ 63) ≤ i) && decide (i < 2 ^ 63)
theorem lowI_spec {i : Int} (h : lowI i = true) : -(2 ^ 63) ≤ i ∧ i < 2 ^ 63 := by
  unfold lowI at h
  rw [Bool.and_eq_true] at h
  exact ⟨of_decide_eq_true h.1, of_decide_eq_true h.2⟩
theorem big_line {n : Nat} (h : n ≤ big) : n ≤ sizeLine := by rw [sizeLine_eq]; have : big = 1000000 := rfl; omega
theorem sL_len (a : Str) : (sL a).length = a.length := by simp [sL, Str.length]
theorem str_app (a b : Str) : a ++ b = ⟨(sL a ++ sL b).toArray⟩ := by
  show (⟨a.cps ++ b.cps⟩ : Str) = _
  congr 1
  apply Array.toList_inj.mp
  simp [sL]

/-! ### + -/
def addD (d e : D) : Option D := match d, e with
  | .int i, .int j => some (.int (i + j))
  | .int i, .bool k => some (.int (i + b2i k))
  | .str a, .str b => if (sL a).length + (sL b).length ≤ big then some (tx (sL a ++ sL b)) else none
  | .list xs, .list ys => if xs.length + ys.length ≤ big then some (.list (xs ++ ys)) else none
  | .tuple xs, .tuple ys => if xs.length + ys.length ≤ big then some (.tuple (xs ++ ys)) else none
  | _, _ => none
def rCatL : R2 := fun x y H Q => ∃ l b xs zs, x = .ref l ∧ y = .ref b ∧ Rd H l (.lst xs) ∧ Rd H b (.lst zs) ∧ xs.length + zs.length ≤ sizeLine ∧ ∀ p, H p = none → Q (.ref p) (upd H p (.lst (xs ++ zs)))
section
variable {X : Cx}
theorem rd_lst {pins : List (Addr × Obj)} {s : Shared} {σ : L2.St} {H : Hp} {l : Addr} {xs : List V} (I : Inv X pins σ H s) (h : Rd H l (.lst xs)) : xs.length ≤ sizeLine ∧ ∃ (its : List Value) (n : Nat), Vals xs its ∧ xs.length = its.length ∧ s.heap.get? l = some { cls := .type "list", data := .seq its.toArray n } := by
  obtain ⟨z, its, n, r, e⟩ := (show ObjOk X.prog X.w H s.heap l (.lst xs) from h.ok I.hok)
  exact ⟨z, its, n, r, r.length, e⟩
theorem op_catL : OpR X (binaryOp .Add) rCatL := by
  intro pins s σ H x y v u Q I rx ry h
  obtain ⟨l, b, xs, zs, rfl, rfl, hH, hB, hz, q⟩ := h
  cases rx
  cases ry
  obtain ⟨z, its, n, r, hl, e⟩ := rd_lst I hH
  obtain ⟨z2, its2, n2, r2, hl2, e2⟩ := rd_lst I hB
  refine PySem.P.add_list e e2 ?_ (by rw [List.size_toArray, List.size_toArray]; omega)
  have ea : its.toArray ++ its2.toArray = (its ++ its2).toArray := by simp
  rw [ea]
  exact ⟨.ref _, _, I.lnew (t' := s.toks) (r.append r2) (by rw [List.length_append]; omega), rfl, q _ I.fresh⟩
end
def rAddP (K : PySem.W.Frag) : R2 := fun x y H Q => (rI0 fun i j => .int (i + j)) x y H Q ∨ (∃ i k, x = .int i ∧ y = .bl k ∧ Q (.int (i + b2i k)) H) ∨
  (∃ i j : Str, x = .str i ∧ y = .str j ∧ i.length + j.length ≤ sizeLine ∧ Q (.str (i ++ j)) H) ∨ rCatL x y H Q ∨ rCatA K x y H Q
theorem op_addP {X : Cx} : OpR X (binaryOp .Add) (rAddP X.K) := OpR.or op_add (OpR.or op_add_ib (OpR.or op_add_str (OpR.or op_catL op_catA)))
theorem v_add {K : PySem.W.Frag} : V2 K (rAddP K) addD := fun G H x y dx dy d Q m rx ry e q => by
  unfold addD at e
  split at e
  · cases e
    exact .inl ⟨_, _, rx.int, ry.int, q _ G H (.refl m) (.int _)⟩
  · cases e
    exact .inr (.inl ⟨_, _, rx.int, ry.bool, q _ G H (.refl m) (.int _)⟩)
  · obtain ⟨hc, rfl⟩ := of_ite e
    rename_i a b
    refine .inr (.inr (.inl ⟨_, _, rx.str, ry.str, big_line (by rw [← sL_len, ← sL_len]; exact hc), ?_⟩))
    rw [str_app]
    exact q _ G H (.refl m) (.str _)
  · obtain ⟨hc, rfl⟩ := of_ite e
    obtain ⟨a, vs, rfl, h1, r1⟩ := rx.lst m
    obtain ⟨b, us, rfl, h2, r2⟩ := ry.lst m
    refine .inr (.inr (.inr (.inl ⟨_, _, _, _, rfl, rfl, h1, h2, big_line (by rw [r1.length, r2.length]; exact hc), fun p hp => ?_⟩)))
    obtain ⟨n, r⟩ := new_lst m hp (r1.append r2)
    exact q _ _ _ n r
  · obtain ⟨hc, rfl⟩ := of_ite e
    obtain ⟨a, vs, rfl, h1, r1, t1⟩ := rx.tup m
    obtain ⟨b, us, rfl, h2, r2, t2⟩ := ry.tup m
    refine .inr (.inr (.inr (.inr ⟨_, _, _, _, rfl, rfl, .of h1, .of h2, big_line (by rw [r1.length, r2.length]; exact hc), fun z => ?_, fun z w => ?_, fun z w p hp => ?_⟩)))
    · subst z; cases r1; exact q _ G H (.refl m) t2
    · subst w; cases r2
      rw [List.append_nil] at q
      exact q _ G H (.refl m) t1
    · obtain ⟨n, r⟩ := new_tup m hp (r1.append r2)
      exact q _ _ _ n r
  · cases e
def catD (d e : D) : Option D := match d, e with
  | .list xs, .list ys => if xs.length + ys.length ≤ big then some (.list (xs ++ ys)) else none
  | _, _ => none
theorem v_cat {K : PySem.W.Frag} : V2F K rCatL catD := fun G H x y dx dy d Q m rx ry e q => by
  unfold catD at e
  split at e
  · obtain ⟨hc, rfl⟩ := of_ite e
    obtain ⟨a, vs, rfl, h1, r1⟩ := rx.lst m
    obtain ⟨b, us, rfl, h2, r2⟩ := ry.lst m
    refine ⟨_, _, _, _, rfl, rfl, h1, h2, big_line (by rw [r1.length, r2.length]; exact hc), fun p hp => ?_⟩
    obtain ⟨n, a1, a2, a3⟩ := own_lst m hp (r1.append r2)
    exact q _ _ _ n a1 a2 a3
  · cases e

def intD (C : Int → Int → Bool) (g : Int → Int → Int) (d e : D) : Option D := match d, e with
  | .int i, .int j => if C i j = true then some (.int (g i j)) else none
  | _, _ => none
theorem v_int {K : PySem.W.Frag} {C : Int → Int → Prop} {B : Int → Int → Bool} {g : Int → Int → Int} (h : ∀ i j, B i j = true → C i j) : V2 K (rI C fun i j => .int (g i j)) (intD B g) := fun G H x y dx dy d Q m rx ry e q => by
  unfold intD at e
  split at e
  · obtain ⟨hc, rfl⟩ := of_ite e
    exact ⟨_, _, rx.int, ry.int, h _ _ hc, q _ G H (.refl m) (.int _)⟩
  · cases e
def subD (d e : D) : Option D := match d, e with
  | .int i, .int j => some (.int (i - j))
  | _, _ => none
theorem v_sub {K : PySem.W.Frag} : V2 K (rI0 fun i j => .int (i - j)) subD := fun G H x y dx dy d Q m rx ry e q => by
  unfold subD at e
  split at e
  · cases e
    exact ⟨_, _, rx.int, ry.int, q _ G H (.refl m) (.int _)⟩
  · cases e
/-- numbers of at most 8000 bits -/
def smI (i : Int) : Bool := decide (i.natAbs.log2 < 8000)
def fdivD : D → D → Option D := intD (fun i j => decide (0 < j) && smI j) (· / ·)
def modD : D → D → Option D := intD (fun _ j => decide (0 < j)) (· % ·)
def powD : D → D → Option D := intD (fun i j => decide (0 ≤ j) && decide (j ≤ 1000000) && decide (i.natAbs < 2 ^ 64)) fun i j => i ^ j.toNat
theorem v_fdiv {K : PySem.W.Frag} : V2 K (rI CDivW fun i j => .int (i / j)) fdivD := v_int fun i j h => by
  rw [Bool.and_eq_true] at h
  have := of_decide_eq_true h.2
  exact ⟨of_decide_eq_true h.1, by omega⟩
theorem v_mod {K : PySem.W.Frag} : V2 K (rI (fun _ j => 0 < j) fun i j => .int (i % j)) modD := v_int fun i j h => of_decide_eq_true h
theorem v_pow {K : PySem.W.Frag} : V2 K (rI CPow fun i j => .int (i ^ j.toNat)) powD := v_int fun i j h => by
  rw [Bool.and_eq_true, Bool.and_eq_true] at h
  exact ⟨of_decide_eq_true h.1.1, of_decide_eq_true h.1.2, of_decide_eq_true h.2⟩

/-! ### * -/
/-- n times over -/
def times {α : Type} (k : Int) (xs : List α) : List α := (List.replicate k.toNat xs).flatten
def s64 (i : Int) : Bool := decide (-(2 ^ 64) < i) && decide (i < 2 ^ 64)
def mulD (d e : D) : Option D := match d, e with
  | .int i, .int j => if (s64 i || s64 j || (smI i && smI j)) = true then some (.int (i * j)) else none
  | .str a, .int k => if (lowI k && decide ((sL a).length ≤ 1000) && decide (k ≤ 1000)) = true then some (tx (times k (sL a))) else none
  | .list xs, .int k => if (lowI k && decide (xs.length ≤ 1000) && decide (k ≤ 1000)) = true then some (.list (times k xs)) else none
  | _, _ => none
def rRepS : R2 := fun x y H Q => ∃ (a : Str) (k : Int), x = .str a ∧ y = .int k ∧ lowI k = true ∧ (sL a).length ≤ 1000 ∧ k ≤ 1000 ∧ Q (.str ⟨(times k (sL a)).toArray⟩) H
def rRepL : R2 := fun x y H Q => ∃ l k xs, x = .ref l ∧ y = .int k ∧ Rd H l (.lst xs) ∧ -(2 ^ 63) ≤ k ∧ k < 2 ^ 63 ∧ xs.length * k.toNat ≤ sizeLine ∧
  ∀ p, H p = none → Q (.ref p) (upd H p (.lst (List.replicate k.toNat xs).flatten))
section
variable {X : Cx}
theorem op_repL : OpR X (binaryOp .Mult) rRepL := by
  intro pins s σ H x y v u Q I rx ry h
  obtain ⟨l, k, xs, rfl, rfl, hH, h1, h2, hz, q⟩ := h
  cases rx
  obtain ⟨t, rfl⟩ := ry
  obtain ⟨z, its, n, r, hl, e⟩ := rd_lst I hH
  have hlen : its.toArray.size * k.toNat ≤ sizeLine := by rw [List.size_toArray, ← hl]; exact hz
  have hcap : ¬ its.toArray.size * k.toNat > (2 ^ 63 - 1) / 8 := by
    have : (sizeLine : Nat) ≤ (2 ^ 63 - 1) / 8 := by decide
    omega
  have hfit : ¬ (!Builtin.List.listFitsIndex k) = true := by
    rw [fitsIndex_both h1 h2]
    exact Bool.false_ne_true
  have hlong : ¬ Builtin.List.listTooLong (its.toArray.size * k.toNat) = true := by
    rw [notLongL hlen]
    exact Bool.false_ne_true
  have hnew : List.foldl (fun x1 x2 => x1 ++ x2) #[] (List.replicate (if its.toArray.isEmpty = true then 0 else k.toNat) its.toArray) = (List.replicate k.toNat its).flatten.toArray := by
    have f0 : ∀ m : Nat, List.foldl (fun x1 x2 => x1 ++ x2) #[] (List.replicate m its.toArray) = (List.replicate m its).flatten.toArray := fun m => by
      have := foldl_rep its m []
      rw [List.nil_append] at this
      exact this
    rw [f0]
    cases its with
    | nil => simp
    | cons a r' => rw [if_neg (by simp)]
  refine wpAny_binaryOp_repeat_ref (T := "list") (U := "int") (by decide) ⟨_, e, rfl⟩ (fun s' => typeIs_int s' k t) noFill_list_mul F.fills_int_mul F.slot_int_rmul repeat_list F.slot_int_index.lookup
    (call_meets F.slot_int_rmul (typeIs_int s k t) F.entry_int_rmul (F.args_int_rmul_2 _ _) (int___rmul___int_list k t l its.toArray n)
      ⟨e, rfl, ⟨_, e, rfl⟩, call_meets F.slot_list_mul ⟨_, e, rfl⟩ F.entry_list_mul (F.args_list_mul_2 _ _) (AutoListH.list___mul___list_int_3 l its.toArray n k t hfit hcap hlong) ⟨e, ?_⟩⟩)
  rw [hnew]
  exact ⟨.ref _, _, I.lnew (t' := s.toks) (r.rep k.toNat) (by rw [PyProof.Rows.lm_len_rep_flat, Nat.mul_comm]; exact hz), rfl, q _ I.fresh⟩
theorem foldl_repS (a : Array Nat) : ∀ (m : Nat) (acc : Array Nat), (List.replicate m a).foldl (· ++ ·) acc = (acc.toList ++ (List.replicate m a.toList).flatten).toArray
  | 0, acc => by simp
  | m + 1, acc => by
    rw [List.replicate_succ, List.foldl_cons, foldl_repS a m]
    simp [List.replicate_succ]
theorem op_repS : OpR X (binaryOp .Mult) rRepS := by
  intro pins s σ H x y v u Q I rx ry h
  obtain ⟨a, k, rfl, rfl, hk, ha, hk2, q⟩ := h
  obtain ⟨t, rfl⟩ := rx
  obtain ⟨t', rfl⟩ := ry
  obtain ⟨h1, h2⟩ := lowI_spec hk
  have hl : a.length ≤ 1000 := by rw [← sL_len]; exact ha
  have hm : ¬ k < 1 → (a.length : Int) * k ≤ 1000000 := fun h => by
    have : (a.length : Int) * k ≤ 1000 * 1000 := Int.mul_le_mul (by omega) hk2 (by omega) (by omega)
    omega
  have ht : times k (sL a) = (List.replicate k.toNat a.cps.toList).flatten := rfl
  refine PySem.P.mul_str (by rw [decide_eq_false (by omega), decide_eq_false (by omega)]; rfl) (fun h _ => ?_) (fun h _ => ?_) ?_
  · have b : (1000 : Int) ≤ (2 ^ 63 - 1) / k := by
      rw [Int.le_ediv_iff_mul_le (by omega)]
      have : (1000 : Int) * k ≤ 1000 * 1000 := by omega
      omega
    omega
  · have b := hm h
    have e : ((a.length * k.toNat : Nat) : Int) = (a.length : Int) * k := by rw [Int.natCast_mul, Int.toNat_of_nonneg (by omega)]
    have : a.length * k.toNat ≤ 1000000 := by omega
    unfold Builtin.Str.tooLong
    have := sizeLine_eq
    exact decide_eq_false (by omega)
  · by_cases h : k < 1
    · rw [if_pos h]
      have e : k.toNat = 0 := by omega
      rw [ht, e] at q
      exact ⟨by decide, .str _, H, I.tok _, ⟨_, rfl⟩, q⟩
    · rw [if_neg h]
      by_cases hb : (k == 1 || a.length == 0) = true
      · rw [if_pos hb]
        have e : times k (sL a) = a.cps.toList := by
          rw [ht]
          rw [Bool.or_eq_true] at hb
          rcases hb with hb | hb
          · have : k = 1 := eq_of_beq hb
            subst this; simp
          · have : a.cps.toList = [] := by
              have := eq_of_beq hb
              simp only [Str.length] at this
              simpa using this
            rw [this]; simp
        rw [e] at q
        exact ⟨.str a, H, I, ⟨_, rfl⟩, by simpa using q⟩
      · rw [if_neg hb]
        rw [ht] at q
        refine ⟨?_, .str ⟨(List.replicate k.toNat a.cps).foldl (· ++ ·) #[]⟩, H, I.tok _, ⟨_, rfl⟩, ?_⟩
        · show ((List.replicate k.toNat a.cps).foldl (· ++ ·) #[]).size ≤ sizeLine
          rw [foldl_repS]
          have b := hm h
          have e : ((a.length * k.toNat : Nat) : Int) = (a.length : Int) * k := by rw [Int.natCast_mul, Int.toNat_of_nonneg (by omega)]
          have e2 : ((([] : List Nat) ++ (List.replicate k.toNat a.cps.toList).flatten).toArray).size = k.toNat * a.length := by
            rw [List.size_toArray, List.nil_append, PyProof.Rows.lm_len_rep_flat]; simp [Str.length]
          have := sizeLine_eq
          rw [show (#[] : Array Nat).toList = [] from rfl, e2, Nat.mul_comm]
          omega
        · rw [foldl_repS]; simpa using q
end
def rMulP : R2 := fun x y H Q => ((rI CMul fun i j => .int (i * j)) x y H Q ∨ (rI CMulW fun i j => .int (i * j)) x y H Q) ∨ rRepS x y H Q ∨ rRepL x y H Q
theorem op_mulP {X : Cx} : OpR X (binaryOp .Mult) rMulP := OpR.or (OpR.or op_mul op_mulW) (OpR.or op_repS op_repL)
theorem RpA.times {K : PySem.W.Frag} {G : Hp} {vs : List V} {ds : List D} (r : RpA K G vs ds) : ∀ n : Nat, RpA K G (List.replicate n vs).flatten (List.replicate n ds).flatten
  | 0 => .nil
  | n + 1 => by rw [List.replicate_succ, List.replicate_succ, List.flatten_cons, List.flatten_cons]; exact r.append (r.times n)
theorem rep_size {n : Nat} {k : Int} (h1 : n ≤ 1000) (h2 : k ≤ 1000) : n * k.toNat ≤ sizeLine := by
  have : n * k.toNat ≤ 1000 * 1000 := Nat.mul_le_mul h1 (by omega)
  have := sizeLine_eq
  omega
theorem v_mul {K : PySem.W.Frag} : V2 K rMulP mulD := fun G H x y dx dy d Q m rx ry e q => by
  unfold mulD at e
  split at e
  · obtain ⟨hc, rfl⟩ := of_ite e
    rw [Bool.or_eq_true, Bool.or_eq_true] at hc
    have sm : ∀ {i : Int}, s64 i = true → -(2 ^ 64) < i ∧ i < 2 ^ 64 := fun {i} h => by
      unfold s64 at h
      rw [Bool.and_eq_true] at h
      exact ⟨of_decide_eq_true h.1, of_decide_eq_true h.2⟩
    rcases hc with (hc | hc) | hc
    · exact .inl (.inl ⟨_, _, rx.int, ry.int, .inl (sm hc), q _ G H (.refl m) (.int _)⟩)
    · exact .inl (.inl ⟨_, _, rx.int, ry.int, .inr (sm hc), q _ G H (.refl m) (.int _)⟩)
    · rw [Bool.and_eq_true] at hc
      have h1 := of_decide_eq_true hc.1
      have h2 := of_decide_eq_true hc.2
      exact .inl (.inr ⟨_, _, rx.int, ry.int, by unfold CMulW; omega, q _ G H (.refl m) (.int _)⟩)
  · obtain ⟨hc, rfl⟩ := of_ite e
    rw [Bool.and_eq_true, Bool.and_eq_true] at hc
    exact .inr (.inl ⟨_, _, rx.str, ry.int, hc.1.1, of_decide_eq_true hc.1.2, of_decide_eq_true hc.2, q _ G H (.refl m) (.str _)⟩)
  · obtain ⟨hc, rfl⟩ := of_ite e
    rw [Bool.and_eq_true, Bool.and_eq_true] at hc
    obtain ⟨a, vs, rfl, h1, r1⟩ := rx.lst m
    have h2 := of_decide_eq_true hc.1.2
    obtain ⟨l1, l2⟩ := lowI_spec hc.1.1
    refine .inr (.inr ⟨_, _, _, rfl, ry.int, h1, l1, l2, rep_size (by rw [r1.length]; exact h2) (of_decide_eq_true hc.2), fun p hp => ?_⟩)
    obtain ⟨n, r⟩ := new_lst m hp (r1.times _)
    exact q _ _ _ n r
  · cases e
def repD (d e : D) : Option D := match d, e with
  | .list xs, .int k => if (lowI k && decide (xs.length ≤ 1000) && decide (k ≤ 1000)) = true then some (.list (times k xs)) else none
  | _, _ => none
theorem v_repL {K : PySem.W.Frag} : V2F K rRepL repD := fun G H x y dx dy d Q m rx ry e q => by
  unfold repD at e
  split at e
  · obtain ⟨hc, rfl⟩ := of_ite e
    rw [Bool.and_eq_true, Bool.and_eq_true] at hc
    obtain ⟨a, vs, rfl, h1, r1⟩ := rx.lst m
    have h2 := of_decide_eq_true hc.1.2
    obtain ⟨l1, l2⟩ := lowI_spec hc.1.1
    refine ⟨_, _, _, rfl, ry.int, h1, l1, l2, rep_size (by rw [r1.length]; exact h2) (of_decide_eq_true hc.2), fun p hp => ?_⟩
    obtain ⟨n, a1, a2, a3⟩ := own_lst m hp (r1.times _)
    exact q _ _ _ n a1 a2 a3
  · cases e

/-! ### x[i] -/
def ixD (d e : D) : Option D := match d, e with
  | .list xs, .int i => atI xs i
  | .tuple xs, .int i => atI xs i
  | .str a, .int i => if (sL a).length ≤ big then (atI (sL a) i).map fun c => tx [c] else none
  | _, _ => none
theorem RpA.atI {K : PySem.W.Frag} {G : Hp} {vs : List V} {ds : List D} {i : Int} {d : D} (r : RpA K G vs ds) (h : L2.atI ds i = some d) : ∃ v, L2.atI vs i = some v ∧ Rp K G v d := by
  unfold L2.atI at h ⊢
  rw [r.length]
  obtain ⟨j, hj, h⟩ := bind_some h
  obtain ⟨v, hv, q⟩ := r.getD h
  exact ⟨v, by rw [hj]; exact hv, q⟩
theorem v_ix {K : PySem.W.Frag} : V2 K (rIx K) ixD := fun G H x y dx dy d Q m rx ry e q => by
  unfold ixD at e
  split at e
  · obtain ⟨a, vs, rfl, h1, r1⟩ := rx.lst m
    obtain ⟨v, hv, r⟩ := r1.atI e
    exact .inl ⟨_, _, _, _, rfl, ry.int, .inl h1, hv, q _ G H (.refl m) r⟩
  · obtain ⟨a, vs, rfl, h1, r1, _⟩ := rx.tup m
    obtain ⟨v, hv, r⟩ := r1.atI e
    exact .inr (.inl ⟨_, _, _, _, rfl, ry.int, .of h1, hv, q _ G H (.refl m) r⟩)
  · by_cases hc : (sL ‹Str›).length ≤ big
    · rw [if_pos hc] at e
      rename_i a i
      cases hat : atI (sL a) i with
      | none => rw [hat] at e; cases e
      | some c =>
        rw [hat] at e; cases e
        exact .inr (.inr ⟨_, _, _, rx.str, ry.int, big_line (by rw [← sL_len]; exact hc), hat, q _ G H (.refl m) (.str _)⟩)
    · rw [if_neg hc] at e; cases e
  · cases e

/-! ### x[a:b] -/
def cutL {α : Type} (xs : List α) (lo hi : Option Int) : List α := (xs.drop (HT.sIx xs.length 0 lo)).take (HT.sIx xs.length xs.length hi - HT.sIx xs.length 0 lo)
def slD (d : D) (lo hi : Option Int) : Option D := match d with
  | .list xs => some (.list (cutL xs lo hi))
  | .tuple xs => some (.tuple (cutL xs lo hi))
  | .str a => if (sL a).length ≤ big then some (tx (cutL (sL a) lo hi)) else none
  | _ => none
def slLD (d : D) (lo hi : Option Int) : Option D := match d with
  | .list xs => some (.list (cutL xs lo hi))
  | _ => none
def ptE (o : Option WE) (ε : En) : Option (Option Int × En) := match o with
  | none => some (none, ε)
  | some f => (f ε).bind fun p => match p.1 with
    | .int i => some (some i, p.2)
    | _ => none
def sliE (g : D → Option Int → Option Int → Option D) (a : Opd) (lo hi : Option WE) : WE := fun ε =>
  (a.ev ε).bind fun p => (ptE lo p.2).bind fun q => (ptE hi q.2).bind fun r => (a.fin p.1 r.2).bind fun x => (g x q.1 r.1).bind fun d => some (d, r.2)
def rSlP (K : PySem.W.Frag) : V → Option Int → Option Int → Hp → VK → Prop := fun x lo hi H Q => rSlL K x lo hi H Q ∨ rSlA K x lo hi H Q ∨ rSlS x lo hi H Q
theorem sl_P {X : Cx} : SlR X (rSlP X.K) := SlR.or sl_list (SlR.or sl_tupA sl_str)
section
variable (K : PySem.W.Frag)
def VS (r : V → Option Int → Option Int → Hp → VK → Prop) (g : D → Option Int → Option Int → Option D) : Prop := ∀ (G H : Hp) (x : V) (lo hi : Option Int) (dx d : D) (Q : VK), Mo G H → Rb K G H x dx → g dx lo hi = some d → (∀ v G' H', New G H G' H' → Rp K G' v d → Q v H') → r x lo hi H Q
def VSF (r : V → Option Int → Option Int → Hp → VK → Prop) (g : D → Option Int → Option Int → Option D) : Prop := ∀ (G H : Hp) (x : V) (lo hi : Option Int) (dx d : D) (Q : VK), Mo G H → Rb K G H x dx → g dx lo hi = some d → (∀ p G' H', New G H G' H' → H p = none → G' p = none → (∃ u, H' p = some u ∧ Cont K G' u d) → Q (.ref p) H') → r x lo hi H Q
def RPt (t : TO) (o : Option WE) : Prop := ∀ (Fr : Hp) (la : Addr) (σ : L2.St) (ε : En) (G H : Hp) (x : Option Int) (ε' : En) (Q : Option Int → Hp → Prop), Stt K Fr la σ ε G H → ptE o ε = some (x, ε') → (∀ G' H', Mo G G' → Stt K Fr la σ ε' G' H' → Q x H') → t σ H Q
end
section
variable {K : PySem.W.Frag}
theorem pt_no : RPt K tNoPart none := fun Fr la σ ε G H x ε' Q s e q => by
  cases e
  exact q G H (.refl G) s
theorem pt_so {t : TE} {f : WE} (h : RE K t f) : RPt K (tPart t) (some f) := fun Fr la σ ε G H x ε' Q s e q => by
  obtain ⟨⟨d, ε1⟩, e1, e⟩ := bind_some e
  refine h Fr la σ ε G H d ε1 _ s e1 fun v G1 H1 m1 s1 r1 => ?_
  cases d with
  | int i => cases e; cases r1; exact ⟨i, rfl, q G1 H1 m1 s1⟩
  | _ => cases e
theorem re_sl {r : V → Option Int → Option Int → Hp → VK → Prop} {g : D → Option Int → Option Int → Option D} {te : TE} {tl th : TO} {a : Opd} {lo hi : Option WE} (ha : RO K te a) (hl : RPt K tl lo) (hh : RPt K th hi) (hr : VS K r g) : RE K (tSl r te tl th) (sliE g a lo hi) := fun Fr la σ ε G H d ε' Q s e q => by
  obtain ⟨p, e1, e⟩ := bind_some e
  obtain ⟨p2, e2, e⟩ := bind_some e
  obtain ⟨p3, e3, e⟩ := bind_some e
  obtain ⟨x, e4, e⟩ := bind_some e
  obtain ⟨z, e5, e⟩ := bind_some e
  cases e
  refine ha Fr la σ ε G H p.1 p.2 _ s e1 fun v G1 H1 m1 s1 r1 => ?_
  refine hl Fr la σ p.2 G1 H1 p2.1 p2.2 _ s1 e2 fun G2 H2 m2 s2 => ?_
  refine hh Fr la σ p2.2 G2 H2 p3.1 p3.2 _ s2 e3 fun G3 H3 m3 s3 => ?_
  exact hr G3 H3 v p2.1 p3.1 x d Q s3.gh (((r1.mo m2).mo m3).fin s3 e4) e5 fun w G' H' n rw => q w G' H' (((m1.trans m2).trans m3).trans n.mo) (s3.new n) rw
theorem rf_sl {r : V → Option Int → Option Int → Hp → VK → Prop} {g : D → Option Int → Option Int → Option D} {te : TE} {tl th : TO} {a : Opd} {lo hi : Option WE} (ha : RO K te a) (hl : RPt K tl lo) (hh : RPt K th hi) (hr : VSF K r g) : RF K (tSl r te tl th) (sliE g a lo hi) := fun Fr la σ ε G H d ε' Q s e q => by
  obtain ⟨p, e1, e⟩ := bind_some e
  obtain ⟨p2, e2, e⟩ := bind_some e
  obtain ⟨p3, e3, e⟩ := bind_some e
  obtain ⟨x, e4, e⟩ := bind_some e
  obtain ⟨z, e5, e⟩ := bind_some e
  cases e
  refine ha Fr la σ ε G H p.1 p.2 _ s e1 fun v G1 H1 m1 s1 r1 => ?_
  refine hl Fr la σ p.2 G1 H1 p2.1 p2.2 _ s1 e2 fun G2 H2 m2 s2 => ?_
  refine hh Fr la σ p2.2 G2 H2 p3.1 p3.2 _ s2 e3 fun G3 H3 m3 s3 => ?_
  exact hr G3 H3 v p2.1 p3.1 x d Q s3.gh (((r1.mo m2).mo m3).fin s3 e4) e5 fun p G' H' n hp hg c => q p G' H' (((m1.trans m2).trans m3).trans n.mo) (s3.new n) (.of_new s3 n hp hg c)
theorem RpA.cut {G : Hp} {vs : List V} {ds : List D} (r : RpA K G vs ds) (lo hi : Option Int) : RpA K G (cutV vs lo hi) (cutL ds lo hi) := by
  unfold cutV cutL
  rw [r.length]
  exact (r.drop _).take _
theorem cut_whole {α : Type} {xs : List α} {lo hi : Option Int} (h : HT.sIx xs.length 0 lo = 0 ∧ HT.sIx xs.length xs.length hi = xs.length) : cutL xs lo hi = xs := by
  unfold cutL
  rw [h.1, h.2, List.drop_zero, Nat.sub_zero, List.take_length]
theorem v_sl : VS K (rSlP K) slD := fun G H x lo hi dx d Q m rx e q => by
  unfold slD at e
  split at e
  · cases e
    obtain ⟨a, vs, rfl, h1, r1⟩ := rx.lst m
    refine .inl ⟨_, _, rfl, .inl h1, fun p hp => ?_⟩
    obtain ⟨n, r⟩ := new_lst m hp (r1.cut lo hi)
    exact q _ _ _ n r
  · cases e
    obtain ⟨a, vs, rfl, h1, r1, t1⟩ := rx.tup m
    refine .inr (.inl ⟨_, _, rfl, .of h1, fun hw => ?_, fun _ p hp => ?_⟩)
    · rw [r1.length] at hw
      rw [cut_whole hw] at q
      exact q _ G H (.refl m) t1
    · obtain ⟨n, r⟩ := new_tup m hp (r1.cut lo hi)
      exact q _ _ _ n r
  · obtain ⟨hc, rfl⟩ := of_ite e
    rename_i a
    refine .inr (.inr ⟨_, rx.str, big_line (by rw [← sL_len]; exact hc), ?_⟩)
    have e : cutS a lo hi = ⟨(cutL (sL a) lo hi).toArray⟩ := by
      unfold cutS cutL
      rw [sL_len]; rfl
    rw [e]
    exact q _ G H (.refl m) (.str _)
  · cases e
theorem v_slL : VSF K (rSlL K) slLD := fun G H x lo hi dx d Q m rx e q => by
  unfold slLD at e
  split at e
  · cases e
    obtain ⟨a, vs, rfl, h1, r1⟩ := rx.lst m
    refine ⟨_, _, rfl, .inl h1, fun p hp => ?_⟩
    obtain ⟨n, a1, a2, a3⟩ := own_lst m hp (r1.cut lo hi)
    exact q _ _ _ n a1 a2 a3
  · cases e
end
end PL

-- PLop3
/-! PL, operations: isinstance, len, abs, int, min, max, all, any, sum, sorted, list, tuple, repr. -/
namespace PL
open PySem PySem.Spec PyProof.Rows L2

/-! ### isinstance -/
def isiD (n : String) (d : D) : Option D := match d with
  | .none => if n = "str" ∨ n = "int" ∨ n = "bool" then some (.bool false) else none
  | .str _ => if n = "str" then some (.bool true) else if n = "int" ∨ n = "bool" then some (.bool false) else none
  | .int _ => if n = "int" then some (.bool true) else if n = "str" ∨ n = "bool" then some (.bool false) else none
  | .bool _ => if n = "int" ∨ n = "bool" then some (.bool true) else if n = "str" then some (.bool false) else none
  | _ => none
section
variable {K : PySem.W.Frag}
theorem isi_kit {G H : Hp} {n : String} {d r : D} {v : V} (rv : Rb K G H v d) (e : isiD n d = some r) : ∃ t b, TyX K H v t ∧ PySem.W.kitOne K t (.type n) = some b ∧ r = .bool b := by
  cases d with
  | none =>
    obtain rfl := rv.none
    obtain ⟨h, rfl⟩ := of_ite e
    refine ⟨_, _, .base .non, kit_ty ?_, rfl⟩
    rcases h with rfl | rfl | rfl <;> decide +kernel
  | str x =>
    obtain rfl := rv.str
    have e : (if n = "str" then some (PyData.bool true) else if n = "int" ∨ n = "bool" then some (PyData.bool false) else none) = some r := e
    by_cases h : n = "str"
    · rw [if_pos h] at e; subst h; cases e; exact ⟨_, _, .base (.str x), kit_ty (by decide +kernel), rfl⟩
    · rw [if_neg h] at e
      obtain ⟨h, rfl⟩ := of_ite e
      refine ⟨_, _, .base (.str x), kit_ty ?_, rfl⟩
      rcases h with rfl | rfl <;> decide +kernel
  | int x =>
    obtain rfl := rv.int
    have e : (if n = "int" then some (PyData.bool true) else if n = "str" ∨ n = "bool" then some (PyData.bool false) else none) = some r := e
    by_cases h : n = "int"
    · rw [if_pos h] at e; subst h; cases e; exact ⟨_, _, .base (.int x), kit_ty (by decide +kernel), rfl⟩
    · rw [if_neg h] at e
      obtain ⟨h, rfl⟩ := of_ite e
      refine ⟨_, _, .base (.int x), kit_ty ?_, rfl⟩
      rcases h with rfl | rfl <;> decide +kernel
  | bool x =>
    obtain rfl := rv.bool
    have e : (if n = "int" ∨ n = "bool" then some (PyData.bool true) else if n = "str" then some (PyData.bool false) else none) = some r := e
    by_cases h : n = "int" ∨ n = "bool"
    · rw [if_pos h] at e; cases e; refine ⟨_, _, .base (.bl x), kit_ty ?_, rfl⟩; rcases h with rfl | rfl <;> decide +kernel
    · rw [if_neg h] at e
      obtain ⟨h, rfl⟩ := of_ite e
      subst h
      exact ⟨_, _, .base (.bl x), kit_ty (by decide +kernel), rfl⟩
  | _ => cases e
theorem re_isi {te : TE} {a : Opd} {n : String} (ha : RO K te a) : RE K (tCB (rIsi K) (tCons te (tCons (tC (.ty n)) tNil))) (op1 (isiD n) a) := fun Fr la σ ε G H d ε' Q s e q => by
  obtain ⟨p, e1, e⟩ := bind_some e
  obtain ⟨x, e3, e⟩ := bind_some e
  obtain ⟨z, e5, e⟩ := bind_some e
  cases e
  refine ha Fr la σ ε G H p.1 p.2 _ s e1 fun v G1 H1 m1 s1 r1 => ?_
  obtain ⟨t, b, ty, k, rfl⟩ := isi_kit (r1.fin s1 e3) e5
  exact ⟨v, .ty n, t, .type n, b, rfl, .ty n, ty, k, q _ G1 H1 m1 s1 (.bl b)⟩
end

/-! ### len, abs, int, .. -/
def lenD : List D → Option D
  | [.list xs] => some (.int xs.length)
  | [.tuple xs] => some (.int xs.length)
  | [.str a] => if (sL a).length ≤ big then some (.int (sL a).length) else none
  | _ => none
def absD : List D → Option D
  | [.int i] => some (.int (if i < 0 then -i else i))
  | _ => none
def intFD : List D → Option D
  | [.int i] => some (.int i)
  | [.bool k] => some (.int (if k then 1 else 0))
  | _ => none
section
variable {K : PySem.W.Frag}
theorem RbA.one {G H : Hp} {vs : List V} {d : D} (h : RbA K G H vs [d]) : ∃ v, vs = [v] ∧ Rb K G H v d := by
  cases h with | cons a b => cases b; exact ⟨_, rfl, a⟩
theorem RbA.two {G H : Hp} {vs : List V} {d e : D} (h : RbA K G H vs [d, e]) : ∃ v u, vs = [v, u] ∧ Rb K G H v d ∧ Rb K G H u e := by
  cases h with | cons a b => cases b with | cons b c => cases c; exact ⟨_, _, rfl, a, b⟩
theorem RbA.three {G H : Hp} {vs : List V} {d e f : D} (h : RbA K G H vs [d, e, f]) : ∃ v u w, vs = [v, u, w] ∧ Rb K G H v d ∧ Rb K G H u e ∧ Rb K G H w f := by
  cases h with | cons a b => cases b with | cons b c => cases c with | cons c z => cases z; exact ⟨_, _, _, rfl, a, b, c⟩
theorem v_len : VN K (fun xs H Q => ∃ x n, xs = [x] ∧ LenV K x H n ∧ Q (.int n) H) lenD := fun G H xs ds d Q m r e q => by
  unfold lenD at e
  split at e
  · cases e
    obtain ⟨v, rfl, r0⟩ := r.one
    obtain ⟨a, vs, rfl, h1, r1⟩ := r0.lst m
    exact ⟨_, _, rfl, .inl ⟨vs, .inl h1, rfl⟩, by rw [r1.length]; exact q _ G H (.refl m) (.int _)⟩
  · cases e
    obtain ⟨v, rfl, r0⟩ := r.one
    obtain ⟨a, vs, rfl, h1, r1, _⟩ := r0.tup m
    exact ⟨_, _, rfl, .inr ⟨vs, .of h1, rfl⟩, by rw [r1.length]; exact q _ G H (.refl m) (.int _)⟩
  · obtain ⟨hc, rfl⟩ := of_ite e
    obtain ⟨v, rfl, r0⟩ := r.one
    obtain rfl := r0.str
    rename_i a
    exact ⟨_, a.length, rfl, ⟨big_line (by rw [← sL_len]; exact hc), rfl⟩, by rw [← sL_len]; exact q _ G H (.refl m) (.int _)⟩
  · cases e
theorem v_abs : VN K (fun xs H Q => ∃ i, xs = [.int i] ∧ Q (.int (if i < 0 then -i else i)) H) absD := fun G H xs ds d Q m r e q => by
  unfold absD at e
  split at e
  · cases e
    obtain ⟨v, rfl, r0⟩ := r.one
    obtain rfl := r0.int
    exact ⟨_, rfl, q _ G H (.refl m) (.int _)⟩
  · cases e
theorem v_intF : VN K (fun xs H Q => (∃ i, xs = [.int i] ∧ Q (.int i) H) ∨ ∃ k, xs = [.bl k] ∧ Q (.int (if k then 1 else 0)) H) intFD := fun G H xs ds d Q m r e q => by
  unfold intFD at e
  split at e
  · cases e
    obtain ⟨v, rfl, r0⟩ := r.one
    obtain rfl := r0.int
    exact .inl ⟨_, rfl, q _ G H (.refl m) (.int _)⟩
  · cases e
    obtain ⟨v, rfl, r0⟩ := r.one
    obtain rfl := r0.bool
    exact .inr ⟨_, rfl, q _ G H (.refl m) (.int _)⟩
  · cases e
end

/-! ### min, max -/
def alkAll (ds : List D) : Bool := ds.all fun x => ok9 x && !isNoneD x && ds.all fun y => PySem.W.alike x y
theorem alkAll_spec {ds : List D} (h : alkAll ds = true) : PySem.W.AlikeAll ds ∧ PyData.plainAll ds = true ∧ PyData.depthAll ds ≤ 9 := by
  unfold alkAll at h
  rw [List.all_eq_true] at h
  have h' : ∀ x ∈ ds, (okD 9 x = true ∧ x ≠ .none) ∧ ∀ y ∈ ds, PySem.W.alike x y = true := fun x hx => by
    have := h x hx
    rw [Bool.and_eq_true, Bool.and_eq_true, List.all_eq_true] at this
    exact ⟨⟨this.1.1, isNoneD_ne (by simpa using this.1.2)⟩, this.2⟩
  exact ⟨⟨fun x hx y hy => (h' x hx).2 y hy, fun x hx => (h' x hx).1.2⟩, plainAll_of fun x hx => (okD_spec 9 x (h' x hx).1.1).1, depthAll_of fun x hx => (okD_spec 9 x (h' x hx).1.1).2⟩
def bestOf (mx : Bool) : List D → Option D
  | [] => none
  | d :: ds => if alkAll (d :: ds) = true then some (bif mx then PySem.W.maxD d ds else PySem.W.minD d ds) else none
def bestD (mx : Bool) : List D → Option D
  | [.list ds] => bestOf mx ds
  | [.tuple ds] => bestOf mx ds
  | [.int i, .int j] => some (.int (bif mx then (if j > i then j else i) else (if j < i then j else i)))
  | [.int i, .int j, .int k] => some (.int (bif mx then (let a := if i < j then j else i; if a < k then k else a) else (let a := if j < i then j else i; if k < a then k else a)))
  | _ => none
def rBest (K : PySem.W.Frag) (mx : Bool) : List V → Hp → VK → Prop := fun vs H Q => ∃ a xs d ds, vs = [.ref a] ∧ (SqL K H a xs ∨ SqT K H a xs) ∧ DpAll K H xs (d :: ds) ∧ alkAll (d :: ds) = true ∧
  ∀ (i : Nat) (v : V), xs[i]? = some v → (d :: ds)[i]? = some (bif mx then PySem.W.maxD d ds else PySem.W.minD d ds) → Q v H
section
variable {X : Cx}
theorem best_end {pins : List (Addr × Obj)} {s : Shared} {σ : L2.St} {H : Hp} {Q : VK} {xs : List V} {its : List Value} {d r : D} {ds : List D} {as : List Addr} (I : Inv X pins σ H s) (rv : Vals xs its) (hr : ReadsAll s.heap its (d :: ds) as) (hp : PyData.plainAll (d :: ds) = true) {i : Nat} {v : Value} {h' : Heap} {tk : Nat} {bs : List Addr}
    (hv : its.toArray[i]? = some v) (hrd : Reads h' v r bs) (hk : ∀ b o, s.heap.get? b = some o → h'.get? b = some o) (q : ∀ (i : Nat) (v : V), xs[i]? = some v → (d :: ds)[i]? = some r → Q v H) : EP X pins σ Q v { s with heap := h', toks := tk } := by
  have hv' : its[i]? = some v := by simpa using hv
  obtain ⟨cs, r1, hl, hm, _⟩ := PySem.W.readsAll_at hr i v hv'
  have hx : ∃ x, xs[i]? = some x := ⟨_, List.getElem?_eq_getElem (by rw [rv.length]; exact (List.getElem?_eq_some_iff.mp hv').1)⟩
  obtain ⟨x, hx⟩ := hx
  obtain ⟨w, hw, rw'⟩ := rv.get hx
  rw [hv'] at hw; cases hw
  refine ⟨x, H, I.kept hk, rw', q i x hx ?_⟩
  have r2 : Reads h' v ((d :: ds).getD i .none) cs := PyProof.Rows.Reads.keeps hk r1
  have hpl : ((d :: ds).getD i .none).plain = true := by
    obtain ⟨j, hj⟩ := List.mem_iff_getElem.mp hm
    have key : ∀ {l : List D}, PyData.plainAll l = true → ∀ x ∈ l, x.plain = true := fun {l} => by
      induction l with
      | nil => intro _ x hx; cases hx
      | cons y l ih =>
        intro h x hx
        simp only [PyData.plainAll, Bool.and_eq_true] at h
        rcases List.mem_cons.mp hx with rfl | hx
        · exact h.1
        · exact ih h.2 x hx
    exact key hp _ hm
  have e := SeqAt.plain_unique _ _ _ _ _ hpl r2 hrd
  rw [List.getElem?_eq_getElem hl]
  rw [List.getD_eq_getElem?_getD, List.getElem?_eq_getElem hl] at e
  rw [← e]; rfl
theorem cr_bestMin (hc : X.calm = true) (hu : X.A.units + 64 < cLine) : CallR X (.builtin "min") (rBest X.K false) := by
  intro pins s σ H vs us Q I r h
  obtain ⟨a, xs, d, ds, rfl, hs, hd, hal, q⟩ := h
  obtain ⟨u, rfl, rx⟩ := vals1 r
  cases rx
  obtain ⟨al, hp, hdp⟩ := alkAll_spec hal
  rcases hs with hs | hs
  · obtain ⟨its, rv, hl, _⟩ := I.list hs
    obtain ⟨as, hr⟩ := Dp.readsAll I _ _ _ hd rv
    exact PySem.W.min_list_data (I.ok.hd hc) hl.isList hr al (by omega) fun i v h' tk bs hv hrd hk => best_end I rv hr hp hv hrd hk q
  · obtain ⟨its, rv, hl, _⟩ := I.tuple hs
    obtain ⟨as, hr⟩ := Dp.readsAll I _ _ _ hd rv
    exact PySem.W.min_tuple_data (I.ok.hd hc) hl hr al (by omega) fun i v h' tk bs hv hrd hk => best_end I rv hr hp hv hrd hk q
theorem cr_bestMax (hc : X.calm = true) (hu : X.A.units + 64 < cLine) : CallR X (.builtin "max") (rBest X.K true) := by
  intro pins s σ H vs us Q I r h
  obtain ⟨a, xs, d, ds, rfl, hs, hd, hal, q⟩ := h
  obtain ⟨u, rfl, rx⟩ := vals1 r
  cases rx
  obtain ⟨al, hp, hdp⟩ := alkAll_spec hal
  rcases hs with hs | hs
  · obtain ⟨its, rv, hl, _⟩ := I.list hs
    obtain ⟨as, hr⟩ := Dp.readsAll I _ _ _ hd rv
    exact PySem.W.max_list_data (I.ok.hd hc) hl.isList hr al (by omega) fun i v h' tk bs hv hrd hk => best_end I rv hr hp hv hrd hk q
  · obtain ⟨its, rv, hl, _⟩ := I.tuple hs
    obtain ⟨as, hr⟩ := Dp.readsAll I _ _ _ hd rv
    exact PySem.W.max_tuple_data (I.ok.hd hc) hl hr al (by omega) fun i v h' tk bs hv hrd hk => best_end I rv hr hp hv hrd hk q
end
theorem nuMin2_int (i j : Int) : nuMin2 (.int i) (.int j) = some (.int (if j < i then j else i)) := by
  show (some (decide (j < i))).map (fun c => if c = true then V.int j else V.int i) = _
  by_cases h : j < i
  · rw [if_pos h, decide_eq_true h]; rfl
  · rw [if_neg h, decide_eq_false h]; rfl
theorem nuMax2_int (i j : Int) : nuMax2 (.int i) (.int j) = some (.int (if i < j then j else i)) := by
  show (some (decide (i < j))).map (fun c => if c = true then V.int j else V.int i) = _
  by_cases h : i < j
  · rw [if_pos h, decide_eq_true h]; rfl
  · rw [if_neg h, decide_eq_false h]; rfl
theorem nuMin3_int (i j k : Int) : nuMin3 (.int i) (.int j) (.int k) = some (.int (let a := if j < i then j else i; if k < a then k else a)) := by
  unfold nuMin3
  rw [nuMin2_int]
  show nuMin2 _ _ = _
  rw [nuMin2_int]
theorem nuMax3_int (i j k : Int) : nuMax3 (.int i) (.int j) (.int k) = some (.int (let a := if i < j then j else i; if a < k then k else a)) := by
  unfold nuMax3
  rw [nuMax2_int]
  show nuMax2 _ _ = _
  rw [nuMax2_int]
def rMin2 : List V → Hp → VK → Prop := fun xs H Q => ∃ i j, xs = [.int i, .int j] ∧ Q (.int (if j < i then j else i)) H
def rMax2 : List V → Hp → VK → Prop := fun xs H Q => ∃ i j, xs = [.int i, .int j] ∧ Q (.int (if j > i then j else i)) H
def rMinP (K : PySem.W.Frag) : List V → Hp → VK → Prop := fun xs H Q => rBest K false xs H Q ∨ rMin2 xs H Q ∨ rNuC3 nuMin3 xs H Q
def rMaxP (K : PySem.W.Frag) : List V → Hp → VK → Prop := fun xs H Q => rBest K true xs H Q ∨ rMax2 xs H Q ∨ rNuC3 nuMax3 xs H Q
theorem cr_minP {X : Cx} (hc : X.calm = true) (hu : X.A.units + 64 < cLine) : CallR X (.builtin "min") (rMinP X.K) := CallR.or (cr_bestMin hc hu) (CallR.or (call_min2 hc) (call_min3Nu hc))
theorem cr_maxP {X : Cx} (hc : X.calm = true) (hu : X.A.units + 64 < cLine) : CallR X (.builtin "max") (rMaxP X.K) := CallR.or (cr_bestMax hc hu) (CallR.or (call_max2 hc) (call_max3Nu hc))
section
variable {K : PySem.W.Frag}
theorem v_best {mx : Bool} {G H : Hp} {v : V} {ds : List D} {r : D} {Q : VK} (m : Mo G H) (hs : ∃ a vs, v = .ref a ∧ (SqL K H a vs ∨ SqT K H a vs) ∧ RpA K G vs ds) (e : bestOf mx ds = some r) (q : ∀ v G' H', New G H G' H' → Rp K G' v r → Q v H') : rBest K mx [v] H Q := by
  cases ds with
  | nil => cases e
  | cons d ds =>
    obtain ⟨hc, rfl⟩ := of_ite e
    obtain ⟨a, vs, rfl, h1, r1⟩ := hs
    obtain ⟨al, hp, hdp⟩ := alkAll_spec hc
    refine ⟨a, vs, d, ds, rfl, h1, r1.dp m hp, hc, fun i v hv hd => ?_⟩
    obtain ⟨e', he, rr⟩ := r1.get hv
    rw [hd] at he; cases he
    exact q v G H (.refl m) rr
theorem v_min : VN K (rMinP K) (bestD false) := fun G H xs ds d Q m r e q => by
  unfold bestD at e
  split at e
  · obtain ⟨v, rfl, r0⟩ := r.one
    obtain ⟨a, vs, rfl, h1, r1⟩ := r0.lst m
    exact .inl (v_best m ⟨_, _, rfl, .inl (.inl h1), r1⟩ e q)
  · obtain ⟨v, rfl, r0⟩ := r.one
    obtain ⟨a, vs, rfl, h1, r1, _⟩ := r0.tup m
    exact .inl (v_best m ⟨_, _, rfl, .inr (.of h1), r1⟩ e q)
  · cases e
    obtain ⟨v, u, rfl, r1, r2⟩ := r.two
    obtain rfl := r1.int
    obtain rfl := r2.int
    exact .inr (.inl ⟨_, _, rfl, q _ G H (.refl m) (.int _)⟩)
  · cases e
    obtain ⟨v, u, w, rfl, r1, r2, r3⟩ := r.three
    obtain rfl := r1.int
    obtain rfl := r2.int
    obtain rfl := r3.int
    rename_i i j k
    exact .inr (.inr ⟨_, _, _, _, rfl, nuMin3_int i j k, q _ G H (.refl m) (.int _)⟩)
  · cases e
theorem v_max : VN K (rMaxP K) (bestD true) := fun G H xs ds d Q m r e q => by
  unfold bestD at e
  split at e
  · obtain ⟨v, rfl, r0⟩ := r.one
    obtain ⟨a, vs, rfl, h1, r1⟩ := r0.lst m
    exact .inl (v_best m ⟨_, _, rfl, .inl (.inl h1), r1⟩ e q)
  · obtain ⟨v, rfl, r0⟩ := r.one
    obtain ⟨a, vs, rfl, h1, r1, _⟩ := r0.tup m
    exact .inl (v_best m ⟨_, _, rfl, .inr (.of h1), r1⟩ e q)
  · cases e
    obtain ⟨v, u, rfl, r1, r2⟩ := r.two
    obtain rfl := r1.int
    obtain rfl := r2.int
    exact .inr (.inl ⟨_, _, rfl, q _ G H (.refl m) (.int _)⟩)
  · cases e
    obtain ⟨v, u, w, rfl, r1, r2, r3⟩ := r.three
    obtain rfl := r1.int
    obtain rfl := r2.int
    obtain rfl := r3.int
    rename_i i j k
    exact .inr (.inr ⟨_, _, _, _, rfl, nuMax3_int i j k, q _ G H (.refl m) (.int _)⟩)
  · cases e
end

/-! ### all, any, sum -/
def boolsOf : List D → Option (List Bool)
  | [] => some []
  | .bool b :: ds => (boolsOf ds).map (b :: ·)
  | _ => none
def intsOf : List D → Option (List Int)
  | [] => some []
  | .int b :: ds => (intsOf ds).map (b :: ·)
  | _ => none
section
variable {K : PySem.W.Frag}
theorem boolsOf_vs {G : Hp} : ∀ {vs : List V} {ds : List D} {bs : List Bool}, RpA K G vs ds → boolsOf ds = some bs → vs = bs.map V.bl
  | _, _, bs, .nil, e => by cases e; rfl
  | _, _, bs, .cons (d := d) r t, e => by
    cases d with
    | bool b =>
      unfold boolsOf at e
      obtain ⟨cs, e1, rfl⟩ := Option.map_eq_some_iff.mp e
      cases r
      rw [boolsOf_vs t e1]; rfl
    | _ => cases e
theorem intsOf_vs {G : Hp} : ∀ {vs : List V} {ds : List D} {bs : List Int}, RpA K G vs ds → intsOf ds = some bs → vs = bs.map V.int
  | _, _, bs, .nil, e => by cases e; rfl
  | _, _, bs, .cons (d := d) r t, e => by
    cases d with
    | int b =>
      unfold intsOf at e
      obtain ⟨cs, e1, rfl⟩ := Option.map_eq_some_iff.mp e
      cases r
      rw [intsOf_vs t e1]; rfl
    | _ => cases e
def allD : List D → Option D
  | [.list ds] => (boolsOf ds).map fun bs => .bool (bs.all id)
  | _ => none
def anyD : List D → Option D
  | [.list ds] => (boolsOf ds).map fun bs => .bool (bs.any id)
  | _ => none
def sumD : List D → Option D
  | [.list ds] => (intsOf ds).map fun bs => .int bs.sum
  | _ => none
theorem v_all : VN K (rAll K) allD := fun G H xs ds d Q m r e q => by
  unfold allD at e
  split at e
  · obtain ⟨bs, e1, rfl⟩ := Option.map_eq_some_iff.mp e
    obtain ⟨v, rfl, r0⟩ := r.one
    obtain ⟨a, vs, rfl, h1, r1⟩ := r0.lst m
    rw [boolsOf_vs r1 e1] at h1
    exact ⟨a, bs, rfl, .inl h1, q _ G H (.refl m) (.bl _)⟩
  · cases e
theorem v_any : VN K (rAny K) anyD := fun G H xs ds d Q m r e q => by
  unfold anyD at e
  split at e
  · obtain ⟨bs, e1, rfl⟩ := Option.map_eq_some_iff.mp e
    obtain ⟨v, rfl, r0⟩ := r.one
    obtain ⟨a, vs, rfl, h1, r1⟩ := r0.lst m
    rw [boolsOf_vs r1 e1] at h1
    exact ⟨a, bs, rfl, .inl h1, q _ G H (.refl m) (.bl _)⟩
  · cases e
theorem v_sum : VN K (rSum K) sumD := fun G H xs ds d Q m r e q => by
  unfold sumD at e
  split at e
  · obtain ⟨bs, e1, rfl⟩ := Option.map_eq_some_iff.mp e
    obtain ⟨v, rfl, r0⟩ := r.one
    obtain ⟨a, vs, rfl, h1, r1⟩ := r0.lst m
    rw [intsOf_vs r1 e1] at h1
    exact ⟨a, bs, rfl, .inl h1, q _ G H (.refl m) (.int _)⟩
  · cases e
end
end PL

-- PLop4
/-! PL, operations: sorted, list, tuple, list(range), repr. -/
namespace PL
open PySem PySem.Spec PyProof.Rows L2

/-! ### sorted -/
def isTup1 : D → Bool
  | .tuple (_ :: _) => true
  | _ => false
def notTup : D → Bool
  | .none => false
  | .tuple _ => false
  | _ => true
def okSort (ds : List D) : Bool := (ds.all fun x => ok9 x && ds.all fun y => PySem.W.alike x y) && (ds.all isTup1 || ds.all notTup) && decide (ds.length ≤ big)
theorem okSort_spec {ds : List D} (h : okSort ds = true) : PySem.W.AllAlike ds ∧ PySem.W.Sortable ds ∧ ds.length ≤ big ∧ ∀ x ∈ ds, x.plain = true ∧ x.depth ≤ 9 := by
  unfold okSort at h
  rw [Bool.and_eq_true, Bool.and_eq_true, Bool.or_eq_true, List.all_eq_true, List.all_eq_true, List.all_eq_true] at h
  obtain ⟨⟨h1, h2⟩, h3⟩ := h
  have h' : ∀ x ∈ ds, okD 9 x = true ∧ ∀ y ∈ ds, PySem.W.alike x y = true := fun x hx => by
    have := h1 x hx
    rw [Bool.and_eq_true, List.all_eq_true] at this
    exact this
  refine ⟨fun x hx y hy => (h' x hx).2 y hy, ?_, of_decide_eq_true h3, fun x hx => okD_spec 9 x (h' x hx).1⟩
  rcases h2 with h2 | h2
  · refine .inl fun d hd => ?_
    have := h2 d hd
    unfold isTup1 at this
    split at this
    · exact ⟨_, _, rfl⟩
    · cases this
  · refine .inr fun d hd => ?_
    have := h2 d hd
    cases d with
    | none => cases this
    | tuple _ => cases this
    | _ => exact ⟨nofun, fun _ => nofun⟩
/-- sorted, stable -/
def srt (ds : List D) : List D := ds.mergeSort (PySem.W.dataLe false id)
def sortD : List D → Option D
  | [.list ds] => if okSort ds = true then some (.list (srt ds)) else none
  | [.str a] => if (sL a).length ≤ big then some (.list (srt ((sL a).map fun c => tx [c]))) else none
  | _ => none
def srtV (xs : List V) (ds : List D) : List (V × D) := (xs.zip ds).mergeSort (PySem.W.dataLe false Prod.snd)
theorem zip_snd : ∀ {xs : List V} {ds : List D}, xs.length = ds.length → (xs.zip ds).map Prod.snd = ds
  | [], [], _ => rfl
  | x :: xs, d :: ds, h => by rw [List.zip_cons_cons, List.map_cons, zip_snd (by simpa using h)]
  | [], _ :: _, h => by cases h
  | _ :: _, [], h => by cases h
theorem zip_fst : ∀ {xs : List V} {ds : List D}, xs.length = ds.length → (xs.zip ds).map Prod.fst = xs
  | [], [], _ => rfl
  | x :: xs, d :: ds, h => by rw [List.zip_cons_cons, List.map_cons, zip_fst (by simpa using h)]
  | [], _ :: _, h => by cases h
  | _ :: _, [], h => by cases h
theorem srtV_snd {xs : List V} {ds : List D} (h : xs.length = ds.length) : (srtV xs ds).map Prod.snd = srt ds := by
  unfold srtV srt
  rw [List.map_mergeSort (r := PySem.W.dataLe false Prod.snd) (s := PySem.W.dataLe false id) (f := Prod.snd) (l := xs.zip ds) (fun a _ b _ => rfl), zip_snd h]
theorem rpa_of_zip {K : PySem.W.Frag} {G : Hp} : ∀ {zs : List (V × D)}, (∀ z ∈ zs, Rp K G z.1 z.2) → RpA K G (zs.map Prod.fst) (zs.map Prod.snd)
  | [], _ => .nil
  | z :: zs, h => .cons (h z List.mem_cons_self) (rpa_of_zip fun y hy => h y (List.mem_cons_of_mem _ hy))
theorem zip_rp {K : PySem.W.Frag} {G : Hp} : ∀ {xs : List V} {ds : List D}, RpA K G xs ds → ∀ z ∈ xs.zip ds, Rp K G z.1 z.2
  | _, _, .nil, z, hz => by cases hz
  | _, _, .cons r t, z, hz => by
    rcases List.mem_cons.mp hz with rfl | hz
    · exact r
    · exact zip_rp t z hz
theorem srtV_rp {K : PySem.W.Frag} {G : Hp} {xs : List V} {ds : List D} (r : RpA K G xs ds) : RpA K G ((srtV xs ds).map Prod.fst) (srt ds) := by
  rw [← srtV_snd r.length]
  exact rpa_of_zip fun z hz => zip_rp r z ((List.mergeSort_perm _ _).mem_iff.mp hz)
theorem each_zip : ∀ {xs : List V} {us : List Value} {ds : List D}, Vals xs us → xs.length = ds.length → PySem.W.EachIs (fun u (z : V × D) => RelV z.1 u) us (xs.zip ds)
  | _, _, [], .nil, _ => .nil
  | _, _, _ :: _, .cons r t, h => .cons r (each_zip t (by simpa using h))
  | _, _, _ :: _, .nil, h => by cases h
  | _, _, [], .cons _ _, h => by cases h
theorem each_vals : ∀ {us : List Value} {zs : List (V × D)}, PySem.W.EachIs (fun u (z : V × D) => RelV z.1 u) us zs → Vals (zs.map Prod.fst) us
  | _, _, .nil => .nil
  | _, _, .cons r t => .cons r (each_vals t)
theorem each_reads {h : Heap} : ∀ {us : List Value} {xs : List V} {ds : List D} {as : List Addr}, ReadsAll h us ds as → xs.length = ds.length → PySem.W.EachIs (fun u (z : V × D) => ∃ as, Reads h u z.2 as) us (xs.zip ds)
  | _, [], [], _, r, _ => by cases r; exact .nil
  | _, _ :: _, _ :: _, _, r, h => by cases r with | cons r t => exact .cons ⟨_, r⟩ (each_reads t (by simpa using h))
  | _, [], _ :: _, _, _, h => by cases h
  | _, _ :: _, [], _, _, h => by cases h
theorem zip_len {xs : List V} {ds : List D} (h : xs.length = ds.length) : (xs.zip ds).length = ds.length := by
  rw [List.length_zip, h, Nat.min_self]
def rSortD (K : PySem.W.Frag) : List V → Hp → VK → Prop := fun vs H Q => ∃ a xs ds, vs = [.ref a] ∧ SqL K H a xs ∧ DpAll K H xs ds ∧ xs.length = ds.length ∧ okSort ds = true ∧ ∀ p, H p = none → Q (.ref p) (upd H p (.lst ((srtV xs ds).map Prod.fst)))
theorem cr_sortD {X : Cx} (hu : X.A.units + 64 < cLine) : CallR X (.builtin "sorted") (rSortD X.K) := by
  intro pins s σ H vs us Q I r h
  obtain ⟨a, xs, ds, rfl, hs, hd, hlen, hok, q⟩ := h
  obtain ⟨its, rv, hl, _⟩ := I.list hs
  rw [Vals.ref1 r]
  obtain ⟨hal, hk, hb, hp⟩ := okSort_spec hok
  obtain ⟨as, hr⟩ := Dp.readsAll I _ _ _ hd rv
  have hz := zip_len hlen
  refine PySem.W.sorted_data (bs := xs.zip ds) (enc := Prod.snd) (R := fun u (z : V × D) => RelV z.1 u) hl.isList (each_zip rv hlen) (each_reads hr hlen) (by rw [zip_snd hlen]; exact hal) (by rw [zip_snd hlen]; exact hk) (by rw [hz]; exact big_line hb) (fun b hb => ?_) fun out ho he => ?_
  · have := (hp b.2 (by rw [← zip_snd hlen]; exact List.mem_map_of_mem hb)).2
    omega
  · obtain ⟨ep, he'⟩ := PyProof.Rows.sortedAll_at s.heap its out.toArray
    have hv : Vals ((srtV xs ds).map Prod.fst) out := each_vals he
    have hlen2 : ((srtV xs ds).map Prod.fst).length ≤ sizeLine := by rw [hv.length, ho, hz]; exact big_line hb
    exact ⟨.ref _, upd H (s.heap.objs.size + 1) (.lst ((srtV xs ds).map Prod.fst)), I.laid (t' := s.toks) (fun _ _ => PyProof.Rows.sortedAll_old) (Nat.le_succ _) ⟨hlen2, out, ep, hv, he'⟩, rfl, q _ (I.hok.fresh (Nat.le_succ _))⟩
/-! sorted(text) -/
def sgV (x : Str) : List V := (sL x).map fun c => V.str ⟨#[c]⟩
theorem signs_vals {x : Str} {acc : Array Value} (h : ItemsOf (SignAt x) acc x.cps.size) : Vals (sgV x) acc.toList := by
  refine vals_of_at ?_ fun j v u hv hu => ?_
  · have e : acc.toList.length = x.cps.size := by rw [Array.length_toList]; exact h.1
    rw [e]; simp [sgV, sL]
  · rw [Array.getElem?_toList] at hu
    obtain ⟨c, t, hc, rfl⟩ := h.2 j u hu
    unfold sgV at hv
    rw [List.getElem?_map] at hv
    have : (sL x)[j]? = some c := by unfold sL; rw [Array.getElem?_toList]; exact hc
    rw [this] at hv
    cases hv
    exact ⟨t, rfl⟩
theorem sgV_rp {K : PySem.W.Frag} {G : Hp} (x : Str) : RpA K G (sgV x) ((sL x).map fun c => tx [c]) := by
  unfold sgV
  induction sL x with
  | nil => exact .nil
  | cons c l ih => exact .cons (.str _) ih
theorem sgV_reads {h : Heap} : ∀ {l : List Nat} {us : List Value}, Vals (l.map fun c => V.str ⟨#[c]⟩) us → PySem.W.EachIs (fun u (z : V × D) => ∃ as, Reads h u z.2 as ∧ as = []) us ((l.map fun c => V.str ⟨#[c]⟩).zip (l.map fun c => tx [c]))
  | [], us, r => by cases r; exact .nil
  | c :: l, us, r => by
    cases r with
    | cons r t => obtain ⟨k, rfl⟩ := r; exact .cons ⟨_, .str _ _, rfl⟩ (sgV_reads t)
theorem alike_tx (l : List Nat) : PySem.W.AllAlike (l.map fun c => tx [c]) := fun d hd e he => by
  obtain ⟨a, _, rfl⟩ := List.mem_map.mp hd
  obtain ⟨b, _, rfl⟩ := List.mem_map.mp he
  simp [tx, PySem.W.alike]
theorem sortable_tx (l : List Nat) : PySem.W.Sortable (l.map fun c => tx [c]) := .inr fun d hd => by
  obtain ⟨a, _, rfl⟩ := List.mem_map.mp hd
  exact ⟨(fun e => by cases e), fun xs e => by cases e⟩
def rSortS : List V → Hp → VK → Prop := fun vs H Q => ∃ x : Str, vs = [.str x] ∧ (sL x).length ≤ big ∧ ∀ p, H p = none → Q (.ref p) (upd H p (.lst ((srtV (sgV x) ((sL x).map fun c => tx [c])).map Prod.fst)))
theorem sgV_len (x : Str) : (sgV x).length = ((sL x).map fun c => tx [c]).length := by simp [sgV]
theorem cr_sortS {X : Cx} (hc : X.calm = true) (hu : X.A.units + 64 < cLine) : CallR X (.builtin "sorted") rSortS := by
  intro pins s σ H vs us Q I r h
  obtain ⟨x, rfl, hx, q⟩ := h
  obtain ⟨u, rfl, t, rfl⟩ := vals1 r
  have hz0 : x.cps.size ≤ sizeLine := by have := big_line hx; simpa [sL] using this
  refine Calls.call_function_entry kind_sorted plain_sorted entry_sorted (args_sorted1 _) ?_
  unfold Builtin.«sorted»
  refine wpAny_bind (m := checkCount "sorted" 1 1 _) (wpAny_pure ?_)
  refine wpAny_bind (wpAny_collect_str (hn := hz0) (by exact I.ok.hd hc) x t fun s' acc k g dr os hit => ?_)
  have rv := signs_vals hit
  have hal : acc.toList.length = x.cps.size := by rw [Array.length_toList]; exact hit.1
  refine wpAny_bind (wpAny_newList ?_ (by rw [hal]; exact hz0))
  obtain ⟨hp', g', d', tk', os'⟩ := s'
  cases g; cases dr; cases os
  have k : ∀ b o, s.heap.get? b = some o → hp'.get? b = some o := k
  have hoL : (hp'.push (seqObj "list" acc.toList.toArray 0)).get? hp'.objs.size = some (seqObj "list" acc.toList.toArray 0) := Heap.get?_push_size _ rfl
  have hz := zip_len (sgV_len x)
  refine wpAny_bind (wpAny_holding ?_)
  refine PySem.W.list_sort_data (s := { heap := hp'.push (seqObj "list" acc.toList.toArray 0), gens := s.gens, drawn := s.drawn, toks := tk', os := s.os }) (bs := (sgV x).zip ((sL x).map fun c => tx [c])) (enc := Prod.snd) (R := fun u (z : V × D) => RelV z.1 u) hoL (each_zip rv (sgV_len x)) ((sgV_reads rv).mono fun _ _ ⟨as, r, e⟩ => ⟨as, r, by rw [e]; exact fun z => nomatch z⟩) (by rw [zip_snd (sgV_len x)]; exact alike_tx _) (by rw [zip_snd (sgV_len x)]; exact sortable_tx _)
    (by rw [hz]; exact big_line (by rw [List.length_map]; exact hx)) (fun b hb => ?_) fun out ho he => ?_
  · have hb2 : b.2 ∈ (sL x).map fun c => tx [c] := by rw [← zip_snd (sgV_len x)]; exact List.mem_map_of_mem hb
    obtain ⟨c, _, e⟩ := List.mem_map.mp hb2
    rw [← e]
    show X.A.in1.units + 1 + PyData.depth (tx [c]) < cLine
    simp only [tx, PyData.depth]
    show X.A.units + 1 + 1 + 0 < cLine
    omega
  · obtain ⟨ep, he'⟩ := sortedHeap_at (out := List.toArray out) hoL
    have hv : Vals ((srtV (sgV x) ((sL x).map fun c => tx [c])).map Prod.fst) out := each_vals he
    have I1 : Inv X pins σ H { s with heap := hp', toks := tk' } := I.kept k
    have hlen2 : ((srtV (sgV x) ((sL x).map fun c => tx [c])).map Prod.fst).length ≤ sizeLine := by rw [hv.length, ho, hz]; exact big_line (by rw [List.length_map]; exact hx)
    have kk : ∀ b o, hp'.get? b = some o → (sortedHeap (hp'.push (seqObj "list" acc.toList.toArray 0)) hp'.objs.size acc.toList (List.toArray out)).get? b = some o := fun b o e => by
      have lt := Heap.lt_size e
      rw [sortedHeap_old (Nat.ne_of_lt lt) (by rw [Heap.size_push]; exact Nat.lt_succ_of_lt lt)]
      exact Heap.get?_push_of_some _ e
    exact wpAny_pure ⟨_, rfl, .ref _, _, I1.laid (t' := tk') kk (Nat.le_refl _) (show ObjOk X.prog X.w _ _ hp'.objs.size (.lst ((srtV (sgV x) ((sL x).map fun c => tx [c])).map Prod.fst)) from ⟨hlen2, out, ep, hv, he'⟩), rfl, q _ (I1.hok.fresh (Nat.le_refl _))⟩
def rSortP (K : PySem.W.Frag) : List V → Hp → VK → Prop := fun vs H Q => rSortD K vs H Q ∨ rSortS vs H Q
theorem cr_sortP {X : Cx} (hc : X.calm = true) (hu : X.A.units + 64 < cLine) : CallR X (.builtin "sorted") (rSortP X.K) := CallR.or (cr_sortD hu) (cr_sortS hc hu)
theorem RpA.dpA {K : PySem.W.Frag} {G H : Hp} (m : Mo G H) : ∀ {vs : List V} {ds : List D}, RpA K G vs ds → (∀ d ∈ ds, d.plain = true) → DpAll K H vs ds
  | _, _, .nil, _ => .nil
  | _, _, .cons r t, h => .cons (r.dp m (h _ List.mem_cons_self)) (RpA.dpA m t fun d hd => h d (List.mem_cons_of_mem _ hd))
theorem v_sort {K : PySem.W.Frag} : VNF K (rSortP K) sortD := fun G H xs ds d Q m r e q => by
  unfold sortD at e
  split at e
  · obtain ⟨hc, rfl⟩ := of_ite e
    obtain ⟨v, rfl, r0⟩ := r.one
    obtain ⟨a, vs, rfl, h1, r1⟩ := r0.lst m
    obtain ⟨_, _, _, hp⟩ := okSort_spec hc
    refine .inl ⟨a, vs, _, rfl, .inl h1, r1.dpA m fun d hd => (hp d hd).1, r1.length, hc, fun p hp => ?_⟩
    obtain ⟨n, a1, a2, a3⟩ := own_lst m hp (srtV_rp r1)
    exact q _ _ _ n a1 a2 a3
  · obtain ⟨hc, rfl⟩ := of_ite e
    obtain ⟨v, rfl, r0⟩ := r.one
    obtain rfl := r0.str
    refine .inr ⟨_, rfl, hc, fun p hp => ?_⟩
    obtain ⟨n, a1, a2, a3⟩ := own_lst m hp (srtV_rp (sgV_rp _))
    exact q _ _ _ n a1 a2 a3
  · cases e
end PL

-- PLop5
/-! PL, operations: list, tuple, list(range), repr, methods that change nothing. -/
namespace PL
open PySem PySem.Spec PyProof.Rows L2

/-! ### list(x) -/
section
variable {prog : Program} {w : World} {A : Around} {E : Value → Shared → Prop} {s : Shared}
theorem extend_str {R : Result → Shared → Prop} (hh : A.handled = none) (x : Str) (t : Tok) (S : Addr) (last : Value) (hS : s.heap.get? S = some { cls := .type "list", dict := none, data := .seq #[] c, slots := #[] }) (hn : x.cps.size ≤ sizeLine)
    (hR : ∀ s' acc' c', (∀ b o, b ≠ S → s.heap.get? b = some o → s'.heap.get? b = some o) → s'.gens = s.gens → s'.drawn = s.drawn → s'.os = s.os → s'.heap.get? S = some { cls := .type "list", dict := none, data := .seq acc' c', slots := #[] } → ItemsOf (SignAt x) acc' x.cps.size → R (.ok (.ret last)) s') :
    wpAny (model prog w) A.in1 (Builtin.List.listExtendWith (.ref S) (.str x t) last)
      (fun fin s' => match fin with | .done f => R (.ok f) s' | .again c' => c'.quiet = true ∧ codeAny (model prog w) A c' R s') (fun e s' => R (.error e) s') s := by
  unfold Builtin.List.listExtendWith
  refine wpAny_bind (wpAny_typeOf (T := "str") (v := .str x t) rfl ?_)
  have h1 : Builtin.List.listSameRef (.ref S) (.str x t) = false := rfl
  have h2 : (Value.type "str" == Value.type "list") = false := by decide
  have h3 : (Value.type "str" == Value.type "tuple") = false := by decide
  simp only [h1, h2, h3, Bool.or_false, Bool.false_eq_true, if_false]
  refine wpAny_bind (wpAny_pyIter_str fun o St W hst => ?_)
  refine wpAny_bind (wpAny_holding ?_)
  unfold Builtin.List.listLengthHint
  refine wpAny_bind (wpAny_specialOf (T := "str") (v := .str x t) rfl F.str_len ?_)
  wp_delta
  refine wpAny_bind (wpAny_isInstance (T := "str") (v := .str x t) (b := true) rfl (by rw [isSubtype_type]; kernel_rfl) ?_)
  show wpAny _ A.in1 (typeOf (Value.str x t) >>= _) _ _ _
  refine wpAny_bind (wpAny_typeOf (T := "str") (v := .str x t) rfl ?_)
  refine wpAny_pure ?_
  rw [if_neg (by decide)]
  have hlt : S < s.heap.objs.size := Heap.lt_size hS
  have hSf : S ∉ [s.heap.objs.size] := fun hm => absurd (List.mem_singleton.mp hm) (Nat.ne_of_lt hlt)
  have hS2 : (s.heap.push o).get? S = some { cls := .type "list", dict := none, data := .seq #[] c, slots := #[] } := Heap.get?_push_of_some _ hS
  refine wpAny_pure ⟨plainId_quiet F.plain_extend_loop _, codeAny_extend_loopS (W A.in1 hh).toS hn _ hSf _ x.cps.size 0 _ _ _ rfl (Nat.zero_le _) hst hS2 (ItemsOf.nil _) fun s' acc' c' hm hS' hacc => ?_⟩
  refine hR s' acc' c' (fun b ob hb e => hm.heap b ob (fun hb' => ?_) (Heap.get?_push_of_some _ e)) hm.gens hm.drawn hm.os hS' hacc
  rcases List.mem_cons.mp hb' with h | h
  · exact hb h
  · exact absurd (Heap.lt_size e) (by rw [List.mem_singleton.mp h]; exact Nat.lt_irrefl _)
end

section
variable {prog : Program} {w : World} {A : Around} {E : Value → Shared → Prop} {s : Shared}
theorem init_str {R : Result → Shared → Prop} (hh : A.handled = none) (x : Str) (t : Tok) (S : Addr) (hS : s.heap.get? S = some { cls := .type "list", data := .seq #[] }) (hn : x.cps.size ≤ sizeLine)
    (hR : ∀ s' acc' c', (∀ b o, b ≠ S → s.heap.get? b = some o → s'.heap.get? b = some o) → s'.gens = s.gens → s'.drawn = s.drawn → s'.os = s.os → s'.heap.get? S = some { cls := .type "list", dict := none, data := .seq acc' c', slots := #[] } → ItemsOf (SignAt x) acc' x.cps.size → R (.ok (.ret .none)) s') :
    wpAny (model prog w) A.in1 (Builtin.«list.__init__» ⟨[.ref S, .str x t], []⟩)
      (fun fin s' => match fin with | .done f => R (.ok f) s' | .again c' => c'.quiet = true ∧ codeAny (model prog w) A c' R s') (fun e s' => R (.error e) s') s := by
  show wpAny _ A.in1 (do let old ← Builtin.List.listItems (.ref S); Builtin.List.listUpdate (.ref S) (fun _ => #[]); letGo old.toList.reverse; Builtin.List.listExtendWith (.ref S) (.str x t) .none) _ _ s
  refine wpAny_bind ?_
  unfold Builtin.List.listItems
  refine wpAny_bind (wpAny_seqItems hS rfl (wpAny_pure ?_))
  show wpAny _ A.in1 (updateSeq S (fun _ => #[]) >>= fun _ => letGo (#[] : Array Value).toList.reverse >>= fun _ => Builtin.List.listExtendWith (.ref S) (.str x t) .none) _ _ s
  refine wpAny_bind (wpAny_updateSeq hS rfl ?_)
  have hS₂ := Heap.get?_update_self (Obj.mapSeq (fun _ => (#[] : Array Value))) hS rfl
  have oth : ∀ b o, b ≠ S → s.heap.get? b = some o → (s.heap.update S (Obj.mapSeq (fun _ => (#[] : Array Value)))).get? b = some o :=
    fun b o hb e => (Heap.get?_update_other _ _ (Ne.symm hb)).trans e
  refine wpAny_bind (wpAny_letGo ?_)
  exact extend_str hh x t S .none hS₂ hn fun s' acc' c' k g d o h1 h2 => hR s' acc' c' (fun b ob hb e => k b ob hb (oth b ob hb e)) g d o h1 h2
theorem call_list_str {Q : Value → Shared → Prop} (hh : A.handled = none) (x : Str) (t : Tok) (hn : x.cps.size ≤ sizeLine)
    (hQ : ∀ s' acc' c', (∀ b o, s.heap.get? b = some o → s'.heap.get? b = some o) → s'.gens = s.gens → s'.drawn = s.drawn → s'.os = s.os → s'.heap.get? s.heap.objs.size = some { cls := .type "list", dict := none, data := .seq acc' c', slots := #[] } → ItemsOf (SignAt x) acc' x.cps.size → Q (.ref s.heap.objs.size) s') :
    wpAny (model prog w) A (call (.type "list") [.str x t]) Q E s := by
  refine callType_codes (Q₁ := fun obj s₁ => obj = .ref s.heap.objs.size ∧ s₁ = { s with heap := s.heap.push { cls := .type "list", data := .seq #[] } }) F.called_list (F.typeCall_list_1 _) F.entry_list_init
    (code_list_new _ ⟨rfl, rfl⟩) fun obj s₁ h₁ => ?_
  obtain ⟨rfl, rfl⟩ := h₁
  have hS : (s.heap.push { cls := .type "list", data := .seq #[] }).get? s.heap.objs.size = some { cls := .type "list", data := .seq #[] } := Heap.get?_push_size _ rfl
  refine ⟨⟨_, hS, rfl⟩, F.args_list_init_2 _ _, init_str (A := A.in1) hh x t _ hS hn fun s' acc' c' k g d o h1 h2 => ?_⟩
  exact ⟨rfl, hQ s' acc' c' (fun b o e => k b o (Nat.ne_of_lt (Heap.lt_size e)) (Heap.get?_push_of_some _ e)) g d o h1 h2⟩
end
def rListS : List V → Hp → VK → Prop := fun xs H Q => ∃ x : Str, xs = [.str x] ∧ (sL x).length ≤ big ∧ ∀ l, H l = none → Q (.ref l) (upd H l (.lst (sgV x)))
theorem cr_listS {X : Cx} (hc : X.calm = true) : CallR X (.type "list") rListS := by
  intro pins s σ H vs us Q I r h
  obtain ⟨x, rfl, hx, q⟩ := h
  obtain ⟨u, rfl, t, rfl⟩ := vals1 r
  have hz0 : x.cps.size ≤ sizeLine := by have := big_line hx; simpa [sL] using this
  refine call_list_str (I.ok.hd hc) x t hz0 fun s' acc c' k g dr os h1 hit => ?_
  obtain ⟨hp', g', d', tk', os'⟩ := s'
  cases g; cases dr; cases os
  have hv := signs_vals hit
  have hl : (sgV x).length ≤ sizeLine := by rw [hv.length, Array.length_toList, hit.1]; exact hz0
  exact ⟨.ref _, upd H s.heap.objs.size (.lst (sgV x)), I.laid (t' := tk') k (Nat.le_refl _) (show ObjOk X.prog X.w _ hp' s.heap.objs.size (.lst (sgV x)) from ⟨hl, acc.toList, c', hv, by rw [Array.toArray_toList]; exact h1⟩), rfl, q _ (I.hok.fresh (Nat.le_refl _))⟩
def rListQ (K : PySem.W.Frag) : List V → Hp → VK → Prop := fun xs H Q => ∃ p ys, xs = [.ref p] ∧ (SqL K H p ys ∨ SqT K H p ys) ∧ ∀ l, H l = none → Q (.ref l) (upd H l (.lst ys))
def rListP (K : PySem.W.Frag) : List V → Hp → VK → Prop := fun xs H Q => rListQ K xs H Q ∨ rListS xs H Q
theorem cr_listP {X : Cx} (hc : X.calm = true) : CallR X (.type "list") (rListP X.K) := CallR.or call_list_of (cr_listS hc)
def listFD : List D → Option D
  | [.list ds] => some (.list ds)
  | [.tuple ds] => some (.list ds)
  | [.str a] => if (sL a).length ≤ big then some (.list ((sL a).map fun c => tx [c])) else none
  | _ => none
def tupFD : List D → Option D
  | [.list ds] => some (.tuple ds)
  | [.tuple ds] => some (.tuple ds)
  | _ => none
def rTupQ (K : PySem.W.Frag) : List V → Hp → VK → Prop := fun xs H Q => ∃ p ys, xs = [.ref p] ∧ ((SqL K H p ys ∧ ∀ l, H l = none → Q (.ref l) (upd H l (.tup ys))) ∨ (SqT K H p ys ∧ Q (.ref p) H))
section
variable {K : PySem.W.Frag}
theorem v_list : VNF K (rListP K) listFD := fun G H xs ds d Q m r e q => by
  unfold listFD at e
  split at e
  · cases e
    obtain ⟨v, rfl, r0⟩ := r.one
    obtain ⟨a, vs, rfl, h1, r1⟩ := r0.lst m
    refine .inl ⟨a, vs, rfl, .inl (.inl h1), fun p hp => ?_⟩
    obtain ⟨n, a1, a2, a3⟩ := own_lst m hp r1
    exact q _ _ _ n a1 a2 a3
  · cases e
    obtain ⟨v, rfl, r0⟩ := r.one
    obtain ⟨a, vs, rfl, h1, r1, _⟩ := r0.tup m
    refine .inl ⟨a, vs, rfl, .inr (.of h1), fun p hp => ?_⟩
    obtain ⟨n, a1, a2, a3⟩ := own_lst m hp r1
    exact q _ _ _ n a1 a2 a3
  · obtain ⟨hc, rfl⟩ := of_ite e
    obtain ⟨v, rfl, r0⟩ := r.one
    obtain rfl := r0.str
    refine .inr ⟨_, rfl, hc, fun p hp => ?_⟩
    obtain ⟨n, a1, a2, a3⟩ := own_lst m hp (sgV_rp _)
    exact q _ _ _ n a1 a2 a3
  · cases e
theorem v_tup : VN K (rTupQ K) tupFD := fun G H xs ds d Q m r e q => by
  unfold tupFD at e
  split at e
  · cases e
    obtain ⟨v, rfl, r0⟩ := r.one
    obtain ⟨a, vs, rfl, h1, r1⟩ := r0.lst m
    refine ⟨a, vs, rfl, .inl ⟨.inl h1, fun p hp => ?_⟩⟩
    obtain ⟨n, r⟩ := new_tup m hp r1
    exact q _ _ _ n r
  · cases e
    obtain ⟨v, rfl, r0⟩ := r.one
    obtain ⟨a, vs, rfl, h1, r1, t1⟩ := r0.tup m
    exact ⟨a, vs, rfl, .inr ⟨.of h1, q _ G H (.refl m) t1⟩⟩
  · cases e
end
/-! ### list(range(..)) -/
def lrgE (fs : List WE) : WE := fun ε => (evl fs ε).bind fun p => match p.1 with
  | [.int b] => if (okI b && decide (b ≤ 1000000)) = true then some (.list (intsL 0 1 b.toNat), p.2) else none
  | [.int a, .int b] => if (okI a && okI b && decide (b - a ≤ 1000000)) = true then some (.list (intsL a 1 (b - a).toNat), p.2) else none
  | _ => none
theorem rpa_rg {K : PySem.W.Frag} {G : Hp} (a b : Int) : RpA K G (rgV a b) (intsL a 1 (b - a).toNat) := by
  unfold rgV intsL
  generalize (b - a).toNat = n
  induction List.range n with
  | nil => exact .nil
  | cons i l ih =>
    rw [List.map_cons, List.map_cons, Int.mul_one]
    exact .cons (.int _) ih
section
variable {K : PySem.W.Frag}
theorem rf_lrg1 {te : TE} {f : WE} (h : RE K te f) : RF K (tLstRg (tRg1 te)) (lrgE [f]) := fun Fr la σ ε G H d ε' Q s e q => by
  obtain ⟨p, e1, e⟩ := bind_some e
  obtain ⟨p1, e2, e1⟩ := bind_some e1
  cases e1
  refine h Fr la σ ε G H p1.1 p1.2 _ s e2 fun v G1 H1 m1 s1 r1 => ?_
  obtain ⟨x, ε1⟩ := p1
  cases x with
  | int b =>
    simp only at e
    cases r1
    have e : (if (okI b && decide (b ≤ 1000000)) = true then some (PyData.list (intsL 0 1 b.toNat), ε1) else none) = some (d, ε') := e
    obtain ⟨hc, e⟩ := of_ite e
    cases e
    rw [Bool.and_eq_true] at hc
    obtain ⟨o1, o2⟩ := okI_iff.mp hc.1
    have := of_decide_eq_true hc.2
    refine ⟨b, rfl, ⟨by omega, by omega, by omega, by omega, by omega⟩, fun l hl => ?_⟩
    have rr : RpA K G1 (rgV 0 b) (intsL 0 1 b.toNat) := by have := rpa_rg (K := K) (G := G1) 0 b; rwa [Int.sub_zero] at this
    obtain ⟨n, a1, a2, a3⟩ := own_lst s1.gh hl rr
    exact q l G1 _ m1 (s1.new n) (.of_new s1 n a1 a2 a3)
  | _ => cases e
theorem rf_lrg2 {te tg : TE} {f g : WE} (h : RE K te f) (h2 : RE K tg g) : RF K (tLstRg (tRg2 te tg)) (lrgE [f, g]) := fun Fr la σ ε G H d ε' Q s e q => by
  obtain ⟨p, e1, e⟩ := bind_some e
  obtain ⟨p1, e2, e1⟩ := bind_some e1
  obtain ⟨p2, e3, e1⟩ := bind_some e1
  cases e1
  obtain ⟨p3, e4, e3⟩ := bind_some e3
  cases e3
  refine h Fr la σ ε G H p1.1 p1.2 _ s e2 fun v G1 H1 m1 s1 r1 => ?_
  refine h2 Fr la σ p1.2 G1 H1 p3.1 p3.2 _ s1 e4 fun v2 G2 H2 m2 s2 r2 => ?_
  obtain ⟨x, ε1⟩ := p1
  obtain ⟨y, ε2⟩ := p3
  cases x with
  | int a =>
    cases y with
    | int b =>
      cases r1
      cases r2
      have e : (if (okI a && okI b && decide (b - a ≤ 1000000)) = true then some (PyData.list (intsL a 1 (b - a).toNat), ε2) else none) = some (d, ε') := e
      obtain ⟨hc, e⟩ := of_ite e
      cases e
      rw [Bool.and_eq_true, Bool.and_eq_true] at hc
      obtain ⟨o1, o2⟩ := okI_iff.mp hc.1.1
      obtain ⟨o3, o4⟩ := okI_iff.mp hc.1.2
      have := of_decide_eq_true hc.2
      refine ⟨a, b, rfl, rfl, ⟨by omega, by omega, by omega, by omega, by omega⟩, fun l hl => ?_⟩
      obtain ⟨n, a1, a2, a3⟩ := own_lst s2.gh hl (rpa_rg (K := K) (G := G2) a b)
      exact q l G2 _ (m1.trans m2) (s2.new n) (.of_new s2 n a1 a2 a3)
    | _ => cases e
  | _ => cases e
end
/-! ### repr -/
def reprD : List D → Option D
  | [d] => if (ok9 d && PyData.showable d && decide (d.shown.length ≤ big)) = true then some (.str d.shown) else none
  | _ => none
theorem noDict_of_plain : ∀ d : D, d.plain = true → d.hasDict = false
  | .none, _ => by simp [PyData.hasDict]
  | .bool _, _ => by simp [PyData.hasDict]
  | .int _, _ => by simp [PyData.hasDict]
  | .str _, _ => by simp [PyData.hasDict]
  | .list xs, h => by
    simp only [PyData.hasDict]
    exact go xs (by simpa [PyData.plain] using h)
  | .tuple xs, h => by
    simp only [PyData.hasDict]
    exact go xs (by simpa [PyData.plain] using h)
  | .dict _, h => by simp [PyData.plain] at h
where
  go : ∀ xs : List D, PyData.plainAll xs = true → PyData.hasDictAll xs = false
    | [], _ => by simp [PyData.hasDictAll]
    | x :: xs, h => by
      simp only [PyData.plainAll, Bool.and_eq_true] at h
      simp only [PyData.hasDictAll, noDict_of_plain x h.1, go xs h.2, Bool.or_self]
def rRepr (K : PySem.W.Frag) : List V → Hp → VK → Prop := fun xs H Q => ∃ v d, xs = [v] ∧ Dp K H v d ∧ ok9 d = true ∧ PyData.showable d = true ∧ d.shown.length ≤ big ∧ Q (.str d.shown) H
theorem cr_repr {X : Cx} (hu : X.A.units + 64 < cLine) (hg : X.A.guards = some []) : CallR X (.builtin "repr") (rRepr X.K) := by
  intro pins s σ H vs us Q I r h
  obtain ⟨v, d, rfl, hd, hok, hs, hl, q⟩ := h
  obtain ⟨u, rfl, rx⟩ := vals1 r
  obtain ⟨as, hr⟩ := Dp.reads I _ _ _ hd rx
  obtain ⟨hp, hdp⟩ := okD_spec 9 d hok
  have hz := big_line hl
  have ref : ∀ a, u = .ref a → wpAny (model X.prog X.w) X.A (call (.builtin "repr") [u]) (EP X pins σ Q) X.xe s := fun a e => by
    subst e
    exact PySem.repr_of_reads' hr hs (PyData.noDict_hsm (noDict_of_plain d hp)) hg (by omega) (fun _ _ e => e) (fun h' t tk hk => ⟨.str _, H, I.kept hk, ⟨_, rfl⟩, q⟩) hz
  cases hd with
  | non => cases rx; exact PySem.P.repr_of_none ⟨.str _, H, I.tok _, ⟨_, rfl⟩, q⟩
  | bl b => cases rx; exact PySem.P.repr_of_bool ⟨.str _, H, I.tok _, ⟨_, rfl⟩, q⟩
  | int i =>
    obtain ⟨t, rfl⟩ := rx
    exact PySem.P.repr_of_int (of_decide_eq_true hs) ⟨.str _, H, I.tok _, ⟨_, rfl⟩, q⟩
  | str x =>
    obtain ⟨t, rfl⟩ := rx
    exact PySem.P.repr_of_str ⟨.str _, H, I.tok _, ⟨_, rfl⟩, q⟩ hz
  | lst _ _ => exact ref _ rx
  | tup _ _ => exact ref _ rx
theorem v_repr {K : PySem.W.Frag} : VN K (rRepr K) reprD := fun G H xs ds d Q m r e q => by
  unfold reprD at e
  split at e
  · obtain ⟨hc, rfl⟩ := of_ite e
    rw [Bool.and_eq_true, Bool.and_eq_true] at hc
    obtain ⟨v, rfl, r0⟩ := r.one
    exact ⟨v, _, rfl, r0.dp m (okD_spec 9 _ hc.1.1).1, hc.1.1, hc.1.2, of_decide_eq_true hc.2, q _ G H (.refl m) (.str _)⟩
  · cases e
end PL

-- PLop6
/-! PL: methods; what changes an owned list; several names at once. -/
namespace PL
open PySem PySem.Spec PyProof.Rows L2

/-! ### methods that only read -/
def isT (T : String) (d : D) : Bool := match d with
  | .str _ => T == "str"
  | .list _ => T == "list"
  | _ => false
def metE (T : String) (g : D → List D → Option D) (a : Opd) (os : List Opd) : WE := fun ε =>
  (a.ev ε).bind fun p => (a.fin p.1 p.2).bind fun x0 => if isT T x0 = true then
    (evs os p.2).bind fun q => (a.fin p.1 q.2).bind fun x => (fins os q.1 q.2).bind fun ds => (g x ds).bind fun d => some (d, q.2) else none
section
variable (K : PySem.W.Frag)
def VM (r : V → List V → Hp → VK → Prop) (g : D → List D → Option D) : Prop := ∀ (G H : Hp) (x : V) (xs : List V) (dx : D) (ds : List D) (d : D) (Q : VK), Mo G H → Rb K G H x dx → RbA K G H xs ds → g dx ds = some d → (∀ v G' H', New G H G' H' → Rp K G' v d → Q v H') → r x xs H Q
end
section
variable {K : PySem.W.Frag} {Fr : Hp} {la : Addr} {σ : L2.St} {ε : En} {G H G' H' : Hp}
theorem Rb.ty (m : Mo G H) {T : String} {v : V} {d : D} (h : Rb K G H v d) (e : isT T d = true) : tyV K T v H := by
  unfold isT at e
  split at e
  · obtain rfl := h.str
    exact eq_of_beq e
  · obtain ⟨a, vs, rfl, h1, _⟩ := h.lst m
    exact .inl ⟨eq_of_beq e, vs, .inl h1⟩
  · cases e
theorem of_ite2 {c : Prop} [Decidable c] {α : Type} {a : Option α} {b : α} (h : (if c then a else none) = some b) : c ∧ a = some b := by
  by_cases k : c
  · rw [if_pos k] at h; exact ⟨k, h⟩
  · rw [if_neg k] at h; cases h
theorem re_met {T : String} {te : TE} {ta : TA} {a : Opd} {os : List Opd} {r : V → List V → Hp → VK → Prop} {g : D → List D → Option D} (ha : RO K te a) (hb : RP K ta os) (hr : VM K r g) : RE K (tBM K T r te ta) (metE T g a os) := fun Fr la σ ε G H d ε' Q s e q => by
  obtain ⟨p, e1, e⟩ := bind_some e
  obtain ⟨x0, e2, e⟩ := bind_some e
  obtain ⟨hc, e⟩ := of_ite2 e
  obtain ⟨p2, e3, e⟩ := bind_some e
  obtain ⟨x, e4, e⟩ := bind_some e
  obtain ⟨ds, e5, e⟩ := bind_some e
  obtain ⟨z, e6, e⟩ := bind_some e
  cases e
  refine ha Fr la σ ε G H p.1 p.2 _ s e1 fun v G1 H1 m1 s1 r1 => ⟨(r1.fin s1 e2).ty s1.gh hc, ?_⟩
  refine hb Fr la σ p.2 G1 H1 p2.1 p2.2 _ s1 e3 fun vs G2 H2 m2 s2 r2 => ?_
  exact hr G2 H2 v vs x ds d Q s2.gh ((r1.mo m2).fin s2 e4) (r2.fin s2 e5) e6 fun w G' H' n rw => q w G' H' ((m1.trans m2).trans n.mo) (s2.new n) rw
theorem re_met0 {T : String} {te : TE} {a : Opd} {r : V → List V → Hp → VK → Prop} {g : D → List D → Option D} (ha : RO K te a) (hr : VM K r g) : RE K (tBM0 K T r te) (metE T g a []) := fun Fr la σ ε G H d ε' Q s e q => by
  obtain ⟨p, e1, e⟩ := bind_some e
  obtain ⟨x0, e2, e⟩ := bind_some e
  obtain ⟨hc, e⟩ := of_ite2 e
  obtain ⟨p2, e3, e⟩ := bind_some e
  cases e3
  obtain ⟨x, e4, e⟩ := bind_some e
  obtain ⟨ds, e5, e⟩ := bind_some e
  cases e5
  obtain ⟨z, e6, e⟩ := bind_some e
  cases e
  refine ha Fr la σ ε G H p.1 p.2 _ s e1 fun v G1 H1 m1 s1 r1 => ⟨(r1.fin s1 e2).ty s1.gh hc, ?_⟩
  exact hr G1 H1 v [] x [] d Q s1.gh (r1.fin s1 e4) .nil e6 fun w G' H' n rw => q w G' H' (m1.trans n.mo) (s1.new n) rw
end
/-! str.join -/
def strsOf : List D → Option (List Str)
  | [] => some []
  | .str b :: ds => (strsOf ds).map (b :: ·)
  | _ => none
def joinL (sep : List Nat) : List (List Nat) → List Nat
  | [] => []
  | [x] => x
  | x :: y :: r => x ++ sep ++ joinL sep (y :: r)
theorem join_L (sep : Str) : ∀ ys : List Str, Str.join sep ys = ⟨(joinL (sL sep) (ys.map sL)).toArray⟩
  | [] => rfl
  | [x] => by
    show x = ⟨(sL x).toArray⟩
    simp [sL]
  | x :: y :: r => by
    show x ++ sep ++ Str.join sep (y :: r) = _
    rw [join_L sep (y :: r), str_app, str_app]
    simp [joinL, sL]
def joinD (d : D) (ds : List D) : Option D := match d, ds with
  | .str a, [.list xs] => (strsOf xs).bind fun ys => if (ys.map fun y => (sL y).length).sum + ys.length * (sL a).length ≤ big then some (tx (joinL (sL a) (ys.map sL))) else none
  | .str a, [.tuple xs] => (strsOf xs).bind fun ys => if (ys.map fun y => (sL y).length).sum + ys.length * (sL a).length ≤ big then some (tx (joinL (sL a) (ys.map sL))) else none
  | _, _ => none
def rJoin (K : PySem.W.Frag) : V → List V → Hp → VK → Prop := fun x xs H Q => ∃ a p, ∃ ys : List Str, x = .str a ∧ xs = [.ref p] ∧ (SqL K H p (ys.map V.str) ∨ SqT K H p (ys.map V.str)) ∧
    (ys.map (·.length)).sum + ys.length * a.length ≤ 16777216 ∧ Q (.str (Txt.join a ys)) H
section
variable {K : PySem.W.Frag}
theorem strsOf_vs {G : Hp} : ∀ {vs : List V} {ds : List D} {bs : List Str}, RpA K G vs ds → strsOf ds = some bs → vs = bs.map V.str
  | _, _, bs, .nil, e => by cases e; rfl
  | _, _, bs, .cons (d := d) r t, e => by
    cases d with
    | str b =>
      unfold strsOf at e
      obtain ⟨cs, e1, rfl⟩ := Option.map_eq_some_iff.mp e
      cases r
      rw [strsOf_vs t e1]; rfl
    | _ => cases e
theorem join_end {H : Hp} {a : Str} {p : Addr} {ys : List Str} {Q : VK} (hp : SqL K H p (ys.map V.str) ∨ SqT K H p (ys.map V.str)) (hc : (ys.map fun y => (sL y).length).sum + ys.length * (sL a).length ≤ big) (q : Q (.str ⟨(joinL (sL a) (ys.map sL)).toArray⟩) H) : rJoin K (.str a) [.ref p] H Q := by
  refine ⟨a, p, ys, rfl, rfl, hp, ?_, ?_⟩
  · have e : (ys.map fun y => (sL y).length) = ys.map (·.length) := List.map_congr_left fun y _ => sL_len y
    rw [e, sL_len] at hc
    have : big = 1000000 := rfl
    omega
  · have e : Txt.join a ys = ⟨(joinL (sL a) (ys.map sL)).toArray⟩ := (StrLaws.glued_eq_join a ys).trans (join_L a ys)
    rw [e]; exact q
theorem v_join : VM K (rJoin K) joinD := fun G H x xs dx ds d Q m rx r e q => by
  unfold joinD at e
  split at e
  · obtain ⟨ys, e1, e⟩ := bind_some e
    obtain ⟨hc, rfl⟩ := of_ite e
    obtain ⟨v, rfl, r0⟩ := r.one
    obtain rfl := rx.str
    obtain ⟨a, vs, rfl, h1, r1⟩ := r0.lst m
    obtain rfl := strsOf_vs r1 e1
    exact join_end (.inl (.inl h1)) hc (q _ G H (.refl m) (.str _))
  · obtain ⟨ys, e1, e⟩ := bind_some e
    obtain ⟨hc, rfl⟩ := of_ite e
    obtain ⟨v, rfl, r0⟩ := r.one
    obtain rfl := rx.str
    obtain ⟨a, vs, rfl, h1, r1, _⟩ := r0.tup m
    obtain rfl := strsOf_vs r1 e1
    exact join_end (.inr (.of h1)) hc (q _ G H (.refl m) (.str _))
  · cases e
end
/-! str.count of one sign -/
section
open Builtin Builtin.Str StrLaws
theorem occ_one (x : Str) (c limit : Nat) : ∀ (k lo : Nat) (st : Array Nat × Nat), st.snd ≤ lo → st.fst.size ≤ lo → lo + k ≤ limit →
    (forIn (List.range' lo k) st (occBody x ⟨#[c]⟩ x.length limit)).run.fst.size = st.fst.size + ((x.cps.toList.drop lo).take k).count c
  | 0, lo, st, _, _, _ => by simp
  | k + 1, lo, st, h1, h2, h3 => by
    rw [List.range'_succ, List.forIn_cons]
    have key : x.cps.toList[lo]? = some c ∧ ((x.cps.toList.drop lo).take (k + 1)).count c = 1 + ((x.cps.toList.drop (lo + 1)).take k).count c ∨ x.cps.toList[lo]? ≠ some c ∧ ((x.cps.toList.drop lo).take (k + 1)).count c = ((x.cps.toList.drop (lo + 1)).take k).count c := by
      by_cases hl : lo < x.cps.toList.length
      · rw [List.drop_eq_getElem_cons hl, List.take_succ_cons, List.getElem?_eq_getElem hl]
        by_cases e : x.cps.toList[lo] = c
        · rw [e, List.count_cons_self]; exact .inl ⟨rfl, by omega⟩
        · rw [List.count_cons_of_ne (by simpa using e)]; exact .inr ⟨by simpa using e, rfl⟩
      · rw [List.drop_eq_nil_of_le (by omega), List.drop_eq_nil_of_le (by omega)]
        exact .inr ⟨by rw [List.getElem?_eq_none (by omega)]; simp, by simp⟩
    unfold occBody
    rcases key with ⟨k1, k2⟩ | ⟨k1, k2⟩
    · obtain ⟨a1, a2⟩ := (subAt_one x c lo).mpr k1
      rw [if_pos ⟨⟨⟨by omega, h1⟩, a1⟩, a2⟩]
      show (forIn (List.range' (lo + 1) k) (st.fst.push lo, lo + (⟨#[c]⟩ : Str).length) (occBody x ⟨#[c]⟩ x.length limit)).run.fst.size = _
      rw [occ_one x c limit k (lo + 1) _ (Nat.le_refl _) (by show (st.fst.push lo).size ≤ _; rw [Array.size_push]; omega) (by omega), k2]
      show (st.fst.push lo).size + _ = _
      rw [Array.size_push]; omega
    · rw [if_neg fun z => k1 ((subAt_one x c lo).mp ⟨z.1.2, z.2⟩)]
      show (forIn (List.range' (lo + 1) k) (st.fst, st.snd) (occBody x ⟨#[c]⟩ x.length limit)).run.fst.size = _
      rw [occ_one x c limit k (lo + 1) (st.fst, st.snd) (by show st.snd ≤ _; omega) (by show st.fst.size ≤ _; omega) (by omega), k2]
theorem count_one (x : Str) (c : Nat) : Txt.count x ⟨#[c]⟩ = ((sL x).count c : Nat) := by
  unfold Txt.count
  rw [occ_eq, Array.length_toList]
  have := occ_one x c (x.length + 1) (x.length + 1 - 0) 0 (#[], 0) (Nat.le_refl _) (Nat.le_refl _) (by omega)
  rw [this]
  congr 1
  rw [List.drop_zero, List.take_of_length_le (by simp [Str.length])]
  simp [sL]
end
def countSD (d : D) (ds : List D) : Option D := match d, ds with
  | .str a, [.str b] => match sL b with
    | [c] => some (.int ((sL a).count c : Nat))
    | _ => some (.int (Txt.count a b))
  | _, _ => none
def rCountS : V → List V → Hp → VK → Prop := fun x xs H Q => ∃ a b, x = .str a ∧ xs = [.str b] ∧ Q (.int (Txt.count a b)) H
theorem sL_one {b : Str} {c : Nat} (h : sL b = [c]) : b = ⟨#[c]⟩ := by
  cases b
  simp only [sL] at h
  rw [← Array.toList_inj.mp (show _ = (#[c] : Array Nat).toList from h)]
theorem v_countS {K : PySem.W.Frag} : VM K rCountS countSD := fun G H x xs dx ds d Q m rx r e q => by
  unfold countSD at e
  split at e
  · obtain ⟨v, rfl, r0⟩ := r.one
    obtain rfl := rx.str
    obtain rfl := r0.str
    split at e
    · rename_i c hc
      cases e
      obtain rfl := sL_one hc
      refine ⟨_, _, rfl, rfl, ?_⟩
      rw [count_one]
      exact q _ G H (.refl m) (.int _)
    · cases e
      exact ⟨_, _, rfl, rfl, q _ G H (.refl m) (.int _)⟩
  · cases e
/-! list.index, list.count -/
def indexD (d : D) (ds : List D) : Option D := match d, ds with
  | .list xs, [y] => if okk (.list xs) y = true then (xs.findIdx? fun z => PyData.eqv z y).map fun (j : Nat) => PyData.int (j : Int) else none
  | _, _ => none
def countLD (d : D) (ds : List D) : Option D := match d, ds with
  | .list xs, [y] => if okk (.list xs) y = true then some (.int (xs.countP fun z => PyData.eqv z y : Nat)) else none
  | _, _ => none
def rIdxL (K : PySem.W.Frag) : V → List V → Hp → VK → Prop := fun x xs H Q => ∃ (a : Addr) (vs : List V) (y : V) (d : D) (ds : List D) (j : Nat), x = V.ref a ∧ xs = [y] ∧ SqL K H a vs ∧ DpAll K H vs ds ∧ Dp K H y d ∧ okk (.list ds) d = true ∧ (ds.findIdx? fun z => PyData.eqv z d) = some j ∧ Q (.int (j : Nat)) H
def rCntL (K : PySem.W.Frag) : V → List V → Hp → VK → Prop := fun x xs H Q => ∃ (a : Addr) (vs : List V) (y : V) (d : D) (ds : List D), x = V.ref a ∧ xs = [y] ∧ SqL K H a vs ∧ DpAll K H vs ds ∧ Dp K H y d ∧ okk (.list ds) d = true ∧ Q (.int (ds.countP fun z => PyData.eqv z d : Nat)) H
section
variable {X : Cx}
theorem mt_idxL (hu : X.A.units + 64 < cLine) : MtR X "list.index" (rIdxL X.K) := by
  intro pins s σ H x xs v us Q I rx rxs h
  obtain ⟨a, vs, y, d, ds, j, rfl, rfl, hs, ha, hy, hc, hj, q⟩ := h
  cases rx
  obtain ⟨u, rfl, ry⟩ := rxs.one
  obtain ⟨bs, r1⟩ := Dp.reads I d y u hy ry
  obtain ⟨⟨p1, d1⟩, p2, d2⟩ := okk_spec hc
  have hpl : PyData.plainAll ds = true := by simpa [PyData.plain] using p1
  obtain ⟨its, rv, ⟨⟨cls, dd, data, sls⟩, n, ho, hc, hdn, hdt⟩, hlen⟩ := I.list hs
  simp only at hc hdt
  subst hc hdt
  obtain ⟨as, h4⟩ := Dp.readsAll I ds _ its ha rv
  have hmap : its.map (SeqAt.readOf s.heap) = ds := SeqAt.readsAll_map_plain ds its as hpl h4
  have hn : its.length = ds.length := by rw [← hmap, List.length_map]
  have hvl := rv.length
  have hjd : j < ds.length := by
    rw [List.findIdx?_eq_some_iff_getElem] at hj
    exact hj.1
  have at_ : ∀ (m : Nat) (hm : m < its.toArray.size) (z' : D), ds[m]? = some z' → SeqAt.readOf s.heap its.toArray[m] = z' := by
    intro m hm z' hz'
    have hml : m < its.length := by simpa using hm
    rw [← hmap, List.getElem?_map, List.getElem?_eq_getElem hml] at hz'
    have e1 : SeqAt.readOf s.heap its[m] = z' := Option.some.inj (show some (SeqAt.readOf s.heap its[m]) = some z' from hz')
    simpa using e1
  rw [List.findIdx?_eq_some_iff_getElem] at hj
  obtain ⟨h1, h2, h3⟩ := hj
  have hjs : j < its.toArray.size := by rw [List.size_toArray]; omega
  refine call_meets PySem.F.slot_list_index ⟨_, ho, rfl⟩ PySem.F.entry_list_index (PySem.F.args_list_index_2 _ _)
    (SeqAt.list_indexAt a its.toArray n dd sls u (fun u => PyData.eqv (SeqAt.readOf s.heap u) d) j hjs (by have := sizeLine_eq; omega) ?_ ?_) ⟨ho, SeqAt.items_plain (vs := its.toArray) (show ReadsAll s.heap its.toArray.toList ds as from h4) r1 hpl p2 (by omega), ?_⟩
  · show PyData.eqv (SeqAt.readOf s.heap its.toArray[j]) d = true
    rw [at_ j hjs _ (List.getElem?_eq_getElem h1)]
    exact h2
  · intro m hm hmj
    have hmd : m < ds.length := by omega
    show PyData.eqv (SeqAt.readOf s.heap its.toArray[m]) d = false
    rw [at_ m hm _ (List.getElem?_eq_getElem hmd)]
    have := h3 m hmj
    simpa using this
  · exact ⟨.int (j : Nat), H, I.tok _, ⟨_, rfl⟩, q⟩
theorem mt_cntL (hu : X.A.units + 64 < cLine) : MtR X "list.count" (rCntL X.K) := by
  intro pins s σ H x xs v us Q I rx rxs h
  obtain ⟨a, vs, y, d, ds, rfl, rfl, hs, ha, hy, hc, q⟩ := h
  cases rx
  obtain ⟨u, rfl, ry⟩ := rxs.one
  obtain ⟨bs, r1⟩ := Dp.reads I d y u hy ry
  obtain ⟨⟨p1, d1⟩, p2, d2⟩ := okk_spec hc
  have hpl : PyData.plainAll ds = true := by simpa [PyData.plain] using p1
  obtain ⟨its, rv, ⟨⟨cls, dd, data, sls⟩, n, ho, hc, hdn, hdt⟩, hlen⟩ := I.list hs
  simp only at hc hdt
  subst hc hdt
  obtain ⟨as, h4⟩ := Dp.readsAll I ds _ its ha rv
  have hmap : its.map (SeqAt.readOf s.heap) = ds := SeqAt.readsAll_map_plain ds its as hpl h4
  refine call_meets PySem.F.slot_list_count ⟨_, ho, rfl⟩ PySem.F.entry_list_count (PySem.F.args_list_count_2 _ _)
    (SeqAt.list_countAt a its.toArray n dd sls u (fun u => PyData.eqv (SeqAt.readOf s.heap u) d)) ⟨ho, SeqAt.items_plain (vs := its.toArray) (show ReadsAll s.heap its.toArray.toList ds as from h4) r1 hpl p2 (by omega), ?_⟩
  have ec : its.toArray.toList.countP (fun u => PyData.eqv (SeqAt.readOf s.heap u) d) = ds.countP fun z => PyData.eqv z d := by
    rw [← hmap, List.countP_map]; rfl
  refine ⟨.int (ds.countP fun z => PyData.eqv z d : Nat), H, I.tok _, ⟨s.toks, ?_⟩, q⟩
  show Value.int ((its.toArray.toList.countP (fun u => PyData.eqv (SeqAt.readOf s.heap u) d) : Nat) : Int) s.toks = Value.int ((ds.countP fun z => PyData.eqv z d : Nat) : Int) s.toks
  rw [ec]
end
section
variable {K : PySem.W.Frag}
theorem v_indexL : VM K (rIdxL K) indexD := fun G H x xs dx ds d Q m rx r e q => by
  unfold indexD at e
  split at e
  · obtain ⟨hc, e⟩ := of_ite2 e
    obtain ⟨j, hj, rfl⟩ := Option.map_eq_some_iff.mp e
    obtain ⟨v, rfl, r0⟩ := r.one
    obtain ⟨a, vs, rfl, h1, r1⟩ := rx.lst m
    obtain ⟨⟨p1, d1⟩, p2, d2⟩ := okk_spec hc
    exact ⟨a, vs, v, _, _, j, rfl, rfl, .inl h1, r1.dp m (by simpa [PyData.plain] using p1), r0.dp m p2, hc, hj, q _ G H (.refl m) (.int _)⟩
  · cases e
theorem v_countL : VM K (rCntL K) countLD := fun G H x xs dx ds d Q m rx r e q => by
  unfold countLD at e
  split at e
  · obtain ⟨hc, rfl⟩ := of_ite e
    obtain ⟨v, rfl, r0⟩ := r.one
    obtain ⟨a, vs, rfl, h1, r1⟩ := rx.lst m
    obtain ⟨⟨p1, d1⟩, p2, d2⟩ := okk_spec hc
    exact ⟨a, vs, v, _, _, rfl, rfl, .inl h1, r1.dp m (by simpa [PyData.plain] using p1), r0.dp m p2, hc, q _ G H (.refl m) (.int _)⟩
  · cases e
end
end PL

-- PLmut
/-! PL: what changes an owned list; several names at once. -/
namespace PL
open PySem PySem.Spec PyProof.Rows L2

/-- a method that changes the owned slot i; kd: what it is (list, dict) -/
def mutK (kd : D → Bool) (m : D → List D → Option (D × D)) (i : Nat) (fs : List WE) : WE := fun ε => (ownd ε i).bind fun c0 => if kd c0 = true then
  (evl fs ε).bind fun p => (ownd p.2 i).bind fun c => (m c p.1).bind fun q => (upc p.2 i q.2).bind fun ε' => some (q.1, ε') else none
def isL : D → Bool
  | .list _ => true
  | _ => false
section
variable (K : PySem.W.Frag)
def VMu (r : V → List V → Hp → VK → Prop) (m : D → List D → Option (D × D)) : Prop := ∀ (G H : Hp) (a : Addr) (u : HO) (c : D) (vs : List V) (ds : List D) (d c' : D) (Q : VK), Mo G H → G a = none → H a = some u → Cont K G u c → RpA K G vs ds → m c ds = some (d, c') →
  (∀ v u', Cont K G u' c' → Rp K G v d → Q v (upd H a u')) → r (.ref a) vs H Q
end
section
variable {K : PySem.W.Frag}
theorem re_mutL {i : Nat} {ta : TA} {fs : List WE} {r : V → List V → Hp → VK → Prop} {m : D → List D → Option (D × D)} (h : RL K ta fs) (hr : VMu K r m) : RE K (tBM K "list" r (tVar i) ta) (mutK isL m i fs) := fun Fr la σ ε G H d ε' Q s e q => by
  obtain ⟨c0, e0, e⟩ := bind_some e
  obtain ⟨hk, e⟩ := of_ite2 e
  obtain ⟨p, e1, e⟩ := bind_some e
  obtain ⟨c, e2, e⟩ := bind_some e
  obtain ⟨z, e3, e⟩ := bind_some e
  obtain ⟨ε2, e4, e⟩ := bind_some e
  cases e
  obtain ⟨a, u0, ⟨_, hσ⟩, _, _, hu0, c0'⟩ := s.ownd e0
  refine ⟨_, hσ, ?_, ?_⟩
  · cases c0' with
    | lst r => exact .inl ⟨rfl, _, .inl (.of hu0)⟩
    | dk _ => cases hk
    | dt _ => cases hk
  · refine h Fr la σ ε G H p.1 p.2 _ s e1 fun vs G1 H1 m1 s1 r1 => ?_
    obtain ⟨b, u, ho, g, f, hu, cc⟩ := s1.ownd e2
    have hb : b = a := by
      have := ho.2
      rw [hσ] at this
      cases this; rfl
    subst hb
    exact hr G1 H1 b u c vs p.1 z.1 z.2 Q s1.gh g hu cc r1 e3 fun v u' c' rv => q v G1 _ m1 (s1.write ho e4 c') rv
theorem re_mutL0 {i : Nat} {r : V → List V → Hp → VK → Prop} {m : D → List D → Option (D × D)} (hr : VMu K r m) : RE K (tBM0 K "list" r (tVar i)) (mutK isL m i []) := fun Fr la σ ε G H d ε' Q s e q => by
  obtain ⟨c0, e0, e⟩ := bind_some e
  obtain ⟨hk, e⟩ := of_ite2 e
  obtain ⟨p, e1, e⟩ := bind_some e
  cases e1
  obtain ⟨c, e2, e⟩ := bind_some e
  obtain ⟨z, e3, e⟩ := bind_some e
  obtain ⟨ε2, e4, e⟩ := bind_some e
  cases e
  obtain ⟨a, u0, ⟨_, hσ⟩, _, _, hu0, c0'⟩ := s.ownd e0
  refine ⟨_, hσ, ?_, ?_⟩
  · cases c0' with
    | lst r => exact .inl ⟨rfl, _, .inl (.of hu0)⟩
    | dk _ => cases hk
    | dt _ => cases hk
  · obtain ⟨b, u, ho, g, f, hu, cc⟩ := s.ownd e2
    have hb : b = a := by
      have := ho.2
      rw [hσ] at this
      cases this; rfl
    subst hb
    exact hr G H b u c [] [] z.1 z.2 Q s.gh g hu cc .nil e3 fun v u' c' rv => q v G _ (.refl G) (s.write ho e4 c') rv
end
/-! append, extend, pop, insert -/
def appM (c : D) (ds : List D) : Option (D × D) := match c, ds with
  | .list xs, [d] => if xs.length < big then some (.none, .list (xs ++ [d])) else none
  | _, _ => none
def extM (c : D) (ds : List D) : Option (D × D) := match c, ds with
  | .list xs, [.list ys] => if xs.length + ys.length ≤ big then some (.none, .list (xs ++ ys)) else none
  | _, _ => none
def popM (c : D) (ds : List D) : Option (D × D) := match c, ds with
  | .list xs, [] => (xs[xs.length - 1]?).map fun y => (y, .list xs.dropLast)
  | .list xs, [.int i] => if lowI i = true then (ixN xs.length i).bind fun k => (xs[k]?).map fun y => (y, .list (xs.eraseIdx k)) else none
  | _, _ => none
theorem Cont.list {K : PySem.W.Frag} {G : Hp} {u : HO} {xs : List D} (h : Cont K G u (.list xs)) : ∃ vs, u = .lst vs ∧ RpA K G vs xs := by
  cases h with | lst r => exact ⟨_, rfl, r⟩
theorem RpA.one {K : PySem.W.Frag} {G : Hp} {vs : List V} {d : D} (h : RpA K G vs [d]) : ∃ v, vs = [v] ∧ Rp K G v d := by
  cases h with | cons a b => cases b; exact ⟨_, rfl, a⟩
theorem RpA.nil' {K : PySem.W.Frag} {G : Hp} {vs : List V} (h : RpA K G vs []) : vs = [] := by cases h; rfl
theorem RpA.erase {K : PySem.W.Frag} {G : Hp} : ∀ {vs : List V} {ds : List D} (n : Nat), RpA K G vs ds → RpA K G (vs.eraseIdx n) (ds.eraseIdx n)
  | _, _, _, .nil => .nil
  | _, _, 0, .cons _ t => t
  | _, _, n + 1, .cons r t => .cons r (RpA.erase n t)
theorem RpA.dropLast {K : PySem.W.Frag} {G : Hp} {vs : List V} {ds : List D} (h : RpA K G vs ds) : RpA K G vs.dropLast ds.dropLast := by
  rw [List.dropLast_eq_take, List.dropLast_eq_take, h.length]; exact h.take _
def rExtL : V → List V → Hp → VK → Prop := fun x vs H Q => ∃ l b xs zs, x = .ref l ∧ vs = [.ref b] ∧ H l = some (.lst xs) ∧ Rd H b (.lst zs) ∧ xs.length + zs.length ≤ sizeLine ∧ Q .non (upd H l (.lst (xs ++ zs)))
theorem mt_extL {X : Cx} : MtR X "list.extend" rExtL := by
  intro pins s σ H x vs v us Q I rx rv h
  obtain ⟨l, b, xs, zs, rfl, rfl, hH, hB, hz, q⟩ := h
  cases rx
  obtain ⟨u, rfl, ru⟩ := rv.one
  cases ru
  obtain ⟨z, its, n, r, hl, e⟩ := I.lstM hH
  obtain ⟨z2, its2, n2, r2, hl2, e2⟩ := rd_lst I hB
  have hsz : its.toArray.size + its2.toArray.size ≤ sizeLine := by rw [List.size_toArray, List.size_toArray]; omega
  have hlong : ¬ (!its.toArray.isEmpty && Builtin.List.listTooLong (its.toArray.size + its2.toArray.size)) = true := by
    rw [notLongL hsz, Bool.and_false]
    exact Bool.false_ne_true
  refine call_meets F.slot_list_extend ⟨_, e, rfl⟩ F.entry_list_extend (F.args_list_extend_2 _ _)
    (AutoSeq1.list_extend_list_list_0 l its.toArray n b its2.toArray n2 hlong (by rw [List.size_toArray]; omega) (by omega)) ⟨e, e2, ?_⟩
  refine ⟨.non, _, I.lset (its' := its ++ its2) hH e (by simp) (r.append r2) ?_, rfl, q⟩
  rw [List.length_append]
  omega
def rPopP : V → List V → Hp → VK → Prop := fun x vs H Q => rPop x vs H Q ∨ rPopAt x vs H Q
section
variable {K : PySem.W.Frag}
theorem m_app : VMu K rAppend appM := fun G H a u c vs ds d c' Q m g hu cc r e q => by
  unfold appM at e
  split at e
  · obtain ⟨hc, e⟩ := of_ite e
    cases e
    obtain ⟨ws, rfl, rw'⟩ := cc.list
    obtain ⟨v, rfl, rv⟩ := r.one
    exact ⟨a, ws, v, rfl, rfl, hu, by have := rw'.length; have := sizeLine_eq; have : big = 1000000 := rfl; omega, q _ _ (.lst (rw'.append (.cons rv .nil))) .non⟩
  · cases e
theorem m_ext : VMu K rExtL extM := fun G H a u c vs ds d c' Q m g hu cc r e q => by
  unfold extM at e
  split at e
  · obtain ⟨hc, e⟩ := of_ite e
    cases e
    obtain ⟨ws, rfl, rw'⟩ := cc.list
    obtain ⟨v, rfl, rv⟩ := r.one
    cases rv with
    | lst hb rb => exact ⟨a, _, ws, _, rfl, rfl, hu, m.rd _ _ trivial hb, big_line (by rw [rw'.length, rb.length]; exact hc), q _ _ (.lst (rw'.append rb)) .non⟩
  · cases e
theorem m_pop : VMu K rPopP popM := fun G H a u c vs ds d c' Q m g hu cc r e q => by
  unfold popM at e
  split at e
  · obtain ⟨y, hy, e⟩ := Option.map_eq_some_iff.mp e
    cases e
    obtain ⟨ws, rfl, rw'⟩ := cc.list
    obtain rfl := r.nil'
    obtain ⟨w, hw, rr⟩ := rw'.getD hy
    exact .inl ⟨a, ws, w, rfl, rfl, hu, by rw [rw'.length]; exact hw, q _ _ (.lst rw'.dropLast) rr⟩
  · obtain ⟨hc, e⟩ := of_ite2 e
    obtain ⟨k, hk, e⟩ := bind_some e
    obtain ⟨y, hy, e⟩ := Option.map_eq_some_iff.mp e
    cases e
    obtain ⟨ws, rfl, rw'⟩ := cc.list
    obtain ⟨v, rfl, rv⟩ := r.one
    cases rv
    obtain ⟨l1, l2⟩ := lowI_spec hc
    obtain ⟨w, hw, rr⟩ := rw'.getD hy
    exact .inr ⟨a, ws, _, k, w, rfl, rfl, hu, l1, l2, by rw [rw'.length]; exact (ixN_seq hk).1, hw, q _ _ (.lst (rw'.erase k)) rr⟩
  · cases e
end
/-! x[i] = v -/
def setLM (c i v : D) : Option D := match c, i with
  | .list xs, .int k => (ixN xs.length k).map fun j => .list (xs.set j v)
  | _, _ => none
theorem rs_setL {K : PySem.W.Frag} {i : Nat} {te ti : TE} {fv fi : WE} (h : RE K te fv) (hi : RE K ti fi) : RS K (tAsg te (gSub (tVar i) ti rSetL)) (setI setLM i fi fv) := fun Fr la σ ε G H o D s e q => by
  obtain ⟨p, e1, e⟩ := bind_some e
  obtain ⟨c0, e2, e⟩ := bind_some e
  obtain ⟨p2, e3, e⟩ := bind_some e
  obtain ⟨c, e4, e⟩ := bind_some e
  obtain ⟨c', e5, e⟩ := bind_some e
  obtain ⟨ε2, e6, e⟩ := bind_some e
  cases e
  refine h Fr la σ ε G H p.1 p.2 _ s e1 fun v G1 H1 m1 s1 r1 => ?_
  obtain ⟨a, u0, ⟨_, hσ⟩, _⟩ := s1.ownd e2
  refine ⟨_, hσ, ?_⟩
  refine hi Fr la σ p.2 G1 H1 p2.1 p2.2 _ s1 e3 fun w G2 H2 m2 s2 r2 => ?_
  obtain ⟨b, u, ho, g, f, hu, cc⟩ := s2.ownd e4
  have hb : b = a := by
    have := ho.2
    rw [hσ] at this
    cases this; rfl
  subst hb
  unfold setLM at e5
  split at e5
  · rename_i _ _ xs k hxk
    obtain ⟨j, hj, rfl⟩ := Option.map_eq_some_iff.mp e5
    obtain ⟨ws, rfl, rw'⟩ := cc.list
    rw [hxk] at r2
    cases r2
    exact ⟨b, ws, _, j, rfl, rfl, hu, by rw [rw'.length]; exact hj, q σ G2 _ (m1.trans m2) (s2.write ho e6 (.lst (rw'.set (r1.mo m2) j)))⟩
  · cases e5
/-! a, b = x, y -/
section
variable {K : PySem.W.Frag} {Fr : Hp} {la : Addr} {σ : L2.St} {ε : En} {G H G' H' : Hp}
theorem Fsh.fore (s : Stt K Fr la σ ε G H) {p : Addr} {d : D} {u : HO} (f : Fsh K Fr σ ε G H p d) (hu : H p = some u) : Stt K (upd Fr p u) la σ ε G H where
  gh := s.gh
  fr := fun a o e => by
    by_cases z : a = p
    · subst z; rw [upd_same] at e; cases e; exact hu
    · rw [upd_ne z] at e; exact s.fr a o e
  ds := fun a o e => by
    by_cases z : a = p
    · subst z; exact .inl f.g
    · rw [upd_ne z] at e; exact s.ds a o e
  len := s.len
  sl := fun i e he => by
    have q := s.sl i e he
    have ne : ∀ a, Own σ ε i a → a ≠ p := fun a ho z => f.o i (z ▸ ho)
    cases e with
    | un => trivial
    | im d => exact q
    | mu d =>
      obtain ⟨a, w, q1, g1, f1, hu1, c⟩ := q
      exact ⟨a, w, q1, g1, by rw [upd_ne (ne a ⟨⟨_, he, trivial⟩, q1⟩)]; exact f1, hu1, c⟩
    | ln d =>
      obtain ⟨w, q1, g1, f1, hu1, c⟩ := q
      exact ⟨w, q1, g1, by rw [upd_ne (ne la ⟨⟨_, he, trivial⟩, q1⟩)]; exact f1, hu1, c⟩
  sep := s.sep
theorem Fsh.after {p : Addr} {d : D} {u : HO} {ε2 : En} {σ2 : L2.St} {G2 H2 : Hp} (f : Fr p = none) (c : Cont K G u d) (m : Mo G G2) (s : Stt K (upd Fr p u) la σ2 ε2 G2 H2) : Stt K Fr la σ2 ε2 G2 H2 ∧ Fsh K Fr σ2 ε2 G2 H2 p d := by
  refine ⟨s.weak fun a o e => by rw [upd_ne (ne_of_none e f)]; exact e, ?_, f, ⟨u, s.fr p u upd_same, c.mo m⟩, fun i ho => ?_⟩
  · exact (s.ds p u upd_same).resolve_right c.noImm
  · obtain ⟨_, f2, _⟩ := s.own ho
    rw [upd_same] at f2; cases f2
/-- values, some of them new -/
inductive FrA (K : PySem.W.Frag) (Fr : Hp) (σ : L2.St) (ε : En) (G H : Hp) : List (Bool × D) → List V → Prop
  | nil : FrA K Fr σ ε G H [] []
  | im {d ds v vs} : Rp K G v d → FrA K Fr σ ε G H ds vs → FrA K Fr σ ε G H ((false, d) :: ds) (v :: vs)
  | mu {d ds p vs} : Fsh K Fr σ ε G H p d → FrA K Fr σ ε G H ds vs → V.ref p ∉ vs → FrA K Fr σ ε G H ((true, d) :: ds) (.ref p :: vs)
end

section
variable {K : PySem.W.Frag} {Fr : Hp} {la : Addr} {σ : L2.St} {ε : En} {G H G' H' : Hp}
theorem Rp.noRef {p : Addr} {d : D} (g : G p = none) (r : Rp K G (.ref p) d) : False := by
  have rd : ∀ u, ¬ Rd G p u := fun u h => by rcases h with h | ⟨o, h⟩ <;> (rw [g] at h; cases h)
  cases r with
  | lst h _ => exact rd _ h
  | tup h _ => rw [g] at h; cases h
  | dk h _ => exact rd _ h
  | dt h _ => exact rd _ h
theorem own_im {i k : Nat} {a : Addr} {v : V} {d : D} (h : Own (σ.set i (some v)) (ε.set i (.im d)) k a) : Own σ ε k a := by
  obtain ⟨⟨e, he, ho⟩, hs⟩ := h
  by_cases q : i = k
  · subst q
    by_cases l : i < ε.length
    · rw [List.getElem?_set_self l] at he; cases he; exact ho.elim
    · rw [List.getElem?_eq_none (by rw [List.length_set]; omega)] at he; cases he
  · rw [List.getElem?_set_ne q] at he hs
    exact ⟨⟨e, he, ho⟩, hs⟩
theorem own_mu {i k : Nat} {a p : Addr} {d : D} (h : Own (σ.set i (some (.ref p))) (ε.set i (.mu d)) k a) : a = p ∨ Own σ ε k a := by
  obtain ⟨⟨e, he, ho⟩, hs⟩ := h
  by_cases q : i = k
  · subst q
    by_cases l : i < σ.length
    · rw [List.getElem?_set_self l] at hs; cases hs; exact .inl rfl
    · rw [List.getElem?_eq_none (by rw [List.length_set]; omega)] at hs; cases hs
  · rw [List.getElem?_set_ne q] at he hs
    exact .inr ⟨⟨e, he, ho⟩, hs⟩
theorem FrA.step_im {i : Nat} {v : V} {d : D} {ds : List (Bool × D)} {vs : List V} (h : FrA K Fr σ ε G H ds vs) : FrA K Fr (σ.set i (some v)) (ε.set i (.im d)) G H ds vs := by
  induction h with
  | nil => exact .nil
  | im r _ ih => exact .im r ih
  | mu f _ n ih => exact .mu ⟨f.g, f.f, f.h, fun k ho => f.o k (own_im ho)⟩ ih n
theorem FrA.step_mu {i : Nat} {p : Addr} {d : D} {ds : List (Bool × D)} {vs : List V} (h : FrA K Fr σ ε G H ds vs) (hn : V.ref p ∉ vs) : FrA K Fr (σ.set i (some (.ref p))) (ε.set i (.mu d)) G H ds vs := by
  induction h with
  | nil => exact .nil
  | im r _ ih => exact .im r (ih fun z => hn (List.mem_cons_of_mem _ z))
  | @mu d1 ds1 p1 vs1 f _ n ih =>
    refine .mu ⟨f.g, f.f, f.h, fun k ho => ?_⟩ (ih fun z => hn (List.mem_cons_of_mem _ z)) n
    rcases own_mu ho with z | ho
    · subst z; exact hn List.mem_cons_self
    · exact f.o k ho
end
section
variable (K : PySem.W.Frag)
def RLp (t : TA) (fs : List (Bool × WE)) : Prop := ∀ (Fr : Hp) (la : Addr) (σ : L2.St) (ε : En) (G H : Hp) (ds : List (Bool × D)) (ε' : En) (Q : List V → Hp → Prop), Stt K Fr la σ ε G H → evp fs ε = some (ds, ε') →
  (∀ vs G' H', Mo G G' → Stt K Fr la σ ε' G' H' → FrA K Fr σ ε' G' H' ds vs → Q vs H') → t σ H Q
end
section
variable {K : PySem.W.Frag}
theorem rlp_nil : RLp K tNil [] := fun Fr la σ ε G H ds ε' Q s e q => by
  cases e
  exact q [] G H (.refl G) s .nil
theorem rlp_im {te : TE} {t : TA} {f : WE} {fs : List (Bool × WE)} (h1 : RE K te f) (h2 : RLp K t fs) : RLp K (tCons te t) ((false, f) :: fs) := fun Fr la σ ε G H ds ε' Q s e q => by
  obtain ⟨p, e1, e⟩ := bind_some e
  obtain ⟨r, e2, e⟩ := bind_some e
  cases e
  refine h1 Fr la σ ε G H p.1 p.2 _ s e1 fun v G1 H1 m1 s1 r1 => ?_
  exact h2 Fr la σ p.2 G1 H1 r.1 r.2 _ s1 e2 fun vs G2 H2 m2 s2 r2 => q (v :: vs) G2 H2 (m1.trans m2) s2 (.im (r1.mo m2) r2)
theorem frA_back {Fr : Hp} {σ : L2.St} {ε : En} {G H : Hp} {p : Addr} {u : HO} {ds : List (Bool × D)} {vs : List V} (h : FrA K (upd Fr p u) σ ε G H ds vs) (g : G p = none) : FrA K Fr σ ε G H ds vs ∧ V.ref p ∉ vs := by
  induction h with
  | nil => exact ⟨.nil, fun z => nomatch z⟩
  | im r _ ih =>
    refine ⟨.im r ih.1, fun z => ?_⟩
    rcases List.mem_cons.mp z with z | z
    · subst z; exact r.noRef g
    · exact ih.2 z
  | @mu d1 ds1 p1 vs1 f _ n ih =>
    have ne : p1 ≠ p := fun z => by have := f.f; rw [z, upd_same] at this; cases this
    have f1 : Fr p1 = none := by have := f.f; rwa [upd_ne ne] at this
    refine ⟨.mu ⟨f.g, f1, f.h, f.o⟩ ih.1 n, fun z => ?_⟩
    rcases List.mem_cons.mp z with z | z
    · cases z; exact ne rfl
    · exact ih.2 z
theorem rlp_mu {te : TE} {t : TA} {f : WE} {fs : List (Bool × WE)} (h1 : RF K te f) (h2 : RLp K t fs) : RLp K (tCons te t) ((true, f) :: fs) := fun Fr la σ ε G H ds ε' Q s e q => by
  obtain ⟨p, e1, e⟩ := bind_some e
  obtain ⟨r, e2, e⟩ := bind_some e
  cases e
  refine h1 Fr la σ ε G H p.1 p.2 _ s e1 fun a G1 H1 m1 s1 r1 => ?_
  obtain ⟨u, hu, c⟩ := r1.h
  refine h2 (upd Fr a u) la σ p.2 G1 H1 r.1 r.2 _ (r1.fore s1 hu) e2 fun vs G2 H2 m2 s2 r2 => ?_
  obtain ⟨s3, f3⟩ := Fsh.after r1.f c m2 s2
  obtain ⟨a1, a2⟩ := frA_back r2 f3.g
  exact q (.ref a :: vs) G2 H2 (m1.trans m2) s3 (.mu f3 a1 a2)
theorem setp_run {Fr : Hp} {la : Addr} {G H : Hp} : ∀ {is : List Nat} {ds : List (Bool × D)} {vs : List V} {σ : L2.St} {ε ε' : En}, Stt K Fr la σ ε G H → FrA K Fr σ ε G H ds vs → setp is ds ε = some ε' → vs.length = is.length ∧ Stt K Fr la ((is.zip vs).foldl (fun σ z => σ.set z.1 (some z.2)) σ) ε' G H
  | [], _, _, σ, ε, ε', s, .nil, e => by cases e; exact ⟨rfl, s⟩
  | i :: is, _, _, σ, ε, ε', s, .im r t, e => by
    obtain ⟨a, b⟩ := setp_run (s.set i r) t.step_im e
    exact ⟨congrArg (· + 1) a, b⟩
  | i :: is, _, _, σ, ε, ε', s, .mu f t n, e => by
    obtain ⟨a, b⟩ := setp_run (s.setM i f) (t.step_mu n) e
    exact ⟨congrArg (· + 1) a, b⟩
  | _ :: _, _, _, _, _, _, _, .nil, e => by cases e
  | [], _, _, _, _, _, _, .im _ _, e => by cases e
  | [], _, _, _, _, _, _, .mu _ _ _, e => by cases e
theorem rs_par {i j : Nat} {ta : TA} {fs : List (Bool × WE)} (h : RLp K ta fs) : RS K (tPar i j ta) (parS [i, j] fs) := fun Fr la σ ε G H o D s e q => by
  obtain ⟨p, e1, e⟩ := bind_some e
  obtain ⟨ε1, e2, e⟩ := bind_some e
  cases e
  refine h Fr la σ ε G H p.1 p.2 _ s e1 fun vs G1 H1 m1 s1 r1 => ?_
  obtain ⟨hl, s2⟩ := setp_run s1 r1 e2
  match vs, hl with
  | [v, w], _ => exact ⟨v, w, rfl, q _ G1 H1 m1 s2⟩
theorem rs_par3 {i j l : Nat} {ta : TA} {fs : List (Bool × WE)} (h : RLp K ta fs) : RS K (tPar3 i j l ta) (parS [i, j, l] fs) := fun Fr la σ ε G H o D s e q => by
  obtain ⟨p, e1, e⟩ := bind_some e
  obtain ⟨ε1, e2, e⟩ := bind_some e
  cases e
  refine h Fr la σ ε G H p.1 p.2 _ s e1 fun vs G1 H1 m1 s1 r1 => ?_
  obtain ⟨hl, s2⟩ := setp_run s1 r1 e2
  match vs, hl with
  | [v, w, x], _ => exact ⟨v, w, x, rfl, q _ G1 H1 m1 s2⟩
end
/-! x < y < z -/
section
variable {K : PySem.W.Frag}
theorem chain_ok : True := trivial
end
end PL

-- PLend
/-! PL: chains; defs whose answer is new; the law. -/
namespace PL
open PySem PySem.Spec PyProof.Rows L2

theorem re_chain {K : PySem.W.Frag} {ta tb tc : TE} {fa fb fc : WE} {r r' : R2} {g g' : D → D → Option D} (ha : RE K ta fa) (hb : RE K tb fb) (hc : RE K tc fc) (hr : V2 K r g) (hr' : V2 K r' g') : RE K (tChain r r' ta tb tc) (chainE g g' fa fb fc) := fun Fr la σ ε G H d ε' Q s e q => by
  obtain ⟨p, e1, e⟩ := bind_some e
  obtain ⟨p2, e2, e⟩ := bind_some e
  obtain ⟨z, e3, e⟩ := bind_some e
  refine ha Fr la σ ε G H p.1 p.2 _ s e1 fun v G1 H1 m1 s1 r1 => ?_
  refine hb Fr la σ p.2 G1 H1 p2.1 p2.2 _ s1 e2 fun w G2 H2 m2 s2 r2 => ?_
  refine hr G2 H2 v w p.1 p2.1 z _ s2.gh (.rp (r1.mo m2)) (.rp r2) e3 fun y G3 H3 n3 r3 => ?_
  have s3 := s2.new n3
  cases z with
  | bool k =>
    cases r3
    refine ⟨k, rfl, ?_⟩
    cases k with
    | true =>
      rw [if_pos rfl]
      obtain ⟨p4, e4, e⟩ := bind_some e
      obtain ⟨d4, e5, e⟩ := bind_some e
      cases e
      refine hc Fr la σ p2.2 G3 H3 p4.1 p4.2 _ s3 e4 fun x G4 H4 m4 s4 r4 => ?_
      exact hr' G4 H4 w x p2.1 p4.1 d Q s4.gh (.rp ((r2.mo n3.mo).mo m4)) (.rp r4) e5 fun y G5 H5 n5 r5 => q y G5 H5 ((((m1.trans m2).trans n3.mo).trans m4).trans n5.mo) (s4.new n5) r5
    | false =>
      rw [if_neg (by decide)]
      cases e
      exact q _ G3 H3 ((m1.trans m2).trans n3.mo) s3 (.bl false)
  | _ => cases e

/-! ### a def whose answer is a new list -/
def spF (K : PySem.W.Frag) (n : Nat) (F : List D → Option D) : Sp := fun vs H Q _ => ∃ (G Fr : Hp) (ds : List D) (d : D), Mo G H ∧ Ex Fr H ∧ DsJ Fr G ∧ RpA K G vs ds ∧ ds.length = n ∧ F ds = some d ∧
  ∀ p G' H', Mo G G' → Mo G' H' → Ex Fr H' → DsJ Fr G' → G' p = none → Fr p = none → (∃ u, H' p = some u ∧ Cont K G' u d) → Q (.ref p) H'
def seqFS (a b : WS) : WS := fun ε => (a ε).bind fun o => match o with
  | .nx ε' => b ε'
  | _ => none
def RSF (K : PySem.W.Frag) (t : TS) (W : WS) : Prop := ∀ (Fr : Hp) (la : Addr) (σ : L2.St) (ε : En) (G H : Hp) (o : Out) (D : Ends), Stt K Fr la σ ε G H → W ε = some o →
  (∀ d ε' p σ' G' H', o = .rt d ε' → Mo G G' → Stt K Fr la σ' ε' G' H' → Fsh K Fr σ' ε' G' H' p d → D.rt (.ref p) H') → t D σ H
theorem rsf_seq {K : PySem.W.Frag} {t u : TS} {W X : WS} (h1 : RS K t W) (h2 : RSF K u X) : RSF K (tSeq t u) (seqFS W X) := fun Fr la σ ε G H o D s e q => by
  obtain ⟨o1, e1, e⟩ := bind_some e
  refine h1 Fr la σ ε G H o1 _ s e1 ?_
  cases o1 with
  | nx ε1 => exact fun σ1 G1 H1 m1 s1 => h2 Fr la σ1 ε1 G1 H1 o D s1 e (fun d ε' p σ' G' H' eo m s' f => q d ε' p σ' G' H' eo (m1.trans m) s' f)
  | bk ε1 => cases e
  | ct ε1 => cases e
  | rt d ε1 => cases e
theorem rsf_ret {K : PySem.W.Frag} {te : TE} {f : WE} (h1 : RF K te f) : RSF K (tRet te) (retS f) := fun Fr la σ ε G H o D s e q => by
  obtain ⟨p, e1, e⟩ := bind_some e
  cases e
  exact h1 Fr la σ ε G H p.1 p.2 _ s e1 fun a G1 H1 m1 s1 f1 => q p.1 p.2 a σ G1 H1 rfl m1 s1 f1
section
variable {K : PySem.W.Frag} {Fr : Hp} {la : Addr} {σ : L2.St} {ε : En} {G H G' H' : Hp}
theorem rf_callF {n : Nat} {F : List D → Option D} {ta : TA} {fs : List WE} {E : XK} (h : RL K ta fs) (hn : fs.length = n := by rfl) : RF K (tCall (spF K n F) [] E ta) (callE F fs) := fun Fr la σ ε G H d ε' Q s e q => by
  obtain ⟨⟨ds, ε1⟩, e1, e⟩ := bind_some e
  obtain ⟨d1, e2, e⟩ := bind_some e
  cases e
  refine h Fr la σ ε G H ds ε1 _ s e1 fun vs G1 H1 m1 s1 r1 => ?_
  rw [List.append_nil]
  refine ⟨G1, Frc G1 H1 fun _ => False, ds, d, s1.gh, frc_ex, frc_ds, r1, (evl_len e1).trans hn, e2, fun p G2 H2 m2 gh f dsj g2 fp c => ?_⟩
  have s2 := s1.called (fun _ z => z.elim) m2 gh f dsj ε1 rfl (fun _ _ z => z) fun i e he => .inl ⟨he, fun _ _ z => z⟩
  refine q p G2 H2 (m1.trans m2) s2 ⟨g2, ?_, c, fun i ho => ?_⟩
  · cases z : Fr p with
    | none => rfl
    | some o =>
      have := frc_of (no := fun _ => False) (s1.fr p o z) ((s1.ds p o z).imp (fun w => ⟨w, fun x => x⟩) fun w => w)
      rw [fp] at this; cases this
  · obtain ⟨g, f1, u, d0, _, hu, c0⟩ := s1.own ho
    have := frc_of (no := fun _ => False) hu (.inl ⟨g, fun x => x⟩)
    rw [fp] at this; cases this
end
section
variable {P : Program} {w : World} {K : PySem.W.Frag} {mg : Str → Option Value} {base : Heap}
def runF (n : Nat) (W : WS) (ds : List D) : Option D := (W (ini n ds)).bind fun o => match o with
  | .rt d _ => some d
  | _ => none
theorem spF_len {n : Nat} {F : List D → Option D} {vs : List V} {H : Hp} {Q : VK} {E : XK} (h : spF K n F vs H Q E) : vs.length = n := by
  obtain ⟨G, Fr, ds, d, _, _, _, r, hn, _⟩ := h
  rw [r.length]; exact hn
theorem ok_F {x qual : Str} {st : Stmt} {f : Addr} {fd : FuncData} {N ps : List Str} {k n m : Nat} (F : Fun K x qual st f fd) (S : FnScope N ps (defScope st)) {W : WS} (hN : N.length = n) (hps : ps.length = m)
    (hbody : ∀ (cdv : Value) (A : Around) (outer : List Env) (s : Shared) (H : Hp) (E : XK), Room k (A.deeper (envOfC qual (defScope st) s.heap.objs.size f cdv)) → A.guards = some [] →
      ∃ t, PSs (cxOf CX0 P w K mg base N qual (defScope st) f cdv A outer s H E).nox (defBody st) t ∧ RSF K t W) : FnG P w K mg base CX0 (k + 1) f fd ps (spF K m (runF n W)) := by
  refine fun_okG F S (fun vs H Q E h => (spF_len h).trans hps.symm) fun cdv A outer s H vs Q E hr hg h => ?_
  obtain ⟨t, ht, hs⟩ := hbody cdv A outer s H E hr hg
  refine ⟨t, ht, ?_⟩
  obtain ⟨G, Fr, ds, d, gh, fr, dj, r, hn, e, q⟩ := h
  have hl : ds.length ≤ n := by
    rw [hn, ← hps, ← hN]
    have := congrArg List.length S.pre
    rw [List.length_take] at this; omega
  obtain ⟨o, e1, e2⟩ := bind_some e
  refine hs Fr 0 _ _ G H o _ (stt_ini gh fr dj r hN hl) e1 fun d' ε' p σ' G' H' eo m s' f' => ?_
  subst eo
  cases e2
  exact q p G' H' m s'.gh s'.fr s'.ds f'.g f'.f f'.h
end

/-! ### the law -/
def noLists (K : PySem.W.Frag) : Bool := K.all fun p => !(p.2.cls == .type "list")
theorem noLists_spec {K : PySem.W.Frag} (h : noLists K = true) {a : Addr} {o : Obj} (e : K.lookup a = some o) : o.cls ≠ .type "list" := by
  induction K with
  | nil => cases e
  | cons p K ih =>
    unfold noLists at h ih
    rw [List.all_cons, Bool.and_eq_true] at h
    obtain ⟨b, ob⟩ := p
    rw [List.lookup_cons] at e
    cases z : a == b with
    | true =>
      rw [z] at e; cases e
      have := h.1
      intro e
      rw [e] at this
      have z : (Value.type "list" == Value.type "list") = true := by decide
      rw [z] at this; cases this
    | false => rw [z] at e; exact ih h.2 e
def lawOk (F : List D → Option D) : Prop := ∀ ns : List Int, ns.length ≤ 63 → F [.list (ns.map .int)] = some (.bool true)
theorem rpa_ints {K : PySem.W.Frag} {G : Hp} : ∀ ns : List Int, RpA K G (ns.map V.int) (ns.map .int)
  | [] => .nil
  | n :: ns => .cons (.int n) (rpa_ints ns)
theorem law_callG {P : Program} {w : World} {K : PySem.W.Frag} {mg mb : Str → Option Value} {k : Nat} {fa a : Addr} {fd : FuncData} {x : Str} {F : List D → Option D} {s₁ : Shared} {vs : List Value} {ns : List Int}
    (KX : K.In s₁.heap) (nl : noLists K = true) (hns : s₁.heap.Ns mainGlobals mg) (hb : s₁.heap.Ns builtinsNs mb) (hbb : ∀ x : Str, x ≠ "__name__" → mb x = bootBuiltins x) (hlim : s₁.heap.NoLimit) (hg : s₁.gens = #[])
    (ha : s₁.heap.get? a = some { cls := .type "list", data := .seq vs.toArray }) (hi : IntsAre vs ns) (hl : ns.length ≤ 63) (hr : Room k callerA)
    (FF : ∀ base : Heap, K.In base → base.Ns mainGlobals mg → FnG P w K mg base CX0 k fa fd [x] (spP K 1 F)) (hbind : ∀ (s : Shared) (u : Value), BindsTo s fd ⟨[u], []⟩ [(x, u)]) (hL : lawOk F) :
    codeAny (model P w) callerA (.call (.ref fa) ⟨[.ref a], []⟩) (fun r s' => r = .ok (.ret (.bool true)) ∧ OldK s₁.heap s'.heap ∧ s'.os = s₁.os ∧ AllBare s'.gens) s₁ := by
  have rv := vals_ints hi
  have lenV := hi.length
  have hl2 : ns.length ≤ sizeLine := by rw [sizeLine_eq]; omega
  have core : ∀ H : Hp, Only H → Rd H a (.lst (ns.map V.int)) → HOk P w H s₁.heap → (∀ b, H b ≠ none → b = a) → (H a ≠ none → K.lookup a = none) →
      codeAny (model P w) callerA (.call (.ref fa) ⟨[.ref a], []⟩) (fun r s' => r = .ok (.ret (.bool true)) ∧ OldK s₁.heap s'.heap ∧ s'.os = s₁.os ∧ AllBare s'.gens) s₁ := by
    intro H hO hS hok hA hK
    have base_of : ∀ {b : Addr} {o : Obj}, s₁.heap.get? b = some o → H b = none → (hidT s₁.heap H).get? b = some o := fun e n => hidT_get e n
    have noA : ∀ {b : Addr} {o : Obj} {es : Array DictEntry} {ep : Nat}, s₁.heap.get? b = some o → o.data = .dict es ep → H b = none := fun {b o es ep} e d => by
      cases q : H b with
      | none => rfl
      | some u =>
        have e' : b = a := hA b (by rw [q]; simp)
        subst e'
        rw [ha] at e; cases e
        have d' : Data.seq vs.toArray _ = Data.dict es ep := d
        cases d'
    have nsK : ∀ {b : Addr} {m : Str → Option Value}, s₁.heap.Ns b m → (hidT s₁.heap H).Ns b m := fun {b m} ⟨o, es, ep, e, d, r⟩ => ⟨o, es, ep, base_of e (noA e d), d, r⟩
    have hKb : K.In (hidT s₁.heap H) := fun b o e => base_of (KX b o e) (by
      cases q : H b with
      | none => rfl
      | some u =>
        have e' : b = a := hA b (by rw [q]; simp)
        subst e'
        rw [hK (by rw [q]; simp)] at e; cases e)
    have hM : Mod K mg (hidT s₁.heap H) := ⟨hKb, nsK hns, ⟨mb, nsK hb, hbb⟩, let ⟨mc, h1, h2⟩ := hlim; ⟨mc, nsK h1, h2⟩⟩
    have e0 : Env0 P w K mg (hidT s₁.heap H) callerA [] s₁ H := ⟨rfl, hM, fun b o e => of_hidT e, Nat.le_of_eq (hidT_size _ _), trivial, fun b hb => absurd (show b ∈ ([] : List Addr) from hb) (by simp), hok, .of_eq hg⟩
    have hsp : spP K 1 F [.ref a] H (fun v _ => v = .bl true) fun _ _ _ => False := ⟨H, fun _ => none, [.list (ns.map .int)], .bool true, .refl H, (fun _ _ e => nomatch e), (fun _ _ e => nomatch e), .cons (.lst hS (rpa_ints ns)) .nil, rfl, hL ns hl, fun v G' H' _ _ _ _ r => (by cases r; rfl)⟩
    refine codeAny_mono ((FF _ hKb (nsK hns)).run callerA [] s₁ H ⟨[.ref a], []⟩ [.ref a] [.ref a] _ _ hr rfl e0 (hbind s₁ (.ref a)) (.cons rfl .nil) hsp) fun r s' h => ?_
    cases r with
    | error e => exact (show False from h).elim
    | ok fl =>
      cases fl with
      | next => exact False.elim h
      | brk => exact False.elim h
      | cont => exact False.elim h
      | ret u =>
        obtain ⟨v, H', os, bare, un, hok', r', q⟩ := h
        have q' : v = .bl true := q
        subst q'
        obtain rfl : u = Value.bool true := r'
        refine ⟨rfl, OldK.of_keep fun b o e => ?_, os, bare⟩
        cases q : H b with
        | none => exact un.keep b o e q (by intro z; exact absurd (show b ∈ ([] : List Addr) from z) (by simp)) (by simp)
        | some u =>
          rcases hO b with z | ⟨ob, xs, z⟩
          · rw [q] at z; cases z
          · have z2 := un.frzs b ob _ z
            obtain ⟨e1, _⟩ := hok b _ z
            obtain ⟨e2, _⟩ := hok' b _ z2
            rw [e] at e1; cases e1
            exact e2
  cases hk : K.lookup a with
  | some o =>
    have e := KX a o hk
    rw [ha] at e
    cases e
    exact (noLists_spec nl hk rfl).elim
  | none =>
    refine core (fun b => if b = a then some (.frz { cls := .type "list", data := .seq vs.toArray } (.lst (ns.map V.int))) else none) (fun b => ?_) (.inr ⟨{ cls := .type "list", data := .seq vs.toArray }, if_pos rfl⟩) (fun b u z => ?_) (fun b z => ?_) fun _ => hk
    · by_cases hb : b = a
      · exact .inr ⟨_, _, if_pos hb⟩
      · exact .inl (if_neg hb)
    · by_cases hb : b = a
      · have z' := (if_pos hb).symm.trans z
        cases z'
        subst hb
        exact ⟨ha, by rw [List.length_map]; exact hl2, vs, _, rv, ha⟩
      · have z' := (if_neg hb).symm.trans z
        cases z'
    · by_cases hb : b = a
      · exact hb
      · exact absurd (if_neg hb) z
theorem walk_G {l : PySem.W.OpenLaw} {k : Nat} {q : Program} {loose : List Str} {XP : (Str → Option Value) → Heap → Prop} {YP : World → Heap → Prop} {d : DefRec} {K : Params → PySem.W.Frag} {x : Str} {FL : List D → Option D}
    (hn : l.most = some 63) (hdf : d.params.defaults = []) (hr : Room k callerA)
    (hY : ∀ (w : World) (h : Heap), YP w h → (K w.params).In h) (nl : ∀ w : World, noLists (K w.params) = true)
    (F : ∀ (w : World) (mg : Str → Option Value) (fa : Addr) (h : Heap), (K w.params).In h → h.Ns mainGlobals mg → mg d.name = some (.ref fa) →
      ∃ fd : FuncData, (∀ (s : Shared) (u : Value), BindsTo s fd ⟨[u], []⟩ [(x, u)]) ∧
        ∀ base : Heap, (K w.params).In base → base.Ns mainGlobals mg → FnG l.prog w (K w.params) mg base CX0 k fa fd [x] (spP (K w.params) 1 FL))
    (hL : lawOk FL) : PySem.W.WalkO q loose XP YP l.row.toRowW d [] (fun f vs => PySem.call f vs) := by
  refine Att.attach_call hn hdf fun w s₀ s₁ mg mb fa o pm cd doc a vs ns G Y ho hd hcd hmg hobj hints hlen hg => ?_
  have KX := hY w _ Y
  obtain ⟨fd, hb, hF⟩ := F w mg fa _ KX G.T.g hmg
  exact law_callG KX (nl w) G.T.g G.T.b G.T.builtins G.T.nolimit hg hobj hints hlen hr hF hb hL
end PL

-- PLgen
/-! PL: what the printed texts lean on. -/
namespace PL
open PySem PySem.Spec PyProof.Rows L2

/-- turns enough for any while of these programs -/
def lots : Nat := 100000
theorem lots_gt {n : Nat} (h : n < 100000) : n < lots := h
/-- a def of the module, by its promise -/
def Cal (P : Program) (w : World) (K : PySem.W.Frag) (mg : Str → Option Value) (base : Heap) (x : Str) (k : Nat) (ps : List Str) (sp : Sp) : Prop :=
  ∃ (a : Addr) (fd : FuncData), mg x = some (.ref a) ∧ PySem.W.keepIn K (.ref a) = true ∧ Binds K fd ps [] ∧ FnG P w K mg base CX0 k a fd ps sp
theorem pe_callC {X : Cx} {x : Str} {k l : Nat} {ps : List Str} {sp : Sp} {e : Expr} {es : List Expr} {t : TA} {p pos : Pos} (C : Cal X.prog X.w X.K X.mg X.base x k ps sp) (hr : Room l X.A) (hl : k ≤ l) (hq : X.A.guards = some []) (hg : Gl X x)
    (ha : PA X (e :: es) t) (hdb : (x == ("__debug__" : Str)) = false := by decide) (he : starEach (e :: es) X.env = (false, eval e X.env) :: starEach es X.env := by rfl) (hpl : (backTo pos (starEach es X.env)).any (·.1) = false := by rfl) :
    PE X (.Call (.Name x p) (e :: es) [] pos) (tCall sp [] E0 t) := by
  obtain ⟨a, fd, m, kp, b, F⟩ := C
  exact pe_callG F (hr.mono hl) hq hg m kp b .nil pass0 ha hdb he hpl
theorem pe_gI {X : Cx} {x : Str} {i : Int} {pos : Pos} (hg : Gl X x) (h : ∃ t, X.mg x = some (.int i t)) (hd : (x == ("__debug__" : Str)) = false := by decide) : PE X (.Name x pos) (tC (.int i)) := by
  obtain ⟨t, h⟩ := h
  exact pe_glob hg h ⟨t, rfl⟩ hd
theorem pe_gS {X : Cx} {x : Str} {i : Str} {pos : Pos} (hg : Gl X x) (h : ∃ t, X.mg x = some (.str i t)) (hd : (x == ("__debug__" : Str)) = false := by decide) : PE X (.Name x pos) (tC (.str i)) := by
  obtain ⟨t, h⟩ := h
  exact pe_glob hg h ⟨t, rfl⟩ hd
theorem pe_ty {X : Cx} {x : Str} {n : String} {pos : Pos} (hg : Gl X x) (hm : X.mg x = none) (hv : bootBuiltins x = some (.type n)) (hn : x ≠ "__name__" := by decide) (hd : (x == ("__debug__" : Str)) = false := by decide) : PE X (.Name x pos) (tC (.ty n)) := pe_bltn hg hm hv rfl hn hd
theorem re_str {K : PySem.W.Frag} {x : Str} {l : List Nat} (h : x.cps.toList = l) : RE K (tC (.str x)) (cE (tx l)) := by
  have : tx l = .str x := by rw [← h]; exact tx_sL x
  rw [this]
  exact re_c fun _ => .str x
theorem re_i {K : PySem.W.Frag} {i : Int} : RE K (tC (.int i)) (cE (.int i)) := re_c fun _ => .int i
theorem re_b {K : PySem.W.Frag} {i : Bool} : RE K (tC (.bl i)) (cE (.bool i)) := re_c fun _ => .bl i
theorem re_n {K : PySem.W.Frag} : RE K (tC .non) (cE .none) := re_c fun _ => .non
def negD (d : D) : Option D := match d with
  | .int i => some (.int (-i))
  | _ => none
theorem v_neg {K : PySem.W.Frag} : V1 K (rU fun i => .int (-i)) negD := fun G H x dx d Q m rx e q => by
  unfold negD at e
  split at e
  · cases e; exact ⟨_, rx.int, q _ G H (.refl m) (.int _)⟩
  · cases e
theorem b_len : bootBuiltins "len" = some (.builtin "len") := by decide +kernel
theorem b_abs : bootBuiltins "abs" = some (.builtin "abs") := by decide +kernel
theorem b_sorted : bootBuiltins "sorted" = some (.builtin "sorted") := by decide +kernel
theorem b_min : bootBuiltins "min" = some (.builtin "min") := by decide +kernel
theorem b_max : bootBuiltins "max" = some (.builtin "max") := by decide +kernel
theorem b_all : bootBuiltins "all" = some (.builtin "all") := by decide +kernel
theorem b_any : bootBuiltins "any" = some (.builtin "any") := by decide +kernel
theorem b_sum : bootBuiltins "sum" = some (.builtin "sum") := by decide +kernel
theorem b_repr : bootBuiltins "repr" = some (.builtin "repr") := by decide +kernel
theorem b_isinstance : bootBuiltins "isinstance" = some (.builtin "isinstance") := by decide +kernel
theorem b_int : bootBuiltins "int" = some (.type "int") := by decide +kernel
theorem b_str : bootBuiltins "str" = some (.type "str") := by decide +kernel
theorem b_bool : bootBuiltins "bool" = some (.type "bool") := by decide +kernel
theorem b_list : bootBuiltins "list" = some (.type "list") := by decide +kernel
theorem b_tuple : bootBuiltins "tuple" = some (.type "tuple") := by decide +kernel
end PL

-- PLfun
/-! PL: the pure side worked out. -/
namespace PL
open PySem

theorem isT_tx (l : List Nat) : isT "str" (tx l) = true := rfl
theorem isT_list (l : List D) : isT "list" (.list l) = true := rfl


/-! ### slices -/
theorem sIx_nat (n d k : Nat) (h : k ≤ n) : HT.sIx n d (some (k : Int)) = k := by
  rw [HT.sIx_nat]; omega
theorem cut_from {α : Type} (xs : List α) (k : Nat) (h : k ≤ xs.length) : cutL xs (some (k : Int)) none = xs.drop k := by
  unfold cutL
  rw [sIx_nat _ _ _ h, HT.sIx_none, List.take_of_length_le (by rw [List.length_drop]; omega)]
theorem cut_to {α : Type} (xs : List α) (k : Nat) (h : k ≤ xs.length) : cutL xs none (some (k : Int)) = xs.take k := by
  unfold cutL
  rw [sIx_nat _ _ _ h, HT.sIx_none, List.drop_zero, Nat.sub_zero]
theorem cut_to' {α : Type} (xs : List α) (k : Nat) : cutL xs none (some (k : Int)) = xs.take k := by
  unfold cutL
  rw [HT.sIx_nat, HT.sIx_none, List.drop_zero, Nat.sub_zero]
  by_cases h : k ≤ xs.length
  · rw [Nat.min_eq_left h]
  · rw [Nat.min_eq_right (by omega), List.take_of_length_le (Nat.le_refl _), List.take_of_length_le (by omega)]
/-! ### items -/
theorem atI_nat {α : Type} (xs : List α) (i : Nat) : L2.atI xs (i : Int) = xs[i]? := by
  unfold L2.atI L2.ixN
  rw [if_pos (by omega)]
  by_cases h : i < xs.length
  · rw [if_pos (by omega)]; simp
  · rw [if_neg (by omega)]
    rw [List.getElem?_eq_none (by omega)]; rfl
theorem atI_last {α : Type} (xs : List α) : L2.atI xs (-1) = xs.getLast? := by
  unfold L2.atI L2.ixN
  rw [if_neg (by decide)]
  cases xs with
  | nil => rfl
  | cons x r =>
    rw [if_pos (by rw [List.length_cons]; omega)]
    show ((x :: r)[((-1 : Int) + ((x :: r).length : Nat)).toNat]?) = _
    rw [List.getLast?_eq_getElem?]
    congr 1
    rw [List.length_cons]; omega
/-! ### comparisons -/
theorem eqv_int (i j : Int) : PyData.eqv (.int i) (.int j) = decide (i = j) := by
  simp only [PyData.eqv]; by_cases h : i = j <;> simp [h]
theorem eqv_bool (i j : Bool) : PyData.eqv (.bool i) (.bool j) = decide (i = j) := by
  simp only [PyData.eqv]; by_cases h : i = j <;> simp [h]
theorem eqv_str (a b : Str) : PyData.eqv (.str a) (.str b) = decide (a = b) := by
  simp only [PyData.eqv]; by_cases h : a = b <;> simp [h]
theorem mk_inj {a b : List Nat} : ((⟨a.toArray⟩ : Str) = ⟨b.toArray⟩) ↔ a = b := by
  constructor
  · intro h
    have := congrArg (fun s : Str => s.cps.toList) h
    simpa using this
  · intro h; rw [h]
theorem eqv_tx (a b : List Nat) : PyData.eqv (tx a) (tx b) = decide (a = b) := by
  unfold tx
  rw [eqv_str]
  by_cases h : a = b
  · rw [h]; simp
  · rw [decide_eq_false h, decide_eq_false]; exact fun z => h (mk_inj.mp z)
theorem eqv_list (a b : List D) : PyData.eqv (.list a) (.list b) = PyData.eqvAll a b := by simp only [PyData.eqv]
theorem eqv_tuple (a b : List D) : PyData.eqv (.tuple a) (.tuple b) = PyData.eqvAll a b := by simp only [PyData.eqv]
theorem ok_int (i : Int) : ok9 (.int i) = true := rfl
theorem ok_bool (i : Bool) : ok9 (.bool i) = true := rfl
theorem ok_tx (i : List Nat) : ok9 (tx i) = true := rfl
theorem ok_str (i : Str) : ok9 (.str i) = true := rfl
theorem okD_int (n : Nat) (i : Int) : okD n (.int i) = true := by cases n <;> rfl
theorem okD_bool (n : Nat) (i : Bool) : okD n (.bool i) = true := by cases n <;> rfl
theorem okD_tx (n : Nat) (i : List Nat) : okD n (tx i) = true := by cases n <;> rfl
theorem okD_none (n : Nat) : okD n .none = true := by cases n <;> rfl
theorem okD_list (n : Nat) (xs : List D) : okD (n + 1) (.list xs) = xs.all (okD n) := rfl
theorem okD_tuple (n : Nat) (xs : List D) : okD (n + 1) (.tuple xs) = xs.all (okD n) := rfl
theorem eqD_int (i j : Int) : eqD (.int i) (.int j) = some (.bool (decide (i = j))) := by
  show some (PyData.bool (PyData.eqv (.int i) (.int j))) = _
  rw [eqv_int]
theorem neD_int (i j : Int) : neD (.int i) (.int j) = some (.bool (!decide (i = j))) := by
  show some (PyData.bool (!PyData.eqv (.int i) (.int j))) = _
  rw [eqv_int]
theorem eqD_tx (i j : List Nat) : eqD (tx i) (tx j) = some (.bool (decide (i = j))) := by
  show some (PyData.bool (PyData.eqv (tx i) (tx j))) = _
  rw [eqv_tx]
theorem neD_tx (i j : List Nat) : neD (tx i) (tx j) = some (.bool (!decide (i = j))) := by
  show some (PyData.bool (!PyData.eqv (tx i) (tx j))) = _
  rw [eqv_tx]
theorem eqD_bool (i j : Bool) : eqD (.bool i) (.bool j) = some (.bool (decide (i = j))) := by
  show some (PyData.bool (PyData.eqv (.bool i) (.bool j))) = _
  rw [eqv_bool]
theorem alk_int (i j : Int) : alk (.int i) (.int j) = true := by simp [alk, okk, ok_int, PySem.W.alike, isNoneD]
theorem alk_tx (i j : List Nat) : alk (tx i) (tx j) = true := by simp [alk, okk, ok_tx, tx, ok_str, PySem.W.alike, isNoneD]
theorem lt_int (i j : Int) : PySem.W.dataLt (.int i) (.int j) = decide (i < j) := by
  have h := congrFun (congrFun (PySem.W.dataLe_int (fun x : Int => x)) j) i
  have h2 : PySem.W.dataLe false (fun b : Int => PyData.int b) j i = !PySem.W.dataLt (.int i) (.int j) := by rw [PySem.W.dataLe_eq]; rfl
  rw [h2] at h
  have h3 : decide (j ≤ i) = !decide (i < j) := by by_cases k : i < j <;> simp [k] <;> omega
  have h4 : (!PySem.W.dataLt (.int i) (.int j)) = !decide (i < j) := h.trans h3
  cases hx : PySem.W.dataLt (.int i) (.int j) <;> cases hy : decide (i < j) <;> rw [hx, hy] at h4 <;> first | rfl | cases h4
theorem lt_tx (i j : List Nat) : PySem.W.dataLt (tx i) (tx j) = decide (i < j) := by
  have h := congrFun (congrFun (PySem.W.dataLe_str (fun x : List Nat => ⟨x.toArray⟩)) j) i
  have h2 : PySem.W.dataLe false (fun b : List Nat => PyData.str ⟨b.toArray⟩) j i = !PySem.W.dataLt (tx i) (tx j) := by rw [PySem.W.dataLe_eq]; rfl
  rw [h2] at h
  have h3 : decide (j ≤ i) = !decide (i < j) := by
    by_cases k : i < j
    · rw [decide_eq_true k, decide_eq_false]; rfl
      exact fun z => List.not_lt.mpr z k
    · rw [decide_eq_false k, decide_eq_true (List.not_lt.mp k)]; rfl
  have h4 : (!PySem.W.dataLt (tx i) (tx j)) = !decide (i < j) := by
    refine Eq.trans ?_ h3
    simpa using h
  cases hx : PySem.W.dataLt (tx i) (tx j) <;> cases hy : decide (i < j) <;> rw [hx, hy] at h4 <;> first | rfl | cases h4
theorem ltD_int (i j : Int) : ltD (.int i) (.int j) = some (.bool (decide (i < j))) := by unfold ltD; rw [if_pos (alk_int i j), lt_int]
theorem gtD_int (i j : Int) : gtD (.int i) (.int j) = some (.bool (decide (j < i))) := by unfold gtD; rw [if_pos (alk_int i j), lt_int]
theorem leD_int (i j : Int) : leD (.int i) (.int j) = some (.bool (decide (i ≤ j))) := by
  unfold leD
  rw [if_pos (alk_int i j), lt_int]
  by_cases h : j < i <;> simp [h] <;> omega
theorem geD_int (i j : Int) : geD (.int i) (.int j) = some (.bool (decide (j ≤ i))) := by
  unfold geD
  rw [if_pos (alk_int i j), lt_int]
  by_cases h : i < j <;> simp [h] <;> omega
theorem ltD_tx (i j : List Nat) : ltD (tx i) (tx j) = some (.bool (decide (i < j))) := by unfold ltD; rw [if_pos (alk_tx i j), lt_tx]
theorem strIn_one (c : Nat) (b : List Nat) : strIn ⟨[c].toArray⟩ ⟨b.toArray⟩ = decide (c ∈ b) := by
  unfold strIn
  rw [sL_mk, sL_mk]
theorem inD_one (neg : Bool) (c : Nat) (b : List Nat) : inD neg (tx [c]) (tx b) = some (.bool (bne neg (decide (c ∈ b)))) := by
  show some (PyData.bool (bne neg (strIn ⟨[c].toArray⟩ ⟨b.toArray⟩))) = _
  rw [strIn_one]
theorem all_tx (n : Nat) (xs : List (List Nat)) : (xs.map tx).all (okD n) = true := by
  rw [List.all_eq_true]
  intro x hx
  obtain ⟨y, _, rfl⟩ := List.mem_map.mp hx
  exact okD_tx n y
theorem any_tx (a : List Nat) (xs : List (List Nat)) : ((xs.map tx).any fun z => PyData.eqv z (tx a)) = decide (a ∈ xs) := by
  induction xs with
  | nil => rfl
  | cons x xs ih =>
    rw [List.map_cons, List.any_cons, ih, eqv_tx]
    by_cases h : x = a
    · subst h; simp
    · have h' : ¬ a = x := fun z => h z.symm
      simp [h, h']
theorem inD_list (neg : Bool) (a : List Nat) (xs : List (List Nat)) : inD neg (tx a) (.list (xs.map tx)) = some (.bool (bne neg (decide (a ∈ xs)))) := by
  show ((some (xs.map tx)).bind fun ys => if okk (tx a) (.list (xs.map tx)) = true then some (PyData.bool (bne neg (ys.any fun z => PyData.eqv z (tx a)))) else none) = _
  rw [Option.bind_some, if_pos (by show (ok9 (tx a) && (xs.map tx).all (okD 8)) = true; rw [all_tx, ok_tx]; rfl), any_tx]
theorem inD_tuple (neg : Bool) (a : List Nat) (xs : List (List Nat)) : inD neg (tx a) (.tuple (xs.map tx)) = some (.bool (bne neg (decide (a ∈ xs)))) := by
  show ((some (xs.map tx)).bind fun ys => if okk (tx a) (.tuple (xs.map tx)) = true then some (PyData.bool (bne neg (ys.any fun z => PyData.eqv z (tx a)))) else none) = _
  rw [Option.bind_some, if_pos (by show (ok9 (tx a) && (xs.map tx).all (okD 8)) = true; rw [all_tx, ok_tx]; rfl), any_tx]
/-! ### walks -/
theorem lcL_fil {α : Type} {own : List Nat} {g : WG} {t : WT} {f : WE} (enc out : α → D) (p : α → Bool) (ε : En) : ∀ (xs : List α), (∀ x ∈ xs, ∃ ε1 ε2, g (enc x) ε = some ε1 ∧ t ε1 = some (p x, ε2) ∧
    (if p x = true then ∃ ε3, f ε2 = some (out x, ε3) ∧ wipeE ε3 own = ε else wipeE ε2 own = ε)) → lcL own g t f (xs.map enc) ε = some ((xs.filter p).map out, ε)
  | [], _ => rfl
  | x :: xs, h => by
    obtain ⟨ε1, ε2, h1, h2, h3⟩ := h x List.mem_cons_self
    have ih := lcL_fil enc out p ε xs fun y hy => h y (List.mem_cons_of_mem _ hy)
    rw [List.map_cons]
    unfold lcL
    rw [h1, Option.bind_some, h2, Option.bind_some]
    cases hp : p x with
    | true =>
      rw [if_pos hp] at h3
      obtain ⟨ε3, h3, h4⟩ := h3
      rw [cond_true, h3, Option.bind_some, h4, ih, Option.bind_some, List.filter_cons_of_pos hp, List.map_cons]
    | false =>
      rw [if_neg (by rw [hp]; decide)] at h3
      rw [cond_false, h3, ih, List.filter_cons_of_neg (by rw [hp]; decide)]
theorem lcE_fil {α : Type} {src : WI} {own : List Nat} {g : WG} {t : WT} {f : WE} {ε ε' : En} (enc out : α → D) (p : α → Bool) (xs : List α) (hs : src ε = some (xs.map enc, ε')) (hok : okOwn ε' own = true) (hl : xs.length ≤ big)
    (h : ∀ x ∈ xs, ∃ ε1 ε2, g (enc x) (wipeE ε' own) = some ε1 ∧ t ε1 = some (p x, ε2) ∧ (if p x = true then ∃ ε3, f ε2 = some (out x, ε3) ∧ wipeE ε3 own = wipeE ε' own else wipeE ε2 own = wipeE ε' own))
    (hr : restE ε' (wipeE ε' own) own = ε') : lcE src own g t f ε = some (.list ((xs.filter p).map out), ε') := by
  unfold lcE
  rw [hs, Option.bind_some, if_pos (by rw [hok, Bool.true_and, decide_eq_true_eq, List.length_map]; exact hl), lcL_fil enc out p _ xs h, Option.bind_some, hr]
theorem lcE_map {α : Type} {src : WI} {own : List Nat} {g : WG} {f : WE} {ε ε' : En} (enc out : α → D) (xs : List α) (hs : src ε = some (xs.map enc, ε')) (hok : okOwn ε' own = true) (hl : xs.length ≤ big)
    (h : ∀ x ∈ xs, ∃ ε1, g (enc x) (wipeE ε' own) = some ε1 ∧ ∃ ε3, f ε1 = some (out x, ε3) ∧ wipeE ε3 own = wipeE ε' own)
    (hr : restE ε' (wipeE ε' own) own = ε') : lcE src own g yesT f ε = some (.list (xs.map out), ε') := by
  have := lcE_fil (t := yesT) (f := f) enc out (fun _ => true) xs hs hok hl (fun x hx => by
    obtain ⟨ε1, h1, ε3, h2, h3⟩ := h x hx
    exact ⟨ε1, ε1, h1, rfl, by rw [if_pos rfl]; exact ⟨ε3, h2, h3⟩⟩) hr
  rwa [List.filter_eq_self.mpr fun _ _ => rfl] at this
/-- a comprehension whose turns change the frame -/
theorem lcL_ex {own : List Nat} {g : WG} {t : WT} {f : WE} (Iv : En → Prop) (R : D → Prop) : ∀ (ds : List D) (ε : En), Iv ε → (∀ d ∈ ds, ∀ ε, Iv ε → ∃ ε1 ε2 r ε3, g d ε = some ε1 ∧ t ε1 = some (true, ε2) ∧ f ε2 = some (r, ε3) ∧ Iv (wipeE ε3 own) ∧ R r) →
    ∃ rs ε', lcL own g t f ds ε = some (rs, ε') ∧ Iv ε' ∧ rs.length = ds.length ∧ ∀ r ∈ rs, R r
  | [], ε, h0, _ => ⟨[], ε, rfl, h0, rfl, fun _ h => nomatch h⟩
  | d :: ds, ε, h0, h => by
    obtain ⟨ε1, ε2, r, ε3, h1, h2, h3, h4, h5⟩ := h d List.mem_cons_self ε h0
    obtain ⟨rs, ε', a, b, c, e⟩ := lcL_ex Iv R ds _ h4 fun x hx => h x (List.mem_cons_of_mem _ hx)
    refine ⟨r :: rs, ε', ?_, b, by rw [List.length_cons, c, List.length_cons], fun x hx => ?_⟩
    · unfold lcL
      rw [h1, Option.bind_some, h2, Option.bind_some, cond_true, h3, Option.bind_some, a, Option.bind_some]
    · rcases List.mem_cons.mp hx with rfl | hx
      · exact h5
      · exact e x hx
theorem forL_inv {g : WG} {body : WS} (Iv : Nat → En → Prop) : ∀ (ds : List D) (k : Nat) (ε : En), Iv k ε → (∀ i d ε, ds[i]? = some d → Iv (k + i) ε → ∃ ε1 o, g d ε = some ε1 ∧ body ε1 = some o ∧ ∃ ε2, (o = .nx ε2 ∨ o = .ct ε2) ∧ Iv (k + i + 1) ε2) →
    ∃ ε', forL g body ds ε = some (.nx ε') ∧ Iv (k + ds.length) ε'
  | [], k, ε, h0, _ => ⟨ε, rfl, h0⟩
  | d :: ds, k, ε, h0, h => by
    obtain ⟨ε1, o, h1, h2, ε2, h3, h4⟩ := h 0 d ε rfl h0
    obtain ⟨ε', a, b⟩ := forL_inv Iv ds (k + 1) ε2 h4 fun i x ε hx hi => by
      have := h (i + 1) x ε (by simpa using hx) (by rw [show k + (i + 1) = k + 1 + i by omega]; exact hi)
      rw [show k + (i + 1) + 1 = k + 1 + i + 1 by omega] at this
      exact this
    refine ⟨ε', ?_, by rw [List.length_cons, show k + (ds.length + 1) = k + 1 + ds.length by omega]; exact b⟩
    unfold forL
    rw [h1, Option.bind_some, h2, Option.bind_some]
    rcases h3 with rfl | rfl <;> exact a
theorem forL_ret {g : WG} {body : WS} (Iv : Nat → En → Prop) (R : D → En → Prop) : ∀ (ds : List D) (k : Nat) (ε : En), Iv k ε → (∀ i d ε, ds[i]? = some d → Iv (k + i) ε → ∃ ε1 o, g d ε = some ε1 ∧ body ε1 = some o ∧ ((∃ ε2, (o = .nx ε2 ∨ o = .ct ε2) ∧ Iv (k + i + 1) ε2) ∨ ∃ r ε2, o = .rt r ε2 ∧ R r ε2)) →
    (∃ ε', forL g body ds ε = some (.nx ε') ∧ Iv (k + ds.length) ε') ∨ ∃ r ε', forL g body ds ε = some (.rt r ε') ∧ R r ε'
  | [], k, ε, h0, _ => .inl ⟨ε, rfl, h0⟩
  | d :: ds, k, ε, h0, h => by
    obtain ⟨ε1, o, h1, h2, h3⟩ := h 0 d ε rfl h0
    rcases h3 with ⟨ε2, h3, h4⟩ | ⟨r, ε2, rfl, h4⟩
    · have ih := forL_ret Iv R ds (k + 1) ε2 h4 fun i x ε hx hi => by
        have := h (i + 1) x ε (by simpa using hx) (by rw [show k + (i + 1) = k + 1 + i by omega]; exact hi)
        rw [show k + (i + 1) + 1 = k + 1 + i + 1 by omega] at this
        exact this
      have e : forL g body (d :: ds) ε = forL g body ds ε2 := by
        rw [forL]
        rw [h1, Option.bind_some, h2, Option.bind_some]
        rcases h3 with rfl | rfl <;> rfl
      rw [e, List.length_cons, show k + (ds.length + 1) = k + 1 + ds.length by omega]
      exact ih
    · refine .inr ⟨r, ε2, ?_, h4⟩
      unfold forL
      rw [h1, Option.bind_some, h2, Option.bind_some]; rfl
theorem whileL_run {t : WT} {body : WS} (Iv : Nat → En → Prop) (P : En → Prop) (h0 : ∀ ε, Iv 0 ε → ∃ ε1, t ε = some (false, ε1) ∧ P ε1) (h : ∀ n ε, Iv (n + 1) ε → ∃ ε1 ε2, t ε = some (true, ε1) ∧ body ε1 = some (.nx ε2) ∧ Iv n ε2) :
    ∀ (n fuel : Nat) (ε : En), Iv n ε → n < fuel → ∃ ε', whileL t body fuel ε = some (.nx ε') ∧ P ε'
  | 0, fuel + 1, ε, hi, _ => by
    obtain ⟨ε1, a, b⟩ := h0 ε hi
    refine ⟨ε1, ?_, b⟩
    unfold whileL
    rw [a, Option.bind_some, cond_false]
  | n + 1, fuel + 1, ε, hi, hf => by
    obtain ⟨ε1, ε2, a, b, c⟩ := h n ε hi
    obtain ⟨ε', d, e⟩ := whileL_run Iv P h0 h n fuel ε2 c (by omega)
    refine ⟨ε', ?_, e⟩
    unfold whileL
    rw [a, Option.bind_some, cond_true, b, Option.bind_some]
    exact d
  | _, 0, _, _, hf => by omega
/-! ### what walks give -/
theorem intsL_nat (n : Nat) : intsL 0 1 n = (List.range n).map fun i => PyData.int (i : Nat) := by
  unfold intsL
  refine List.map_congr_left fun i _ => ?_
  rw [Int.mul_one, Int.zero_add]
theorem rngD_nat (n : Nat) (h : n ≤ big) : rngD [.int (n : Nat)] = some ((List.range n).map fun i => PyData.int (i : Nat)) := by
  have : okI (n : Int) = true := by have : big = 1000000 := rfl; unfold okI; rw [Bool.and_eq_true, decide_eq_true_eq, decide_eq_true_eq]; omega
  show (if okI (n : Int) = true then some (intsL 0 1 (n : Int).toNat) else none) = _
  rw [if_pos this, Int.toNat_natCast, intsL_nat]
theorem signs_map (l : List Nat) : seqD (tx l) = some (l.map fun c => tx [c]) := by
  show some ((sL ⟨l.toArray⟩).map fun c => tx [c]) = _
  rw [sL_mk]
theorem lenD_tx (l : List Nat) (h : l.length ≤ big) : lenD [tx l] = some (.int l.length) := by
  show (if (sL ⟨l.toArray⟩).length ≤ big then some (PyData.int (sL ⟨l.toArray⟩).length) else none) = _
  rw [sL_mk, if_pos h]
theorem addD_tx (a b : List Nat) (h : a.length + b.length ≤ big) : addD (tx a) (tx b) = some (tx (a ++ b)) := by
  show (if (sL ⟨a.toArray⟩).length + (sL ⟨b.toArray⟩).length ≤ big then some (tx (sL ⟨a.toArray⟩ ++ sL ⟨b.toArray⟩)) else none) = _
  rw [sL_mk, sL_mk, if_pos h]
theorem ixD_tx (a : List Nat) (i : Nat) (h : a.length ≤ big) : ixD (tx a) (.int (i : Nat)) = (a[i]?).map fun c => tx [c] := by
  show (if (sL ⟨a.toArray⟩).length ≤ big then (L2.atI (sL ⟨a.toArray⟩) (i : Int)).map fun c => tx [c] else none) = _
  rw [sL_mk, if_pos h, atI_nat]
theorem ixD_txL (a : List Nat) (h : a.length ≤ big) : ixD (tx a) (.int (-1)) = (a.getLast?).map fun c => tx [c] := by
  show (if (sL ⟨a.toArray⟩).length ≤ big then (L2.atI (sL ⟨a.toArray⟩) (-1)).map fun c => tx [c] else none) = _
  rw [sL_mk, if_pos h, atI_last]
theorem ixD_list (a : List D) (i : Nat) : ixD (.list a) (.int (i : Nat)) = a[i]? := by
  show L2.atI a (i : Int) = _
  rw [atI_nat]
theorem ixD_tuple (a : List D) (i : Nat) : ixD (.tuple a) (.int (i : Nat)) = a[i]? := by
  show L2.atI a (i : Int) = _
  rw [atI_nat]
theorem strsOf_map (xs : List (List Nat)) : strsOf (xs.map tx) = some (xs.map fun l => ⟨l.toArray⟩) := by
  induction xs with
  | nil => rfl
  | cons x xs ih =>
    show (strsOf (xs.map tx)).map _ = _
    rw [ih]; rfl
theorem joinD_nil (xs : List (List Nat)) (h : (xs.map List.length).sum ≤ big) : joinD (tx []) [.list (xs.map tx)] = some (tx xs.flatten) := by
  show ((strsOf (xs.map tx)).bind fun ys => if (ys.map fun y => (sL y).length).sum + ys.length * (sL ⟨([] : List Nat).toArray⟩).length ≤ big then some (tx (joinL (sL ⟨([] : List Nat).toArray⟩) (ys.map sL))) else none) = _
  rw [strsOf_map, Option.bind_some]
  have e1 : ((xs.map fun l => (⟨l.toArray⟩ : Str)).map fun y => (sL y).length) = xs.map List.length := by
    rw [List.map_map]; exact List.map_congr_left fun l _ => by show (sL ⟨l.toArray⟩).length = _; rw [sL_mk]
  have e2 : ((xs.map fun l => (⟨l.toArray⟩ : Str)).map sL) = xs := by
    rw [List.map_map]
    conv => rhs; rw [← List.map_id xs]
    exact List.map_congr_left fun l _ => by show sL ⟨l.toArray⟩ = l; rw [sL_mk]
  rw [e1, e2, sL_mk, List.length_nil, Nat.mul_zero, Nat.add_zero, if_pos h]
  have jn : ∀ ys : List (List Nat), joinL [] ys = ys.flatten := fun ys => by
    induction ys with
    | nil => rfl
    | cons y ys ih =>
      cases ys with
      | nil => simp [joinL]
      | cons z zs => rw [joinL, ih]; simp
  rw [jn]

/-! ### sorted, enumerate, dicts of texts -/
theorem dataLe_tx (a b : List Nat) : PySem.W.dataLe false id (tx a) (tx b) = decide (a ≤ b) := by
  rw [PySem.W.dataLe_eq]
  show (!PySem.W.dataLt (tx b) (tx a)) = _
  rw [lt_tx]
  by_cases h : b < a
  · rw [decide_eq_true h, decide_eq_false]; rfl
    exact fun z => List.not_lt.mpr z h
  · rw [decide_eq_false h, decide_eq_true (List.not_lt.mp h)]; rfl
theorem srt_tx (ws : List (List Nat)) : srt (ws.map tx) = (ws.mergeSort fun a b => decide (a ≤ b)).map tx := by
  unfold srt
  rw [List.map_mergeSort (r := fun a b : List Nat => decide (a ≤ b)) (s := PySem.W.dataLe false id) (f := tx) (l := ws) fun a _ b _ => (dataLe_tx a b).symm]
theorem okSort_tx (ws : List (List Nat)) (h : ws.length ≤ big) : okSort (ws.map tx) = true := by
  unfold okSort
  rw [Bool.and_eq_true, Bool.and_eq_true, Bool.or_eq_true, List.all_eq_true, List.all_eq_true, List.all_eq_true]
  refine ⟨⟨fun x hx => ?_, .inr fun x hx => ?_⟩, decide_eq_true (by rw [List.length_map]; exact h)⟩
  · obtain ⟨a, _, rfl⟩ := List.mem_map.mp hx
    rw [Bool.and_eq_true, List.all_eq_true]
    refine ⟨rfl, fun y hy => ?_⟩
    obtain ⟨b, _, rfl⟩ := List.mem_map.mp hy
    simp [tx, PySem.W.alike]
  · obtain ⟨a, _, rfl⟩ := List.mem_map.mp hx
    rfl
theorem sortD_tx (ws : List (List Nat)) (h : ws.length ≤ big) : sortD [.list (ws.map tx)] = some (.list ((ws.mergeSort fun a b => decide (a ≤ b)).map tx)) := by
  show (if okSort (ws.map tx) = true then some (PyData.list (srt (ws.map tx))) else none) = _
  rw [if_pos (okSort_tx ws h), srt_tx]
theorem enumL_eq (f : Nat → D) : ∀ (n k : Nat), enumL k ((List.range n).map fun i => f (k + i)) = (List.range n).map fun i => pairI (k + i) (f (k + i))
  | 0, _ => rfl
  | n + 1, k => by
    rw [List.range_succ_eq_map, List.map_cons, List.map_map, List.map_cons, List.map_map]
    have ih := enumL_eq f n (k + 1)
    have e1 : (List.range n).map ((fun i => f (k + i)) ∘ Nat.succ) = (List.range n).map fun i => f (k + 1 + i) := List.map_congr_left fun i _ => by show f (k + (i + 1)) = _; congr 1; omega
    have e2 : (List.range n).map ((fun i => pairI (k + i) (f (k + i))) ∘ Nat.succ) = (List.range n).map fun i => pairI (k + 1 + i) (f (k + 1 + i)) := List.map_congr_left fun i _ => by show pairI (k + (i + 1)) (f (k + (i + 1))) = _; rw [show k + (i + 1) = k + 1 + i by omega]
    show enumL k (f (k + 0) :: _) = pairI (k + 0) (f (k + 0)) :: _
    rw [e1, e2, ← ih]; rfl
theorem map_range_getD {α : Type} (l : List α) (d : α) : l = (List.range l.length).map fun i => l.getD i d := by
  apply List.ext_getElem?
  intro i
  by_cases h : i < l.length
  · rw [List.getElem?_map, List.getElem?_range h, Option.map_some, List.getD_eq_getElem?_getD, List.getElem?_eq_getElem h]; rfl
  · rw [List.getElem?_eq_none (by omega), List.getElem?_eq_none (by rw [List.length_map, List.length_range]; omega)]
theorem enumL_map {α : Type} (l : List α) (d : α) (f : α → D) : enumL 0 (l.map f) = (List.range l.length).map fun i => pairI i (f (l.getD i d)) := by
  have h := enumL_eq (fun i => f (l.getD i d)) l.length 0
  have e : (List.range l.length).map (fun i => f (l.getD (0 + i) d)) = l.map f := by
    conv => rhs; rw [map_range_getD l d, List.map_map]
    exact List.map_congr_left fun i _ => by show f (l.getD (0 + i) d) = f (l.getD i d); rw [Nat.zero_add]
  rw [e] at h
  rw [h]
  exact List.map_congr_left fun i _ => by rw [Nat.zero_add]
def kvT (t : List Nat) : D × D := (tx t, .bool true)
theorem dput_tx (acc : List (List Nat)) (t : List Nat) : dput (acc.map kvT) (tx t) (.bool true) = (if t ∈ acc then acc else acc ++ [t]).map kvT := by
  have ha : ((acc.map kvT).any fun p => PyData.eqv p.1 (tx t)) = decide (t ∈ acc) := by
    rw [← any_tx t acc, List.any_map, List.any_map]; rfl
  unfold dput
  rw [ha]
  by_cases h : t ∈ acc
  · rw [if_pos (decide_eq_true h), if_pos h, List.map_map]
    refine List.map_congr_left fun u _ => ?_
    show (if PyData.eqv (tx u) (tx t) = true then (tx u, PyData.bool true) else kvT u) = kvT u
    split <;> rfl
  · rw [if_neg (by simpa using h), if_neg h, List.map_append]; rfl
def uniqD : List (List Nat) → List (List Nat) → List (List Nat)
  | acc, [] => acc
  | acc, t :: ts => uniqD (if t ∈ acc then acc else acc ++ [t]) ts
theorem dcL_uniq {α : Type} {own : List Nat} {g : WG} {fk fv : WE} (enc : α → D) (key : α → List Nat) (ε : En) : ∀ (xs : List α) (acc : List (List Nat)), (∀ x ∈ xs, ∃ ε1 ε2 ε3, g (enc x) ε = some ε1 ∧ fk ε1 = some (tx (key x), ε2) ∧ fv ε2 = some (.bool true, ε3) ∧ wipeE ε3 own = ε) →
    dcL own g yesT fk fv (xs.map enc) (acc.map kvT) ε = some ((uniqD acc (xs.map key)).map kvT, ε)
  | [], _, _ => rfl
  | x :: xs, acc, h => by
    obtain ⟨ε1, ε2, ε3, h1, h2, h3, h4⟩ := h x List.mem_cons_self
    rw [List.map_cons]
    unfold dcL
    rw [h1, Option.bind_some]
    simp only [yesT, Option.bind_some, cond_true, h2, h3]
    rw [if_pos (show isKey1 (tx (key x)) = true from rfl), dput_tx, h4]
    exact dcL_uniq enc key ε xs _ fun y hy => h y (List.mem_cons_of_mem _ hy)
theorem dcE_uniq {α : Type} {src : WI} {own : List Nat} {g : WG} {fk fv : WE} {ε ε' : En} (enc : α → D) (key : α → List Nat) (xs : List α) (hs : src ε = some (xs.map enc, ε')) (hok : okOwn ε' own = true) (hl : xs.length ≤ big)
    (h : ∀ x ∈ xs, ∃ ε1 ε2 ε3, g (enc x) (wipeE ε' own) = some ε1 ∧ fk ε1 = some (tx (key x), ε2) ∧ fv ε2 = some (.bool true, ε3) ∧ wipeE ε3 own = wipeE ε' own) (hr : restE ε' (wipeE ε' own) own = ε') :
    dcE src own g yesT fk fv ε = some (.dict ((uniqD [] (xs.map key)).map kvT), ε') := by
  unfold dcE
  rw [hs, Option.bind_some, if_pos (by rw [hok, Bool.true_and, decide_eq_true_eq, List.length_map]; exact hl)]
  have := dcL_uniq enc key _ xs [] h
  rw [List.map_nil] at this
  rw [this, Option.bind_some, hr]

theorem rng_len {i : Nat} {ε : En} {w : List Nat} (h : rd ε i = some (tx w)) (hw : w.length ≤ big) : rngI [opN lenD [.s i]] ε = some ((List.range w.length).map (fun i : Nat => PyData.int i), ε) := by
  have e : evl [opN lenD [.s i]] ε = some ([.int w.length], ε) := by simp only [evl, opN, evs, Opd.ev, fins, Opd.fin, h, Option.bind_some, lenD_tx _ hw]
  unfold rngI
  rw [e, Option.bind_some]
  simp only []
  rw [rngD_nat _ hw, Option.bind_some]

/-! ### min -/
theorem minD_enc {α : Type} (enc : α → D) (lt : α → α → Bool) (hlt : ∀ a b, PySem.W.dataLt (enc a) (enc b) = lt a b) (ntr : ∀ a b c, lt a b = false → lt b c = false → lt a c = false) (asy : ∀ a b, lt a b = true → lt b a = false) :
    ∀ (xs : List α) (x : α), ∃ a, a ∈ x :: xs ∧ PySem.W.minD (enc x) (xs.map enc) = enc a ∧ ∀ b ∈ x :: xs, lt b a = false
  | [], x => ⟨x, List.mem_cons_self, rfl, fun b hb => by
    have : b = x := by simpa using hb
    subst this
    cases h : lt b b with
    | false => rfl
    | true => have := asy b b h; rw [h] at this; exact this⟩
  | y :: xs, x => by
    have step : PySem.W.minD (enc x) ((y :: xs).map enc) = PySem.W.minD (enc (if lt y x = true then y else x)) (xs.map enc) := by
      unfold PySem.W.minD
      rw [List.map_cons, List.foldl_cons, hlt]
      cases lt y x <;> rfl
    obtain ⟨a, h1, h2, h3⟩ := minD_enc enc lt hlt ntr asy xs (if lt y x = true then y else x)
    have h0 := h3 _ List.mem_cons_self
    have both : lt x a = false ∧ lt y a = false := by
      cases h : lt y x with
      | true => rw [if_pos h] at h0; exact ⟨ntr _ _ _ (asy _ _ h) h0, h0⟩
      | false => rw [if_neg (by rw [h]; decide)] at h0; exact ⟨h0, ntr _ _ _ h h0⟩
    refine ⟨a, ?_, step.trans h2, fun b hb => ?_⟩
    · rcases List.mem_cons.mp h1 with h1 | h1
      · rw [h1]; split
        · exact List.mem_cons_of_mem _ List.mem_cons_self
        · exact List.mem_cons_self
      · exact List.mem_cons_of_mem _ (List.mem_cons_of_mem _ h1)
    · rcases List.mem_cons.mp hb with rfl | hb
      · exact both.1
      · rcases List.mem_cons.mp hb with rfl | hb
        · exact both.2
        · exact h3 b (List.mem_cons_of_mem _ hb)
theorem zipL_map {α : Type} (l : List α) (d : α) (f : α → D) : zipL (l.map f) ((l.drop 1).map f) = (List.range (l.length - 1)).map fun i => PyData.tuple [f (l.getD i d), f (l.getD (i + 1) d)] := by
  apply List.ext_getElem?
  intro i
  by_cases h : i < l.length - 1
  · have h1 : (l.map f)[i]? = some (f (l.getD i d)) := by
      rw [List.getElem?_map, List.getD_eq_getElem?_getD, List.getElem?_eq_getElem (by omega)]; rfl
    have h2 : ((l.drop 1).map f)[i]? = some (f (l.getD (i + 1) d)) := by
      rw [List.getElem?_map, List.getElem?_drop, Nat.add_comm 1 i, List.getD_eq_getElem?_getD, List.getElem?_eq_getElem (by omega)]; rfl
    rw [zipL_get h1 h2, List.getElem?_map, List.getElem?_range h]; rfl
  · rw [List.getElem?_eq_none (by rw [zipL_len, List.length_map, List.length_map, List.length_drop]; omega), List.getElem?_eq_none (by rw [List.length_map, List.length_range]; omega)]
theorem ltD_trans {a b c : List Nat} (h : a < b) (k : b < c) : a < c := List.lt_trans h k

/-! ### what may be shown -/
structure Fit (n b : Nat) (d : D) : Prop where
  ok : okD n d = true
  sh : PyData.showable d = true
  lv : PyData.leavesShort 100 d = true
  bu : PyData.bulk d ≤ b
theorem Fit.up {n b c : Nat} {d : D} (h : Fit n b d) (k : b ≤ c) : Fit n c d := ⟨h.ok, h.sh, h.lv, Nat.le_trans h.bu k⟩
theorem okD_up : ∀ (n : Nat) (d : D), okD n d = true → okD (n + 1) d = true
  | 0, d, h => by cases d <;> first | rfl | cases h
  | n + 1, d, h => by
    cases d with
    | list xs =>
      rw [okD_list, List.all_eq_true] at *
      exact fun x hx => okD_up n x (h x hx)
    | tuple xs =>
      rw [okD_tuple, List.all_eq_true] at *
      exact fun x hx => okD_up n x (h x hx)
    | dict _ => cases h
    | _ => rfl
theorem fit_bool (n : Nat) (b : Bool) : Fit n 0 (.bool b) := ⟨okD_bool n b, by simp [PyData.showable], by simp [PyData.leavesShort], by simp [PyData.bulk]⟩
theorem fit_none (n : Nat) : Fit n 0 .none := ⟨okD_none n, by simp [PyData.showable], by simp [PyData.leavesShort], by simp [PyData.bulk]⟩
theorem fit_tx (n : Nat) (l : List Nat) (h : ∀ c ∈ l, c < 16 ^ 8) : Fit n l.length (tx l) := by
  refine ⟨okD_tx n l, by simp [tx, PyData.showable], ?_, by simp [tx, PyData.bulk]⟩
  simp only [tx, PyData.leavesShort, List.all_eq_true, decide_eq_true_eq]
  intro c hc
  exact h c (by simpa using hc)
theorem fit_all {n b : Nat} : ∀ {xs : List D}, (∀ x ∈ xs, Fit n b x) → xs.all (okD n) = true ∧ PyData.showableAll xs = true ∧ PyData.leavesShortAll 100 xs = true ∧ PyData.bulkAll xs ≤ xs.length * (b + 1)
  | [], _ => ⟨rfl, by simp [PyData.showableAll], by simp [PyData.leavesShortAll], by simp [PyData.bulkAll]⟩
  | x :: xs, h => by
    obtain ⟨h1, h2, h3, h4⟩ := h x List.mem_cons_self
    obtain ⟨k1, k2, k3, k4⟩ := fit_all fun y hy => h y (List.mem_cons_of_mem _ hy)
    refine ⟨by rw [List.all_cons, h1, k1]; rfl, by simp [PyData.showableAll, h2, k2], by simp [PyData.leavesShortAll, h3, k3], ?_⟩
    simp only [PyData.bulkAll, List.length_cons]
    rw [Nat.add_mul, Nat.one_mul]; omega
theorem fit_list {n b c : Nat} {xs : List D} (h : ∀ x ∈ xs, Fit n b x) (hl : xs.length * (b + 1) ≤ c) : Fit (n + 1) c (.list xs) := by
  obtain ⟨k1, k2, k3, k4⟩ := fit_all h
  exact ⟨k1, by simpa [PyData.showable] using k2, by simpa [PyData.leavesShort] using k3, by simp only [PyData.bulk]; omega⟩
theorem fit_tuple {n b c : Nat} {xs : List D} (h : ∀ x ∈ xs, Fit n b x) (hl : xs.length * (b + 1) ≤ c) : Fit (n + 1) c (.tuple xs) := by
  obtain ⟨k1, k2, k3, k4⟩ := fit_all h
  exact ⟨k1, by simpa [PyData.showable] using k2, by simpa [PyData.leavesShort] using k3, by simp only [PyData.bulk]; omega⟩
theorem Fit.shown {d : D} (h : Fit 9 9000 d) : reprD [d] = some (.str d.shown) := by
  have h1 := PyData.shown_le_bulk 100 (by decide) d h.lv
  have h2 := h.bu
  show (if (ok9 d && PyData.showable d && decide (d.shown.length ≤ big)) = true then some (PyData.str d.shown) else none) = _
  rw [if_pos]
  rw [show ok9 d = true from h.ok, h.sh, decide_eq_true]
  · rfl
  · have : (100 + 2) * d.bulk ≤ 102 * 9000 := Nat.mul_le_mul_left _ h2
    unfold big; omega
theorem Fit.same {d : D} (h : Fit 9 9000 d) : (reprD [d]).bind (fun x => (reprD [d]).bind fun y => eqD x y) = some (.bool true) := by
  rw [h.shown, Option.bind_some, Option.bind_some]
  show some (PyData.bool (PyData.eqv (.str d.shown) (.str d.shown))) = _
  rw [eqv_str]; simp

/-! ### step by step, with what is called left shut -/
theorem callM_of {F : D → List D → Option (D × D)} {i : Nat} {fs : List WE} {ε ε1 ε2 : En} {h0 h h' d : D} {ds : List D} (e0 : ownd ε i = some h0) (e1 : evl fs ε = some (ds, ε1)) (e2 : ownd ε1 i = some h) (e3 : F h ds = some (d, h')) (e4 : upc ε1 i h' = some ε2) : callM F i fs ε = some (d, ε2) := by
  unfold callM
  rw [e0, Option.bind_some, e1, Option.bind_some, e2, Option.bind_some, e3, Option.bind_some, e4, Option.bind_some]
theorem callE_of {F : List D → Option D} {fs : List WE} {ε ε1 : En} {d : D} {ds : List D} (e1 : evl fs ε = some (ds, ε1)) (e3 : F ds = some d) : callE F fs ε = some (d, ε1) := by
  unfold callE
  rw [e1, Option.bind_some, e3, Option.bind_some]
theorem mutK_of {kd : D → Bool} {m : D → List D → Option (D × D)} {i : Nat} {fs : List WE} {ε ε1 ε2 : En} {h0 h h' d : D} {ds : List D} (e0 : ownd ε i = some h0) (k : kd h0 = true) (e1 : evl fs ε = some (ds, ε1)) (e2 : ownd ε1 i = some h) (e3 : m h ds = some (d, h')) (e4 : upc ε1 i h' = some ε2) : mutK kd m i fs ε = some (d, ε2) := by
  unfold mutK
  rw [e0, Option.bind_some, if_pos k, e1, Option.bind_some, e2, Option.bind_some, e3, Option.bind_some, e4, Option.bind_some]
theorem evl_cons {f : WE} {fs : List WE} {ε ε1 ε2 : En} {d : D} {ds : List D} (h : f ε = some (d, ε1)) (k : evl fs ε1 = some (ds, ε2)) : evl (f :: fs) ε = some (d :: ds, ε2) := by
  unfold evl
  rw [h, Option.bind_some, k, Option.bind_some]
theorem evl_one {f : WE} {ε ε1 : En} {d : D} (h : f ε = some (d, ε1)) : evl [f] ε = some ([d], ε1) := evl_cons h rfl
theorem op2_e {g : D → D → Option D} {f1 f2 : WE} {ε ε1 ε2 : En} {x y d : D} (h1 : f1 ε = some (x, ε1)) (h2 : f2 ε1 = some (y, ε2)) (h3 : g x y = some d) : op2 g (.e f1) (.e f2) ε = some (d, ε2) := by
  simp only [op2, Opd.ev, Opd.fin, h1, h2, h3, Option.bind_some]
theorem op2_se {g : D → D → Option D} {i : Nat} {f2 : WE} {ε ε2 : En} {x0 x y d : D} (h1 : rd ε i = some x0) (h2 : f2 ε = some (y, ε2)) (h3 : rd ε2 i = some x) (h4 : g x y = some d) : op2 g (.s i) (.e f2) ε = some (d, ε2) := by
  simp only [op2, Opd.ev, Opd.fin, h1, h2, h3, h4, Option.bind_some]
theorem op2_es {g : D → D → Option D} {i : Nat} {f1 : WE} {ε ε2 : En} {x y d : D} (h1 : f1 ε = some (x, ε2)) (h2 : rd ε2 i = some y) (h3 : g x y = some d) : op2 g (.e f1) (.s i) ε = some (d, ε2) := by
  simp only [op2, Opd.ev, Opd.fin, h1, h2, h3, Option.bind_some]
theorem bT_of {f : WE} {ε ε1 : En} {b : Bool} (h : f ε = some (.bool b, ε1)) : bT f ε = some (b, ε1) := by
  simp only [bT, h, Option.bind_some]
theorem notT_of {a : WT} {ε ε1 : En} {k : Bool} (h : a ε = some (k, ε1)) : notT a ε = some (!k, ε1) := by
  simp only [notT, h, Option.bind_some]
theorem orT_f {a b : WT} {ε ε1 ε2 : En} {k : Bool} (h : a ε = some (false, ε1)) (h2 : b ε1 = some (k, ε2)) : orT a b ε = some (k, ε2) := by
  simp only [orT, h, h2, Option.bind_some, cond_false]
theorem asg_of {f : WE} {g : WG} {ε ε1 ε2 : En} {d : D} (h : f ε = some (d, ε1)) (h2 : g d ε1 = some ε2) : asgS f g ε = some (.nx ε2) := by
  unfold asgS
  rw [h, Option.bind_some, h2]; rfl
theorem ret_of {f : WE} {ε ε1 : En} {d : D} (h : f ε = some (d, ε1)) : retS f ε = some (.rt d ε1) := by
  unfold retS
  rw [h]; rfl
theorem lst_of {fs : List WE} {ε ε1 : En} {ds : List D} (h : evl fs ε = some (ds, ε1)) : lstE fs ε = some (.list ds, ε1) := by
  unfold lstE
  rw [h]; rfl
theorem seq_asg {f : WE} {g : WG} {b : WS} {ε ε1 ε2 : En} {d : D} (h : f ε = some (d, ε1)) (h2 : g d ε1 = some ε2) : seqS (asgS f g) b ε = b ε2 := by
  unfold seqS asgS
  rw [h, Option.bind_some, h2]; rfl
theorem seq_nx {a b : WS} {ε ε1 : En} (h : a ε = some (.nx ε1)) : seqS a b ε = b ε1 := by
  unfold seqS
  rw [h]; rfl
theorem seq_if {t : WT} {a b c : WS} {ε ε1 : En} (h : t ε = some (false, ε1)) (hb : b ε1 = some (.nx ε1)) : seqS (ifS t a b) c ε = c ε1 := by
  unfold seqS ifS
  rw [h, Option.bind_some]
  show ((bif false then a ε1 else b ε1).bind fun o => run1 o c) = _
  rw [cond_false, hb]; rfl
theorem runM_of {n : Nat} {W : WS} {h h' d : D} {ds : List D} {ε' : En} (e : W (.ln h :: ini (n - 1) ds) = some (.rt d ε')) (l : lent ε' = some h') : runM n W h ds = some (d, h') := by
  unfold runM
  rw [e]
  show ((lent ε').bind fun h' => some (d, h')) = _
  rw [l]; rfl
theorem runD_of {n : Nat} {W : WS} {d : D} {ds : List D} {ε' : En} (e : W (ini n ds) = some (.rt d ε')) : runD n W ds = some d := by
  unfold runD
  rw [e]; rfl
end PL

-- k04sem
namespace T4
open PySem PL
def W_is_integer : WS :=
 (retS (andE (op1 (isiD "int") (.s 0)) (notE (op1 (isiD "bool") (.s 0)))))
def F_is_integer : List D → Option D := runD 1 W_is_integer
def W_is_within : WS :=
 (retS (andE (callE F_is_integer [(vE 0)]) (chainE leD leD (vE 1) (vE 0) (vE 2))))
def F_is_within : List D → Option D := runD 3 W_is_within
def c_is_letters_1 : WE :=
 (lcE (itI (vE 0)) [3] (gN 3) yesT (op2 (inD false) (.s 3) (.e (cE (tx [97, 98, 99, 100, 101, 102, 103, 104, 105, 106, 107, 108, 109, 110, 111, 112, 113, 114, 115, 116, 117, 118, 119, 120, 121, 122])))))
def W_is_letters : WS :=
 (retS (andE (op1 (isiD "str") (.s 0)) (andE (chainE leD leD (vE 1) (opN lenD [(.s 0)]) (vE 2)) (opN allD [(.e c_is_letters_1)]))))
def F_is_letters : List D → Option D := runD 4 W_is_letters
def W_is_text : WS :=
 (retS (callE F_is_letters [(vE 0), (cE (.int 0)), (cE (.int 12))]))
def F_is_text : List D → Option D := runD 1 W_is_text
def W_check_text : WS :=
 (ifS (notT (bT (callE F_is_text [(vE 0)]))) nevS nilS)
def F_check_text : List D → Option D := runD 1 W_check_text
def W_check_two : WS :=
 (seqS (dropS (callE F_check_text [(vE 0)]))
  (dropS (callE F_check_text [(vE 1)])))
def F_check_two : List D → Option D := runD 2 W_check_two
def W_is_word : WS :=
 (retS (callE F_is_letters [(vE 0), (cE (.int 1)), (cE (.int 12))]))
def F_is_word : List D → Option D := runD 1 W_is_word
def W_check_word : WS :=
 (ifS (notT (bT (callE F_is_word [(vE 0)]))) nevS nilS)
def F_check_word : List D → Option D := runD 1 W_check_word
def W_turned : WS :=
 (retS (op2 addD (.e (sliE slD (.s 0) (some (vE 1)) none)) (.e (sliE slD (.s 0) none (some (vE 1))))))
def F_turned : List D → Option D := runD 2 W_turned
def c_raw_order_1 : WE :=
 (lcE (rngI [(opN lenD [(.s 0)])]) [2] (gN 2) yesT (tupE [(callE F_turned [(vE 0), (vE 2)]), (vE 2)]))
def c_raw_order_2 : WE :=
 (lcE (itI (opN sortD [(.e c_raw_order_1)])) [1, 2] (gT [(gN 1), (gN 2)]) yesT (vE 2))
def W_raw_order : WS :=
 (retS c_raw_order_2)
def F_raw_order : List D → Option D := runD 3 W_raw_order
def W_turns_in_order : WS :=
 (seqS (dropS (callE F_check_word [(vE 0)]))
  (retS (opN tupFD [(.e (callE F_raw_order [(vE 0)]))])))
def F_turns_in_order : List D → Option D := runD 1 W_turns_in_order
def c_raw_last_1 : WE :=
 (lcE (itI (callE F_raw_order [(vE 0)])) [1] (gN 1) yesT (op2 ixD (.e (callE F_turned [(vE 0), (vE 1)])) (.e (op1 negD (.e (cE (.int 1)))))))
def W_raw_last : WS :=
 (retS (metE "str" joinD (.e (cE (tx []))) [(.e c_raw_last_1)]))
def F_raw_last : List D → Option D := runD 2 W_raw_last
def W_last_letters : WS :=
 (seqS (dropS (callE F_check_word [(vE 0)]))
  (retS (callE F_raw_last [(vE 0)])))
def F_last_letters : List D → Option D := runD 1 W_last_letters
def W_place_of : WS :=
 (seqS (dropS (callE F_check_word [(vE 0)]))
  (retS (metE "list" indexD (.e (callE F_raw_order [(vE 0)])) [(.e (cE (.int 0)))])))
def F_place_of : List D → Option D := runD 1 W_place_of
def c_raw_steps_1 : WE :=
 (lcE (itI (vE 0)) [3] (gN 3) (bT (op2 ltD (.s 3) (.s 2))) (cE (.int 1)))
def c_raw_steps_2 : WE :=
 (lcE (enI (vE 0)) [1, 2] (gT [(gN 1), (gN 2)]) yesT (op2 addD (.e (opN lenD [(.e c_raw_steps_1)])) (.e (metE "str" countSD (.e (sliE slD (.s 0) none (some (vE 1)))) [(.s 2)]))))
def W_raw_steps : WS :=
 (retS c_raw_steps_2)
def F_raw_steps : List D → Option D := runD 4 W_raw_steps
def l_raw_from_last_1 : WS :=
 (forS (rngI [(opN lenD [(.s 0)])]) (gN 5) (seqS (asgS (op2 addD (.e (op2 ixD (.s 0) (.s 4))) (.s 3)) (gN 3))
 (asgS (op2 ixD (.s 2) (.s 4)) (gN 4))))
def W_raw_from_last : WS :=
 (seqS (parS [2, 3, 4] [(false, (callE F_raw_steps [(vE 0)])), (false, (cE (tx []))), (false, (vE 1))])
  (seqS l_raw_from_last_1
  (retS (vE 3))))
def F_raw_from_last : List D → Option D := runD 6 W_raw_from_last
def c_all_words_like_1 : WE :=
 (dcE (rngI [(opN lenD [(.s 0)])]) [2] (gN 2) yesT (callE F_raw_from_last [(vE 0), (vE 2)]) (cE (.bool true)))
def c_all_words_like_2 : WE :=
 (lcE (itV 1) [3] (gN 3) (bT (op2 eqD (.e (callE F_raw_last [(vE 3)])) (.s 0))) (vE 3))
def W_all_words_like : WS :=
 (seqS (asgS c_all_words_like_1 (gN 1))
  (retS (opN sortD [(.e c_all_words_like_2)])))
def F_all_words_like : List D → Option D := runD 4 W_all_words_like
def l_from_last_1 : WS :=
 (forS (itI (callE F_all_words_like [(vE 0)])) (gN 3) (ifS (andT (bT (op2 eqD (.s 3) (.s 2))) (bT (op2 eqD (.e (metE "list" indexD (.e (callE F_raw_order [(vE 2)])) [(.e (cE (.int 0)))])) (.s 1)))) (retS (vE 2)) nilS))
def W_from_last : WS :=
 (seqS (dropS (callE F_check_word [(vE 0)]))
  (seqS (ifS (notT (bT (callE F_is_within [(vE 1), (cE (.int 0)), (op2 subD (.e (opN lenD [(.s 0)])) (.e (cE (.int 1))))]))) nevS nilS)
  (seqS (asgS (callE F_raw_from_last [(vE 0), (vE 1)]) (gN 2))
  (seqS l_from_last_1
  (retS (cE .none))))))
def F_from_last : List D → Option D := runD 4 W_from_last
def W_is_last : WS :=
 (retS (andE (callE F_is_word [(vE 0)]) (op2 gtD (.e (opN lenD [(.e (callE F_all_words_like [(vE 0)]))])) (.e (cE (.int 0))))))
def F_is_last : List D → Option D := runD 1 W_is_last
def W_first_letters : WS :=
 (seqS (dropS (callE F_check_word [(vE 0)]))
  (retS (metE "str" joinD (.e (cE (tx []))) [(.e (opN sortD [(.s 0)]))])))
def F_first_letters : List D → Option D := runD 1 W_first_letters
def c_runs_in_1 : WE :=
 (lcE (zipI (vE 1) (sliE slD (.s 1) (some (cE (.int 1))) none)) [2, 3] (gT [(gN 2), (gN 3)]) (bT (op2 neD (.s 2) (.s 3))) (cE (.int 1)))
def W_runs_in : WS :=
 (seqS (dropS (callE F_check_word [(vE 0)]))
  (seqS (asgS (callE F_raw_last [(vE 0)]) (gN 1))
  (retS (op2 addD (.e (cE (.int 1))) (.e (opN lenD [(.e c_runs_in_1)]))))))
def F_runs_in : List D → Option D := runD 4 W_runs_in
def W_words_like : WS :=
 (seqS (dropS (callE F_check_word [(vE 0)]))
  (retS (opN tupFD [(.e (callE F_all_words_like [(vE 0)]))])))
def F_words_like : List D → Option D := runD 1 W_words_like
def l_edit_table_1 : WS :=
 (forS (enI (vE 1)) (gT [(gN 6), (gN 7)]) (dropS (mutK isL appM 5 [(opN (bestD false) [(.e (op2 addD (.e (op2 ixD (.e (op2 ixD (.s 2) (.s 3))) (.e (op2 addD (.s 6) (.e (cE (.int 1))))))) (.e (cE (.int 1))))), (.e (op2 addD (.e (op2 ixD (.s 5) (.s 6))) (.e (cE (.int 1))))), (.e (op2 addD (.e (op2 ixD (.e (op2 ixD (.s 2) (.s 3))) (.s 6))) (.e (opN intFD [(.e (op2 neD (.s 4) (.s 7)))]))))])])))
def l_edit_table_2 : WS :=
 (forS (enI (vE 0)) (gT [(gN 3), (gN 4)]) (seqS (setM 5 (lstE [(op2 addD (.s 3) (.e (cE (.int 1))))]))
 (seqS l_edit_table_1
 (dropS (mutK isL appM 2 [(vE 5)])))))
def W_edit_table : WS :=
 (seqS (setM 2 (lstE [(lrgE [(op2 addD (.e (opN lenD [(.s 1)])) (.e (cE (.int 1))))])]))
  (seqS l_edit_table_2
  (retS (vE 2))))
def F_edit_table : List D → Option D := runD 8 W_edit_table
def W_raw_fewest : WS :=
 (retS (op2 ixD (.e (op2 ixD (.e (callE F_edit_table [(vE 0), (vE 1)])) (.e (opN lenD [(.s 0)])))) (.e (opN lenD [(.s 1)]))))
def F_raw_fewest : List D → Option D := runD 2 W_raw_fewest
def c_all_turns_1 : WE :=
 (lcE (rngI [(opN (bestD true) [(.e (cE (.int 1))), (.e (opN lenD [(.s 0)]))])]) [1] (gN 1) yesT (op2 addD (.e (sliE slD (.s 0) (some (vE 1)) none)) (.e (sliE slD (.s 0) none (some (vE 1))))))
def W_all_turns : WS :=
 (retS c_all_turns_1)
def F_all_turns : List D → Option D := runD 2 W_all_turns
def c_turned_fewest_1 : WE :=
 (lcE (enI (callE F_all_turns [(vE 0)])) [2, 3] (gT [(gN 2), (gN 3)]) yesT (tupE [(callE F_raw_fewest [(vE 3), (vE 1)]), (vE 2)]))
def W_turned_fewest : WS :=
 (seqS (dropS (callE F_check_two [(vE 0), (vE 1)]))
  (retS (opN (bestD false) [(.e c_turned_fewest_1)])))
def F_turned_fewest : List D → Option D := runD 4 W_turned_fewest
def W_least_turn : WS :=
 (seqS (dropS (callE F_check_text [(vE 0)]))
  (retS (opN (bestD false) [(.e (callE F_all_turns [(vE 0)]))])))
def F_least_turn : List D → Option D := runD 1 W_least_turn
def W_same_round : WS :=
 (seqS (dropS (callE F_check_two [(vE 0), (vE 1)]))
  (retS (op2 (inD false) (.s 1) (.e (callE F_all_turns [(vE 0)])))))
def F_same_round : List D → Option D := runD 2 W_same_round
def c__law_hand_1 : WE :=
 (lcE (itI (sliE slD (.s 0) none (some (cE (.int 60))))) [2] (gN 2) yesT (op2 modD (.e (opN intFD [(.e (opN absD [(.e (opN intFD [(.s 2)]))]))])) (.e (op2 powD (.e (cE (.int 10))) (.e (cE (.int 36)))))))
def W__law_hand : WS :=
 (seqFS (asgS c__law_hand_1 (gN 1))
  (retS (lstE [(vE 1), (cE (.int 0)), (cE (.int 0)), (op2 addD (.e (op2 addD (.e (cE (.int 22419))) (.e (op2 mulD (.e (cE (.int 641))) (.e (cE (.int 4))))))) (.e (op2 mulD (.e (cE (.int 31))) (.e (opN lenD [(.s 1)]))))), (cE (.int 0))])))
def F__law_hand : List D → Option D := runF 3 W__law_hand
def W__law_draw : WS :=
 (seqS (ifS (andT (bT (op2 eqD (.e (op2 ixD (.s 0) (.e (cE (.int 2))))) (.e (cE (.int 0))))) (bT (op2 ltD (.e (op2 ixD (.s 0) (.e (cE (.int 1))))) (.e (opN lenD [(.e (op2 ixD (.s 0) (.e (cE (.int 0)))))]))))) (seqS (asgS (op2 ixD (.e (op2 ixD (.s 0) (.e (cE (.int 0))))) (.e (op2 ixD (.s 0) (.e (cE (.int 1)))))) (gN 2))
  (seqS (setI setLM 0 (cE (.int 1)) (op2 addD (.e (op2 ixD (.s 0) (.e (cE (.int 1))))) (.e (cE (.int 1)))))
  (seqS (setI setLM 0 (cE (.int 3)) (op2 modD (.e (opN intFD [(.e (op2 addD (.e (op2 addD (.e (op2 mulD (.e (op2 ixD (.s 0) (.e (cE (.int 3))))) (.e (cE (.int 48271))))) (.e (op2 mulD (.e (op2 modD (.e (opN intFD [(.s 2)])) (.e (cE (.int 2147483629))))) (.e (cE (.int 69621))))))) (.e (cE (.int 17)))))])) (.e (cE (.int 2147483629)))))
  (ifS (bT (op2 geD (.s 2) (.e (op2 powD (.e (cE (.int 10))) (.e (cE (.int 15))))))) (setI setLM 0 (cE (.int 2)) (vE 2)) nilS)))) nilS)
  (seqS (ifS (bT (op2 gtD (.e (op2 ixD (.s 0) (.e (cE (.int 2))))) (.e (cE (.int 0))))) (seqS (asgS (op2 modD (.e (opN intFD [(.e (op2 ixD (.s 0) (.e (cE (.int 2)))))])) (.s 1)) (gN 3))
  (seqS (setI setLM 0 (cE (.int 2)) (op2 fdivD (.e (opN intFD [(.e (op2 ixD (.s 0) (.e (cE (.int 2)))))])) (.s 1)))
  (retS (vE 3)))) nilS)
  (seqS (setI setLM 0 (cE (.int 4)) (op2 addD (.e (op2 ixD (.s 0) (.e (cE (.int 4))))) (.e (cE (.int 1)))))
  (seqS (asgS (op2 modD (.e (opN intFD [(.e (op2 mulD (.e (opN intFD [(.e (op2 addD (.e (op2 ixD (.s 0) (.e (cE (.int 3))))) (.e (op2 mulD (.e (cE (.int 7919))) (.e (op2 ixD (.s 0) (.e (cE (.int 4)))))))))])) (.e (cE (.int 40692)))))])) (.e (cE (.int 2147483399)))) (gN 4))
  (seqS (asgS (op2 modD (.e (opN intFD [(.e (op2 mulD (.s 4) (.e (op2 addD (.e (op2 fdivD (.s 4) (.e (cE (.int 1009))))) (.e (cE (.int 30011)))))))])) (.e (cE (.int 2147483647)))) (gN 4))
  (retS (op2 modD (.e (opN intFD [(.e (op2 fdivD (.s 4) (.e (cE (.int 32)))))])) (.s 1))))))))
def F__law_draw : D → List D → Option (D × D) := runM 5 W__law_draw
def W__law_some : WS :=
 (retS (op2 ixD (.s 1) (.e (callM F__law_draw 0 [(opN lenD [(.s 1)])]))))
def F__law_some : D → List D → Option (D × D) := runM 2 W__law_some
def W__law_is : WS :=
 (retS (op2 eqD (.e (opN reprD [(.s 0)])) (.e (opN reprD [(.s 1)]))))
def F__law_is : List D → Option D := runD 2 W__law_is
def l__law_text_1 : WS :=
 (forS (rngI [(op2 addD (.s 1) (.e (callM F__law_draw 0 [(op2 addD (.e (op2 subD (.s 2) (.s 1))) (.e (cE (.int 1))))])))]) (gN 5) (asgS (op2 addD (.s 4) (.e (callM F__law_some 0 [(opN listFD [(.s 3)])]))) (gN 4)))
def W__law_text : WS :=
 (seqS (asgS (cE (tx [])) (gN 4))
  (seqS l__law_text_1
  (retS (vE 4))))
def F__law_text : D → List D → Option (D × D) := runM 6 W__law_text
def c__law_turns_1 : WE :=
 (lcE (rngI [(opN lenD [(.s 0)])]) [1] (gN 1) yesT (op2 addD (.e (sliE slD (.s 0) (some (vE 1)) none)) (.e (sliE slD (.s 0) none (some (vE 1))))))
def W__law_turns : WS :=
 (retS (opN sortD [(.e c__law_turns_1)]))
def F__law_turns : List D → Option D := runD 2 W__law_turns
def c__law_last_1 : WE :=
 (lcE (itI (callE F__law_turns [(vE 0)])) [1] (gN 1) yesT (op2 ixD (.s 1) (.e (op1 negD (.e (cE (.int 1)))))))
def W__law_last : WS :=
 (retS (metE "str" joinD (.e (cE (tx []))) [(.e c__law_last_1)]))
def F__law_last : List D → Option D := runD 2 W__law_last
def l__law_is_right_1 : WS :=
 (forS (itI (vE 2)) (gN 5) (dropS (mutK isL extM 4 [(ifE (bT (op2 (inD true) (.s 5) (.s 4))) (lstE [(vE 5)]) (lstE []))])))
def c__law_is_right_2 : WE :=
 (lcE (rngI [(cE (.int 3))]) [9] (gN 9) yesT (callM F__law_some 0 [(vE 2)]))
def c__law_is_right_3 : WE :=
 (lcE (rngI [(cE (.int 1)), (opN lenD [(.s 3)])]) [11] (gN 11) (bT (op2 neD (.e (op2 ixD (.s 3) (.s 11))) (.e (op2 ixD (.s 3) (.e (op2 subD (.s 11) (.e (cE (.int 1))))))))) (vE 11))
def l__law_is_right_4 : WS :=
 (forS (itI c__law_is_right_2) (gN 5) (seqS (asgS (lstE [(callE F_last_letters [(vE 5)]), (callE F_same_round [(vE 1), (vE 5)]), (op2 ixD (.e (callE F_turned_fewest [(vE 5), (vE 1)])) (.e (cE (.int 0)))), (callE F_first_letters [(vE 5)]), (callE F_runs_in [(vE 5)])]) (gN 6))
 (seqS (asgS (lstE [(vE 3), (cE (.bool true)), (cE (.int 0)), (metE "str" joinD (.e (cE (tx []))) [(.e (opN sortD [(.s 1)]))]), (op2 addD (.e (cE (.int 1))) (.e (opN lenD [(.e c__law_is_right_3)])))]) (gN 7))
 (ifS (orT (notT (bT (callE F__law_is [(vE 6), (vE 7)]))) (orT (bT (op2 neD (.e (op2 ixD (.s 2) (.e (callE F_place_of [(vE 5)])))) (.s 5))) (notT (bT (callE F__law_is [(callE F_from_last [(vE 3), (callE F_place_of [(vE 5)])]), (vE 5)]))))) (retS (cE (.bool false))) nilS))))
def c__law_is_right_5 : WE :=
 (lcE (itI (vE 8)) [10] (gN 10) yesT (op2 addD (.e (sliE slD (.s 1) (some (vE 10)) none)) (.e (sliE slD (.s 1) none (some (vE 10))))))
def W__law_is_right : WS :=
 (seqS (asgS (tupE [(callE F__law_turns [(vE 1)]), (callE F__law_last [(vE 1)])]) (gT [(gN 2), (gN 3)]))
  (seqS (setM 4 (lstE []))
  (seqS l__law_is_right_1
  (seqS (ifS (notT (bT (callE F__law_is [(lstE [(callE F_last_letters [(vE 1)]), (callE F_words_like [(vE 3)]), (callE F_least_turn [(vE 1)])]), (lstE [(vE 3), (opN tupFD [(.s 4)]), (op2 ixD (.s 2) (.e (cE (.int 0))))])]))) (retS (cE (.bool false))) nilS)
  (seqS (ifS (orT (bT (op2 neD (.e (opN lenD [(.s 2)])) (.e (op2 mulD (.e (opN lenD [(.s 4)])) (.e (metE "list" countLD (.s 2) [(.s 1)])))))) (notT (bT (callE F__law_is [(callE F_is_last [(vE 3)]), (cE (.bool true))])))) (retS (cE (.bool false))) nilS)
  (seqS l__law_is_right_4
  (seqS (asgS (callE F_turns_in_order [(vE 1)]) (gN 8))
  (retS (op2 eqD (.e c__law_is_right_5) (.s 2))))))))))
def F__law_is_right : D → List D → Option (D × D) := runM 12 W__law_is_right
def l__law_is_apart_1 : WS :=
 (whileL (bT (op2 neD (.s 2) (.e (lstE [])))) (asgS (op2 addD (.s 3) (.e (mutK isL popM 2 [(callM F__law_draw 0 [(opN lenD [(.s 2)])])]))) (gN 3)) lots)
def W__law_is_apart : WS :=
 (seqS (parS [2, 3] [(true, (opN listFD [(.s 1)])), (false, (cE (tx [])))])
  (seqS l__law_is_apart_1
  (seqS (asgS (op2 (inD false) (.s 3) (.e (callE F__law_turns [(vE 1)]))) (gN 4))
  (seqS (asgS (lstE [(op2 eqD (.e (callE F_last_letters [(vE 3)])) (.e (callE F_last_letters [(vE 1)]))), (callE F_same_round [(vE 1), (vE 3)]), (op2 (inD false) (.s 3) (.e (callE F_words_like [(callE F_last_letters [(vE 1)])])))]) (gN 5))
  (seqS (asgS (op2 addD (.s 5) (.e (lstE [(op2 eqD (.e (op2 ixD (.e (callE F_turned_fewest [(vE 1), (vE 3)])) (.e (cE (.int 0))))) (.e (cE (.int 0)))), (op2 eqD (.e (callE F_least_turn [(vE 1)])) (.e (callE F_least_turn [(vE 3)])))]))) (gN 5))
  (retS (callE F__law_is [(vE 5), (op2 mulD (.e (lstE [(vE 4)])) (.e (cE (.int 5))))])))))))
def F__law_is_apart : D → List D → Option (D × D) := runM 6 W__law_is_apart
def l_law_1 : WS :=
 (forS (rngI [(cE (.int 6))]) (gN 4) (seqS (asgS (callM F__law_some 1 [(lstE [(cE (tx [97])), (cE (tx [97, 98])), (cE (tx [97, 98])), (cE (tx [97, 98, 99])), (cE (tx [97, 122])), (cE (tx [97, 98, 99, 100, 101]))])]) (gN 5))
 (seqS (asgS (callM F__law_text 1 [(cE (.int 1)), (cE (.int 12)), (vE 5)]) (gN 6))
 (seqS (asgS (callM F__law_text 1 [(cE (.int 1)), (cE (.int 6)), (vE 5)]) (gN 7))
 (seqS (asgS (callM F__law_some 1 [(lstE [(vE 6), (vE 6), (op2 mulD (.s 7) (.e (op2 fdivD (.e (cE (.int 12))) (.e (opN lenD [(.s 7)]))))), (op2 mulD (.s 7) (.e (cE (.int 2))))])]) (gN 6))
 (ifS (orT (notT (bT (callM F__law_is_right 1 [(vE 6)]))) (notT (bT (callM F__law_is_apart 1 [(vE 6)])))) (retS (cE (.bool false))) nilS))))))
def W_law : WS :=
 (seqS (setM 1 (callE F__law_hand [(vE 0)]))
  (seqS (asgS (lstE [(callE F_words_like [(cE (tx [110, 110, 98, 97, 97, 97]))]), (callE F_words_like [(cE (tx [97, 97, 97, 97, 97, 97, 97, 97, 97, 97, 97, 97]))]), (callE F_words_like [(cE (tx [98, 98, 98, 98, 98, 98, 97, 97, 97, 97, 97, 97]))]), (callE F_is_last [(cE (tx [97, 98]))]), (callE F_is_last [(cE (tx [97, 98, 97, 98, 97, 98, 97, 98, 97, 98, 97, 98]))])]) (gN 2))
  (seqS (asgS (lstE [(tupE [(cE (tx [97, 98, 97, 110, 97, 110])), (cE (tx [97, 110, 97, 98, 97, 110])), (cE (tx [97, 110, 97, 110, 97, 98])), (cE (tx [98, 97, 110, 97, 110, 97])), (cE (tx [110, 97, 98, 97, 110, 97])), (cE (tx [110, 97, 110, 97, 98, 97]))]), (tupE [(op2 mulD (.e (cE (tx [97]))) (.e (cE (.int 12))))]), (tupE [(op2 mulD (.e (cE (tx [97, 98]))) (.e (cE (.int 6)))), (op2 mulD (.e (cE (tx [98, 97]))) (.e (cE (.int 6))))]), (cE (.bool false)), (cE (.bool false))]) (gN 3))
  (seqS (ifS (notT (bT (callE F__law_is [(vE 2), (vE 3)]))) (retS (cE (.bool false))) nilS)
  (seqS l_law_1
  (retS (cE (.bool true))))))))
def F_law : List D → Option D := runD 8 W_law
end T4

-- K4m
/-! turns of words, sorted; the way back from the last letters -/
namespace BW
abbrev Wd := List Nat
section order
theorem le_of_lt {a b : Wd} (h : a < b) : a ≤ b := List.le_of_lt h
theorem lt_of_le_of_ne {a b : Wd} (h : a ≤ b) (n : a ≠ b) : a < b := by
  by_cases k : a < b
  · exact k
  · exact absurd (List.le_antisymm h (List.not_lt.mp k)) n
theorem le_refl (a : Wd) : a ≤ a := List.le_refl a
theorem le_trans {a b c : Wd} (h : a ≤ b) (k : b ≤ c) : a ≤ c := List.le_trans h k
theorem lt_of_lt_of_le {a b c : Wd} (h : a < b) (k : b ≤ c) : a < c := by
  by_cases z : a < c
  · exact z
  · exact absurd h (List.not_lt.mpr (le_trans k (List.not_lt.mp z)))
theorem lt_of_le_of_lt {a b c : Wd} (h : a ≤ b) (k : b < c) : a < c := by
  by_cases z : a < c
  · exact z
  · exact absurd k (List.not_lt.mpr (le_trans (List.not_lt.mp z) h))
theorem cons_lt {x y : Nat} {a b : Wd} : x :: a < y :: b ↔ x < y ∨ (x = y ∧ a < b) := by
  exact List.cons_lt_cons_iff
theorem lt_append {a b : Wd} (hl : a.length = b.length) (c d : Wd) (h : a < b) : a ++ c < b ++ d := by
  induction a generalizing b with
  | nil =>
    cases b with
    | nil => exact absurd h (List.lt_irrefl _)
    | cons _ _ => cases hl
  | cons x a ih =>
    cases b with
    | nil => cases hl
    | cons y b =>
      rw [List.cons_append, List.cons_append, cons_lt]
      rcases cons_lt.mp h with h | ⟨h1, h2⟩
      · exact .inl h
      · exact .inr ⟨h1, ih (by simpa using hl) h2⟩
end order
/-- a sorted list is known by what is in it -/
theorem perm_sorted {a b : List Wd} (p : a.Perm b) (ha : a.Pairwise (· ≤ ·)) (hb : b.Pairwise (· ≤ ·)) : a = b := by
  induction a generalizing b with
  | nil => exact (List.Perm.nil_eq p)
  | cons x a ih =>
    cases b with
    | nil => exact absurd p.length_eq (by simp)
    | cons y b =>
      have e : x = y := by
        have h1 : x ∈ y :: b := p.mem_iff.mp List.mem_cons_self
        have h2 : y ∈ x :: a := p.mem_iff.mpr List.mem_cons_self
        rw [List.pairwise_cons] at ha hb
        rcases List.mem_cons.mp h1 with h1 | h1
        · exact h1
        · rcases List.mem_cons.mp h2 with h2 | h2
          · exact h2.symm
          · exact List.le_antisymm (ha.1 y h2) (hb.1 x h1)
      subst e
      rw [ih (List.Perm.cons_inv p) (List.pairwise_cons.mp ha).2 (List.pairwise_cons.mp hb).2]
def srtW (l : List Wd) : List Wd := l.mergeSort fun a b => decide (a ≤ b)
theorem srtW_perm (l : List Wd) : (srtW l).Perm l := List.mergeSort_perm _ _
theorem srtW_sorted (l : List Wd) : (srtW l).Pairwise (· ≤ ·) := by
  have := List.pairwise_mergeSort (le := fun a b : Wd => decide (a ≤ b)) (fun a b c h k => by
    simp only [decide_eq_true_eq] at h k ⊢; exact le_trans h k) (fun a b => by
    simp only [Bool.or_eq_true, decide_eq_true_eq]; exact List.le_total a b) l
  exact this.imp fun h => by simpa using h
theorem srtW_of {l m : List Wd} (p : l.Perm m) (h : m.Pairwise (· ≤ ·)) : srtW l = m := perm_sorted ((srtW_perm l).trans p) (srtW_sorted l) h

/-! ### turns -/
def rot (m : Nat) (w : Wd) : Wd := w.drop m ++ w.take m
def rots (w : Wd) : List Wd := (List.range w.length).map fun m => rot m w
def T (w : Wd) : List Wd := srtW (rots w)
theorem rot_len {w : Wd} {m : Nat} (h : m ≤ w.length) : (rot m w).length = w.length := by
  unfold rot; rw [List.length_append, List.length_drop, List.length_take]; omega
theorem rots_len (w : Wd) : (rots w).length = w.length := by unfold rots; rw [List.length_map, List.length_range]
theorem T_len (w : Wd) : (T w).length = w.length := by unfold T; rw [(srtW_perm _).length_eq, rots_len]
theorem mem_rots {w t : Wd} : t ∈ rots w ↔ ∃ m, m < w.length ∧ rot m w = t := by
  unfold rots; simp
theorem mem_T {w t : Wd} : t ∈ T w ↔ ∃ m, m < w.length ∧ rot m w = t := by
  unfold T; rw [(srtW_perm _).mem_iff, mem_rots]
theorem len_of_T {w t : Wd} (h : t ∈ T w) : t.length = w.length := by
  obtain ⟨m, hm, rfl⟩ := mem_T.mp h
  exact rot_len (Nat.le_of_lt hm)
theorem T_sorted (w : Wd) : (T w).Pairwise (· ≤ ·) := srtW_sorted _
theorem rot_get {w : Wd} {m i : Nat} (hm : m ≤ w.length) (hi : i < w.length) : (rot m w)[i]? = w[(m + i) % w.length]? := by
  unfold rot
  by_cases h : i < w.length - m
  · rw [List.getElem?_append_left (by rw [List.length_drop]; exact h), List.getElem?_drop, Nat.mod_eq_of_lt (by omega)]
  · rw [List.getElem?_append_right (by rw [List.length_drop]; omega), List.length_drop, List.getElem?_take_of_lt (by omega)]
    congr 1
    rw [Nat.mod_eq_sub_mod (by omega), Nat.mod_eq_of_lt (by omega)]; omega
theorem rot_rot {w : Wd} {k m : Nat} (hk : k ≤ w.length) (hm : m ≤ w.length) (h0 : 0 < w.length) : rot m (rot k w) = rot ((k + m) % w.length) w := by
  have hl : (rot k w).length = w.length := rot_len hk
  have hlt : (k + m) % w.length < w.length := Nat.mod_lt _ h0
  apply List.ext_getElem?
  intro i
  by_cases hi : i < w.length
  · rw [rot_get (by rw [hl]; exact hm) (by rw [hl]; exact hi), hl, rot_get hk (Nat.mod_lt _ h0), rot_get (Nat.le_of_lt hlt) hi]
    congr 1
    rw [Nat.add_mod_mod, Nat.mod_add_mod]; congr 1; omega
  · rw [List.getElem?_eq_none (by rw [rot_len (by rw [hl]; exact hm), hl]; omega), List.getElem?_eq_none (by rw [rot_len (Nat.le_of_lt hlt)]; omega)]
theorem rot_zero (w : Wd) : rot 0 w = w := by simp [rot]
theorem range_turn {n k : Nat} (hk : k ≤ n) : (List.range n).map (fun m => (k + m) % n) = (List.range n).drop k ++ (List.range n).take k := by
  apply List.ext_getElem?
  intro i
  by_cases hi : i < n
  · rw [List.getElem?_map, List.getElem?_range hi, Option.map_some]
    by_cases h : i < n - k
    · rw [List.getElem?_append_left (by rw [List.length_drop, List.length_range]; exact h), List.getElem?_drop, List.getElem?_range (by omega), Nat.mod_eq_of_lt (by omega)]
    · rw [List.getElem?_append_right (by rw [List.length_drop, List.length_range]; omega), List.length_drop, List.length_range, List.getElem?_take_of_lt (by omega), List.getElem?_range (by omega), Nat.mod_eq_sub_mod (by omega), Nat.mod_eq_of_lt (by omega)]
      congr 1; omega
  · rw [List.getElem?_eq_none (by rw [List.length_map, List.length_range]; omega), List.getElem?_eq_none (by rw [List.length_append, List.length_drop, List.length_take, List.length_range]; omega)]
theorem rots_rot {w : Wd} {k : Nat} (hk : k < w.length) : (rots (rot k w)).Perm (rots w) := by
  have h0 : 0 < w.length := by omega
  unfold rots
  rw [rot_len (Nat.le_of_lt hk)]
  have e : (List.range w.length).map (fun m => rot m (rot k w)) = ((List.range w.length).map (fun m => (k + m) % w.length)).map fun j => rot j w := by
    rw [List.map_map]
    refine List.map_congr_left fun m hm => ?_
    rw [List.mem_range] at hm
    exact rot_rot (Nat.le_of_lt hk) (Nat.le_of_lt hm) h0
  rw [e, range_turn (Nat.le_of_lt hk)]
  refine List.Perm.map _ ?_
  exact List.perm_append_comm.trans (by rw [List.take_append_drop])
theorem T_rot {w t : Wd} (h : t ∈ T w) : T t = T w := by
  obtain ⟨m, hm, rfl⟩ := mem_T.mp h
  unfold T
  exact perm_sorted ((srtW_perm _).trans ((rots_rot hm).trans (srtW_perm _).symm)) (srtW_sorted _) (srtW_sorted _)
theorem self_T {w : Wd} (h : 0 < w.length) : w ∈ T w := mem_T.mpr ⟨0, h, rot_zero w⟩
theorem T_symm {w t : Wd} (h : t ∈ T w) : w ∈ T t := by
  have h0 : 0 < w.length := by obtain ⟨m, hm, _⟩ := mem_T.mp h; omega
  rw [T_rot h]; exact self_T h0

/-! ### the last letters and the way back -/
def lst (t : Wd) : Nat := t.getLastD 0
def rotr (t : Wd) : Wd := lst t :: t.dropLast
theorem split_last {t : Wd} (h : 0 < t.length) : t = t.dropLast ++ [lst t] := by
  have hn : t ≠ [] := by intro z; rw [z] at h; simp at h
  conv => lhs; rw [← List.dropLast_concat_getLast hn]
  congr 2
  unfold lst
  rw [List.getLastD_eq_getLast?, List.getLast?_eq_getLast hn]; rfl
theorem rotr_eq {t : Wd} (h : 0 < t.length) : rotr t = rot (t.length - 1) t := by
  have e := split_last h
  unfold rot rotr
  conv => rhs; rw [e]
  have hl : (t.dropLast ++ [lst t]).length - 1 = t.dropLast.length := by simp
  rw [hl, List.drop_left, List.take_left]; rfl
theorem rotr_mem {w t : Wd} (h : t ∈ T w) : rotr t ∈ T w := by
  have h0 : 0 < t.length := by
    obtain ⟨m, hm, _⟩ := mem_T.mp h
    rw [len_of_T h]; omega
  rw [← T_rot h, rotr_eq h0]
  exact mem_T.mpr ⟨t.length - 1, by omega, rfl⟩
theorem rotr_rot {w : Wd} {m : Nat} (hm : m < w.length) : rotr (rot m w) = rot ((m + (w.length - 1)) % w.length) w := by
  have hl := rot_len (Nat.le_of_lt hm)
  rw [rotr_eq (by rw [hl]; omega), hl, rot_rot (Nat.le_of_lt hm) (by omega) (by omega)]
theorem rotr_perm (w : Wd) : ((T w).map rotr).Perm (T w) := by
  have p1 : ((T w).map rotr).Perm ((rots w).map rotr) := (srtW_perm _).map _
  refine p1.trans (List.Perm.trans ?_ (srtW_perm _).symm)
  by_cases h0 : 0 < w.length
  · have e : (rots w).map rotr = ((List.range w.length).map fun m => ((w.length - 1) + m) % w.length).map fun j => rot j w := by
      unfold rots
      rw [List.map_map, List.map_map]
      refine List.map_congr_left fun m hm => ?_
      rw [List.mem_range] at hm
      show rotr (rot m w) = _
      rw [rotr_rot hm, Nat.add_comm]; rfl
    rw [e, range_turn (by omega)]
    unfold rots
    refine List.Perm.map _ ?_
    exact List.perm_append_comm.trans (by rw [List.take_append_drop])
  · have : w = [] := List.eq_nil_of_length_eq_zero (by omega)
    subst this; exact List.Perm.refl _
/-- where a thing stands in a sorted list -/
theorem sorted_at {l : List Wd} (hs : l.Pairwise (· ≤ ·)) {r : Wd} {k : Nat} (h1 : l.countP (fun t => decide (t < r)) ≤ k) (h2 : k < l.countP fun t => decide (t ≤ r)) : l[k]? = some r := by
  have hk : k < l.length := Nat.lt_of_lt_of_le h2 List.countP_le_length
  have low : ∀ t ∈ l.take (k + 1), t ≤ l[k] := fun t ht => by
    rw [List.take_add_one, List.getElem?_eq_getElem hk] at ht
    rcases List.mem_append.mp ht with ht | ht
    · have hp : (l.take k ++ l.drop k).Pairwise (· ≤ ·) := by rw [List.take_append_drop]; exact hs
      have := (List.pairwise_append.mp hp).2.2 t ht l[k] (by rw [List.drop_eq_getElem_cons hk]; exact List.mem_cons_self)
      exact this
    · have : t = l[k] := by simpa using ht
      rw [this]; exact le_refl _
  have high : ∀ t ∈ l.drop k, l[k] ≤ t := fun t ht => by
    rw [List.drop_eq_getElem_cons hk] at ht
    rcases List.mem_cons.mp ht with rfl | ht
    · exact le_refl _
    · have hp : (l.take k ++ l.drop k).Pairwise (· ≤ ·) := by rw [List.take_append_drop]; exact hs
      have h3 := (List.pairwise_append.mp hp).2.1
      rw [List.drop_eq_getElem_cons hk, List.pairwise_cons] at h3
      exact h3.1 t ht
  have e1 : ¬ l[k] < r := fun z => by
    have : (l.take (k + 1)).countP (fun t => decide (t < r)) = (l.take (k + 1)).length := List.countP_eq_length.mpr fun t ht => decide_eq_true (lt_of_le_of_lt (low t ht) z)
    have h3 : (l.take (k + 1)).countP (fun t => decide (t < r)) ≤ l.countP fun t => decide (t < r) := (List.take_sublist _ _).countP_le
    rw [this, List.length_take] at h3
    omega
  have e2 : ¬ r < l[k] := fun z => by
    have e : l.countP (fun t => decide (t ≤ r)) = (l.take k).countP (fun t => decide (t ≤ r)) + (l.drop k).countP fun t => decide (t ≤ r) := by
      rw [← List.countP_append, List.take_append_drop]
    have z2 : (l.drop k).countP (fun t => decide (t ≤ r)) = 0 := List.countP_eq_zero.mpr fun t ht => by
      have := lt_of_lt_of_le z (high t ht)
      simpa using this
    have h3 : (l.take k).countP (fun t => decide (t ≤ r)) ≤ (l.take k).length := List.countP_le_length
    rw [List.length_take] at h3
    omega
  rw [List.getElem?_eq_getElem hk, List.le_antisymm (List.not_lt.mp e2) (List.not_lt.mp e1)]
end BW

-- K4n
namespace BW
/-- the last letters -/
def L (w : Wd) : List Nat := (T w).map lst
def steps (l : List Nat) : List Nat := (List.range l.length).map fun i => l.countP (fun c => decide (c < l.getD i 0)) + (l.take i).count (l.getD i 0)
theorem L_len (w : Wd) : (L w).length = w.length := by unfold L; rw [List.length_map, T_len]
theorem countP_take_succ {α : Type} (p : α → Bool) (l : List α) (i : Nat) (h : i < l.length) : (l.take (i + 1)).countP p = (l.take i).countP p + (if p l[i] = true then 1 else 0) := by
  rw [List.take_add_one, List.countP_append, List.getElem?_eq_getElem h]
  simp [List.countP_cons]
theorem countP_mono' {α : Type} {p q : α → Bool} {l : List α} (h : ∀ x ∈ l, p x = true → q x = true) : l.countP p ≤ l.countP q := List.countP_mono_left h
theorem same_len {w t u : Wd} (h : t ∈ T w) (k : u ∈ T w) : t.length = u.length := by rw [len_of_T h, len_of_T k]
theorem LF {w : Wd} {i : Nat} (hi : i < w.length) : ∃ t, (T w)[i]? = some t ∧ (T w)[(L w).countP (fun c => decide (c < (L w).getD i 0)) + ((L w).take i).count ((L w).getD i 0)]? = some (rotr t) := by
  have hiT : i < (T w).length := by rw [T_len]; exact hi
  refine ⟨(T w)[i], List.getElem?_eq_getElem hiT, ?_⟩
  have hw : 0 < w.length := by omega
  generalize ht : (T w)[i] = t
  have htm : t ∈ T w := by rw [← ht]; exact List.getElem_mem hiT
  have hc : (L w).getD i 0 = lst t := by
    unfold L
    rw [List.getD_eq_getElem?_getD, List.getElem?_map, List.getElem?_eq_getElem hiT, ht]; rfl
  rw [hc]
  have h0 : ∀ u ∈ T w, 0 < u.length := fun u hu => by rw [len_of_T hu]; exact hw
  have h0t := h0 t htm
  have cL : (L w).countP (fun c => decide (c < lst t)) = (T w).countP fun u => decide (lst u < lst t) := by unfold L; rw [List.countP_map]; rfl
  have cT : ((L w).take i).count (lst t) = ((T w).take i).countP fun u => lst u == lst t := by
    unfold L
    rw [← List.map_take, List.count_eq_countP, List.countP_map]; rfl
  -- order of two turns by their beginnings, where the last letters are alike
  have ord : ∀ u ∈ T w, lst u = lst t → u.dropLast < t.dropLast → u < t := fun u hu e h => by
    rw [split_last (h0 u hu), split_last h0t, e]
    refine lt_append ?_ _ _ h
    rw [List.length_dropLast, List.length_dropLast, same_len hu htm]
  have ord' : ∀ u ∈ T w, lst u = lst t → t.dropLast < u.dropLast → t < u := fun u hu e h => by
    rw [split_last (h0 u hu), split_last h0t, e]
    refine lt_append ?_ _ _ h
    rw [List.length_dropLast, List.length_dropLast, same_len hu htm]
  have before : ∀ j (hj : j < (T w).length), (T w)[j] < t → j < i := fun j hj h => by
    by_cases k : j < i
    · exact k
    · have : t ≤ (T w)[j] := by
        rcases Nat.lt_or_ge i j with q | q
        · rw [← ht]; exact List.pairwise_iff_getElem.mp (T_sorted w) i j hiT hj q
        · have : j = i := by omega
          subst this
          rw [ht]; exact le_refl _
      exact absurd h (List.not_lt.mpr this)
  have upto : ∀ j (hj : j < (T w).length), j ≤ i → (T w)[j] ≤ t := fun j hj h => by
    rcases Nat.lt_or_ge j i with q | q
    · rw [← ht]; exact List.pairwise_iff_getElem.mp (T_sorted w) j i hj hiT q
    · have : j = i := by omega
      subst this
      rw [ht]; exact le_refl _
  have cnt : ∀ p : Wd → Bool, (T w).countP p = (T w).countP fun u => p (rotr u) := fun p => by
    rw [← (rotr_perm w).countP_eq p, List.countP_map]; rfl
  have rlt : ∀ u, decide (rotr u < rotr t) = (decide (lst u < lst t) || (lst u == lst t && decide (u.dropLast < t.dropLast))) := fun u => by
    unfold rotr
    by_cases h : lst u :: u.dropLast < lst t :: t.dropLast
    · rw [decide_eq_true h]
      rcases cons_lt.mp h with h | ⟨h, k⟩
      · simp [h]
      · simp [h, k]
    · rw [decide_eq_false h]
      have : ¬ (lst u < lst t ∨ (lst u = lst t ∧ u.dropLast < t.dropLast)) := fun z => h (cons_lt.mpr z)
      simp only [not_or, not_and] at this
      symm
      rw [Bool.or_eq_false_iff]
      refine ⟨decide_eq_false this.1, ?_⟩
      by_cases e : lst u = lst t
      · simp [e, this.2 e]
      · simp [e]
  have split : ∀ (q : Wd → Bool), (T w).countP (fun u => decide (lst u < lst t) || (lst u == lst t && q u)) = (T w).countP (fun u => decide (lst u < lst t)) + (T w).countP fun u => lst u == lst t && q u := fun q => by
    generalize T w = l
    induction l with
    | nil => rfl
    | cons x l ih =>
      rw [List.countP_cons, List.countP_cons, List.countP_cons, ih]
      by_cases a : lst x < lst t
      · have : ¬ lst x = lst t := by omega
        simp [a, this]; omega
      · simp [a]; omega
  -- the places before i with the same last letter
  have lo : (T w).countP (fun u => lst u == lst t && decide (u.dropLast < t.dropLast)) ≤ ((T w).take i).countP fun u => lst u == lst t := by
    have e : (T w).countP (fun u => lst u == lst t && decide (u.dropLast < t.dropLast)) = ((T w).take i).countP (fun u => lst u == lst t && decide (u.dropLast < t.dropLast)) + ((T w).drop i).countP fun u => lst u == lst t && decide (u.dropLast < t.dropLast) := by
      rw [← List.countP_append, List.take_append_drop]
    have z : ((T w).drop i).countP (fun u => lst u == lst t && decide (u.dropLast < t.dropLast)) = 0 := List.countP_eq_zero.mpr fun u hu hp => by
      rw [Bool.and_eq_true, beq_iff_eq, decide_eq_true_eq] at hp
      obtain ⟨j, hj, rfl⟩ := List.mem_iff_getElem.mp hu
      rw [List.getElem_drop] at hp
      have hj' : i + j < (T w).length := by rw [List.length_drop] at hj; omega
      have := before (i + j) hj' (ord _ (List.getElem_mem _) hp.1 hp.2)
      omega
    rw [e, z, Nat.add_zero]
    exact countP_mono' fun u _ hp => by rw [Bool.and_eq_true] at hp; exact hp.1
  have hi2 : ((T w).take i).countP (fun u => lst u == lst t) < (T w).countP fun u => lst u == lst t && !decide (t.dropLast < u.dropLast) := by
    have s1 : ((T w).take (i + 1)).countP (fun u => lst u == lst t) = ((T w).take i).countP (fun u => lst u == lst t) + 1 := by
      rw [countP_take_succ _ _ _ hiT, ht]; simp
    have s2 : ((T w).take (i + 1)).countP (fun u => lst u == lst t) ≤ ((T w).take (i + 1)).countP fun u => lst u == lst t && !decide (t.dropLast < u.dropLast) := countP_mono' fun u hu hp => by
      rw [beq_iff_eq] at hp
      obtain ⟨j, hj, rfl⟩ := List.mem_iff_getElem.mp hu
      rw [List.length_take] at hj
      rw [List.getElem_take] at hp ⊢
      have hj' : j < (T w).length := by omega
      have hle := upto j hj' (by omega)
      have : ¬ t.dropLast < (T w)[j].dropLast := fun z => List.not_lt.mpr hle (ord' _ (List.getElem_mem _) hp z)
      simp [hp, this]
    have s3 : ((T w).take (i + 1)).countP (fun u => lst u == lst t && !decide (t.dropLast < u.dropLast)) ≤ (T w).countP fun u => lst u == lst t && !decide (t.dropLast < u.dropLast) := (List.take_sublist _ _).countP_le
    omega
  refine sorted_at (T_sorted w) ?_ ?_
  · rw [cnt, cL, cT]
    have : (T w).countP (fun u => decide (rotr u < rotr t)) = (T w).countP (fun u => decide (lst u < lst t) || (lst u == lst t && decide (u.dropLast < t.dropLast))) := List.countP_congr fun u _ => by rw [rlt u]
    rw [this, split]
    omega
  · rw [cnt, cL, cT]
    have : (T w).countP (fun u => decide (rotr u ≤ rotr t)) = (T w).countP (fun u => decide (lst u < lst t) || (lst u == lst t && !decide (t.dropLast < u.dropLast))) := List.countP_congr fun u _ => by
      have e : decide (rotr u ≤ rotr t) = (decide (lst u < lst t) || (lst u == lst t && !decide (t.dropLast < u.dropLast))) := by
        by_cases h : rotr t < rotr u
        · rw [decide_eq_false (List.not_le.mpr h)]
          unfold rotr at h
          symm
          rw [Bool.or_eq_false_iff]
          rcases cons_lt.mp h with h | ⟨h, k⟩
          · exact ⟨decide_eq_false (by omega), by have : ¬ lst u = lst t := by omega
                                                  simp [this]⟩
          · exact ⟨decide_eq_false (by omega), by simp [h, k]⟩
        · rw [decide_eq_true (List.not_lt.mp h)]
          unfold rotr at h
          have h' : ¬ (lst t < lst u ∨ (lst t = lst u ∧ t.dropLast < u.dropLast)) := fun z => h (cons_lt.mpr z)
          simp only [not_or, not_and] at h'
          symm
          by_cases a : lst u < lst t
          · simp [a]
          · have e : lst u = lst t := by omega
            simp [e, h'.2 e.symm]
      rw [e]
    rw [this, split]
    omega
theorem steps_len (l : List Nat) : (steps l).length = l.length := by unfold steps; rw [List.length_map, List.length_range]
theorem steps_at {w : Wd} {i : Nat} {t : Wd} (h : (T w)[i]? = some t) : ∃ j, (steps (L w))[i]? = some j ∧ (T w)[j]? = some (rotr t) := by
  have hi : i < w.length := by rw [← T_len w]; exact (List.getElem?_eq_some_iff.mp h).1
  obtain ⟨t', h1, h2⟩ := LF hi
  rw [h] at h1; cases h1
  refine ⟨_, ?_, h2⟩
  unfold steps
  rw [List.getElem?_map, List.getElem?_range (by rw [L_len]; exact hi)]; rfl
/-- turned back k times -/
def back : Nat → Wd → Wd
  | 0, t => t
  | k + 1, t => rotr (back k t)
theorem rotr_len {t : Wd} (h : 0 < t.length) : (rotr t).length = t.length := by
  unfold rotr; rw [List.length_cons, List.length_dropLast]; omega
theorem back_eq {t : Wd} : ∀ k, k ≤ t.length → back k t = t.drop (t.length - k) ++ t.take (t.length - k)
  | 0, _ => by simp [back]
  | k + 1, h => by
    have h0 : 0 < t.length := by omega
    have e0 : t.drop (t.length - (k + 1)) = (t[t.length - (k + 1)]'(by omega)) :: t.drop (t.length - k) := by
      rw [List.drop_eq_getElem_cons (by omega)]
      congr 2; omega
    have e1 : t.take (t.length - k) = t.take (t.length - (k + 1)) ++ [t[t.length - (k + 1)]'(by omega)] := by
      rw [show t.length - k = t.length - (k + 1) + 1 by omega, List.take_add_one, List.getElem?_eq_getElem (by omega)]; rfl
    show rotr (back k t) = _
    rw [back_eq k (by omega), e1, ← List.append_assoc]
    unfold rotr lst
    rw [List.dropLast_concat, List.getLastD_concat, e0]; rfl
theorem back_last {t : Wd} {k : Nat} (h : k < t.length) : lst (back k t) = t[t.length - 1 - k]'(by omega) := by
  rw [back_eq k (by omega)]
  have e1 : t.take (t.length - k) = t.take (t.length - 1 - k) ++ [t[t.length - 1 - k]'(by omega)] := by
    rw [show t.length - k = t.length - 1 - k + 1 by omega, List.take_add_one, List.getElem?_eq_getElem (by omega)]; rfl
  rw [e1, ← List.append_assoc]
  unfold lst
  rw [List.getLastD_concat]
theorem drop_step {t : Wd} {k : Nat} (h : k < t.length) : t.drop (t.length - (k + 1)) = lst (back k t) :: t.drop (t.length - k) := by
  rw [back_last h, List.drop_eq_getElem_cons (by omega)]
  congr 1
  · congr 1; omega
  · congr 1; omega
/-! ### each turn as often as any other -/
theorem count_T {w t : Wd} (h : t ∈ T w) : (T w).count t = (T w).count w := by
  obtain ⟨k, hk, e⟩ := mem_T.mp h
  have c1 : (T w).count t = (rots w).count t := (srtW_perm _).count_eq t
  have c2 : (T t).count t = (rots t).count t := (srtW_perm _).count_eq t
  rw [T_rot h] at c2
  have h0 : 0 < w.length := by omega
  have c3 : (T w).count w = (rots w).count w := (srtW_perm _).count_eq w
  rw [c2, c3]
  -- as many turns that change nothing
  have hl : t.length = w.length := len_of_T h
  unfold rots
  rw [List.count_eq_countP, List.count_eq_countP, List.countP_map, List.countP_map, hl]
  refine List.countP_congr fun m hm => ?_
  rw [List.mem_range] at hm
  show (rot m t == t) = true ↔ (rot m w == w) = true
  rw [beq_iff_eq, beq_iff_eq]
  have back' : rot ((w.length - k) % w.length) t = w := by
    rw [← e, rot_rot (Nat.le_of_lt hk) (Nat.le_of_lt (Nat.mod_lt _ h0)) h0, Nat.add_mod_mod, show k + (w.length - k) = w.length by omega, Nat.mod_self, rot_zero]
  have comm : ∀ {u : Wd} {a b : Nat}, a < u.length → b < u.length → rot a (rot b u) = rot b (rot a u) := fun {u a b} ha hb => by
    rw [rot_rot (Nat.le_of_lt hb) (Nat.le_of_lt ha) (by omega), rot_rot (Nat.le_of_lt ha) (Nat.le_of_lt hb) (by omega), Nat.add_comm]
  constructor
  · intro z
    have hm' : m < t.length := by omega
    have hj : (w.length - k) % w.length < t.length := by rw [hl]; exact Nat.mod_lt _ h0
    calc rot m w = rot m (rot ((w.length - k) % w.length) t) := by rw [back']
      _ = rot ((w.length - k) % w.length) (rot m t) := comm hm' hj
      _ = w := by rw [z, back']
  · intro z
    rw [← e]
    calc rot m (rot k w) = rot k (rot m w) := comm hm hk
      _ = rot k w := by rw [z]
/-- first occurrences -/
def uniq : List Wd → List Wd → List Wd
  | acc, [] => acc
  | acc, t :: ts => uniq (if t ∈ acc then acc else acc ++ [t]) ts
theorem uniq_spec : ∀ (l acc : List Wd), acc.Nodup → (uniq acc l).Nodup ∧ (∀ t, t ∈ uniq acc l ↔ t ∈ acc ∨ t ∈ l)
  | [], acc, h => ⟨h, fun t => by simp [uniq]⟩
  | t :: ts, acc, h => by
    unfold uniq
    by_cases k : t ∈ acc
    · rw [if_pos k]
      obtain ⟨a, b⟩ := uniq_spec ts acc h
      refine ⟨a, fun u => ?_⟩
      rw [b, List.mem_cons]
      constructor
      · rintro (z | z)
        · exact .inl z
        · exact .inr (.inr z)
      · rintro (z | rfl | z)
        · exact .inl z
        · exact .inl k
        · exact .inr z
    · rw [if_neg k]
      obtain ⟨a, b⟩ := uniq_spec ts (acc ++ [t]) (by
        rw [List.nodup_append]
        exact ⟨h, by simp, fun a ha b hb => by
          have : b = t := by simpa using hb
          subst this; intro z; subst z; exact k ha⟩)
      refine ⟨a, fun u => ?_⟩
      rw [b]; simp [or_assoc]
theorem uniq_sorted : ∀ (l acc : List Wd), acc.Pairwise (· ≤ ·) → l.Pairwise (· ≤ ·) → (∀ a ∈ acc, ∀ t ∈ l, a ≤ t) → (uniq acc l).Pairwise (· ≤ ·)
  | [], acc, h, _, _ => h
  | t :: ts, acc, h, hl, hb => by
    unfold uniq
    rw [List.pairwise_cons] at hl
    by_cases k : t ∈ acc
    · rw [if_pos k]
      exact uniq_sorted ts acc h hl.2 fun a ha u hu => hb a ha u (List.mem_cons_of_mem _ hu)
    · rw [if_neg k]
      refine uniq_sorted ts _ ?_ hl.2 fun a ha u hu => ?_
      · rw [List.pairwise_append]
        exact ⟨h, by simp, fun a ha b hbb => by
          have : b = t := by simpa using hbb
          subst this; exact hb a ha b List.mem_cons_self⟩
      · rcases List.mem_append.mp ha with ha | ha
        · exact hb a ha u (List.mem_cons_of_mem _ hu)
        · have : a = t := by simpa using ha
          subst this; exact hl.1 u hu
def U (w : Wd) : List Wd := uniq [] (T w)
theorem U_nodup (w : Wd) : (U w).Nodup := (uniq_spec (T w) [] List.nodup_nil).1
theorem mem_U {w t : Wd} : t ∈ U w ↔ t ∈ T w := by
  have := (uniq_spec (T w) [] List.nodup_nil).2 t
  unfold U; rw [this]; simp
theorem U_sorted (w : Wd) : (U w).Pairwise (· ≤ ·) := uniq_sorted _ _ List.Pairwise.nil (T_sorted w) fun _ h => nomatch h
theorem len_sum {l u : List Wd} {c : Nat} (hn : u.Nodup) (hm : ∀ t, t ∈ l → t ∈ u) (hc : ∀ t ∈ u, l.count t = c) : l.length = u.length * c := by
  induction u generalizing l with
  | nil =>
    cases l with
    | nil => simp
    | cons x l => exact absurd (hm x List.mem_cons_self) (by simp)
  | cons x u ih =>
    rw [List.nodup_cons] at hn
    have e : l.length = l.count x + (l.filter fun t => !(t == x)).length := by
      rw [List.count_eq_countP, ← List.countP_eq_length_filter]
      have := List.length_eq_countP_add_countP (fun t => t == x) (l := l)
      rw [this]
      congr 1
      exact List.countP_congr fun t _ => by simp
    have h2 := ih (l := l.filter fun t => !(t == x)) hn.2 (fun t ht => by
      rw [List.mem_filter] at ht
      rcases List.mem_cons.mp (hm t ht.1) with z | z
      · subst z; simp at ht
      · exact z) (fun t ht => by
      rw [List.count_filter (by
        have : t ≠ x := fun z => by subst z; exact hn.1 ht
        simpa using this)]
      exact hc t (List.mem_cons_of_mem _ ht))
    rw [e, h2, hc x List.mem_cons_self, List.length_cons, Nat.succ_mul, Nat.add_comm]
theorem len_U (w : Wd) : (T w).length = (U w).length * (T w).count w :=
  len_sum (U_nodup w) (fun t h => mem_U.mpr h) fun t h => count_T (mem_U.mp h)
/-! ### two words -/
theorem same_last {w v : Wd} (hw : 0 < w.length) (hv : L v = L w) : v ∈ T w := by
  have hl : v.length = w.length := by rw [← L_len v, hv, L_len]
  -- what the way back finds is told by the last letters alone
  have way : ∀ k p, p < w.length → ∃ j, (T w)[p]?.isSome = true ∧ (∀ t, (T w)[p]? = some t → (T w)[j]? = some (back k t)) ∧ ∀ t, (T v)[p]? = some t → (T v)[j]? = some (back k t) := fun k p hp => by
    induction k with
    | zero => exact ⟨p, by rw [List.getElem?_eq_getElem (by rw [T_len]; exact hp)]; rfl, fun t h => h, fun t h => h⟩
    | succ k ih =>
      obtain ⟨j, h1, h2, h3⟩ := ih
      obtain ⟨t, ht⟩ : ∃ t, (T w)[p]? = some t := ⟨_, List.getElem?_eq_getElem (by rw [T_len]; exact hp)⟩
      obtain ⟨u, hu⟩ : ∃ u, (T v)[p]? = some u := ⟨_, List.getElem?_eq_getElem (by rw [T_len, hl]; exact hp)⟩
      obtain ⟨j1, a1, a2⟩ := steps_at (h2 t ht)
      obtain ⟨j2, b1, b2⟩ := steps_at (h3 u hu)
      rw [hv, a1] at b1
      cases b1
      refine ⟨j1, h1, fun t' ht' => ?_, fun u' hu' => ?_⟩
      · rw [ht] at ht'; cases ht'; exact a2
      · rw [hu] at hu'; cases hu'; exact b2
  have lastof : ∀ {x : Wd} {j : Nat} {t : Wd}, (T x)[j]? = some t → (L x)[j]? = some (lst t) := fun {x j t} h => by
    unfold L; rw [List.getElem?_map, h]; rfl
  have all : ∀ p, p < w.length → ∀ t u, (T w)[p]? = some t → (T v)[p]? = some u → t = u := fun p hp t u ht hu => by
    have lt : t.length = w.length := len_of_T (List.mem_of_getElem? ht)
    have lu : u.length = w.length := by rw [len_of_T (List.mem_of_getElem? hu), hl]
    have dr : ∀ k, k ≤ w.length → t.drop (w.length - k) = u.drop (w.length - k) := fun k => by
      induction k with
      | zero => intro _; rw [List.drop_eq_nil_of_le (by omega), List.drop_eq_nil_of_le (by omega)]
      | succ k ih =>
        intro hk
        obtain ⟨j, _, h2, h3⟩ := way k p hp
        have e1 := lastof (h2 t ht)
        have e2 := lastof (h3 u hu)
        rw [hv, e1] at e2
        have e3 : lst (back k t) = lst (back k u) := Option.some.inj e2
        have d1 := drop_step (t := t) (k := k) (by omega)
        have d2 := drop_step (t := u) (k := k) (by omega)
        rw [lt] at d1
        rw [lu] at d2
        rw [d1, d2, e3, ih (by omega)]
    have := dr w.length (Nat.le_refl _)
    simpa using this
  have e : T v = T w := by
    apply List.ext_getElem?
    intro p
    by_cases hp : p < w.length
    · rw [List.getElem?_eq_getElem (by rw [T_len, hl]; exact hp), List.getElem?_eq_getElem (by rw [T_len]; exact hp)]
      congr 1
      exact (all p hp _ _ (List.getElem?_eq_getElem (by rw [T_len]; exact hp)) (List.getElem?_eq_getElem (by rw [T_len, hl]; exact hp))).symm
    · rw [List.getElem?_eq_none (by rw [T_len]; omega), List.getElem?_eq_none (by rw [T_len]; omega)]
  rw [← e]
  exact self_T (by omega)
end BW

-- K4a
namespace T4
open PySem PL BW
def LET : List Nat := [97, 98, 99, 100, 101, 102, 103, 104, 105, 106, 107, 108, 109, 110, 111, 112, 113, 114, 115, 116, 117, 118, 119, 120, 121, 122]
def abc (w : Wd) : Prop := w.length ≤ 12 ∧ ∀ c ∈ w, c ∈ LET
def wrd (w : Wd) : Prop := 1 ≤ w.length ∧ abc w
theorem big12 {n : Nat} (h : n ≤ 12) : n ≤ big := by unfold big; omega
theorem isi_str (w : Wd) : isiD "str" (tx w) = some (.bool true) := rfl
theorem isi_int (i : Int) : isiD "int" (.int i) = some (.bool true) := rfl
theorem isb_int (i : Int) : isiD "bool" (.int i) = some (.bool false) := rfl
theorem is_integer_eq (i : Int) : F_is_integer [.int i] = some (.bool true) := by
  unfold F_is_integer W_is_integer
  simp only [runD, runF, runM, ini, op1, op2, opN, Opd.ev, Opd.fin, evs, fins, vE, cE, evl, lstE, tupE, callE, rd, SD.get, bT, andT, orT, notT, andE, orE, notE, ifE, yesT, seqS, seqFS, asgS, retS, retN, ifS, dropS, nilS, run1, gN, gT, gAll, chainE, sliE, ptE, metE, isT_tx, isT_list, itI, enI, zipI, rngI, parS, evp, setp, setM, setI, ownd, upc, mutK, isL, callM, lent, forS, List.set_cons_zero, List.set_cons_succ, List.getElem?_cons_zero, List.getElem?_cons_succ, Option.bind_some, Option.map_some, Option.bind_none, Option.map_none, cond_true, cond_false, List.map_cons, List.map_nil, List.replicate_succ, List.replicate_zero, List.length_cons, List.length_nil, List.cons_append, List.nil_append, Nat.reduceAdd, Nat.reduceSub, Nat.sub_self, Nat.sub_zero, Nat.add_zero, Nat.zero_add, Nat.reduceLT, Bool.not_true, Bool.not_false, Bool.true_and, Bool.and_true, Bool.false_and, Bool.and_false, if_true, if_false, ite_true, ite_false, decide_true, decide_false, beq_self_eq_true, Bool.false_eq_true, isi_int, isb_int]
theorem is_within_eq (i a b : Int) : F_is_within [.int i, .int a, .int b] = some (.bool (decide (a ≤ i) && decide (i ≤ b))) := by
  unfold F_is_within W_is_within
  simp only [runD, runF, runM, ini, op1, op2, opN, Opd.ev, Opd.fin, evs, fins, vE, cE, evl, lstE, tupE, callE, rd, SD.get, bT, andT, orT, notT, andE, orE, notE, ifE, yesT, seqS, seqFS, asgS, retS, retN, ifS, dropS, nilS, run1, gN, gT, gAll, chainE, sliE, ptE, metE, isT_tx, isT_list, itI, enI, zipI, rngI, parS, evp, setp, setM, setI, ownd, upc, mutK, isL, callM, lent, forS, List.set_cons_zero, List.set_cons_succ, List.getElem?_cons_zero, List.getElem?_cons_succ, Option.bind_some, Option.map_some, Option.bind_none, Option.map_none, cond_true, cond_false, List.map_cons, List.map_nil, List.replicate_succ, List.replicate_zero, List.length_cons, List.length_nil, List.cons_append, List.nil_append, Nat.reduceAdd, Nat.reduceSub, Nat.sub_self, Nat.sub_zero, Nat.add_zero, Nat.zero_add, Nat.reduceLT, Bool.not_true, Bool.not_false, Bool.true_and, Bool.and_true, Bool.false_and, Bool.and_false, if_true, if_false, ite_true, ite_false, decide_true, decide_false, beq_self_eq_true, Bool.false_eq_true, is_integer_eq, leD_int]
  by_cases h : a ≤ i
  · simp only [h, decide_true, Option.bind_some, Bool.true_and]
  · simp only [h, decide_false, Option.bind_some, Bool.false_and]
theorem all_true {α : Type} (xs : List α) : allD [.list (xs.map fun _ => PyData.bool true)] = some (.bool true) := by
  have h : boolsOf (xs.map fun _ => PyData.bool true) = some (xs.map fun _ => true) := by
    induction xs with
    | nil => rfl
    | cons x xs ih =>
      show (boolsOf (xs.map fun _ => PyData.bool true)).map _ = _
      rw [ih]; rfl
  show (boolsOf _).map _ = _
  rw [h, Option.map_some]
  have : (xs.map fun _ => true).all id = true := by
    rw [List.all_eq_true]
    intro x hx
    obtain ⟨_, _, rfl⟩ := List.mem_map.mp hx
    rfl
  rw [this]
theorem c_is_letters (w : Wd) (h : abc w) (b c : SD) : c_is_letters_1 [.im (tx w), b, c, .un] = some (.list (w.map fun _ => PyData.bool true), [.im (tx w), b, c, .un]) := by
  unfold c_is_letters_1
  refine lcE_map (fun c => tx [c]) (fun _ => PyData.bool true) w ?_ rfl (big12 h.1) (fun x hx => ⟨_, rfl, [.im (tx w), b, c, .im (tx [x])], ?_, rfl⟩) rfl
  · simp only [runD, runF, runM, ini, op1, op2, opN, Opd.ev, Opd.fin, evs, fins, vE, cE, evl, lstE, tupE, callE, rd, SD.get, bT, andT, orT, notT, andE, orE, notE, ifE, yesT, seqS, seqFS, asgS, retS, retN, ifS, dropS, nilS, run1, gN, gT, gAll, chainE, sliE, ptE, metE, isT_tx, isT_list, itI, enI, zipI, rngI, parS, evp, setp, setM, setI, ownd, upc, mutK, isL, callM, lent, forS, List.set_cons_zero, List.set_cons_succ, List.getElem?_cons_zero, List.getElem?_cons_succ, Option.bind_some, Option.map_some, Option.bind_none, Option.map_none, cond_true, cond_false, List.map_cons, List.map_nil, List.replicate_succ, List.replicate_zero, List.length_cons, List.length_nil, List.cons_append, List.nil_append, Nat.reduceAdd, Nat.reduceSub, Nat.sub_self, Nat.sub_zero, Nat.add_zero, Nat.zero_add, Nat.reduceLT, Bool.not_true, Bool.not_false, Bool.true_and, Bool.and_true, Bool.false_and, Bool.and_false, if_true, if_false, ite_true, ite_false, decide_true, decide_false, beq_self_eq_true, Bool.false_eq_true, signs_map]
  · have : x ∈ LET := h.2 x hx
    unfold LET at this
    simp only [runD, runF, runM, ini, op1, op2, opN, Opd.ev, Opd.fin, evs, fins, vE, cE, evl, lstE, tupE, callE, rd, SD.get, bT, andT, orT, notT, andE, orE, notE, ifE, yesT, seqS, seqFS, asgS, retS, retN, ifS, dropS, nilS, run1, gN, gT, gAll, chainE, sliE, ptE, metE, isT_tx, isT_list, itI, enI, zipI, rngI, parS, evp, setp, setM, setI, ownd, upc, mutK, isL, callM, lent, forS, List.set_cons_zero, List.set_cons_succ, List.getElem?_cons_zero, List.getElem?_cons_succ, Option.bind_some, Option.map_some, Option.bind_none, Option.map_none, cond_true, cond_false, List.map_cons, List.map_nil, List.replicate_succ, List.replicate_zero, List.length_cons, List.length_nil, List.cons_append, List.nil_append, Nat.reduceAdd, Nat.reduceSub, Nat.sub_self, Nat.sub_zero, Nat.add_zero, Nat.zero_add, Nat.reduceLT, Bool.not_true, Bool.not_false, Bool.true_and, Bool.and_true, Bool.false_and, Bool.and_false, if_true, if_false, ite_true, ite_false, decide_true, decide_false, beq_self_eq_true, Bool.false_eq_true, wipeE, inD_one, this]
    rfl
theorem is_letters_eq (w : Wd) (a b : Nat) (hab : abc w) (h1 : a ≤ w.length) (h2 : w.length ≤ b) : F_is_letters [tx w, .int a, .int b] = some (.bool true) := by
  have h1' : (a : Int) ≤ w.length := by omega
  have h2' : (w.length : Int) ≤ b := by omega
  unfold F_is_letters W_is_letters
  simp only [runD, runF, runM, ini, op1, op2, opN, Opd.ev, Opd.fin, evs, fins, vE, cE, evl, lstE, tupE, callE, rd, SD.get, bT, andT, orT, notT, andE, orE, notE, ifE, yesT, seqS, seqFS, asgS, retS, retN, ifS, dropS, nilS, run1, gN, gT, gAll, chainE, sliE, ptE, metE, isT_tx, isT_list, itI, enI, zipI, rngI, parS, evp, setp, setM, setI, ownd, upc, mutK, isL, callM, lent, forS, List.set_cons_zero, List.set_cons_succ, List.getElem?_cons_zero, List.getElem?_cons_succ, Option.bind_some, Option.map_some, Option.bind_none, Option.map_none, cond_true, cond_false, List.map_cons, List.map_nil, List.replicate_succ, List.replicate_zero, List.length_cons, List.length_nil, List.cons_append, List.nil_append, Nat.reduceAdd, Nat.reduceSub, Nat.sub_self, Nat.sub_zero, Nat.add_zero, Nat.zero_add, Nat.reduceLT, Bool.not_true, Bool.not_false, Bool.true_and, Bool.and_true, Bool.false_and, Bool.and_false, if_true, if_false, ite_true, ite_false, decide_true, decide_false, beq_self_eq_true, Bool.false_eq_true, isi_str, lenD_tx _ (big12 hab.1), leD_int, h1', h2', c_is_letters w hab, all_true]
theorem is_text_eq (w : Wd) (h : abc w) : F_is_text [tx w] = some (.bool true) := by
  have := is_letters_eq w 0 12 h (Nat.zero_le _) h.1
  unfold F_is_text W_is_text
  simp only [runD, runF, runM, ini, op1, op2, opN, Opd.ev, Opd.fin, evs, fins, vE, cE, evl, lstE, tupE, callE, rd, SD.get, bT, andT, orT, notT, andE, orE, notE, ifE, yesT, seqS, seqFS, asgS, retS, retN, ifS, dropS, nilS, run1, gN, gT, gAll, chainE, sliE, ptE, metE, isT_tx, isT_list, itI, enI, zipI, rngI, parS, evp, setp, setM, setI, ownd, upc, mutK, isL, callM, lent, forS, List.set_cons_zero, List.set_cons_succ, List.getElem?_cons_zero, List.getElem?_cons_succ, Option.bind_some, Option.map_some, Option.bind_none, Option.map_none, cond_true, cond_false, List.map_cons, List.map_nil, List.replicate_succ, List.replicate_zero, List.length_cons, List.length_nil, List.cons_append, List.nil_append, Nat.reduceAdd, Nat.reduceSub, Nat.sub_self, Nat.sub_zero, Nat.add_zero, Nat.zero_add, Nat.reduceLT, Bool.not_true, Bool.not_false, Bool.true_and, Bool.and_true, Bool.false_and, Bool.and_false, if_true, if_false, ite_true, ite_false, decide_true, decide_false, beq_self_eq_true, Bool.false_eq_true, show (PyData.int 0) = PyData.int ((0 : Nat) : Int) from rfl, show (PyData.int 12) = PyData.int ((12 : Nat) : Int) from rfl, this]
theorem is_word_eq (w : Wd) (h : wrd w) : F_is_word [tx w] = some (.bool true) := by
  have := is_letters_eq w 1 12 h.2 h.1 h.2.1
  unfold F_is_word W_is_word
  simp only [runD, runF, runM, ini, op1, op2, opN, Opd.ev, Opd.fin, evs, fins, vE, cE, evl, lstE, tupE, callE, rd, SD.get, bT, andT, orT, notT, andE, orE, notE, ifE, yesT, seqS, seqFS, asgS, retS, retN, ifS, dropS, nilS, run1, gN, gT, gAll, chainE, sliE, ptE, metE, isT_tx, isT_list, itI, enI, zipI, rngI, parS, evp, setp, setM, setI, ownd, upc, mutK, isL, callM, lent, forS, List.set_cons_zero, List.set_cons_succ, List.getElem?_cons_zero, List.getElem?_cons_succ, Option.bind_some, Option.map_some, Option.bind_none, Option.map_none, cond_true, cond_false, List.map_cons, List.map_nil, List.replicate_succ, List.replicate_zero, List.length_cons, List.length_nil, List.cons_append, List.nil_append, Nat.reduceAdd, Nat.reduceSub, Nat.sub_self, Nat.sub_zero, Nat.add_zero, Nat.zero_add, Nat.reduceLT, Bool.not_true, Bool.not_false, Bool.true_and, Bool.and_true, Bool.false_and, Bool.and_false, if_true, if_false, ite_true, ite_false, decide_true, decide_false, beq_self_eq_true, Bool.false_eq_true, show (PyData.int 1) = PyData.int ((1 : Nat) : Int) from rfl, show (PyData.int 12) = PyData.int ((12 : Nat) : Int) from rfl, this]
theorem check_text_eq (w : Wd) (h : abc w) : F_check_text [tx w] = some .none := by
  unfold F_check_text W_check_text
  simp only [runD, runF, runM, ini, op1, op2, opN, Opd.ev, Opd.fin, evs, fins, vE, cE, evl, lstE, tupE, callE, rd, SD.get, bT, andT, orT, notT, andE, orE, notE, ifE, yesT, seqS, seqFS, asgS, retS, retN, ifS, dropS, nilS, run1, gN, gT, gAll, chainE, sliE, ptE, metE, isT_tx, isT_list, itI, enI, zipI, rngI, parS, evp, setp, setM, setI, ownd, upc, mutK, isL, callM, lent, forS, List.set_cons_zero, List.set_cons_succ, List.getElem?_cons_zero, List.getElem?_cons_succ, Option.bind_some, Option.map_some, Option.bind_none, Option.map_none, cond_true, cond_false, List.map_cons, List.map_nil, List.replicate_succ, List.replicate_zero, List.length_cons, List.length_nil, List.cons_append, List.nil_append, Nat.reduceAdd, Nat.reduceSub, Nat.sub_self, Nat.sub_zero, Nat.add_zero, Nat.zero_add, Nat.reduceLT, Bool.not_true, Bool.not_false, Bool.true_and, Bool.and_true, Bool.false_and, Bool.and_false, if_true, if_false, ite_true, ite_false, decide_true, decide_false, beq_self_eq_true, Bool.false_eq_true, is_text_eq w h]
theorem check_two_eq (w v : Wd) (h : abc w) (k : abc v) : F_check_two [tx w, tx v] = some .none := by
  unfold F_check_two W_check_two
  simp only [runD, runF, runM, ini, op1, op2, opN, Opd.ev, Opd.fin, evs, fins, vE, cE, evl, lstE, tupE, callE, rd, SD.get, bT, andT, orT, notT, andE, orE, notE, ifE, yesT, seqS, seqFS, asgS, retS, retN, ifS, dropS, nilS, run1, gN, gT, gAll, chainE, sliE, ptE, metE, isT_tx, isT_list, itI, enI, zipI, rngI, parS, evp, setp, setM, setI, ownd, upc, mutK, isL, callM, lent, forS, List.set_cons_zero, List.set_cons_succ, List.getElem?_cons_zero, List.getElem?_cons_succ, Option.bind_some, Option.map_some, Option.bind_none, Option.map_none, cond_true, cond_false, List.map_cons, List.map_nil, List.replicate_succ, List.replicate_zero, List.length_cons, List.length_nil, List.cons_append, List.nil_append, Nat.reduceAdd, Nat.reduceSub, Nat.sub_self, Nat.sub_zero, Nat.add_zero, Nat.zero_add, Nat.reduceLT, Bool.not_true, Bool.not_false, Bool.true_and, Bool.and_true, Bool.false_and, Bool.and_false, if_true, if_false, ite_true, ite_false, decide_true, decide_false, beq_self_eq_true, Bool.false_eq_true, check_text_eq w h, check_text_eq v k]
theorem check_word_eq (w : Wd) (h : wrd w) : F_check_word [tx w] = some .none := by
  unfold F_check_word W_check_word
  simp only [runD, runF, runM, ini, op1, op2, opN, Opd.ev, Opd.fin, evs, fins, vE, cE, evl, lstE, tupE, callE, rd, SD.get, bT, andT, orT, notT, andE, orE, notE, ifE, yesT, seqS, seqFS, asgS, retS, retN, ifS, dropS, nilS, run1, gN, gT, gAll, chainE, sliE, ptE, metE, isT_tx, isT_list, itI, enI, zipI, rngI, parS, evp, setp, setM, setI, ownd, upc, mutK, isL, callM, lent, forS, List.set_cons_zero, List.set_cons_succ, List.getElem?_cons_zero, List.getElem?_cons_succ, Option.bind_some, Option.map_some, Option.bind_none, Option.map_none, cond_true, cond_false, List.map_cons, List.map_nil, List.replicate_succ, List.replicate_zero, List.length_cons, List.length_nil, List.cons_append, List.nil_append, Nat.reduceAdd, Nat.reduceSub, Nat.sub_self, Nat.sub_zero, Nat.add_zero, Nat.zero_add, Nat.reduceLT, Bool.not_true, Bool.not_false, Bool.true_and, Bool.and_true, Bool.false_and, Bool.and_false, if_true, if_false, ite_true, ite_false, decide_true, decide_false, beq_self_eq_true, Bool.false_eq_true, is_word_eq w h]
theorem F_turned_eq (w : Wd) (m : Nat) (hm : m ≤ w.length) (hw : w.length ≤ 12) : F_turned [tx w, .int m] = some (tx (rot m w)) := by
  unfold F_turned W_turned
  have h1 : w.length ≤ big := big12 hw
  have h2 : w.length - m + m ≤ big := by rw [Nat.sub_add_cancel hm]; exact h1
  simp only [runD, runF, runM, ini, op1, op2, opN, Opd.ev, Opd.fin, evs, fins, vE, cE, evl, lstE, tupE, callE, rd, SD.get, bT, andT, orT, notT, andE, orE, notE, ifE, yesT, seqS, seqFS, asgS, retS, retN, ifS, dropS, nilS, run1, gN, gT, gAll, chainE, sliE, ptE, metE, isT_tx, isT_list, itI, enI, zipI, rngI, parS, evp, setp, setM, setI, ownd, upc, mutK, isL, callM, lent, forS, List.set_cons_zero, List.set_cons_succ, List.getElem?_cons_zero, List.getElem?_cons_succ, Option.bind_some, Option.map_some, Option.bind_none, Option.map_none, cond_true, cond_false, List.map_cons, List.map_nil, List.replicate_succ, List.replicate_zero, List.length_cons, List.length_nil, List.cons_append, List.nil_append, Nat.reduceAdd, Nat.reduceSub, Nat.sub_self, Nat.sub_zero, Nat.add_zero, Nat.zero_add, Nat.reduceLT, Bool.not_true, Bool.not_false, Bool.true_and, Bool.and_true, Bool.false_and, Bool.and_false, if_true, if_false, ite_true, ite_false, decide_true, decide_false, beq_self_eq_true, Bool.false_eq_true, slD, tx, sL_mk, cut_from _ _ hm, cut_to _ _ hm, addD, List.length_drop, List.length_take, Nat.min_eq_left hm, h1, h2, rot]
/-! raw_order -/
def prM (w : Wd) (m : Nat) : D := .tuple [tx (rot m w), .int m]
def leO (w : Wd) (a b : Nat) : Bool := decide (rot a w < rot b w ∨ (rot a w = rot b w ∧ a ≤ b))
def O (w : Wd) : List Nat := (List.range w.length).mergeSort (leO w)
theorem O_perm (w : Wd) : (O w).Perm (List.range w.length) := List.mergeSort_perm _ _
theorem O_lt {w : Wd} {m : Nat} (h : m ∈ O w) : m < w.length := by rw [(O_perm w).mem_iff, List.mem_range] at h; exact h
theorem O_len (w : Wd) : (O w).length = w.length := by rw [(O_perm w).length_eq, List.length_range]
theorem leO_spec {w : Wd} {a b : Nat} : leO w a b = true ↔ rot a w < rot b w ∨ (rot a w = rot b w ∧ a ≤ b) := by unfold leO; exact decide_eq_true_iff
theorem O_T (w : Wd) : (O w).map (fun m => rot m w) = T w := by
  refine perm_sorted (((O_perm w).map _).trans (srtW_perm _).symm) ?_ (T_sorted w)
  rw [List.pairwise_map]
  have h := List.pairwise_mergeSort (le := leO w) (fun a b c h k => by
    rw [leO_spec] at h k ⊢
    rcases h with h | ⟨h, h'⟩ <;> rcases k with k | ⟨k, k'⟩
    · exact .inl (lt_of_lt_of_le h (BW.le_of_lt k))
    · rw [← k]; exact .inl h
    · rw [h]; exact .inl k
    · exact .inr ⟨h.trans k, by omega⟩) (fun a b => by
    rw [Bool.or_eq_true, leO_spec, leO_spec]
    by_cases h : rot a w < rot b w
    · exact .inl (.inl h)
    · by_cases k : rot b w < rot a w
      · exact .inr (.inl k)
      · have e : rot a w = rot b w := List.le_antisymm (List.not_lt.mp k) (List.not_lt.mp h)
        rcases Nat.le_total a b with q | q
        · exact .inl (.inr ⟨e, q⟩)
        · exact .inr (.inr ⟨e.symm, q⟩)) (List.range w.length)
  refine List.Pairwise.imp (fun {a b} h => ?_) h
  rw [leO_spec] at h
  rcases h with h | ⟨h, _⟩
  · exact BW.le_of_lt h
  · rw [h]; exact BW.le_refl _
theorem alike_ti (a b : Wd) (i j : Int) : PySem.W.alike (.tuple [tx a, .int i]) (.tuple [tx b, .int j]) = true := by simp [PySem.W.alike, PySem.W.alikeAll, tx]
theorem dataLe_pr (w : Wd) (a b : Nat) : leO w a b = PySem.W.dataLe false id (prM w a) (prM w b) := by
  rw [PySem.W.dataLe_eq]
  show _ = !PySem.W.dataLt (prM w b) (prM w a)
  unfold prM
  rw [PySem.W.dataLt_pair (by simp [tx, PySem.W.alike]) (by simp [PySem.W.alike]), eqv_tx, eqv_int, lt_tx, lt_int]
  unfold leO
  by_cases e : rot b w = rot a w
  · rw [if_pos (decide_eq_true e), e]
    have i1 : ¬ rot a w < rot a w := List.lt_irrefl _
    by_cases h : (b : Int) = a
    · rw [if_pos (decide_eq_true h)]
      have : a ≤ b := by omega
      simp [this]
    · rw [if_neg (by simpa using h)]
      by_cases k : (b : Int) < a
      · have : ¬ a ≤ b := by omega
        simp [i1, this, k]
      · have : a ≤ b := by omega
        simp [this, k]
  · rw [if_neg (by simpa using e)]
    have e' : ¬ rot a w = rot b w := fun z => e z.symm
    by_cases h : rot b w < rot a w
    · have : ¬ rot a w < rot b w := List.not_lt.mpr (BW.le_of_lt h)
      simp [h, this, e']
    · have : rot a w < rot b w := lt_of_le_of_ne (List.not_lt.mp h) e'
      simp [h, this]
theorem okSort_pr (w : Wd) (hw : w.length ≤ 12) : okSort ((List.range w.length).map (prM w)) = true := by
  unfold okSort
  rw [Bool.and_eq_true, Bool.and_eq_true, Bool.or_eq_true, List.all_eq_true, List.all_eq_true, List.all_eq_true]
  refine ⟨⟨fun x hx => ?_, .inl fun x hx => ?_⟩, decide_eq_true (by rw [List.length_map, List.length_range]; exact big12 hw)⟩
  · obtain ⟨a, _, rfl⟩ := List.mem_map.mp hx
    rw [Bool.and_eq_true, List.all_eq_true]
    refine ⟨rfl, fun y hy => ?_⟩
    obtain ⟨b, _, rfl⟩ := List.mem_map.mp hy
    exact alike_ti _ _ _ _
  · obtain ⟨a, _, rfl⟩ := List.mem_map.mp hx
    rfl
theorem sort_pr (w : Wd) (hw : w.length ≤ 12) : sortD [.list ((List.range w.length).map (prM w))] = some (.list ((O w).map (prM w))) := by
  show (if okSort ((List.range w.length).map (prM w)) = true then some (PyData.list (srt ((List.range w.length).map (prM w)))) else none) = _
  rw [if_pos (okSort_pr w hw)]
  unfold srt O
  rw [List.map_mergeSort (r := leO w) (s := PySem.W.dataLe false id) (f := prM w) (l := List.range w.length) fun a _ b _ => dataLe_pr w a b]
theorem c_raw_order_a (w : Wd) (hw : w.length ≤ 12) : c_raw_order_1 [.im (tx w), .un, .un] = some (.list ((List.range w.length).map (prM w)), [.im (tx w), .un, .un]) := by
  unfold c_raw_order_1
  refine lcE_map (fun i : Nat => PyData.int i) (prM w) (List.range w.length) ?_ rfl (by rw [List.length_range]; exact big12 hw) (fun x hx => ⟨_, rfl, [.im (tx w), .un, .im (.int x)], ?_, rfl⟩) rfl
  · exact rng_len rfl (big12 hw)
  · rw [List.mem_range] at hx
    simp only [runD, runF, runM, ini, op1, op2, opN, Opd.ev, Opd.fin, evs, fins, vE, cE, evl, lstE, tupE, callE, rd, SD.get, bT, andT, orT, notT, andE, orE, notE, ifE, yesT, seqS, seqFS, asgS, retS, retN, ifS, dropS, nilS, run1, gN, gT, gAll, chainE, sliE, ptE, metE, isT_tx, isT_list, itI, enI, zipI, rngI, parS, evp, setp, setM, setI, ownd, upc, mutK, isL, callM, lent, forS, List.set_cons_zero, List.set_cons_succ, List.getElem?_cons_zero, List.getElem?_cons_succ, Option.bind_some, Option.map_some, Option.bind_none, Option.map_none, cond_true, cond_false, List.map_cons, List.map_nil, List.replicate_succ, List.replicate_zero, List.length_cons, List.length_nil, List.cons_append, List.nil_append, Nat.reduceAdd, Nat.reduceSub, Nat.sub_self, Nat.sub_zero, Nat.add_zero, Nat.zero_add, Nat.reduceLT, Bool.not_true, Bool.not_false, Bool.true_and, Bool.and_true, Bool.false_and, Bool.and_false, if_true, if_false, ite_true, ite_false, decide_true, decide_false, beq_self_eq_true, Bool.false_eq_true, wipeE, F_turned_eq w x (Nat.le_of_lt hx) hw, prM]
theorem c_raw_order_b (w : Wd) (hw : w.length ≤ 12) : c_raw_order_2 [.im (tx w), .un, .un] = some (.list ((O w).map fun m => PyData.int (m : Nat)), [.im (tx w), .un, .un]) := by
  unfold c_raw_order_2
  refine lcE_map (prM w) (fun m => PyData.int (m : Nat)) (O w) ?_ rfl (by rw [O_len]; exact big12 hw) (fun x hx => ⟨[.im (tx w), .im (tx (rot x w)), .im (.int x)], rfl, [.im (tx w), .im (tx (rot x w)), .im (.int x)], ?_, rfl⟩) rfl
  · simp only [runD, runF, runM, ini, op1, op2, opN, Opd.ev, Opd.fin, evs, fins, vE, cE, evl, lstE, tupE, callE, rd, SD.get, bT, andT, orT, notT, andE, orE, notE, ifE, yesT, seqS, seqFS, asgS, retS, retN, ifS, dropS, nilS, run1, gN, gT, gAll, chainE, sliE, ptE, metE, isT_tx, isT_list, itI, enI, zipI, rngI, parS, evp, setp, setM, setI, ownd, upc, mutK, isL, callM, lent, forS, List.set_cons_zero, List.set_cons_succ, List.getElem?_cons_zero, List.getElem?_cons_succ, Option.bind_some, Option.map_some, Option.bind_none, Option.map_none, cond_true, cond_false, List.map_cons, List.map_nil, List.replicate_succ, List.replicate_zero, List.length_cons, List.length_nil, List.cons_append, List.nil_append, Nat.reduceAdd, Nat.reduceSub, Nat.sub_self, Nat.sub_zero, Nat.add_zero, Nat.zero_add, Nat.reduceLT, Bool.not_true, Bool.not_false, Bool.true_and, Bool.and_true, Bool.false_and, Bool.and_false, if_true, if_false, ite_true, ite_false, decide_true, decide_false, beq_self_eq_true, Bool.false_eq_true, c_raw_order_a w hw, sort_pr w hw, seqD]
  · simp only [runD, runF, runM, ini, op1, op2, opN, Opd.ev, Opd.fin, evs, fins, vE, cE, evl, lstE, tupE, callE, rd, SD.get, bT, andT, orT, notT, andE, orE, notE, ifE, yesT, seqS, seqFS, asgS, retS, retN, ifS, dropS, nilS, run1, gN, gT, gAll, chainE, sliE, ptE, metE, isT_tx, isT_list, itI, enI, zipI, rngI, parS, evp, setp, setM, setI, ownd, upc, mutK, isL, callM, lent, forS, List.set_cons_zero, List.set_cons_succ, List.getElem?_cons_zero, List.getElem?_cons_succ, Option.bind_some, Option.map_some, Option.bind_none, Option.map_none, cond_true, cond_false, List.map_cons, List.map_nil, List.replicate_succ, List.replicate_zero, List.length_cons, List.length_nil, List.cons_append, List.nil_append, Nat.reduceAdd, Nat.reduceSub, Nat.sub_self, Nat.sub_zero, Nat.add_zero, Nat.zero_add, Nat.reduceLT, Bool.not_true, Bool.not_false, Bool.true_and, Bool.and_true, Bool.false_and, Bool.and_false, if_true, if_false, ite_true, ite_false, decide_true, decide_false, beq_self_eq_true, Bool.false_eq_true, wipeE]
theorem raw_order_eq (w : Wd) (hw : w.length ≤ 12) : F_raw_order [tx w] = some (.list ((O w).map fun m => PyData.int (m : Nat))) := by
  unfold F_raw_order W_raw_order
  simp only [runD, runF, runM, ini, op1, op2, opN, Opd.ev, Opd.fin, evs, fins, vE, cE, evl, lstE, tupE, callE, rd, SD.get, bT, andT, orT, notT, andE, orE, notE, ifE, yesT, seqS, seqFS, asgS, retS, retN, ifS, dropS, nilS, run1, gN, gT, gAll, chainE, sliE, ptE, metE, isT_tx, isT_list, itI, enI, zipI, rngI, parS, evp, setp, setM, setI, ownd, upc, mutK, isL, callM, lent, forS, List.set_cons_zero, List.set_cons_succ, List.getElem?_cons_zero, List.getElem?_cons_succ, Option.bind_some, Option.map_some, Option.bind_none, Option.map_none, cond_true, cond_false, List.map_cons, List.map_nil, List.replicate_succ, List.replicate_zero, List.length_cons, List.length_nil, List.cons_append, List.nil_append, Nat.reduceAdd, Nat.reduceSub, Nat.sub_self, Nat.sub_zero, Nat.add_zero, Nat.zero_add, Nat.reduceLT, Bool.not_true, Bool.not_false, Bool.true_and, Bool.and_true, Bool.false_and, Bool.and_false, if_true, if_false, ite_true, ite_false, decide_true, decide_false, beq_self_eq_true, Bool.false_eq_true, c_raw_order_b w hw]
theorem turns_in_order_eq (w : Wd) (h : wrd w) : F_turns_in_order [tx w] = some (.tuple ((O w).map fun m => PyData.int (m : Nat))) := by
  unfold F_turns_in_order W_turns_in_order
  simp only [runD, runF, runM, ini, op1, op2, opN, Opd.ev, Opd.fin, evs, fins, vE, cE, evl, lstE, tupE, callE, rd, SD.get, bT, andT, orT, notT, andE, orE, notE, ifE, yesT, seqS, seqFS, asgS, retS, retN, ifS, dropS, nilS, run1, gN, gT, gAll, chainE, sliE, ptE, metE, isT_tx, isT_list, itI, enI, zipI, rngI, parS, evp, setp, setM, setI, ownd, upc, mutK, isL, callM, lent, forS, List.set_cons_zero, List.set_cons_succ, List.getElem?_cons_zero, List.getElem?_cons_succ, Option.bind_some, Option.map_some, Option.bind_none, Option.map_none, cond_true, cond_false, List.map_cons, List.map_nil, List.replicate_succ, List.replicate_zero, List.length_cons, List.length_nil, List.cons_append, List.nil_append, Nat.reduceAdd, Nat.reduceSub, Nat.sub_self, Nat.sub_zero, Nat.add_zero, Nat.zero_add, Nat.reduceLT, Bool.not_true, Bool.not_false, Bool.true_and, Bool.and_true, Bool.false_and, Bool.and_false, if_true, if_false, ite_true, ite_false, decide_true, decide_false, beq_self_eq_true, Bool.false_eq_true, check_word_eq w h, raw_order_eq w h.2.1, tupFD]
/-! raw_last -/
theorem last_rot {w : Wd} {m : Nat} (h : m < w.length) : (rot m w).getLast? = some (lst (rot m w)) := by
  have hl := rot_len (Nat.le_of_lt h)
  have hn : rot m w ≠ [] := fun z => by rw [z] at hl; simp at hl; omega
  unfold lst
  rw [List.getLastD_eq_getLast?, List.getLast?_eq_getLast hn]; rfl
theorem c_raw_last (w : Wd) (hw : w.length ≤ 12) : c_raw_last_1 [.im (tx w), .un] = some (.list (((O w).map fun m => [lst (rot m w)]).map tx), [.im (tx w), .un]) := by
  unfold c_raw_last_1
  rw [List.map_map]
  refine lcE_map (fun m => PyData.int (m : Nat)) (tx ∘ fun m => [lst (rot m w)]) (O w) ?_ rfl (by rw [O_len]; exact big12 hw) (fun x hx => ⟨_, rfl, [.im (tx w), .im (.int x)], ?_, rfl⟩) rfl
  · simp only [runD, runF, runM, ini, op1, op2, opN, Opd.ev, Opd.fin, evs, fins, vE, cE, evl, lstE, tupE, callE, rd, SD.get, bT, andT, orT, notT, andE, orE, notE, ifE, yesT, seqS, seqFS, asgS, retS, retN, ifS, dropS, nilS, run1, gN, gT, gAll, chainE, sliE, ptE, metE, isT_tx, isT_list, itI, enI, zipI, rngI, parS, evp, setp, setM, setI, ownd, upc, mutK, isL, callM, lent, forS, List.set_cons_zero, List.set_cons_succ, List.getElem?_cons_zero, List.getElem?_cons_succ, Option.bind_some, Option.map_some, Option.bind_none, Option.map_none, cond_true, cond_false, List.map_cons, List.map_nil, List.replicate_succ, List.replicate_zero, List.length_cons, List.length_nil, List.cons_append, List.nil_append, Nat.reduceAdd, Nat.reduceSub, Nat.sub_self, Nat.sub_zero, Nat.add_zero, Nat.zero_add, Nat.reduceLT, Bool.not_true, Bool.not_false, Bool.true_and, Bool.and_true, Bool.false_and, Bool.and_false, if_true, if_false, ite_true, ite_false, decide_true, decide_false, beq_self_eq_true, Bool.false_eq_true, raw_order_eq w hw, seqD]
  · have hx' := O_lt hx
    have hl : (rot x w).length ≤ big := by rw [rot_len (Nat.le_of_lt hx')]; exact big12 hw
    simp only [runD, runF, runM, ini, op1, op2, opN, Opd.ev, Opd.fin, evs, fins, vE, cE, evl, lstE, tupE, callE, rd, SD.get, bT, andT, orT, notT, andE, orE, notE, ifE, yesT, seqS, seqFS, asgS, retS, retN, ifS, dropS, nilS, run1, gN, gT, gAll, chainE, sliE, ptE, metE, isT_tx, isT_list, itI, enI, zipI, rngI, parS, evp, setp, setM, setI, ownd, upc, mutK, isL, callM, lent, forS, List.set_cons_zero, List.set_cons_succ, List.getElem?_cons_zero, List.getElem?_cons_succ, Option.bind_some, Option.map_some, Option.bind_none, Option.map_none, cond_true, cond_false, List.map_cons, List.map_nil, List.replicate_succ, List.replicate_zero, List.length_cons, List.length_nil, List.cons_append, List.nil_append, Nat.reduceAdd, Nat.reduceSub, Nat.sub_self, Nat.sub_zero, Nat.add_zero, Nat.zero_add, Nat.reduceLT, Bool.not_true, Bool.not_false, Bool.true_and, Bool.and_true, Bool.false_and, Bool.and_false, if_true, if_false, ite_true, ite_false, decide_true, decide_false, beq_self_eq_true, Bool.false_eq_true, wipeE, F_turned_eq w x (Nat.le_of_lt hx') hw, negD, Int.reduceNeg, ixD_txL _ hl, last_rot hx', Function.comp]
theorem raw_last_eq (w : Wd) (hw : w.length ≤ 12) : F_raw_last [tx w] = some (tx (L w)) := by
  have e : ((O w).map fun m => [lst (rot m w)]).flatten = L w := by
    unfold L
    rw [← O_T w, List.map_map]
    generalize O w = l
    induction l with
    | nil => rfl
    | cons x l ih => rw [List.map_cons, List.flatten_cons, ih]; rfl
  have hs : (((O w).map fun m => [lst (rot m w)]).map List.length).sum ≤ big := by
    rw [← List.length_flatten, e, L_len]; exact big12 hw
  unfold F_raw_last W_raw_last
  simp only [runD, runF, runM, ini, op1, op2, opN, Opd.ev, Opd.fin, evs, fins, vE, cE, evl, lstE, tupE, callE, rd, SD.get, bT, andT, orT, notT, andE, orE, notE, ifE, yesT, seqS, seqFS, asgS, retS, retN, ifS, dropS, nilS, run1, gN, gT, gAll, chainE, sliE, ptE, metE, isT_tx, isT_list, itI, enI, zipI, rngI, parS, evp, setp, setM, setI, ownd, upc, mutK, isL, callM, lent, forS, List.set_cons_zero, List.set_cons_succ, List.getElem?_cons_zero, List.getElem?_cons_succ, Option.bind_some, Option.map_some, Option.bind_none, Option.map_none, cond_true, cond_false, List.map_cons, List.map_nil, List.replicate_succ, List.replicate_zero, List.length_cons, List.length_nil, List.cons_append, List.nil_append, Nat.reduceAdd, Nat.reduceSub, Nat.sub_self, Nat.sub_zero, Nat.add_zero, Nat.zero_add, Nat.reduceLT, Bool.not_true, Bool.not_false, Bool.true_and, Bool.and_true, Bool.false_and, Bool.and_false, if_true, if_false, ite_true, ite_false, decide_true, decide_false, beq_self_eq_true, Bool.false_eq_true, c_raw_last w hw, joinD_nil _ hs, e]
theorem last_letters_eq (w : Wd) (h : wrd w) : F_last_letters [tx w] = some (tx (L w)) := by
  unfold F_last_letters W_last_letters
  simp only [runD, runF, runM, ini, op1, op2, opN, Opd.ev, Opd.fin, evs, fins, vE, cE, evl, lstE, tupE, callE, rd, SD.get, bT, andT, orT, notT, andE, orE, notE, ifE, yesT, seqS, seqFS, asgS, retS, retN, ifS, dropS, nilS, run1, gN, gT, gAll, chainE, sliE, ptE, metE, isT_tx, isT_list, itI, enI, zipI, rngI, parS, evp, setp, setM, setI, ownd, upc, mutK, isL, callM, lent, forS, List.set_cons_zero, List.set_cons_succ, List.getElem?_cons_zero, List.getElem?_cons_succ, Option.bind_some, Option.map_some, Option.bind_none, Option.map_none, cond_true, cond_false, List.map_cons, List.map_nil, List.replicate_succ, List.replicate_zero, List.length_cons, List.length_nil, List.cons_append, List.nil_append, Nat.reduceAdd, Nat.reduceSub, Nat.sub_self, Nat.sub_zero, Nat.add_zero, Nat.zero_add, Nat.reduceLT, Bool.not_true, Bool.not_false, Bool.true_and, Bool.and_true, Bool.false_and, Bool.and_false, if_true, if_false, ite_true, ite_false, decide_true, decide_false, beq_self_eq_true, Bool.false_eq_true, check_word_eq w h, raw_last_eq w h.2.1]
end T4

-- K4b
namespace T4
open PySem PL BW
theorem lenD_list (xs : List D) : lenD [.list xs] = some (.int xs.length) := rfl
theorem slD_to (l : List Nat) (i : Nat) (h : l.length ≤ big) : slD (tx l) none (some (i : Int)) = some (tx (l.take i)) := by
  show (if (sL ⟨l.toArray⟩).length ≤ big then some (tx (cutL (sL ⟨l.toArray⟩) none (some (i : Int)))) else none) = _
  rw [sL_mk, if_pos h, cut_to']
theorem slD_from (l : List Nat) (i : Nat) (h : l.length ≤ big) (hi : i ≤ l.length) : slD (tx l) (some (i : Int)) none = some (tx (l.drop i)) := by
  show (if (sL ⟨l.toArray⟩).length ≤ big then some (tx (cutL (sL ⟨l.toArray⟩) (some (i : Int)) none)) else none) = _
  rw [sL_mk, if_pos h, cut_from _ _ hi]
theorem countSD_one (l : List Nat) (c : Nat) : countSD (tx l) [tx [c]] = some (.int (l.count c : Nat)) := by
  show (match sL ⟨[c].toArray⟩ with | [c] => some (PyData.int ((sL ⟨l.toArray⟩).count c : Nat)) | _ => some (.int (Txt.count ⟨l.toArray⟩ ⟨[c].toArray⟩))) = _
  rw [sL_mk, sL_mk]
theorem one_lt (a b : Nat) : decide ([a] < [b]) = decide (a < b) := by
  by_cases h : a < b
  · rw [decide_eq_true h, decide_eq_true (cons_lt.mpr (.inl h))]
  · rw [decide_eq_false h, decide_eq_false]
    intro z
    rcases cons_lt.mp z with z | ⟨_, z⟩
    · exact h z
    · exact List.lt_irrefl _ z
theorem addD_int (i j : Int) : addD (.int i) (.int j) = some (.int (i + j)) := rfl
theorem c_raw_steps_a (l : List Nat) (hl : l.length ≤ 12) (i : SD) (c : Nat) : c_raw_steps_1 [.im (tx l), i, .im (tx [c]), .un] = some (.list ((l.filter fun x => decide (x < c)).map fun _ => PyData.int 1), [.im (tx l), i, .im (tx [c]), .un]) := by
  unfold c_raw_steps_1
  refine lcE_fil (fun c => tx [c]) (fun _ => PyData.int 1) (fun x => decide (x < c)) l ?_ rfl (big12 hl) (fun x hx => ⟨[.im (tx l), i, .im (tx [c]), .im (tx [x])], [.im (tx l), i, .im (tx [c]), .im (tx [x])], rfl, ?_, ?_⟩) rfl
  · simp only [runD, runF, runM, ini, op1, op2, opN, Opd.ev, Opd.fin, evs, fins, vE, cE, evl, lstE, tupE, callE, rd, SD.get, bT, andT, orT, notT, andE, orE, notE, ifE, yesT, seqS, seqFS, asgS, retS, retN, ifS, dropS, nilS, run1, gN, gT, gAll, chainE, sliE, ptE, metE, isT_tx, isT_list, itI, enI, zipI, rngI, parS, evp, setp, setM, setI, ownd, upc, mutK, isL, callM, lent, forS, List.set_cons_zero, List.set_cons_succ, List.getElem?_cons_zero, List.getElem?_cons_succ, Option.bind_some, Option.map_some, Option.bind_none, Option.map_none, cond_true, cond_false, List.map_cons, List.map_nil, List.replicate_succ, List.replicate_zero, List.length_cons, List.length_nil, List.cons_append, List.nil_append, Nat.reduceAdd, Nat.reduceSub, Nat.sub_self, Nat.sub_zero, Nat.add_zero, Nat.zero_add, Nat.reduceLT, Bool.not_true, Bool.not_false, Bool.true_and, Bool.and_true, Bool.false_and, Bool.and_false, if_true, if_false, ite_true, ite_false, decide_true, decide_false, beq_self_eq_true, Bool.false_eq_true, signs_map]
  · simp only [runD, runF, runM, ini, op1, op2, opN, Opd.ev, Opd.fin, evs, fins, vE, cE, evl, lstE, tupE, callE, rd, SD.get, bT, andT, orT, notT, andE, orE, notE, ifE, yesT, seqS, seqFS, asgS, retS, retN, ifS, dropS, nilS, run1, gN, gT, gAll, chainE, sliE, ptE, metE, isT_tx, isT_list, itI, enI, zipI, rngI, parS, evp, setp, setM, setI, ownd, upc, mutK, isL, callM, lent, forS, List.set_cons_zero, List.set_cons_succ, List.getElem?_cons_zero, List.getElem?_cons_succ, Option.bind_some, Option.map_some, Option.bind_none, Option.map_none, cond_true, cond_false, List.map_cons, List.map_nil, List.replicate_succ, List.replicate_zero, List.length_cons, List.length_nil, List.cons_append, List.nil_append, Nat.reduceAdd, Nat.reduceSub, Nat.sub_self, Nat.sub_zero, Nat.add_zero, Nat.zero_add, Nat.reduceLT, Bool.not_true, Bool.not_false, Bool.true_and, Bool.and_true, Bool.false_and, Bool.and_false, if_true, if_false, ite_true, ite_false, decide_true, decide_false, beq_self_eq_true, Bool.false_eq_true, ltD_tx, one_lt]
  · split
    · exact ⟨_, rfl, rfl⟩
    · rfl
theorem c_raw_steps_b (l : List Nat) (hl : l.length ≤ 12) : c_raw_steps_2 [.im (tx l), .un, .un, .un] = some (.list ((steps l).map fun k => PyData.int (k : Nat)), [.im (tx l), .un, .un, .un]) := by
  unfold c_raw_steps_2
  have hb := big12 hl
  have e : (steps l).map (fun k => PyData.int (k : Nat)) = (List.range l.length).map fun i => PyData.int ((l.countP (fun c => decide (c < l.getD i 0)) + (l.take i).count (l.getD i 0) : Nat) : Int) := by unfold steps; rw [List.map_map]; rfl
  rw [e]
  refine lcE_map (fun i : Nat => pairI i (tx [l.getD i 0])) (fun i => PyData.int ((l.countP (fun c => decide (c < l.getD i 0)) + (l.take i).count (l.getD i 0) : Nat) : Int)) (List.range l.length) ?_ rfl (by rw [List.length_range]; exact hb) (fun x hx => ⟨[.im (tx l), .im (.int x), .im (tx [l.getD x 0]), .un], rfl, [.im (tx l), .im (.int x), .im (tx [l.getD x 0]), .un], ?_, rfl⟩) rfl
  · simp only [runD, runF, runM, ini, op1, op2, opN, Opd.ev, Opd.fin, evs, fins, vE, cE, evl, lstE, tupE, callE, rd, SD.get, bT, andT, orT, notT, andE, orE, notE, ifE, yesT, seqS, seqFS, asgS, retS, retN, ifS, dropS, nilS, run1, gN, gT, gAll, chainE, sliE, ptE, metE, isT_tx, isT_list, itI, enI, zipI, rngI, parS, evp, setp, setM, setI, ownd, upc, mutK, isL, callM, lent, forS, List.set_cons_zero, List.set_cons_succ, List.getElem?_cons_zero, List.getElem?_cons_succ, Option.bind_some, Option.map_some, Option.bind_none, Option.map_none, cond_true, cond_false, List.map_cons, List.map_nil, List.replicate_succ, List.replicate_zero, List.length_cons, List.length_nil, List.cons_append, List.nil_append, Nat.reduceAdd, Nat.reduceSub, Nat.sub_self, Nat.sub_zero, Nat.add_zero, Nat.zero_add, Nat.reduceLT, Bool.not_true, Bool.not_false, Bool.true_and, Bool.and_true, Bool.false_and, Bool.and_false, if_true, if_false, ite_true, ite_false, decide_true, decide_false, beq_self_eq_true, Bool.false_eq_true, signs_map]
    rw [enumL_map l 0 fun c => tx [c]]
  · simp only [runD, runF, runM, ini, op1, op2, opN, Opd.ev, Opd.fin, evs, fins, vE, cE, evl, lstE, tupE, callE, rd, SD.get, bT, andT, orT, notT, andE, orE, notE, ifE, yesT, seqS, seqFS, asgS, retS, retN, ifS, dropS, nilS, run1, gN, gT, gAll, chainE, sliE, ptE, metE, isT_tx, isT_list, itI, enI, zipI, rngI, parS, evp, setp, setM, setI, ownd, upc, mutK, isL, callM, lent, forS, List.set_cons_zero, List.set_cons_succ, List.getElem?_cons_zero, List.getElem?_cons_succ, Option.bind_some, Option.map_some, Option.bind_none, Option.map_none, cond_true, cond_false, List.map_cons, List.map_nil, List.replicate_succ, List.replicate_zero, List.length_cons, List.length_nil, List.cons_append, List.nil_append, Nat.reduceAdd, Nat.reduceSub, Nat.sub_self, Nat.sub_zero, Nat.add_zero, Nat.zero_add, Nat.reduceLT, Bool.not_true, Bool.not_false, Bool.true_and, Bool.and_true, Bool.false_and, Bool.and_false, if_true, if_false, ite_true, ite_false, decide_true, decide_false, beq_self_eq_true, Bool.false_eq_true, c_raw_steps_a l hl, lenD_list, slD_to l x hb, countSD_one, addD_int, List.length_map]
    rw [← List.countP_eq_length_filter, Int.natCast_add]
theorem raw_steps_eq (l : List Nat) (hl : l.length ≤ 12) : F_raw_steps [tx l] = some (.list ((steps l).map fun k => PyData.int (k : Nat))) := by
  unfold F_raw_steps W_raw_steps
  simp only [runD, runF, runM, ini, op1, op2, opN, Opd.ev, Opd.fin, evs, fins, vE, cE, evl, lstE, tupE, callE, rd, SD.get, bT, andT, orT, notT, andE, orE, notE, ifE, yesT, seqS, seqFS, asgS, retS, retN, ifS, dropS, nilS, run1, gN, gT, gAll, chainE, sliE, ptE, metE, isT_tx, isT_list, itI, enI, zipI, rngI, parS, evp, setp, setM, setI, ownd, upc, mutK, isL, callM, lent, forS, List.set_cons_zero, List.set_cons_succ, List.getElem?_cons_zero, List.getElem?_cons_succ, Option.bind_some, Option.map_some, Option.bind_none, Option.map_none, cond_true, cond_false, List.map_cons, List.map_nil, List.replicate_succ, List.replicate_zero, List.length_cons, List.length_nil, List.cons_append, List.nil_append, Nat.reduceAdd, Nat.reduceSub, Nat.sub_self, Nat.sub_zero, Nat.add_zero, Nat.zero_add, Nat.reduceLT, Bool.not_true, Bool.not_false, Bool.true_and, Bool.and_true, Bool.false_and, Bool.and_false, if_true, if_false, ite_true, ite_false, decide_true, decide_false, beq_self_eq_true, Bool.false_eq_true, c_raw_steps_b l hl]
theorem getD_some {α : Type} {l : List α} {i : Nat} {x : α} (h : l[i]? = some x) : i < l.length := (List.getElem?_eq_some_iff.mp h).1
theorem raw_from_last_eq (w : Wd) (hw : w.length ≤ 12) (p : Nat) (t : Wd) (h : (T w)[p]? = some t) : F_raw_from_last [tx (L w), .int p] = some (tx t) := by
  have hL : (L w).length ≤ 12 := by rw [L_len]; exact hw
  have lt : t.length = w.length := len_of_T (List.mem_of_getElem? h)
  have hpT := getD_some h
  rw [T_len] at hpT
  have loop : ∃ ε', l_raw_from_last_1 [.im (tx (L w)), .im (.int p), .im (.list ((steps (L w)).map fun k => PyData.int (k : Nat))), .im (tx []), .im (.int p), .un] = some (.nx ε') ∧
      ∃ j tn, ε' = [.im (tx (L w)), .im (.int p), .im (.list ((steps (L w)).map fun k => PyData.int (k : Nat))), .im (tx t), .im (.int (j : Nat)), tn] := by
    unfold l_raw_from_last_1 forS
    rw [rng_len (w := L w) rfl (big12 hL), Option.bind_some]
    obtain ⟨ε', a, b⟩ := forL_inv (g := gN 5) (body := seqS (asgS (op2 addD (.e (op2 ixD (.s 0) (.s 4))) (.s 3)) (gN 3)) (asgS (op2 ixD (.s 2) (.s 4)) (gN 4)))
      (fun k ε => k ≤ w.length ∧ ∃ (j : Nat) (tn : SD), (T w)[j]? = some (back k t) ∧ ε = [.im (tx (L w)), .im (.int p), .im (.list ((steps (L w)).map fun k => PyData.int (k : Nat))), .im (tx (t.drop (w.length - k))), .im (.int (j : Nat)), tn])
      ((List.range (L w).length).map fun i : Nat => PyData.int i) 0 _ ⟨Nat.zero_le _, p, .un, h, by rw [List.drop_eq_nil_of_le (by omega)]⟩ (fun i d ε hd hI => by
        rw [Nat.zero_add] at hI
        rw [Nat.zero_add]
        obtain ⟨hk, j, tn, hj, rfl⟩ := hI
        have hi : i < w.length := by
          have := getD_some hd
          rw [List.length_map, List.length_range, L_len] at this; exact this
        obtain ⟨j2, a1, a2⟩ := steps_at hj
        have hLj : (L w)[j]? = some (lst (back i t)) := by unfold L; rw [List.getElem?_map, hj]; rfl
        refine ⟨[.im (tx (L w)), .im (.int p), .im (.list ((steps (L w)).map fun k => PyData.int (k : Nat))), .im (tx (t.drop (w.length - i))), .im (.int (j : Nat)), .im d], .nx [.im (tx (L w)), .im (.int p), .im (.list ((steps (L w)).map fun k => PyData.int (k : Nat))), .im (tx (lst (back i t) :: t.drop (w.length - i))), .im (.int (j2 : Nat)), .im d], rfl, ?_, _, .inl rfl, by omega, j2, .im d, a2, ?_⟩
        · have hs : (1 : Nat) + (w.length - (w.length - i)) ≤ big := by have := big12 hw; omega
          have hs1 : [lst (back i t)].length + (t.drop (w.length - i)).length ≤ big := by rw [List.length_drop, lt]; exact hs
          simp only [runD, runF, runM, ini, op1, op2, opN, Opd.ev, Opd.fin, evs, fins, vE, cE, evl, lstE, tupE, callE, rd, SD.get, bT, andT, orT, notT, andE, orE, notE, ifE, yesT, seqS, seqFS, asgS, retS, retN, ifS, dropS, nilS, run1, gN, gT, gAll, chainE, sliE, ptE, metE, isT_tx, isT_list, itI, enI, zipI, rngI, parS, evp, setp, setM, setI, ownd, upc, mutK, isL, callM, lent, forS, List.set_cons_zero, List.set_cons_succ, List.getElem?_cons_zero, List.getElem?_cons_succ, Option.bind_some, Option.map_some, Option.bind_none, Option.map_none, cond_true, cond_false, List.map_cons, List.map_nil, List.replicate_succ, List.replicate_zero, List.length_cons, List.length_nil, List.cons_append, List.nil_append, Nat.reduceAdd, Nat.reduceSub, Nat.sub_self, Nat.sub_zero, Nat.add_zero, Nat.zero_add, Nat.reduceLT, Bool.not_true, Bool.not_false, Bool.true_and, Bool.and_true, Bool.false_and, Bool.and_false, if_true, if_false, ite_true, ite_false, decide_true, decide_false, beq_self_eq_true, Bool.false_eq_true, ixD_tx _ _ (big12 hL), hLj, addD_tx _ _ hs1, ixD_list, List.getElem?_map, a1]
        · have := drop_step (t := t) (k := i) (by omega)
          rw [lt] at this
          rw [this])
    obtain ⟨hk, j, tn, hj, rfl⟩ := b
    refine ⟨_, a, j, tn, ?_⟩
    rw [Nat.zero_add, List.length_map, List.length_range, L_len, Nat.sub_self, List.drop_zero]
  obtain ⟨ε', a, j, tn, rfl⟩ := loop
  unfold F_raw_from_last W_raw_from_last
  simp only [runD, runF, runM, ini, op1, op2, opN, Opd.ev, Opd.fin, evs, fins, vE, cE, evl, lstE, tupE, callE, rd, SD.get, bT, andT, orT, notT, andE, orE, notE, ifE, yesT, seqS, seqFS, asgS, retS, retN, ifS, dropS, nilS, run1, gN, gT, gAll, chainE, sliE, ptE, metE, isT_tx, isT_list, itI, enI, zipI, rngI, parS, evp, setp, setM, setI, ownd, upc, mutK, isL, callM, lent, forS, List.set_cons_zero, List.set_cons_succ, List.getElem?_cons_zero, List.getElem?_cons_succ, Option.bind_some, Option.map_some, Option.bind_none, Option.map_none, cond_true, cond_false, List.map_cons, List.map_nil, List.replicate_succ, List.replicate_zero, List.length_cons, List.length_nil, List.cons_append, List.nil_append, Nat.reduceAdd, Nat.reduceSub, Nat.sub_self, Nat.sub_zero, Nat.add_zero, Nat.zero_add, Nat.reduceLT, Bool.not_true, Bool.not_false, Bool.true_and, Bool.and_true, Bool.false_and, Bool.and_false, if_true, if_false, ite_true, ite_false, decide_true, decide_false, beq_self_eq_true, Bool.false_eq_true, raw_steps_eq _ hL, a]
/-! all_words_like -/
theorem uniqD_eq : ∀ (l acc : List Wd), uniqD acc l = uniq acc l
  | [], _ => rfl
  | t :: ts, acc => by unfold uniqD uniq; exact uniqD_eq ts _
theorem keys_kv (l : List Wd) : (l.map kvT).map Prod.fst = l.map tx := by rw [List.map_map]; rfl
def Tat (w : Wd) (p : Nat) : Wd := (T w).getD p []
theorem Tat_at {w : Wd} {p : Nat} (h : p < w.length) : (T w)[p]? = some (Tat w p) := by
  unfold Tat
  rw [List.getD_eq_getElem?_getD, List.getElem?_eq_getElem (by rw [T_len]; exact h)]; rfl
theorem Tat_map (w : Wd) : (List.range w.length).map (Tat w) = T w := by
  have := map_range_getD (T w) []
  rw [T_len] at this
  exact this.symm
theorem c_words_a (w : Wd) (hw : w.length ≤ 12) : c_all_words_like_1 [.im (tx (L w)), .un, .un, .un] = some (.dict ((U w).map kvT), [.im (tx (L w)), .un, .un, .un]) := by
  unfold c_all_words_like_1
  have hL : (L w).length ≤ 12 := by rw [L_len]; exact hw
  have e : U w = uniqD [] ((List.range (L w).length).map (Tat w)) := by rw [uniqD_eq, L_len, Tat_map]; rfl
  rw [e]
  refine dcE_uniq (fun i : Nat => PyData.int i) (Tat w) (List.range (L w).length) (rng_len rfl (big12 hL)) rfl (by rw [List.length_range]; exact big12 hL) (fun x hx => ⟨[.im (tx (L w)), .un, .im (.int x), .un], [.im (tx (L w)), .un, .im (.int x), .un], _, rfl, ?_, rfl, rfl⟩) rfl
  rw [List.mem_range, L_len] at hx
  simp only [runD, runF, runM, ini, op1, op2, opN, Opd.ev, Opd.fin, evs, fins, vE, cE, evl, lstE, tupE, callE, rd, SD.get, bT, andT, orT, notT, andE, orE, notE, ifE, yesT, seqS, seqFS, asgS, retS, retN, ifS, dropS, nilS, run1, gN, gT, gAll, chainE, sliE, ptE, metE, isT_tx, isT_list, itI, enI, zipI, rngI, parS, evp, setp, setM, setI, ownd, upc, mutK, isL, callM, lent, forS, List.set_cons_zero, List.set_cons_succ, List.getElem?_cons_zero, List.getElem?_cons_succ, Option.bind_some, Option.map_some, Option.bind_none, Option.map_none, cond_true, cond_false, List.map_cons, List.map_nil, List.replicate_succ, List.replicate_zero, List.length_cons, List.length_nil, List.cons_append, List.nil_append, Nat.reduceAdd, Nat.reduceSub, Nat.sub_self, Nat.sub_zero, Nat.add_zero, Nat.zero_add, Nat.reduceLT, Bool.not_true, Bool.not_false, Bool.true_and, Bool.and_true, Bool.false_and, Bool.and_false, if_true, if_false, ite_true, ite_false, decide_true, decide_false, beq_self_eq_true, Bool.false_eq_true, raw_from_last_eq w hw x _ (Tat_at hx)]
theorem L_T {w t : Wd} (h : t ∈ T w) : L t = L w := by unfold L; rw [T_rot h]
theorem U_len12 {w : Wd} (hw : w.length ≤ 12) : (U w).length ≤ 12 := by
  have h1 := len_U w
  rw [T_len] at h1
  by_cases h0 : 0 < w.length
  · have : 0 < (T w).count w := List.count_pos_iff.mpr (self_T h0)
    have h2 : (U w).length * 1 ≤ (U w).length * (T w).count w := Nat.mul_le_mul_left _ this
    omega
  · have : w = [] := List.eq_nil_of_length_eq_zero (by omega)
    subst this
    have e : T [] = [] := List.eq_nil_of_length_eq_zero (T_len [])
    unfold U; rw [e]; exact Nat.zero_le _
theorem c_words_b (w : Wd) (hw : w.length ≤ 12) : c_all_words_like_2 [.im (tx (L w)), .im (.dict ((U w).map kvT)), .un, .un] = some (.list ((U w).map tx), [.im (tx (L w)), .im (.dict ((U w).map kvT)), .un, .un]) := by
  unfold c_all_words_like_2
  have hU := U_len12 hw
  have h := lcE_fil (src := itV 1) (own := [3]) (g := gN 3) (t := bT (op2 eqD (.e (callE F_raw_last [(vE 3)])) (.s 0))) (f := vE 3) (ε := [.im (tx (L w)), .im (.dict ((U w).map kvT)), .un, .un]) (ε' := [.im (tx (L w)), .im (.dict ((U w).map kvT)), .un, .un]) tx tx (fun _ => true) (U w) (by
    unfold itV
    simp only [runD, runF, runM, ini, op1, op2, opN, Opd.ev, Opd.fin, evs, fins, vE, cE, evl, lstE, tupE, callE, rd, SD.get, bT, andT, orT, notT, andE, orE, notE, ifE, yesT, seqS, seqFS, asgS, retS, retN, ifS, dropS, nilS, run1, gN, gT, gAll, chainE, sliE, ptE, metE, isT_tx, isT_list, itI, enI, zipI, rngI, parS, evp, setp, setM, setI, ownd, upc, mutK, isL, callM, lent, forS, List.set_cons_zero, List.set_cons_succ, List.getElem?_cons_zero, List.getElem?_cons_succ, Option.bind_some, Option.map_some, Option.bind_none, Option.map_none, cond_true, cond_false, List.map_cons, List.map_nil, List.replicate_succ, List.replicate_zero, List.length_cons, List.length_nil, List.cons_append, List.nil_append, Nat.reduceAdd, Nat.reduceSub, Nat.sub_self, Nat.sub_zero, Nat.add_zero, Nat.zero_add, Nat.reduceLT, Bool.not_true, Bool.not_false, Bool.true_and, Bool.and_true, Bool.false_and, Bool.and_false, if_true, if_false, ite_true, ite_false, decide_true, decide_false, beq_self_eq_true, Bool.false_eq_true, itemsD, keys_kv]) rfl (big12 hU) (fun x hx => ⟨[.im (tx (L w)), .im (.dict ((U w).map kvT)), .un, .im (tx x)], [.im (tx (L w)), .im (.dict ((U w).map kvT)), .un, .im (tx x)], rfl, by
      have hx' := mem_U.mp hx
      simp only [runD, runF, runM, ini, op1, op2, opN, Opd.ev, Opd.fin, evs, fins, vE, cE, evl, lstE, tupE, callE, rd, SD.get, bT, andT, orT, notT, andE, orE, notE, ifE, yesT, seqS, seqFS, asgS, retS, retN, ifS, dropS, nilS, run1, gN, gT, gAll, chainE, sliE, ptE, metE, isT_tx, isT_list, itI, enI, zipI, rngI, parS, evp, setp, setM, setI, ownd, upc, mutK, isL, callM, lent, forS, List.set_cons_zero, List.set_cons_succ, List.getElem?_cons_zero, List.getElem?_cons_succ, Option.bind_some, Option.map_some, Option.bind_none, Option.map_none, cond_true, cond_false, List.map_cons, List.map_nil, List.replicate_succ, List.replicate_zero, List.length_cons, List.length_nil, List.cons_append, List.nil_append, Nat.reduceAdd, Nat.reduceSub, Nat.sub_self, Nat.sub_zero, Nat.add_zero, Nat.zero_add, Nat.reduceLT, Bool.not_true, Bool.not_false, Bool.true_and, Bool.and_true, Bool.false_and, Bool.and_false, if_true, if_false, ite_true, ite_false, decide_true, decide_false, beq_self_eq_true, Bool.false_eq_true, raw_last_eq x (by rw [len_of_T hx']; exact hw), eqD_tx, L_T hx'], by rw [if_pos rfl]; exact ⟨_, rfl, rfl⟩⟩) rfl
  rw [List.filter_eq_self.mpr fun _ _ => rfl] at h
  exact h
theorem all_words_like_eq (w : Wd) (hw : w.length ≤ 12) : F_all_words_like [tx (L w)] = some (.list ((U w).map tx)) := by
  have hs : ((U w).mergeSort fun a b => decide (a ≤ b)) = U w := srtW_of (List.Perm.refl _) (U_sorted w)
  unfold F_all_words_like W_all_words_like
  simp only [runD, runF, runM, ini, op1, op2, opN, Opd.ev, Opd.fin, evs, fins, vE, cE, evl, lstE, tupE, callE, rd, SD.get, bT, andT, orT, notT, andE, orE, notE, ifE, yesT, seqS, seqFS, asgS, retS, retN, ifS, dropS, nilS, run1, gN, gT, gAll, chainE, sliE, ptE, metE, isT_tx, isT_list, itI, enI, zipI, rngI, parS, evp, setp, setM, setI, ownd, upc, mutK, isL, callM, lent, forS, List.set_cons_zero, List.set_cons_succ, List.getElem?_cons_zero, List.getElem?_cons_succ, Option.bind_some, Option.map_some, Option.bind_none, Option.map_none, cond_true, cond_false, List.map_cons, List.map_nil, List.replicate_succ, List.replicate_zero, List.length_cons, List.length_nil, List.cons_append, List.nil_append, Nat.reduceAdd, Nat.reduceSub, Nat.sub_self, Nat.sub_zero, Nat.add_zero, Nat.zero_add, Nat.reduceLT, Bool.not_true, Bool.not_false, Bool.true_and, Bool.and_true, Bool.false_and, Bool.and_false, if_true, if_false, ite_true, ite_false, decide_true, decide_false, beq_self_eq_true, Bool.false_eq_true, c_words_a w hw, c_words_b w hw, sortD_tx _ (big12 (U_len12 hw)), hs]
theorem wrd_L {w : Wd} (h : wrd w) : wrd (L w) := by
  refine ⟨by rw [L_len]; exact h.1, by rw [L_len]; exact h.2.1, fun c hc => ?_⟩
  unfold L at hc
  obtain ⟨t, ht, rfl⟩ := List.mem_map.mp hc
  obtain ⟨m, hm, rfl⟩ := mem_T.mp ht
  have hl := last_rot hm
  have := List.mem_of_getLast? hl
  unfold rot at this
  rcases List.mem_append.mp this with z | z
  · exact h.2.2 _ (List.mem_of_mem_drop z)
  · exact h.2.2 _ (List.mem_of_mem_take z)
theorem words_like_eq (w : Wd) (h : wrd w) : F_words_like [tx (L w)] = some (.tuple ((U w).map tx)) := by
  unfold F_words_like W_words_like
  simp only [runD, runF, runM, ini, op1, op2, opN, Opd.ev, Opd.fin, evs, fins, vE, cE, evl, lstE, tupE, callE, rd, SD.get, bT, andT, orT, notT, andE, orE, notE, ifE, yesT, seqS, seqFS, asgS, retS, retN, ifS, dropS, nilS, run1, gN, gT, gAll, chainE, sliE, ptE, metE, isT_tx, isT_list, itI, enI, zipI, rngI, parS, evp, setp, setM, setI, ownd, upc, mutK, isL, callM, lent, forS, List.set_cons_zero, List.set_cons_succ, List.getElem?_cons_zero, List.getElem?_cons_succ, Option.bind_some, Option.map_some, Option.bind_none, Option.map_none, cond_true, cond_false, List.map_cons, List.map_nil, List.replicate_succ, List.replicate_zero, List.length_cons, List.length_nil, List.cons_append, List.nil_append, Nat.reduceAdd, Nat.reduceSub, Nat.sub_self, Nat.sub_zero, Nat.add_zero, Nat.zero_add, Nat.reduceLT, Bool.not_true, Bool.not_false, Bool.true_and, Bool.and_true, Bool.false_and, Bool.and_false, if_true, if_false, ite_true, ite_false, decide_true, decide_false, beq_self_eq_true, Bool.false_eq_true, check_word_eq _ (wrd_L h), all_words_like_eq w h.2.1, tupFD]
theorem U_pos {w : Wd} (h : wrd w) : 0 < (U w).length := List.length_pos_of_mem (mem_U.mpr (self_T (by have := h.1; omega)))
theorem is_last_eq (w : Wd) (h : wrd w) : F_is_last [tx (L w)] = some (.bool true) := by
  have hp : (0 : Int) < (U w).length := by have := U_pos h; omega
  unfold F_is_last W_is_last
  simp only [runD, runF, runM, ini, op1, op2, opN, Opd.ev, Opd.fin, evs, fins, vE, cE, evl, lstE, tupE, callE, rd, SD.get, bT, andT, orT, notT, andE, orE, notE, ifE, yesT, seqS, seqFS, asgS, retS, retN, ifS, dropS, nilS, run1, gN, gT, gAll, chainE, sliE, ptE, metE, isT_tx, isT_list, itI, enI, zipI, rngI, parS, evp, setp, setM, setI, ownd, upc, mutK, isL, callM, lent, forS, List.set_cons_zero, List.set_cons_succ, List.getElem?_cons_zero, List.getElem?_cons_succ, Option.bind_some, Option.map_some, Option.bind_none, Option.map_none, cond_true, cond_false, List.map_cons, List.map_nil, List.replicate_succ, List.replicate_zero, List.length_cons, List.length_nil, List.cons_append, List.nil_append, Nat.reduceAdd, Nat.reduceSub, Nat.sub_self, Nat.sub_zero, Nat.add_zero, Nat.zero_add, Nat.reduceLT, Bool.not_true, Bool.not_false, Bool.true_and, Bool.and_true, Bool.false_and, Bool.and_false, if_true, if_false, ite_true, ite_false, decide_true, decide_false, beq_self_eq_true, Bool.false_eq_true, is_word_eq _ (wrd_L h), all_words_like_eq w h.2.1, lenD_list, List.length_map, gtD_int, hp]
end T4

-- K4c
namespace T4
open PySem PL BW
/-! place_of -/
def isz (z : D) : Bool := PyData.eqv z (.int 0)
def pl (w : Wd) : Nat := (((O w).map fun m => PyData.int (m : Nat)).findIdx? isz).getD 0
theorem pl_spec {w : Wd} (h : 1 ≤ w.length) : ((O w).map fun m => PyData.int (m : Nat)).findIdx? isz = some (pl w) ∧ (O w)[pl w]? = some 0 := by
  have h0 : 0 ∈ O w := by rw [(O_perm w).mem_iff, List.mem_range]; omega
  cases e : ((O w).map fun m => PyData.int (m : Nat)).findIdx? isz with
  | none =>
    rw [List.findIdx?_eq_none_iff] at e
    have := e (.int (0 : Nat)) (List.mem_map_of_mem h0)
    unfold isz at this
    rw [eqv_int] at this
    simp at this
  | some j =>
    have ep : pl w = j := by unfold pl; rw [e]; rfl
    rw [ep]
    refine ⟨rfl, ?_⟩
    rw [List.findIdx?_eq_some_iff_getElem] at e
    obtain ⟨hj, h1, _⟩ := e
    rw [List.getElem_map] at h1
    unfold isz at h1
    rw [eqv_int, decide_eq_true_eq] at h1
    rw [List.length_map] at hj
    rw [List.getElem?_eq_getElem hj]
    congr 1; omega
theorem pl_T {w : Wd} (h : 1 ≤ w.length) : (T w)[pl w]? = some w := by
  rw [← O_T w, List.getElem?_map, (pl_spec h).2, Option.map_some, rot_zero]
theorem okk_ints (xs : List Nat) (i : Int) : okk (.list (xs.map fun m => PyData.int (m : Nat))) (.int i) = true := by
  show ((xs.map fun m => PyData.int (m : Nat)).all (okD 8) && ok9 (.int i)) = true
  rw [ok_int, Bool.and_true, List.all_eq_true]
  intro x hx
  obtain ⟨_, _, rfl⟩ := List.mem_map.mp hx
  exact okD_int _ _
theorem indexD_pl {w : Wd} (h : 1 ≤ w.length) : indexD (.list ((O w).map fun m => PyData.int (m : Nat))) [.int 0] = some (.int (pl w : Nat)) := by
  show (if okk (.list ((O w).map fun m => PyData.int (m : Nat))) (.int 0) = true then (((O w).map fun m => PyData.int (m : Nat)).findIdx? isz).map fun (j : Nat) => PyData.int (j : Int) else none) = _
  rw [if_pos (okk_ints _ _), (pl_spec h).1]; rfl
theorem place_of_eq (w : Wd) (h : wrd w) : F_place_of [tx w] = some (.int (pl w : Nat)) := by
  unfold F_place_of W_place_of
  simp only [runD, runF, runM, ini, op1, op2, opN, Opd.ev, Opd.fin, evs, fins, vE, cE, evl, lstE, tupE, callE, rd, SD.get, bT, andT, orT, notT, andE, orE, notE, ifE, yesT, seqS, seqFS, asgS, retS, retN, ifS, dropS, nilS, run1, gN, gT, gAll, chainE, sliE, ptE, metE, isT_tx, isT_list, itI, enI, zipI, rngI, parS, evp, setp, setM, setI, ownd, upc, mutK, isL, callM, lent, forS, List.set_cons_zero, List.set_cons_succ, List.getElem?_cons_zero, List.getElem?_cons_succ, Option.bind_some, Option.map_some, Option.bind_none, Option.map_none, cond_true, cond_false, List.map_cons, List.map_nil, List.replicate_succ, List.replicate_zero, List.length_cons, List.length_nil, List.cons_append, List.nil_append, Nat.reduceAdd, Nat.reduceSub, Nat.sub_self, Nat.sub_zero, Nat.add_zero, Nat.zero_add, Nat.reduceLT, Bool.not_true, Bool.not_false, Bool.true_and, Bool.and_true, Bool.false_and, Bool.and_false, if_true, if_false, ite_true, ite_false, decide_true, decide_false, beq_self_eq_true, Bool.false_eq_true, check_word_eq w h, raw_order_eq w h.2.1, indexD_pl h.1]
theorem pl_lt {w : Wd} (h : wrd w) : pl w < w.length := by
  have := getD_some (pl_T h.1)
  rwa [T_len] at this
theorem from_last_eq (t : Wd) (h : wrd t) : F_from_last [tx (L t), .int (pl t : Nat)] = some (tx t) := by
  have hL : (L t).length ≤ 12 := by rw [L_len]; exact h.2.1
  have ht := self_T (show 0 < t.length from h.1)
  have loop : ∃ ε', l_from_last_1 [.im (tx (L t)), .im (.int (pl t : Nat)), .im (tx t), .un] = some (.rt (tx t) ε') := by
    unfold l_from_last_1 forS
    have src : itI (callE F_all_words_like [(vE 0)]) [.im (tx (L t)), .im (.int (pl t : Nat)), .im (tx t), .un] = some ((U t).map tx, [.im (tx (L t)), .im (.int (pl t : Nat)), .im (tx t), .un]) := by
      simp only [runD, runF, runM, ini, op1, op2, opN, Opd.ev, Opd.fin, evs, fins, vE, cE, evl, lstE, tupE, callE, rd, SD.get, bT, andT, orT, notT, andE, orE, notE, ifE, yesT, seqS, seqFS, asgS, retS, retN, ifS, dropS, nilS, run1, gN, gT, gAll, chainE, sliE, ptE, metE, isT_tx, isT_list, itI, enI, zipI, rngI, parS, evp, setp, setM, setI, ownd, upc, mutK, isL, callM, lent, forS, List.set_cons_zero, List.set_cons_succ, List.getElem?_cons_zero, List.getElem?_cons_succ, Option.bind_some, Option.map_some, Option.bind_none, Option.map_none, cond_true, cond_false, List.map_cons, List.map_nil, List.replicate_succ, List.replicate_zero, List.length_cons, List.length_nil, List.cons_append, List.nil_append, Nat.reduceAdd, Nat.reduceSub, Nat.sub_self, Nat.sub_zero, Nat.add_zero, Nat.zero_add, Nat.reduceLT, Bool.not_true, Bool.not_false, Bool.true_and, Bool.and_true, Bool.false_and, Bool.and_false, if_true, if_false, ite_true, ite_false, decide_true, decide_false, beq_self_eq_true, Bool.false_eq_true, all_words_like_eq t h.2.1, seqD]
    rw [src, Option.bind_some]
    have run := forL_ret (g := gN 3) (body := (ifS (andT (bT (op2 eqD (.s 3) (.s 2))) (bT (op2 eqD (.e (metE "list" indexD (.e (callE F_raw_order [(vE 2)])) [(.e (cE (.int 0)))])) (.s 1)))) (retS (vE 2)) nilS))
      (fun k ε => (∃ x, ε = [.im (tx (L t)), .im (.int (pl t : Nat)), .im (tx t), x]) ∧ ∀ i, i < k → (U t)[i]? ≠ some t) (fun r _ => r = tx t) ((U t).map tx) 0 [.im (tx (L t)), .im (.int (pl t : Nat)), .im (tx t), .un] ⟨⟨_, rfl⟩, fun i hi => by omega⟩ (fun i d ε hd hI => by
        rw [Nat.zero_add] at hI
        rw [Nat.zero_add]
        obtain ⟨⟨x, rfl⟩, hno⟩ := hI
        rw [List.getElem?_map] at hd
        obtain ⟨u, hu, rfl⟩ := Option.map_eq_some_iff.mp hd
        by_cases e : u = t
        · subst e
          refine ⟨_, .rt (tx u) [.im (tx (L u)), .im (.int (pl u : Nat)), .im (tx u), .im (tx u)], rfl, ?_, .inr ⟨_, _, rfl, rfl⟩⟩
          simp only [runD, runF, runM, ini, op1, op2, opN, Opd.ev, Opd.fin, evs, fins, vE, cE, evl, lstE, tupE, callE, rd, SD.get, bT, andT, orT, notT, andE, orE, notE, ifE, yesT, seqS, seqFS, asgS, retS, retN, ifS, dropS, nilS, run1, gN, gT, gAll, chainE, sliE, ptE, metE, isT_tx, isT_list, itI, enI, zipI, rngI, parS, evp, setp, setM, setI, ownd, upc, mutK, isL, callM, lent, forS, List.set_cons_zero, List.set_cons_succ, List.getElem?_cons_zero, List.getElem?_cons_succ, Option.bind_some, Option.map_some, Option.bind_none, Option.map_none, cond_true, cond_false, List.map_cons, List.map_nil, List.replicate_succ, List.replicate_zero, List.length_cons, List.length_nil, List.cons_append, List.nil_append, Nat.reduceAdd, Nat.reduceSub, Nat.sub_self, Nat.sub_zero, Nat.add_zero, Nat.zero_add, Nat.reduceLT, Bool.not_true, Bool.not_false, Bool.true_and, Bool.and_true, Bool.false_and, Bool.and_false, if_true, if_false, ite_true, ite_false, decide_true, decide_false, beq_self_eq_true, Bool.false_eq_true, eqD_tx, raw_order_eq u h.2.1, indexD_pl h.1, eqD_int]
        · refine ⟨_, .nx [.im (tx (L t)), .im (.int (pl t : Nat)), .im (tx t), .im (tx u)], rfl, ?_, .inl ⟨_, .inl rfl, ⟨_, rfl⟩, fun j hj => ?_⟩⟩
          · simp only [runD, runF, runM, ini, op1, op2, opN, Opd.ev, Opd.fin, evs, fins, vE, cE, evl, lstE, tupE, callE, rd, SD.get, bT, andT, orT, notT, andE, orE, notE, ifE, yesT, seqS, seqFS, asgS, retS, retN, ifS, dropS, nilS, run1, gN, gT, gAll, chainE, sliE, ptE, metE, isT_tx, isT_list, itI, enI, zipI, rngI, parS, evp, setp, setM, setI, ownd, upc, mutK, isL, callM, lent, forS, List.set_cons_zero, List.set_cons_succ, List.getElem?_cons_zero, List.getElem?_cons_succ, Option.bind_some, Option.map_some, Option.bind_none, Option.map_none, cond_true, cond_false, List.map_cons, List.map_nil, List.replicate_succ, List.replicate_zero, List.length_cons, List.length_nil, List.cons_append, List.nil_append, Nat.reduceAdd, Nat.reduceSub, Nat.sub_self, Nat.sub_zero, Nat.add_zero, Nat.zero_add, Nat.reduceLT, Bool.not_true, Bool.not_false, Bool.true_and, Bool.and_true, Bool.false_and, Bool.and_false, if_true, if_false, ite_true, ite_false, decide_true, decide_false, beq_self_eq_true, Bool.false_eq_true, eqD_tx, e]
          · by_cases q : j = i
            · subst q; rw [hu]; intro z; exact e (Option.some.inj z)
            · exact hno j (by omega))
    rcases run with ⟨ε', _, ⟨_, hno⟩⟩ | ⟨r, ε', a, rfl⟩
    · obtain ⟨i, hi, hti⟩ := List.mem_iff_getElem.mp (mem_U.mpr ht)
      rw [Nat.zero_add, List.length_map] at hno
      exact absurd (by rw [List.getElem?_eq_getElem hi, hti]) (hno i hi)
    · exact ⟨ε', a⟩
  obtain ⟨ε', a⟩ := loop
  have hp := pl_lt h
  have hw := is_within_eq (pl t : Nat) 0 ((t.length : Int) - 1)
  have c1 : (0 : Int) ≤ (pl t : Nat) := by omega
  have c2 : ((pl t : Nat) : Int) ≤ (t.length : Int) - 1 := by omega
  rw [decide_eq_true c1, decide_eq_true c2] at hw
  unfold F_from_last W_from_last
  simp only [runD, runF, runM, ini, op1, op2, opN, Opd.ev, Opd.fin, evs, fins, vE, cE, evl, lstE, tupE, callE, rd, SD.get, bT, andT, orT, notT, andE, orE, notE, ifE, yesT, seqS, seqFS, asgS, retS, retN, ifS, dropS, nilS, run1, gN, gT, gAll, chainE, sliE, ptE, metE, isT_tx, isT_list, itI, enI, zipI, rngI, parS, evp, setp, setM, setI, ownd, upc, mutK, isL, callM, lent, forS, List.set_cons_zero, List.set_cons_succ, List.getElem?_cons_zero, List.getElem?_cons_succ, Option.bind_some, Option.map_some, Option.bind_none, Option.map_none, cond_true, cond_false, List.map_cons, List.map_nil, List.replicate_succ, List.replicate_zero, List.length_cons, List.length_nil, List.cons_append, List.nil_append, Nat.reduceAdd, Nat.reduceSub, Nat.sub_self, Nat.sub_zero, Nat.add_zero, Nat.zero_add, Nat.reduceLT, Bool.not_true, Bool.not_false, Bool.true_and, Bool.and_true, Bool.false_and, Bool.and_false, if_true, if_false, ite_true, ite_false, decide_true, decide_false, beq_self_eq_true, Bool.false_eq_true, check_word_eq _ (wrd_L h), lenD_tx _ (big12 hL), subD, L_len, hw, raw_from_last_eq t h.2.1 _ _ (pl_T h.1), a]
/-! first_letters, runs_in -/
def fl (w : Wd) : Wd := ((w.map fun c => [c]).mergeSort fun a b => decide (a ≤ b)).flatten
theorem sortD_str (w : Wd) (h : w.length ≤ big) : sortD [tx w] = some (.list (((w.map fun c => [c]).mergeSort fun a b => decide (a ≤ b)).map tx)) := by
  show (if (sL ⟨w.toArray⟩).length ≤ big then some (PyData.list (srt ((sL ⟨w.toArray⟩).map fun c => tx [c]))) else none) = _
  rw [sL_mk, if_pos h]
  have e : (w.map fun c => tx [c]) = (w.map fun c => [c]).map tx := by rw [List.map_map]; rfl
  rw [e, srt_tx]
theorem fl_sum (w : Wd) : (((w.map fun c => [c]).mergeSort fun a b => decide (a ≤ b)).map List.length).sum = w.length := by
  have p := ((List.mergeSort_perm (w.map fun c => [c]) fun a b => decide (a ≤ b)).map List.length).sum_nat
  rw [p, List.map_map]
  induction w with
  | nil => rfl
  | cons x w ih => rw [List.map_cons, List.sum_cons, List.length_cons, ih (by
      exact ((List.mergeSort_perm (w.map fun c => [c]) fun a b => decide (a ≤ b)).map List.length).sum_nat)]; show 1 + w.length = _; omega
theorem join_sorted (w : Wd) (h : w.length ≤ 12) : joinD (tx []) [.list (((w.map fun c => [c]).mergeSort fun a b => decide (a ≤ b)).map tx)] = some (tx (fl w)) := joinD_nil _ (by rw [fl_sum]; exact big12 h)
theorem first_letters_eq (w : Wd) (h : wrd w) : F_first_letters [tx w] = some (tx (fl w)) := by
  unfold F_first_letters W_first_letters
  simp only [runD, runF, runM, ini, op1, op2, opN, Opd.ev, Opd.fin, evs, fins, vE, cE, evl, lstE, tupE, callE, rd, SD.get, bT, andT, orT, notT, andE, orE, notE, ifE, yesT, seqS, seqFS, asgS, retS, retN, ifS, dropS, nilS, run1, gN, gT, gAll, chainE, sliE, ptE, metE, isT_tx, isT_list, itI, enI, zipI, rngI, parS, evp, setp, setM, setI, ownd, upc, mutK, isL, callM, lent, forS, List.set_cons_zero, List.set_cons_succ, List.getElem?_cons_zero, List.getElem?_cons_succ, Option.bind_some, Option.map_some, Option.bind_none, Option.map_none, cond_true, cond_false, List.map_cons, List.map_nil, List.replicate_succ, List.replicate_zero, List.length_cons, List.length_nil, List.cons_append, List.nil_append, Nat.reduceAdd, Nat.reduceSub, Nat.sub_self, Nat.sub_zero, Nat.add_zero, Nat.zero_add, Nat.reduceLT, Bool.not_true, Bool.not_false, Bool.true_and, Bool.and_true, Bool.false_and, Bool.and_false, if_true, if_false, ite_true, ite_false, decide_true, decide_false, beq_self_eq_true, Bool.false_eq_true, check_word_eq w h, sortD_str _ (big12 h.2.1), join_sorted w h.2.1]
theorem fl_perm {w v : Wd} (p : w.Perm v) : fl w = fl v := by
  unfold fl
  have : srtW (w.map fun c => [c]) = srtW (v.map fun c => [c]) := perm_sorted ((srtW_perm _).trans ((p.map _).trans (srtW_perm _).symm)) (srtW_sorted _) (srtW_sorted _)
  unfold srtW at this
  rw [this]
theorem rot_perm (w : Wd) (m : Nat) : (rot m w).Perm w := List.perm_append_comm.trans (by rw [List.take_append_drop])
theorem T_perm {w t : Wd} (h : t ∈ T w) : t.Perm w := by
  obtain ⟨m, _, rfl⟩ := mem_T.mp h
  exact rot_perm w m
def rn (l : List Nat) : Nat := (List.range (l.length - 1)).countP fun i => !decide (l.getD i 0 = l.getD (i + 1) 0)
theorem c_runs (w : SD) (l : List Nat) (h1 : 1 ≤ l.length) (hl : l.length ≤ 12) : c_runs_in_1 [w, .im (tx l), .un, .un] = some (.list (((List.range (l.length - 1)).filter fun i => !decide (l.getD i 0 = l.getD (i + 1) 0)).map fun _ => PyData.int 1), [w, .im (tx l), .un, .un]) := by
  unfold c_runs_in_1
  have hd : slD (tx l) (some (1 : Int)) none = some (tx (l.drop 1)) := slD_from l 1 (big12 hl) h1
  refine lcE_fil (fun i : Nat => PyData.tuple [tx [l.getD i 0], tx [l.getD (i + 1) 0]]) (fun _ => PyData.int 1) (fun i => !decide (l.getD i 0 = l.getD (i + 1) 0)) (List.range (l.length - 1)) ?_ rfl (by rw [List.length_range]; exact big12 (by omega)) (fun x hx => ⟨[w, .im (tx l), .im (tx [l.getD x 0]), .im (tx [l.getD (x + 1) 0])], [w, .im (tx l), .im (tx [l.getD x 0]), .im (tx [l.getD (x + 1) 0])], rfl, ?_, ?_⟩) rfl
  · simp only [runD, runF, runM, ini, op1, op2, opN, Opd.ev, Opd.fin, evs, fins, vE, cE, evl, lstE, tupE, callE, rd, SD.get, bT, andT, orT, notT, andE, orE, notE, ifE, yesT, seqS, seqFS, asgS, retS, retN, ifS, dropS, nilS, run1, gN, gT, gAll, chainE, sliE, ptE, metE, isT_tx, isT_list, itI, enI, zipI, rngI, parS, evp, setp, setM, setI, ownd, upc, mutK, isL, callM, lent, forS, List.set_cons_zero, List.set_cons_succ, List.getElem?_cons_zero, List.getElem?_cons_succ, Option.bind_some, Option.map_some, Option.bind_none, Option.map_none, cond_true, cond_false, List.map_cons, List.map_nil, List.replicate_succ, List.replicate_zero, List.length_cons, List.length_nil, List.cons_append, List.nil_append, Nat.reduceAdd, Nat.reduceSub, Nat.sub_self, Nat.sub_zero, Nat.add_zero, Nat.zero_add, Nat.reduceLT, Bool.not_true, Bool.not_false, Bool.true_and, Bool.and_true, Bool.false_and, Bool.and_false, if_true, if_false, ite_true, ite_false, decide_true, decide_false, beq_self_eq_true, Bool.false_eq_true, hd, signs_map]
    rw [zipL_map l 0 fun c => tx [c]]
  · simp only [runD, runF, runM, ini, op1, op2, opN, Opd.ev, Opd.fin, evs, fins, vE, cE, evl, lstE, tupE, callE, rd, SD.get, bT, andT, orT, notT, andE, orE, notE, ifE, yesT, seqS, seqFS, asgS, retS, retN, ifS, dropS, nilS, run1, gN, gT, gAll, chainE, sliE, ptE, metE, isT_tx, isT_list, itI, enI, zipI, rngI, parS, evp, setp, setM, setI, ownd, upc, mutK, isL, callM, lent, forS, List.set_cons_zero, List.set_cons_succ, List.getElem?_cons_zero, List.getElem?_cons_succ, Option.bind_some, Option.map_some, Option.bind_none, Option.map_none, cond_true, cond_false, List.map_cons, List.map_nil, List.replicate_succ, List.replicate_zero, List.length_cons, List.length_nil, List.cons_append, List.nil_append, Nat.reduceAdd, Nat.reduceSub, Nat.sub_self, Nat.sub_zero, Nat.add_zero, Nat.zero_add, Nat.reduceLT, Bool.not_true, Bool.not_false, Bool.true_and, Bool.and_true, Bool.false_and, Bool.and_false, if_true, if_false, ite_true, ite_false, decide_true, decide_false, beq_self_eq_true, Bool.false_eq_true, neD_tx, List.cons.injEq, and_true]
  · split
    · exact ⟨_, rfl, rfl⟩
    · rfl
theorem runs_in_eq (w : Wd) (h : wrd w) : F_runs_in [tx w] = some (.int (1 + (rn (L w) : Nat))) := by
  unfold F_runs_in W_runs_in
  simp only [runD, runF, runM, ini, op1, op2, opN, Opd.ev, Opd.fin, evs, fins, vE, cE, evl, lstE, tupE, callE, rd, SD.get, bT, andT, orT, notT, andE, orE, notE, ifE, yesT, seqS, seqFS, asgS, retS, retN, ifS, dropS, nilS, run1, gN, gT, gAll, chainE, sliE, ptE, metE, isT_tx, isT_list, itI, enI, zipI, rngI, parS, evp, setp, setM, setI, ownd, upc, mutK, isL, callM, lent, forS, List.set_cons_zero, List.set_cons_succ, List.getElem?_cons_zero, List.getElem?_cons_succ, Option.bind_some, Option.map_some, Option.bind_none, Option.map_none, cond_true, cond_false, List.map_cons, List.map_nil, List.replicate_succ, List.replicate_zero, List.length_cons, List.length_nil, List.cons_append, List.nil_append, Nat.reduceAdd, Nat.reduceSub, Nat.sub_self, Nat.sub_zero, Nat.add_zero, Nat.zero_add, Nat.reduceLT, Bool.not_true, Bool.not_false, Bool.true_and, Bool.and_true, Bool.false_and, Bool.and_false, if_true, if_false, ite_true, ite_false, decide_true, decide_false, beq_self_eq_true, Bool.false_eq_true, check_word_eq w h, raw_last_eq w h.2.1, c_runs (.im (tx w)) (L w) (by rw [L_len]; exact h.1) (by rw [L_len]; exact h.2.1), lenD_list, List.length_map, addD_int]
  rw [← List.countP_eq_length_filter]; rfl
end T4

-- K4d
namespace T4
open PySem PL BW
/-! all_turns, least_turn, same_round -/
theorem best_max1 (n : Nat) (h : 1 ≤ n) : bestD true [.int 1, .int (n : Nat)] = some (.int (n : Nat)) := by
  show some (PyData.int (if (n : Int) > 1 then (n : Int) else 1)) = _
  by_cases k : (n : Int) > 1
  · rw [if_pos k]
  · rw [if_neg k]; congr 2; omega
theorem c_all_turns (w : Wd) (h : wrd w) : c_all_turns_1 [.im (tx w), .un] = some (.list ((rots w).map tx), [.im (tx w), .un]) := by
  unfold c_all_turns_1 rots
  have hb := big12 h.2.1
  rw [List.map_map]
  refine lcE_map (fun i : Nat => PyData.int i) (tx ∘ fun m => rot m w) (List.range w.length) ?_ rfl (by rw [List.length_range]; exact hb) (fun x hx => ⟨_, rfl, [.im (tx w), .im (.int x)], ?_, rfl⟩) rfl
  · have e : evl [opN (bestD true) [.e (cE (.int 1)), .e (opN lenD [.s 0])]] [.im (tx w), .un] = some ([.int w.length], [.im (tx w), .un]) := by
      simp only [runD, runF, runM, ini, op1, op2, opN, Opd.ev, Opd.fin, evs, fins, vE, cE, evl, lstE, tupE, callE, rd, SD.get, bT, andT, orT, notT, andE, orE, notE, ifE, yesT, seqS, seqFS, asgS, retS, retN, ifS, dropS, nilS, run1, gN, gT, gAll, chainE, sliE, ptE, metE, isT_tx, isT_list, itI, enI, zipI, rngI, parS, evp, setp, setM, setI, ownd, upc, mutK, isL, callM, lent, forS, List.set_cons_zero, List.set_cons_succ, List.getElem?_cons_zero, List.getElem?_cons_succ, Option.bind_some, Option.map_some, Option.bind_none, Option.map_none, cond_true, cond_false, List.map_cons, List.map_nil, List.replicate_succ, List.replicate_zero, List.length_cons, List.length_nil, List.cons_append, List.nil_append, Nat.reduceAdd, Nat.reduceSub, Nat.sub_self, Nat.sub_zero, Nat.add_zero, Nat.zero_add, Nat.reduceLT, Bool.not_true, Bool.not_false, Bool.true_and, Bool.and_true, Bool.false_and, Bool.and_false, if_true, if_false, ite_true, ite_false, decide_true, decide_false, beq_self_eq_true, Bool.false_eq_true, lenD_tx _ hb, best_max1 _ h.1]
    unfold rngI
    rw [e, Option.bind_some]
    simp only []
    rw [rngD_nat _ hb, Option.bind_some]
  · rw [List.mem_range] at hx
    have hx' := Nat.le_of_lt hx
    have h2 : (w.drop x).length + (w.take x).length ≤ big := by rw [List.length_drop, List.length_take]; omega
    simp only [runD, runF, runM, ini, op1, op2, opN, Opd.ev, Opd.fin, evs, fins, vE, cE, evl, lstE, tupE, callE, rd, SD.get, bT, andT, orT, notT, andE, orE, notE, ifE, yesT, seqS, seqFS, asgS, retS, retN, ifS, dropS, nilS, run1, gN, gT, gAll, chainE, sliE, ptE, metE, isT_tx, isT_list, itI, enI, zipI, rngI, parS, evp, setp, setM, setI, ownd, upc, mutK, isL, callM, lent, forS, List.set_cons_zero, List.set_cons_succ, List.getElem?_cons_zero, List.getElem?_cons_succ, Option.bind_some, Option.map_some, Option.bind_none, Option.map_none, cond_true, cond_false, List.map_cons, List.map_nil, List.replicate_succ, List.replicate_zero, List.length_cons, List.length_nil, List.cons_append, List.nil_append, Nat.reduceAdd, Nat.reduceSub, Nat.sub_self, Nat.sub_zero, Nat.add_zero, Nat.zero_add, Nat.reduceLT, Bool.not_true, Bool.not_false, Bool.true_and, Bool.and_true, Bool.false_and, Bool.and_false, if_true, if_false, ite_true, ite_false, decide_true, decide_false, beq_self_eq_true, Bool.false_eq_true, wipeE, slD_from w x hb hx', slD_to w x hb, addD_tx _ _ h2, Function.comp, rot]
theorem all_turns_eq (w : Wd) (h : wrd w) : F_all_turns [tx w] = some (.list ((rots w).map tx)) := by
  unfold F_all_turns W_all_turns
  simp only [runD, runF, runM, ini, op1, op2, opN, Opd.ev, Opd.fin, evs, fins, vE, cE, evl, lstE, tupE, callE, rd, SD.get, bT, andT, orT, notT, andE, orE, notE, ifE, yesT, seqS, seqFS, asgS, retS, retN, ifS, dropS, nilS, run1, gN, gT, gAll, chainE, sliE, ptE, metE, isT_tx, isT_list, itI, enI, zipI, rngI, parS, evp, setp, setM, setI, ownd, upc, mutK, isL, callM, lent, forS, List.set_cons_zero, List.set_cons_succ, List.getElem?_cons_zero, List.getElem?_cons_succ, Option.bind_some, Option.map_some, Option.bind_none, Option.map_none, cond_true, cond_false, List.map_cons, List.map_nil, List.replicate_succ, List.replicate_zero, List.length_cons, List.length_nil, List.cons_append, List.nil_append, Nat.reduceAdd, Nat.reduceSub, Nat.sub_self, Nat.sub_zero, Nat.add_zero, Nat.zero_add, Nat.reduceLT, Bool.not_true, Bool.not_false, Bool.true_and, Bool.and_true, Bool.false_and, Bool.and_false, if_true, if_false, ite_true, ite_false, decide_true, decide_false, beq_self_eq_true, Bool.false_eq_true, c_all_turns w h]
theorem mem_rots_T {w t : Wd} : t ∈ rots w ↔ t ∈ T w := by rw [mem_rots, mem_T]
theorem same_round_eq (w v : Wd) (h : wrd w) (k : wrd v) : F_same_round [tx w, tx v] = some (.bool (decide (v ∈ T w))) := by
  unfold F_same_round W_same_round
  simp only [runD, runF, runM, ini, op1, op2, opN, Opd.ev, Opd.fin, evs, fins, vE, cE, evl, lstE, tupE, callE, rd, SD.get, bT, andT, orT, notT, andE, orE, notE, ifE, yesT, seqS, seqFS, asgS, retS, retN, ifS, dropS, nilS, run1, gN, gT, gAll, chainE, sliE, ptE, metE, isT_tx, isT_list, itI, enI, zipI, rngI, parS, evp, setp, setM, setI, ownd, upc, mutK, isL, callM, lent, forS, List.set_cons_zero, List.set_cons_succ, List.getElem?_cons_zero, List.getElem?_cons_succ, Option.bind_some, Option.map_some, Option.bind_none, Option.map_none, cond_true, cond_false, List.map_cons, List.map_nil, List.replicate_succ, List.replicate_zero, List.length_cons, List.length_nil, List.cons_append, List.nil_append, Nat.reduceAdd, Nat.reduceSub, Nat.sub_self, Nat.sub_zero, Nat.add_zero, Nat.zero_add, Nat.reduceLT, Bool.not_true, Bool.not_false, Bool.true_and, Bool.and_true, Bool.false_and, Bool.and_false, if_true, if_false, ite_true, ite_false, decide_true, decide_false, beq_self_eq_true, Bool.false_eq_true, check_two_eq w v h.2 k.2, all_turns_eq w h, inD_list]
  have : decide (v ∈ rots w) = decide (v ∈ T w) := by
    by_cases z : v ∈ T w
    · rw [decide_eq_true z, decide_eq_true (mem_rots_T.mpr z)]
    · rw [decide_eq_false z, decide_eq_false fun y => z (mem_rots_T.mp y)]
  rw [this]
  cases decide (v ∈ T w) <;> rfl
theorem alkAll_tx (ws : List Wd) : alkAll (ws.map tx) = true := by
  unfold alkAll
  rw [List.all_eq_true]
  intro x hx
  obtain ⟨a, _, rfl⟩ := List.mem_map.mp hx
  rw [Bool.and_eq_true, Bool.and_eq_true, List.all_eq_true]
  refine ⟨⟨rfl, rfl⟩, fun y hy => ?_⟩
  obtain ⟨b, _, rfl⟩ := List.mem_map.mp hy
  simp [tx, PySem.W.alike]
def hd (w : Wd) : Wd := Tat w 0
theorem hd_mem {w : Wd} (h : 1 ≤ w.length) : hd w ∈ T w := List.mem_of_getElem? (Tat_at (show 0 < w.length from h))
theorem hd_le {w t : Wd} (h : t ∈ T w) : hd w ≤ t := by
  have hs := T_sorted w
  unfold hd Tat
  cases e : T w with
  | nil => rw [e] at h; cases h
  | cons x r =>
    rw [e] at h hs
    rw [List.pairwise_cons] at hs
    rcases List.mem_cons.mp h with rfl | h
    · exact BW.le_refl _
    · exact hs.1 t h
theorem least_turn_eq (w : Wd) (h : wrd w) : F_least_turn [tx w] = some (tx (hd w)) := by
  have e : bestD false [.list ((rots w).map tx)] = some (tx (hd w)) := by
    cases e : rots w with
    | nil => have := rots_len w; rw [e] at this; have := h.1; simp at *; omega
    | cons x r =>
      show (if alkAll ((x :: r).map tx) = true then some (PySem.W.minD (tx x) (r.map tx)) else none) = _
      rw [if_pos (alkAll_tx _)]
      obtain ⟨a, h1, h2, h3⟩ := minD_enc tx (fun a b => decide (a < b)) (fun a b => lt_tx a b) (fun a b c p q => by
        rw [decide_eq_false_iff_not] at p q ⊢
        exact List.not_lt.mpr (BW.le_trans (List.not_lt.mp q) (List.not_lt.mp p))) (fun a b p => by
        rw [decide_eq_true_eq] at p
        exact decide_eq_false (List.not_lt.mpr (BW.le_of_lt p))) r x
      rw [h2]
      rw [← e] at h1 h3
      congr 2
      have g := h3 (hd w) (mem_rots_T.mpr (hd_mem h.1))
      rw [decide_eq_false_iff_not] at g
      exact List.le_antisymm (List.not_lt.mp g) (hd_le (mem_rots_T.mp h1))
  unfold F_least_turn W_least_turn
  simp only [runD, runF, runM, ini, op1, op2, opN, Opd.ev, Opd.fin, evs, fins, vE, cE, evl, lstE, tupE, callE, rd, SD.get, bT, andT, orT, notT, andE, orE, notE, ifE, yesT, seqS, seqFS, asgS, retS, retN, ifS, dropS, nilS, run1, gN, gT, gAll, chainE, sliE, ptE, metE, isT_tx, isT_list, itI, enI, zipI, rngI, parS, evp, setp, setM, setI, ownd, upc, mutK, isL, callM, lent, forS, List.set_cons_zero, List.set_cons_succ, List.getElem?_cons_zero, List.getElem?_cons_succ, Option.bind_some, Option.map_some, Option.bind_none, Option.map_none, cond_true, cond_false, List.map_cons, List.map_nil, List.replicate_succ, List.replicate_zero, List.length_cons, List.length_nil, List.cons_append, List.nil_append, Nat.reduceAdd, Nat.reduceSub, Nat.sub_self, Nat.sub_zero, Nat.add_zero, Nat.zero_add, Nat.reduceLT, Bool.not_true, Bool.not_false, Bool.true_and, Bool.and_true, Bool.false_and, Bool.and_false, if_true, if_false, ite_true, ite_false, decide_true, decide_false, beq_self_eq_true, Bool.false_eq_true, check_text_eq w h.2, all_turns_eq w h, e]
/-! the table of edits -/
def Good (a b : Wd) (i j : Nat) (v : Int) : Prop := 0 ≤ v ∧ (v = 0 ↔ a.take i = b.take j)
def RowOk (a b : Wd) (i : Nat) (r : List Int) (m : Nat) : Prop := r.length = m ∧ ∀ j v, r[j]? = some v → Good a b i j v
theorem min3 (x y z : Int) : bestD false [.int x, .int y, .int z] = some (.int (let p := if y < x then y else x; if z < p then z else p)) := rfl
theorem good_step {a b : Wd} {i j : Nat} {x y z : Int} (hi : i < a.length) (hj : j < b.length) (hx : Good a b i (j + 1) x) (hy : Good a b (i + 1) j y) (hz : Good a b i j z) (v : Int) (hv : v = (let p := if y + 1 < x + 1 then y + 1 else x + 1; if z + (if a.getD i 0 = b.getD j 0 then 0 else 1) < p then z + (if a.getD i 0 = b.getD j 0 then 0 else 1) else p)) :
    Good a b (i + 1) (j + 1) v := by
  obtain ⟨x1, x2⟩ := hx
  obtain ⟨y1, y2⟩ := hy
  obtain ⟨z1, z2⟩ := hz
  have ta : a.take (i + 1) = a.take i ++ [a.getD i 0] := by
    rw [List.take_add_one, List.getD_eq_getElem?_getD, List.getElem?_eq_getElem hi]; rfl
  have tb : b.take (j + 1) = b.take j ++ [b.getD j 0] := by
    rw [List.take_add_one, List.getD_eq_getElem?_getD, List.getElem?_eq_getElem hj]; rfl
  unfold Good
  rw [ta, tb]
  have app : a.take i ++ [a.getD i 0] = b.take j ++ [b.getD j 0] ↔ a.take i = b.take j ∧ a.getD i 0 = b.getD j 0 := by
    constructor
    · intro h
      obtain ⟨h1, h2⟩ := List.append_inj' h rfl
      exact ⟨h1, by simpa using h2⟩
    · rintro ⟨h1, h2⟩; rw [h1, h2]
  rw [app, ← z2, hv]
  by_cases e : a.getD i 0 = b.getD j 0
  · simp only [e, if_true, and_true]
    split <;> split <;> constructor <;> omega
  · simp only [e, if_false, and_false]
    refine ⟨by split <;> split <;> omega, ⟨fun q => ?_, fun q => q.elim⟩⟩
    revert q
    split <;> split <;> intro q <;> omega
theorem rd_int (xs : List Int) (j : Nat) : ixD (.list (xs.map PyData.int)) (.int (j : Nat)) = (xs[j]?).map PyData.int := by rw [ixD_list, List.getElem?_map]
def rowD (r : List Int) : D := .list (r.map .int)
theorem intF_ne (p : Bool) : intFD [.bool (!p)] = some (.int (if p = true then 0 else 1)) := by cases p <;> rfl
theorem appM_row (r : List Int) (v : Int) (h : r.length < big) : appM (rowD r) [.int v] = some (.none, rowD (r ++ [v])) := by
  show (if (r.map PyData.int).length < big then some (PyData.none, PyData.list (r.map PyData.int ++ [.int v])) else none) = _
  rw [List.length_map, if_pos h]
  unfold rowD
  rw [List.map_append]; rfl
theorem inner (a b : Wd) (ha : a.length ≤ 12) (hb : b.length ≤ 12) (i : Nat) (hi : i < a.length) (rows : List (List Int)) (prev : List Int) (hp : rows[i]? = some prev) (hprev : RowOk a b i prev (b.length + 1)) (s6 s7 : SD) :
    ∃ row t6 t7, RowOk a b (i + 1) row (b.length + 1) ∧ l_edit_table_1 [.im (tx a), .im (tx b), .mu (.list (rows.map rowD)), .im (.int i), .im (tx [a.getD i 0]), .mu (rowD [((i : Nat) : Int) + 1]), s6, s7] =
      some (.nx [.im (tx a), .im (tx b), .mu (.list (rows.map rowD)), .im (.int i), .im (tx [a.getD i 0]), .mu (rowD row), t6, t7]) := by
  have hbb := big12 hb
  unfold l_edit_table_1 forS
  have src : enI (vE 1) [.im (tx a), .im (tx b), .mu (.list (rows.map rowD)), .im (.int i), .im (tx [a.getD i 0]), .mu (rowD [((i : Nat) : Int) + 1]), s6, s7] = some ((List.range b.length).map (fun j : Nat => pairI j (tx [b.getD j 0])), [.im (tx a), .im (tx b), .mu (.list (rows.map rowD)), .im (.int i), .im (tx [a.getD i 0]), .mu (rowD [((i : Nat) : Int) + 1]), s6, s7]) := by
    simp only [runD, runF, runM, ini, op1, op2, opN, Opd.ev, Opd.fin, evs, fins, vE, cE, evl, lstE, tupE, callE, rd, SD.get, bT, andT, orT, notT, andE, orE, notE, ifE, yesT, seqS, seqFS, asgS, retS, retN, ifS, dropS, nilS, run1, gN, gT, gAll, chainE, sliE, ptE, metE, isT_tx, isT_list, itI, enI, zipI, rngI, parS, evp, setp, setM, setI, ownd, upc, mutK, isL, callM, lent, forS, List.set_cons_zero, List.set_cons_succ, List.getElem?_cons_zero, List.getElem?_cons_succ, Option.bind_some, Option.map_some, Option.bind_none, Option.map_none, cond_true, cond_false, List.map_cons, List.map_nil, List.replicate_succ, List.replicate_zero, List.length_cons, List.length_nil, List.cons_append, List.nil_append, Nat.reduceAdd, Nat.reduceSub, Nat.sub_self, Nat.sub_zero, Nat.add_zero, Nat.zero_add, Nat.reduceLT, Bool.not_true, Bool.not_false, Bool.true_and, Bool.and_true, Bool.false_and, Bool.and_false, if_true, if_false, ite_true, ite_false, decide_true, decide_false, beq_self_eq_true, Bool.false_eq_true, signs_map]
    rw [enumL_map b 0 fun c => tx [c]]
  rw [src, Option.bind_some]
  obtain ⟨ε', h1, h2⟩ := forL_inv (g := gT [gN 6, gN 7]) (body := (dropS (mutK isL appM 5 [(opN (bestD false) [(.e (op2 addD (.e (op2 ixD (.e (op2 ixD (.s 2) (.s 3))) (.e (op2 addD (.s 6) (.e (cE (.int 1))))))) (.e (cE (.int 1))))), (.e (op2 addD (.e (op2 ixD (.s 5) (.s 6))) (.e (cE (.int 1))))), (.e (op2 addD (.e (op2 ixD (.e (op2 ixD (.s 2) (.s 3))) (.s 6))) (.e (opN intFD [(.e (op2 neD (.s 4) (.s 7)))]))))])])))
    (fun k ε => k ≤ b.length ∧ ∃ row t6 t7, RowOk a b (i + 1) row (k + 1) ∧ ε = [.im (tx a), .im (tx b), .mu (.list (rows.map rowD)), .im (.int i), .im (tx [a.getD i 0]), .mu (rowD row), t6, t7])
    ((List.range b.length).map (fun j : Nat => pairI j (tx [b.getD j 0]))) 0 [.im (tx a), .im (tx b), .mu (.list (rows.map rowD)), .im (.int i), .im (tx [a.getD i 0]), .mu (rowD [((i : Nat) : Int) + 1]), s6, s7]
    ⟨Nat.zero_le _, [((i : Nat) : Int) + 1], s6, s7, ⟨rfl, fun j v hv => by
      cases j with
      | zero =>
        have e : v = (i : Int) + 1 := by simpa using hv.symm
        subst e
        refine ⟨by omega, ?_⟩
        constructor
        · intro z; omega
        · intro z
          have := congrArg List.length z
          rw [List.length_take, List.length_take] at this; omega
      | succ j => simp at hv⟩, rfl⟩ (fun j d ε hd hI => by
      rw [Nat.zero_add] at hI
      rw [Nat.zero_add]
      obtain ⟨hk, row, t6, t7, ⟨hr1, hr2⟩, rfl⟩ := hI
      have hj : j < b.length := by
        have := getD_some hd
        rwa [List.length_map, List.length_range] at this
      rw [List.getElem?_map, List.getElem?_range hj] at hd
      cases hd
      obtain ⟨p1, p2⟩ := hprev
      obtain ⟨x, hx⟩ : ∃ x, prev[j + 1]? = some x := ⟨_, List.getElem?_eq_getElem (by omega)⟩
      obtain ⟨z, hz⟩ : ∃ z, prev[j]? = some z := ⟨_, List.getElem?_eq_getElem (by omega)⟩
      obtain ⟨y, hy⟩ : ∃ y, row[j]? = some y := ⟨_, List.getElem?_eq_getElem (by omega)⟩
      have hf : ixD (.list (rows.map rowD)) (.int (i : Nat)) = some (rowD prev) := by rw [ixD_list, List.getElem?_map, hp]; rfl
      have hix : ixD (rowD prev) (.int ((j : Nat) : Int)) = some (.int z) := by unfold rowD; rw [rd_int, hz]; rfl
      have hix1 : ixD (rowD prev) (.int (((j : Nat) : Int) + 1)) = some (.int x) := by
        have := rd_int prev (j + 1)
        rw [hx] at this
        unfold rowD
        exact this
      have hiy : ixD (rowD row) (.int ((j : Nat) : Int)) = some (.int y) := by unfold rowD; rw [rd_int, hy]; rfl
      have hdel : neD (tx [a.getD i 0]) (tx [b.getD j 0]) = some (.bool (!decide (a.getD i 0 = b.getD j 0))) := by
        rw [neD_tx]
        congr 3
        by_cases e : a.getD i 0 = b.getD j 0
        · rw [e]; simp
        · rw [decide_eq_false e, decide_eq_false]; intro q; exact e (by simpa using q)
      refine ⟨_, .nx [.im (tx a), .im (tx b), .mu (.list (rows.map rowD)), .im (.int i), .im (tx [a.getD i 0]), .mu (rowD (row ++ [(let p := if y + 1 < x + 1 then y + 1 else x + 1; if z + (if a.getD i 0 = b.getD j 0 then 0 else 1) < p then z + (if a.getD i 0 = b.getD j 0 then 0 else 1) else p)])), .im (.int j), .im (tx [b.getD j 0])], rfl, ?_, _, .inl rfl, by omega, _, _, _, ⟨by rw [List.length_append, hr1]; rfl, fun jj v hv => ?_⟩, rfl⟩
      · have dd : (if decide (a.getD i 0 = b.getD j 0) = true then (0 : Int) else 1) = if a.getD i 0 = b.getD j 0 then 0 else 1 := by
          by_cases e : a.getD i 0 = b.getD j 0
          · rw [if_pos (decide_eq_true e), if_pos e]
          · rw [if_neg (by simpa using e), if_neg e]
        have isr : isL (rowD row) = true := rfl
        simp only [dropS, mutK, ownd, List.getElem?_cons_zero, List.getElem?_cons_succ, Option.bind_some, isr, if_true]
        simp only [runD, runF, runM, ini, op1, op2, opN, Opd.ev, Opd.fin, evs, fins, vE, cE, evl, lstE, tupE, callE, rd, SD.get, bT, andT, orT, notT, andE, orE, notE, ifE, yesT, seqS, seqFS, asgS, retS, retN, ifS, dropS, nilS, run1, gN, gT, gAll, chainE, sliE, ptE, metE, isT_tx, isT_list, itI, enI, zipI, rngI, parS, evp, setp, setM, setI, ownd, upc, mutK, isL, callM, lent, forS, List.set_cons_zero, List.set_cons_succ, List.getElem?_cons_zero, List.getElem?_cons_succ, Option.bind_some, Option.map_some, Option.bind_none, Option.map_none, cond_true, cond_false, List.map_cons, List.map_nil, List.replicate_succ, List.replicate_zero, List.length_cons, List.length_nil, List.cons_append, List.nil_append, Nat.reduceAdd, Nat.reduceSub, Nat.sub_self, Nat.sub_zero, Nat.add_zero, Nat.zero_add, Nat.reduceLT, Bool.not_true, Bool.not_false, Bool.true_and, Bool.and_true, Bool.false_and, Bool.and_false, if_true, if_false, ite_true, ite_false, decide_true, decide_false, beq_self_eq_true, Bool.false_eq_true, hf, hix, hix1, hiy, addD_int, hdel, intF_ne, min3, dd]
        rw [appM_row _ _ (by rw [hr1]; have : b.length + 1 ≤ big := by unfold big; omega
                             omega)]
        rfl
      · by_cases q : jj < row.length
        · rw [List.getElem?_append_left q] at hv
          exact hr2 jj v hv
        · have hjj : jj = j + 1 := by
            have := getD_some hv
            rw [List.length_append, List.length_singleton] at this; omega
          subst hjj
          rw [List.getElem?_append_right (by omega), hr1, Nat.sub_self] at hv
          exact good_step hi hj (p2 _ _ hx) (hr2 _ _ hy) (p2 _ _ hz) v (Option.some.inj (show some _ = some v from hv)).symm)
  obtain ⟨hk, row, t6, t7, hrow, rfl⟩ := h2
  rw [Nat.zero_add, List.length_map, List.length_range] at hrow
  exact ⟨row, t6, t7, hrow, h1⟩

theorem appM_rows (rows : List (List Int)) (r : List Int) (h : rows.length < big) : appM (.list (rows.map rowD)) [rowD r] = some (.none, .list ((rows ++ [r]).map rowD)) := by
  show (if (rows.map rowD).length < big then some (PyData.none, PyData.list (rows.map rowD ++ [rowD r])) else none) = _
  rw [List.length_map, if_pos h, List.map_append]; rfl
theorem lrg_row (n : Nat) (ε : En) (f : WE) (h : f ε = some (.int ((n : Nat) + 1 : Int), ε)) (hn : n ≤ 12) : lrgE [f] ε = some (rowD ((List.range (n + 1)).map fun j : Nat => (j : Int)), ε) := by
  have e : evl [f] ε = some ([.int ((n : Nat) + 1 : Int)], ε) := by simp only [evl, h, Option.bind_some]
  unfold lrgE
  rw [e, Option.bind_some]
  show (if (okI ((n : Nat) + 1 : Int) && decide (((n : Nat) + 1 : Int) ≤ 1000000)) = true then some (PyData.list (intsL 0 1 ((n : Nat) + 1 : Int).toNat), ε) else none) = _
  have e2 : ((n : Nat) + 1 : Int).toNat = n + 1 := by omega
  rw [if_pos (by unfold okI; rw [Bool.and_eq_true, Bool.and_eq_true, decide_eq_true_eq, decide_eq_true_eq, decide_eq_true_eq]; omega), e2, intsL_nat]
  unfold rowD
  rw [List.map_map]; rfl
theorem outer (a b : Wd) (ha : a.length ≤ 12) (hb : b.length ≤ 12) : ∃ (rows : List (List Int)) (ε' : En), l_edit_table_2 [.im (tx a), .im (tx b), .mu (.list ([(List.range (b.length + 1)).map fun j : Nat => (j : Int)].map rowD)), .un, .un, .un, .un, .un] = some (.nx ε') ∧
    (∃ t3 t4 t5 t6 t7, ε' = [.im (tx a), .im (tx b), .mu (.list (rows.map rowD)), t3, t4, t5, t6, t7]) ∧ rows.length = a.length + 1 ∧ ∀ i r, rows[i]? = some r → RowOk a b i r (b.length + 1) := by
  unfold l_edit_table_2 forS
  have src : enI (vE 0) [.im (tx a), .im (tx b), .mu (.list ([(List.range (b.length + 1)).map fun j : Nat => (j : Int)].map rowD)), .un, .un, .un, .un, .un] = some ((List.range a.length).map (fun j : Nat => pairI j (tx [a.getD j 0])), [.im (tx a), .im (tx b), .mu (.list ([(List.range (b.length + 1)).map fun j : Nat => (j : Int)].map rowD)), .un, .un, .un, .un, .un]) := by
    simp only [runD, runF, runM, ini, op1, op2, opN, Opd.ev, Opd.fin, evs, fins, vE, cE, evl, lstE, tupE, callE, rd, SD.get, bT, andT, orT, notT, andE, orE, notE, ifE, yesT, seqS, seqFS, asgS, retS, retN, ifS, dropS, nilS, run1, gN, gT, gAll, chainE, sliE, ptE, metE, isT_tx, isT_list, itI, enI, zipI, rngI, parS, evp, setp, setM, setI, ownd, upc, mutK, isL, callM, lent, forS, List.set_cons_zero, List.set_cons_succ, List.getElem?_cons_zero, List.getElem?_cons_succ, Option.bind_some, Option.map_some, Option.bind_none, Option.map_none, cond_true, cond_false, List.map_cons, List.map_nil, List.replicate_succ, List.replicate_zero, List.length_cons, List.length_nil, List.cons_append, List.nil_append, Nat.reduceAdd, Nat.reduceSub, Nat.sub_self, Nat.sub_zero, Nat.add_zero, Nat.zero_add, Nat.reduceLT, Bool.not_true, Bool.not_false, Bool.true_and, Bool.and_true, Bool.false_and, Bool.and_false, if_true, if_false, ite_true, ite_false, decide_true, decide_false, beq_self_eq_true, Bool.false_eq_true, signs_map]
    rw [enumL_map a 0 fun c => tx [c]]
  rw [src, Option.bind_some]
  obtain ⟨ε', h1, h2⟩ := forL_inv (g := gT [gN 3, gN 4]) (body := (seqS (setM 5 (lstE [(op2 addD (.s 3) (.e (cE (.int 1))))])) (seqS l_edit_table_1 (dropS (mutK isL appM 2 [(vE 5)])))))
    (fun k ε => k ≤ a.length ∧ ∃ (rows : List (List Int)) (t3 t4 t5 t6 t7 : SD), rows.length = k + 1 ∧ (∀ i r, rows[i]? = some r → RowOk a b i r (b.length + 1)) ∧ ε = [.im (tx a), .im (tx b), .mu (.list (rows.map rowD)), t3, t4, t5, t6, t7])
    ((List.range a.length).map (fun j : Nat => pairI j (tx [a.getD j 0]))) 0 [.im (tx a), .im (tx b), .mu (.list ([(List.range (b.length + 1)).map fun j : Nat => (j : Int)].map rowD)), .un, .un, .un, .un, .un]
    ⟨Nat.zero_le _, _, _, _, _, _, _, rfl, fun i r hr => by
      cases i with
      | succ i => simp at hr
      | zero =>
        have e : r = (List.range (b.length + 1)).map fun j : Nat => (j : Int) := by simpa using hr.symm
        subst e
        refine ⟨by rw [List.length_map, List.length_range], fun j v hv => ?_⟩
        have hj : j < b.length + 1 := by
          have := getD_some hv
          rwa [List.length_map, List.length_range] at this
        rw [List.getElem?_map, List.getElem?_range hj] at hv
        have e : v = (j : Int) := (Option.some.inj hv).symm
        subst e
        refine ⟨by omega, ?_⟩
        constructor
        · intro z
          have : j = 0 := by omega
          subst this
          rw [List.take_zero, List.take_zero]
        · intro z
          have := congrArg List.length z
          rw [List.length_take, List.length_take] at this
          omega, rfl⟩ (fun i d ε hd hI => by
      rw [Nat.zero_add] at hI
      rw [Nat.zero_add]
      obtain ⟨hk, rows, t3, t4, t5, t6, t7, hl, hR, rfl⟩ := hI
      have hi : i < a.length := by
        have := getD_some hd
        rwa [List.length_map, List.length_range] at this
      rw [List.getElem?_map, List.getElem?_range hi] at hd
      cases hd
      obtain ⟨prev, hp⟩ : ∃ prev, rows[i]? = some prev := ⟨_, List.getElem?_eq_getElem (by omega)⟩
      obtain ⟨row, u6, u7, hrow, e⟩ := inner a b ha hb i hi rows prev hp (hR i prev hp) t6 t7
      refine ⟨[.im (tx a), .im (tx b), .mu (.list (rows.map rowD)), .im (.int i), .im (tx [a.getD i 0]), t5, t6, t7], .nx [.im (tx a), .im (tx b), .mu (.list ((rows ++ [row]).map rowD)), .im (.int i), .im (tx [a.getD i 0]), .im (rowD row), u6, u7], rfl, ?_, _, .inl rfl, by omega, rows ++ [row], _, _, _, _, _, by rw [List.length_append, hl]; rfl, fun ii r hr => ?_, rfl⟩
      · have e1 : (setM 5 (lstE [(op2 addD (.s 3) (.e (cE (.int 1))))])) [.im (tx a), .im (tx b), .mu (.list (rows.map rowD)), .im (.int i), .im (tx [a.getD i 0]), t5, t6, t7] = some (.nx [.im (tx a), .im (tx b), .mu (.list (rows.map rowD)), .im (.int i), .im (tx [a.getD i 0]), .mu (rowD [((i : Nat) : Int) + 1]), t6, t7]) := by
          simp only [runD, runF, runM, ini, op1, op2, opN, Opd.ev, Opd.fin, evs, fins, vE, cE, evl, lstE, tupE, callE, rd, SD.get, bT, andT, orT, notT, andE, orE, notE, ifE, yesT, seqS, seqFS, asgS, retS, retN, ifS, dropS, nilS, run1, gN, gT, gAll, chainE, sliE, ptE, metE, isT_tx, isT_list, itI, enI, zipI, rngI, parS, evp, setp, setM, setI, ownd, upc, mutK, isL, callM, lent, forS, List.set_cons_zero, List.set_cons_succ, List.getElem?_cons_zero, List.getElem?_cons_succ, Option.bind_some, Option.map_some, Option.bind_none, Option.map_none, cond_true, cond_false, List.map_cons, List.map_nil, List.replicate_succ, List.replicate_zero, List.length_cons, List.length_nil, List.cons_append, List.nil_append, Nat.reduceAdd, Nat.reduceSub, Nat.sub_self, Nat.sub_zero, Nat.add_zero, Nat.zero_add, Nat.reduceLT, Bool.not_true, Bool.not_false, Bool.true_and, Bool.and_true, Bool.false_and, Bool.and_false, if_true, if_false, ite_true, ite_false, decide_true, decide_false, beq_self_eq_true, Bool.false_eq_true, addD_int]
          rfl
        have isr : isL (.list (rows.map rowD)) = true := rfl
        have ap := appM_rows rows row (by rw [hl]; unfold big; omega)
        simp only [seqS, e1, Option.bind_some, run1, e]
        simp only [dropS, mutK, ownd, evl, vE, List.set_cons_zero, List.set_cons_succ, List.getElem?_cons_zero, List.getElem?_cons_succ, Option.bind_some, isr, if_true, ap, upc]
      · by_cases q : ii < rows.length
        · rw [List.getElem?_append_left q] at hr
          exact hR ii r hr
        · have hii : ii = i + 1 := by
            have := getD_some hr
            rw [List.length_append, List.length_singleton] at this; omega
          subst hii
          rw [List.getElem?_append_right (by omega), hl, Nat.sub_self] at hr
          have er : row = r := Option.some.inj (show some _ = some r from hr)
          subst er
          exact hrow)
  obtain ⟨hk, rows, t3, t4, t5, t6, t7, hl, hR, rfl⟩ := h2
  rw [Nat.zero_add, List.length_map, List.length_range] at hl
  exact ⟨rows, _, h1, ⟨_, _, _, _, _, rfl⟩, hl, hR⟩
theorem raw_fewest_ex (a b : Wd) (ha : a.length ≤ 12) (hb : b.length ≤ 12) : ∃ v : Int, F_raw_fewest [tx a, tx b] = some (.int v) ∧ 0 ≤ v ∧ (v = 0 ↔ a = b) := by
  obtain ⟨rows, ε', h1, ⟨t3, t4, t5, t6, t7, rfl⟩, hl, hR⟩ := outer a b ha hb
  have hrow := lrg_row b.length [.im (tx a), .im (tx b), .un, .un, .un, .un, .un, .un] (op2 addD (.e (opN lenD [.s 1])) (.e (cE (.int 1)))) (by simp only [runD, runF, runM, ini, op1, op2, opN, Opd.ev, Opd.fin, evs, fins, vE, cE, evl, lstE, tupE, callE, rd, SD.get, bT, andT, orT, notT, andE, orE, notE, ifE, yesT, seqS, seqFS, asgS, retS, retN, ifS, dropS, nilS, run1, gN, gT, gAll, chainE, sliE, ptE, metE, isT_tx, isT_list, itI, enI, zipI, rngI, parS, evp, setp, setM, setI, ownd, upc, mutK, isL, callM, lent, forS, List.set_cons_zero, List.set_cons_succ, List.getElem?_cons_zero, List.getElem?_cons_succ, Option.bind_some, Option.map_some, Option.bind_none, Option.map_none, cond_true, cond_false, List.map_cons, List.map_nil, List.replicate_succ, List.replicate_zero, List.length_cons, List.length_nil, List.cons_append, List.nil_append, Nat.reduceAdd, Nat.reduceSub, Nat.sub_self, Nat.sub_zero, Nat.add_zero, Nat.zero_add, Nat.reduceLT, Bool.not_true, Bool.not_false, Bool.true_and, Bool.and_true, Bool.false_and, Bool.and_false, if_true, if_false, ite_true, ite_false, decide_true, decide_false, beq_self_eq_true, Bool.false_eq_true, lenD_tx _ (big12 hb), addD_int]) hb
  have hT : F_edit_table [tx a, tx b] = some (.list (rows.map rowD)) := by
    have s1 : (setM 2 (lstE [(lrgE [(op2 addD (.e (opN lenD [(.s 1)])) (.e (cE (.int 1))))])])) [.im (tx a), .im (tx b), .un, .un, .un, .un, .un, .un] = some (.nx [.im (tx a), .im (tx b), .mu (.list ([(List.range (b.length + 1)).map fun j : Nat => (j : Int)].map rowD)), .un, .un, .un, .un, .un]) := by
      simp only [setM, lstE, evl, hrow, Option.bind_some]
      rfl
    unfold F_edit_table W_edit_table runD
    have i0 : ini 8 [tx a, tx b] = [.im (tx a), .im (tx b), .un, .un, .un, .un, .un, .un] := rfl
    rw [i0]
    simp only [seqS, s1, Option.bind_some, run1, h1, retS, vE, List.getElem?_cons_zero, List.getElem?_cons_succ]
  obtain ⟨r, hr⟩ : ∃ r, rows[a.length]? = some r := ⟨_, List.getElem?_eq_getElem (by omega)⟩
  obtain ⟨q1, q2⟩ := hR _ _ hr
  obtain ⟨v, hv⟩ : ∃ v, r[b.length]? = some v := ⟨_, List.getElem?_eq_getElem (by omega)⟩
  obtain ⟨g1, g2⟩ := q2 _ _ hv
  rw [List.take_length, List.take_length] at g2
  refine ⟨v, ?_, g1, g2⟩
  have x1 : ixD (.list (rows.map rowD)) (.int (a.length : Nat)) = some (rowD r) := by rw [ixD_list, List.getElem?_map, hr]; rfl
  have x2 : ixD (rowD r) (.int (b.length : Nat)) = some (.int v) := by unfold rowD; rw [rd_int, hv]; rfl
  unfold F_raw_fewest W_raw_fewest
  simp only [runD, runF, runM, ini, op1, op2, opN, Opd.ev, Opd.fin, evs, fins, vE, cE, evl, lstE, tupE, callE, rd, SD.get, bT, andT, orT, notT, andE, orE, notE, ifE, yesT, seqS, seqFS, asgS, retS, retN, ifS, dropS, nilS, run1, gN, gT, gAll, chainE, sliE, ptE, metE, isT_tx, isT_list, itI, enI, zipI, rngI, parS, evp, setp, setM, setI, ownd, upc, mutK, isL, callM, lent, forS, List.set_cons_zero, List.set_cons_succ, List.getElem?_cons_zero, List.getElem?_cons_succ, Option.bind_some, Option.map_some, Option.bind_none, Option.map_none, cond_true, cond_false, List.map_cons, List.map_nil, List.replicate_succ, List.replicate_zero, List.length_cons, List.length_nil, List.cons_append, List.nil_append, Nat.reduceAdd, Nat.reduceSub, Nat.sub_self, Nat.sub_zero, Nat.add_zero, Nat.zero_add, Nat.reduceLT, Bool.not_true, Bool.not_false, Bool.true_and, Bool.and_true, Bool.false_and, Bool.and_false, if_true, if_false, ite_true, ite_false, decide_true, decide_false, beq_self_eq_true, Bool.false_eq_true, hT, lenD_tx _ (big12 ha), lenD_tx _ (big12 hb), x1, x2]
end T4

-- K4e
namespace T4
open PySem PL BW
def few (a b : Wd) : Int := match F_raw_fewest [tx a, tx b] with
  | some (.int v) => v
  | _ => 0
theorem few_eq (a b : Wd) (ha : a.length ≤ 12) (hb : b.length ≤ 12) : F_raw_fewest [tx a, tx b] = some (.int (few a b)) ∧ 0 ≤ few a b ∧ (few a b = 0 ↔ a = b) := by
  obtain ⟨v, h1, h2, h3⟩ := raw_fewest_ex a b ha hb
  have e : few a b = v := by unfold few; rw [h1]
  rw [e]
  exact ⟨h1, h2, h3⟩
def prF (w v : Wd) (m : Nat) : D := .tuple [.int (few (rot m w) v), .int (m : Nat)]
theorem c_turned_fewest (w v : Wd) (h : wrd w) (k : wrd v) : c_turned_fewest_1 [.im (tx w), .im (tx v), .un, .un] = some (.list ((List.range w.length).map (prF w v)), [.im (tx w), .im (tx v), .un, .un]) := by
  unfold c_turned_fewest_1
  have hlen : (rots w).length = w.length := rots_len w
  have hg : ∀ x, x < w.length → (rots w).getD x [] = rot x w := fun x hx => by
    unfold rots
    rw [List.getD_eq_getElem?_getD, List.getElem?_map, List.getElem?_range hx]; rfl
  refine lcE_map (fun i : Nat => pairI i (tx ((rots w).getD i []))) (prF w v) (List.range w.length) ?_ rfl (by rw [List.length_range]; exact big12 h.2.1) (fun x hx => ⟨[.im (tx w), .im (tx v), .im (.int x), .im (tx ((rots w).getD x []))], rfl, [.im (tx w), .im (tx v), .im (.int x), .im (tx ((rots w).getD x []))], ?_, rfl⟩) rfl
  · simp only [runD, runF, runM, ini, op1, op2, opN, Opd.ev, Opd.fin, evs, fins, vE, cE, evl, lstE, tupE, callE, rd, SD.get, bT, andT, orT, notT, andE, orE, notE, ifE, yesT, seqS, seqFS, asgS, retS, retN, ifS, dropS, nilS, run1, gN, gT, gAll, chainE, sliE, ptE, metE, isT_tx, isT_list, itI, enI, zipI, rngI, parS, evp, setp, setM, setI, ownd, upc, mutK, isL, callM, lent, forS, List.set_cons_zero, List.set_cons_succ, List.getElem?_cons_zero, List.getElem?_cons_succ, Option.bind_some, Option.map_some, Option.bind_none, Option.map_none, cond_true, cond_false, List.map_cons, List.map_nil, List.replicate_succ, List.replicate_zero, List.length_cons, List.length_nil, List.cons_append, List.nil_append, Nat.reduceAdd, Nat.reduceSub, Nat.sub_self, Nat.sub_zero, Nat.add_zero, Nat.zero_add, Nat.reduceLT, Bool.not_true, Bool.not_false, Bool.true_and, Bool.and_true, Bool.false_and, Bool.and_false, if_true, if_false, ite_true, ite_false, decide_true, decide_false, beq_self_eq_true, Bool.false_eq_true, all_turns_eq w h, seqD]
    rw [enumL_map (rots w) [] tx, hlen]
  · rw [List.mem_range] at hx
    rw [hg x hx]
    have := (few_eq (rot x w) v (by rw [rot_len (Nat.le_of_lt hx)]; exact h.2.1) k.2.1).1
    simp only [runD, runF, runM, ini, op1, op2, opN, Opd.ev, Opd.fin, evs, fins, vE, cE, evl, lstE, tupE, callE, rd, SD.get, bT, andT, orT, notT, andE, orE, notE, ifE, yesT, seqS, seqFS, asgS, retS, retN, ifS, dropS, nilS, run1, gN, gT, gAll, chainE, sliE, ptE, metE, isT_tx, isT_list, itI, enI, zipI, rngI, parS, evp, setp, setM, setI, ownd, upc, mutK, isL, callM, lent, forS, List.set_cons_zero, List.set_cons_succ, List.getElem?_cons_zero, List.getElem?_cons_succ, Option.bind_some, Option.map_some, Option.bind_none, Option.map_none, cond_true, cond_false, List.map_cons, List.map_nil, List.replicate_succ, List.replicate_zero, List.length_cons, List.length_nil, List.cons_append, List.nil_append, Nat.reduceAdd, Nat.reduceSub, Nat.sub_self, Nat.sub_zero, Nat.add_zero, Nat.zero_add, Nat.reduceLT, Bool.not_true, Bool.not_false, Bool.true_and, Bool.and_true, Bool.false_and, Bool.and_false, if_true, if_false, ite_true, ite_false, decide_true, decide_false, beq_self_eq_true, Bool.false_eq_true, this, prF]
theorem turned_fewest_ex (w v : Wd) (h : wrd w) (k : wrd v) : ∃ (x m : Int), F_turned_fewest [tx w, tx v] = some (.tuple [.int x, .int m]) ∧ (x = 0 ↔ v ∈ T w) := by
  have key : ∃ m, m < w.length ∧ bestD false [.list ((List.range w.length).map (prF w v))] = some (prF w v m) ∧ ∀ j, j < w.length → few (rot m w) v ≤ few (rot j w) v := by
    obtain ⟨r, er⟩ : ∃ r, List.range w.length = 0 :: r := by
      have h1 := h.1
      cases e : List.range w.length with
      | nil => have := congrArg List.length e; rw [List.length_range] at this; rw [List.length_nil] at this; omega
      | cons x r =>
        have : (List.range w.length)[0]? = some x := by rw [e]; rfl
        rw [List.getElem?_range (by omega)] at this
        cases this; exact ⟨r, rfl⟩
    have hal : alkAll ((List.range w.length).map (prF w v)) = true := by
      unfold alkAll
      rw [List.all_eq_true]
      intro x hx
      obtain ⟨a, _, rfl⟩ := List.mem_map.mp hx
      rw [Bool.and_eq_true, Bool.and_eq_true, List.all_eq_true]
      refine ⟨⟨rfl, rfl⟩, fun y hy => ?_⟩
      obtain ⟨b, _, rfl⟩ := List.mem_map.mp hy
      simp [prF, PySem.W.alike, PySem.W.alikeAll]
    obtain ⟨a, h1, h2, h3⟩ := minD_enc (prF w v) (fun a b => decide (few (rot a w) v < few (rot b w) v ∨ (few (rot a w) v = few (rot b w) v ∧ (a : Int) < b))) (fun a b => PySem.W.dataLt_ii _ _ _ _) (fun a b c p q => by
      rw [decide_eq_false_iff_not] at p q ⊢
      omega) (fun a b p => by
      rw [decide_eq_true_eq] at p
      rw [decide_eq_false_iff_not]
      omega) r 0
    rw [← er] at h1 h3
    refine ⟨a, List.mem_range.mp h1, ?_, fun j hj => ?_⟩
    · rw [er] at hal ⊢
      show (if alkAll ((0 :: r).map (prF w v)) = true then some (PySem.W.minD (prF w v 0) (r.map (prF w v))) else none) = _
      rw [if_pos hal, h2]
    · have := h3 j (List.mem_range.mpr hj)
      rw [decide_eq_false_iff_not] at this
      omega
  obtain ⟨m, hm, e, hmin⟩ := key
  have lr : ∀ j, j < w.length → (rot j w).length ≤ 12 := fun j hj => by rw [rot_len (Nat.le_of_lt hj)]; exact h.2.1
  refine ⟨few (rot m w) v, m, ?_, ?_⟩
  · unfold F_turned_fewest W_turned_fewest
    simp only [runD, runF, runM, ini, op1, op2, opN, Opd.ev, Opd.fin, evs, fins, vE, cE, evl, lstE, tupE, callE, rd, SD.get, bT, andT, orT, notT, andE, orE, notE, ifE, yesT, seqS, seqFS, asgS, retS, retN, ifS, dropS, nilS, run1, gN, gT, gAll, chainE, sliE, ptE, metE, isT_tx, isT_list, itI, enI, zipI, rngI, parS, evp, setp, setM, setI, ownd, upc, mutK, isL, callM, lent, forS, List.set_cons_zero, List.set_cons_succ, List.getElem?_cons_zero, List.getElem?_cons_succ, Option.bind_some, Option.map_some, Option.bind_none, Option.map_none, cond_true, cond_false, List.map_cons, List.map_nil, List.replicate_succ, List.replicate_zero, List.length_cons, List.length_nil, List.cons_append, List.nil_append, Nat.reduceAdd, Nat.reduceSub, Nat.sub_self, Nat.sub_zero, Nat.add_zero, Nat.zero_add, Nat.reduceLT, Bool.not_true, Bool.not_false, Bool.true_and, Bool.and_true, Bool.false_and, Bool.and_false, if_true, if_false, ite_true, ite_false, decide_true, decide_false, beq_self_eq_true, Bool.false_eq_true, check_two_eq w v h.2 k.2, c_turned_fewest w v h k, e, prF]
  · obtain ⟨_, p1, p2⟩ := few_eq (rot m w) v (lr m hm) k.2.1
    constructor
    · intro z
      rw [← p2.mp z]
      exact mem_T.mpr ⟨m, hm, rfl⟩
    · intro z
      obtain ⟨j, hj, ej⟩ := mem_T.mp z
      have := hmin j hj
      have q := ((few_eq (rot j w) v (lr j hj) k.2.1).2.2).mpr ej
      omega
/-! the law's own -/
def turnsL (w : Wd) : D := .list ((T w).map tx)
theorem c_law_turns (w : Wd) (hw : w.length ≤ 12) : c__law_turns_1 [.im (tx w), .un] = some (.list ((rots w).map tx), [.im (tx w), .un]) := by
  unfold c__law_turns_1 rots
  have hb := big12 hw
  rw [List.map_map]
  refine lcE_map (fun i : Nat => PyData.int i) (tx ∘ fun m => rot m w) (List.range w.length) (rng_len rfl hb) rfl (by rw [List.length_range]; exact hb) (fun x hx => ⟨_, rfl, [.im (tx w), .im (.int x)], ?_, rfl⟩) rfl
  rw [List.mem_range] at hx
  have hx' := Nat.le_of_lt hx
  have h2 : (w.drop x).length + (w.take x).length ≤ big := by rw [List.length_drop, List.length_take]; omega
  simp only [runD, runF, runM, ini, op1, op2, opN, Opd.ev, Opd.fin, evs, fins, vE, cE, evl, lstE, tupE, callE, rd, SD.get, bT, andT, orT, notT, andE, orE, notE, ifE, yesT, seqS, seqFS, asgS, retS, retN, ifS, dropS, nilS, run1, gN, gT, gAll, chainE, sliE, ptE, metE, isT_tx, isT_list, itI, enI, zipI, rngI, parS, evp, setp, setM, setI, ownd, upc, mutK, isL, callM, lent, forS, List.set_cons_zero, List.set_cons_succ, List.getElem?_cons_zero, List.getElem?_cons_succ, Option.bind_some, Option.map_some, Option.bind_none, Option.map_none, cond_true, cond_false, List.map_cons, List.map_nil, List.replicate_succ, List.replicate_zero, List.length_cons, List.length_nil, List.cons_append, List.nil_append, Nat.reduceAdd, Nat.reduceSub, Nat.sub_self, Nat.sub_zero, Nat.add_zero, Nat.zero_add, Nat.reduceLT, Bool.not_true, Bool.not_false, Bool.true_and, Bool.and_true, Bool.false_and, Bool.and_false, if_true, if_false, ite_true, ite_false, decide_true, decide_false, beq_self_eq_true, Bool.false_eq_true, wipeE, slD_from w x hb hx', slD_to w x hb, addD_tx _ _ h2, Function.comp, rot]
theorem law_turns_eq (w : Wd) (hw : w.length ≤ 12) : F__law_turns [tx w] = some (turnsL w) := by
  have e : sortD [.list ((rots w).map tx)] = some (turnsL w) := sortD_tx (rots w) (by rw [rots_len]; exact big12 hw)
  unfold F__law_turns W__law_turns
  simp only [runD, runF, runM, ini, op1, op2, opN, Opd.ev, Opd.fin, evs, fins, vE, cE, evl, lstE, tupE, callE, rd, SD.get, bT, andT, orT, notT, andE, orE, notE, ifE, yesT, seqS, seqFS, asgS, retS, retN, ifS, dropS, nilS, run1, gN, gT, gAll, chainE, sliE, ptE, metE, isT_tx, isT_list, itI, enI, zipI, rngI, parS, evp, setp, setM, setI, ownd, upc, mutK, isL, callM, lent, forS, List.set_cons_zero, List.set_cons_succ, List.getElem?_cons_zero, List.getElem?_cons_succ, Option.bind_some, Option.map_some, Option.bind_none, Option.map_none, cond_true, cond_false, List.map_cons, List.map_nil, List.replicate_succ, List.replicate_zero, List.length_cons, List.length_nil, List.cons_append, List.nil_append, Nat.reduceAdd, Nat.reduceSub, Nat.sub_self, Nat.sub_zero, Nat.add_zero, Nat.zero_add, Nat.reduceLT, Bool.not_true, Bool.not_false, Bool.true_and, Bool.and_true, Bool.false_and, Bool.and_false, if_true, if_false, ite_true, ite_false, decide_true, decide_false, beq_self_eq_true, Bool.false_eq_true, c_law_turns w hw, e]
theorem c_law_last (w : Wd) (h : wrd w) : c__law_last_1 [.im (tx w), .un] = some (.list (((T w).map fun t => [lst t]).map tx), [.im (tx w), .un]) := by
  unfold c__law_last_1
  rw [List.map_map]
  refine lcE_map tx (tx ∘ fun t => [lst t]) (T w) ?_ rfl (by rw [T_len]; exact big12 h.2.1) (fun x hx => ⟨_, rfl, [.im (tx w), .im (tx x)], ?_, rfl⟩) rfl
  · simp only [runD, runF, runM, ini, op1, op2, opN, Opd.ev, Opd.fin, evs, fins, vE, cE, evl, lstE, tupE, callE, rd, SD.get, bT, andT, orT, notT, andE, orE, notE, ifE, yesT, seqS, seqFS, asgS, retS, retN, ifS, dropS, nilS, run1, gN, gT, gAll, chainE, sliE, ptE, metE, isT_tx, isT_list, itI, enI, zipI, rngI, parS, evp, setp, setM, setI, ownd, upc, mutK, isL, callM, lent, forS, List.set_cons_zero, List.set_cons_succ, List.getElem?_cons_zero, List.getElem?_cons_succ, Option.bind_some, Option.map_some, Option.bind_none, Option.map_none, cond_true, cond_false, List.map_cons, List.map_nil, List.replicate_succ, List.replicate_zero, List.length_cons, List.length_nil, List.cons_append, List.nil_append, Nat.reduceAdd, Nat.reduceSub, Nat.sub_self, Nat.sub_zero, Nat.add_zero, Nat.zero_add, Nat.reduceLT, Bool.not_true, Bool.not_false, Bool.true_and, Bool.and_true, Bool.false_and, Bool.and_false, if_true, if_false, ite_true, ite_false, decide_true, decide_false, beq_self_eq_true, Bool.false_eq_true, law_turns_eq w h.2.1, turnsL, seqD]
  · obtain ⟨m, hm, rfl⟩ := mem_T.mp hx
    have hl : (rot m w).length ≤ big := by rw [rot_len (Nat.le_of_lt hm)]; exact big12 h.2.1
    simp only [runD, runF, runM, ini, op1, op2, opN, Opd.ev, Opd.fin, evs, fins, vE, cE, evl, lstE, tupE, callE, rd, SD.get, bT, andT, orT, notT, andE, orE, notE, ifE, yesT, seqS, seqFS, asgS, retS, retN, ifS, dropS, nilS, run1, gN, gT, gAll, chainE, sliE, ptE, metE, isT_tx, isT_list, itI, enI, zipI, rngI, parS, evp, setp, setM, setI, ownd, upc, mutK, isL, callM, lent, forS, List.set_cons_zero, List.set_cons_succ, List.getElem?_cons_zero, List.getElem?_cons_succ, Option.bind_some, Option.map_some, Option.bind_none, Option.map_none, cond_true, cond_false, List.map_cons, List.map_nil, List.replicate_succ, List.replicate_zero, List.length_cons, List.length_nil, List.cons_append, List.nil_append, Nat.reduceAdd, Nat.reduceSub, Nat.sub_self, Nat.sub_zero, Nat.add_zero, Nat.zero_add, Nat.reduceLT, Bool.not_true, Bool.not_false, Bool.true_and, Bool.and_true, Bool.false_and, Bool.and_false, if_true, if_false, ite_true, ite_false, decide_true, decide_false, beq_self_eq_true, Bool.false_eq_true, wipeE, negD, Int.reduceNeg, ixD_txL _ hl, last_rot hm, Function.comp]
theorem law_last_eq (w : Wd) (h : wrd w) : F__law_last [tx w] = some (tx (L w)) := by
  have e : ((T w).map fun t => [lst t]).flatten = L w := by
    unfold L
    generalize T w = l
    induction l with
    | nil => rfl
    | cons x l ih => rw [List.map_cons, List.flatten_cons, ih]; rfl
  have hs : (((T w).map fun t => [lst t]).map List.length).sum ≤ big := by
    rw [← List.length_flatten, e, L_len]; exact big12 h.2.1
  unfold F__law_last W__law_last
  simp only [runD, runF, runM, ini, op1, op2, opN, Opd.ev, Opd.fin, evs, fins, vE, cE, evl, lstE, tupE, callE, rd, SD.get, bT, andT, orT, notT, andE, orE, notE, ifE, yesT, seqS, seqFS, asgS, retS, retN, ifS, dropS, nilS, run1, gN, gT, gAll, chainE, sliE, ptE, metE, isT_tx, isT_list, itI, enI, zipI, rngI, parS, evp, setp, setM, setI, ownd, upc, mutK, isL, callM, lent, forS, List.set_cons_zero, List.set_cons_succ, List.getElem?_cons_zero, List.getElem?_cons_succ, Option.bind_some, Option.map_some, Option.bind_none, Option.map_none, cond_true, cond_false, List.map_cons, List.map_nil, List.replicate_succ, List.replicate_zero, List.length_cons, List.length_nil, List.cons_append, List.nil_append, Nat.reduceAdd, Nat.reduceSub, Nat.sub_self, Nat.sub_zero, Nat.add_zero, Nat.zero_add, Nat.reduceLT, Bool.not_true, Bool.not_false, Bool.true_and, Bool.and_true, Bool.false_and, Bool.and_false, if_true, if_false, ite_true, ite_false, decide_true, decide_false, beq_self_eq_true, Bool.false_eq_true, c_law_last w h, joinD_nil _ hs, e]
/-! the hand -/
def Hand (h : D) : Prop := ∃ (cells : List Int) (a : Nat) (b c d : Int), h = .list [.list (cells.map .int), .int a, .int b, .int c, .int d]
theorem modD_int (i j : Int) (h : 0 < j) : modD (.int i) (.int j) = some (.int (i % j)) := by
  show (if decide (0 < j) = true then some (PyData.int (i % j)) else none) = _
  rw [if_pos (decide_eq_true h)]
theorem fdivD_int (i j : Int) (h : 0 < j) (k : smI j = true) : fdivD (.int i) (.int j) = some (.int (i / j)) := by
  show (if (decide (0 < j) && smI j) = true then some (PyData.int (i / j)) else none) = _
  rw [if_pos (by rw [decide_eq_true h, k]; rfl)]
theorem s64_of {i : Int} (h : -(2 ^ 64) < i) (k : i < 2 ^ 64) : s64 i = true := by
  unfold s64; rw [decide_eq_true h, decide_eq_true k]; rfl
theorem mulD_r (i j : Int) (h : s64 j = true) : mulD (.int i) (.int j) = some (.int (i * j)) := by
  show (if (s64 i || s64 j || (smI i && smI j)) = true then some (PyData.int (i * j)) else none) = _
  rw [if_pos (by rw [h]; simp)]
theorem mulD_l (i j : Int) (h : s64 i = true) : mulD (.int i) (.int j) = some (.int (i * j)) := by
  show (if (s64 i || s64 j || (smI i && smI j)) = true then some (PyData.int (i * j)) else none) = _
  rw [if_pos (by rw [h]; simp)]
theorem intF_int (i : Int) : intFD [.int i] = some (.int i) := rfl
theorem pow15 : powD (.int 10) (.int 15) = some (.int 1000000000000000) := by kernel_rfl
theorem pow36 : powD (.int 10) (.int 36) = some (.int 1000000000000000000000000000000000000) := by kernel_rfl
theorem hx0 (x a b c d : D) : ixD (.list [x, a, b, c, d]) (.int 0) = some x := rfl
theorem hx1 (x a b c d : D) : ixD (.list [x, a, b, c, d]) (.int 1) = some a := rfl
theorem hx2 (x a b c d : D) : ixD (.list [x, a, b, c, d]) (.int 2) = some b := rfl
theorem hx3 (x a b c d : D) : ixD (.list [x, a, b, c, d]) (.int 3) = some c := rfl
theorem hx4 (x a b c d : D) : ixD (.list [x, a, b, c, d]) (.int 4) = some d := rfl
theorem hs1 (x a b c d y : D) : setLM (.list [x, a, b, c, d]) (.int 1) y = some (.list [x, y, b, c, d]) := rfl
theorem hs2 (x a b c d y : D) : setLM (.list [x, a, b, c, d]) (.int 2) y = some (.list [x, a, y, c, d]) := rfl
theorem hs3 (x a b c d y : D) : setLM (.list [x, a, b, c, d]) (.int 3) y = some (.list [x, a, b, y, d]) := rfl
theorem hs4 (x a b c d y : D) : setLM (.list [x, a, b, c, d]) (.int 4) y = some (.list [x, a, b, c, y]) := rfl
def dH (cells : List Int) (a b c d : Int) : D := .list [.list (cells.map .int), .int a, .int b, .int c, .int d]

theorem dH_hand (cells : List Int) (a : Nat) (b c d : Int) : Hand (dH cells a b c d) := ⟨cells, a, b, c, d, rfl⟩
/-- the first part of a draw: a cell is taken, perhaps -/
def drA : WS := (ifS (andT (bT (op2 eqD (.e (op2 ixD (.s 0) (.e (cE (.int 2))))) (.e (cE (.int 0))))) (bT (op2 ltD (.e (op2 ixD (.s 0) (.e (cE (.int 1))))) (.e (opN lenD [(.e (op2 ixD (.s 0) (.e (cE (.int 0)))))]))))) (seqS (asgS (op2 ixD (.e (op2 ixD (.s 0) (.e (cE (.int 0))))) (.e (op2 ixD (.s 0) (.e (cE (.int 1)))))) (gN 2))
  (seqS (setI setLM 0 (cE (.int 1)) (op2 addD (.e (op2 ixD (.s 0) (.e (cE (.int 1))))) (.e (cE (.int 1)))))
  (seqS (setI setLM 0 (cE (.int 3)) (op2 modD (.e (opN intFD [(.e (op2 addD (.e (op2 addD (.e (op2 mulD (.e (op2 ixD (.s 0) (.e (cE (.int 3))))) (.e (cE (.int 48271))))) (.e (op2 mulD (.e (op2 modD (.e (opN intFD [(.s 2)])) (.e (cE (.int 2147483629))))) (.e (cE (.int 69621))))))) (.e (cE (.int 17)))))])) (.e (cE (.int 2147483629)))))
  (ifS (bT (op2 geD (.s 2) (.e (op2 powD (.e (cE (.int 10))) (.e (cE (.int 15))))))) (setI setLM 0 (cE (.int 2)) (vE 2)) nilS)))) nilS)
def drB : WS := (ifS (bT (op2 gtD (.e (op2 ixD (.s 0) (.e (cE (.int 2))))) (.e (cE (.int 0))))) (seqS (asgS (op2 modD (.e (opN intFD [(.e (op2 ixD (.s 0) (.e (cE (.int 2)))))])) (.s 1)) (gN 3))
  (seqS (setI setLM 0 (cE (.int 2)) (op2 fdivD (.e (opN intFD [(.e (op2 ixD (.s 0) (.e (cE (.int 2)))))])) (.s 1)))
  (retS (vE 3)))) nilS)
def drC : WS := (seqS (setI setLM 0 (cE (.int 4)) (op2 addD (.e (op2 ixD (.s 0) (.e (cE (.int 4))))) (.e (cE (.int 1)))))
  (seqS (asgS (op2 modD (.e (opN intFD [(.e (op2 mulD (.e (opN intFD [(.e (op2 addD (.e (op2 ixD (.s 0) (.e (cE (.int 3))))) (.e (op2 mulD (.e (cE (.int 7919))) (.e (op2 ixD (.s 0) (.e (cE (.int 4)))))))))])) (.e (cE (.int 40692)))))])) (.e (cE (.int 2147483399)))) (gN 4))
  (seqS (asgS (op2 modD (.e (opN intFD [(.e (op2 mulD (.s 4) (.e (op2 addD (.e (op2 fdivD (.s 4) (.e (cE (.int 1009))))) (.e (cE (.int 30011)))))))])) (.e (cE (.int 2147483647)))) (gN 4))
  (retS (op2 modD (.e (opN intFD [(.e (op2 fdivD (.s 4) (.e (cE (.int 32)))))])) (.s 1))))))
theorem draw_parts : W__law_draw = seqS drA (seqS drB drC) := rfl
theorem k1 : s64 48271 = true := by decide +kernel
theorem k2 : s64 69621 = true := by decide +kernel
theorem k3 : s64 7919 = true := by decide +kernel
theorem k4 : s64 40692 = true := by decide +kernel
theorem k5 : smI 1009 = true := by decide +kernel
theorem k6 : smI 32 = true := by decide +kernel
theorem drA_ex (cells : List Int) (a : Nat) (b c d : Int) (m : SD) : ∃ (a' : Nat) (b' c' : Int) (x : SD), drA [.ln (dH cells a b c d), m, .un, .un, .un] = some (.nx [.ln (dH cells a' b' c' d), m, x, .un, .un]) := by
  unfold drA dH
  by_cases h1 : b = 0
  · by_cases h2 : (a : Int) < cells.length
    · have ha : a < cells.length := by omega
      have hc : ixD (.list (cells.map PyData.int)) (.int (a : Nat)) = some (.int cells[a]) := by rw [rd_int, List.getElem?_eq_getElem ha]; rfl
      have p1 : (0 : Int) < 2147483629 := by decide
      by_cases h3 : (1000000000000000 : Int) ≤ cells[a]
      · refine ⟨a + 1, cells[a], (c * 48271 + cells[a] % 2147483629 * 69621 + 17) % 2147483629, .im (.int cells[a]), ?_⟩
        simp only [runD, runF, runM, ini, op1, op2, opN, Opd.ev, Opd.fin, evs, fins, vE, cE, evl, lstE, tupE, callE, rd, SD.get, bT, andT, orT, notT, andE, orE, notE, ifE, yesT, seqS, seqFS, asgS, retS, retN, ifS, dropS, nilS, run1, gN, gT, gAll, chainE, sliE, ptE, metE, isT_tx, isT_list, itI, enI, zipI, rngI, parS, evp, setp, setM, setI, ownd, upc, mutK, isL, callM, lent, forS, List.set_cons_zero, List.set_cons_succ, List.getElem?_cons_zero, List.getElem?_cons_succ, Option.bind_some, Option.map_some, Option.bind_none, Option.map_none, cond_true, cond_false, List.map_cons, List.map_nil, List.replicate_succ, List.replicate_zero, List.length_cons, List.length_nil, List.cons_append, List.nil_append, Nat.reduceAdd, Nat.reduceSub, Nat.sub_self, Nat.sub_zero, Nat.add_zero, Nat.zero_add, Nat.reduceLT, Bool.not_true, Bool.not_false, Bool.true_and, Bool.and_true, Bool.false_and, Bool.and_false, if_true, if_false, ite_true, ite_false, decide_true, decide_false, beq_self_eq_true, Bool.false_eq_true, hx0, hx1, hx2, hx3, eqD_int, h1, lenD_list, List.length_map, ltD_int, h2, hc, addD_int, hs1, intF_int, mulD_r _ _ k1, modD_int _ _ p1, mulD_r _ _ k2, hs3, pow15, geD_int, h3, hs2]
        rfl
      · refine ⟨a + 1, 0, (c * 48271 + cells[a] % 2147483629 * 69621 + 17) % 2147483629, .im (.int cells[a]), ?_⟩
        simp only [runD, runF, runM, ini, op1, op2, opN, Opd.ev, Opd.fin, evs, fins, vE, cE, evl, lstE, tupE, callE, rd, SD.get, bT, andT, orT, notT, andE, orE, notE, ifE, yesT, seqS, seqFS, asgS, retS, retN, ifS, dropS, nilS, run1, gN, gT, gAll, chainE, sliE, ptE, metE, isT_tx, isT_list, itI, enI, zipI, rngI, parS, evp, setp, setM, setI, ownd, upc, mutK, isL, callM, lent, forS, List.set_cons_zero, List.set_cons_succ, List.getElem?_cons_zero, List.getElem?_cons_succ, Option.bind_some, Option.map_some, Option.bind_none, Option.map_none, cond_true, cond_false, List.map_cons, List.map_nil, List.replicate_succ, List.replicate_zero, List.length_cons, List.length_nil, List.cons_append, List.nil_append, Nat.reduceAdd, Nat.reduceSub, Nat.sub_self, Nat.sub_zero, Nat.add_zero, Nat.zero_add, Nat.reduceLT, Bool.not_true, Bool.not_false, Bool.true_and, Bool.and_true, Bool.false_and, Bool.and_false, if_true, if_false, ite_true, ite_false, decide_true, decide_false, beq_self_eq_true, Bool.false_eq_true, hx0, hx1, hx2, hx3, eqD_int, h1, lenD_list, List.length_map, ltD_int, h2, hc, addD_int, hs1, intF_int, mulD_r _ _ k1, modD_int _ _ p1, mulD_r _ _ k2, hs3, pow15, geD_int, h3, hs2]
        rfl
    · refine ⟨a, b, c, .un, ?_⟩
      simp only [runD, runF, runM, ini, op1, op2, opN, Opd.ev, Opd.fin, evs, fins, vE, cE, evl, lstE, tupE, callE, rd, SD.get, bT, andT, orT, notT, andE, orE, notE, ifE, yesT, seqS, seqFS, asgS, retS, retN, ifS, dropS, nilS, run1, gN, gT, gAll, chainE, sliE, ptE, metE, isT_tx, isT_list, itI, enI, zipI, rngI, parS, evp, setp, setM, setI, ownd, upc, mutK, isL, callM, lent, forS, List.set_cons_zero, List.set_cons_succ, List.getElem?_cons_zero, List.getElem?_cons_succ, Option.bind_some, Option.map_some, Option.bind_none, Option.map_none, cond_true, cond_false, List.map_cons, List.map_nil, List.replicate_succ, List.replicate_zero, List.length_cons, List.length_nil, List.cons_append, List.nil_append, Nat.reduceAdd, Nat.reduceSub, Nat.sub_self, Nat.sub_zero, Nat.add_zero, Nat.zero_add, Nat.reduceLT, Bool.not_true, Bool.not_false, Bool.true_and, Bool.and_true, Bool.false_and, Bool.and_false, if_true, if_false, ite_true, ite_false, decide_true, decide_false, beq_self_eq_true, Bool.false_eq_true, hx0, hx1, hx2, hx3, eqD_int, h1, lenD_list, List.length_map, ltD_int, h2]
  · refine ⟨a, b, c, .un, ?_⟩
    simp only [runD, runF, runM, ini, op1, op2, opN, Opd.ev, Opd.fin, evs, fins, vE, cE, evl, lstE, tupE, callE, rd, SD.get, bT, andT, orT, notT, andE, orE, notE, ifE, yesT, seqS, seqFS, asgS, retS, retN, ifS, dropS, nilS, run1, gN, gT, gAll, chainE, sliE, ptE, metE, isT_tx, isT_list, itI, enI, zipI, rngI, parS, evp, setp, setM, setI, ownd, upc, mutK, isL, callM, lent, forS, List.set_cons_zero, List.set_cons_succ, List.getElem?_cons_zero, List.getElem?_cons_succ, Option.bind_some, Option.map_some, Option.bind_none, Option.map_none, cond_true, cond_false, List.map_cons, List.map_nil, List.replicate_succ, List.replicate_zero, List.length_cons, List.length_nil, List.cons_append, List.nil_append, Nat.reduceAdd, Nat.reduceSub, Nat.sub_self, Nat.sub_zero, Nat.add_zero, Nat.zero_add, Nat.reduceLT, Bool.not_true, Bool.not_false, Bool.true_and, Bool.and_true, Bool.false_and, Bool.and_false, if_true, if_false, ite_true, ite_false, decide_true, decide_false, beq_self_eq_true, Bool.false_eq_true, hx0, hx1, hx2, hx3, eqD_int, h1]
theorem small_nat {n : Nat} (h : n ≤ 1000000) : smI (n : Int) = true := by
  unfold smI
  rw [decide_eq_true_eq, Int.natAbs_natCast]
  by_cases z : n = 0
  · subst z; decide
  · have : n.log2 < 20 := (Nat.log2_lt z).mpr (by omega)
    omega
theorem draw_ex (h : D) (hh : Hand h) (many : Nat) (h1 : 1 ≤ many) (h2 : many ≤ 1000000) : ∃ (r : Nat) (h' : D), F__law_draw h [.int (many : Nat)] = some (.int (r : Nat), h') ∧ Hand h' ∧ r < many := by
  obtain ⟨cells, a, b, c, d, rfl⟩ := hh
  obtain ⟨a', b', c', x, e⟩ := drA_ex cells a b c d (.im (.int (many : Nat)))
  have pm : (0 : Int) < (many : Nat) := by omega
  have sm := small_nat h2
  have i0 : (SD.ln (.list [.list (cells.map .int), .int a, .int b, .int c, .int d]) :: ini (5 - 1) [.int (many : Nat)]) = [.ln (dH cells a b c d), .im (.int (many : Nat)), .un, .un, .un] := rfl
  have toN : ∀ z : Int, ∃ r : Nat, z % (many : Nat) = (r : Int) ∧ r < many := fun z => by
    have q1 := Int.emod_nonneg z (show ((many : Nat) : Int) ≠ 0 by omega)
    have q2 := Int.emod_lt_of_pos z pm
    exact ⟨(z % (many : Nat)).toNat, by omega, by omega⟩
  unfold F__law_draw runM
  rw [i0, draw_parts]
  simp only [seqS, e, Option.bind_some, run1]
  by_cases hb : (0 : Int) < b'
  · obtain ⟨r, er, hr⟩ := toN b'
    refine ⟨r, dH cells a' (b' / (many : Nat)) c' d, ?_, dH_hand _ _ _ _ _, hr⟩
    unfold drB dH
    simp only [runD, runF, runM, ini, op1, op2, opN, Opd.ev, Opd.fin, evs, fins, vE, cE, evl, lstE, tupE, callE, rd, SD.get, bT, andT, orT, notT, andE, orE, notE, ifE, yesT, seqS, seqFS, asgS, retS, retN, ifS, dropS, nilS, run1, gN, gT, gAll, chainE, sliE, ptE, metE, isT_tx, isT_list, itI, enI, zipI, rngI, parS, evp, setp, setM, setI, ownd, upc, mutK, isL, callM, lent, forS, List.set_cons_zero, List.set_cons_succ, List.getElem?_cons_zero, List.getElem?_cons_succ, Option.bind_some, Option.map_some, Option.bind_none, Option.map_none, cond_true, cond_false, List.map_cons, List.map_nil, List.replicate_succ, List.replicate_zero, List.length_cons, List.length_nil, List.cons_append, List.nil_append, Nat.reduceAdd, Nat.reduceSub, Nat.sub_self, Nat.sub_zero, Nat.add_zero, Nat.zero_add, Nat.reduceLT, Bool.not_true, Bool.not_false, Bool.true_and, Bool.and_true, Bool.false_and, Bool.and_false, if_true, if_false, ite_true, ite_false, decide_true, decide_false, beq_self_eq_true, Bool.false_eq_true, hx2, gtD_int, hb, intF_int, modD_int _ _ pm, fdivD_int _ _ pm sm, hs2, er]
  · have p1 : (0 : Int) < 2147483399 := by decide
    have p2 : (0 : Int) < 1009 := by decide
    have p3 : (0 : Int) < 2147483647 := by decide
    have p4 : (0 : Int) < 32 := by decide
    have n1 : s64 ((c' + 7919 * (d + 1)) * 40692 % 2147483399) = true := by
      have q1 := Int.emod_nonneg ((c' + 7919 * (d + 1)) * 40692) (show (2147483399 : Int) ≠ 0 by decide)
      have q2 := Int.emod_lt_of_pos ((c' + 7919 * (d + 1)) * 40692) p1
      exact s64_of (by omega) (by omega)
    obtain ⟨r, er, hr⟩ := toN ((c' + 7919 * (d + 1)) * 40692 % 2147483399 * ((c' + 7919 * (d + 1)) * 40692 % 2147483399 / 1009 + 30011) % 2147483647 / 32)
    refine ⟨r, dH cells a' b' c' (d + 1), ?_, dH_hand _ _ _ _ _, hr⟩
    have eB : drB [.ln (dH cells a' b' c' d), .im (.int (many : Nat)), x, .un, .un] = some (.nx [.ln (dH cells a' b' c' d), .im (.int (many : Nat)), x, .un, .un]) := by
      unfold drB dH
      simp only [runD, runF, runM, ini, op1, op2, opN, Opd.ev, Opd.fin, evs, fins, vE, cE, evl, lstE, tupE, callE, rd, SD.get, bT, andT, orT, notT, andE, orE, notE, ifE, yesT, seqS, seqFS, asgS, retS, retN, ifS, dropS, nilS, run1, gN, gT, gAll, chainE, sliE, ptE, metE, isT_tx, isT_list, itI, enI, zipI, rngI, parS, evp, setp, setM, setI, ownd, upc, mutK, isL, callM, lent, forS, List.set_cons_zero, List.set_cons_succ, List.getElem?_cons_zero, List.getElem?_cons_succ, Option.bind_some, Option.map_some, Option.bind_none, Option.map_none, cond_true, cond_false, List.map_cons, List.map_nil, List.replicate_succ, List.replicate_zero, List.length_cons, List.length_nil, List.cons_append, List.nil_append, Nat.reduceAdd, Nat.reduceSub, Nat.sub_self, Nat.sub_zero, Nat.add_zero, Nat.zero_add, Nat.reduceLT, Bool.not_true, Bool.not_false, Bool.true_and, Bool.and_true, Bool.false_and, Bool.and_false, if_true, if_false, ite_true, ite_false, decide_true, decide_false, beq_self_eq_true, Bool.false_eq_true, hx2, gtD_int, hb]
    simp only [eB, Option.bind_some, run1]
    unfold drC dH
    simp only [runD, runF, runM, ini, op1, op2, opN, Opd.ev, Opd.fin, evs, fins, vE, cE, evl, lstE, tupE, callE, rd, SD.get, bT, andT, orT, notT, andE, orE, notE, ifE, yesT, seqS, seqFS, asgS, retS, retN, ifS, dropS, nilS, run1, gN, gT, gAll, chainE, sliE, ptE, metE, isT_tx, isT_list, itI, enI, zipI, rngI, parS, evp, setp, setM, setI, ownd, upc, mutK, isL, callM, lent, forS, List.set_cons_zero, List.set_cons_succ, List.getElem?_cons_zero, List.getElem?_cons_succ, Option.bind_some, Option.map_some, Option.bind_none, Option.map_none, cond_true, cond_false, List.map_cons, List.map_nil, List.replicate_succ, List.replicate_zero, List.length_cons, List.length_nil, List.cons_append, List.nil_append, Nat.reduceAdd, Nat.reduceSub, Nat.sub_self, Nat.sub_zero, Nat.add_zero, Nat.zero_add, Nat.reduceLT, Bool.not_true, Bool.not_false, Bool.true_and, Bool.and_true, Bool.false_and, Bool.and_false, if_true, if_false, ite_true, ite_false, decide_true, decide_false, beq_self_eq_true, Bool.false_eq_true, hx3, hx4, addD_int, hs4, mulD_l _ _ k3, intF_int, mulD_r _ _ k4, modD_int _ _ p1, fdivD_int _ _ p2 k5, mulD_l _ _ n1, modD_int _ _ p3, fdivD_int _ _ p4 k6, modD_int _ _ pm, er]
theorem some_ex (h : D) (hh : Hand h) (xs : List D) (h1 : 1 ≤ xs.length) (h2 : xs.length ≤ 1000000) : ∃ (x : D) (h' : D), F__law_some h [.list xs] = some (x, h') ∧ Hand h' ∧ x ∈ xs := by
  obtain ⟨r, h', e, hh', hr⟩ := draw_ex h hh xs.length h1 h2
  refine ⟨xs[r], h', ?_, hh', List.getElem_mem hr⟩
  have hi : ixD (.list xs) (.int (r : Nat)) = some xs[r] := by rw [ixD_list, List.getElem?_eq_getElem hr]
  unfold F__law_some W__law_some
  simp only [runD, runF, runM, ini, op1, op2, opN, Opd.ev, Opd.fin, evs, fins, vE, cE, evl, lstE, tupE, callE, rd, SD.get, bT, andT, orT, notT, andE, orE, notE, ifE, yesT, seqS, seqFS, asgS, retS, retN, ifS, dropS, nilS, run1, gN, gT, gAll, chainE, sliE, ptE, metE, isT_tx, isT_list, itI, enI, zipI, rngI, parS, evp, setp, setM, setI, ownd, upc, mutK, isL, callM, lent, forS, List.set_cons_zero, List.set_cons_succ, List.getElem?_cons_zero, List.getElem?_cons_succ, Option.bind_some, Option.map_some, Option.bind_none, Option.map_none, cond_true, cond_false, List.map_cons, List.map_nil, List.replicate_succ, List.replicate_zero, List.length_cons, List.length_nil, List.cons_append, List.nil_append, Nat.reduceAdd, Nat.reduceSub, Nat.sub_self, Nat.sub_zero, Nat.add_zero, Nat.zero_add, Nat.reduceLT, Bool.not_true, Bool.not_false, Bool.true_and, Bool.and_true, Bool.false_and, Bool.and_false, if_true, if_false, ite_true, ite_false, decide_true, decide_false, beq_self_eq_true, Bool.false_eq_true, lenD_list, e, hi]
end T4

-- K4f
namespace T4
open PySem PL BW
theorem law_is_eq (d : D) (h : Fit 9 9000 d) : F__law_is [d, d] = some (.bool true) := by
  have e := h.shown
  have q : eqD (.str d.shown) (.str d.shown) = some (.bool true) := by
    show some (PyData.bool (PyData.eqv (.str d.shown) (.str d.shown))) = _
    rw [eqv_str]; simp
  unfold F__law_is W__law_is
  simp only [runD, runF, runM, ini, op1, op2, opN, Opd.ev, Opd.fin, evs, fins, vE, cE, evl, lstE, tupE, callE, rd, SD.get, bT, andT, orT, notT, andE, orE, notE, ifE, yesT, seqS, seqFS, asgS, retS, retN, ifS, dropS, nilS, run1, gN, gT, gAll, chainE, sliE, ptE, metE, isT_tx, isT_list, itI, enI, zipI, rngI, parS, evp, setp, setM, setI, ownd, upc, mutK, isL, callM, lent, forS, List.set_cons_zero, List.set_cons_succ, List.getElem?_cons_zero, List.getElem?_cons_succ, Option.bind_some, Option.map_some, Option.bind_none, Option.map_none, cond_true, cond_false, List.map_cons, List.map_nil, List.replicate_succ, List.replicate_zero, List.length_cons, List.length_nil, List.cons_append, List.nil_append, Nat.reduceAdd, Nat.reduceSub, Nat.sub_self, Nat.sub_zero, Nat.add_zero, Nat.zero_add, Nat.reduceLT, Bool.not_true, Bool.not_false, Bool.true_and, Bool.and_true, Bool.false_and, Bool.and_false, if_true, if_false, ite_true, ite_false, decide_true, decide_false, beq_self_eq_true, Bool.false_eq_true, e, q]
theorem low_abc {w : Wd} (h : abc w) : ∀ c ∈ w, c < 16 ^ 8 := fun c hc => by
  have : ∀ x ∈ LET, x < 16 ^ 8 := by decide
  exact this c (h.2 c hc)
theorem fit_w (n : Nat) {w : Wd} (h : abc w) : Fit n 12 (tx w) := (fit_tx n w (low_abc h)).up h.1
theorem wrd_T {w t : Wd} (h : wrd w) (k : t ∈ T w) : wrd t := by
  have hl := len_of_T k
  refine ⟨by rw [hl]; exact h.1, by rw [hl]; exact h.2.1, fun c hc => h.2.2 c ((T_perm k).mem_iff.mp hc)⟩
theorem abc_fl {w : Wd} (h : abc w) : abc (fl w) := by
  have e : (fl w).length = w.length := by unfold fl; rw [List.length_flatten, fl_sum]
  refine ⟨by rw [e]; exact h.1, fun c hc => h.2 c ?_⟩
  unfold fl at hc
  rw [List.mem_flatten] at hc
  obtain ⟨l, hl, hcl⟩ := hc
  rw [(List.mergeSort_perm _ _).mem_iff, List.mem_map] at hl
  obtain ⟨x, hx, rfl⟩ := hl
  have : c = x := by simpa using hcl
  subst this; exact hx
/-- the frame of _law_is_right -/
def env12 (h w : D) (s2 s3 s4 s5 s6 s7 s8 s9 s10 s11 : SD) : En := [.ln h, .im w, s2, s3, s4, s5, s6, s7, s8, s9, s10, s11]
theorem extM_tx (acc : List Wd) (l : List Wd) (h : acc.length + l.length ≤ big) : extM (.list (acc.map tx)) [.list (l.map tx)] = some (.none, .list ((acc ++ l).map tx)) := by
  show (if (acc.map tx).length + (l.map tx).length ≤ big then some (PyData.none, PyData.list (acc.map tx ++ l.map tx)) else none) = _
  rw [List.length_map, List.length_map, if_pos h, List.map_append]
theorem alike_loop (h : D) (w : Wd) (hw : w.length ≤ 12) (s3 : SD) : ∃ s5, l__law_is_right_1 (env12 h (tx w) (.im (turnsL w)) s3 (.mu (.list (([] : List Wd).map tx))) .un .un .un .un .un .un .un) = some (.nx (env12 h (tx w) (.im (turnsL w)) s3 (.mu (.list ((U w).map tx))) s5 .un .un .un .un .un .un)) := by
  unfold l__law_is_right_1 forS
  have src : itI (vE 2) (env12 h (tx w) (.im (turnsL w)) s3 (.mu (.list (([] : List Wd).map tx))) .un .un .un .un .un .un .un) = some ((T w).map tx, env12 h (tx w) (.im (turnsL w)) s3 (.mu (.list (([] : List Wd).map tx))) .un .un .un .un .un .un .un) := rfl
  rw [src, Option.bind_some]
  obtain ⟨ε', h1, h2⟩ := forL_inv (g := gN 5) (body := (dropS (mutK isL extM 4 [(ifE (bT (op2 (inD true) (.s 5) (.s 4))) (lstE [(vE 5)]) (lstE []))])))
    (fun k ε => k ≤ w.length ∧ ∃ (acc : List Wd) (s5 : SD), acc.length ≤ k ∧ uniq acc ((T w).drop k) = U w ∧ ε = env12 h (tx w) (.im (turnsL w)) s3 (.mu (.list (acc.map tx))) s5 .un .un .un .un .un .un)
    ((T w).map tx) 0 _ ⟨Nat.zero_le _, [], .un, Nat.le_refl _, rfl, rfl⟩ (fun i d ε hd hI => by
      rw [Nat.zero_add] at hI
      rw [Nat.zero_add]
      obtain ⟨hk, acc, s5, hl, hu, rfl⟩ := hI
      rw [List.getElem?_map] at hd
      obtain ⟨t, ht, rfl⟩ := Option.map_eq_some_iff.mp hd
      have hi := getD_some ht
      rw [T_len] at hi
      have hdr : (T w).drop i = t :: (T w).drop (i + 1) := by
        obtain ⟨q1, q2⟩ := List.getElem?_eq_some_iff.mp ht
        rw [← q2]; exact List.drop_eq_getElem_cons q1
      rw [hdr] at hu
      have isr : ∀ l : List D, isL (.list l) = true := fun _ => rfl
      by_cases hm : t ∈ acc
      · refine ⟨_, .nx (env12 h (tx w) (.im (turnsL w)) s3 (.mu (.list ((acc ++ []).map tx))) (.im (tx t)) .un .un .un .un .un .un), rfl, ?_, _, .inl rfl, by omega, acc ++ [], .im (tx t), by rw [List.append_nil]; omega, ?_, rfl⟩
        · have ex := extM_tx acc [] (by simp only [List.length_nil]; unfold big; omega)
          rw [List.map_nil] at ex
          unfold env12
          simp only [dropS, mutK, ownd, List.getElem?_cons_zero, List.getElem?_cons_succ, Option.bind_some, isr, if_true]
          simp only [runD, runF, runM, ini, op1, op2, opN, Opd.ev, Opd.fin, evs, fins, vE, cE, evl, lstE, tupE, callE, rd, SD.get, bT, andT, orT, notT, andE, orE, notE, ifE, yesT, seqS, seqFS, asgS, retS, retN, ifS, dropS, nilS, run1, gN, gT, gAll, chainE, sliE, ptE, metE, isT_tx, isT_list, itI, enI, zipI, rngI, parS, evp, setp, setM, setI, ownd, upc, mutK, isL, callM, lent, forS, List.set_cons_zero, List.set_cons_succ, List.getElem?_cons_zero, List.getElem?_cons_succ, Option.bind_some, Option.map_some, Option.bind_none, Option.map_none, cond_true, cond_false, List.map_cons, List.map_nil, List.replicate_succ, List.replicate_zero, List.length_cons, List.length_nil, List.cons_append, List.nil_append, Nat.reduceAdd, Nat.reduceSub, Nat.sub_self, Nat.sub_zero, Nat.add_zero, Nat.zero_add, Nat.reduceLT, Bool.not_true, Bool.not_false, Bool.true_and, Bool.and_true, Bool.false_and, Bool.and_false, if_true, if_false, ite_true, ite_false, decide_true, decide_false, beq_self_eq_true, Bool.false_eq_true, inD_list, hm, bne_self_eq_false, ex]
        · rw [List.append_nil]
          rw [← hu]; show _ = uniq acc (t :: _)
          rw [uniq, if_pos hm]
      · refine ⟨_, .nx (env12 h (tx w) (.im (turnsL w)) s3 (.mu (.list ((acc ++ [t]).map tx))) (.im (tx t)) .un .un .un .un .un .un), rfl, ?_, _, .inl rfl, by omega, acc ++ [t], .im (tx t), by rw [List.length_append, List.length_singleton]; omega, ?_, rfl⟩
        · have ex := extM_tx acc [t] (by simp only [List.length_singleton]; unfold big; omega)
          rw [List.map_cons, List.map_nil] at ex
          have bt : bne true false = true := rfl
          unfold env12
          simp only [dropS, mutK, ownd, List.getElem?_cons_zero, List.getElem?_cons_succ, Option.bind_some, isr, if_true]
          simp only [runD, runF, runM, ini, op1, op2, opN, Opd.ev, Opd.fin, evs, fins, vE, cE, evl, lstE, tupE, callE, rd, SD.get, bT, andT, orT, notT, andE, orE, notE, ifE, yesT, seqS, seqFS, asgS, retS, retN, ifS, dropS, nilS, run1, gN, gT, gAll, chainE, sliE, ptE, metE, isT_tx, isT_list, itI, enI, zipI, rngI, parS, evp, setp, setM, setI, ownd, upc, mutK, isL, callM, lent, forS, List.set_cons_zero, List.set_cons_succ, List.getElem?_cons_zero, List.getElem?_cons_succ, Option.bind_some, Option.map_some, Option.bind_none, Option.map_none, cond_true, cond_false, List.map_cons, List.map_nil, List.replicate_succ, List.replicate_zero, List.length_cons, List.length_nil, List.cons_append, List.nil_append, Nat.reduceAdd, Nat.reduceSub, Nat.sub_self, Nat.sub_zero, Nat.add_zero, Nat.zero_add, Nat.reduceLT, Bool.not_true, Bool.not_false, Bool.true_and, Bool.and_true, Bool.false_and, Bool.and_false, if_true, if_false, ite_true, ite_false, decide_true, decide_false, beq_self_eq_true, Bool.false_eq_true, inD_list, hm, bt, ex]
        · rw [← hu]; show _ = uniq acc (t :: _)
          rw [uniq, if_neg hm])
  obtain ⟨hk, acc, s5, hl, hu, rfl⟩ := h2
  rw [Nat.zero_add, List.length_map, List.drop_length] at hu
  have ha : acc = U w := hu
  subst ha
  exact ⟨s5, h1⟩
theorem count_turns (w : Wd) (hw : w.length ≤ 12) : countLD (turnsL w) [tx w] = some (.int ((T w).count w : Nat)) := by
  show (if okk (turnsL w) (tx w) = true then some (PyData.int (((T w).map tx).countP fun z => PyData.eqv z (tx w) : Nat)) else none) = _
  have ok : okk (turnsL w) (tx w) = true := by
    show ((((T w).map tx).all (okD 8)) && ok9 (tx w)) = true
    rw [all_tx, ok_tx]; rfl
  rw [if_pos ok, List.countP_map, List.count_eq_countP]
  congr 3
  refine List.countP_congr fun t _ => ?_
  show PyData.eqv (tx t) (tx w) = true ↔ (t == w) = true
  rw [eqv_tx, decide_eq_true_eq, beq_iff_eq]
theorem ix_hd (w : Wd) (h : wrd w) : ixD (turnsL w) (.int 0) = some (tx (hd w)) := by
  have : ixD (turnsL w) (.int ((0 : Nat) : Int)) = some (tx (hd w)) := by
    unfold turnsL
    rw [ixD_list, List.getElem?_map, Tat_at (show 0 < w.length from h.1)]; rfl
  exact this
theorem fit3 (w : Wd) (h : wrd w) : Fit 9 9000 (.list [tx (L w), .tuple ((U w).map tx), tx (hd w)]) := by
  have hU : Fit 8 200 (.tuple ((U w).map tx)) := fit_tuple (b := 12) (fun x hx => by
    obtain ⟨t, ht, rfl⟩ := List.mem_map.mp hx
    exact fit_w 7 (wrd_T h (mem_U.mp ht)).2) (by rw [List.length_map]; have := U_len12 h.2.1; omega)
  refine fit_list (b := 200) (fun x hx => ?_) (by show 3 * (200 + 1) ≤ 9000; decide)
  simp only [List.mem_cons, List.mem_nil_iff, or_false] at hx
  rcases hx with rfl | rfl | rfl
  · exact (fit_w 8 (wrd_L h).2).up (by decide)
  · exact hU
  · exact (fit_w 8 (wrd_T h (hd_mem h.1)).2).up (by decide)
end T4

-- K4g
namespace T4
open PySem PL BW
/-! the three turns drawn -/
theorem draws3 (h : D) (hh : Hand h) (w : Wd) (hw : wrd w) (s3 s4 s5 : SD) : ∃ (rs : List D) (h' : D), c__law_is_right_2 (env12 h (tx w) (.im (turnsL w)) s3 s4 s5 .un .un .un .un .un .un) = some (.list rs, env12 h' (tx w) (.im (turnsL w)) s3 s4 s5 .un .un .un .un .un .un) ∧ Hand h' ∧ rs.length = 3 ∧ ∀ r ∈ rs, ∃ t, t ∈ T w ∧ r = tx t := by
  unfold c__law_is_right_2
  have src : rngI [(cE (.int 3))] (env12 h (tx w) (.im (turnsL w)) s3 s4 s5 .un .un .un .un .un .un) = some ([.int 0, .int 1, .int 2], env12 h (tx w) (.im (turnsL w)) s3 s4 s5 .un .un .un .un .un .un) := rfl
  obtain ⟨rs, ε', e, ⟨h', hh', rfl⟩, hl, hr⟩ := lcL_ex (own := [9]) (g := gN 9) (t := yesT) (f := callM F__law_some 0 [(vE 2)]) (fun ε => ∃ h', Hand h' ∧ ε = env12 h' (tx w) (.im (turnsL w)) s3 s4 s5 .un .un .un .un .un .un) (fun r => ∃ t, t ∈ T w ∧ r = tx t) [.int 0, .int 1, .int 2]
    (env12 h (tx w) (.im (turnsL w)) s3 s4 s5 .un .un .un .un .un .un) ⟨h, hh, rfl⟩ (fun d _ ε hI => by
      obtain ⟨h1, hh1, rfl⟩ := hI
      obtain ⟨x, h2, e, hh2, hx⟩ := some_ex h1 hh1 ((T w).map tx) (by rw [List.length_map, T_len]; exact hw.1) (by rw [List.length_map, T_len]; have := hw.2.1; omega)
      have e' : F__law_some h1 [turnsL w] = some (x, h2) := e
      obtain ⟨t, ht, rfl⟩ := List.mem_map.mp hx
      refine ⟨[.ln h1, .im (tx w), .im (turnsL w), s3, s4, s5, .un, .un, .un, .im d, .un, .un], [.ln h1, .im (tx w), .im (turnsL w), s3, s4, s5, .un, .un, .un, .im d, .un, .un], tx t, [.ln h2, .im (tx w), .im (turnsL w), s3, s4, s5, .un, .un, .un, .im d, .un, .un], rfl, rfl, ?_, ⟨h2, hh2, rfl⟩, t, ht, rfl⟩
      simp only [runD, runF, runM, ini, op1, op2, opN, Opd.ev, Opd.fin, evs, fins, vE, cE, evl, lstE, tupE, callE, rd, SD.get, bT, andT, orT, notT, andE, orE, notE, ifE, yesT, seqS, seqFS, asgS, retS, retN, ifS, dropS, nilS, run1, gN, gT, gAll, chainE, sliE, ptE, metE, isT_tx, isT_list, itI, enI, zipI, rngI, parS, evp, setp, setM, setI, ownd, upc, mutK, isL, callM, lent, forS, List.set_cons_zero, List.set_cons_succ, List.getElem?_cons_zero, List.getElem?_cons_succ, Option.bind_some, Option.map_some, Option.bind_none, Option.map_none, cond_true, cond_false, List.map_cons, List.map_nil, List.replicate_succ, List.replicate_zero, List.length_cons, List.length_nil, List.cons_append, List.nil_append, Nat.reduceAdd, Nat.reduceSub, Nat.sub_self, Nat.sub_zero, Nat.add_zero, Nat.zero_add, Nat.reduceLT, Bool.not_true, Bool.not_false, Bool.true_and, Bool.and_true, Bool.false_and, Bool.and_false, if_true, if_false, ite_true, ite_false, decide_true, decide_false, beq_self_eq_true, Bool.false_eq_true, e'])
  refine ⟨rs, h', ?_, hh', hl, hr⟩
  unfold lcE
  rw [src, Option.bind_some]
  have ok : (okOwn (env12 h (tx w) (.im (turnsL w)) s3 s4 s5 .un .un .un .un .un .un) [9] && decide ([PyData.int 0, .int 1, .int 2].length ≤ big)) = true := by
    rw [Bool.and_eq_true]
    exact ⟨rfl, decide_eq_true (by show 3 ≤ big; unfold big; omega)⟩
  rw [if_pos ok]
  have w0 : wipeE (env12 h (tx w) (.im (turnsL w)) s3 s4 s5 .un .un .un .un .un .un) [9] = env12 h (tx w) (.im (turnsL w)) s3 s4 s5 .un .un .un .un .un .un := rfl
  simp only [w0, e, Option.bind_some]
  rfl
theorem c_due (h : D) (w : SD) (s2 : SD) (l : List Nat) (h1 : 1 ≤ l.length) (hl : l.length ≤ 12) (s4 s5 s6 s7 s8 s9 s10 : SD) :
    c__law_is_right_3 [.ln h, w, s2, .im (tx l), s4, s5, s6, s7, s8, s9, s10, .un] = some (.list (((List.range (l.length - 1)).filter fun i => !decide (l.getD i 0 = l.getD (i + 1) 0)).map fun i => PyData.int (1 + (i : Nat) * 1)), [.ln h, w, s2, .im (tx l), s4, s5, s6, s7, s8, s9, s10, .un]) := by
  unfold c__law_is_right_3
  have hb := big12 hl
  refine lcE_fil (fun i : Nat => PyData.int (1 + (i : Nat) * 1)) (fun i => PyData.int (1 + (i : Nat) * 1)) (fun i => !decide (l.getD i 0 = l.getD (i + 1) 0)) (List.range (l.length - 1)) ?_ rfl (by rw [List.length_range]; exact big12 (by omega)) (fun x hx => ⟨[.ln h, w, s2, .im (tx l), s4, s5, s6, s7, s8, s9, s10, .im (.int (1 + (x : Nat) * 1))], [.ln h, w, s2, .im (tx l), s4, s5, s6, s7, s8, s9, s10, .im (.int (1 + (x : Nat) * 1))], rfl, ?_, ?_⟩) rfl
  · have e : evl [(cE (.int 1)), (opN lenD [(.s 3)])] [.ln h, w, s2, .im (tx l), s4, s5, s6, s7, s8, s9, s10, .un] = some ([.int 1, .int l.length], [.ln h, w, s2, .im (tx l), s4, s5, s6, s7, s8, s9, s10, .un]) := by
      simp only [runD, runF, runM, ini, op1, op2, opN, Opd.ev, Opd.fin, evs, fins, vE, cE, evl, lstE, tupE, callE, rd, SD.get, bT, andT, orT, notT, andE, orE, notE, ifE, yesT, seqS, seqFS, asgS, retS, retN, ifS, dropS, nilS, run1, gN, gT, gAll, chainE, sliE, ptE, metE, isT_tx, isT_list, itI, enI, zipI, rngI, parS, evp, setp, setM, setI, ownd, upc, mutK, isL, callM, lent, forS, List.set_cons_zero, List.set_cons_succ, List.getElem?_cons_zero, List.getElem?_cons_succ, Option.bind_some, Option.map_some, Option.bind_none, Option.map_none, cond_true, cond_false, List.map_cons, List.map_nil, List.replicate_succ, List.replicate_zero, List.length_cons, List.length_nil, List.cons_append, List.nil_append, Nat.reduceAdd, Nat.reduceSub, Nat.sub_self, Nat.sub_zero, Nat.add_zero, Nat.zero_add, Nat.reduceLT, Bool.not_true, Bool.not_false, Bool.true_and, Bool.and_true, Bool.false_and, Bool.and_false, if_true, if_false, ite_true, ite_false, decide_true, decide_false, beq_self_eq_true, Bool.false_eq_true, lenD_tx _ hb]
    unfold rngI
    rw [e, Option.bind_some]
    have r : rngD [.int 1, .int (l.length : Nat)] = some (intsL 1 1 ((l.length : Int) - 1).toNat) := by
      show (if (okI 1 && okI (l.length : Int)) = true then some (intsL 1 1 ((l.length : Int) - 1).toNat) else none) = _
      rw [if_pos]
      rw [Bool.and_eq_true]
      exact ⟨by decide +kernel, by unfold okI; rw [Bool.and_eq_true, decide_eq_true_eq, decide_eq_true_eq]; omega⟩
    simp only [r, Option.bind_some]
    have n : ((l.length : Int) - 1).toNat = l.length - 1 := by omega
    rw [n]; rfl
  · rw [List.mem_range] at hx
    have a1 : ixD (tx l) (.int (1 + (x : Nat) * 1)) = some (tx [l.getD (x + 1) 0]) := by
      have : (1 + (x : Int) * 1) = ((x + 1 : Nat) : Int) := by omega
      rw [this, ixD_tx _ _ hb, List.getD_eq_getElem?_getD, List.getElem?_eq_getElem (by omega)]; rfl
    have a2 : ixD (tx l) (.int (1 + (x : Nat) * 1 - 1)) = some (tx [l.getD x 0]) := by
      have : (1 + (x : Int) * 1 - 1) = ((x : Nat) : Int) := by omega
      rw [this, ixD_tx _ _ hb, List.getD_eq_getElem?_getD, List.getElem?_eq_getElem (by omega)]; rfl
    simp only [runD, runF, runM, ini, op1, op2, opN, Opd.ev, Opd.fin, evs, fins, vE, cE, evl, lstE, tupE, callE, rd, SD.get, bT, andT, orT, notT, andE, orE, notE, ifE, yesT, seqS, seqFS, asgS, retS, retN, ifS, dropS, nilS, run1, gN, gT, gAll, chainE, sliE, ptE, metE, isT_tx, isT_list, itI, enI, zipI, rngI, parS, evp, setp, setM, setI, ownd, upc, mutK, isL, callM, lent, forS, List.set_cons_zero, List.set_cons_succ, List.getElem?_cons_zero, List.getElem?_cons_succ, Option.bind_some, Option.map_some, Option.bind_none, Option.map_none, cond_true, cond_false, List.map_cons, List.map_nil, List.replicate_succ, List.replicate_zero, List.length_cons, List.length_nil, List.cons_append, List.nil_append, Nat.reduceAdd, Nat.reduceSub, Nat.sub_self, Nat.sub_zero, Nat.add_zero, Nat.zero_add, Nat.reduceLT, Bool.not_true, Bool.not_false, Bool.true_and, Bool.and_true, Bool.false_and, Bool.and_false, if_true, if_false, ite_true, ite_false, decide_true, decide_false, beq_self_eq_true, Bool.false_eq_true, a1, subD, a2, neD_tx, List.cons.injEq, and_true]
    have : decide (l.getD (x + 1) 0 = l.getD x 0) = decide (l.getD x 0 = l.getD (x + 1) 0) := by
      by_cases q : l.getD x 0 = l.getD (x + 1) 0
      · rw [q]
      · rw [decide_eq_false q, decide_eq_false fun z => q z.symm]
    rw [this]
  · split
    · exact ⟨_, rfl, rfl⟩
    · rfl
def due5 (w : Wd) : D := .list [tx (L w), .bool true, .int 0, tx (fl w), .int (1 + (rn (L w) : Nat))]
theorem rn_le {l : List Nat} (h : l.length ≤ 12) : rn l ≤ 12 := by
  unfold rn
  refine Nat.le_trans List.countP_le_length ?_
  rw [List.length_range]; omega
theorem int_fit : ∀ k, k ≤ 12 → (PyData.shown (.int (1 + (k : Nat)))).length ≤ 100 := by decide +kernel
theorem fit_i (n k : Nat) (h : k ≤ 12) : Fit n 0 (.int (1 + (k : Nat))) := by
  refine ⟨okD_int _ _, ?_, by simpa [PyData.leavesShort] using int_fit k h, by simp [PyData.bulk]⟩
  have : ∀ k, k ≤ 12 → PyData.showable (.int (1 + (k : Nat))) = true := by decide +kernel
  exact this k h
theorem fit_0 (n : Nat) : Fit n 0 (.int 0) := ⟨okD_int _ _, by decide +kernel, by decide +kernel, by decide +kernel⟩
theorem fit_due5 (w : Wd) (h : wrd w) : Fit 9 9000 (due5 w) := by
  refine fit_list (b := 200) (fun x hx => ?_) (by show 5 * (200 + 1) ≤ 9000; decide)
  simp only [List.mem_cons, List.mem_nil_iff, or_false] at hx
  rcases hx with rfl | rfl | rfl | rfl | rfl
  · exact (fit_w 8 (wrd_L h).2).up (by decide)
  · exact (fit_bool 8 true).up (by decide)
  · exact (fit_0 8).up (by decide)
  · exact (fit_w 8 (abc_fl h.2)).up (by decide)
  · exact (fit_i 8 _ (rn_le (by rw [L_len]; exact h.2.1))).up (by decide)
theorem turn_body (h : D) (w t : Wd) (hw : wrd w) (ht : t ∈ T w) (s4 s6 s7 s8 s9 s10 : SD) : ∃ o6 o7,
    (seqS (asgS (lstE [(callE F_last_letters [(vE 5)]), (callE F_same_round [(vE 1), (vE 5)]), (op2 ixD (.e (callE F_turned_fewest [(vE 5), (vE 1)])) (.e (cE (.int 0)))), (callE F_first_letters [(vE 5)]), (callE F_runs_in [(vE 5)])]) (gN 6))
  (seqS (asgS (lstE [(vE 3), (cE (.bool true)), (cE (.int 0)), (metE "str" joinD (.e (cE (tx []))) [(.e (opN sortD [(.s 1)]))]), (op2 addD (.e (cE (.int 1))) (.e (opN lenD [(.e c__law_is_right_3)])))]) (gN 7))
  (ifS (orT (notT (bT (callE F__law_is [(vE 6), (vE 7)]))) (orT (bT (op2 neD (.e (op2 ixD (.s 2) (.e (callE F_place_of [(vE 5)])))) (.s 5))) (notT (bT (callE F__law_is [(callE F_from_last [(vE 3), (callE F_place_of [(vE 5)])]), (vE 5)]))))) (retS (cE (.bool false))) nilS)))
    (env12 h (tx w) (.im (turnsL w)) (.im (tx (L w))) s4 (.im (tx t)) s6 s7 s8 s9 s10 .un) = some (.nx (env12 h (tx w) (.im (turnsL w)) (.im (tx (L w))) s4 (.im (tx t)) o6 o7 s8 s9 s10 .un)) := by
  have wt := wrd_T hw ht
  have hLl : (L w).length ≤ 12 := by rw [L_len]; exact hw.2.1
  have hL1 : 1 ≤ (L w).length := by rw [L_len]; exact hw.1
  obtain ⟨x, m, ef, hx⟩ := turned_fewest_ex t w wt hw
  have x0 : x = 0 := hx.mpr (T_symm ht)
  subst x0
  have i0 : ixD (.tuple [PyData.int 0, PyData.int m]) (.int 0) = some (.int 0) := rfl
  have sr := same_round_eq w t hw wt
  rw [decide_eq_true ht] at sr
  have e1 := last_letters_eq t wt
  rw [L_T ht] at e1
  have e2 := first_letters_eq t wt
  rw [fl_perm (T_perm ht)] at e2
  have e3 := runs_in_eq t wt
  rw [L_T ht] at e3
  have told : (lstE [(callE F_last_letters [(vE 5)]), (callE F_same_round [(vE 1), (vE 5)]), (op2 ixD (.e (callE F_turned_fewest [(vE 5), (vE 1)])) (.e (cE (.int 0)))), (callE F_first_letters [(vE 5)]), (callE F_runs_in [(vE 5)])])
      (env12 h (tx w) (.im (turnsL w)) (.im (tx (L w))) s4 (.im (tx t)) s6 s7 s8 s9 s10 .un) = some (due5 w, env12 h (tx w) (.im (turnsL w)) (.im (tx (L w))) s4 (.im (tx t)) s6 s7 s8 s9 s10 .un) := by
    unfold env12 due5
    simp only [runD, runF, runM, ini, op1, op2, opN, Opd.ev, Opd.fin, evs, fins, vE, cE, evl, lstE, tupE, callE, rd, SD.get, bT, andT, orT, notT, andE, orE, notE, ifE, yesT, seqS, seqFS, asgS, retS, retN, ifS, dropS, nilS, run1, gN, gT, gAll, chainE, sliE, ptE, metE, isT_tx, isT_list, itI, enI, zipI, rngI, parS, evp, setp, setM, setI, ownd, upc, mutK, isL, callM, lent, forS, List.set_cons_zero, List.set_cons_succ, List.getElem?_cons_zero, List.getElem?_cons_succ, Option.bind_some, Option.map_some, Option.bind_none, Option.map_none, cond_true, cond_false, List.map_cons, List.map_nil, List.replicate_succ, List.replicate_zero, List.length_cons, List.length_nil, List.cons_append, List.nil_append, Nat.reduceAdd, Nat.reduceSub, Nat.sub_self, Nat.sub_zero, Nat.add_zero, Nat.zero_add, Nat.reduceLT, Bool.not_true, Bool.not_false, Bool.true_and, Bool.and_true, Bool.false_and, Bool.and_false, if_true, if_false, ite_true, ite_false, decide_true, decide_false, beq_self_eq_true, Bool.false_eq_true, e1, sr, ef, i0, e2, e3]
  have due : (lstE [(vE 3), (cE (.bool true)), (cE (.int 0)), (metE "str" joinD (.e (cE (tx []))) [(.e (opN sortD [(.s 1)]))]), (op2 addD (.e (cE (.int 1))) (.e (opN lenD [(.e c__law_is_right_3)])))])
      (env12 h (tx w) (.im (turnsL w)) (.im (tx (L w))) s4 (.im (tx t)) (.im (due5 w)) s7 s8 s9 s10 .un) = some (due5 w, env12 h (tx w) (.im (turnsL w)) (.im (tx (L w))) s4 (.im (tx t)) (.im (due5 w)) s7 s8 s9 s10 .un) := by
    unfold env12 due5
    simp only [runD, runF, runM, ini, op1, op2, opN, Opd.ev, Opd.fin, evs, fins, vE, cE, evl, lstE, tupE, callE, rd, SD.get, bT, andT, orT, notT, andE, orE, notE, ifE, yesT, seqS, seqFS, asgS, retS, retN, ifS, dropS, nilS, run1, gN, gT, gAll, chainE, sliE, ptE, metE, isT_tx, isT_list, itI, enI, zipI, rngI, parS, evp, setp, setM, setI, ownd, upc, mutK, isL, callM, lent, forS, List.set_cons_zero, List.set_cons_succ, List.getElem?_cons_zero, List.getElem?_cons_succ, Option.bind_some, Option.map_some, Option.bind_none, Option.map_none, cond_true, cond_false, List.map_cons, List.map_nil, List.replicate_succ, List.replicate_zero, List.length_cons, List.length_nil, List.cons_append, List.nil_append, Nat.reduceAdd, Nat.reduceSub, Nat.sub_self, Nat.sub_zero, Nat.add_zero, Nat.zero_add, Nat.reduceLT, Bool.not_true, Bool.not_false, Bool.true_and, Bool.and_true, Bool.false_and, Bool.and_false, if_true, if_false, ite_true, ite_false, decide_true, decide_false, beq_self_eq_true, Bool.false_eq_true, sortD_str _ (big12 hw.2.1), join_sorted w hw.2.1, c_due h (.im (tx w)) (.im (turnsL w)) (L w) hL1 hLl, lenD_list, List.length_map, addD_int]
    rw [← List.countP_eq_length_filter]; rfl
  have p1 := place_of_eq t wt
  have ixp : ixD (turnsL w) (.int (pl t : Nat)) = some (tx t) := by
    unfold turnsL
    rw [ixD_list, List.getElem?_map, ← T_rot ht, pl_T wt.1]; rfl
  have fr := from_last_eq t wt
  rw [L_T ht] at fr
  have li1 := law_is_eq (due5 w) (fit_due5 w hw)
  have li2 := law_is_eq (tx t) ((fit_w 9 wt.2).up (by decide))
  refine ⟨.im (due5 w), .im (due5 w), ?_⟩
  rw [seq_asg told (show gN 6 (due5 w) (env12 h (tx w) (.im (turnsL w)) (.im (tx (L w))) s4 (.im (tx t)) s6 s7 s8 s9 s10 .un) = some (env12 h (tx w) (.im (turnsL w)) (.im (tx (L w))) s4 (.im (tx t)) (.im (due5 w)) s7 s8 s9 s10 .un) from rfl)]
  rw [seq_asg due (show gN 7 (due5 w) (env12 h (tx w) (.im (turnsL w)) (.im (tx (L w))) s4 (.im (tx t)) (.im (due5 w)) s7 s8 s9 s10 .un) = some (env12 h (tx w) (.im (turnsL w)) (.im (tx (L w))) s4 (.im (tx t)) (.im (due5 w)) (.im (due5 w)) s8 s9 s10 .un) from rfl)]
  unfold env12
  simp only [runD, runF, runM, ini, op1, op2, opN, Opd.ev, Opd.fin, evs, fins, vE, cE, evl, lstE, tupE, callE, rd, SD.get, bT, andT, orT, notT, andE, orE, notE, ifE, yesT, seqS, seqFS, asgS, retS, retN, ifS, dropS, nilS, run1, gN, gT, gAll, chainE, sliE, ptE, metE, isT_tx, isT_list, itI, enI, zipI, rngI, parS, evp, setp, setM, setI, ownd, upc, mutK, isL, callM, lent, forS, List.set_cons_zero, List.set_cons_succ, List.getElem?_cons_zero, List.getElem?_cons_succ, Option.bind_some, Option.map_some, Option.bind_none, Option.map_none, cond_true, cond_false, List.map_cons, List.map_nil, List.replicate_succ, List.replicate_zero, List.length_cons, List.length_nil, List.cons_append, List.nil_append, Nat.reduceAdd, Nat.reduceSub, Nat.sub_self, Nat.sub_zero, Nat.add_zero, Nat.zero_add, Nat.reduceLT, Bool.not_true, Bool.not_false, Bool.true_and, Bool.and_true, Bool.false_and, Bool.and_false, if_true, if_false, ite_true, ite_false, decide_true, decide_false, beq_self_eq_true, Bool.false_eq_true, li1, p1, ixp, neD_tx, fr, li2]
theorem turns_loop (h : D) (hh : Hand h) (w : Wd) (hw : wrd w) (s4 s5 : SD) : ∃ (h' : D) (o5 o6 o7 : SD), Hand h' ∧ l__law_is_right_4 (env12 h (tx w) (.im (turnsL w)) (.im (tx (L w))) s4 s5 .un .un .un .un .un .un) = some (.nx (env12 h' (tx w) (.im (turnsL w)) (.im (tx (L w))) s4 o5 o6 o7 .un .un .un .un)) := by
  obtain ⟨rs, h', e, hh', hl, hr⟩ := draws3 h hh w hw (.im (tx (L w))) s4 s5
  unfold l__law_is_right_4 forS
  have src : itI c__law_is_right_2 (env12 h (tx w) (.im (turnsL w)) (.im (tx (L w))) s4 s5 .un .un .un .un .un .un) = some (rs, env12 h' (tx w) (.im (turnsL w)) (.im (tx (L w))) s4 s5 .un .un .un .un .un .un) := by
    unfold itI
    rw [e]; rfl
  rw [src, Option.bind_some]
  obtain ⟨ε', h1, o5, o6, o7, rfl⟩ := forL_inv (g := gN 5) (body := _) (fun k ε => ∃ (o5 o6 o7 : SD), ε = env12 h' (tx w) (.im (turnsL w)) (.im (tx (L w))) s4 o5 o6 o7 .un .un .un .un)
    rs 0 (env12 h' (tx w) (.im (turnsL w)) (.im (tx (L w))) s4 s5 .un .un .un .un .un .un) ⟨_, _, _, rfl⟩ (fun i d ε hd hI => by
      obtain ⟨o5, o6, o7, rfl⟩ := hI
      obtain ⟨t, ht, rfl⟩ := hr d (List.mem_of_getElem? hd)
      obtain ⟨u6, u7, eb⟩ := turn_body h' w t hw ht s4 o6 o7 .un .un .un
      exact ⟨_, _, rfl, eb, _, .inl rfl, _, _, _, rfl⟩)
  exact ⟨h', o5, o6, o7, hh', h1⟩
end T4

-- K4h
namespace T4
open PySem PL BW
theorem c_order (h w : D) (s2 s3 s4 s5 s6 s7 s9 s11 : SD) (v : Wd) (hv : v.length ≤ 12) (e : w = tx v) : c__law_is_right_5 [.ln h, .im w, s2, s3, s4, s5, s6, s7, .im (.tuple ((O v).map fun m => PyData.int (m : Nat))), s9, .un, s11] = some (turnsL v, [.ln h, .im w, s2, s3, s4, s5, s6, s7, .im (.tuple ((O v).map fun m => PyData.int (m : Nat))), s9, .un, s11]) := by
  subst e
  have hb := big12 hv
  have et : turnsL v = .list ((O v).map fun m => tx (rot m v)) := by unfold turnsL; rw [← O_T v, List.map_map]; rfl
  rw [et]
  unfold c__law_is_right_5
  refine lcE_map (fun m => PyData.int (m : Nat)) (fun m => tx (rot m v)) (O v) rfl rfl (by rw [O_len]; exact hb) (fun x hx => ⟨[.ln h, .im (tx v), s2, s3, s4, s5, s6, s7, .im (.tuple ((O v).map fun m => PyData.int (m : Nat))), s9, .im (.int (x : Nat)), s11], rfl, [.ln h, .im (tx v), s2, s3, s4, s5, s6, s7, .im (.tuple ((O v).map fun m => PyData.int (m : Nat))), s9, .im (.int (x : Nat)), s11], ?_, rfl⟩) rfl
  have hx' := Nat.le_of_lt (O_lt hx)
  have h2 : (v.drop x).length + (v.take x).length ≤ big := by rw [List.length_drop, List.length_take]; omega
  simp only [runD, runF, runM, ini, op1, op2, opN, Opd.ev, Opd.fin, evs, fins, vE, cE, evl, lstE, tupE, callE, rd, SD.get, bT, andT, orT, notT, andE, orE, notE, ifE, yesT, seqS, seqFS, asgS, retS, retN, ifS, dropS, nilS, run1, gN, gT, gAll, chainE, sliE, ptE, metE, isT_tx, isT_list, itI, enI, zipI, rngI, parS, evp, setp, setM, setI, ownd, upc, mutK, isL, callM, lent, forS, List.set_cons_zero, List.set_cons_succ, List.getElem?_cons_zero, List.getElem?_cons_succ, Option.bind_some, Option.map_some, Option.bind_none, Option.map_none, cond_true, cond_false, List.map_cons, List.map_nil, List.replicate_succ, List.replicate_zero, List.length_cons, List.length_nil, List.cons_append, List.nil_append, Nat.reduceAdd, Nat.reduceSub, Nat.sub_self, Nat.sub_zero, Nat.add_zero, Nat.zero_add, Nat.reduceLT, Bool.not_true, Bool.not_false, Bool.true_and, Bool.and_true, Bool.false_and, Bool.and_false, if_true, if_false, ite_true, ite_false, decide_true, decide_false, beq_self_eq_true, Bool.false_eq_true, slD_from v x hb hx', slD_to v x hb, addD_tx _ _ h2, rot]
theorem eq_turns (w : Wd) : eqD (turnsL w) (turnsL w) = some (.bool true) := by
  have ok : okk (turnsL w) (turnsL w) = true := by
    show ((((T w).map tx).all (okD 8)) && (((T w).map tx).all (okD 8))) = true
    rw [all_tx]; rfl
  have e : ∀ l : List Wd, PyData.eqvAll (l.map tx) (l.map tx) = true := fun l => by
    induction l with
    | nil => simp [PyData.eqvAll]
    | cons x l ih => simp only [List.map_cons, PyData.eqvAll, ih, eqv_tx, decide_true, Bool.and_self]
  show (if okk (turnsL w) (turnsL w) = true then some (PyData.bool (PyData.eqv (turnsL w) (turnsL w))) else none) = _
  rw [if_pos ok]
  unfold turnsL
  rw [eqv_list, e]
theorem is_right_eq (h : D) (hh : Hand h) (w : Wd) (hw : wrd w) : ∃ h', F__law_is_right h [tx w] = some (.bool true, h') ∧ Hand h' := by
  have s1 : (tupE [(callE F__law_turns [(vE 1)]), (callE F__law_last [(vE 1)])]) (env12 h (tx w) .un .un .un .un .un .un .un .un .un .un) = some (.tuple [turnsL w, tx (L w)], env12 h (tx w) .un .un .un .un .un .un .un .un .un .un) := by
    unfold env12
    simp only [runD, runF, runM, ini, op1, op2, opN, Opd.ev, Opd.fin, evs, fins, vE, cE, evl, lstE, tupE, callE, rd, SD.get, bT, andT, orT, notT, andE, orE, notE, ifE, yesT, seqS, seqFS, asgS, retS, retN, ifS, dropS, nilS, run1, gN, gT, gAll, chainE, sliE, ptE, metE, isT_tx, isT_list, itI, enI, zipI, rngI, parS, evp, setp, setM, setI, ownd, upc, mutK, isL, callM, lent, forS, List.set_cons_zero, List.set_cons_succ, List.getElem?_cons_zero, List.getElem?_cons_succ, Option.bind_some, Option.map_some, Option.bind_none, Option.map_none, cond_true, cond_false, List.map_cons, List.map_nil, List.replicate_succ, List.replicate_zero, List.length_cons, List.length_nil, List.cons_append, List.nil_append, Nat.reduceAdd, Nat.reduceSub, Nat.sub_self, Nat.sub_zero, Nat.add_zero, Nat.zero_add, Nat.reduceLT, Bool.not_true, Bool.not_false, Bool.true_and, Bool.and_true, Bool.false_and, Bool.and_false, if_true, if_false, ite_true, ite_false, decide_true, decide_false, beq_self_eq_true, Bool.false_eq_true, law_turns_eq w hw.2.1, law_last_eq w hw]
  obtain ⟨a5, s3⟩ := alike_loop h w hw.2.1 (.im (tx (L w)))
  have f3 := law_is_eq _ (fit3 w hw)
  have s4 : (notT (bT (callE F__law_is [(lstE [(callE F_last_letters [(vE 1)]), (callE F_words_like [(vE 3)]), (callE F_least_turn [(vE 1)])]), (lstE [(vE 3), (opN tupFD [(.s 4)]), (op2 ixD (.s 2) (.e (cE (.int 0))))])])))
      (env12 h (tx w) (.im (turnsL w)) (.im (tx (L w))) (.mu (.list ((U w).map tx))) a5 .un .un .un .un .un .un) = some (false, env12 h (tx w) (.im (turnsL w)) (.im (tx (L w))) (.mu (.list ((U w).map tx))) a5 .un .un .un .un .un .un) := by
    unfold env12
    simp only [runD, runF, runM, ini, op1, op2, opN, Opd.ev, Opd.fin, evs, fins, vE, cE, evl, lstE, tupE, callE, rd, SD.get, bT, andT, orT, notT, andE, orE, notE, ifE, yesT, seqS, seqFS, asgS, retS, retN, ifS, dropS, nilS, run1, gN, gT, gAll, chainE, sliE, ptE, metE, isT_tx, isT_list, itI, enI, zipI, rngI, parS, evp, setp, setM, setI, ownd, upc, mutK, isL, callM, lent, forS, List.set_cons_zero, List.set_cons_succ, List.getElem?_cons_zero, List.getElem?_cons_succ, Option.bind_some, Option.map_some, Option.bind_none, Option.map_none, cond_true, cond_false, List.map_cons, List.map_nil, List.replicate_succ, List.replicate_zero, List.length_cons, List.length_nil, List.cons_append, List.nil_append, Nat.reduceAdd, Nat.reduceSub, Nat.sub_self, Nat.sub_zero, Nat.add_zero, Nat.zero_add, Nat.reduceLT, Bool.not_true, Bool.not_false, Bool.true_and, Bool.and_true, Bool.false_and, Bool.and_false, if_true, if_false, ite_true, ite_false, decide_true, decide_false, beq_self_eq_true, Bool.false_eq_true, last_letters_eq w hw, words_like_eq w hw, least_turn_eq w hw, tupFD, ix_hd w hw, f3]
  have lt : lenD [turnsL w] = some (.int (w.length : Nat)) := by unfold turnsL; rw [lenD_list, List.length_map, T_len]
  have lu : lenD [.list ((U w).map tx)] = some (.int ((U w).length : Nat)) := by rw [lenD_list, List.length_map]
  have su : s64 ((U w).length : Nat) = true := by
    have := U_len12 hw.2.1
    exact s64_of (by omega) (by omega)
  have mul : mulD (.int ((U w).length : Nat)) (.int ((T w).count w : Nat)) = some (.int (w.length : Nat)) := by
    rw [mulD_l _ _ su]
    have := len_U w
    rw [T_len] at this
    rw [this, Int.natCast_mul]
  have ne0 : neD (.int (w.length : Nat)) (.int (w.length : Nat)) = some (.bool false) := by rw [neD_int]; simp
  have isl := is_last_eq w hw
  have fb := law_is_eq (.bool true) ((fit_bool 9 true).up (by decide))
  have s5 : (orT (bT (op2 neD (.e (opN lenD [(.s 2)])) (.e (op2 mulD (.e (opN lenD [(.s 4)])) (.e (metE "list" countLD (.s 2) [(.s 1)])))))) (notT (bT (callE F__law_is [(callE F_is_last [(vE 3)]), (cE (.bool true))]))))
      (env12 h (tx w) (.im (turnsL w)) (.im (tx (L w))) (.mu (.list ((U w).map tx))) a5 .un .un .un .un .un .un) = some (false, env12 h (tx w) (.im (turnsL w)) (.im (tx (L w))) (.mu (.list ((U w).map tx))) a5 .un .un .un .un .un .un) := by
    have q1 : (opN lenD [(.s 2)]) (env12 h (tx w) (.im (turnsL w)) (.im (tx (L w))) (.mu (.list ((U w).map tx))) a5 .un .un .un .un .un .un) = some (.int (w.length : Nat), env12 h (tx w) (.im (turnsL w)) (.im (tx (L w))) (.mu (.list ((U w).map tx))) a5 .un .un .un .un .un .un) := by
      unfold env12
      simp only [runD, runF, runM, ini, op1, op2, opN, Opd.ev, Opd.fin, evs, fins, vE, cE, evl, lstE, tupE, callE, rd, SD.get, bT, andT, orT, notT, andE, orE, notE, ifE, yesT, seqS, seqFS, asgS, retS, retN, ifS, dropS, nilS, run1, gN, gT, gAll, chainE, sliE, ptE, metE, isT_tx, isT_list, itI, enI, zipI, rngI, parS, evp, setp, setM, setI, ownd, upc, mutK, isL, callM, lent, forS, List.set_cons_zero, List.set_cons_succ, List.getElem?_cons_zero, List.getElem?_cons_succ, Option.bind_some, Option.map_some, Option.bind_none, Option.map_none, cond_true, cond_false, List.map_cons, List.map_nil, List.replicate_succ, List.replicate_zero, List.length_cons, List.length_nil, List.cons_append, List.nil_append, Nat.reduceAdd, Nat.reduceSub, Nat.sub_self, Nat.sub_zero, Nat.add_zero, Nat.zero_add, Nat.reduceLT, Bool.not_true, Bool.not_false, Bool.true_and, Bool.and_true, Bool.false_and, Bool.and_false, if_true, if_false, ite_true, ite_false, decide_true, decide_false, beq_self_eq_true, Bool.false_eq_true, lt]
    have q2 : (opN lenD [(.s 4)]) (env12 h (tx w) (.im (turnsL w)) (.im (tx (L w))) (.mu (.list ((U w).map tx))) a5 .un .un .un .un .un .un) = some (.int ((U w).length : Nat), env12 h (tx w) (.im (turnsL w)) (.im (tx (L w))) (.mu (.list ((U w).map tx))) a5 .un .un .un .un .un .un) := by
      unfold env12
      simp only [runD, runF, runM, ini, op1, op2, opN, Opd.ev, Opd.fin, evs, fins, vE, cE, evl, lstE, tupE, callE, rd, SD.get, bT, andT, orT, notT, andE, orE, notE, ifE, yesT, seqS, seqFS, asgS, retS, retN, ifS, dropS, nilS, run1, gN, gT, gAll, chainE, sliE, ptE, metE, isT_tx, isT_list, itI, enI, zipI, rngI, parS, evp, setp, setM, setI, ownd, upc, mutK, isL, callM, lent, forS, List.set_cons_zero, List.set_cons_succ, List.getElem?_cons_zero, List.getElem?_cons_succ, Option.bind_some, Option.map_some, Option.bind_none, Option.map_none, cond_true, cond_false, List.map_cons, List.map_nil, List.replicate_succ, List.replicate_zero, List.length_cons, List.length_nil, List.cons_append, List.nil_append, Nat.reduceAdd, Nat.reduceSub, Nat.sub_self, Nat.sub_zero, Nat.add_zero, Nat.zero_add, Nat.reduceLT, Bool.not_true, Bool.not_false, Bool.true_and, Bool.and_true, Bool.false_and, Bool.and_false, if_true, if_false, ite_true, ite_false, decide_true, decide_false, beq_self_eq_true, Bool.false_eq_true, lu]
    have itl : isT "list" (turnsL w) = true := rfl
    have q3 : (metE "list" countLD (.s 2) [(.s 1)]) (env12 h (tx w) (.im (turnsL w)) (.im (tx (L w))) (.mu (.list ((U w).map tx))) a5 .un .un .un .un .un .un) = some (.int ((T w).count w : Nat), env12 h (tx w) (.im (turnsL w)) (.im (tx (L w))) (.mu (.list ((U w).map tx))) a5 .un .un .un .un .un .un) := by
      unfold env12
      simp only [runD, runF, runM, ini, op1, op2, opN, Opd.ev, Opd.fin, evs, fins, vE, cE, evl, lstE, tupE, callE, rd, SD.get, bT, andT, orT, notT, andE, orE, notE, ifE, yesT, seqS, seqFS, asgS, retS, retN, ifS, dropS, nilS, run1, gN, gT, gAll, chainE, sliE, ptE, metE, isT_tx, isT_list, itI, enI, zipI, rngI, parS, evp, setp, setM, setI, ownd, upc, mutK, isL, callM, lent, forS, List.set_cons_zero, List.set_cons_succ, List.getElem?_cons_zero, List.getElem?_cons_succ, Option.bind_some, Option.map_some, Option.bind_none, Option.map_none, cond_true, cond_false, List.map_cons, List.map_nil, List.replicate_succ, List.replicate_zero, List.length_cons, List.length_nil, List.cons_append, List.nil_append, Nat.reduceAdd, Nat.reduceSub, Nat.sub_self, Nat.sub_zero, Nat.add_zero, Nat.zero_add, Nat.reduceLT, Bool.not_true, Bool.not_false, Bool.true_and, Bool.and_true, Bool.false_and, Bool.and_false, if_true, if_false, ite_true, ite_false, decide_true, decide_false, beq_self_eq_true, Bool.false_eq_true, count_turns w hw.2.1, itl]
    have q4 : (notT (bT (callE F__law_is [(callE F_is_last [(vE 3)]), (cE (.bool true))]))) (env12 h (tx w) (.im (turnsL w)) (.im (tx (L w))) (.mu (.list ((U w).map tx))) a5 .un .un .un .un .un .un) = some (false, env12 h (tx w) (.im (turnsL w)) (.im (tx (L w))) (.mu (.list ((U w).map tx))) a5 .un .un .un .un .un .un) := by
      unfold env12
      simp only [runD, runF, runM, ini, op1, op2, opN, Opd.ev, Opd.fin, evs, fins, vE, cE, evl, lstE, tupE, callE, rd, SD.get, bT, andT, orT, notT, andE, orE, notE, ifE, yesT, seqS, seqFS, asgS, retS, retN, ifS, dropS, nilS, run1, gN, gT, gAll, chainE, sliE, ptE, metE, isT_tx, isT_list, itI, enI, zipI, rngI, parS, evp, setp, setM, setI, ownd, upc, mutK, isL, callM, lent, forS, List.set_cons_zero, List.set_cons_succ, List.getElem?_cons_zero, List.getElem?_cons_succ, Option.bind_some, Option.map_some, Option.bind_none, Option.map_none, cond_true, cond_false, List.map_cons, List.map_nil, List.replicate_succ, List.replicate_zero, List.length_cons, List.length_nil, List.cons_append, List.nil_append, Nat.reduceAdd, Nat.reduceSub, Nat.sub_self, Nat.sub_zero, Nat.add_zero, Nat.zero_add, Nat.reduceLT, Bool.not_true, Bool.not_false, Bool.true_and, Bool.and_true, Bool.false_and, Bool.and_false, if_true, if_false, ite_true, ite_false, decide_true, decide_false, beq_self_eq_true, Bool.false_eq_true, isl, fb]
    exact orT_f (bT_of (op2_e q1 (op2_e q2 q3 mul) ne0)) q4
  obtain ⟨h', o5, o6, o7, hh', s6⟩ := turns_loop h hh w hw (.mu (.list ((U w).map tx))) a5
  refine ⟨h', ?_, hh'⟩
  have i0 : (SD.ln h :: ini (12 - 1) [tx w]) = env12 h (tx w) .un .un .un .un .un .un .un .un .un .un := rfl
  unfold F__law_is_right runM W__law_is_right
  rw [i0, seq_asg s1 (show gT [gN 2, gN 3] (.tuple [turnsL w, tx (L w)]) (env12 h (tx w) .un .un .un .un .un .un .un .un .un .un) = some (env12 h (tx w) (.im (turnsL w)) (.im (tx (L w))) .un .un .un .un .un .un .un .un) from rfl)]
  rw [seq_nx (show setM 4 (lstE []) (env12 h (tx w) (.im (turnsL w)) (.im (tx (L w))) .un .un .un .un .un .un .un .un) = some (.nx (env12 h (tx w) (.im (turnsL w)) (.im (tx (L w))) (.mu (.list (([] : List Wd).map tx))) .un .un .un .un .un .un .un)) from rfl)]
  rw [seq_nx s3, seq_if s4 rfl, seq_if s5 rfl, seq_nx s6]
  have s7 : (callE F_turns_in_order [(vE 1)]) (env12 h' (tx w) (.im (turnsL w)) (.im (tx (L w))) (.mu (.list ((U w).map tx))) o5 o6 o7 .un .un .un .un) = some (.tuple ((O w).map fun m => PyData.int (m : Nat)), env12 h' (tx w) (.im (turnsL w)) (.im (tx (L w))) (.mu (.list ((U w).map tx))) o5 o6 o7 .un .un .un .un) := by
    unfold env12
    simp only [runD, runF, runM, ini, op1, op2, opN, Opd.ev, Opd.fin, evs, fins, vE, cE, evl, lstE, tupE, callE, rd, SD.get, bT, andT, orT, notT, andE, orE, notE, ifE, yesT, seqS, seqFS, asgS, retS, retN, ifS, dropS, nilS, run1, gN, gT, gAll, chainE, sliE, ptE, metE, isT_tx, isT_list, itI, enI, zipI, rngI, parS, evp, setp, setM, setI, ownd, upc, mutK, isL, callM, lent, forS, List.set_cons_zero, List.set_cons_succ, List.getElem?_cons_zero, List.getElem?_cons_succ, Option.bind_some, Option.map_some, Option.bind_none, Option.map_none, cond_true, cond_false, List.map_cons, List.map_nil, List.replicate_succ, List.replicate_zero, List.length_cons, List.length_nil, List.cons_append, List.nil_append, Nat.reduceAdd, Nat.reduceSub, Nat.sub_self, Nat.sub_zero, Nat.add_zero, Nat.zero_add, Nat.reduceLT, Bool.not_true, Bool.not_false, Bool.true_and, Bool.and_true, Bool.false_and, Bool.and_false, if_true, if_false, ite_true, ite_false, decide_true, decide_false, beq_self_eq_true, Bool.false_eq_true, turns_in_order_eq w hw]
  rw [seq_asg s7 (show gN 8 (.tuple ((O w).map fun m => PyData.int (m : Nat))) (env12 h' (tx w) (.im (turnsL w)) (.im (tx (L w))) (.mu (.list ((U w).map tx))) o5 o6 o7 .un .un .un .un) = some [.ln h', .im (tx w), .im (turnsL w), .im (tx (L w)), .mu (.list ((U w).map tx)), o5, o6, o7, .im (.tuple ((O w).map fun m => PyData.int (m : Nat))), .un, .un, .un] from rfl)]
  have s8 := c_order h' (tx w) (.im (turnsL w)) (.im (tx (L w))) (.mu (.list ((U w).map tx))) o5 o6 o7 .un .un w hw.2.1 rfl
  simp only [runD, runF, runM, ini, op1, op2, opN, Opd.ev, Opd.fin, evs, fins, vE, cE, evl, lstE, tupE, callE, rd, SD.get, bT, andT, orT, notT, andE, orE, notE, ifE, yesT, seqS, seqFS, asgS, retS, retN, ifS, dropS, nilS, run1, gN, gT, gAll, chainE, sliE, ptE, metE, isT_tx, isT_list, itI, enI, zipI, rngI, parS, evp, setp, setM, setI, ownd, upc, mutK, isL, callM, lent, forS, List.set_cons_zero, List.set_cons_succ, List.getElem?_cons_zero, List.getElem?_cons_succ, Option.bind_some, Option.map_some, Option.bind_none, Option.map_none, cond_true, cond_false, List.map_cons, List.map_nil, List.replicate_succ, List.replicate_zero, List.length_cons, List.length_nil, List.cons_append, List.nil_append, Nat.reduceAdd, Nat.reduceSub, Nat.sub_self, Nat.sub_zero, Nat.add_zero, Nat.zero_add, Nat.reduceLT, Bool.not_true, Bool.not_false, Bool.true_and, Bool.and_true, Bool.false_and, Bool.and_false, if_true, if_false, ite_true, ite_false, decide_true, decide_false, beq_self_eq_true, Bool.false_eq_true, s8, eq_turns]
/-! the letters laid anew -/
theorem popM_at (xs : List Wd) (i : Nat) (h : i < xs.length) (h2 : xs.length ≤ 1000) : popM (.list (xs.map tx)) [.int (i : Nat)] = some (tx (xs.getD i []), .list ((xs.eraseIdx i).map tx)) := by
  have lo : lowI (i : Int) = true := by unfold lowI; rw [Bool.and_eq_true, decide_eq_true_eq, decide_eq_true_eq]; omega
  have ix : L2.ixN (xs.map tx).length (i : Int) = some i := by
    unfold L2.ixN
    rw [if_pos (by omega), if_pos (by rw [List.length_map]; omega)]; simp
  show (if lowI (i : Int) = true then (L2.ixN (xs.map tx).length (i : Int)).bind fun k => ((xs.map tx)[k]?).map fun y => (y, PyData.list ((xs.map tx).eraseIdx k)) else none) = _
  rw [if_pos lo, ix, Option.bind_some, List.getElem?_map, List.getElem?_eq_getElem h]
  have er : (xs.map tx).eraseIdx i = (xs.eraseIdx i).map tx := by
    rw [List.eraseIdx_eq_take_drop_succ, List.eraseIdx_eq_take_drop_succ, List.map_append, List.map_take, List.map_drop]
  rw [er, List.getD_eq_getElem?_getD, List.getElem?_eq_getElem h]; rfl
theorem listF_tx (w : Wd) (h : w.length ≤ big) : listFD [tx w] = some (.list ((w.map fun c => [c]).map tx)) := by
  show (if (sL ⟨w.toArray⟩).length ≤ big then some (PyData.list ((sL ⟨w.toArray⟩).map fun c => tx [c])) else none) = _
  rw [sL_mk, if_pos h, List.map_map]; rfl
theorem ne_nil (xs : List Wd) : neD (.list (xs.map tx)) (.list []) = some (.bool (!xs.isEmpty)) := by
  have ok : okk (.list (xs.map tx)) (.list []) = true := by
    show (((xs.map tx).all (okD 8)) && true) = true
    rw [all_tx]; rfl
  show (if okk (.list (xs.map tx)) (.list []) = true then some (PyData.bool (!PyData.eqv (.list (xs.map tx)) (.list []))) else none) = _
  rw [if_pos ok, eqv_list]
  cases xs with
  | nil => simp [PyData.eqvAll]
  | cons x xs => simp [PyData.eqvAll]
theorem erase_perm {l : List Nat} {i : Nat} (h : i < l.length) : (l[i] :: l.eraseIdx i).Perm l := by
  rw [List.eraseIdx_eq_take_drop_succ]
  have e : l = l.take i ++ l[i] :: l.drop (i + 1) := by rw [← List.drop_eq_getElem_cons h, List.take_append_drop]
  conv => rhs; rw [e]
  exact List.perm_middle.symm
theorem mixed (h : D) (hh : Hand h) (w : Wd) (hw : wrd w) : ∃ (h' : D) (v : Wd), Hand h' ∧ v.Perm w ∧ l__law_is_apart_1 [.ln h, .im (tx w), .mu (.list ((w.map fun c => [c]).map tx)), .im (tx []), .un, .un] = some (.nx [.ln h', .im (tx w), .mu (.list []), .im (tx v), .un, .un]) := by
  unfold l__law_is_apart_1
  obtain ⟨ε', e, h', v, hh', hv, rfl⟩ := whileL_run (t := bT (op2 neD (.s 2) (.e (lstE [])))) (body := asgS (op2 addD (.s 3) (.e (mutK isL popM 2 [(callM F__law_draw 0 [(opN lenD [(.s 2)])])]))) (gN 3))
    (fun n ε => ∃ (h' : D) (l v : Wd), Hand h' ∧ l.length = n ∧ (v ++ l).Perm w ∧ ε = [.ln h', .im (tx w), .mu (.list ((l.map fun c => [c]).map tx)), .im (tx v), .un, .un])
    (fun ε => ∃ (h' : D) (v : Wd), Hand h' ∧ v.Perm w ∧ ε = [.ln h', .im (tx w), .mu (.list []), .im (tx v), .un, .un])
    (fun ε hI => by
      obtain ⟨h', l, v, hh', hl, hp, rfl⟩ := hI
      have l0 : l = [] := List.eq_nil_of_length_eq_zero hl
      subst l0
      rw [List.append_nil] at hp
      refine ⟨_, ?_, h', v, hh', hp, rfl⟩
      have := ne_nil []
      rw [List.map_nil] at this
      have q : (op2 neD (.s 2) (.e (lstE []))) [.ln h', .im (tx w), .mu (.list []), .im (tx v), .un, .un] = some (.bool false, [.ln h', .im (tx w), .mu (.list []), .im (tx v), .un, .un]) := by
        simp only [op2, Opd.ev, Opd.fin, lstE, evl, rd, SD.get, List.getElem?_cons_zero, List.getElem?_cons_succ, Option.bind_some, this, List.isEmpty_nil, Bool.not_true]
      exact bT_of q)
    (fun n ε hI => by
      obtain ⟨h', l, v, hh', hl, hp, rfl⟩ := hI
      have hlw : v.length + l.length = w.length := by rw [← List.length_append]; exact hp.length_eq
      have h12 := hw.2.1
      obtain ⟨r, h2, ed, hh2, hr⟩ := draw_ex h' hh' l.length (by omega) (by omega)
      have hr' : r < (l.map fun c => [c]).length := by rw [List.length_map]; exact hr
      have po := popM_at (l.map fun c => [c]) r hr' (by rw [List.length_map]; omega)
      have gd : (l.map fun c => [c]).getD r [] = [l[r]] := by rw [List.getD_eq_getElem?_getD, List.getElem?_map, List.getElem?_eq_getElem hr]; rfl
      have er : (l.map fun c => [c]).eraseIdx r = (l.eraseIdx r).map fun c => [c] := by
        rw [List.eraseIdx_eq_take_drop_succ, List.eraseIdx_eq_take_drop_succ, List.map_append, List.map_take, List.map_drop]
      rw [gd, er] at po
      have ne := ne_nil (l.map fun c => [c])
      have em : (l.map fun c => [c]).isEmpty = false := by
        cases l with
        | nil => simp at hl
        | cons x l => rfl
      rw [em] at ne
      have ln : lenD [.list ((l.map fun c => [c]).map tx)] = some (.int (l.length : Nat)) := by rw [lenD_list, List.length_map, List.length_map]
      have isr : ∀ q : List D, isL (.list q) = true := fun _ => rfl
      have ad := addD_tx v [l[r]] (by rw [List.length_singleton]; unfold big; omega)
      refine ⟨[.ln h', .im (tx w), .mu (.list ((l.map fun c => [c]).map tx)), .im (tx v), .un, .un], [.ln h2, .im (tx w), .mu (.list (((l.eraseIdx r).map fun c => [c]).map tx)), .im (tx (v ++ [l[r]])), .un, .un], ?_, ?_, h2, l.eraseIdx r, v ++ [l[r]], hh2, by rw [List.length_eraseIdx_of_lt hr]; omega, ?_, rfl⟩
      · have q : (op2 neD (.s 2) (.e (lstE []))) [.ln h', .im (tx w), .mu (.list ((l.map fun c => [c]).map tx)), .im (tx v), .un, .un] = some (.bool true, [.ln h', .im (tx w), .mu (.list ((l.map fun c => [c]).map tx)), .im (tx v), .un, .un]) := by
          simp only [op2, Opd.ev, Opd.fin, lstE, evl, rd, SD.get, List.getElem?_cons_zero, List.getElem?_cons_succ, Option.bind_some, ne, Bool.not_false]
        exact bT_of q
      · have q1 : (opN lenD [(.s 2)]) [.ln h', .im (tx w), .mu (.list ((l.map fun c => [c]).map tx)), .im (tx v), .un, .un] = some (.int (l.length : Nat), [.ln h', .im (tx w), .mu (.list ((l.map fun c => [c]).map tx)), .im (tx v), .un, .un]) := by
          simp only [opN, evs, fins, Opd.ev, Opd.fin, rd, SD.get, List.getElem?_cons_zero, List.getElem?_cons_succ, Option.bind_some, ln]
        have q2 : (callM F__law_draw 0 [(opN lenD [(.s 2)])]) [.ln h', .im (tx w), .mu (.list ((l.map fun c => [c]).map tx)), .im (tx v), .un, .un] = some (.int (r : Nat), [.ln h2, .im (tx w), .mu (.list ((l.map fun c => [c]).map tx)), .im (tx v), .un, .un]) := by
          exact callM_of rfl (evl_one q1) rfl ed rfl
        have q3 : (mutK isL popM 2 [(callM F__law_draw 0 [(opN lenD [(.s 2)])])]) [.ln h', .im (tx w), .mu (.list ((l.map fun c => [c]).map tx)), .im (tx v), .un, .un] = some (tx [l[r]], [.ln h2, .im (tx w), .mu (.list (((l.eraseIdx r).map fun c => [c]).map tx)), .im (tx v), .un, .un]) := by
          exact mutK_of rfl (isr _) (evl_one q2) rfl po rfl
        exact asg_of (op2_se rfl q3 rfl ad) rfl
      · rw [List.append_assoc]
        exact (List.Perm.append_left v (erase_perm hr)).trans hp)
    w.length lots [.ln h, .im (tx w), .mu (.list ((w.map fun c => [c]).map tx)), .im (tx []), .un, .un] ⟨h, w, [], hh, rfl, List.Perm.refl _, rfl⟩ (lots_gt (by have := hw.2.1; omega))
  exact ⟨h', v, hh', hv, e⟩
end T4

-- K4i
namespace T4
open PySem PL BW
theorem wrd_perm {w v : Wd} (h : wrd w) (p : v.Perm w) : wrd v := ⟨by rw [p.length_eq]; exact h.1, by rw [p.length_eq]; exact h.2.1, fun c hc => h.2.2 c (p.mem_iff.mp hc)⟩
theorem dec_eq {p q : Prop} [Decidable p] [Decidable q] (h : p ↔ q) : decide p = decide q := by
  by_cases k : q
  · rw [decide_eq_true k, decide_eq_true (h.mpr k)]
  · rw [decide_eq_false k, decide_eq_false fun z => k (h.mp z)]
theorem hd_iff {w v : Wd} (h : wrd w) (k : wrd v) : hd w = hd v ↔ v ∈ T w := by
  constructor
  · intro e
    have a := hd_mem h.1
    have b := hd_mem k.1
    have e2 : T w = T v := by rw [← T_rot a, e, T_rot b]
    rw [e2]; exact self_T k.1
  · intro e
    unfold hd Tat
    rw [T_rot e]
theorem law_bools (b : Bool) : F__law_is [.list [.bool b, .bool b, .bool b, .bool b, .bool b], .list [.bool b, .bool b, .bool b, .bool b, .bool b]] = some (.bool true) := by
  refine law_is_eq _ (fit_list (b := 0) (fun x hx => ?_) (by show 5 * (0 + 1) ≤ 9000; decide))
  simp only [List.mem_cons, List.mem_nil_iff, or_false] at hx
  rcases hx with rfl | rfl | rfl | rfl | rfl <;> exact fit_bool 8 b
theorem is_apart_eq (h : D) (hh : Hand h) (w : Wd) (hw : wrd w) : ∃ h', F__law_is_apart h [tx w] = some (.bool true, h') ∧ Hand h' := by
  obtain ⟨h', v, hh', hv, e2⟩ := mixed h hh w hw
  have kv := wrd_perm hw hv
  refine ⟨h', ?_, hh'⟩
  generalize hb : decide (v ∈ T w) = b
  have e1 : parS [2, 3] [(true, (opN listFD [(.s 1)])), (false, (cE (tx [])))] [.ln h, .im (tx w), .un, .un, .un, .un] = some (.nx [.ln h, .im (tx w), .mu (.list ((w.map fun c => [c]).map tx)), .im (tx []), .un, .un]) := by
    have q : (opN listFD [(.s 1)]) [.ln h, .im (tx w), .un, .un, .un, .un] = some (.list ((w.map fun c => [c]).map tx), [.ln h, .im (tx w), .un, .un, .un, .un]) := by
      simp only [opN, evs, fins, Opd.ev, Opd.fin, rd, SD.get, List.getElem?_cons_zero, List.getElem?_cons_succ, Option.bind_some, listF_tx w (big12 hw.2.1)]
    simp only [parS, evp, q, Option.bind_some]
    rfl
  have e3 : (op2 (inD false) (.s 3) (.e (callE F__law_turns [(vE 1)]))) [.ln h', .im (tx w), .mu (.list []), .im (tx v), .un, .un] = some (.bool b, [.ln h', .im (tx w), .mu (.list []), .im (tx v), .un, .un]) := by
    have i : inD false (tx v) (turnsL w) = some (.bool b) := by
      unfold turnsL
      rw [inD_list, hb]; cases b <;> rfl
    exact op2_se rfl (callE_of (evl_one rfl) (law_turns_eq w hw.2.1)) rfl i
  have q1 : (op2 eqD (.e (callE F_last_letters [(vE 3)])) (.e (callE F_last_letters [(vE 1)]))) [.ln h', .im (tx w), .mu (.list []), .im (tx v), .im (.bool b), .un] = some (.bool b, [.ln h', .im (tx w), .mu (.list []), .im (tx v), .im (.bool b), .un]) := by
    refine op2_e (callE_of (evl_one rfl) (last_letters_eq v kv)) (callE_of (evl_one rfl) (last_letters_eq w hw)) ?_
    rw [eqD_tx, ← hb]
    congr 2
    exact dec_eq ⟨fun z => same_last hw.1 z, fun z => L_T z⟩
  have q2 : (callE F_same_round [(vE 1), (vE 3)]) [.ln h', .im (tx w), .mu (.list []), .im (tx v), .im (.bool b), .un] = some (.bool b, [.ln h', .im (tx w), .mu (.list []), .im (tx v), .im (.bool b), .un]) := by
    have := same_round_eq w v hw kv
    rw [hb] at this
    exact callE_of (evl_cons rfl (evl_one rfl)) this
  have q3 : (op2 (inD false) (.s 3) (.e (callE F_words_like [(callE F_last_letters [(vE 1)])]))) [.ln h', .im (tx w), .mu (.list []), .im (tx v), .im (.bool b), .un] = some (.bool b, [.ln h', .im (tx w), .mu (.list []), .im (tx v), .im (.bool b), .un]) := by
    refine op2_se rfl (callE_of (evl_one (callE_of (evl_one rfl) (last_letters_eq w hw))) (words_like_eq w hw)) rfl ?_
    rw [inD_tuple, dec_eq (mem_U (w := w) (t := v)), hb]
    cases b <;> rfl
  have e4 := lst_of (evl_cons q1 (evl_cons q2 (evl_one q3)))
  obtain ⟨x, m, ef, hx⟩ := turned_fewest_ex w v hw kv
  have q4 : (op2 eqD (.e (op2 ixD (.e (callE F_turned_fewest [(vE 1), (vE 3)])) (.e (cE (.int 0))))) (.e (cE (.int 0)))) [.ln h', .im (tx w), .mu (.list []), .im (tx v), .im (.bool b), .im (.list [.bool b, .bool b, .bool b])] = some (.bool b, [.ln h', .im (tx w), .mu (.list []), .im (tx v), .im (.bool b), .im (.list [.bool b, .bool b, .bool b])]) := by
    refine op2_e (op2_e (callE_of (evl_cons rfl (evl_one rfl)) ef) rfl (show ixD (.tuple [.int x, .int m]) (.int 0) = some (.int x) from rfl)) rfl ?_
    rw [eqD_int, dec_eq hx, hb]
  have q5 : (op2 eqD (.e (callE F_least_turn [(vE 1)])) (.e (callE F_least_turn [(vE 3)]))) [.ln h', .im (tx w), .mu (.list []), .im (tx v), .im (.bool b), .im (.list [.bool b, .bool b, .bool b])] = some (.bool b, [.ln h', .im (tx w), .mu (.list []), .im (tx v), .im (.bool b), .im (.list [.bool b, .bool b, .bool b])]) := by
    refine op2_e (callE_of (evl_one rfl) (least_turn_eq w hw)) (callE_of (evl_one rfl) (least_turn_eq v kv)) ?_
    rw [eqD_tx, dec_eq (hd_iff hw kv), hb]
  have ad : addD (.list [.bool b, .bool b, .bool b]) (.list [.bool b, .bool b]) = some (.list [.bool b, .bool b, .bool b, .bool b, .bool b]) := by
    show (if ([PyData.bool b, .bool b, .bool b] : List D).length + ([PyData.bool b, .bool b] : List D).length ≤ big then some (PyData.list ([PyData.bool b, .bool b, .bool b] ++ [PyData.bool b, .bool b])) else none) = _
    rw [if_pos (by show 5 ≤ big; unfold big; omega)]; rfl
  have e5 := op2_se (g := addD) (i := 5) (x0 := .list [.bool b, .bool b, .bool b]) rfl (lst_of (evl_cons q4 (evl_one q5))) rfl ad
  have mu5 : mulD (.list [.bool b]) (.int 5) = some (.list [.bool b, .bool b, .bool b, .bool b, .bool b]) := by
    show (if (lowI 5 && decide (([PyData.bool b] : List D).length ≤ 1000) && decide ((5 : Int) ≤ 1000)) = true then some (PyData.list (times 5 [PyData.bool b])) else none) = _
    have lo : lowI 5 = true := by decide +kernel
    rw [if_pos (by rw [lo, decide_eq_true (show ([PyData.bool b] : List D).length ≤ 1000 by show 1 ≤ 1000; omega), decide_eq_true (show (5 : Int) ≤ 1000 by omega)]; rfl)]; rfl
  have e6 : (callE F__law_is [(vE 5), (op2 mulD (.e (lstE [(vE 4)])) (.e (cE (.int 5))))]) [.ln h', .im (tx w), .mu (.list []), .im (tx v), .im (.bool b), .im (.list [.bool b, .bool b, .bool b, .bool b, .bool b])] = some (.bool true, [.ln h', .im (tx w), .mu (.list []), .im (tx v), .im (.bool b), .im (.list [.bool b, .bool b, .bool b, .bool b, .bool b])]) :=
    callE_of (evl_cons rfl (evl_one (op2_e (lst_of (evl_one rfl)) rfl mu5))) (law_bools b)
  refine runM_of (ε' := [.ln h', .im (tx w), .mu (.list []), .im (tx v), .im (.bool b), .im (.list [.bool b, .bool b, .bool b, .bool b, .bool b])]) ?_ rfl
  show W__law_is_apart [.ln h, .im (tx w), .un, .un, .un, .un] = _
  unfold W__law_is_apart
  rw [seq_nx e1, seq_nx e2, seq_asg e3 (show gN 4 _ _ = some [.ln h', .im (tx w), .mu (.list []), .im (tx v), .im (.bool b), .un] from rfl), seq_asg e4 (show gN 5 _ _ = some [.ln h', .im (tx w), .mu (.list []), .im (tx v), .im (.bool b), .im (.list [.bool b, .bool b, .bool b])] from rfl),
    seq_asg e5 (show gN 5 _ _ = some [.ln h', .im (tx w), .mu (.list []), .im (tx v), .im (.bool b), .im (.list [.bool b, .bool b, .bool b, .bool b, .bool b])] from rfl)]
  exact ret_of e6
/-! texts drawn -/
theorem rng_of {f : WE} {ε ε1 : En} {n : Nat} (h : f ε = some (.int (n : Nat), ε1)) (hn : n ≤ big) : rngI [f] ε = some ((List.range n).map (fun i : Nat => PyData.int i), ε1) := by
  unfold rngI
  rw [evl_one h, Option.bind_some]
  show ((rngD [.int (n : Nat)]).bind fun ds => some (ds, ε1)) = _
  rw [rngD_nat _ hn]; rfl
theorem text_ex (h : D) (hh : Hand h) (least most : Nat) (hlm : least ≤ most) (h12 : most ≤ 12) (ls : Wd) (hls : 1 ≤ ls.length) (hl2 : ls.length ≤ 12) : ∃ (h' : D) (w : Wd), F__law_text h [.int least, .int most, tx ls] = some (tx w, h') ∧ Hand h' ∧ least ≤ w.length ∧ w.length ≤ most ∧ ∀ c ∈ w, c ∈ ls := by
  obtain ⟨r, h1, ed, hh1, hr⟩ := draw_ex h hh (most - least + 1) (by omega) (by omega)
  have en : ((most : Int) - least + 1) = ((most - least + 1 : Nat) : Int) := by omega
  have d1 : (callM F__law_draw 0 [(op2 addD (.e (op2 subD (.s 2) (.s 1))) (.e (cE (.int 1))))]) [.ln h, .im (.int least), .im (.int most), .im (tx ls), .im (tx []), .un] = some (.int (r : Nat), [.ln h1, .im (.int least), .im (.int most), .im (tx ls), .im (tx []), .un]) := by
    refine callM_of (ds := [.int ((most - least + 1 : Nat) : Int)]) (ε1 := [.ln h, .im (.int least), .im (.int most), .im (tx ls), .im (tx []), .un]) rfl (evl_one ?_) rfl ed rfl
    rw [← en]; rfl
  have d2 : (op2 addD (.s 1) (.e (callM F__law_draw 0 [(op2 addD (.e (op2 subD (.s 2) (.s 1))) (.e (cE (.int 1))))]))) [.ln h, .im (.int least), .im (.int most), .im (tx ls), .im (tx []), .un] = some (.int ((least + r : Nat) : Int), [.ln h1, .im (.int least), .im (.int most), .im (tx ls), .im (tx []), .un]) :=
    op2_se (x0 := .int least) rfl d1 (x := .int least) rfl (by rw [addD_int, Int.natCast_add])
  have loop : ∃ (h' : D) (w : Wd) (s5 : SD), Hand h' ∧ w.length = least + r ∧ (∀ c ∈ w, c ∈ ls) ∧ l__law_text_1 [.ln h, .im (.int least), .im (.int most), .im (tx ls), .im (tx []), .un] = some (.nx [.ln h', .im (.int least), .im (.int most), .im (tx ls), .im (tx w), s5]) := by
    unfold l__law_text_1 forS
    rw [rng_of d2 (big12 (by omega)), Option.bind_some]
    obtain ⟨ε', a, h', w, s5, hh', hw, hc, rfl⟩ := forL_inv (g := gN 5) (body := (asgS (op2 addD (.s 4) (.e (callM F__law_some 0 [(opN listFD [(.s 3)])]))) (gN 4)))
      (fun k ε => ∃ (h' : D) (w : Wd) (s5 : SD), Hand h' ∧ (w.length = k ∧ k ≤ least + r) ∧ (∀ c ∈ w, c ∈ ls) ∧ ε = [.ln h', .im (.int least), .im (.int most), .im (tx ls), .im (tx w), s5])
      ((List.range (least + r)).map (fun i : Nat => PyData.int i)) 0 [.ln h1, .im (.int least), .im (.int most), .im (tx ls), .im (tx []), .un] ⟨h1, [], .un, hh1, ⟨rfl, by omega⟩, (fun c hc => by cases hc), rfl⟩ (fun i d ε hd hI => by
        rw [Nat.zero_add] at hI
        rw [Nat.zero_add]
        obtain ⟨h2, w, s5, hh2, ⟨hw, hk⟩, hc, rfl⟩ := hI
        have hi := getD_some hd
        rw [List.length_map, List.length_range] at hi
        obtain ⟨x, h3, es, hh3, hx⟩ := some_ex h2 hh2 ((ls.map fun c => [c]).map tx) (by rw [List.length_map, List.length_map]; exact hls) (by rw [List.length_map, List.length_map]; omega)
        rw [List.map_map] at hx
        obtain ⟨c, hcm, rfl⟩ := List.mem_map.mp hx
        have q1 : (callM F__law_some 0 [(opN listFD [(.s 3)])]) [.ln h2, .im (.int least), .im (.int most), .im (tx ls), .im (tx w), .im d] = some (tx [c], [.ln h3, .im (.int least), .im (.int most), .im (tx ls), .im (tx w), .im d]) := by
          refine callM_of (ε1 := [.ln h2, .im (.int least), .im (.int most), .im (tx ls), .im (tx w), .im d]) rfl (evl_one ?_) rfl es rfl
          simp only [opN, evs, fins, Opd.ev, Opd.fin, rd, SD.get, List.getElem?_cons_zero, List.getElem?_cons_succ, Option.bind_some, listF_tx ls (big12 hl2)]
        have q2 := addD_tx w [c] (by rw [List.length_singleton]; have := big12 (show w.length + 1 ≤ 12 by omega); exact this)
        refine ⟨_, .nx [.ln h3, .im (.int least), .im (.int most), .im (tx ls), .im (tx (w ++ [c])), .im d], rfl, asg_of (op2_se rfl q1 rfl q2) rfl, _, .inl rfl, h3, w ++ [c], .im d, hh3, ⟨by rw [List.length_append, hw]; rfl, by omega⟩, fun z hz => ?_, rfl⟩
        rcases List.mem_append.mp hz with hz | hz
        · exact hc z hz
        · have : z = c := by simpa using hz
          subst this; exact hcm)
    refine ⟨h', w, s5, hh', ?_, hc, a⟩
    have := hw.1
    rw [Nat.zero_add, List.length_map, List.length_range] at this
    exact this
  obtain ⟨h', w, s5, hh', hw, hc, e⟩ := loop
  refine ⟨h', w, ?_, hh', by omega, by omega, hc⟩
  refine runM_of (ε' := [.ln h', .im (.int least), .im (.int most), .im (tx ls), .im (tx w), s5]) ?_ rfl
  show W__law_text [.ln h, .im (.int least), .im (.int most), .im (tx ls), .un, .un] = _
  unfold W__law_text
  rw [seq_asg (show cE (tx []) _ = some (tx [], _) from rfl) (show gN 4 _ _ = some [.ln h, .im (.int least), .im (.int most), .im (tx ls), .im (tx []), .un] from rfl), seq_nx e]
  rfl
end T4

-- K4j
namespace T4
open PySem PL BW
/-! last letters of no word -/
theorem cnt2 (x : Nat) : ∀ l : List Nat, l.countP (fun c => decide (c < x)) + l.count x ≤ l.length
  | [] => by simp
  | z :: l => by
    have ih := cnt2 x l
    rw [List.countP_cons, List.count_cons, List.length_cons]
    by_cases a : z < x
    · have : ¬ z = x := by omega
      simp [a, this]; omega
    · by_cases b : z = x
      · simp [a, b]; omega
      · simp [a, b]; omega
theorem steps_lt {l : List Nat} {i : Nat} (hi : i < l.length) : ∃ j, (steps l)[i]? = some j ∧ j < l.length := by
  refine ⟨l.countP (fun c => decide (c < l.getD i 0)) + (l.take i).count (l.getD i 0), ?_, ?_⟩
  · unfold steps
    rw [List.getElem?_map, List.getElem?_range hi]; rfl
  · have hc : l.getD i 0 = l[i] := by rw [List.getD_eq_getElem?_getD, List.getElem?_eq_getElem hi]; rfl
    rw [hc]
    have h1 : (l.take i).count l[i] + 1 ≤ l.count l[i] := by
      have e : l = l.take i ++ l[i] :: l.drop (i + 1) := by rw [← List.drop_eq_getElem_cons hi, List.take_append_drop]
      have e2 : l.count l[i] = (l.take i ++ l[i] :: l.drop (i + 1)).count l[i] := congrArg (fun z => List.count l[i] z) e
      rw [e2, List.count_append, List.count_cons_self]; omega
    have h2 := cnt2 l[i] l
    omega
theorem raw_from_last_gen (l : List Nat) (hl : l.length ≤ 12) (p : Nat) (hp : p < l.length) : ∃ v : Wd, F_raw_from_last [tx l, .int p] = some (tx v) ∧ v.length = l.length := by
  have loop : ∃ (j : Nat) (v : Wd) (tn : SD), v.length = l.length ∧ l_raw_from_last_1 [.im (tx l), .im (.int p), .im (.list ((steps l).map fun k => PyData.int (k : Nat))), .im (tx []), .im (.int p), .un] = some (.nx [.im (tx l), .im (.int p), .im (.list ((steps l).map fun k => PyData.int (k : Nat))), .im (tx v), .im (.int (j : Nat)), tn]) := by
    unfold l_raw_from_last_1 forS
    rw [rng_len (w := l) rfl (big12 hl), Option.bind_some]
    obtain ⟨ε', a, j, v, tn, hj, ⟨hv, _⟩, rfl⟩ := forL_inv (g := gN 5) (body := seqS (asgS (op2 addD (.e (op2 ixD (.s 0) (.s 4))) (.s 3)) (gN 3)) (asgS (op2 ixD (.s 2) (.s 4)) (gN 4)))
      (fun k ε => ∃ (j : Nat) (v : Wd) (tn : SD), j < l.length ∧ (v.length = k ∧ k ≤ l.length) ∧ ε = [.im (tx l), .im (.int p), .im (.list ((steps l).map fun k => PyData.int (k : Nat))), .im (tx v), .im (.int (j : Nat)), tn])
      ((List.range l.length).map fun i : Nat => PyData.int i) 0 [.im (tx l), .im (.int p), .im (.list ((steps l).map fun k => PyData.int (k : Nat))), .im (tx []), .im (.int p), .un] ⟨p, [], .un, hp, ⟨rfl, Nat.zero_le _⟩, rfl⟩ (fun i d ε hd hI => by
        rw [Nat.zero_add] at hI
        rw [Nat.zero_add]
        obtain ⟨j, v, tn, hj, ⟨hv, hk⟩, rfl⟩ := hI
        have hi : i < l.length := by
          have := getD_some hd
          rwa [List.length_map, List.length_range] at this
        obtain ⟨j2, a1, a2⟩ := steps_lt hj
        refine ⟨[.im (tx l), .im (.int p), .im (.list ((steps l).map fun k => PyData.int (k : Nat))), .im (tx v), .im (.int (j : Nat)), .im d], .nx [.im (tx l), .im (.int p), .im (.list ((steps l).map fun k => PyData.int (k : Nat))), .im (tx (l[j] :: v)), .im (.int (j2 : Nat)), .im d], rfl, ?_, _, .inl rfl, j2, l[j] :: v, .im d, a2, ⟨by rw [List.length_cons, hv], by omega⟩, rfl⟩
        have hs1 : [l[j]].length + v.length ≤ big := by rw [List.length_singleton]; have := big12 hl; omega
        simp only [runD, runF, runM, ini, op1, op2, opN, Opd.ev, Opd.fin, evs, fins, vE, cE, evl, lstE, tupE, callE, rd, SD.get, bT, andT, orT, notT, andE, orE, notE, ifE, yesT, seqS, seqFS, asgS, retS, retN, ifS, dropS, nilS, run1, gN, gT, gAll, chainE, sliE, ptE, metE, isT_tx, isT_list, itI, enI, zipI, rngI, parS, evp, setp, setM, setI, ownd, upc, mutK, isL, callM, lent, forS, List.set_cons_zero, List.set_cons_succ, List.getElem?_cons_zero, List.getElem?_cons_succ, Option.bind_some, Option.map_some, Option.bind_none, Option.map_none, cond_true, cond_false, List.map_cons, List.map_nil, List.replicate_succ, List.replicate_zero, List.length_cons, List.length_nil, List.cons_append, List.nil_append, Nat.reduceAdd, Nat.reduceSub, Nat.sub_self, Nat.sub_zero, Nat.add_zero, Nat.zero_add, Nat.reduceLT, Bool.not_true, Bool.not_false, Bool.true_and, Bool.and_true, Bool.false_and, Bool.and_false, if_true, if_false, ite_true, ite_false, decide_true, decide_false, beq_self_eq_true, Bool.false_eq_true, ixD_tx _ _ (big12 hl), List.getElem?_eq_getElem hj, addD_tx _ _ hs1, ixD_list, List.getElem?_map, a1])
    rw [Nat.zero_add, List.length_map, List.length_range] at hv
    exact ⟨j, v, tn, hv, a⟩
  obtain ⟨j, v, tn, hv, a⟩ := loop
  refine ⟨v, ?_, hv⟩
  unfold F_raw_from_last W_raw_from_last
  simp only [runD, runF, runM, ini, op1, op2, opN, Opd.ev, Opd.fin, evs, fins, vE, cE, evl, lstE, tupE, callE, rd, SD.get, bT, andT, orT, notT, andE, orE, notE, ifE, yesT, seqS, seqFS, asgS, retS, retN, ifS, dropS, nilS, run1, gN, gT, gAll, chainE, sliE, ptE, metE, isT_tx, isT_list, itI, enI, zipI, rngI, parS, evp, setp, setM, setI, ownd, upc, mutK, isL, callM, lent, forS, List.set_cons_zero, List.set_cons_succ, List.getElem?_cons_zero, List.getElem?_cons_succ, Option.bind_some, Option.map_some, Option.bind_none, Option.map_none, cond_true, cond_false, List.map_cons, List.map_nil, List.replicate_succ, List.replicate_zero, List.length_cons, List.length_nil, List.cons_append, List.nil_append, Nat.reduceAdd, Nat.reduceSub, Nat.sub_self, Nat.sub_zero, Nat.add_zero, Nat.zero_add, Nat.reduceLT, Bool.not_true, Bool.not_false, Bool.true_and, Bool.and_true, Bool.false_and, Bool.and_false, if_true, if_false, ite_true, ite_false, decide_true, decide_false, beq_self_eq_true, Bool.false_eq_true, raw_steps_eq _ hl, a]
def wayW (l : List Nat) (p : Nat) : Wd := match F_raw_from_last [tx l, .int p] with
  | some (.str s) => sL s
  | _ => []
theorem wayW_eq (l : List Nat) (hl : l.length ≤ 12) (p : Nat) (hp : p < l.length) : F_raw_from_last [tx l, .int p] = some (tx (wayW l p)) ∧ (wayW l p).length = l.length := by
  obtain ⟨v, e, hv⟩ := raw_from_last_gen l hl p hp
  have : wayW l p = v := by
    unfold wayW
    rw [e]
    show sL ⟨v.toArray⟩ = v
    rw [sL_mk]
  rw [this]
  exact ⟨e, hv⟩
theorem none_like (l : List Nat) (hl : l.length ≤ 12) (hno : ∀ v : Wd, v.length = l.length → L v ≠ l) : F_all_words_like [tx l] = some (.list []) := by
  have hmem : ∀ x ∈ uniqD [] ((List.range l.length).map (wayW l)), x.length = l.length := fun x hx => by
    rw [uniqD_eq] at hx
    rcases ((uniq_spec ((List.range l.length).map (wayW l)) [] List.nodup_nil).2 x).mp hx with h | h
    · cases h
    · obtain ⟨p, hp, rfl⟩ := List.mem_map.mp h
      exact (wayW_eq l hl p (List.mem_range.mp hp)).2
  have hlen : (uniqD [] ((List.range l.length).map (wayW l))).length ≤ 12 := by
    have aux : ∀ (xs acc : List Wd), (uniq acc xs).length ≤ acc.length + xs.length := fun xs => by
      induction xs with
      | nil => intro acc; exact Nat.le_refl _
      | cons x xs ih =>
        intro acc
        unfold uniq
        split
        · have := ih acc; rw [List.length_cons]; omega
        · have := ih (acc ++ [x]); rw [List.length_append, List.length_singleton] at this; rw [List.length_cons]; omega
    rw [uniqD_eq]
    have := aux ((List.range l.length).map (wayW l)) []
    rw [List.length_nil, List.length_map, List.length_range] at this; omega
  generalize hu : uniqD [] ((List.range l.length).map (wayW l)) = u at hmem hlen
  have s1 : c_all_words_like_1 [.im (tx l), .un, .un, .un] = some (.dict (u.map kvT), [.im (tx l), .un, .un, .un]) := by
    rw [← hu]
    unfold c_all_words_like_1
    refine dcE_uniq (fun i : Nat => PyData.int i) (wayW l) (List.range l.length) (rng_len rfl (big12 hl)) rfl (by rw [List.length_range]; exact big12 hl) (fun x hx => ⟨[.im (tx l), .un, .im (.int x), .un], [.im (tx l), .un, .im (.int x), .un], _, rfl, ?_, rfl, rfl⟩) rfl
    rw [List.mem_range] at hx
    exact callE_of (evl_cons rfl (evl_one rfl)) (wayW_eq l hl x hx).1
  have s2 : c_all_words_like_2 [.im (tx l), .im (.dict (u.map kvT)), .un, .un] = some (.list ((u.filter fun _ => false).map tx), [.im (tx l), .im (.dict (u.map kvT)), .un, .un]) := by
    unfold c_all_words_like_2
    refine lcE_fil tx tx (fun _ => false) u ?_ rfl (big12 hlen) (fun x hx => ⟨[.im (tx l), .im (.dict (u.map kvT)), .un, .im (tx x)], [.im (tx l), .im (.dict (u.map kvT)), .un, .im (tx x)], rfl, ?_, by rw [if_neg (by decide)]; rfl⟩) rfl
    · unfold itV
      simp only [runD, runF, runM, ini, op1, op2, opN, Opd.ev, Opd.fin, evs, fins, vE, cE, evl, lstE, tupE, callE, rd, SD.get, bT, andT, orT, notT, andE, orE, notE, ifE, yesT, seqS, seqFS, asgS, retS, retN, ifS, dropS, nilS, run1, gN, gT, gAll, chainE, sliE, ptE, metE, isT_tx, isT_list, itI, enI, zipI, rngI, parS, evp, setp, setM, setI, ownd, upc, mutK, isL, callM, lent, forS, List.set_cons_zero, List.set_cons_succ, List.getElem?_cons_zero, List.getElem?_cons_succ, Option.bind_some, Option.map_some, Option.bind_none, Option.map_none, cond_true, cond_false, List.map_cons, List.map_nil, List.replicate_succ, List.replicate_zero, List.length_cons, List.length_nil, List.cons_append, List.nil_append, Nat.reduceAdd, Nat.reduceSub, Nat.sub_self, Nat.sub_zero, Nat.add_zero, Nat.zero_add, Nat.reduceLT, Bool.not_true, Bool.not_false, Bool.true_and, Bool.and_true, Bool.false_and, Bool.and_false, if_true, if_false, ite_true, ite_false, decide_true, decide_false, beq_self_eq_true, Bool.false_eq_true, itemsD, keys_kv]
    · have hx' := hmem x hx
      refine bT_of (op2_es (callE_of (evl_one rfl) (raw_last_eq x (by rw [hx']; exact hl))) rfl ?_)
      rw [eqD_tx, decide_eq_false (hno x hx')]
  have e0 : (u.filter fun _ => false) = [] := by simp
  rw [e0] at s2
  rw [List.map_nil] at s2
  have so : sortD [.list []] = some (.list []) := by
    have := sortD_tx [] (Nat.zero_le _)
    simpa using this
  unfold F_all_words_like W_all_words_like
  simp only [runD, runF, runM, ini, op1, op2, opN, Opd.ev, Opd.fin, evs, fins, vE, cE, evl, lstE, tupE, callE, rd, SD.get, bT, andT, orT, notT, andE, orE, notE, ifE, yesT, seqS, seqFS, asgS, retS, retN, ifS, dropS, nilS, run1, gN, gT, gAll, chainE, sliE, ptE, metE, isT_tx, isT_list, itI, enI, zipI, rngI, parS, evp, setp, setM, setI, ownd, upc, mutK, isL, callM, lent, forS, List.set_cons_zero, List.set_cons_succ, List.getElem?_cons_zero, List.getElem?_cons_succ, Option.bind_some, Option.map_some, Option.bind_none, Option.map_none, cond_true, cond_false, List.map_cons, List.map_nil, List.replicate_succ, List.replicate_zero, List.length_cons, List.length_nil, List.cons_append, List.nil_append, Nat.reduceAdd, Nat.reduceSub, Nat.sub_self, Nat.sub_zero, Nat.add_zero, Nat.zero_add, Nat.reduceLT, Bool.not_true, Bool.not_false, Bool.true_and, Bool.and_true, Bool.false_and, Bool.and_false, if_true, if_false, ite_true, ite_false, decide_true, decide_false, beq_self_eq_true, Bool.false_eq_true, s1, s2, so]
theorem not_last (l : List Nat) (h : wrd l) (hno : ∀ v : Wd, v.length = l.length → L v ≠ l) : F_is_last [tx l] = some (.bool false) := by
  unfold F_is_last W_is_last
  simp only [runD, runF, runM, ini, op1, op2, opN, Opd.ev, Opd.fin, evs, fins, vE, cE, evl, lstE, tupE, callE, rd, SD.get, bT, andT, orT, notT, andE, orE, notE, ifE, yesT, seqS, seqFS, asgS, retS, retN, ifS, dropS, nilS, run1, gN, gT, gAll, chainE, sliE, ptE, metE, isT_tx, isT_list, itI, enI, zipI, rngI, parS, evp, setp, setM, setI, ownd, upc, mutK, isL, callM, lent, forS, List.set_cons_zero, List.set_cons_succ, List.getElem?_cons_zero, List.getElem?_cons_succ, Option.bind_some, Option.map_some, Option.bind_none, Option.map_none, cond_true, cond_false, List.map_cons, List.map_nil, List.replicate_succ, List.replicate_zero, List.length_cons, List.length_nil, List.cons_append, List.nil_append, Nat.reduceAdd, Nat.reduceSub, Nat.sub_self, Nat.sub_zero, Nat.add_zero, Nat.zero_add, Nat.reduceLT, Bool.not_true, Bool.not_false, Bool.true_and, Bool.and_true, Bool.false_and, Bool.and_false, if_true, if_false, ite_true, ite_false, decide_true, decide_false, beq_self_eq_true, Bool.false_eq_true, is_word_eq l h, none_like l h.2.1 hno, lenD_list, gtD_int]
  rfl
/-- where the first place leads to itself all letters are alike -/
theorem all_alike {l : List Nat} (h0 : (steps l)[0]? = some 0) {v : Wd} (hv : 1 ≤ v.length) (hL : L v = l) : ∀ c ∈ l, c = l.getD 0 0 := by
  have ht := Tat_at (w := v) (p := 0) (by omega)
  have hlt : (Tat v 0).length = v.length := len_of_T (List.mem_of_getElem? ht)
  obtain ⟨j, a1, a2⟩ := steps_at ht
  rw [hL, h0] at a1
  cases a1
  rw [ht] at a2
  have fix : rotr (Tat v 0) = Tat v 0 := (Option.some.inj a2).symm
  have bk : ∀ k, back k (Tat v 0) = Tat v 0 := fun k => by
    induction k with
    | zero => rfl
    | succ k ih => show rotr (back k (Tat v 0)) = _; rw [ih, fix]
  have alike : ∀ c ∈ Tat v 0, c = lst (Tat v 0) := fun c hc => by
    obtain ⟨i, hi, rfl⟩ := List.mem_iff_getElem.mp hc
    have := back_last (t := Tat v 0) (k := (Tat v 0).length - 1 - i) (by omega)
    rw [bk] at this
    rw [this]
    congr 1; omega
  have allv : ∀ c ∈ v, c = lst (Tat v 0) := fun c hc => alike c ((T_perm (List.mem_of_getElem? ht)).mem_iff.mpr hc)
  have allL : ∀ c ∈ l, c = lst (Tat v 0) := fun c hc => by
    rw [← hL] at hc
    unfold L at hc
    obtain ⟨t, htm, rfl⟩ := List.mem_map.mp hc
    obtain ⟨m, hm, rfl⟩ := mem_T.mp htm
    have := List.mem_of_getLast? (last_rot hm)
    exact allv _ ((rot_perm v m).mem_iff.mp this)
  have hl : l.length = v.length := by rw [← hL, L_len]
  intro c hc
  rw [allL c hc]
  have : l.getD 0 0 ∈ l := by
    rw [List.getD_eq_getElem?_getD, List.getElem?_eq_getElem (by omega)]
    exact List.getElem_mem _
  exact (allL _ this).symm
def abL : List Nat := [97, 98, 97, 98, 97, 98, 97, 98, 97, 98, 97, 98]
theorem no_ab (v : Wd) (hv : v.length = 2) : L v ≠ [97, 98] := fun e => by
  have := all_alike (l := [97, 98]) (by decide +kernel) (by omega) e 98 (by decide)
  revert this; decide
theorem no_abL (v : Wd) (hv : v.length = 12) : L v ≠ abL := fun e => by
  have := all_alike (l := abL) (by decide +kernel) (by omega) e 98 (by decide)
  revert this; decide
/-! three words -/
def banana : Wd := [98, 97, 110, 97, 110, 97]
def a12 : Wd := List.replicate 12 97
def ab6 : Wd := [97, 98, 97, 98, 97, 98, 97, 98, 97, 98, 97, 98]
def ba6 : Wd := [98, 97, 98, 97, 98, 97, 98, 97, 98, 97, 98, 97]
def six : List Wd := [[97, 98, 97, 110, 97, 110], [97, 110, 97, 98, 97, 110], [97, 110, 97, 110, 97, 98], [98, 97, 110, 97, 110, 97], [110, 97, 98, 97, 110, 97], [110, 97, 110, 97, 98, 97]]
theorem T_ban : T banana = six := srtW_of (by decide +kernel) (by decide +kernel)
theorem T_a12 : T a12 = List.replicate 12 a12 := srtW_of (by decide +kernel) (by decide +kernel)
theorem T_ab6 : T ab6 = [ab6, ab6, ab6, ab6, ab6, ab6, ba6, ba6, ba6, ba6, ba6, ba6] := srtW_of (by decide +kernel) (by decide +kernel)
theorem w_ban : F_words_like [tx [110, 110, 98, 97, 97, 97]] = some (.tuple (six.map tx)) := by
  have h : wrd banana := ⟨by decide, by decide, by decide⟩
  have e := words_like_eq banana h
  have eL : L banana = [110, 110, 98, 97, 97, 97] := by unfold L; rw [T_ban]; decide +kernel
  have eU : U banana = six := by unfold U; rw [T_ban]; decide +kernel
  rw [eL, eU] at e
  exact e
theorem w_a12 : F_words_like [tx [97, 97, 97, 97, 97, 97, 97, 97, 97, 97, 97, 97]] = some (.tuple [tx a12]) := by
  have h : wrd a12 := ⟨by decide, by decide, by decide⟩
  have e := words_like_eq a12 h
  have eL : L a12 = [97, 97, 97, 97, 97, 97, 97, 97, 97, 97, 97, 97] := by unfold L; rw [T_a12]; decide +kernel
  have eU : U a12 = [a12] := by unfold U; rw [T_a12]; decide +kernel
  rw [eL, eU] at e
  exact e
theorem w_ab6 : F_words_like [tx [98, 98, 98, 98, 98, 98, 97, 97, 97, 97, 97, 97]] = some (.tuple [tx ab6, tx ba6]) := by
  have h : wrd ab6 := ⟨by decide, by decide, by decide⟩
  have e := words_like_eq ab6 h
  have eL : L ab6 = [98, 98, 98, 98, 98, 98, 97, 97, 97, 97, 97, 97] := by unfold L; rw [T_ab6]; decide +kernel
  have eU : U ab6 = [ab6, ba6] := by unfold U; rw [T_ab6]; decide +kernel
  rw [eL, eU] at e
  exact e
theorem l_ab : F_is_last [tx [97, 98]] = some (.bool false) := not_last _ ⟨by decide, by decide, by decide⟩ no_ab
theorem l_abL : F_is_last [tx [97, 98, 97, 98, 97, 98, 97, 98, 97, 98, 97, 98]] = some (.bool false) := not_last abL ⟨by decide, by decide, by decide⟩ no_abL

/-! the law -/
theorem hand_ex (ns : List Int) : ∃ h, F__law_hand [.list (ns.map .int)] = some h ∧ Hand h := by
  have c1 : c__law_hand_1 [.im (.list (ns.map .int)), .un, .un] = some (.list (((ns.take 60).map fun i => (if i < 0 then -i else i) % 1000000000000000000000000000000000000).map .int), [.im (.list (ns.map .int)), .un, .un]) := by
    unfold c__law_hand_1
    rw [List.map_map]
    refine lcE_map PyData.int (PyData.int ∘ fun i => (if i < 0 then -i else i) % 1000000000000000000000000000000000000) (ns.take 60) ?_ rfl (by rw [List.length_take]; unfold big; omega) (fun x hx => ⟨[.im (.list (ns.map .int)), .un, .im (.int x)], rfl, [.im (.list (ns.map .int)), .un, .im (.int x)], ?_, rfl⟩) rfl
    · have e : cutL (ns.map PyData.int) none (some 60) = (ns.take 60).map PyData.int := by
        have := cut_to' (ns.map PyData.int) 60
        rw [← List.map_take] at this
        exact this
      have sl : slD (.list (ns.map PyData.int)) none (some 60) = some (.list ((ns.take 60).map PyData.int)) := by
        show some (PyData.list (cutL (ns.map PyData.int) none (some 60))) = _
        rw [e]
      simp only [runD, runF, runM, ini, op1, op2, opN, Opd.ev, Opd.fin, evs, fins, vE, cE, evl, lstE, tupE, callE, rd, SD.get, bT, andT, orT, notT, andE, orE, notE, ifE, yesT, seqS, seqFS, asgS, retS, retN, ifS, dropS, nilS, run1, gN, gT, gAll, chainE, sliE, ptE, metE, isT_tx, isT_list, itI, enI, zipI, rngI, parS, evp, setp, setM, setI, ownd, upc, mutK, isL, callM, lent, forS, List.set_cons_zero, List.set_cons_succ, List.getElem?_cons_zero, List.getElem?_cons_succ, Option.bind_some, Option.map_some, Option.bind_none, Option.map_none, cond_true, cond_false, List.map_cons, List.map_nil, List.replicate_succ, List.replicate_zero, List.length_cons, List.length_nil, List.cons_append, List.nil_append, Nat.reduceAdd, Nat.reduceSub, Nat.sub_self, Nat.sub_zero, Nat.add_zero, Nat.zero_add, Nat.reduceLT, Bool.not_true, Bool.not_false, Bool.true_and, Bool.and_true, Bool.false_and, Bool.and_false, if_true, if_false, ite_true, ite_false, decide_true, decide_false, beq_self_eq_true, Bool.false_eq_true, sl, seqD]
    · have ab : absD [.int x] = some (.int (if x < 0 then -x else x)) := rfl
      have p : (0 : Int) < 1000000000000000000000000000000000000 := by decide
      simp only [runD, runF, runM, ini, op1, op2, opN, Opd.ev, Opd.fin, evs, fins, vE, cE, evl, lstE, tupE, callE, rd, SD.get, bT, andT, orT, notT, andE, orE, notE, ifE, yesT, seqS, seqFS, asgS, retS, retN, ifS, dropS, nilS, run1, gN, gT, gAll, chainE, sliE, ptE, metE, isT_tx, isT_list, itI, enI, zipI, rngI, parS, evp, setp, setM, setI, ownd, upc, mutK, isL, callM, lent, forS, List.set_cons_zero, List.set_cons_succ, List.getElem?_cons_zero, List.getElem?_cons_succ, Option.bind_some, Option.map_some, Option.bind_none, Option.map_none, cond_true, cond_false, List.map_cons, List.map_nil, List.replicate_succ, List.replicate_zero, List.length_cons, List.length_nil, List.cons_append, List.nil_append, Nat.reduceAdd, Nat.reduceSub, Nat.sub_self, Nat.sub_zero, Nat.add_zero, Nat.zero_add, Nat.reduceLT, Bool.not_true, Bool.not_false, Bool.true_and, Bool.and_true, Bool.false_and, Bool.and_false, if_true, if_false, ite_true, ite_false, decide_true, decide_false, beq_self_eq_true, Bool.false_eq_true, intF_int, ab, pow36, modD_int _ _ p, Function.comp]
  generalize ((ns.take 60).map fun i => (if i < 0 then -i else i) % 1000000000000000000000000000000000000) = cells at c1
  have k31 : s64 31 = true := by decide +kernel
  have k641 : s64 641 = true := by decide +kernel
  refine ⟨dH cells (0 : Nat) 0 (22419 + 641 * 4 + 31 * (cells.length : Nat)) 0, ?_, dH_hand _ _ _ _ _⟩
  have e2 : lstE [(vE 1), (cE (.int 0)), (cE (.int 0)), (op2 addD (.e (op2 addD (.e (cE (.int 22419))) (.e (op2 mulD (.e (cE (.int 641))) (.e (cE (.int 4))))))) (.e (op2 mulD (.e (cE (.int 31))) (.e (opN lenD [(.s 1)]))))), (cE (.int 0))]
      [.im (.list (ns.map .int)), .im (.list (cells.map .int)), .un] = some (dH cells (0 : Nat) 0 (22419 + 641 * 4 + 31 * (cells.length : Nat)) 0, [.im (.list (ns.map .int)), .im (.list (cells.map .int)), .un]) := by
    have l1 : (opN lenD [(.s 1)]) [.im (.list (ns.map .int)), .im (.list (cells.map .int)), .un] = some (.int (cells.length : Nat), [.im (.list (ns.map .int)), .im (.list (cells.map .int)), .un]) := by
      simp only [runD, runF, runM, ini, op1, op2, opN, Opd.ev, Opd.fin, evs, fins, vE, cE, evl, lstE, tupE, callE, rd, SD.get, bT, andT, orT, notT, andE, orE, notE, ifE, yesT, seqS, seqFS, asgS, retS, retN, ifS, dropS, nilS, run1, gN, gT, gAll, chainE, sliE, ptE, metE, isT_tx, isT_list, itI, enI, zipI, rngI, parS, evp, setp, setM, setI, ownd, upc, mutK, isL, callM, lent, forS, List.set_cons_zero, List.set_cons_succ, List.getElem?_cons_zero, List.getElem?_cons_succ, Option.bind_some, Option.map_some, Option.bind_none, Option.map_none, cond_true, cond_false, List.map_cons, List.map_nil, List.replicate_succ, List.replicate_zero, List.length_cons, List.length_nil, List.cons_append, List.nil_append, Nat.reduceAdd, Nat.reduceSub, Nat.sub_self, Nat.sub_zero, Nat.add_zero, Nat.zero_add, Nat.reduceLT, Bool.not_true, Bool.not_false, Bool.true_and, Bool.and_true, Bool.false_and, Bool.and_false, if_true, if_false, ite_true, ite_false, decide_true, decide_false, beq_self_eq_true, Bool.false_eq_true, lenD_list, List.length_map]
    refine lst_of (evl_cons rfl (evl_cons rfl (evl_cons rfl (evl_cons (op2_e (op2_e rfl (op2_e rfl rfl (mulD_l _ _ k641)) (addD_int _ _)) (op2_e rfl l1 (mulD_l _ _ k31)) (addD_int _ _)) (evl_one rfl)))))
  unfold F__law_hand runF
  show (W__law_hand [.im (.list (ns.map .int)), .un, .un]).bind _ = _
  unfold W__law_hand seqFS asgS retS
  rw [c1, Option.bind_some]
  show ((some (Out.nx [.im (.list (ns.map .int)), .im (.list (cells.map .int)), .un])).bind _).bind _ = _
  rw [Option.bind_some]
  simp only [e2, Option.bind_some]
def optsD : List D := [tx [97], tx [97, 98], tx [97, 98], tx [97, 98, 99], tx [97, 122], tx [97, 98, 99, 100, 101]]
theorem mulD_tx (a : Wd) (k : Nat) (ha : a.length ≤ 12) (hk : k ≤ 12) : mulD (tx a) (.int (k : Nat)) = some (tx (List.replicate k a).flatten) := by
  show (if (lowI (k : Int) && decide ((sL ⟨a.toArray⟩).length ≤ 1000) && decide ((k : Int) ≤ 1000)) = true then some (tx (times (k : Int) (sL ⟨a.toArray⟩))) else none) = _
  have lo : lowI (k : Int) = true := by unfold lowI; rw [Bool.and_eq_true, decide_eq_true_eq, decide_eq_true_eq]; omega
  rw [sL_mk, if_pos (by rw [lo, decide_eq_true (show a.length ≤ 1000 by omega), decide_eq_true (show (k : Int) ≤ 1000 by omega)]; rfl)]
  unfold times
  rw [Int.toNat_natCast]
theorem rep_mem {a : Wd} {k c : Nat} (h : c ∈ (List.replicate k a).flatten) : c ∈ a := by
  rw [List.mem_flatten] at h
  obtain ⟨l, hl, hc⟩ := h
  rw [List.mem_replicate] at hl
  rw [← hl.2]; exact hc
theorem rep_len (a : Wd) (k : Nat) : (List.replicate k a).flatten.length = k * a.length := by
  induction k with
  | zero => simp
  | succ k ih => rw [List.replicate_succ, List.flatten_cons, List.length_append, ih, Nat.succ_mul]; omega
def lawBody : WS := (seqS (asgS (callM F__law_some 1 [(lstE [(cE (tx [97])), (cE (tx [97, 98])), (cE (tx [97, 98])), (cE (tx [97, 98, 99])), (cE (tx [97, 122])), (cE (tx [97, 98, 99, 100, 101]))])]) (gN 5))
 (seqS (asgS (callM F__law_text 1 [(cE (.int 1)), (cE (.int 12)), (vE 5)]) (gN 6))
 (seqS (asgS (callM F__law_text 1 [(cE (.int 1)), (cE (.int 6)), (vE 5)]) (gN 7))
 (seqS (asgS (callM F__law_some 1 [(lstE [(vE 6), (vE 6), (op2 mulD (.s 7) (.e (op2 fdivD (.e (cE (.int 12))) (.e (opN lenD [(.s 7)]))))), (op2 mulD (.s 7) (.e (cE (.int 2))))])]) (gN 6))
 (ifS (orT (notT (bT (callM F__law_is_right 1 [(vE 6)]))) (notT (bT (callM F__law_is_apart 1 [(vE 6)])))) (retS (cE (.bool false))) nilS)))))
theorem law_loop_eq : l_law_1 = forS (rngI [(cE (.int 6))]) (gN 4) lawBody := rfl
theorem law_loop (s : D) (h : D) (hh : Hand h) (t2 t3 : SD) : ∃ (h' : D) (t4 t5 t6 t7 : SD), l_law_1 [.im s, .mu h, t2, t3, .un, .un, .un, .un] = some (.nx [.im s, .mu h', t2, t3, t4, t5, t6, t7]) := by
  rw [law_loop_eq]
  unfold forS
  have src : rngI [(cE (.int 6))] [.im s, .mu h, t2, t3, .un, .un, .un, .un] = some ([.int 0, .int 1, .int 2, .int 3, .int 4, .int 5], [.im s, .mu h, t2, t3, .un, .un, .un, .un]) := rfl
  rw [src, Option.bind_some]
  obtain ⟨ε', a, h', t4, t5, t6, t7, hh', rfl⟩ := forL_inv (g := gN 4) (body := lawBody) (fun k ε => ∃ (h' : D) (t4 t5 t6 t7 : SD), Hand h' ∧ ε = [.im s, .mu h', t2, t3, t4, t5, t6, t7])
    [.int 0, .int 1, .int 2, .int 3, .int 4, .int 5] 0 [.im s, .mu h, t2, t3, .un, .un, .un, .un] ⟨h, _, _, _, _, hh, rfl⟩ (fun i d ε hd hI => by
      obtain ⟨h1, t4, t5, t6, t7, hh1, rfl⟩ := hI
      obtain ⟨x, h2, e1, hh2, hx⟩ := some_ex h1 hh1 optsD (by decide) (by decide)
      obtain ⟨ls, rfl, hl1, hl2, hls⟩ : ∃ ls : Wd, x = tx ls ∧ 1 ≤ ls.length ∧ ls.length ≤ 12 ∧ ∀ c ∈ ls, c ∈ LET := by
        simp only [optsD, List.mem_cons, List.mem_nil_iff, or_false] at hx
        rcases hx with rfl | rfl | rfl | rfl | rfl | rfl <;> exact ⟨_, rfl, by decide, by decide, by decide⟩
      obtain ⟨h3, w, e2, hh3, hw1, hw2, hwc⟩ := text_ex h2 hh2 1 12 (by decide) (by decide) ls hl1 hl2
      obtain ⟨h4, p, e3, hh4, hp1, hp2, hpc⟩ := text_ex h3 hh3 1 6 (by decide) (by decide) ls hl1 hl2
      have q1 : (callM F__law_some 1 [(lstE [(cE (tx [97])), (cE (tx [97, 98])), (cE (tx [97, 98])), (cE (tx [97, 98, 99])), (cE (tx [97, 122])), (cE (tx [97, 98, 99, 100, 101]))])]) [.im s, .mu h1, t2, t3, .im d, t5, t6, t7] = some (tx ls, [.im s, .mu h2, t2, t3, .im d, t5, t6, t7]) :=
        callM_of (ds := [.list optsD]) (ε1 := [.im s, .mu h1, t2, t3, .im d, t5, t6, t7]) rfl rfl rfl e1 rfl
      have q2 : (callM F__law_text 1 [(cE (.int 1)), (cE (.int 12)), (vE 5)]) [.im s, .mu h2, t2, t3, .im d, .im (tx ls), t6, t7] = some (tx w, [.im s, .mu h3, t2, t3, .im d, .im (tx ls), t6, t7]) :=
        callM_of (ds := [.int ((1 : Nat) : Int), .int ((12 : Nat) : Int), tx ls]) (ε1 := [.im s, .mu h2, t2, t3, .im d, .im (tx ls), t6, t7]) rfl rfl rfl e2 rfl
      have q3 : (callM F__law_text 1 [(cE (.int 1)), (cE (.int 6)), (vE 5)]) [.im s, .mu h3, t2, t3, .im d, .im (tx ls), .im (tx w), t7] = some (tx p, [.im s, .mu h4, t2, t3, .im d, .im (tx ls), .im (tx w), t7]) :=
        callM_of (ds := [.int ((1 : Nat) : Int), .int ((6 : Nat) : Int), tx ls]) (ε1 := [.im s, .mu h3, t2, t3, .im d, .im (tx ls), .im (tx w), t7]) rfl rfl rfl e3 rfl
      have lp : lenD [tx p] = some (.int (p.length : Nat)) := lenD_tx p (big12 (by omega))
      have dv : fdivD (.int 12) (.int (p.length : Nat)) = some (.int ((12 / p.length : Nat) : Int)) := by
        rw [fdivD_int _ _ (by omega) (small_nat (by omega))]; rfl
      have k12 : 12 / p.length ≤ 12 := Nat.div_le_self _ _
      have m1 := mulD_tx p (12 / p.length) (by omega) k12
      have m2 := mulD_tx p 2 (by omega) (by omega)
      obtain ⟨y, h5, e4, hh5, hy⟩ := some_ex h4 hh4 [tx w, tx w, tx (List.replicate (12 / p.length) p).flatten, tx (List.replicate 2 p).flatten] (by show 1 ≤ 4; omega) (by show 4 ≤ 1000000; omega)
      have a0 : (opN lenD [(.s 7)]) [.im s, .mu h4, t2, t3, .im d, .im (tx ls), .im (tx w), .im (tx p)] = some (.int (p.length : Nat), [.im s, .mu h4, t2, t3, .im d, .im (tx ls), .im (tx w), .im (tx p)]) := by
        simp only [runD, runF, runM, ini, op1, op2, opN, Opd.ev, Opd.fin, evs, fins, vE, cE, evl, lstE, tupE, callE, rd, SD.get, bT, andT, orT, notT, andE, orE, notE, ifE, yesT, seqS, seqFS, asgS, retS, retN, ifS, dropS, nilS, run1, gN, gT, gAll, chainE, sliE, ptE, metE, isT_tx, isT_list, itI, enI, zipI, rngI, parS, evp, setp, setM, setI, ownd, upc, mutK, isL, callM, lent, forS, List.set_cons_zero, List.set_cons_succ, List.getElem?_cons_zero, List.getElem?_cons_succ, Option.bind_some, Option.map_some, Option.bind_none, Option.map_none, cond_true, cond_false, List.map_cons, List.map_nil, List.replicate_succ, List.replicate_zero, List.length_cons, List.length_nil, List.cons_append, List.nil_append, Nat.reduceAdd, Nat.reduceSub, Nat.sub_self, Nat.sub_zero, Nat.add_zero, Nat.zero_add, Nat.reduceLT, Bool.not_true, Bool.not_false, Bool.true_and, Bool.and_true, Bool.false_and, Bool.and_false, if_true, if_false, ite_true, ite_false, decide_true, decide_false, beq_self_eq_true, Bool.false_eq_true, lp]
      have a1 : (op2 mulD (.s 7) (.e (op2 fdivD (.e (cE (.int 12))) (.e (opN lenD [(.s 7)]))))) [.im s, .mu h4, t2, t3, .im d, .im (tx ls), .im (tx w), .im (tx p)] = some (tx (List.replicate (12 / p.length) p).flatten, [.im s, .mu h4, t2, t3, .im d, .im (tx ls), .im (tx w), .im (tx p)]) :=
        op2_se rfl (op2_e rfl a0 dv) rfl m1
      have a2 : (op2 mulD (.s 7) (.e (cE (.int 2)))) [.im s, .mu h4, t2, t3, .im d, .im (tx ls), .im (tx w), .im (tx p)] = some (tx (List.replicate 2 p).flatten, [.im s, .mu h4, t2, t3, .im d, .im (tx ls), .im (tx w), .im (tx p)]) :=
        op2_se rfl rfl rfl m2
      have q4 : (callM F__law_some 1 [(lstE [(vE 6), (vE 6), (op2 mulD (.s 7) (.e (op2 fdivD (.e (cE (.int 12))) (.e (opN lenD [(.s 7)]))))), (op2 mulD (.s 7) (.e (cE (.int 2))))])]) [.im s, .mu h4, t2, t3, .im d, .im (tx ls), .im (tx w), .im (tx p)] = some (y, [.im s, .mu h5, t2, t3, .im d, .im (tx ls), .im (tx w), .im (tx p)]) :=
        callM_of rfl (evl_one (lst_of (evl_cons rfl (evl_cons rfl (evl_cons a1 (evl_one a2)))))) rfl e4 rfl
      obtain ⟨v, rfl, hv⟩ : ∃ v : Wd, y = tx v ∧ wrd v := by
        have ww : wrd w := ⟨hw1, hw2, fun c hc => hls c (hwc c hc)⟩
        simp only [List.mem_cons, List.mem_nil_iff, or_false] at hy
        rcases hy with rfl | rfl | rfl | rfl
        · exact ⟨w, rfl, ww⟩
        · exact ⟨w, rfl, ww⟩
        · refine ⟨_, rfl, ?_, ?_, fun c hc => hls c (hpc c (rep_mem hc))⟩
          · rw [rep_len]
            have : 1 ≤ 12 / p.length := (Nat.le_div_iff_mul_le (by omega)).mpr (by omega)
            have := Nat.mul_le_mul this hp1
            omega
          · rw [rep_len]; exact Nat.div_mul_le_self 12 p.length
        · refine ⟨_, rfl, ?_, ?_, fun c hc => hls c (hpc c (rep_mem hc))⟩
          · rw [rep_len]; omega
          · rw [rep_len]; omega
      obtain ⟨h6, e5, hh6⟩ := is_right_eq h5 hh5 v hv
      obtain ⟨h7, e6, hh7⟩ := is_apart_eq h6 hh6 v hv
      have q5 : (callM F__law_is_right 1 [(vE 6)]) [.im s, .mu h5, t2, t3, .im d, .im (tx ls), .im (tx v), .im (tx p)] = some (.bool true, [.im s, .mu h6, t2, t3, .im d, .im (tx ls), .im (tx v), .im (tx p)]) :=
        callM_of (ds := [tx v]) (ε1 := [.im s, .mu h5, t2, t3, .im d, .im (tx ls), .im (tx v), .im (tx p)]) rfl rfl rfl e5 rfl
      have q6 : (callM F__law_is_apart 1 [(vE 6)]) [.im s, .mu h6, t2, t3, .im d, .im (tx ls), .im (tx v), .im (tx p)] = some (.bool true, [.im s, .mu h7, t2, t3, .im d, .im (tx ls), .im (tx v), .im (tx p)]) :=
        callM_of (ds := [tx v]) (ε1 := [.im s, .mu h6, t2, t3, .im d, .im (tx ls), .im (tx v), .im (tx p)]) rfl rfl rfl e6 rfl
      refine ⟨[.im s, .mu h1, t2, t3, .im d, t5, t6, t7], .nx [.im s, .mu h7, t2, t3, .im d, .im (tx ls), .im (tx v), .im (tx p)], rfl, ?_, _, .inl rfl, h7, _, _, _, _, hh7, rfl⟩
      unfold lawBody
      rw [seq_asg q1 (show gN 5 _ _ = some [.im s, .mu h2, t2, t3, .im d, .im (tx ls), t6, t7] from rfl), seq_asg q2 (show gN 6 _ _ = some [.im s, .mu h3, t2, t3, .im d, .im (tx ls), .im (tx w), t7] from rfl),
        seq_asg q3 (show gN 7 _ _ = some [.im s, .mu h4, t2, t3, .im d, .im (tx ls), .im (tx w), .im (tx p)] from rfl), seq_asg q4 (show gN 6 _ _ = some [.im s, .mu h5, t2, t3, .im d, .im (tx ls), .im (tx v), .im (tx p)] from rfl)]
      unfold ifS
      rw [orT_f (notT_of (bT_of q5)) (notT_of (bT_of q6))]
      rfl)
  exact ⟨h', t4, t5, t6, t7, a⟩

def toldD : D := .list [.tuple (six.map tx), .tuple [tx a12], .tuple [tx ab6, tx ba6], .bool false, .bool false]
theorem law_told : F__law_is [toldD, toldD] = some (.bool true) := by
  have low : ∀ x ∈ a12 :: ab6 :: ba6 :: six, ∀ c ∈ x, c < 16 ^ 8 := by decide +kernel
  have len : ∀ x ∈ a12 :: ab6 :: ba6 :: six, x.length ≤ 12 := by decide +kernel
  have f : ∀ x ∈ a12 :: ab6 :: ba6 :: six, Fit 7 12 (tx x) := fun x hx => (fit_tx 7 x (low x hx)).up (len x hx)
  refine law_is_eq _ (fit_list (b := 200) (fun x hx => ?_) (by show 5 * (200 + 1) ≤ 9000; decide))
  simp only [List.mem_cons, List.mem_nil_iff, or_false] at hx
  rcases hx with rfl | rfl | rfl | rfl | rfl
  · refine fit_tuple (b := 12) (fun y hy => ?_) (by show 6 * (12 + 1) ≤ 200; decide)
    obtain ⟨z, hz, rfl⟩ := List.mem_map.mp hy
    exact f z (List.mem_cons_of_mem _ (List.mem_cons_of_mem _ (List.mem_cons_of_mem _ hz)))
  · refine fit_tuple (b := 12) (fun y hy => ?_) (by show 1 * (12 + 1) ≤ 200; decide)
    have : y = tx a12 := by simpa using hy
    subst this; exact f _ List.mem_cons_self
  · refine fit_tuple (b := 12) (fun y hy => ?_) (by show 2 * (12 + 1) ≤ 200; decide)
    simp only [List.mem_cons, List.mem_nil_iff, or_false] at hy
    rcases hy with rfl | rfl
    · exact f _ (List.mem_cons_of_mem _ List.mem_cons_self)
    · exact f _ (List.mem_cons_of_mem _ (List.mem_cons_of_mem _ List.mem_cons_self))
  · exact (fit_bool 8 false).up (by decide)
  · exact (fit_bool 8 false).up (by decide)
theorem law_true : PL.lawOk F_law := fun ns _ => by
  obtain ⟨h, eh, hh⟩ := hand_ex ns
  generalize PyData.list (ns.map .int) = s at eh
  obtain ⟨h', t4, t5, t6, t7, el⟩ := law_loop s h hh (.im toldD) (.im toldD)
  have e1 : setM 1 (callE F__law_hand [(vE 0)]) [.im s, .un, .un, .un, .un, .un, .un, .un] = some (.nx [.im s, .mu h, .un, .un, .un, .un, .un, .un]) := by
    have q : callE F__law_hand [(vE 0)] [.im s, .un, .un, .un, .un, .un, .un, .un] = some (h, [.im s, .un, .un, .un, .un, .un, .un, .un]) := callE_of (evl_one rfl) eh
    unfold setM
    rw [q]; rfl
  have c1 : ∀ {F : List D → Option D} {l : Wd} {d : D} {ε : En}, F [tx l] = some d → callE F [(cE (tx l))] ε = some (d, ε) := fun {F l d ε} e => callE_of (ε1 := ε) (ds := [tx l]) rfl e
  have e2 : lstE [(callE F_words_like [(cE (tx [110, 110, 98, 97, 97, 97]))]), (callE F_words_like [(cE (tx [97, 97, 97, 97, 97, 97, 97, 97, 97, 97, 97, 97]))]), (callE F_words_like [(cE (tx [98, 98, 98, 98, 98, 98, 97, 97, 97, 97, 97, 97]))]), (callE F_is_last [(cE (tx [97, 98]))]), (callE F_is_last [(cE (tx [97, 98, 97, 98, 97, 98, 97, 98, 97, 98, 97, 98]))])] [.im s, .mu h, .un, .un, .un, .un, .un, .un] = some (toldD, [.im s, .mu h, .un, .un, .un, .un, .un, .un]) :=
    lst_of (evl_cons (c1 w_ban) (evl_cons (c1 w_a12) (evl_cons (c1 w_ab6) (evl_cons (c1 l_ab) (evl_one (c1 l_abL))))))
  have tupE1 : ∀ {fs : List WE} {ε ε1 : En} {ds : List D}, evl fs ε = some (ds, ε1) → tupE fs ε = some (.tuple ds, ε1) := fun {fs ε ε1 ds} h => by
    unfold tupE
    rw [h]; rfl
  have m1 : mulD (tx [97]) (.int 12) = some (tx a12) := mulD_tx [97] 12 (by decide) (by decide)
  have m2 : mulD (tx [97, 98]) (.int 6) = some (tx ab6) := mulD_tx [97, 98] 6 (by decide) (by decide)
  have m3 : mulD (tx [98, 97]) (.int 6) = some (tx ba6) := mulD_tx [98, 97] 6 (by decide) (by decide)
  have e3 : lstE [(tupE [(cE (tx [97, 98, 97, 110, 97, 110])), (cE (tx [97, 110, 97, 98, 97, 110])), (cE (tx [97, 110, 97, 110, 97, 98])), (cE (tx [98, 97, 110, 97, 110, 97])), (cE (tx [110, 97, 98, 97, 110, 97])), (cE (tx [110, 97, 110, 97, 98, 97]))]), (tupE [(op2 mulD (.e (cE (tx [97]))) (.e (cE (.int 12))))]), (tupE [(op2 mulD (.e (cE (tx [97, 98]))) (.e (cE (.int 6)))), (op2 mulD (.e (cE (tx [98, 97]))) (.e (cE (.int 6))))]), (cE (.bool false)), (cE (.bool false))] [.im s, .mu h, .im toldD, .un, .un, .un, .un, .un] = some (toldD, [.im s, .mu h, .im toldD, .un, .un, .un, .un, .un]) :=
    lst_of (evl_cons (tupE1 (evl_cons rfl (evl_cons rfl (evl_cons rfl (evl_cons rfl (evl_cons rfl (evl_one rfl))))))) (evl_cons (tupE1 (evl_one (op2_e rfl rfl m1))) (evl_cons (tupE1 (evl_cons (op2_e rfl rfl m2) (evl_one (op2_e rfl rfl m3)))) (evl_cons rfl (evl_one rfl)))))
  have e4 : (notT (bT (callE F__law_is [(vE 2), (vE 3)]))) [.im s, .mu h, .im toldD, .im toldD, .un, .un, .un, .un] = some (false, [.im s, .mu h, .im toldD, .im toldD, .un, .un, .un, .un]) :=
    notT_of (bT_of (callE_of (evl_cons rfl (evl_one rfl)) law_told))
  refine runD_of (ε' := [.im s, .mu h', .im toldD, .im toldD, t4, t5, t6, t7]) ?_
  show W_law [.im s, .un, .un, .un, .un, .un, .un, .un] = _
  unfold W_law
  rw [seq_nx e1, seq_asg e2 (show gN 2 _ _ = some [.im s, .mu h, .im toldD, .un, .un, .un, .un, .un] from rfl), seq_asg e3 (show gN 3 _ _ = some [.im s, .mu h, .im toldD, .im toldD, .un, .un, .un, .un] from rfl), seq_if e4 rfl, seq_nx el]
  rfl
end T4

-- k04walk
namespace T4
open PySem PySem.Spec PyProof.Rows L2 PL
def topS (i : Nat) : Stmt := PySem.Challenge.pw_twotexts_k04_whole_words_of_like_last_le.main.body.getD i (.Pass ⟨0, 0, 0, 0⟩)
structure Zs (mg : Str → Option Value) : Prop where
  abs : mg "abs" = none
  all : mg "all" = none
  bool : mg "bool" = none
  enumerate : mg "enumerate" = none
  int : mg "int" = none
  isinstance : mg "isinstance" = none
  len : mg "len" = none
  list : mg "list" = none
  max : mg "max" = none
  min : mg "min" = none
  range : mg "range" = none
  repr : mg "repr" = none
  sorted : mg "sorted" = none
  str : mg "str" = none
  tuple : mg "tuple" = none
  zip : mg "zip" = none
  LETTERS : ∃ t, mg "LETTERS" = some (.str "abcdefghijklmnopqrstuvwxyz" t)
  MOST_TEXT : ∃ t, mg "MOST_TEXT" = some (.int 12 t)
abbrev s_is_integer : Stmt := topS 8
theorem sc_is_integer : FnScope ["thing"] ["thing"] (defScope s_is_integer) := ⟨rfl, rfl, rfl, by decide +kernel, rfl, by decide +kernel, by decide +kernel⟩
abbrev s_is_within : Stmt := topS 9
theorem sc_is_within : FnScope ["thing", "least", "most"] ["thing", "least", "most"] (defScope s_is_within) := ⟨rfl, rfl, rfl, by decide +kernel, rfl, by decide +kernel, by decide +kernel⟩
abbrev s_is_letters : Stmt := topS 10
theorem sc_is_letters : FnScope ["thing", "least", "most", "sign"] ["thing", "least", "most"] (defScope s_is_letters) := ⟨rfl, rfl, rfl, by decide +kernel, rfl, by decide +kernel, by decide +kernel⟩
abbrev s_is_text : Stmt := topS 11
theorem sc_is_text : FnScope ["thing"] ["thing"] (defScope s_is_text) := ⟨rfl, rfl, rfl, by decide +kernel, rfl, by decide +kernel, by decide +kernel⟩
abbrev s_check_text : Stmt := topS 12
theorem sc_check_text : FnScope ["thing"] ["thing"] (defScope s_check_text) := ⟨rfl, rfl, rfl, by decide +kernel, rfl, by decide +kernel, by decide +kernel⟩
abbrev s_check_two : Stmt := topS 13
theorem sc_check_two : FnScope ["one", "other"] ["one", "other"] (defScope s_check_two) := ⟨rfl, rfl, rfl, by decide +kernel, rfl, by decide +kernel, by decide +kernel⟩
abbrev s_is_word : Stmt := topS 14
theorem sc_is_word : FnScope ["thing"] ["thing"] (defScope s_is_word) := ⟨rfl, rfl, rfl, by decide +kernel, rfl, by decide +kernel, by decide +kernel⟩
abbrev s_check_word : Stmt := topS 15
theorem sc_check_word : FnScope ["thing"] ["thing"] (defScope s_check_word) := ⟨rfl, rfl, rfl, by decide +kernel, rfl, by decide +kernel, by decide +kernel⟩
abbrev s_turned : Stmt := topS 17
theorem sc_turned : FnScope ["word", "many"] ["word", "many"] (defScope s_turned) := ⟨rfl, rfl, rfl, by decide +kernel, rfl, by decide +kernel, by decide +kernel⟩
abbrev s_raw_order : Stmt := topS 18
theorem sc_raw_order : FnScope ["word", "turn", "many"] ["word"] (defScope s_raw_order) := ⟨rfl, rfl, rfl, by decide +kernel, rfl, by decide +kernel, by decide +kernel⟩
abbrev s_turns_in_order : Stmt := topS 19
theorem sc_turns_in_order : FnScope ["word"] ["word"] (defScope s_turns_in_order) := ⟨rfl, rfl, rfl, by decide +kernel, rfl, by decide +kernel, by decide +kernel⟩
abbrev s_raw_last : Stmt := topS 20
theorem sc_raw_last : FnScope ["word", "many"] ["word"] (defScope s_raw_last) := ⟨rfl, rfl, rfl, by decide +kernel, rfl, by decide +kernel, by decide +kernel⟩
abbrev s_last_letters : Stmt := topS 21
theorem sc_last_letters : FnScope ["word"] ["word"] (defScope s_last_letters) := ⟨rfl, rfl, rfl, by decide +kernel, rfl, by decide +kernel, by decide +kernel⟩
abbrev s_place_of : Stmt := topS 22
theorem sc_place_of : FnScope ["word"] ["word"] (defScope s_place_of) := ⟨rfl, rfl, rfl, by decide +kernel, rfl, by decide +kernel, by decide +kernel⟩
abbrev s_raw_steps : Stmt := topS 23
theorem sc_raw_steps : FnScope ["last", "at", "sign", "its"] ["last"] (defScope s_raw_steps) := ⟨rfl, rfl, rfl, by decide +kernel, rfl, by decide +kernel, by decide +kernel⟩
abbrev s_raw_from_last : Stmt := topS 24
theorem sc_raw_from_last : FnScope ["last", "place", "steps", "found", "here", "turn"] ["last", "place"] (defScope s_raw_from_last) := ⟨rfl, rfl, rfl, by decide +kernel, rfl, by decide +kernel, by decide +kernel⟩
abbrev s_all_words_like : Stmt := topS 26
theorem sc_all_words_like : FnScope ["last", "found", "place", "word"] ["last"] (defScope s_all_words_like) := ⟨rfl, rfl, rfl, by decide +kernel, rfl, by decide +kernel, by decide +kernel⟩
abbrev s_from_last : Stmt := topS 25
theorem sc_from_last : FnScope ["last", "place", "word", "one"] ["last", "place"] (defScope s_from_last) := ⟨rfl, rfl, rfl, by decide +kernel, rfl, by decide +kernel, by decide +kernel⟩
abbrev s_is_last : Stmt := topS 27
theorem sc_is_last : FnScope ["thing"] ["thing"] (defScope s_is_last) := ⟨rfl, rfl, rfl, by decide +kernel, rfl, by decide +kernel, by decide +kernel⟩
abbrev s_first_letters : Stmt := topS 28
theorem sc_first_letters : FnScope ["word"] ["word"] (defScope s_first_letters) := ⟨rfl, rfl, rfl, by decide +kernel, rfl, by decide +kernel, by decide +kernel⟩
abbrev s_runs_in : Stmt := topS 29
theorem sc_runs_in : FnScope ["word", "last", "one", "other"] ["word"] (defScope s_runs_in) := ⟨rfl, rfl, rfl, by decide +kernel, rfl, by decide +kernel, by decide +kernel⟩
abbrev s_words_like : Stmt := topS 30
theorem sc_words_like : FnScope ["last"] ["last"] (defScope s_words_like) := ⟨rfl, rfl, rfl, by decide +kernel, rfl, by decide +kernel, by decide +kernel⟩
abbrev s_edit_table : Stmt := topS 32
theorem sc_edit_table : FnScope ["one", "other", "found", "i", "sign", "row", "j", "its"] ["one", "other"] (defScope s_edit_table) := ⟨rfl, rfl, rfl, by decide +kernel, rfl, by decide +kernel, by decide +kernel⟩
abbrev s_raw_fewest : Stmt := topS 33
theorem sc_raw_fewest : FnScope ["one", "other"] ["one", "other"] (defScope s_raw_fewest) := ⟨rfl, rfl, rfl, by decide +kernel, rfl, by decide +kernel, by decide +kernel⟩
abbrev s_all_turns : Stmt := topS 35
theorem sc_all_turns : FnScope ["one", "many"] ["one"] (defScope s_all_turns) := ⟨rfl, rfl, rfl, by decide +kernel, rfl, by decide +kernel, by decide +kernel⟩
abbrev s_turned_fewest : Stmt := topS 36
theorem sc_turned_fewest : FnScope ["one", "other", "many", "turn"] ["one", "other"] (defScope s_turned_fewest) := ⟨rfl, rfl, rfl, by decide +kernel, rfl, by decide +kernel, by decide +kernel⟩
abbrev s_least_turn : Stmt := topS 37
theorem sc_least_turn : FnScope ["one"] ["one"] (defScope s_least_turn) := ⟨rfl, rfl, rfl, by decide +kernel, rfl, by decide +kernel, by decide +kernel⟩
abbrev s_same_round : Stmt := topS 38
theorem sc_same_round : FnScope ["one", "other"] ["one", "other"] (defScope s_same_round) := ⟨rfl, rfl, rfl, by decide +kernel, rfl, by decide +kernel, by decide +kernel⟩
abbrev s__law_hand : Stmt := topS 40
theorem sc__law_hand : FnScope ["script", "cells", "cell"] ["script"] (defScope s__law_hand) := ⟨rfl, rfl, rfl, by decide +kernel, rfl, by decide +kernel, by decide +kernel⟩
abbrev s__law_draw : Stmt := topS 41
theorem sc__law_draw : FnScope ["hand", "many", "cell", "digit", "number"] ["hand", "many"] (defScope s__law_draw) := ⟨rfl, rfl, rfl, by decide +kernel, rfl, by decide +kernel, by decide +kernel⟩
abbrev s__law_some : Stmt := topS 42
theorem sc__law_some : FnScope ["hand", "things"] ["hand", "things"] (defScope s__law_some) := ⟨rfl, rfl, rfl, by decide +kernel, rfl, by decide +kernel, by decide +kernel⟩
abbrev s__law_is : Stmt := topS 43
theorem sc__law_is : FnScope ["told", "due"] ["told", "due"] (defScope s__law_is) := ⟨rfl, rfl, rfl, by decide +kernel, rfl, by decide +kernel, by decide +kernel⟩
abbrev s__law_text : Stmt := topS 44
theorem sc__law_text : FnScope ["hand", "least", "most", "letters", "found", "turn"] ["hand", "least", "most", "letters"] (defScope s__law_text) := ⟨rfl, rfl, rfl, by decide +kernel, rfl, by decide +kernel, by decide +kernel⟩
abbrev s__law_turns : Stmt := topS 45
theorem sc__law_turns : FnScope ["word", "many"] ["word"] (defScope s__law_turns) := ⟨rfl, rfl, rfl, by decide +kernel, rfl, by decide +kernel, by decide +kernel⟩
abbrev s__law_last : Stmt := topS 46
theorem sc__law_last : FnScope ["word", "turn"] ["word"] (defScope s__law_last) := ⟨rfl, rfl, rfl, by decide +kernel, rfl, by decide +kernel, by decide +kernel⟩
abbrev s__law_is_right : Stmt := topS 47
theorem sc__law_is_right : FnScope ["hand", "word", "turns", "last", "alike", "turn", "told", "due", "order", "lap", "many", "at"] ["hand", "word"] (defScope s__law_is_right) := ⟨rfl, rfl, rfl, by decide +kernel, rfl, by decide +kernel, by decide +kernel⟩
abbrev s__law_is_apart : Stmt := topS 48
theorem sc__law_is_apart : FnScope ["hand", "word", "left", "other", "is_turn", "told"] ["hand", "word"] (defScope s__law_is_apart) := ⟨rfl, rfl, rfl, by decide +kernel, rfl, by decide +kernel, by decide +kernel⟩
abbrev s_law : Stmt := topS 49
theorem sc_law : FnScope ["script", "hand", "told", "due", "turn", "letters", "word", "part"] ["script"] (defScope s_law) := ⟨rfl, rfl, rfl, by decide +kernel, rfl, by decide +kernel, by decide +kernel⟩
section
variable {P : Program} {w : World} {K : PySem.W.Frag} {mg : Str → Option Value} {base : Heap}
theorem ok_is_integer {f : Addr} {fd : FuncData} (Z : Zs mg)  (F : Fun K "is_integer" "is_integer" s_is_integer f fd) : FnG P w K mg base CX0 1 f fd ["thing"] (spP K 1 F_is_integer) :=
  ok_P (k := 0) F sc_is_integer rfl rfl fun cdv A outer s H E hr hgu => ⟨_,
 (pss_one (ps_ret (pe_and (pe_callB call_isi (by rfl) Z.isinstance b_isinstance (pa_cons (pv 0) (pa_cons (pe_ty (by rfl) Z.int b_int) pa_nil))) (pe_one (pe_not (pe_callB call_isi (by rfl) Z.isinstance b_isinstance (pa_cons (pv 0) (pa_cons (pe_ty (by rfl) Z.bool b_bool) pa_nil)))))))),
 (rs_ret (re_and (re_isi ro_s) (re_not (re_isi ro_s))))⟩
theorem ok_is_within {f : Addr} {fd : FuncData} (Z : Zs mg) (C_is_integer : Cal P w K mg base "is_integer" 1 ["thing"] (spP K 1 F_is_integer)) (F : Fun K "is_within" "is_within" s_is_within f fd) : FnG P w K mg base CX0 2 f fd ["thing", "least", "most"] (spP K 3 F_is_within) :=
  ok_P (k := 1) F sc_is_within rfl rfl fun cdv A outer s H E hr hgu => ⟨_,
 (pss_one (ps_ret (pe_and (pe_callC C_is_integer hr (by decide) hgu (by rfl) (pa_cons (pv 0) pa_nil)) (pe_one (pe_chain (op_leP hr.units) (op_leP hr.units) (pv 1) (pv 0) (pv 2)))))),
 (rs_ret (re_and (re_call (rl_cons re_v rl_nil)) (re_chain re_v re_v re_v v_le v_le)))⟩
theorem ok_is_letters {f : Addr} {fd : FuncData} (Z : Zs mg)  (F : Fun K "is_letters" "is_letters" s_is_letters f fd) : FnG P w K mg base CX0 1 f fd ["thing", "least", "most"] (spP K 3 F_is_letters) :=
  ok_P (k := 0) F sc_is_letters rfl rfl fun cdv A outer s H E hr hgu => ⟨_,
 (pss_one (ps_ret (pe_and (pe_callB call_isi (by rfl) Z.isinstance b_isinstance (pa_cons (pv 0) (pa_cons (pe_ty (by rfl) Z.str b_str) pa_nil))) (pe_and (pe_chain (op_leP hr.units) (op_leP hr.units) (pv 1) (pe_callB call_len (by rfl) Z.len b_len (pa_cons (pv 0) pa_nil)) (pv 2)) (pe_one (pe_callB (cr_all rfl) (by rfl) Z.all b_all (pa_cons (pe_lc (own := [("sign", 3)]) rfl sc_is_letters.nd (pi_seq (pv 0)) (blkOk_by (by kernel_rfl)) (fun _ _ _ _ _ => (pg_name (i := 3) sc_is_letters.nd rfl (Or.inl rfl))) (fun _ _ _ _ _ => pts_nil) (fun _ _ _ _ _ => (pe_cmpR (op_inP hr.units) (pv 3) (pe_gS (by rfl) Z.LETTERS) (by rfl)))) pa_nil))))))),
 (rs_ret (re_and (re_isi ro_s) (re_and (re_chain re_v (re_cb (rp_cons ro_s rp_nil) v_len) re_v v_le v_le) (re_cb (rp_cons (ro_e (RF.re (rf_lc (ri_seq re_v) rg_name rt_yes (re_op2 ro_s (ro_e (re_str (by decide +kernel))) v_in)))) rp_nil) v_all))))⟩
theorem ok_is_text {f : Addr} {fd : FuncData} (Z : Zs mg) (C_is_letters : Cal P w K mg base "is_letters" 1 ["thing", "least", "most"] (spP K 3 F_is_letters)) (F : Fun K "is_text" "is_text" s_is_text f fd) : FnG P w K mg base CX0 2 f fd ["thing"] (spP K 1 F_is_text) :=
  ok_P (k := 1) F sc_is_text rfl rfl fun cdv A outer s H E hr hgu => ⟨_,
 (pss_one (ps_ret (pe_callC C_is_letters hr (by decide) hgu (by rfl) (pa_cons (pv 0) (pa_cons pe_int (pa_cons (pe_gI (by rfl) Z.MOST_TEXT) pa_nil)))))),
 (rs_ret (re_call (rl_cons re_v (rl_cons re_i (rl_cons re_i rl_nil)))))⟩
theorem ok_check_text {f : Addr} {fd : FuncData} (Z : Zs mg) (C_is_text : Cal P w K mg base "is_text" 2 ["thing"] (spP K 1 F_is_text)) (F : Fun K "check_text" "check_text" s_check_text f fd) : FnG P w K mg base CX0 3 f fd ["thing"] (spP K 1 F_check_text) :=
  ok_P (k := 2) F sc_check_text rfl rfl fun cdv A outer s H E hr hgu => ⟨_,
 (pss_one (ps_if (pt_not (pt_val (pe_callC C_is_text hr (by decide) hgu (by rfl) (pa_cons (pv 0) pa_nil)))) (pss_one ps_never) pss_nil)),
 (rs_if (rt_not (rt_B (re_call (rl_cons re_v rl_nil)))) rs_never rs_nil)⟩
theorem ok_check_two {f : Addr} {fd : FuncData} (Z : Zs mg) (C_check_text : Cal P w K mg base "check_text" 3 ["thing"] (spP K 1 F_check_text)) (F : Fun K "check_two" "check_two" s_check_two f fd) : FnG P w K mg base CX0 4 f fd ["one", "other"] (spP K 2 F_check_two) :=
  ok_P (k := 3) F sc_check_two rfl rfl fun cdv A outer s H E hr hgu => ⟨_,
 (pss_cons (ps_expr (pe_callC C_check_text hr (by decide) hgu (by rfl) (pa_cons (pv 0) pa_nil)))
 (pss_one (ps_expr (pe_callC C_check_text hr (by decide) hgu (by rfl) (pa_cons (pv 1) pa_nil))))),
 (rs_seq (rs_drop (re_call (rl_cons re_v rl_nil)))
 (rs_drop (re_call (rl_cons re_v rl_nil))))⟩
theorem ok_is_word {f : Addr} {fd : FuncData} (Z : Zs mg) (C_is_letters : Cal P w K mg base "is_letters" 1 ["thing", "least", "most"] (spP K 3 F_is_letters)) (F : Fun K "is_word" "is_word" s_is_word f fd) : FnG P w K mg base CX0 2 f fd ["thing"] (spP K 1 F_is_word) :=
  ok_P (k := 1) F sc_is_word rfl rfl fun cdv A outer s H E hr hgu => ⟨_,
 (pss_one (ps_ret (pe_callC C_is_letters hr (by decide) hgu (by rfl) (pa_cons (pv 0) (pa_cons pe_int (pa_cons (pe_gI (by rfl) Z.MOST_TEXT) pa_nil)))))),
 (rs_ret (re_call (rl_cons re_v (rl_cons re_i (rl_cons re_i rl_nil)))))⟩
theorem ok_check_word {f : Addr} {fd : FuncData} (Z : Zs mg) (C_is_word : Cal P w K mg base "is_word" 2 ["thing"] (spP K 1 F_is_word)) (F : Fun K "check_word" "check_word" s_check_word f fd) : FnG P w K mg base CX0 3 f fd ["thing"] (spP K 1 F_check_word) :=
  ok_P (k := 2) F sc_check_word rfl rfl fun cdv A outer s H E hr hgu => ⟨_,
 (pss_one (ps_if (pt_not (pt_val (pe_callC C_is_word hr (by decide) hgu (by rfl) (pa_cons (pv 0) pa_nil)))) (pss_one ps_never) pss_nil)),
 (rs_if (rt_not (rt_B (re_call (rl_cons re_v rl_nil)))) rs_never rs_nil)⟩
theorem ok_turned {f : Addr} {fd : FuncData} (Z : Zs mg)  (F : Fun K "turned" "turned" s_turned f fd) : FnG P w K mg base CX0 1 f fd ["word", "many"] (spP K 2 F_turned) :=
  ok_P (k := 0) F sc_turned rfl rfl fun cdv A outer s H E hr hgu => ⟨_,
 (pss_one (ps_ret (pe_op op_addP (pe_slice sl_P (pv 0) (po_some (pv 1)) po_none) (pe_slice sl_P (pv 0) po_none (po_some (pv 1)))))),
 (rs_ret (re_op2 (ro_e (re_sl ro_s (pt_so re_v) pt_no v_sl)) (ro_e (re_sl ro_s pt_no (pt_so re_v) v_sl)) v_add))⟩
theorem ok_raw_order {f : Addr} {fd : FuncData} (Z : Zs mg) (C_turned : Cal P w K mg base "turned" 1 ["word", "many"] (spP K 2 F_turned)) (F : Fun K "raw_order" "raw_order" s_raw_order f fd) : FnG P w K mg base CX0 2 f fd ["word"] (spP K 1 F_raw_order) :=
  ok_P (k := 1) F sc_raw_order rfl rfl fun cdv A outer s H E hr hgu => ⟨_,
 (pss_one (ps_ret (pe_lc (own := [("turn", 1), ("many", 2)]) rfl sc_raw_order.nd (pi_seq (pe_callB (cr_sortP rfl hr.units) (by rfl) Z.sorted b_sorted (pa_cons (pe_lc (own := [("many", 2)]) rfl sc_raw_order.nd (pi_range1 (by rfl) Z.range (pa_cons (pe_callB call_len (by rfl) Z.len b_len (pa_cons (pv 0) pa_nil)) pa_nil)) (blkOk_by (by kernel_rfl)) (fun _ _ _ _ _ => (pg_name (i := 2) sc_raw_order.nd rfl (Or.inl rfl))) (fun _ _ _ _ _ => pts_nil) (fun _ _ _ _ _ => (pe_tup (pa_cons (pe_callC C_turned hr (by decide) hgu (by rfl) (pa_cons (pv 0) (pa_cons (pv 2) pa_nil))) (pa_cons (pv 2) pa_nil))))) pa_nil))) (blkOk_by (by kernel_rfl)) (fun _ _ _ _ _ => (pg_tup (n := 2) rfl (pgs_cons (pg_name (i := 1) sc_raw_order.nd rfl (Or.inl rfl)) (pgs_cons (pg_name (i := 2) sc_raw_order.nd rfl (Or.inl rfl)) pgs_nil)))) (fun _ _ _ _ _ => pts_nil) (fun _ _ _ _ _ => (pv 2))))),
 (rs_ret (RF.re (rf_lc (ri_seq (RF.re (rf_cb (rp_cons (ro_e (RF.re (rf_lc (ri_rng1 (rl_cons (re_cb (rp_cons ro_s rp_nil) v_len) rl_nil)) rg_name rt_yes (re_tup (rl_cons (re_call (rl_cons re_v (rl_cons re_v rl_nil))) (rl_cons re_v rl_nil)))))) rp_nil) v_sort))) (rg_tup (rgs_cons rg_name (rgs_cons rg_name rgs_nil))) rt_yes re_v)))⟩
theorem ok_turns_in_order {f : Addr} {fd : FuncData} (Z : Zs mg) (C_check_word : Cal P w K mg base "check_word" 3 ["thing"] (spP K 1 F_check_word)) (C_raw_order : Cal P w K mg base "raw_order" 2 ["word"] (spP K 1 F_raw_order)) (F : Fun K "turns_in_order" "turns_in_order" s_turns_in_order f fd) : FnG P w K mg base CX0 4 f fd ["word"] (spP K 1 F_turns_in_order) :=
  ok_P (k := 3) F sc_turns_in_order rfl rfl fun cdv A outer s H E hr hgu => ⟨_,
 (pss_cons (ps_expr (pe_callC C_check_word hr (by decide) hgu (by rfl) (pa_cons (pv 0) pa_nil)))
 (pss_one (ps_ret (pe_callTy call_tuple_of (by rfl) Z.tuple b_tuple (pa_cons (pe_callC C_raw_order hr (by decide) hgu (by rfl) (pa_cons (pv 0) pa_nil)) pa_nil))))),
 (rs_seq (rs_drop (re_call (rl_cons re_v rl_nil)))
 (rs_ret (re_cb (rp_cons (ro_e (re_call (rl_cons re_v rl_nil))) rp_nil) v_tup)))⟩
theorem ok_raw_last {f : Addr} {fd : FuncData} (Z : Zs mg) (C_raw_order : Cal P w K mg base "raw_order" 2 ["word"] (spP K 1 F_raw_order)) (C_turned : Cal P w K mg base "turned" 1 ["word", "many"] (spP K 2 F_turned)) (F : Fun K "raw_last" "raw_last" s_raw_last f fd) : FnG P w K mg base CX0 3 f fd ["word"] (spP K 1 F_raw_last) :=
  ok_P (k := 2) F sc_raw_last rfl rfl fun cdv A outer s H E hr hgu => ⟨_,
 (pss_one (ps_ret (pe_bm PySem.F.plainAttrs_str PySem.F.slot_str_join PySem.F.type_str_join mt_join pe_str (pa_cons (pe_lc (own := [("many", 1)]) rfl sc_raw_last.nd (pi_seq (pe_callC C_raw_order hr (by decide) hgu (by rfl) (pa_cons (pv 0) pa_nil))) (blkOk_by (by kernel_rfl)) (fun _ _ _ _ _ => (pg_name (i := 1) sc_raw_last.nd rfl (Or.inl rfl))) (fun _ _ _ _ _ => pts_nil) (fun _ _ _ _ _ => (pe_ix ix_seq (pe_callC C_turned hr (by decide) hgu (by rfl) (pa_cons (pv 0) (pa_cons (pv 1) pa_nil))) (pe_un un_neg pe_int) (fun _ _ => rfl)))) pa_nil)))),
 (rs_ret (re_met (ro_e (re_str (by decide +kernel))) (rp_cons (ro_e (RF.re (rf_lc (ri_seq (re_call (rl_cons re_v rl_nil))) rg_name rt_yes (re_op2 (ro_e (re_call (rl_cons re_v (rl_cons re_v rl_nil)))) (ro_e (re_op1 (ro_e re_i) v_neg)) v_ix)))) rp_nil) v_join))⟩
theorem ok_last_letters {f : Addr} {fd : FuncData} (Z : Zs mg) (C_check_word : Cal P w K mg base "check_word" 3 ["thing"] (spP K 1 F_check_word)) (C_raw_last : Cal P w K mg base "raw_last" 3 ["word"] (spP K 1 F_raw_last)) (F : Fun K "last_letters" "last_letters" s_last_letters f fd) : FnG P w K mg base CX0 4 f fd ["word"] (spP K 1 F_last_letters) :=
  ok_P (k := 3) F sc_last_letters rfl rfl fun cdv A outer s H E hr hgu => ⟨_,
 (pss_cons (ps_expr (pe_callC C_check_word hr (by decide) hgu (by rfl) (pa_cons (pv 0) pa_nil)))
 (pss_one (ps_ret (pe_callC C_raw_last hr (by decide) hgu (by rfl) (pa_cons (pv 0) pa_nil))))),
 (rs_seq (rs_drop (re_call (rl_cons re_v rl_nil)))
 (rs_ret (re_call (rl_cons re_v rl_nil))))⟩
theorem ok_place_of {f : Addr} {fd : FuncData} (Z : Zs mg) (C_check_word : Cal P w K mg base "check_word" 3 ["thing"] (spP K 1 F_check_word)) (C_raw_order : Cal P w K mg base "raw_order" 2 ["word"] (spP K 1 F_raw_order)) (F : Fun K "place_of" "place_of" s_place_of f fd) : FnG P w K mg base CX0 4 f fd ["word"] (spP K 1 F_place_of) :=
  ok_P (k := 3) F sc_place_of rfl rfl fun cdv A outer s H E hr hgu => ⟨_,
 (pss_cons (ps_expr (pe_callC C_check_word hr (by decide) hgu (by rfl) (pa_cons (pv 0) pa_nil)))
 (pss_one (ps_ret (pe_bm PySem.F.plainAttrs_list PySem.F.slot_list_index PySem.F.type_list_index (mt_idxL hr.units) (pe_callC C_raw_order hr (by decide) hgu (by rfl) (pa_cons (pv 0) pa_nil)) (pa_cons pe_int pa_nil))))),
 (rs_seq (rs_drop (re_call (rl_cons re_v rl_nil)))
 (rs_ret (re_met (ro_e (re_call (rl_cons re_v rl_nil))) (rp_cons (ro_e re_i) rp_nil) v_indexL)))⟩
theorem ok_raw_steps {f : Addr} {fd : FuncData} (Z : Zs mg)  (F : Fun K "raw_steps" "raw_steps" s_raw_steps f fd) : FnG P w K mg base CX0 1 f fd ["last"] (spP K 1 F_raw_steps) :=
  ok_P (k := 0) F sc_raw_steps rfl rfl fun cdv A outer s H E hr hgu => ⟨_,
 (pss_one (ps_ret (pe_lc (own := [("at", 1), ("sign", 2)]) rfl sc_raw_steps.nd (pi_enumS (by rfl) Z.enumerate (pa_cons (pv 0) pa_nil)) (blkOk_by (by kernel_rfl)) (fun _ _ _ _ _ => (pg_tup (n := 2) rfl (pgs_cons (pg_name (i := 1) sc_raw_steps.nd rfl (Or.inl rfl)) (pgs_cons (pg_name (i := 2) sc_raw_steps.nd rfl (Or.inr rfl)) pgs_nil)))) (fun _ _ _ _ _ => pts_nil) (fun _ _ _ _ _ => (pe_op op_addP (pe_callB call_len (by rfl) Z.len b_len (pa_cons (pe_lc (own := [("its", 3)]) rfl sc_raw_steps.nd (pi_seq (pv 0)) (blkOk_by (by kernel_rfl)) (fun _ _ _ _ _ => (pg_name (i := 3) sc_raw_steps.nd rfl (Or.inl rfl))) (fun _ _ _ _ _ => (pts_one (pt_cmpR (op_ltP hr.units) (pv 3) (pv 2) (nomark _)))) (fun _ _ _ _ _ => pe_int)) pa_nil)) (pe_bm PySem.F.plainAttrs_str PySem.F.slot_str_count PySem.F.type_str_count mt_count (pe_slice sl_P (pv 0) po_none (po_some (pv 1))) (pa_cons (pv 2) pa_nil))))))),
 (rs_ret (RF.re (rf_lc (ri_enum (rl_cons re_v rl_nil)) (rg_tup (rgs_cons rg_name (rgs_cons rg_name rgs_nil))) rt_yes (re_op2 (ro_e (re_cb (rp_cons (ro_e (RF.re (rf_lc (ri_seq re_v) rg_name (rt_test (re_op2 ro_s ro_s v_lt)) re_i))) rp_nil) v_len)) (ro_e (re_met (ro_e (re_sl ro_s pt_no (pt_so re_v) v_sl)) (rp_cons ro_s rp_nil) v_countS)) v_add))))⟩
theorem ok_raw_from_last {f : Addr} {fd : FuncData} (Z : Zs mg) (C_raw_steps : Cal P w K mg base "raw_steps" 1 ["last"] (spP K 1 F_raw_steps)) (F : Fun K "raw_from_last" "raw_from_last" s_raw_from_last f fd) : FnG P w K mg base CX0 2 f fd ["last", "place"] (spP K 2 F_raw_from_last) :=
  ok_P (k := 1) F sc_raw_from_last rfl rfl fun cdv A outer s H E hr hgu => ⟨_,
 (pss_cons (ps_par3 (i := 2) (j := 3) (l := 4) rfl sc_raw_from_last.nd rfl rfl rfl (by decide) (by decide) (by decide) rfl rfl rfl (pa_cons (pe_callC C_raw_steps hr (by decide) hgu (by rfl) (pa_cons (pv 0) pa_nil)) (pa_cons pe_str (pa_cons (pv 1) pa_nil))) rfl)
 (pss_cons (ps_for PassesOwn.never rfl (pi_range1 (by rfl) Z.range (pa_cons (pe_callB call_len (by rfl) Z.len b_len (pa_cons (pv 0) pa_nil)) pa_nil)) (pg_name (i := 5) sc_raw_from_last.nd rfl (Or.inl rfl)) (pss_cons (ps_set (i := 3) sc_raw_from_last.nd rfl (Or.inl rfl) (pe_op op_addP (pe_ix ix_seq (pv 0) (pv 4) (fun _ _ => rfl)) (pv 3)))
 (pss_one (ps_set (i := 4) sc_raw_from_last.nd rfl (Or.inl rfl) (pe_ix ix_seq (pv 2) (pv 4) (fun _ _ => rfl))))))
 (pss_one (ps_ret (pv 3))))),
 (rs_seq (rs_par3 (rlp_im (re_call (rl_cons re_v rl_nil)) (rlp_im (re_str (by decide +kernel)) (rlp_im re_v rlp_nil))))
 (rs_seq (rs_for (ri_rng1 (rl_cons (re_cb (rp_cons ro_s rp_nil) v_len) rl_nil)) rg_name (rs_seq (rs_asg (re_op2 (ro_e (re_op2 ro_s ro_s v_ix)) ro_s v_add) rg_name)
 (rs_asg (re_op2 ro_s ro_s v_ix) rg_name)))
 (rs_ret re_v)))⟩
theorem ok_all_words_like {f : Addr} {fd : FuncData} (Z : Zs mg) (C_raw_from_last : Cal P w K mg base "raw_from_last" 2 ["last", "place"] (spP K 2 F_raw_from_last)) (C_raw_last : Cal P w K mg base "raw_last" 3 ["word"] (spP K 1 F_raw_last)) (F : Fun K "all_words_like" "all_words_like" s_all_words_like f fd) : FnG P w K mg base CX0 4 f fd ["last"] (spP K 1 F_all_words_like) :=
  ok_P (k := 3) F sc_all_words_like rfl rfl fun cdv A outer s H E hr hgu => ⟨_,
 (pss_cons (ps_setDc (i := 1) (own := [("place", 2)]) rfl sc_all_words_like.nd rfl rfl (sw_trueD rfl rfl rfl rfl) (pi_range1 (by rfl) Z.range (pa_cons (pe_callB call_len (by rfl) Z.len b_len (pa_cons (pv 0) pa_nil)) pa_nil)) (blkOk_by (by kernel_rfl)) (fun _ _ _ _ _ => (pg_name (i := 2) sc_all_words_like.nd rfl (Or.inl rfl))) (fun _ _ _ _ _ => pts_nil) (fun _ _ _ _ _ => (pe_callC C_raw_from_last hr (by decide) hgu (by rfl) (pa_cons (pv 0) (pa_cons (pv 2) pa_nil)))) (fun _ _ _ _ _ => pe_bl))
 (pss_one (ps_ret (pe_callB (cr_sortP rfl hr.units) (by rfl) Z.sorted b_sorted (pa_cons (pe_lockO (pe_lc (own := [("word", 3)]) rfl sc_all_words_like.nd (pi_any (pv 1)) (blkOk_by (by kernel_rfl)) (fun _ _ _ _ _ => (pg_name (i := 3) sc_all_words_like.nd rfl (Or.inl rfl))) (fun _ _ _ _ _ => (pts_one (pt_cmpR (op_eqP hr.units) (pe_callC C_raw_last hr (by decide) hgu (by rfl) (pa_cons (pv 3) pa_nil)) (pv 0) (nomark _)))) (fun _ _ _ _ _ => (pv 3)))) pa_nil))))),
 (rs_seq (rs_asg (RF.re (rf_dc (ri_rng1 (rl_cons (re_cb (rp_cons ro_s rp_nil) v_len) rl_nil)) rg_name rt_yes (re_call (rl_cons re_v (rl_cons re_v rl_nil))) re_b)) rg_name)
 (rs_ret (RF.re (rf_cb (rp_cons (ro_e (RF.re (lock_rf (i := 1) (rfl_lc ril_any rg_name (rt_test (re_op2 (ro_e (re_call (rl_cons re_v rl_nil))) ro_s v_eq)) re_v) beg_lc))) rp_nil) v_sort))))⟩
theorem ok_from_last {f : Addr} {fd : FuncData} (Z : Zs mg) (C_check_word : Cal P w K mg base "check_word" 3 ["thing"] (spP K 1 F_check_word)) (C_is_within : Cal P w K mg base "is_within" 2 ["thing", "least", "most"] (spP K 3 F_is_within)) (C_raw_from_last : Cal P w K mg base "raw_from_last" 2 ["last", "place"] (spP K 2 F_raw_from_last)) (C_all_words_like : Cal P w K mg base "all_words_like" 4 ["last"] (spP K 1 F_all_words_like)) (C_raw_order : Cal P w K mg base "raw_order" 2 ["word"] (spP K 1 F_raw_order)) (F : Fun K "from_last" "from_last" s_from_last f fd) : FnG P w K mg base CX0 5 f fd ["last", "place"] (spP K 2 F_from_last) :=
  ok_P (k := 4) F sc_from_last rfl rfl fun cdv A outer s H E hr hgu => ⟨_,
 (pss_cons (ps_expr (pe_callC C_check_word hr (by decide) hgu (by rfl) (pa_cons (pv 0) pa_nil)))
 (pss_cons (ps_if (pt_not (pt_val (pe_callC C_is_within hr (by decide) hgu (by rfl) (pa_cons (pv 1) (pa_cons pe_int (pa_cons (pe_op op_sub (pe_callB call_len (by rfl) Z.len b_len (pa_cons (pv 0) pa_nil)) pe_int) pa_nil)))))) (pss_one ps_never) pss_nil)
 (pss_cons (ps_set (i := 2) sc_from_last.nd rfl (Or.inl rfl) (pe_callC C_raw_from_last hr (by decide) hgu (by rfl) (pa_cons (pv 0) (pa_cons (pv 1) pa_nil))))
 (pss_cons (ps_for PassesOwn.never rfl (pi_seq (pe_callC C_all_words_like hr (by decide) hgu (by rfl) (pa_cons (pv 0) pa_nil))) (pg_name (i := 3) sc_from_last.nd rfl (Or.inl rfl)) (pss_one (ps_if (PW.pt (pw_and (pt_cmpR (op_eqP hr.units) (pv 3) (pv 2) (nomark _)) (pw_and1 (pt_cmpR (op_eqP hr.units) (pe_bm PySem.F.plainAttrs_list PySem.F.slot_list_index PySem.F.type_list_index (mt_idxL hr.units) (pe_callC C_raw_order hr (by decide) hgu (by rfl) (pa_cons (pv 2) pa_nil)) (pa_cons pe_int pa_nil)) (pv 1) (nomark _))))) (pss_one (ps_ret (pv 2))) pss_nil)))
 (pss_one (ps_ret pe_non)))))),
 (rs_seq (rs_drop (re_call (rl_cons re_v rl_nil)))
 (rs_seq (rs_if (rt_not (rt_B (re_call (rl_cons re_v (rl_cons re_i (rl_cons (re_op2 (ro_e (re_cb (rp_cons ro_s rp_nil) v_len)) (ro_e re_i) v_sub) rl_nil)))))) rs_never rs_nil)
 (rs_seq (rs_asg (re_call (rl_cons re_v (rl_cons re_v rl_nil))) rg_name)
 (rs_seq (rs_for (ri_seq (re_call (rl_cons re_v rl_nil))) rg_name (rs_if (rt_and (rt_test (re_op2 ro_s ro_s v_eq)) (rt_test (re_op2 (ro_e (re_met (ro_e (re_call (rl_cons re_v rl_nil))) (rp_cons (ro_e re_i) rp_nil) v_indexL)) ro_s v_eq))) (rs_ret re_v) rs_nil))
 (rs_ret re_n)))))⟩
theorem ok_is_last {f : Addr} {fd : FuncData} (Z : Zs mg) (C_is_word : Cal P w K mg base "is_word" 2 ["thing"] (spP K 1 F_is_word)) (C_all_words_like : Cal P w K mg base "all_words_like" 4 ["last"] (spP K 1 F_all_words_like)) (F : Fun K "is_last" "is_last" s_is_last f fd) : FnG P w K mg base CX0 5 f fd ["thing"] (spP K 1 F_is_last) :=
  ok_P (k := 4) F sc_is_last rfl rfl fun cdv A outer s H E hr hgu => ⟨_,
 (pss_one (ps_ret (pe_and (pe_callC C_is_word hr (by decide) hgu (by rfl) (pa_cons (pv 0) pa_nil)) (pe_one (pe_cmpR (op_gtP hr.units) (pe_callB call_len (by rfl) Z.len b_len (pa_cons (pe_callC C_all_words_like hr (by decide) hgu (by rfl) (pa_cons (pv 0) pa_nil)) pa_nil)) pe_int (nomark _)))))),
 (rs_ret (re_and (re_call (rl_cons re_v rl_nil)) (re_op2 (ro_e (re_cb (rp_cons (ro_e (re_call (rl_cons re_v rl_nil))) rp_nil) v_len)) (ro_e re_i) v_gt)))⟩
theorem ok_first_letters {f : Addr} {fd : FuncData} (Z : Zs mg) (C_check_word : Cal P w K mg base "check_word" 3 ["thing"] (spP K 1 F_check_word)) (F : Fun K "first_letters" "first_letters" s_first_letters f fd) : FnG P w K mg base CX0 4 f fd ["word"] (spP K 1 F_first_letters) :=
  ok_P (k := 3) F sc_first_letters rfl rfl fun cdv A outer s H E hr hgu => ⟨_,
 (pss_cons (ps_expr (pe_callC C_check_word hr (by decide) hgu (by rfl) (pa_cons (pv 0) pa_nil)))
 (pss_one (ps_ret (pe_bm PySem.F.plainAttrs_str PySem.F.slot_str_join PySem.F.type_str_join mt_join pe_str (pa_cons (pe_callB (cr_sortP rfl hr.units) (by rfl) Z.sorted b_sorted (pa_cons (pv 0) pa_nil)) pa_nil))))),
 (rs_seq (rs_drop (re_call (rl_cons re_v rl_nil)))
 (rs_ret (re_met (ro_e (re_str (by decide +kernel))) (rp_cons (ro_e (RF.re (rf_cb (rp_cons ro_s rp_nil) v_sort))) rp_nil) v_join)))⟩
theorem ok_runs_in {f : Addr} {fd : FuncData} (Z : Zs mg) (C_check_word : Cal P w K mg base "check_word" 3 ["thing"] (spP K 1 F_check_word)) (C_raw_last : Cal P w K mg base "raw_last" 3 ["word"] (spP K 1 F_raw_last)) (F : Fun K "runs_in" "runs_in" s_runs_in f fd) : FnG P w K mg base CX0 4 f fd ["word"] (spP K 1 F_runs_in) :=
  ok_P (k := 3) F sc_runs_in rfl rfl fun cdv A outer s H E hr hgu => ⟨_,
 (pss_cons (ps_expr (pe_callC C_check_word hr (by decide) hgu (by rfl) (pa_cons (pv 0) pa_nil)))
 (pss_cons (ps_set (i := 1) sc_runs_in.nd rfl (Or.inl rfl) (pe_callC C_raw_last hr (by decide) hgu (by rfl) (pa_cons (pv 0) pa_nil)))
 (pss_one (ps_ret (pe_op op_addP pe_int (pe_callB call_len (by rfl) Z.len b_len (pa_cons (pe_lc (own := [("one", 2), ("other", 3)]) rfl sc_runs_in.nd (pi_zipS (by rfl) Z.zip (pa_cons (pv 1) (pa_cons (pe_slice sl_P (pv 1) (po_some pe_int) po_none) pa_nil))) (blkOk_by (by kernel_rfl)) (fun _ _ _ _ _ => (pg_tup (n := 2) rfl (pgs_cons (pg_name (i := 2) sc_runs_in.nd rfl (Or.inl rfl)) (pgs_cons (pg_name (i := 3) sc_runs_in.nd rfl (Or.inl rfl)) pgs_nil)))) (fun _ _ _ _ _ => (pts_one (pt_cmpR (op_neP hr.units) (pv 2) (pv 3) (nomark _)))) (fun _ _ _ _ _ => pe_int)) pa_nil))))))),
 (rs_seq (rs_drop (re_call (rl_cons re_v rl_nil)))
 (rs_seq (rs_asg (re_call (rl_cons re_v rl_nil)) rg_name)
 (rs_ret (re_op2 (ro_e re_i) (ro_e (re_cb (rp_cons (ro_e (RF.re (rf_lc (ri_zip (rl_cons re_v (rl_cons (re_sl ro_s (pt_so re_i) pt_no v_sl) rl_nil))) (rg_tup (rgs_cons rg_name (rgs_cons rg_name rgs_nil))) (rt_test (re_op2 ro_s ro_s v_ne)) re_i))) rp_nil) v_len)) v_add))))⟩
theorem ok_words_like {f : Addr} {fd : FuncData} (Z : Zs mg) (C_check_word : Cal P w K mg base "check_word" 3 ["thing"] (spP K 1 F_check_word)) (C_all_words_like : Cal P w K mg base "all_words_like" 4 ["last"] (spP K 1 F_all_words_like)) (F : Fun K "words_like" "words_like" s_words_like f fd) : FnG P w K mg base CX0 5 f fd ["last"] (spP K 1 F_words_like) :=
  ok_P (k := 4) F sc_words_like rfl rfl fun cdv A outer s H E hr hgu => ⟨_,
 (pss_cons (ps_expr (pe_callC C_check_word hr (by decide) hgu (by rfl) (pa_cons (pv 0) pa_nil)))
 (pss_one (ps_ret (pe_callTy call_tuple_of (by rfl) Z.tuple b_tuple (pa_cons (pe_callC C_all_words_like hr (by decide) hgu (by rfl) (pa_cons (pv 0) pa_nil)) pa_nil))))),
 (rs_seq (rs_drop (re_call (rl_cons re_v rl_nil)))
 (rs_ret (re_cb (rp_cons (ro_e (re_call (rl_cons re_v rl_nil))) rp_nil) v_tup)))⟩
theorem ok_edit_table {f : Addr} {fd : FuncData} (Z : Zs mg)  (F : Fun K "edit_table" "edit_table" s_edit_table f fd) : FnG P w K mg base CX0 1 f fd ["one", "other"] (spP K 2 F_edit_table) :=
  ok_P (k := 0) F sc_edit_table rfl rfl fun cdv A outer s H E hr hgu => ⟨_,
 (pss_cons (ps_set (i := 2) sc_edit_table.nd rfl (Or.inl rfl) (pe_lst (pa_cons (pe_listRg rfl (by rfl) Z.list (prg_1 (by rfl) Z.range (pe_op op_addP (pe_callB call_len (by rfl) Z.len b_len (pa_cons (pv 1) pa_nil)) pe_int))) pa_nil)))
 (pss_cons (ps_for PassesOwn.never rfl (pi_enumS (by rfl) Z.enumerate (pa_cons (pv 0) pa_nil)) (pg_tup (n := 2) rfl (pgs_cons (pg_name (i := 3) sc_edit_table.nd rfl (Or.inl rfl)) (pgs_cons (pg_name (i := 4) sc_edit_table.nd rfl (Or.inl rfl)) pgs_nil))) (pss_cons (ps_set (i := 5) sc_edit_table.nd rfl (Or.inl rfl) (pe_lst (pa_cons (pe_op op_addP (pv 3) pe_int) pa_nil)))
 (pss_cons (ps_for PassesOwn.never rfl (pi_enumS (by rfl) Z.enumerate (pa_cons (pv 1) pa_nil)) (pg_tup (n := 2) rfl (pgs_cons (pg_name (i := 6) sc_edit_table.nd rfl (Or.inl rfl)) (pgs_cons (pg_name (i := 7) sc_edit_table.nd rfl (Or.inl rfl)) pgs_nil))) (pss_one (ps_expr (pe_bm PySem.F.plainAttrs_list PySem.F.slot_list_append PySem.F.type_list_append mt_append (pv 5) (pa_cons (pe_callB (cr_minP rfl hr.units) (by rfl) Z.min b_min (pa_cons (pe_op op_addP (pe_ix ix_seq (pe_ix ix_seq (pv 2) (pv 3) (fun _ _ => rfl)) (pe_op op_addP (pv 6) pe_int) (fun _ _ => rfl)) pe_int) (pa_cons (pe_op op_addP (pe_ix ix_seq (pv 5) (pv 6) (fun _ _ => rfl)) pe_int) (pa_cons (pe_op op_addP (pe_ix ix_seq (pe_ix ix_seq (pv 2) (pv 3) (fun _ _ => rfl)) (pv 6) (fun _ _ => rfl)) (pe_callTy call_int1 (by rfl) Z.int b_int (pa_cons (pe_cmpR (op_neP hr.units) (pv 4) (pv 7) (nomark _)) pa_nil))) pa_nil)))) pa_nil)))))
 (pss_one (ps_expr (pe_bm PySem.F.plainAttrs_list PySem.F.slot_list_append PySem.F.type_list_append mt_append (pv 2) (pa_cons (pv 5) pa_nil)))))))
 (pss_one (ps_ret (pv 2))))),
 (rs_seq (rs_setM (rf_lst (rl_cons (RF.re (rf_lrg1 (re_op2 (ro_e (re_cb (rp_cons ro_s rp_nil) v_len)) (ro_e re_i) v_add))) rl_nil)))
 (rs_seq (rs_for (ri_enum (rl_cons re_v rl_nil)) (rg_tup (rgs_cons rg_name (rgs_cons rg_name rgs_nil))) (rs_seq (rs_setM (rf_lst (rl_cons (re_op2 ro_s (ro_e re_i) v_add) rl_nil)))
 (rs_seq (rs_for (ri_enum (rl_cons re_v rl_nil)) (rg_tup (rgs_cons rg_name (rgs_cons rg_name rgs_nil))) (rs_drop (re_mutL (rl_cons (re_cb (rp_cons (ro_e (re_op2 (ro_e (re_op2 (ro_e (re_op2 ro_s ro_s v_ix)) (ro_e (re_op2 ro_s (ro_e re_i) v_add)) v_ix)) (ro_e re_i) v_add)) (rp_cons (ro_e (re_op2 (ro_e (re_op2 ro_s ro_s v_ix)) (ro_e re_i) v_add)) (rp_cons (ro_e (re_op2 (ro_e (re_op2 (ro_e (re_op2 ro_s ro_s v_ix)) ro_s v_ix)) (ro_e (re_cb (rp_cons (ro_e (re_op2 ro_s ro_s v_ne)) rp_nil) v_intF)) v_add)) rp_nil))) v_min) rl_nil) m_app)))
 (rs_drop (re_mutL (rl_cons re_v rl_nil) m_app)))))
 (rs_ret re_v)))⟩
theorem ok_raw_fewest {f : Addr} {fd : FuncData} (Z : Zs mg) (C_edit_table : Cal P w K mg base "edit_table" 1 ["one", "other"] (spP K 2 F_edit_table)) (F : Fun K "raw_fewest" "raw_fewest" s_raw_fewest f fd) : FnG P w K mg base CX0 2 f fd ["one", "other"] (spP K 2 F_raw_fewest) :=
  ok_P (k := 1) F sc_raw_fewest rfl rfl fun cdv A outer s H E hr hgu => ⟨_,
 (pss_one (ps_ret (pe_ix ix_seq (pe_ix ix_seq (pe_callC C_edit_table hr (by decide) hgu (by rfl) (pa_cons (pv 0) (pa_cons (pv 1) pa_nil))) (pe_callB call_len (by rfl) Z.len b_len (pa_cons (pv 0) pa_nil)) (fun _ _ => rfl)) (pe_callB call_len (by rfl) Z.len b_len (pa_cons (pv 1) pa_nil)) (fun _ _ => rfl)))),
 (rs_ret (re_op2 (ro_e (re_op2 (ro_e (re_call (rl_cons re_v (rl_cons re_v rl_nil)))) (ro_e (re_cb (rp_cons ro_s rp_nil) v_len)) v_ix)) (ro_e (re_cb (rp_cons ro_s rp_nil) v_len)) v_ix))⟩
theorem ok_all_turns {f : Addr} {fd : FuncData} (Z : Zs mg)  (F : Fun K "all_turns" "all_turns" s_all_turns f fd) : FnG P w K mg base CX0 1 f fd ["one"] (spP K 1 F_all_turns) :=
  ok_P (k := 0) F sc_all_turns rfl rfl fun cdv A outer s H E hr hgu => ⟨_,
 (pss_one (ps_ret (pe_lc (own := [("many", 1)]) rfl sc_all_turns.nd (pi_range1 (by rfl) Z.range (pa_cons (pe_callB (cr_maxP rfl hr.units) (by rfl) Z.max b_max (pa_cons pe_int (pa_cons (pe_callB call_len (by rfl) Z.len b_len (pa_cons (pv 0) pa_nil)) pa_nil))) pa_nil)) (blkOk_by (by kernel_rfl)) (fun _ _ _ _ _ => (pg_name (i := 1) sc_all_turns.nd rfl (Or.inl rfl))) (fun _ _ _ _ _ => pts_nil) (fun _ _ _ _ _ => (pe_op op_addP (pe_slice sl_P (pv 0) (po_some (pv 1)) po_none) (pe_slice sl_P (pv 0) po_none (po_some (pv 1)))))))),
 (rs_ret (RF.re (rf_lc (ri_rng1 (rl_cons (re_cb (rp_cons (ro_e re_i) (rp_cons (ro_e (re_cb (rp_cons ro_s rp_nil) v_len)) rp_nil)) v_max) rl_nil)) rg_name rt_yes (re_op2 (ro_e (re_sl ro_s (pt_so re_v) pt_no v_sl)) (ro_e (re_sl ro_s pt_no (pt_so re_v) v_sl)) v_add))))⟩
theorem ok_turned_fewest {f : Addr} {fd : FuncData} (Z : Zs mg) (C_check_two : Cal P w K mg base "check_two" 4 ["one", "other"] (spP K 2 F_check_two)) (C_all_turns : Cal P w K mg base "all_turns" 1 ["one"] (spP K 1 F_all_turns)) (C_raw_fewest : Cal P w K mg base "raw_fewest" 2 ["one", "other"] (spP K 2 F_raw_fewest)) (F : Fun K "turned_fewest" "turned_fewest" s_turned_fewest f fd) : FnG P w K mg base CX0 5 f fd ["one", "other"] (spP K 2 F_turned_fewest) :=
  ok_P (k := 4) F sc_turned_fewest rfl rfl fun cdv A outer s H E hr hgu => ⟨_,
 (pss_cons (ps_expr (pe_callC C_check_two hr (by decide) hgu (by rfl) (pa_cons (pv 0) (pa_cons (pv 1) pa_nil))))
 (pss_one (ps_ret (pe_callB (cr_minP rfl hr.units) (by rfl) Z.min b_min (pa_cons (pe_lc (own := [("many", 2), ("turn", 3)]) rfl sc_turned_fewest.nd (pi_enumS (by rfl) Z.enumerate (pa_cons (pe_callC C_all_turns hr (by decide) hgu (by rfl) (pa_cons (pv 0) pa_nil)) pa_nil)) (blkOk_by (by kernel_rfl)) (fun _ _ _ _ _ => (pg_tup (n := 2) rfl (pgs_cons (pg_name (i := 2) sc_turned_fewest.nd rfl (Or.inl rfl)) (pgs_cons (pg_name (i := 3) sc_turned_fewest.nd rfl (Or.inl rfl)) pgs_nil)))) (fun _ _ _ _ _ => pts_nil) (fun _ _ _ _ _ => (pe_tup (pa_cons (pe_callC C_raw_fewest hr (by decide) hgu (by rfl) (pa_cons (pv 3) (pa_cons (pv 1) pa_nil))) (pa_cons (pv 2) pa_nil))))) pa_nil))))),
 (rs_seq (rs_drop (re_call (rl_cons re_v (rl_cons re_v rl_nil))))
 (rs_ret (re_cb (rp_cons (ro_e (RF.re (rf_lc (ri_enum (rl_cons (re_call (rl_cons re_v rl_nil)) rl_nil)) (rg_tup (rgs_cons rg_name (rgs_cons rg_name rgs_nil))) rt_yes (re_tup (rl_cons (re_call (rl_cons re_v (rl_cons re_v rl_nil))) (rl_cons re_v rl_nil)))))) rp_nil) v_min)))⟩
theorem ok_least_turn {f : Addr} {fd : FuncData} (Z : Zs mg) (C_check_text : Cal P w K mg base "check_text" 3 ["thing"] (spP K 1 F_check_text)) (C_all_turns : Cal P w K mg base "all_turns" 1 ["one"] (spP K 1 F_all_turns)) (F : Fun K "least_turn" "least_turn" s_least_turn f fd) : FnG P w K mg base CX0 4 f fd ["one"] (spP K 1 F_least_turn) :=
  ok_P (k := 3) F sc_least_turn rfl rfl fun cdv A outer s H E hr hgu => ⟨_,
 (pss_cons (ps_expr (pe_callC C_check_text hr (by decide) hgu (by rfl) (pa_cons (pv 0) pa_nil)))
 (pss_one (ps_ret (pe_callB (cr_minP rfl hr.units) (by rfl) Z.min b_min (pa_cons (pe_callC C_all_turns hr (by decide) hgu (by rfl) (pa_cons (pv 0) pa_nil)) pa_nil))))),
 (rs_seq (rs_drop (re_call (rl_cons re_v rl_nil)))
 (rs_ret (re_cb (rp_cons (ro_e (re_call (rl_cons re_v rl_nil))) rp_nil) v_min)))⟩
theorem ok_same_round {f : Addr} {fd : FuncData} (Z : Zs mg) (C_check_two : Cal P w K mg base "check_two" 4 ["one", "other"] (spP K 2 F_check_two)) (C_all_turns : Cal P w K mg base "all_turns" 1 ["one"] (spP K 1 F_all_turns)) (F : Fun K "same_round" "same_round" s_same_round f fd) : FnG P w K mg base CX0 5 f fd ["one", "other"] (spP K 2 F_same_round) :=
  ok_P (k := 4) F sc_same_round rfl rfl fun cdv A outer s H E hr hgu => ⟨_,
 (pss_cons (ps_expr (pe_callC C_check_two hr (by decide) hgu (by rfl) (pa_cons (pv 0) (pa_cons (pv 1) pa_nil))))
 (pss_one (ps_ret (pe_cmpR (op_inP hr.units) (pv 1) (pe_callC C_all_turns hr (by decide) hgu (by rfl) (pa_cons (pv 0) pa_nil)) (by rfl))))),
 (rs_seq (rs_drop (re_call (rl_cons re_v (rl_cons re_v rl_nil))))
 (rs_ret (re_op2 ro_s (ro_e (re_call (rl_cons re_v rl_nil))) v_in)))⟩
theorem ok__law_hand {f : Addr} {fd : FuncData} (Z : Zs mg)  (F : Fun K "_law_hand" "_law_hand" s__law_hand f fd) : FnG P w K mg base CX0 1 f fd ["script"] (spF K 1 F__law_hand) :=
  ok_F (k := 0) F sc__law_hand rfl rfl fun cdv A outer s H E hr hgu => ⟨_,
 (pss_cons (ps_setLc (i := 1) (own := [("cell", 2)]) rfl sc__law_hand.nd rfl rfl (sw_true rfl rfl rfl rfl) (pi_seq (pe_slice sl_P (pv 0) po_none (po_some pe_int))) (blkOk_by (by kernel_rfl)) (fun _ _ _ _ _ => (pg_name (i := 2) sc__law_hand.nd rfl (Or.inl rfl))) (fun _ _ _ _ _ => pts_nil) (fun _ _ _ _ _ => (pe_op op_mod (pe_callTy call_int1 (by rfl) Z.int b_int (pa_cons (pe_callB call_abs (by rfl) Z.abs b_abs (pa_cons (pe_callTy call_int1 (by rfl) Z.int b_int (pa_cons (pv 2) pa_nil)) pa_nil)) pa_nil)) (pe_op op_pow pe_int pe_int))))
 (pss_one (ps_ret (pe_lst (pa_cons (pv 1) (pa_cons pe_int (pa_cons pe_int (pa_cons (pe_op op_addP (pe_op op_addP pe_int (pe_op op_mulP pe_int pe_int)) (pe_op op_mulP pe_int (pe_callB call_len (by rfl) Z.len b_len (pa_cons (pv 1) pa_nil)))) (pa_cons pe_int pa_nil))))))))),
 (rsf_seq (rs_asg (RF.re (rf_lc (ri_seq (re_sl ro_s pt_no (pt_so re_i) v_sl)) rg_name rt_yes (re_op2 (ro_e (re_cb (rp_cons (ro_e (re_cb (rp_cons (ro_e (re_cb (rp_cons ro_s rp_nil) v_intF)) rp_nil) v_abs)) rp_nil) v_intF)) (ro_e (re_op2 (ro_e re_i) (ro_e re_i) v_pow)) v_mod))) rg_name)
 (rsf_ret (rf_lst (rl_cons re_v (rl_cons re_i (rl_cons re_i (rl_cons (re_op2 (ro_e (re_op2 (ro_e re_i) (ro_e (re_op2 (ro_e re_i) (ro_e re_i) v_mul)) v_add)) (ro_e (re_op2 (ro_e re_i) (ro_e (re_cb (rp_cons ro_s rp_nil) v_len)) v_mul)) v_add) (rl_cons re_i rl_nil))))))))⟩
theorem ok__law_draw {f : Addr} {fd : FuncData} (Z : Zs mg)  (F : Fun K "_law_draw" "_law_draw" s__law_draw f fd) : FnG P w K mg base CX0 1 f fd ["hand", "many"] (spM K 1 F__law_draw) :=
  ok_M (k := 0) F sc__law_draw rfl rfl fun cdv A outer s H E hr hgu => ⟨_,
 (pss_cons (ps_if (PW.pt (pw_and (pt_cmpR (op_eqP hr.units) (pe_ix ix_seq (pv 0) pe_int (fun _ _ => rfl)) pe_int (nomark _)) (pw_and1 (pt_cmpR (op_ltP hr.units) (pe_ix ix_seq (pv 0) pe_int (fun _ _ => rfl)) (pe_callB call_len (by rfl) Z.len b_len (pa_cons (pe_ix ix_seq (pv 0) pe_int (fun _ _ => rfl)) pa_nil)) (nomark _))))) (pss_cons (ps_set (i := 2) sc__law_draw.nd rfl (Or.inl rfl) (pe_ix ix_seq (pe_ix ix_seq (pv 0) pe_int (fun _ _ => rfl)) (pe_ix ix_seq (pv 0) pe_int (fun _ _ => rfl)) (fun _ _ => rfl)))
 (pss_cons (ps_asg (pe_op op_addP (pe_ix ix_seq (pv 0) pe_int (fun _ _ => rfl)) pe_int) (pg_sub (pv 0) pe_int set_list))
 (pss_cons (ps_asg (pe_op op_mod (pe_callTy call_int1 (by rfl) Z.int b_int (pa_cons (pe_op op_addP (pe_op op_addP (pe_op op_mulP (pe_ix ix_seq (pv 0) pe_int (fun _ _ => rfl)) pe_int) (pe_op op_mulP (pe_op op_mod (pe_callTy call_int1 (by rfl) Z.int b_int (pa_cons (pv 2) pa_nil)) pe_int) pe_int)) pe_int) pa_nil)) pe_int) (pg_sub (pv 0) pe_int set_list))
 (pss_one (ps_if (pt_cmpR (op_geP hr.units) (pv 2) (pe_op op_pow pe_int pe_int) (nomark _)) (pss_one (ps_asg (pv 2) (pg_sub (pv 0) pe_int set_list))) pss_nil))))) pss_nil)
 (pss_cons (ps_if (pt_cmpR (op_gtP hr.units) (pe_ix ix_seq (pv 0) pe_int (fun _ _ => rfl)) pe_int (nomark _)) (pss_cons (ps_set (i := 3) sc__law_draw.nd rfl (Or.inl rfl) (pe_op op_mod (pe_callTy call_int1 (by rfl) Z.int b_int (pa_cons (pe_ix ix_seq (pv 0) pe_int (fun _ _ => rfl)) pa_nil)) (pv 1)))
 (pss_cons (ps_asg (pe_op op_fdivW (pe_callTy call_int1 (by rfl) Z.int b_int (pa_cons (pe_ix ix_seq (pv 0) pe_int (fun _ _ => rfl)) pa_nil)) (pv 1)) (pg_sub (pv 0) pe_int set_list))
 (pss_one (ps_ret (pv 3))))) pss_nil)
 (pss_cons (ps_asg (pe_op op_addP (pe_ix ix_seq (pv 0) pe_int (fun _ _ => rfl)) pe_int) (pg_sub (pv 0) pe_int set_list))
 (pss_cons (ps_set (i := 4) sc__law_draw.nd rfl (Or.inl rfl) (pe_op op_mod (pe_callTy call_int1 (by rfl) Z.int b_int (pa_cons (pe_op op_mulP (pe_callTy call_int1 (by rfl) Z.int b_int (pa_cons (pe_op op_addP (pe_ix ix_seq (pv 0) pe_int (fun _ _ => rfl)) (pe_op op_mulP pe_int (pe_ix ix_seq (pv 0) pe_int (fun _ _ => rfl)))) pa_nil)) pe_int) pa_nil)) pe_int))
 (pss_cons (ps_set (i := 4) sc__law_draw.nd rfl (Or.inl rfl) (pe_op op_mod (pe_callTy call_int1 (by rfl) Z.int b_int (pa_cons (pe_op op_mulP (pv 4) (pe_op op_addP (pe_op op_fdivW (pv 4) pe_int) pe_int)) pa_nil)) pe_int))
 (pss_one (ps_ret (pe_op op_mod (pe_callTy call_int1 (by rfl) Z.int b_int (pa_cons (pe_op op_fdivW (pv 4) pe_int) pa_nil)) (pv 1))))))))),
 (rs_seq (rs_if (rt_and (rt_test (re_op2 (ro_e (re_op2 ro_s (ro_e re_i) v_ix)) (ro_e re_i) v_eq)) (rt_test (re_op2 (ro_e (re_op2 ro_s (ro_e re_i) v_ix)) (ro_e (re_cb (rp_cons (ro_e (re_op2 ro_s (ro_e re_i) v_ix)) rp_nil) v_len)) v_lt))) (rs_seq (rs_asg (re_op2 (ro_e (re_op2 ro_s (ro_e re_i) v_ix)) (ro_e (re_op2 ro_s (ro_e re_i) v_ix)) v_ix) rg_name)
 (rs_seq (rs_setL (re_op2 (ro_e (re_op2 ro_s (ro_e re_i) v_ix)) (ro_e re_i) v_add) re_i)
 (rs_seq (rs_setL (re_op2 (ro_e (re_cb (rp_cons (ro_e (re_op2 (ro_e (re_op2 (ro_e (re_op2 (ro_e (re_op2 ro_s (ro_e re_i) v_ix)) (ro_e re_i) v_mul)) (ro_e (re_op2 (ro_e (re_op2 (ro_e (re_cb (rp_cons ro_s rp_nil) v_intF)) (ro_e re_i) v_mod)) (ro_e re_i) v_mul)) v_add)) (ro_e re_i) v_add)) rp_nil) v_intF)) (ro_e re_i) v_mod) re_i)
 (rs_if (rt_test (re_op2 ro_s (ro_e (re_op2 (ro_e re_i) (ro_e re_i) v_pow)) v_ge)) (rs_setL re_v re_i) rs_nil)))) rs_nil)
 (rs_seq (rs_if (rt_test (re_op2 (ro_e (re_op2 ro_s (ro_e re_i) v_ix)) (ro_e re_i) v_gt)) (rs_seq (rs_asg (re_op2 (ro_e (re_cb (rp_cons (ro_e (re_op2 ro_s (ro_e re_i) v_ix)) rp_nil) v_intF)) ro_s v_mod) rg_name)
 (rs_seq (rs_setL (re_op2 (ro_e (re_cb (rp_cons (ro_e (re_op2 ro_s (ro_e re_i) v_ix)) rp_nil) v_intF)) ro_s v_fdiv) re_i)
 (rs_ret re_v))) rs_nil)
 (rs_seq (rs_setL (re_op2 (ro_e (re_op2 ro_s (ro_e re_i) v_ix)) (ro_e re_i) v_add) re_i)
 (rs_seq (rs_asg (re_op2 (ro_e (re_cb (rp_cons (ro_e (re_op2 (ro_e (re_cb (rp_cons (ro_e (re_op2 (ro_e (re_op2 ro_s (ro_e re_i) v_ix)) (ro_e (re_op2 (ro_e re_i) (ro_e (re_op2 ro_s (ro_e re_i) v_ix)) v_mul)) v_add)) rp_nil) v_intF)) (ro_e re_i) v_mul)) rp_nil) v_intF)) (ro_e re_i) v_mod) rg_name)
 (rs_seq (rs_asg (re_op2 (ro_e (re_cb (rp_cons (ro_e (re_op2 ro_s (ro_e (re_op2 (ro_e (re_op2 ro_s (ro_e re_i) v_fdiv)) (ro_e re_i) v_add)) v_mul)) rp_nil) v_intF)) (ro_e re_i) v_mod) rg_name)
 (rs_ret (re_op2 (ro_e (re_cb (rp_cons (ro_e (re_op2 ro_s (ro_e re_i) v_fdiv)) rp_nil) v_intF)) ro_s v_mod)))))))⟩
theorem ok__law_some {f : Addr} {fd : FuncData} (Z : Zs mg) (C__law_draw : Cal P w K mg base "_law_draw" 1 ["hand", "many"] (spM K 1 F__law_draw)) (F : Fun K "_law_some" "_law_some" s__law_some f fd) : FnG P w K mg base CX0 2 f fd ["hand", "things"] (spM K 1 F__law_some) :=
  ok_M (k := 1) F sc__law_some rfl rfl fun cdv A outer s H E hr hgu => ⟨_,
 (pss_one (ps_ret (pe_ix ix_seq (pv 1) (pe_callC C__law_draw hr (by decide) hgu (by rfl) (pa_cons (pv 0) (pa_cons (pe_callB call_len (by rfl) Z.len b_len (pa_cons (pv 1) pa_nil)) pa_nil))) (fun _ _ => rfl)))),
 (rs_ret (re_op2 ro_s (ro_e (re_callM (rl_cons (re_cb (rp_cons ro_s rp_nil) v_len) rl_nil))) v_ix))⟩
theorem ok__law_is {f : Addr} {fd : FuncData} (Z : Zs mg)  (F : Fun K "_law_is" "_law_is" s__law_is f fd) : FnG P w K mg base CX0 1 f fd ["told", "due"] (spP K 2 F__law_is) :=
  ok_P (k := 0) F sc__law_is rfl rfl fun cdv A outer s H E hr hgu => ⟨_,
 (pss_one (ps_ret (pe_cmpR (op_eqP hr.units) (pe_callB (cr_repr hr.units hgu) (by rfl) Z.repr b_repr (pa_cons (pv 0) pa_nil)) (pe_callB (cr_repr hr.units hgu) (by rfl) Z.repr b_repr (pa_cons (pv 1) pa_nil)) (nomark _)))),
 (rs_ret (re_op2 (ro_e (re_cb (rp_cons ro_s rp_nil) v_repr)) (ro_e (re_cb (rp_cons ro_s rp_nil) v_repr)) v_eq))⟩
theorem ok__law_text {f : Addr} {fd : FuncData} (Z : Zs mg) (C__law_draw : Cal P w K mg base "_law_draw" 1 ["hand", "many"] (spM K 1 F__law_draw)) (C__law_some : Cal P w K mg base "_law_some" 2 ["hand", "things"] (spM K 1 F__law_some)) (F : Fun K "_law_text" "_law_text" s__law_text f fd) : FnG P w K mg base CX0 3 f fd ["hand", "least", "most", "letters"] (spM K 3 F__law_text) :=
  ok_M (k := 2) F sc__law_text rfl rfl fun cdv A outer s H E hr hgu => ⟨_,
 (pss_cons (ps_set (i := 4) sc__law_text.nd rfl (Or.inl rfl) pe_str)
 (pss_cons (ps_for PassesOwn.never rfl (pi_range1 (by rfl) Z.range (pa_cons (pe_op op_addP (pv 1) (pe_callC C__law_draw hr (by decide) hgu (by rfl) (pa_cons (pv 0) (pa_cons (pe_op op_addP (pe_op op_sub (pv 2) (pv 1)) pe_int) pa_nil)))) pa_nil)) (pg_name (i := 5) sc__law_text.nd rfl (Or.inl rfl)) (pss_one (ps_set (i := 4) sc__law_text.nd rfl (Or.inl rfl) (pe_op op_addP (pv 4) (pe_callC C__law_some hr (by decide) hgu (by rfl) (pa_cons (pv 0) (pa_cons (pe_callTy (cr_listP rfl) (by rfl) Z.list b_list (pa_cons (pv 3) pa_nil)) pa_nil)))))))
 (pss_one (ps_ret (pv 4))))),
 (rs_seq (rs_asg (re_str (by decide +kernel)) rg_name)
 (rs_seq (rs_for (ri_rng1 (rl_cons (re_op2 ro_s (ro_e (re_callM (rl_cons (re_op2 (ro_e (re_op2 ro_s ro_s v_sub)) (ro_e re_i) v_add) rl_nil))) v_add) rl_nil)) rg_name (rs_asg (re_op2 ro_s (ro_e (re_callM (rl_cons (RF.re (rf_cb (rp_cons ro_s rp_nil) v_list)) rl_nil))) v_add) rg_name))
 (rs_ret re_v)))⟩
theorem ok__law_turns {f : Addr} {fd : FuncData} (Z : Zs mg)  (F : Fun K "_law_turns" "_law_turns" s__law_turns f fd) : FnG P w K mg base CX0 1 f fd ["word"] (spP K 1 F__law_turns) :=
  ok_P (k := 0) F sc__law_turns rfl rfl fun cdv A outer s H E hr hgu => ⟨_,
 (pss_one (ps_ret (pe_callB (cr_sortP rfl hr.units) (by rfl) Z.sorted b_sorted (pa_cons (pe_lc (own := [("many", 1)]) rfl sc__law_turns.nd (pi_range1 (by rfl) Z.range (pa_cons (pe_callB call_len (by rfl) Z.len b_len (pa_cons (pv 0) pa_nil)) pa_nil)) (blkOk_by (by kernel_rfl)) (fun _ _ _ _ _ => (pg_name (i := 1) sc__law_turns.nd rfl (Or.inl rfl))) (fun _ _ _ _ _ => pts_nil) (fun _ _ _ _ _ => (pe_op op_addP (pe_slice sl_P (pv 0) (po_some (pv 1)) po_none) (pe_slice sl_P (pv 0) po_none (po_some (pv 1)))))) pa_nil)))),
 (rs_ret (RF.re (rf_cb (rp_cons (ro_e (RF.re (rf_lc (ri_rng1 (rl_cons (re_cb (rp_cons ro_s rp_nil) v_len) rl_nil)) rg_name rt_yes (re_op2 (ro_e (re_sl ro_s (pt_so re_v) pt_no v_sl)) (ro_e (re_sl ro_s pt_no (pt_so re_v) v_sl)) v_add)))) rp_nil) v_sort)))⟩
theorem ok__law_last {f : Addr} {fd : FuncData} (Z : Zs mg) (C__law_turns : Cal P w K mg base "_law_turns" 1 ["word"] (spP K 1 F__law_turns)) (F : Fun K "_law_last" "_law_last" s__law_last f fd) : FnG P w K mg base CX0 2 f fd ["word"] (spP K 1 F__law_last) :=
  ok_P (k := 1) F sc__law_last rfl rfl fun cdv A outer s H E hr hgu => ⟨_,
 (pss_one (ps_ret (pe_bm PySem.F.plainAttrs_str PySem.F.slot_str_join PySem.F.type_str_join mt_join pe_str (pa_cons (pe_lc (own := [("turn", 1)]) rfl sc__law_last.nd (pi_seq (pe_callC C__law_turns hr (by decide) hgu (by rfl) (pa_cons (pv 0) pa_nil))) (blkOk_by (by kernel_rfl)) (fun _ _ _ _ _ => (pg_name (i := 1) sc__law_last.nd rfl (Or.inl rfl))) (fun _ _ _ _ _ => pts_nil) (fun _ _ _ _ _ => (pe_ix ix_seq (pv 1) (pe_un un_neg pe_int) (fun _ _ => rfl)))) pa_nil)))),
 (rs_ret (re_met (ro_e (re_str (by decide +kernel))) (rp_cons (ro_e (RF.re (rf_lc (ri_seq (re_call (rl_cons re_v rl_nil))) rg_name rt_yes (re_op2 ro_s (ro_e (re_op1 (ro_e re_i) v_neg)) v_ix)))) rp_nil) v_join))⟩
theorem ok__law_is_right {f : Addr} {fd : FuncData} (Z : Zs mg) (C__law_turns : Cal P w K mg base "_law_turns" 1 ["word"] (spP K 1 F__law_turns)) (C__law_last : Cal P w K mg base "_law_last" 2 ["word"] (spP K 1 F__law_last)) (C__law_is : Cal P w K mg base "_law_is" 1 ["told", "due"] (spP K 2 F__law_is)) (C_last_letters : Cal P w K mg base "last_letters" 4 ["word"] (spP K 1 F_last_letters)) (C_words_like : Cal P w K mg base "words_like" 5 ["last"] (spP K 1 F_words_like)) (C_least_turn : Cal P w K mg base "least_turn" 4 ["one"] (spP K 1 F_least_turn)) (C_is_last : Cal P w K mg base "is_last" 5 ["thing"] (spP K 1 F_is_last)) (C__law_some : Cal P w K mg base "_law_some" 2 ["hand", "things"] (spM K 1 F__law_some)) (C_same_round : Cal P w K mg base "same_round" 5 ["one", "other"] (spP K 2 F_same_round)) (C_turned_fewest : Cal P w K mg base "turned_fewest" 5 ["one", "other"] (spP K 2 F_turned_fewest)) (C_first_letters : Cal P w K mg base "first_letters" 4 ["word"] (spP K 1 F_first_letters)) (C_runs_in : Cal P w K mg base "runs_in" 4 ["word"] (spP K 1 F_runs_in)) (C_place_of : Cal P w K mg base "place_of" 4 ["word"] (spP K 1 F_place_of)) (C_from_last : Cal P w K mg base "from_last" 5 ["last", "place"] (spP K 2 F_from_last)) (C_turns_in_order : Cal P w K mg base "turns_in_order" 4 ["word"] (spP K 1 F_turns_in_order)) (F : Fun K "_law_is_right" "_law_is_right" s__law_is_right f fd) : FnG P w K mg base CX0 6 f fd ["hand", "word"] (spM K 1 F__law_is_right) :=
  ok_M (k := 5) F sc__law_is_right rfl rfl fun cdv A outer s H E hr hgu => ⟨_,
 (pss_cons (ps_asg (pe_tup (pa_cons (pe_callC C__law_turns hr (by decide) hgu (by rfl) (pa_cons (pv 1) pa_nil)) (pa_cons (pe_callC C__law_last hr (by decide) hgu (by rfl) (pa_cons (pv 1) pa_nil)) pa_nil))) (pg_tup (n := 2) rfl (pgs_cons (pg_name (i := 2) sc__law_is_right.nd rfl (Or.inr rfl)) (pgs_cons (pg_name (i := 3) sc__law_is_right.nd rfl (Or.inr rfl)) pgs_nil))))
 (pss_cons (ps_set (i := 4) sc__law_is_right.nd rfl (Or.inl rfl) (pe_lst pa_nil))
 (pss_cons (ps_for PassesOwn.never rfl (pi_seq (pv 2)) (pg_name (i := 5) sc__law_is_right.nd rfl (Or.inl rfl)) (pss_one (ps_expr (pe_bm PySem.F.plainAttrs_list PySem.F.slot_list_extend PySem.F.type_list_extend mt_extL (pv 4) (pa_cons (pe_ifExp (pt_cmpR (op_notInP hr.units) (pv 5) (pv 4) (by rfl)) (pe_lst (pa_cons (pv 5) pa_nil)) (pe_lst pa_nil)) pa_nil)))))
 (pss_cons (ps_if (pt_not (pt_val (pe_callC C__law_is hr (by decide) hgu (by rfl) (pa_cons (pe_lst (pa_cons (pe_callC C_last_letters hr (by decide) hgu (by rfl) (pa_cons (pv 1) pa_nil)) (pa_cons (pe_callC C_words_like hr (by decide) hgu (by rfl) (pa_cons (pv 3) pa_nil)) (pa_cons (pe_callC C_least_turn hr (by decide) hgu (by rfl) (pa_cons (pv 1) pa_nil)) pa_nil)))) (pa_cons (pe_lst (pa_cons (pv 3) (pa_cons (pe_callTy call_tuple_of (by rfl) Z.tuple b_tuple (pa_cons (pv 4) pa_nil)) (pa_cons (pe_ix ix_seq (pv 2) pe_int (fun _ _ => rfl)) pa_nil)))) pa_nil))))) (pss_one (ps_ret pe_bl)) pss_nil)
 (pss_cons (ps_if (PW.pt (pw_or (pt_cmpR (op_neP hr.units) (pe_callB call_len (by rfl) Z.len b_len (pa_cons (pv 2) pa_nil)) (pe_op op_mulP (pe_callB call_len (by rfl) Z.len b_len (pa_cons (pv 4) pa_nil)) (pe_bm PySem.F.plainAttrs_list PySem.F.slot_list_count PySem.F.type_list_count (mt_cntL hr.units) (pv 2) (pa_cons (pv 1) pa_nil))) (nomark _)) (pw_or1 (pt_not (pt_val (pe_callC C__law_is hr (by decide) hgu (by rfl) (pa_cons (pe_callC C_is_last hr (by decide) hgu (by rfl) (pa_cons (pv 3) pa_nil)) (pa_cons pe_bl pa_nil)))))))) (pss_one (ps_ret pe_bl)) pss_nil)
 (pss_cons (ps_for PassesOwn.never rfl (pi_seq (pe_lc (own := [("lap", 9)]) rfl sc__law_is_right.nd (pi_range1 (by rfl) Z.range (pa_cons pe_int pa_nil)) (blkOk_by (by kernel_rfl)) (fun _ _ _ _ _ => (pg_name (i := 9) sc__law_is_right.nd rfl (Or.inl rfl))) (fun _ _ _ _ _ => pts_nil) (fun _ _ _ _ _ => (pe_callC C__law_some hr (by decide) hgu (by rfl) (pa_cons (pv 0) (pa_cons (pv 2) pa_nil)))))) (pg_name (i := 5) sc__law_is_right.nd rfl (Or.inl rfl)) (pss_cons (ps_set (i := 6) sc__law_is_right.nd rfl (Or.inl rfl) (pe_lst (pa_cons (pe_callC C_last_letters hr (by decide) hgu (by rfl) (pa_cons (pv 5) pa_nil)) (pa_cons (pe_callC C_same_round hr (by decide) hgu (by rfl) (pa_cons (pv 1) (pa_cons (pv 5) pa_nil))) (pa_cons (pe_ix ix_seq (pe_callC C_turned_fewest hr (by decide) hgu (by rfl) (pa_cons (pv 5) (pa_cons (pv 1) pa_nil))) pe_int (fun _ _ => rfl)) (pa_cons (pe_callC C_first_letters hr (by decide) hgu (by rfl) (pa_cons (pv 5) pa_nil)) (pa_cons (pe_callC C_runs_in hr (by decide) hgu (by rfl) (pa_cons (pv 5) pa_nil)) pa_nil)))))))
 (pss_cons (ps_set (i := 7) sc__law_is_right.nd rfl (Or.inl rfl) (pe_lst (pa_cons (pv 3) (pa_cons pe_bl (pa_cons pe_int (pa_cons (pe_bm PySem.F.plainAttrs_str PySem.F.slot_str_join PySem.F.type_str_join mt_join pe_str (pa_cons (pe_callB (cr_sortP rfl hr.units) (by rfl) Z.sorted b_sorted (pa_cons (pv 1) pa_nil)) pa_nil)) (pa_cons (pe_op op_addP pe_int (pe_callB call_len (by rfl) Z.len b_len (pa_cons (pe_lc (own := [("at", 11)]) rfl sc__law_is_right.nd (pi_range2 (by rfl) Z.range (pa_cons pe_int (pa_cons (pe_callB call_len (by rfl) Z.len b_len (pa_cons (pv 3) pa_nil)) pa_nil))) (blkOk_by (by kernel_rfl)) (fun _ _ _ _ _ => (pg_name (i := 11) sc__law_is_right.nd rfl (Or.inl rfl))) (fun _ _ _ _ _ => (pts_one (pt_cmpR (op_neP hr.units) (pe_ix ix_seq (pv 3) (pv 11) (fun _ _ => rfl)) (pe_ix ix_seq (pv 3) (pe_op op_sub (pv 11) pe_int) (fun _ _ => rfl)) (nomark _)))) (fun _ _ _ _ _ => (pv 11))) pa_nil))) pa_nil)))))))
 (pss_one (ps_if (PW.pt (pw_or (pt_not (pt_val (pe_callC C__law_is hr (by decide) hgu (by rfl) (pa_cons (pv 6) (pa_cons (pv 7) pa_nil))))) (pw_or (pt_cmpR (op_neP hr.units) (pe_ix ix_seq (pv 2) (pe_callC C_place_of hr (by decide) hgu (by rfl) (pa_cons (pv 5) pa_nil)) (fun _ _ => rfl)) (pv 5) (nomark _)) (pw_or1 (pt_not (pt_val (pe_callC C__law_is hr (by decide) hgu (by rfl) (pa_cons (pe_callC C_from_last hr (by decide) hgu (by rfl) (pa_cons (pv 3) (pa_cons (pe_callC C_place_of hr (by decide) hgu (by rfl) (pa_cons (pv 5) pa_nil)) pa_nil))) (pa_cons (pv 5) pa_nil))))))))) (pss_one (ps_ret pe_bl)) pss_nil)))))
 (pss_cons (ps_set (i := 8) sc__law_is_right.nd rfl (Or.inl rfl) (pe_callC C_turns_in_order hr (by decide) hgu (by rfl) (pa_cons (pv 1) pa_nil)))
 (pss_one (ps_ret (pe_cmpR (op_eqP hr.units) (pe_lc (own := [("many", 10)]) rfl sc__law_is_right.nd (pi_seq (pv 8)) (blkOk_by (by kernel_rfl)) (fun _ _ _ _ _ => (pg_name (i := 10) sc__law_is_right.nd rfl (Or.inl rfl))) (fun _ _ _ _ _ => pts_nil) (fun _ _ _ _ _ => (pe_op op_addP (pe_slice sl_P (pv 1) (po_some (pv 10)) po_none) (pe_slice sl_P (pv 1) po_none (po_some (pv 10)))))) (pv 2) (nomark _))))))))))),
 (rs_seq (rs_asg (re_tup (rl_cons (re_call (rl_cons re_v rl_nil)) (rl_cons (re_call (rl_cons re_v rl_nil)) rl_nil))) (rg_tup (rgs_cons rg_name (rgs_cons rg_name rgs_nil))))
 (rs_seq (rs_setM (rf_lst rl_nil))
 (rs_seq (rs_for (ri_seq re_v) rg_name (rs_drop (re_mutL (rl_cons (re_if (rt_test (re_op2 ro_s ro_s v_in)) (RF.re (rf_lst (rl_cons re_v rl_nil))) (RF.re (rf_lst rl_nil))) rl_nil) m_ext)))
 (rs_seq (rs_if (rt_not (rt_B (re_call (rl_cons (RF.re (rf_lst (rl_cons (re_call (rl_cons re_v rl_nil)) (rl_cons (re_call (rl_cons re_v rl_nil)) (rl_cons (re_call (rl_cons re_v rl_nil)) rl_nil))))) (rl_cons (RF.re (rf_lst (rl_cons re_v (rl_cons (re_cb (rp_cons ro_s rp_nil) v_tup) (rl_cons (re_op2 ro_s (ro_e re_i) v_ix) rl_nil))))) rl_nil))))) (rs_ret re_b) rs_nil)
 (rs_seq (rs_if (rt_or (rt_test (re_op2 (ro_e (re_cb (rp_cons ro_s rp_nil) v_len)) (ro_e (re_op2 (ro_e (re_cb (rp_cons ro_s rp_nil) v_len)) (ro_e (re_met ro_s (rp_cons ro_s rp_nil) v_countL)) v_mul)) v_ne)) (rt_not (rt_B (re_call (rl_cons (re_call (rl_cons re_v rl_nil)) (rl_cons re_b rl_nil)))))) (rs_ret re_b) rs_nil)
 (rs_seq (rs_for (ri_seq (RF.re (rf_lc (ri_rng1 (rl_cons re_i rl_nil)) rg_name rt_yes (re_callM (rl_cons re_v rl_nil))))) rg_name (rs_seq (rs_asg (RF.re (rf_lst (rl_cons (re_call (rl_cons re_v rl_nil)) (rl_cons (re_call (rl_cons re_v (rl_cons re_v rl_nil))) (rl_cons (re_op2 (ro_e (re_call (rl_cons re_v (rl_cons re_v rl_nil)))) (ro_e re_i) v_ix) (rl_cons (re_call (rl_cons re_v rl_nil)) (rl_cons (re_call (rl_cons re_v rl_nil)) rl_nil))))))) rg_name)
 (rs_seq (rs_asg (RF.re (rf_lst (rl_cons re_v (rl_cons re_b (rl_cons re_i (rl_cons (re_met (ro_e (re_str (by decide +kernel))) (rp_cons (ro_e (RF.re (rf_cb (rp_cons ro_s rp_nil) v_sort))) rp_nil) v_join) (rl_cons (re_op2 (ro_e re_i) (ro_e (re_cb (rp_cons (ro_e (RF.re (rf_lc (ri_rng2 (rl_cons re_i (rl_cons (re_cb (rp_cons ro_s rp_nil) v_len) rl_nil))) rg_name (rt_test (re_op2 (ro_e (re_op2 ro_s ro_s v_ix)) (ro_e (re_op2 ro_s (ro_e (re_op2 ro_s (ro_e re_i) v_sub)) v_ix)) v_ne)) re_v))) rp_nil) v_len)) v_add) rl_nil))))))) rg_name)
 (rs_if (rt_or (rt_not (rt_B (re_call (rl_cons re_v (rl_cons re_v rl_nil))))) (rt_or (rt_test (re_op2 (ro_e (re_op2 ro_s (ro_e (re_call (rl_cons re_v rl_nil))) v_ix)) ro_s v_ne)) (rt_not (rt_B (re_call (rl_cons (re_call (rl_cons re_v (rl_cons (re_call (rl_cons re_v rl_nil)) rl_nil))) (rl_cons re_v rl_nil))))))) (rs_ret re_b) rs_nil))))
 (rs_seq (rs_asg (re_call (rl_cons re_v rl_nil)) rg_name)
 (rs_ret (re_op2 (ro_e (RF.re (rf_lc (ri_seq re_v) rg_name rt_yes (re_op2 (ro_e (re_sl ro_s (pt_so re_v) pt_no v_sl)) (ro_e (re_sl ro_s pt_no (pt_so re_v) v_sl)) v_add)))) ro_s v_eq)))))))))⟩
theorem ok__law_is_apart {f : Addr} {fd : FuncData} (Z : Zs mg) (C__law_draw : Cal P w K mg base "_law_draw" 1 ["hand", "many"] (spM K 1 F__law_draw)) (C__law_turns : Cal P w K mg base "_law_turns" 1 ["word"] (spP K 1 F__law_turns)) (C_last_letters : Cal P w K mg base "last_letters" 4 ["word"] (spP K 1 F_last_letters)) (C_same_round : Cal P w K mg base "same_round" 5 ["one", "other"] (spP K 2 F_same_round)) (C_words_like : Cal P w K mg base "words_like" 5 ["last"] (spP K 1 F_words_like)) (C_turned_fewest : Cal P w K mg base "turned_fewest" 5 ["one", "other"] (spP K 2 F_turned_fewest)) (C_least_turn : Cal P w K mg base "least_turn" 4 ["one"] (spP K 1 F_least_turn)) (C__law_is : Cal P w K mg base "_law_is" 1 ["told", "due"] (spP K 2 F__law_is)) (F : Fun K "_law_is_apart" "_law_is_apart" s__law_is_apart f fd) : FnG P w K mg base CX0 6 f fd ["hand", "word"] (spM K 1 F__law_is_apart) :=
  ok_M (k := 5) F sc__law_is_apart rfl rfl fun cdv A outer s H E hr hgu => ⟨_,
 (pss_cons (ps_par (i := 2) (j := 3) rfl sc__law_is_apart.nd rfl rfl (by decide) rfl rfl (pa_cons (pe_callTy (cr_listP rfl) (by rfl) Z.list b_list (pa_cons (pv 1) pa_nil)) (pa_cons pe_str pa_nil)) rfl)
 (pss_cons (ps_while PassesOwn.never (pt_cmpR (op_neP hr.units) (pv 2) (pe_lst pa_nil) (nomark _)) (pss_one (ps_set (i := 3) sc__law_is_apart.nd rfl (Or.inl rfl) (pe_op op_addP (pv 3) (pe_bm PySem.F.plainAttrs_list PySem.F.slot_list_pop PySem.F.type_list_pop (MtR.or mt_pop mt_popAt) (pv 2) (pa_cons (pe_callC C__law_draw hr (by decide) hgu (by rfl) (pa_cons (pv 0) (pa_cons (pe_callB call_len (by rfl) Z.len b_len (pa_cons (pv 2) pa_nil)) pa_nil))) pa_nil))))))
 (pss_cons (ps_set (i := 4) sc__law_is_apart.nd rfl (Or.inl rfl) (pe_cmpR (op_inP hr.units) (pv 3) (pe_callC C__law_turns hr (by decide) hgu (by rfl) (pa_cons (pv 1) pa_nil)) (by rfl)))
 (pss_cons (ps_set (i := 5) sc__law_is_apart.nd rfl (Or.inl rfl) (pe_lst (pa_cons (pe_cmpR (op_eqP hr.units) (pe_callC C_last_letters hr (by decide) hgu (by rfl) (pa_cons (pv 3) pa_nil)) (pe_callC C_last_letters hr (by decide) hgu (by rfl) (pa_cons (pv 1) pa_nil)) (nomark _)) (pa_cons (pe_callC C_same_round hr (by decide) hgu (by rfl) (pa_cons (pv 1) (pa_cons (pv 3) pa_nil))) (pa_cons (pe_cmpR (op_inP hr.units) (pv 3) (pe_callC C_words_like hr (by decide) hgu (by rfl) (pa_cons (pe_callC C_last_letters hr (by decide) hgu (by rfl) (pa_cons (pv 1) pa_nil)) pa_nil)) (by rfl)) pa_nil)))))
 (pss_cons (ps_set (i := 5) sc__law_is_apart.nd rfl (Or.inl rfl) (pe_op op_addP (pv 5) (pe_lst (pa_cons (pe_cmpR (op_eqP hr.units) (pe_ix ix_seq (pe_callC C_turned_fewest hr (by decide) hgu (by rfl) (pa_cons (pv 1) (pa_cons (pv 3) pa_nil))) pe_int (fun _ _ => rfl)) pe_int (nomark _)) (pa_cons (pe_cmpR (op_eqP hr.units) (pe_callC C_least_turn hr (by decide) hgu (by rfl) (pa_cons (pv 1) pa_nil)) (pe_callC C_least_turn hr (by decide) hgu (by rfl) (pa_cons (pv 3) pa_nil)) (nomark _)) pa_nil)))))
 (pss_one (ps_ret (pe_callC C__law_is hr (by decide) hgu (by rfl) (pa_cons (pv 5) (pa_cons (pe_op op_mulP (pe_lst (pa_cons (pv 4) pa_nil)) pe_int) pa_nil)))))))))),
 (rs_seq (rs_par (rlp_mu (rf_cb (rp_cons ro_s rp_nil) v_list) (rlp_im (re_str (by decide +kernel)) rlp_nil)))
 (rs_seq (rs_while (rt_test (re_op2 ro_s (ro_e (RF.re (rf_lst rl_nil))) v_ne)) (rs_asg (re_op2 ro_s (ro_e (re_mutL (rl_cons (re_callM (rl_cons (re_cb (rp_cons ro_s rp_nil) v_len) rl_nil)) rl_nil) m_pop)) v_add) rg_name))
 (rs_seq (rs_asg (re_op2 ro_s (ro_e (re_call (rl_cons re_v rl_nil))) v_in) rg_name)
 (rs_seq (rs_asg (RF.re (rf_lst (rl_cons (re_op2 (ro_e (re_call (rl_cons re_v rl_nil))) (ro_e (re_call (rl_cons re_v rl_nil))) v_eq) (rl_cons (re_call (rl_cons re_v (rl_cons re_v rl_nil))) (rl_cons (re_op2 ro_s (ro_e (re_call (rl_cons (re_call (rl_cons re_v rl_nil)) rl_nil))) v_in) rl_nil))))) rg_name)
 (rs_seq (rs_asg (re_op2 ro_s (ro_e (RF.re (rf_lst (rl_cons (re_op2 (ro_e (re_op2 (ro_e (re_call (rl_cons re_v (rl_cons re_v rl_nil)))) (ro_e re_i) v_ix)) (ro_e re_i) v_eq) (rl_cons (re_op2 (ro_e (re_call (rl_cons re_v rl_nil))) (ro_e (re_call (rl_cons re_v rl_nil))) v_eq) rl_nil))))) v_add) rg_name)
 (rs_ret (re_call (rl_cons re_v (rl_cons (re_op2 (ro_e (RF.re (rf_lst (rl_cons re_v rl_nil)))) (ro_e re_i) v_mul) rl_nil)))))))))⟩
theorem ok_law {f : Addr} {fd : FuncData} (Z : Zs mg) (C__law_hand : Cal P w K mg base "_law_hand" 1 ["script"] (spF K 1 F__law_hand)) (C_words_like : Cal P w K mg base "words_like" 5 ["last"] (spP K 1 F_words_like)) (C_is_last : Cal P w K mg base "is_last" 5 ["thing"] (spP K 1 F_is_last)) (C__law_is : Cal P w K mg base "_law_is" 1 ["told", "due"] (spP K 2 F__law_is)) (C__law_some : Cal P w K mg base "_law_some" 2 ["hand", "things"] (spM K 1 F__law_some)) (C__law_text : Cal P w K mg base "_law_text" 3 ["hand", "least", "most", "letters"] (spM K 3 F__law_text)) (C__law_is_right : Cal P w K mg base "_law_is_right" 6 ["hand", "word"] (spM K 1 F__law_is_right)) (C__law_is_apart : Cal P w K mg base "_law_is_apart" 6 ["hand", "word"] (spM K 1 F__law_is_apart)) (F : Fun K "law" "law" s_law f fd) : FnG P w K mg base CX0 7 f fd ["script"] (spP K 1 F_law) :=
  ok_P (k := 6) F sc_law rfl rfl fun cdv A outer s H E hr hgu => ⟨_,
 (pss_cons (ps_set (i := 1) sc_law.nd rfl (Or.inl rfl) (pe_callC C__law_hand hr (by decide) hgu (by rfl) (pa_cons (pv 0) pa_nil)))
 (pss_cons (ps_set (i := 2) sc_law.nd rfl (Or.inl rfl) (pe_lst (pa_cons (pe_callC C_words_like hr (by decide) hgu (by rfl) (pa_cons pe_str pa_nil)) (pa_cons (pe_callC C_words_like hr (by decide) hgu (by rfl) (pa_cons pe_str pa_nil)) (pa_cons (pe_callC C_words_like hr (by decide) hgu (by rfl) (pa_cons pe_str pa_nil)) (pa_cons (pe_callC C_is_last hr (by decide) hgu (by rfl) (pa_cons pe_str pa_nil)) (pa_cons (pe_callC C_is_last hr (by decide) hgu (by rfl) (pa_cons pe_str pa_nil)) pa_nil)))))))
 (pss_cons (ps_set (i := 3) sc_law.nd rfl (Or.inl rfl) (pe_lst (pa_cons (pe_tup (pa_cons pe_str (pa_cons pe_str (pa_cons pe_str (pa_cons pe_str (pa_cons pe_str (pa_cons pe_str pa_nil))))))) (pa_cons (pe_tup (pa_cons (pe_op op_mulP pe_str pe_int) pa_nil)) (pa_cons (pe_tup (pa_cons (pe_op op_mulP pe_str pe_int) (pa_cons (pe_op op_mulP pe_str pe_int) pa_nil))) (pa_cons pe_bl (pa_cons pe_bl pa_nil)))))))
 (pss_cons (ps_if (pt_not (pt_val (pe_callC C__law_is hr (by decide) hgu (by rfl) (pa_cons (pv 2) (pa_cons (pv 3) pa_nil))))) (pss_one (ps_ret pe_bl)) pss_nil)
 (pss_cons (ps_for PassesOwn.never rfl (pi_range1 (by rfl) Z.range (pa_cons pe_int pa_nil)) (pg_name (i := 4) sc_law.nd rfl (Or.inl rfl)) (pss_cons (ps_set (i := 5) sc_law.nd rfl (Or.inl rfl) (pe_callC C__law_some hr (by decide) hgu (by rfl) (pa_cons (pv 1) (pa_cons (pe_lst (pa_cons pe_str (pa_cons pe_str (pa_cons pe_str (pa_cons pe_str (pa_cons pe_str (pa_cons pe_str pa_nil))))))) pa_nil))))
 (pss_cons (ps_set (i := 6) sc_law.nd rfl (Or.inl rfl) (pe_callC C__law_text hr (by decide) hgu (by rfl) (pa_cons (pv 1) (pa_cons pe_int (pa_cons pe_int (pa_cons (pv 5) pa_nil))))))
 (pss_cons (ps_set (i := 7) sc_law.nd rfl (Or.inl rfl) (pe_callC C__law_text hr (by decide) hgu (by rfl) (pa_cons (pv 1) (pa_cons pe_int (pa_cons pe_int (pa_cons (pv 5) pa_nil))))))
 (pss_cons (ps_set (i := 6) sc_law.nd rfl (Or.inl rfl) (pe_callC C__law_some hr (by decide) hgu (by rfl) (pa_cons (pv 1) (pa_cons (pe_lst (pa_cons (pv 6) (pa_cons (pv 6) (pa_cons (pe_op op_mulP (pv 7) (pe_op op_fdivW pe_int (pe_callB call_len (by rfl) Z.len b_len (pa_cons (pv 7) pa_nil)))) (pa_cons (pe_op op_mulP (pv 7) pe_int) pa_nil))))) pa_nil))))
 (pss_one (ps_if (PW.pt (pw_or (pt_not (pt_val (pe_callC C__law_is_right hr (by decide) hgu (by rfl) (pa_cons (pv 1) (pa_cons (pv 6) pa_nil))))) (pw_or1 (pt_not (pt_val (pe_callC C__law_is_apart hr (by decide) hgu (by rfl) (pa_cons (pv 1) (pa_cons (pv 6) pa_nil)))))))) (pss_one (ps_ret pe_bl)) pss_nil)))))))
 (pss_one (ps_ret pe_bl))))))),
 (rs_seq (rs_setM (rf_callF (rl_cons re_v rl_nil)))
 (rs_seq (rs_asg (RF.re (rf_lst (rl_cons (re_call (rl_cons (re_str (by decide +kernel)) rl_nil)) (rl_cons (re_call (rl_cons (re_str (by decide +kernel)) rl_nil)) (rl_cons (re_call (rl_cons (re_str (by decide +kernel)) rl_nil)) (rl_cons (re_call (rl_cons (re_str (by decide +kernel)) rl_nil)) (rl_cons (re_call (rl_cons (re_str (by decide +kernel)) rl_nil)) rl_nil))))))) rg_name)
 (rs_seq (rs_asg (RF.re (rf_lst (rl_cons (re_tup (rl_cons (re_str (by decide +kernel)) (rl_cons (re_str (by decide +kernel)) (rl_cons (re_str (by decide +kernel)) (rl_cons (re_str (by decide +kernel)) (rl_cons (re_str (by decide +kernel)) (rl_cons (re_str (by decide +kernel)) rl_nil))))))) (rl_cons (re_tup (rl_cons (re_op2 (ro_e (re_str (by decide +kernel))) (ro_e re_i) v_mul) rl_nil)) (rl_cons (re_tup (rl_cons (re_op2 (ro_e (re_str (by decide +kernel))) (ro_e re_i) v_mul) (rl_cons (re_op2 (ro_e (re_str (by decide +kernel))) (ro_e re_i) v_mul) rl_nil))) (rl_cons re_b (rl_cons re_b rl_nil))))))) rg_name)
 (rs_seq (rs_if (rt_not (rt_B (re_call (rl_cons re_v (rl_cons re_v rl_nil))))) (rs_ret re_b) rs_nil)
 (rs_seq (rs_for (ri_rng1 (rl_cons re_i rl_nil)) rg_name (rs_seq (rs_asg (re_callM (rl_cons (RF.re (rf_lst (rl_cons (re_str (by decide +kernel)) (rl_cons (re_str (by decide +kernel)) (rl_cons (re_str (by decide +kernel)) (rl_cons (re_str (by decide +kernel)) (rl_cons (re_str (by decide +kernel)) (rl_cons (re_str (by decide +kernel)) rl_nil)))))))) rl_nil)) rg_name)
 (rs_seq (rs_asg (re_callM (rl_cons re_i (rl_cons re_i (rl_cons re_v rl_nil)))) rg_name)
 (rs_seq (rs_asg (re_callM (rl_cons re_i (rl_cons re_i (rl_cons re_v rl_nil)))) rg_name)
 (rs_seq (rs_asg (re_callM (rl_cons (RF.re (rf_lst (rl_cons re_v (rl_cons re_v (rl_cons (re_op2 ro_s (ro_e (re_op2 (ro_e re_i) (ro_e (re_cb (rp_cons ro_s rp_nil) v_len)) v_fdiv)) v_mul) (rl_cons (re_op2 ro_s (ro_e re_i) v_mul) rl_nil)))))) rl_nil)) rg_name)
 (rs_if (rt_or (rt_not (rt_B (re_callM (rl_cons re_v rl_nil)))) (rt_not (rt_B (re_callM (rl_cons re_v rl_nil))))) (rs_ret re_b) rs_nil))))))
 (rs_ret re_b))))))⟩
end
set_option maxHeartbeats 0 in
theorem all_mk {l : PySem.W.OpenLaw} {w : World} {K : PySem.W.Frag} {h : Heap} {mg : Str → Option Value} {fa f0 f1 f2 f3 f4 f5 f6 f7 f8 f9 f10 f11 f12 f13 f14 f15 f16 f17 f18 f19 f20 f21 f22 f23 f24 f25 f26 f27 f28 f29 f30 f31 f32 f33 f34 f35 f36 f37 : Addr} {od0 an0 od1 an1 od2 an2 od3 an3 od4 an4 od5 an5 od6 an6 od7 an7 od8 an8 od9 an9 od10 an10 od11 an11 od12 an12 od13 an13 od14 an14 od15 an15 od16 an16 od17 an17 od18 an18 od19 an19 od20 an20 od21 an21 od22 an22 od23 an23 od24 an24 od25 an25 od26 an26 od27 an27 od28 an28 od29 an29 od30 an30 od31 an31 od32 an32 od33 an33 od34 an34 od35 an35 od36 an36 od37 an37 : Option Addr} {sl0 sl1 sl2 sl3 sl4 sl5 sl6 sl7 sl8 sl9 sl10 sl11 sl12 sl13 sl14 sl15 sl16 sl17 sl18 sl19 sl20 sl21 sl22 sl23 sl24 sl25 sl26 sl27 sl28 sl29 sl30 sl31 sl32 sl33 sl34 sl35 sl36 sl37 : Array (Option Value)} {oc0 kV0 dc0 pm0 cd0 ct0 oc1 kV1 dc1 pm1 cd1 ct1 oc2 kV2 dc2 pm2 cd2 ct2 oc3 kV3 dc3 pm3 cd3 ct3 oc4 kV4 dc4 pm4 cd4 ct4 oc5 kV5 dc5 pm5 cd5 ct5 oc6 kV6 dc6 pm6 cd6 ct6 oc7 kV7 dc7 pm7 cd7 ct7 oc8 kV8 dc8 pm8 cd8 ct8 oc9 kV9 dc9 pm9 cd9 ct9 oc10 kV10 dc10 pm10 cd10 ct10 oc11 kV11 dc11 pm11 cd11 ct11 oc12 kV12 dc12 pm12 cd12 ct12 oc13 kV13 dc13 pm13 cd13 ct13 oc14 kV14 dc14 pm14 cd14 ct14 oc15 kV15 dc15 pm15 cd15 ct15 oc16 kV16 dc16 pm16 cd16 ct16 oc17 kV17 dc17 pm17 cd17 ct17 oc18 kV18 dc18 pm18 cd18 ct18 oc19 kV19 dc19 pm19 cd19 ct19 oc20 kV20 dc20 pm20 cd20 ct20 oc21 kV21 dc21 pm21 cd21 ct21 oc22 kV22 dc22 pm22 cd22 ct22 oc23 kV23 dc23 pm23 cd23 ct23 oc24 kV24 dc24 pm24 cd24 ct24 oc25 kV25 dc25 pm25 cd25 ct25 oc26 kV26 dc26 pm26 cd26 ct26 oc27 kV27 dc27 pm27 cd27 ct27 oc28 kV28 dc28 pm28 cd28 ct28 oc29 kV29 dc29 pm29 cd29 ct29 oc30 kV30 dc30 pm30 cd30 ct30 oc31 kV31 dc31 pm31 cd31 ct31 oc32 kV32 dc32 pm32 cd32 ct32 oc33 kV33 dc33 pm33 cd33 ct33 oc34 kV34 dc34 pm34 cd34 ct34 oc35 kV35 dc35 pm35 cd35 ct35 oc36 kV36 dc36 pm36 cd36 ct36 oc37 kV37 dc37 pm37 cd37 ct37 : Value} (X : K.In h) (G : h.Ns mainGlobals mg) (hfa : mg "law" = some (.ref fa))
    (a0 : PySem.W.nsIn K mainGlobals "is_integer" = some (some (.ref f0))) (l0 : K.lookup f0 = some ⟨oc0, od0, .func (PySem.W.fnOf "is_integer" "is_integer" (defArgs s_is_integer) (defBody s_is_integer) (defScope s_is_integer) .none kV0 dc0 pm0 an0 cd0 ct0), sl0⟩) (c0 : PySem.W.codeIn K cd0 "is_integer" = true) (k0 : PySem.W.keepIn K (.ref f0) = true)
    (a1 : PySem.W.nsIn K mainGlobals "is_within" = some (some (.ref f1))) (l1 : K.lookup f1 = some ⟨oc1, od1, .func (PySem.W.fnOf "is_within" "is_within" (defArgs s_is_within) (defBody s_is_within) (defScope s_is_within) .none kV1 dc1 pm1 an1 cd1 ct1), sl1⟩) (c1 : PySem.W.codeIn K cd1 "is_within" = true) (k1 : PySem.W.keepIn K (.ref f1) = true)
    (a2 : PySem.W.nsIn K mainGlobals "is_letters" = some (some (.ref f2))) (l2 : K.lookup f2 = some ⟨oc2, od2, .func (PySem.W.fnOf "is_letters" "is_letters" (defArgs s_is_letters) (defBody s_is_letters) (defScope s_is_letters) .none kV2 dc2 pm2 an2 cd2 ct2), sl2⟩) (c2 : PySem.W.codeIn K cd2 "is_letters" = true) (k2 : PySem.W.keepIn K (.ref f2) = true)
    (a3 : PySem.W.nsIn K mainGlobals "is_text" = some (some (.ref f3))) (l3 : K.lookup f3 = some ⟨oc3, od3, .func (PySem.W.fnOf "is_text" "is_text" (defArgs s_is_text) (defBody s_is_text) (defScope s_is_text) .none kV3 dc3 pm3 an3 cd3 ct3), sl3⟩) (c3 : PySem.W.codeIn K cd3 "is_text" = true) (k3 : PySem.W.keepIn K (.ref f3) = true)
    (a4 : PySem.W.nsIn K mainGlobals "check_text" = some (some (.ref f4))) (l4 : K.lookup f4 = some ⟨oc4, od4, .func (PySem.W.fnOf "check_text" "check_text" (defArgs s_check_text) (defBody s_check_text) (defScope s_check_text) .none kV4 dc4 pm4 an4 cd4 ct4), sl4⟩) (c4 : PySem.W.codeIn K cd4 "check_text" = true) (k4 : PySem.W.keepIn K (.ref f4) = true)
    (a5 : PySem.W.nsIn K mainGlobals "check_two" = some (some (.ref f5))) (l5 : K.lookup f5 = some ⟨oc5, od5, .func (PySem.W.fnOf "check_two" "check_two" (defArgs s_check_two) (defBody s_check_two) (defScope s_check_two) .none kV5 dc5 pm5 an5 cd5 ct5), sl5⟩) (c5 : PySem.W.codeIn K cd5 "check_two" = true) (k5 : PySem.W.keepIn K (.ref f5) = true)
    (a6 : PySem.W.nsIn K mainGlobals "is_word" = some (some (.ref f6))) (l6 : K.lookup f6 = some ⟨oc6, od6, .func (PySem.W.fnOf "is_word" "is_word" (defArgs s_is_word) (defBody s_is_word) (defScope s_is_word) .none kV6 dc6 pm6 an6 cd6 ct6), sl6⟩) (c6 : PySem.W.codeIn K cd6 "is_word" = true) (k6 : PySem.W.keepIn K (.ref f6) = true)
    (a7 : PySem.W.nsIn K mainGlobals "check_word" = some (some (.ref f7))) (l7 : K.lookup f7 = some ⟨oc7, od7, .func (PySem.W.fnOf "check_word" "check_word" (defArgs s_check_word) (defBody s_check_word) (defScope s_check_word) .none kV7 dc7 pm7 an7 cd7 ct7), sl7⟩) (c7 : PySem.W.codeIn K cd7 "check_word" = true) (k7 : PySem.W.keepIn K (.ref f7) = true)
    (a8 : PySem.W.nsIn K mainGlobals "turned" = some (some (.ref f8))) (l8 : K.lookup f8 = some ⟨oc8, od8, .func (PySem.W.fnOf "turned" "turned" (defArgs s_turned) (defBody s_turned) (defScope s_turned) .none kV8 dc8 pm8 an8 cd8 ct8), sl8⟩) (c8 : PySem.W.codeIn K cd8 "turned" = true) (k8 : PySem.W.keepIn K (.ref f8) = true)
    (a9 : PySem.W.nsIn K mainGlobals "raw_order" = some (some (.ref f9))) (l9 : K.lookup f9 = some ⟨oc9, od9, .func (PySem.W.fnOf "raw_order" "raw_order" (defArgs s_raw_order) (defBody s_raw_order) (defScope s_raw_order) .none kV9 dc9 pm9 an9 cd9 ct9), sl9⟩) (c9 : PySem.W.codeIn K cd9 "raw_order" = true) (k9 : PySem.W.keepIn K (.ref f9) = true)
    (a10 : PySem.W.nsIn K mainGlobals "turns_in_order" = some (some (.ref f10))) (l10 : K.lookup f10 = some ⟨oc10, od10, .func (PySem.W.fnOf "turns_in_order" "turns_in_order" (defArgs s_turns_in_order) (defBody s_turns_in_order) (defScope s_turns_in_order) .none kV10 dc10 pm10 an10 cd10 ct10), sl10⟩) (c10 : PySem.W.codeIn K cd10 "turns_in_order" = true) (k10 : PySem.W.keepIn K (.ref f10) = true)
    (a11 : PySem.W.nsIn K mainGlobals "raw_last" = some (some (.ref f11))) (l11 : K.lookup f11 = some ⟨oc11, od11, .func (PySem.W.fnOf "raw_last" "raw_last" (defArgs s_raw_last) (defBody s_raw_last) (defScope s_raw_last) .none kV11 dc11 pm11 an11 cd11 ct11), sl11⟩) (c11 : PySem.W.codeIn K cd11 "raw_last" = true) (k11 : PySem.W.keepIn K (.ref f11) = true)
    (a12 : PySem.W.nsIn K mainGlobals "last_letters" = some (some (.ref f12))) (l12 : K.lookup f12 = some ⟨oc12, od12, .func (PySem.W.fnOf "last_letters" "last_letters" (defArgs s_last_letters) (defBody s_last_letters) (defScope s_last_letters) .none kV12 dc12 pm12 an12 cd12 ct12), sl12⟩) (c12 : PySem.W.codeIn K cd12 "last_letters" = true) (k12 : PySem.W.keepIn K (.ref f12) = true)
    (a13 : PySem.W.nsIn K mainGlobals "place_of" = some (some (.ref f13))) (l13 : K.lookup f13 = some ⟨oc13, od13, .func (PySem.W.fnOf "place_of" "place_of" (defArgs s_place_of) (defBody s_place_of) (defScope s_place_of) .none kV13 dc13 pm13 an13 cd13 ct13), sl13⟩) (c13 : PySem.W.codeIn K cd13 "place_of" = true) (k13 : PySem.W.keepIn K (.ref f13) = true)
    (a14 : PySem.W.nsIn K mainGlobals "raw_steps" = some (some (.ref f14))) (l14 : K.lookup f14 = some ⟨oc14, od14, .func (PySem.W.fnOf "raw_steps" "raw_steps" (defArgs s_raw_steps) (defBody s_raw_steps) (defScope s_raw_steps) .none kV14 dc14 pm14 an14 cd14 ct14), sl14⟩) (c14 : PySem.W.codeIn K cd14 "raw_steps" = true) (k14 : PySem.W.keepIn K (.ref f14) = true)
    (a15 : PySem.W.nsIn K mainGlobals "raw_from_last" = some (some (.ref f15))) (l15 : K.lookup f15 = some ⟨oc15, od15, .func (PySem.W.fnOf "raw_from_last" "raw_from_last" (defArgs s_raw_from_last) (defBody s_raw_from_last) (defScope s_raw_from_last) .none kV15 dc15 pm15 an15 cd15 ct15), sl15⟩) (c15 : PySem.W.codeIn K cd15 "raw_from_last" = true) (k15 : PySem.W.keepIn K (.ref f15) = true)
    (a16 : PySem.W.nsIn K mainGlobals "all_words_like" = some (some (.ref f16))) (l16 : K.lookup f16 = some ⟨oc16, od16, .func (PySem.W.fnOf "all_words_like" "all_words_like" (defArgs s_all_words_like) (defBody s_all_words_like) (defScope s_all_words_like) .none kV16 dc16 pm16 an16 cd16 ct16), sl16⟩) (c16 : PySem.W.codeIn K cd16 "all_words_like" = true) (k16 : PySem.W.keepIn K (.ref f16) = true)
    (a17 : PySem.W.nsIn K mainGlobals "from_last" = some (some (.ref f17))) (l17 : K.lookup f17 = some ⟨oc17, od17, .func (PySem.W.fnOf "from_last" "from_last" (defArgs s_from_last) (defBody s_from_last) (defScope s_from_last) .none kV17 dc17 pm17 an17 cd17 ct17), sl17⟩) (c17 : PySem.W.codeIn K cd17 "from_last" = true) (k17 : PySem.W.keepIn K (.ref f17) = true)
    (a18 : PySem.W.nsIn K mainGlobals "is_last" = some (some (.ref f18))) (l18 : K.lookup f18 = some ⟨oc18, od18, .func (PySem.W.fnOf "is_last" "is_last" (defArgs s_is_last) (defBody s_is_last) (defScope s_is_last) .none kV18 dc18 pm18 an18 cd18 ct18), sl18⟩) (c18 : PySem.W.codeIn K cd18 "is_last" = true) (k18 : PySem.W.keepIn K (.ref f18) = true)
    (a19 : PySem.W.nsIn K mainGlobals "first_letters" = some (some (.ref f19))) (l19 : K.lookup f19 = some ⟨oc19, od19, .func (PySem.W.fnOf "first_letters" "first_letters" (defArgs s_first_letters) (defBody s_first_letters) (defScope s_first_letters) .none kV19 dc19 pm19 an19 cd19 ct19), sl19⟩) (c19 : PySem.W.codeIn K cd19 "first_letters" = true) (k19 : PySem.W.keepIn K (.ref f19) = true)
    (a20 : PySem.W.nsIn K mainGlobals "runs_in" = some (some (.ref f20))) (l20 : K.lookup f20 = some ⟨oc20, od20, .func (PySem.W.fnOf "runs_in" "runs_in" (defArgs s_runs_in) (defBody s_runs_in) (defScope s_runs_in) .none kV20 dc20 pm20 an20 cd20 ct20), sl20⟩) (c20 : PySem.W.codeIn K cd20 "runs_in" = true) (k20 : PySem.W.keepIn K (.ref f20) = true)
    (a21 : PySem.W.nsIn K mainGlobals "words_like" = some (some (.ref f21))) (l21 : K.lookup f21 = some ⟨oc21, od21, .func (PySem.W.fnOf "words_like" "words_like" (defArgs s_words_like) (defBody s_words_like) (defScope s_words_like) .none kV21 dc21 pm21 an21 cd21 ct21), sl21⟩) (c21 : PySem.W.codeIn K cd21 "words_like" = true) (k21 : PySem.W.keepIn K (.ref f21) = true)
    (a22 : PySem.W.nsIn K mainGlobals "edit_table" = some (some (.ref f22))) (l22 : K.lookup f22 = some ⟨oc22, od22, .func (PySem.W.fnOf "edit_table" "edit_table" (defArgs s_edit_table) (defBody s_edit_table) (defScope s_edit_table) .none kV22 dc22 pm22 an22 cd22 ct22), sl22⟩) (c22 : PySem.W.codeIn K cd22 "edit_table" = true) (k22 : PySem.W.keepIn K (.ref f22) = true)
    (a23 : PySem.W.nsIn K mainGlobals "raw_fewest" = some (some (.ref f23))) (l23 : K.lookup f23 = some ⟨oc23, od23, .func (PySem.W.fnOf "raw_fewest" "raw_fewest" (defArgs s_raw_fewest) (defBody s_raw_fewest) (defScope s_raw_fewest) .none kV23 dc23 pm23 an23 cd23 ct23), sl23⟩) (c23 : PySem.W.codeIn K cd23 "raw_fewest" = true) (k23 : PySem.W.keepIn K (.ref f23) = true)
    (a24 : PySem.W.nsIn K mainGlobals "all_turns" = some (some (.ref f24))) (l24 : K.lookup f24 = some ⟨oc24, od24, .func (PySem.W.fnOf "all_turns" "all_turns" (defArgs s_all_turns) (defBody s_all_turns) (defScope s_all_turns) .none kV24 dc24 pm24 an24 cd24 ct24), sl24⟩) (c24 : PySem.W.codeIn K cd24 "all_turns" = true) (k24 : PySem.W.keepIn K (.ref f24) = true)
    (a25 : PySem.W.nsIn K mainGlobals "turned_fewest" = some (some (.ref f25))) (l25 : K.lookup f25 = some ⟨oc25, od25, .func (PySem.W.fnOf "turned_fewest" "turned_fewest" (defArgs s_turned_fewest) (defBody s_turned_fewest) (defScope s_turned_fewest) .none kV25 dc25 pm25 an25 cd25 ct25), sl25⟩) (c25 : PySem.W.codeIn K cd25 "turned_fewest" = true) (k25 : PySem.W.keepIn K (.ref f25) = true)
    (a26 : PySem.W.nsIn K mainGlobals "least_turn" = some (some (.ref f26))) (l26 : K.lookup f26 = some ⟨oc26, od26, .func (PySem.W.fnOf "least_turn" "least_turn" (defArgs s_least_turn) (defBody s_least_turn) (defScope s_least_turn) .none kV26 dc26 pm26 an26 cd26 ct26), sl26⟩) (c26 : PySem.W.codeIn K cd26 "least_turn" = true) (k26 : PySem.W.keepIn K (.ref f26) = true)
    (a27 : PySem.W.nsIn K mainGlobals "same_round" = some (some (.ref f27))) (l27 : K.lookup f27 = some ⟨oc27, od27, .func (PySem.W.fnOf "same_round" "same_round" (defArgs s_same_round) (defBody s_same_round) (defScope s_same_round) .none kV27 dc27 pm27 an27 cd27 ct27), sl27⟩) (c27 : PySem.W.codeIn K cd27 "same_round" = true) (k27 : PySem.W.keepIn K (.ref f27) = true)
    (a28 : PySem.W.nsIn K mainGlobals "_law_hand" = some (some (.ref f28))) (l28 : K.lookup f28 = some ⟨oc28, od28, .func (PySem.W.fnOf "_law_hand" "_law_hand" (defArgs s__law_hand) (defBody s__law_hand) (defScope s__law_hand) .none kV28 dc28 pm28 an28 cd28 ct28), sl28⟩) (c28 : PySem.W.codeIn K cd28 "_law_hand" = true) (k28 : PySem.W.keepIn K (.ref f28) = true)
    (a29 : PySem.W.nsIn K mainGlobals "_law_draw" = some (some (.ref f29))) (l29 : K.lookup f29 = some ⟨oc29, od29, .func (PySem.W.fnOf "_law_draw" "_law_draw" (defArgs s__law_draw) (defBody s__law_draw) (defScope s__law_draw) .none kV29 dc29 pm29 an29 cd29 ct29), sl29⟩) (c29 : PySem.W.codeIn K cd29 "_law_draw" = true) (k29 : PySem.W.keepIn K (.ref f29) = true)
    (a30 : PySem.W.nsIn K mainGlobals "_law_some" = some (some (.ref f30))) (l30 : K.lookup f30 = some ⟨oc30, od30, .func (PySem.W.fnOf "_law_some" "_law_some" (defArgs s__law_some) (defBody s__law_some) (defScope s__law_some) .none kV30 dc30 pm30 an30 cd30 ct30), sl30⟩) (c30 : PySem.W.codeIn K cd30 "_law_some" = true) (k30 : PySem.W.keepIn K (.ref f30) = true)
    (a31 : PySem.W.nsIn K mainGlobals "_law_is" = some (some (.ref f31))) (l31 : K.lookup f31 = some ⟨oc31, od31, .func (PySem.W.fnOf "_law_is" "_law_is" (defArgs s__law_is) (defBody s__law_is) (defScope s__law_is) .none kV31 dc31 pm31 an31 cd31 ct31), sl31⟩) (c31 : PySem.W.codeIn K cd31 "_law_is" = true) (k31 : PySem.W.keepIn K (.ref f31) = true)
    (a32 : PySem.W.nsIn K mainGlobals "_law_text" = some (some (.ref f32))) (l32 : K.lookup f32 = some ⟨oc32, od32, .func (PySem.W.fnOf "_law_text" "_law_text" (defArgs s__law_text) (defBody s__law_text) (defScope s__law_text) .none kV32 dc32 pm32 an32 cd32 ct32), sl32⟩) (c32 : PySem.W.codeIn K cd32 "_law_text" = true) (k32 : PySem.W.keepIn K (.ref f32) = true)
    (a33 : PySem.W.nsIn K mainGlobals "_law_turns" = some (some (.ref f33))) (l33 : K.lookup f33 = some ⟨oc33, od33, .func (PySem.W.fnOf "_law_turns" "_law_turns" (defArgs s__law_turns) (defBody s__law_turns) (defScope s__law_turns) .none kV33 dc33 pm33 an33 cd33 ct33), sl33⟩) (c33 : PySem.W.codeIn K cd33 "_law_turns" = true) (k33 : PySem.W.keepIn K (.ref f33) = true)
    (a34 : PySem.W.nsIn K mainGlobals "_law_last" = some (some (.ref f34))) (l34 : K.lookup f34 = some ⟨oc34, od34, .func (PySem.W.fnOf "_law_last" "_law_last" (defArgs s__law_last) (defBody s__law_last) (defScope s__law_last) .none kV34 dc34 pm34 an34 cd34 ct34), sl34⟩) (c34 : PySem.W.codeIn K cd34 "_law_last" = true) (k34 : PySem.W.keepIn K (.ref f34) = true)
    (a35 : PySem.W.nsIn K mainGlobals "_law_is_right" = some (some (.ref f35))) (l35 : K.lookup f35 = some ⟨oc35, od35, .func (PySem.W.fnOf "_law_is_right" "_law_is_right" (defArgs s__law_is_right) (defBody s__law_is_right) (defScope s__law_is_right) .none kV35 dc35 pm35 an35 cd35 ct35), sl35⟩) (c35 : PySem.W.codeIn K cd35 "_law_is_right" = true) (k35 : PySem.W.keepIn K (.ref f35) = true)
    (a36 : PySem.W.nsIn K mainGlobals "_law_is_apart" = some (some (.ref f36))) (l36 : K.lookup f36 = some ⟨oc36, od36, .func (PySem.W.fnOf "_law_is_apart" "_law_is_apart" (defArgs s__law_is_apart) (defBody s__law_is_apart) (defScope s__law_is_apart) .none kV36 dc36 pm36 an36 cd36 ct36), sl36⟩) (c36 : PySem.W.codeIn K cd36 "_law_is_apart" = true) (k36 : PySem.W.keepIn K (.ref f36) = true)
    (a37 : PySem.W.nsIn K mainGlobals "law" = some (some (.ref f37))) (l37 : K.lookup f37 = some ⟨oc37, od37, .func (PySem.W.fnOf "law" "law" (defArgs s_law) (defBody s_law) (defScope s_law) .none kV37 dc37 pm37 an37 cd37 ct37), sl37⟩) (c37 : PySem.W.codeIn K cd37 "law" = true) (k37 : PySem.W.keepIn K (.ref f37) = true)
    (z_abs : PySem.W.nsIn K mainGlobals "abs" = some none)
    (z_all : PySem.W.nsIn K mainGlobals "all" = some none)
    (z_bool : PySem.W.nsIn K mainGlobals "bool" = some none)
    (z_enumerate : PySem.W.nsIn K mainGlobals "enumerate" = some none)
    (z_int : PySem.W.nsIn K mainGlobals "int" = some none)
    (z_isinstance : PySem.W.nsIn K mainGlobals "isinstance" = some none)
    (z_len : PySem.W.nsIn K mainGlobals "len" = some none)
    (z_list : PySem.W.nsIn K mainGlobals "list" = some none)
    (z_max : PySem.W.nsIn K mainGlobals "max" = some none)
    (z_min : PySem.W.nsIn K mainGlobals "min" = some none)
    (z_range : PySem.W.nsIn K mainGlobals "range" = some none)
    (z_repr : PySem.W.nsIn K mainGlobals "repr" = some none)
    (z_sorted : PySem.W.nsIn K mainGlobals "sorted" = some none)
    (z_str : PySem.W.nsIn K mainGlobals "str" = some none)
    (z_tuple : PySem.W.nsIn K mainGlobals "tuple" = some none)
    (z_zip : PySem.W.nsIn K mainGlobals "zip" = some none)
    (z_LETTERS : PySem.W.nsIn K mainGlobals "LETTERS" = some (some (.str "abcdefghijklmnopqrstuvwxyz" tk_LETTERS)))
    (z_MOST_TEXT : PySem.W.nsIn K mainGlobals "MOST_TEXT" = some (some (.int 12 tk_MOST_TEXT)))
    : ∃ fd : FuncData, (∀ (s : Shared) (v : Value), BindsTo s fd ⟨[v], []⟩ [("script", v)]) ∧ ∀ base : Heap, K.In base → base.Ns mainGlobals mg → FnG l.prog w K mg base CX0 7 fa fd ["script"] (spP K 1 F_law) := by
  have e := hfa.symm.trans (PySem.W.mg_of X G a37)
  cases e
  have Z : Zs mg := ⟨PySem.W.mg_none_of X G z_abs, PySem.W.mg_none_of X G z_all, PySem.W.mg_none_of X G z_bool, PySem.W.mg_none_of X G z_enumerate, PySem.W.mg_none_of X G z_int, PySem.W.mg_none_of X G z_isinstance, PySem.W.mg_none_of X G z_len, PySem.W.mg_none_of X G z_list, PySem.W.mg_none_of X G z_max, PySem.W.mg_none_of X G z_min, PySem.W.mg_none_of X G z_range, PySem.W.mg_none_of X G z_repr, PySem.W.mg_none_of X G z_sorted, PySem.W.mg_none_of X G z_str, PySem.W.mg_none_of X G z_tuple, PySem.W.mg_none_of X G z_zip, ⟨_, PySem.W.mg_of X G z_LETTERS⟩, ⟨_, PySem.W.mg_of X G z_MOST_TEXT⟩⟩
  have X0 := fun_mk (st := s_is_integer) l0 c0 k0
  have X1 := fun_mk (st := s_is_within) l1 c1 k1
  have X2 := fun_mk (st := s_is_letters) l2 c2 k2
  have X3 := fun_mk (st := s_is_text) l3 c3 k3
  have X4 := fun_mk (st := s_check_text) l4 c4 k4
  have X5 := fun_mk (st := s_check_two) l5 c5 k5
  have X6 := fun_mk (st := s_is_word) l6 c6 k6
  have X7 := fun_mk (st := s_check_word) l7 c7 k7
  have X8 := fun_mk (st := s_turned) l8 c8 k8
  have X9 := fun_mk (st := s_raw_order) l9 c9 k9
  have X10 := fun_mk (st := s_turns_in_order) l10 c10 k10
  have X11 := fun_mk (st := s_raw_last) l11 c11 k11
  have X12 := fun_mk (st := s_last_letters) l12 c12 k12
  have X13 := fun_mk (st := s_place_of) l13 c13 k13
  have X14 := fun_mk (st := s_raw_steps) l14 c14 k14
  have X15 := fun_mk (st := s_raw_from_last) l15 c15 k15
  have X16 := fun_mk (st := s_all_words_like) l16 c16 k16
  have X17 := fun_mk (st := s_from_last) l17 c17 k17
  have X18 := fun_mk (st := s_is_last) l18 c18 k18
  have X19 := fun_mk (st := s_first_letters) l19 c19 k19
  have X20 := fun_mk (st := s_runs_in) l20 c20 k20
  have X21 := fun_mk (st := s_words_like) l21 c21 k21
  have X22 := fun_mk (st := s_edit_table) l22 c22 k22
  have X23 := fun_mk (st := s_raw_fewest) l23 c23 k23
  have X24 := fun_mk (st := s_all_turns) l24 c24 k24
  have X25 := fun_mk (st := s_turned_fewest) l25 c25 k25
  have X26 := fun_mk (st := s_least_turn) l26 c26 k26
  have X27 := fun_mk (st := s_same_round) l27 c27 k27
  have X28 := fun_mk (st := s__law_hand) l28 c28 k28
  have X29 := fun_mk (st := s__law_draw) l29 c29 k29
  have X30 := fun_mk (st := s__law_some) l30 c30 k30
  have X31 := fun_mk (st := s__law_is) l31 c31 k31
  have X32 := fun_mk (st := s__law_text) l32 c32 k32
  have X33 := fun_mk (st := s__law_turns) l33 c33 k33
  have X34 := fun_mk (st := s__law_last) l34 c34 k34
  have X35 := fun_mk (st := s__law_is_right) l35 c35 k35
  have X36 := fun_mk (st := s__law_is_apart) l36 c36 k36
  have X37 := fun_mk (st := s_law) l37 c37 k37
  refine ⟨PySem.W.fnOf "law" "law" (defArgs s_law) (defBody s_law) (defScope s_law) .none kV37 dc37 pm37 an37 cd37 ct37, fun s v => .of_eq rfl, fun base _ _ => ?_⟩
  have C_is_integer : Cal l.prog w K mg base "is_integer" 1 ["thing"] (spP K 1 F_is_integer) := ⟨_, _, PySem.W.mg_of X G a0, k0, X0.binds fun _ _ _ _ _ _ us hl => match us, hl with | [_], _ => rfl, ok_is_integer Z  X0⟩
  have C_is_within : Cal l.prog w K mg base "is_within" 2 ["thing", "least", "most"] (spP K 3 F_is_within) := ⟨_, _, PySem.W.mg_of X G a1, k1, X1.binds fun _ _ _ _ _ _ us hl => match us, hl with | [_, _, _], _ => rfl, ok_is_within Z C_is_integer X1⟩
  have C_is_letters : Cal l.prog w K mg base "is_letters" 1 ["thing", "least", "most"] (spP K 3 F_is_letters) := ⟨_, _, PySem.W.mg_of X G a2, k2, X2.binds fun _ _ _ _ _ _ us hl => match us, hl with | [_, _, _], _ => rfl, ok_is_letters Z  X2⟩
  have C_is_text : Cal l.prog w K mg base "is_text" 2 ["thing"] (spP K 1 F_is_text) := ⟨_, _, PySem.W.mg_of X G a3, k3, X3.binds fun _ _ _ _ _ _ us hl => match us, hl with | [_], _ => rfl, ok_is_text Z C_is_letters X3⟩
  have C_check_text : Cal l.prog w K mg base "check_text" 3 ["thing"] (spP K 1 F_check_text) := ⟨_, _, PySem.W.mg_of X G a4, k4, X4.binds fun _ _ _ _ _ _ us hl => match us, hl with | [_], _ => rfl, ok_check_text Z C_is_text X4⟩
  have C_check_two : Cal l.prog w K mg base "check_two" 4 ["one", "other"] (spP K 2 F_check_two) := ⟨_, _, PySem.W.mg_of X G a5, k5, X5.binds fun _ _ _ _ _ _ us hl => match us, hl with | [_, _], _ => rfl, ok_check_two Z C_check_text X5⟩
  have C_is_word : Cal l.prog w K mg base "is_word" 2 ["thing"] (spP K 1 F_is_word) := ⟨_, _, PySem.W.mg_of X G a6, k6, X6.binds fun _ _ _ _ _ _ us hl => match us, hl with | [_], _ => rfl, ok_is_word Z C_is_letters X6⟩
  have C_check_word : Cal l.prog w K mg base "check_word" 3 ["thing"] (spP K 1 F_check_word) := ⟨_, _, PySem.W.mg_of X G a7, k7, X7.binds fun _ _ _ _ _ _ us hl => match us, hl with | [_], _ => rfl, ok_check_word Z C_is_word X7⟩
  have C_turned : Cal l.prog w K mg base "turned" 1 ["word", "many"] (spP K 2 F_turned) := ⟨_, _, PySem.W.mg_of X G a8, k8, X8.binds fun _ _ _ _ _ _ us hl => match us, hl with | [_, _], _ => rfl, ok_turned Z  X8⟩
  have C_raw_order : Cal l.prog w K mg base "raw_order" 2 ["word"] (spP K 1 F_raw_order) := ⟨_, _, PySem.W.mg_of X G a9, k9, X9.binds fun _ _ _ _ _ _ us hl => match us, hl with | [_], _ => rfl, ok_raw_order Z C_turned X9⟩
  have C_turns_in_order : Cal l.prog w K mg base "turns_in_order" 4 ["word"] (spP K 1 F_turns_in_order) := ⟨_, _, PySem.W.mg_of X G a10, k10, X10.binds fun _ _ _ _ _ _ us hl => match us, hl with | [_], _ => rfl, ok_turns_in_order Z C_check_word C_raw_order X10⟩
  have C_raw_last : Cal l.prog w K mg base "raw_last" 3 ["word"] (spP K 1 F_raw_last) := ⟨_, _, PySem.W.mg_of X G a11, k11, X11.binds fun _ _ _ _ _ _ us hl => match us, hl with | [_], _ => rfl, ok_raw_last Z C_raw_order C_turned X11⟩
  have C_last_letters : Cal l.prog w K mg base "last_letters" 4 ["word"] (spP K 1 F_last_letters) := ⟨_, _, PySem.W.mg_of X G a12, k12, X12.binds fun _ _ _ _ _ _ us hl => match us, hl with | [_], _ => rfl, ok_last_letters Z C_check_word C_raw_last X12⟩
  have C_place_of : Cal l.prog w K mg base "place_of" 4 ["word"] (spP K 1 F_place_of) := ⟨_, _, PySem.W.mg_of X G a13, k13, X13.binds fun _ _ _ _ _ _ us hl => match us, hl with | [_], _ => rfl, ok_place_of Z C_check_word C_raw_order X13⟩
  have C_raw_steps : Cal l.prog w K mg base "raw_steps" 1 ["last"] (spP K 1 F_raw_steps) := ⟨_, _, PySem.W.mg_of X G a14, k14, X14.binds fun _ _ _ _ _ _ us hl => match us, hl with | [_], _ => rfl, ok_raw_steps Z  X14⟩
  have C_raw_from_last : Cal l.prog w K mg base "raw_from_last" 2 ["last", "place"] (spP K 2 F_raw_from_last) := ⟨_, _, PySem.W.mg_of X G a15, k15, X15.binds fun _ _ _ _ _ _ us hl => match us, hl with | [_, _], _ => rfl, ok_raw_from_last Z C_raw_steps X15⟩
  have C_all_words_like : Cal l.prog w K mg base "all_words_like" 4 ["last"] (spP K 1 F_all_words_like) := ⟨_, _, PySem.W.mg_of X G a16, k16, X16.binds fun _ _ _ _ _ _ us hl => match us, hl with | [_], _ => rfl, ok_all_words_like Z C_raw_from_last C_raw_last X16⟩
  have C_from_last : Cal l.prog w K mg base "from_last" 5 ["last", "place"] (spP K 2 F_from_last) := ⟨_, _, PySem.W.mg_of X G a17, k17, X17.binds fun _ _ _ _ _ _ us hl => match us, hl with | [_, _], _ => rfl, ok_from_last Z C_check_word C_is_within C_raw_from_last C_all_words_like C_raw_order X17⟩
  have C_is_last : Cal l.prog w K mg base "is_last" 5 ["thing"] (spP K 1 F_is_last) := ⟨_, _, PySem.W.mg_of X G a18, k18, X18.binds fun _ _ _ _ _ _ us hl => match us, hl with | [_], _ => rfl, ok_is_last Z C_is_word C_all_words_like X18⟩
  have C_first_letters : Cal l.prog w K mg base "first_letters" 4 ["word"] (spP K 1 F_first_letters) := ⟨_, _, PySem.W.mg_of X G a19, k19, X19.binds fun _ _ _ _ _ _ us hl => match us, hl with | [_], _ => rfl, ok_first_letters Z C_check_word X19⟩
  have C_runs_in : Cal l.prog w K mg base "runs_in" 4 ["word"] (spP K 1 F_runs_in) := ⟨_, _, PySem.W.mg_of X G a20, k20, X20.binds fun _ _ _ _ _ _ us hl => match us, hl with | [_], _ => rfl, ok_runs_in Z C_check_word C_raw_last X20⟩
  have C_words_like : Cal l.prog w K mg base "words_like" 5 ["last"] (spP K 1 F_words_like) := ⟨_, _, PySem.W.mg_of X G a21, k21, X21.binds fun _ _ _ _ _ _ us hl => match us, hl with | [_], _ => rfl, ok_words_like Z C_check_word C_all_words_like X21⟩
  have C_edit_table : Cal l.prog w K mg base "edit_table" 1 ["one", "other"] (spP K 2 F_edit_table) := ⟨_, _, PySem.W.mg_of X G a22, k22, X22.binds fun _ _ _ _ _ _ us hl => match us, hl with | [_, _], _ => rfl, ok_edit_table Z  X22⟩
  have C_raw_fewest : Cal l.prog w K mg base "raw_fewest" 2 ["one", "other"] (spP K 2 F_raw_fewest) := ⟨_, _, PySem.W.mg_of X G a23, k23, X23.binds fun _ _ _ _ _ _ us hl => match us, hl with | [_, _], _ => rfl, ok_raw_fewest Z C_edit_table X23⟩
  have C_all_turns : Cal l.prog w K mg base "all_turns" 1 ["one"] (spP K 1 F_all_turns) := ⟨_, _, PySem.W.mg_of X G a24, k24, X24.binds fun _ _ _ _ _ _ us hl => match us, hl with | [_], _ => rfl, ok_all_turns Z  X24⟩
  have C_turned_fewest : Cal l.prog w K mg base "turned_fewest" 5 ["one", "other"] (spP K 2 F_turned_fewest) := ⟨_, _, PySem.W.mg_of X G a25, k25, X25.binds fun _ _ _ _ _ _ us hl => match us, hl with | [_, _], _ => rfl, ok_turned_fewest Z C_check_two C_all_turns C_raw_fewest X25⟩
  have C_least_turn : Cal l.prog w K mg base "least_turn" 4 ["one"] (spP K 1 F_least_turn) := ⟨_, _, PySem.W.mg_of X G a26, k26, X26.binds fun _ _ _ _ _ _ us hl => match us, hl with | [_], _ => rfl, ok_least_turn Z C_check_text C_all_turns X26⟩
  have C_same_round : Cal l.prog w K mg base "same_round" 5 ["one", "other"] (spP K 2 F_same_round) := ⟨_, _, PySem.W.mg_of X G a27, k27, X27.binds fun _ _ _ _ _ _ us hl => match us, hl with | [_, _], _ => rfl, ok_same_round Z C_check_two C_all_turns X27⟩
  have C__law_hand : Cal l.prog w K mg base "_law_hand" 1 ["script"] (spF K 1 F__law_hand) := ⟨_, _, PySem.W.mg_of X G a28, k28, X28.binds fun _ _ _ _ _ _ us hl => match us, hl with | [_], _ => rfl, ok__law_hand Z  X28⟩
  have C__law_draw : Cal l.prog w K mg base "_law_draw" 1 ["hand", "many"] (spM K 1 F__law_draw) := ⟨_, _, PySem.W.mg_of X G a29, k29, X29.binds fun _ _ _ _ _ _ us hl => match us, hl with | [_, _], _ => rfl, ok__law_draw Z  X29⟩
  have C__law_some : Cal l.prog w K mg base "_law_some" 2 ["hand", "things"] (spM K 1 F__law_some) := ⟨_, _, PySem.W.mg_of X G a30, k30, X30.binds fun _ _ _ _ _ _ us hl => match us, hl with | [_, _], _ => rfl, ok__law_some Z C__law_draw X30⟩
  have C__law_is : Cal l.prog w K mg base "_law_is" 1 ["told", "due"] (spP K 2 F__law_is) := ⟨_, _, PySem.W.mg_of X G a31, k31, X31.binds fun _ _ _ _ _ _ us hl => match us, hl with | [_, _], _ => rfl, ok__law_is Z  X31⟩
  have C__law_text : Cal l.prog w K mg base "_law_text" 3 ["hand", "least", "most", "letters"] (spM K 3 F__law_text) := ⟨_, _, PySem.W.mg_of X G a32, k32, X32.binds fun _ _ _ _ _ _ us hl => match us, hl with | [_, _, _, _], _ => rfl, ok__law_text Z C__law_draw C__law_some X32⟩
  have C__law_turns : Cal l.prog w K mg base "_law_turns" 1 ["word"] (spP K 1 F__law_turns) := ⟨_, _, PySem.W.mg_of X G a33, k33, X33.binds fun _ _ _ _ _ _ us hl => match us, hl with | [_], _ => rfl, ok__law_turns Z  X33⟩
  have C__law_last : Cal l.prog w K mg base "_law_last" 2 ["word"] (spP K 1 F__law_last) := ⟨_, _, PySem.W.mg_of X G a34, k34, X34.binds fun _ _ _ _ _ _ us hl => match us, hl with | [_], _ => rfl, ok__law_last Z C__law_turns X34⟩
  have C__law_is_right : Cal l.prog w K mg base "_law_is_right" 6 ["hand", "word"] (spM K 1 F__law_is_right) := ⟨_, _, PySem.W.mg_of X G a35, k35, X35.binds fun _ _ _ _ _ _ us hl => match us, hl with | [_, _], _ => rfl, ok__law_is_right Z C__law_turns C__law_last C__law_is C_last_letters C_words_like C_least_turn C_is_last C__law_some C_same_round C_turned_fewest C_first_letters C_runs_in C_place_of C_from_last C_turns_in_order X35⟩
  have C__law_is_apart : Cal l.prog w K mg base "_law_is_apart" 6 ["hand", "word"] (spM K 1 F__law_is_apart) := ⟨_, _, PySem.W.mg_of X G a36, k36, X36.binds fun _ _ _ _ _ _ us hl => match us, hl with | [_, _], _ => rfl, ok__law_is_apart Z C__law_draw C__law_turns C_last_letters C_same_round C_words_like C_turned_fewest C_least_turn C__law_is X36⟩
  exact ok_law Z C__law_hand C_words_like C_is_last C__law_is C__law_some C__law_text C__law_is_right C__law_is_apart X37
end T4

-- k04end
open PySem PySem.W PyProof.Rows
set_option maxHeartbeats 0 in
theorem PySem.Challenge.cw_twotexts_k04_whole_words_of_like_last_le_holds : PySem.Challenge.rw_twotexts_k04_whole_words_of_like_last_le.Holds := by
  w_on; o_law; k_head; (case hw => w_witness2)
  k_fill
  refine PL.walk_G (l := PySem.Challenge.rw_twotexts_k04_whole_words_of_like_last_le) (k := 7) (x := "script") (FL := T4.F_law) rfl rfl ⟨rfl, by decide, by decide⟩ (fun w h Y => PySem.W.kIn_of Y) (fun w => by rfl) ?F T4.law_true
  case F =>
    intro w mg fa h KX G hmg
    refine' T4.all_mk KX G hmg ?a0 ?l0 ?c0 ?k0 ?a1 ?l1 ?c1 ?k1 ?a2 ?l2 ?c2 ?k2 ?a3 ?l3 ?c3 ?k3 ?a4 ?l4 ?c4 ?k4 ?a5 ?l5 ?c5 ?k5 ?a6 ?l6 ?c6 ?k6 ?a7 ?l7 ?c7 ?k7 ?a8 ?l8 ?c8 ?k8 ?a9 ?l9 ?c9 ?k9 ?a10 ?l10 ?c10 ?k10 ?a11 ?l11 ?c11 ?k11 ?a12 ?l12 ?c12 ?k12 ?a13 ?l13 ?c13 ?k13 ?a14 ?l14 ?c14 ?k14 ?a15 ?l15 ?c15 ?k15 ?a16 ?l16 ?c16 ?k16 ?a17 ?l17 ?c17 ?k17 ?a18 ?l18 ?c18 ?k18 ?a19 ?l19 ?c19 ?k19 ?a20 ?l20 ?c20 ?k20 ?a21 ?l21 ?c21 ?k21 ?a22 ?l22 ?c22 ?k22 ?a23 ?l23 ?c23 ?k23 ?a24 ?l24 ?c24 ?k24 ?a25 ?l25 ?c25 ?k25 ?a26 ?l26 ?c26 ?k26 ?a27 ?l27 ?c27 ?k27 ?a28 ?l28 ?c28 ?k28 ?a29 ?l29 ?c29 ?k29 ?a30 ?l30 ?c30 ?k30 ?a31 ?l31 ?c31 ?k31 ?a32 ?l32 ?c32 ?k32 ?a33 ?l33 ?c33 ?k33 ?a34 ?l34 ?c34 ?k34 ?a35 ?l35 ?c35 ?k35 ?a36 ?l36 ?c36 ?k36 ?a37 ?l37 ?c37 ?k37 ?z_abs ?z_all ?z_bool ?z_enumerate ?z_int ?z_isinstance ?z_len ?z_list ?z_max ?z_min ?z_range ?z_repr ?z_sorted ?z_str ?z_tuple ?z_zip ?z_LETTERS ?z_MOST_TEXT
    (case a0 => k_is); (case l0 => k_is); (case c0 => k_is); (case k0 => k_is); (case a1 => k_is); (case l1 => k_is); (case c1 => k_is); (case k1 => k_is); (case a2 => k_is); (case l2 => k_is); (case c2 => k_is); (case k2 => k_is); (case a3 => k_is); (case l3 => k_is); (case c3 => k_is); (case k3 => k_is); (case a4 => k_is); (case l4 => k_is); (case c4 => k_is); (case k4 => k_is); (case a5 => k_is); (case l5 => k_is); (case c5 => k_is); (case k5 => k_is); (case a6 => k_is); (case l6 => k_is); (case c6 => k_is); (case k6 => k_is); (case a7 => k_is); (case l7 => k_is); (case c7 => k_is); (case k7 => k_is); (case a8 => k_is); (case l8 => k_is); (case c8 => k_is); (case k8 => k_is); (case a9 => k_is); (case l9 => k_is); (case c9 => k_is); (case k9 => k_is); (case a10 => k_is); (case l10 => k_is); (case c10 => k_is); (case k10 => k_is); (case a11 => k_is); (case l11 => k_is); (case c11 => k_is); (case k11 => k_is); (case a12 => k_is); (case l12 => k_is); (case c12 => k_is); (case k12 => k_is); (case a13 => k_is); (case l13 => k_is); (case c13 => k_is); (case k13 => k_is); (case a14 => k_is); (case l14 => k_is); (case c14 => k_is); (case k14 => k_is); (case a15 => k_is); (case l15 => k_is); (case c15 => k_is); (case k15 => k_is); (case a16 => k_is); (case l16 => k_is); (case c16 => k_is); (case k16 => k_is); (case a17 => k_is); (case l17 => k_is); (case c17 => k_is); (case k17 => k_is); (case a18 => k_is); (case l18 => k_is); (case c18 => k_is); (case k18 => k_is); (case a19 => k_is); (case l19 => k_is); (case c19 => k_is); (case k19 => k_is); (case a20 => k_is); (case l20 => k_is); (case c20 => k_is); (case k20 => k_is); (case a21 => k_is); (case l21 => k_is); (case c21 => k_is); (case k21 => k_is); (case a22 => k_is); (case l22 => k_is); (case c22 => k_is); (case k22 => k_is); (case a23 => k_is); (case l23 => k_is); (case c23 => k_is); (case k23 => k_is); (case a24 => k_is); (case l24 => k_is); (case c24 => k_is); (case k24 => k_is); (case a25 => k_is); (case l25 => k_is); (case c25 => k_is); (case k25 => k_is); (case a26 => k_is); (case l26 => k_is); (case c26 => k_is); (case k26 => k_is); (case a27 => k_is); (case l27 => k_is); (case c27 => k_is); (case k27 => k_is); (case a28 => k_is); (case l28 => k_is); (case c28 => k_is); (case k28 => k_is); (case a29 => k_is); (case l29 => k_is); (case c29 => k_is); (case k29 => k_is); (case a30 => k_is); (case l30 => k_is); (case c30 => k_is); (case k30 => k_is); (case a31 => k_is); (case l31 => k_is); (case c31 => k_is); (case k31 => k_is); (case a32 => k_is); (case l32 => k_is); (case c32 => k_is); (case k32 => k_is); (case a33 => k_is); (case l33 => k_is); (case c33 => k_is); (case k33 => k_is); (case a34 => k_is); (case l34 => k_is); (case c34 => k_is); (case k34 => k_is); (case a35 => k_is); (case l35 => k_is); (case c35 => k_is); (case k35 => k_is); (case a36 => k_is); (case l36 => k_is); (case c36 => k_is); (case k36 => k_is); (case a37 => k_is); (case l37 => k_is); (case c37 => k_is); (case k37 => k_is); (case z_abs => k_is); (case z_all => k_is); (case z_bool => k_is); (case z_enumerate => k_is); (case z_int => k_is); (case z_isinstance => k_is); (case z_len => k_is); (case z_list => k_is); (case z_max => k_is); (case z_min => k_is); (case z_range => k_is); (case z_repr => k_is); (case z_sorted => k_is); (case z_str => k_is); (case z_tuple => k_is); (case z_zip => k_is); (case z_LETTERS => k_is); (case z_MOST_TEXT => k_is)

