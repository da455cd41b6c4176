import PyProof.Rows.All
import Wide.All
import OpenK.AllK
import Wide.FinOn
import Lean
import PySem.Challenge.RW_xm0399_01
set_option Elab.async false
set_option maxRecDepth 100000
set_option maxHeartbeats 8000000
set_option linter.all false
set_option genSizeOfSpec false
set_option genSizeOf false
set_option genInjectivity false
set_option compiler.extract_closed false
namespace Cat
open PySem
inductive T where
  | none | bool (b : Bool) | int (i : Int) | fn (a : Nat)
  | list (xs : List T) | tup (xs : List T) | dict (es : List (List Int × Int))
inductive AV where
  | none | bool (b : Bool) | int (i : Int) | fn (a : Nat) | ref (i : Nat)
inductive AO where
  | list (xs : List AV) | tup (xs : List AV) | dict (es : List (List Int × Int)) | cell (v : Option AV)
  | litr (l i : Nat) | ritr (x left st : Int) | eitr (it i : Nat)
inductive Kd where
  | base | froz | own
inductive Op where
  | add | sub | mul | div | mod | pow | band | shl | shr
inductive Cm where
  | eq | ne | lt | le | gt | ge
inductive X where
  | lit (i : Int) | bl (b : Bool) | loc (x : Nat) | cel (x : Nat) | fn (a : Nat)
  | bin (o : Op) (a b : X) | neg (a : X) | cmp (c : Cm) (a b : X)
  | ite (c : Cm) (l r a b : X)
  | idx (a i : X) | slTo (a hi : X) | slFrom (a lo : X) | rev (a : X)
  | len (a : X) | sum (a : X) | min (a b : X)
  | call (f : X) (as : List X) | get (d k1 k2 df : X) | dix (d k1 k2 : X)
  | list (as : List X) | tup (as : List X)
  | comp (e : X) (t : Nat) (n : X)
inductive B where
  | cmp (c : Cm) (a b : X) | and (a b : B) | val (x : X)
inductive S where
  | asg (x : Nat) (e : X) | asgL (x : Nat) (e : X) (t : Nat) (n : X) | asgC (x : Nat) (e : X) | asgT (sw : Bool) (xs : List Nat) (e : X)
  | asgI (a i e : X) | asgK (d k1 k2 e : X) | aug (x : Nat) (o : Op) (e : X)
  | iff (t : B) (a b : List S) | whl (t : B) (b : List S)
  | forR (x : Nat) (r : List X) (b : List S) | forL (x : Nat) (e : X) (b : List S)
  | forT (x y : Nat) (e : X) (b : List S) | forE (x y : Nat) (e : X) (b : List S)
  | app (a e : X) | ret (e : X) | ex (e : X) | raise
inductive Fl where
  | next | ret (v : AV)
abbrev Loc := List (Nat × AV)
abbrev Hp := List (Nat × Kd × AO)
noncomputable def get {α : Type} (l : List (Nat × α)) (i : Nat) : Option α := List.rec (motive := fun _ => Option α) none (fun p _ ih => Bool.rec ih (some p.2) (Nat.beq p.1 i)) l
noncomputable def put {α : Type} (l : List (Nat × α)) (i : Nat) (v : α) : List (Nat × α) := List.rec (motive := fun _ => List (Nat × α)) [(i, v)] (fun p l ih => Bool.rec (p :: ih) ((i, v) :: l) (Nat.beq p.1 i)) l
noncomputable def del {α : Type} : List (Nat × α) → Nat → List (Nat × α)
  | [], _ => []
  | p :: l, i => match Nat.beq p.1 i with
    | true => del l i
    | false => p :: del l i
structure St where
  loc : Loc
  n : Nat
  H : Hp
noncomputable def alloc (st : St) (k : Kd) (o : AO) : AV × St := (.ref st.n, ⟨st.loc, st.n + 1, (st.n, k, o) :: st.H⟩)
section
variable {β γ δ : Type}
noncomputable def oO (o : Option γ) (f : γ → Option β) : Option β := Option.rec none f o
noncomputable def oP (o : Option (γ × δ)) (f : γ → δ → Option β) : Option β := Option.rec none (@Prod.rec γ δ (fun _ => Option β) f) o
noncomputable def vI (v : AV) (f : Int → Option β) : Option β := AV.rec none (fun _ => none) f (fun _ => none) (fun _ => none) v
noncomputable def vR (v : AV) (f : Nat → Option β) : Option β := AV.rec none (fun _ => none) (fun _ => none) (fun _ => none) f v
noncomputable def vF (v : AV) (f : Nat → Option β) : Option β := AV.rec none (fun _ => none) (fun _ => none) f (fun _ => none) v
noncomputable def vB (v : AV) (f : Bool → Option β) : Option β := AV.rec none f (fun _ => none) (fun _ => none) (fun _ => none) v
noncomputable def vN (v : AV) (f : Option β) : Option β := AV.rec f (fun _ => none) (fun _ => none) (fun _ => none) (fun _ => none) v
noncomputable def oI (o : Option (AV × γ)) (f : Int → γ → Option β) : Option β := oP o fun v w => vI v fun i => f i w
noncomputable def oR (o : Option (AV × γ)) (f : Nat → γ → Option β) : Option β := oP o fun v w => vR v fun i => f i w
noncomputable def oF (o : Option (AV × γ)) (f : Nat → γ → Option β) : Option β := oP o fun v w => vF v fun i => f i w
noncomputable def oN (o : Option (AV × γ)) (f : γ → Option β) : Option β := oP o fun v w => vN v (f w)
noncomputable def oOI (o : Option AV) (f : Int → Option β) : Option β := oO o fun v => vI v f
noncomputable def aD (a : AO) (f : List (List Int × Int) → Option β) : Option β := AO.rec (fun _ => none) (fun _ => none) f (fun _ => none) (fun _ _ => none) (fun _ _ _ => none) (fun _ _ => none) a
noncomputable def aT (a : AO) (f : List AV → Option β) : Option β := AO.rec (fun _ => none) f (fun _ => none) (fun _ => none) (fun _ _ => none) (fun _ _ _ => none) (fun _ _ => none) a
noncomputable def aL (a : AO) (f : Option β) : Option β := AO.rec (fun _ => f) (fun _ => none) (fun _ => none) (fun _ => none) (fun _ _ => none) (fun _ _ _ => none) (fun _ _ => none) a
noncomputable def aC (a : AO) (f : Option AV → Option β) : Option β := AO.rec (fun _ => none) (fun _ => none) (fun _ => none) f (fun _ _ => none) (fun _ _ _ => none) (fun _ _ => none) a
noncomputable def kO (k : Kd) (f : Option β) : Option β := Kd.rec none none f k
noncomputable def oCell (o : Option (Kd × AO)) (f : AV → Option β) : Option β := oP o fun _ a => aC a fun v => oO v f
noncomputable def oD (o : Option (Kd × AO)) (f : List (List Int × Int) → Option β) : Option β := oP o fun _ a => aD a f
noncomputable def oTu (o : Option (Kd × AO)) (f : List AV → Option β) : Option β := oP o fun _ a => aT a f
noncomputable def oL (o : Option (Kd × AO)) (f : Option β) : Option β := oP o fun _ a => aL a f
noncomputable def oOC (o : Option (Kd × AO)) (f : Option β) : Option β := oP o fun k a => kO k (aC a fun _ => f)
noncomputable def oOD (o : Option (Kd × AO)) (f : List (List Int × Int) → Option β) : Option β := oP o fun k a => kO k (aD a f)
noncomputable def oB (b : Bool) (f : Option β) : Option β := Bool.rec none f b
noncomputable def oX (b : Bool) (f : Option β) : Option β := Bool.rec f none b
noncomputable def oLs (o : Option (Nat × Kd × List AV)) (f : List AV → Option β) : Option β := oP o fun _ w => f w.2
noncomputable def oLo (o : Option (Nat × Kd × List AV)) (f : Nat → List AV → Option β) : Option β := oP o fun i w => kO w.1 (f i w.2)
noncomputable def oLN (o : Option (Nat × Kd × List AV)) (b : Bool) (f : List AV → Option β) : Option β := oLs o fun xs => oX b (f xs)
noncomputable def oLoN (o : Option (Nat × Kd × List AV)) (b : Bool) (f : Nat → List AV → Option β) : Option β := oLo o fun i xs => oX b (f i xs)
noncomputable def oNB (a b : Bool) (f : Option β) : Option β := oX a (oB b f)
noncomputable def aR (vs : List AV) (f : Int → Int → Int → Option β) : Option β := match vs with
  | [a] => vI a fun hi => f 0 hi 1
  | [a, b] => vI a fun lo => vI b fun hi => f lo hi 1
  | [a, b, c] => vI a fun lo => vI b fun hi => vI c fun s => f lo hi s
  | _ => none
noncomputable def oDN (o : Option Int) (b : Bool) (f : Option β) : Option β := match o with | some _ => none | none => oB b f
noncomputable def aLx (a : AO) (f : List AV → Option β) : Option β := AO.rec f (fun _ => none) (fun _ => none) (fun _ => none) (fun _ _ => none) (fun _ _ _ => none) (fun _ _ => none) a
noncomputable def aLT (a : AO) (f : List AV → Option β) : Option β := AO.rec f f (fun _ => none) (fun _ => none) (fun _ _ => none) (fun _ _ _ => none) (fun _ _ => none) a
noncomputable def vRI (v : AV) (g : Nat → Option β) (h : Int → Option β) : Option β := AV.rec none (fun _ => none) h (fun _ => none) g v
noncomputable def v3 (a b : AV) (f : Int → Int → Option β) (g : Nat → Nat → Option β) (h : Nat → Int → Option β) : Option β :=
  AV.rec none (fun _ => none) (fun i => vI b (f i)) (fun _ => none) (fun i => vRI b (g i) (h i)) a
noncomputable def isAdd (o : Op) (f : Option β) : Option β := Op.rec f none none none none none none none none o
noncomputable def isMul (o : Op) (f : Option β) : Option β := Op.rec none none f none none none none none none o
end
noncomputable def sm (a : Int) : Bool := Nat.blt a.natAbs 18446744073709551616
noncomputable def neg? (a : Int) : Bool := match a with | .ofNat _ => false | .negSucc _ => true
noncomputable def zero? (a : Int) : Bool := match a with | .ofNat n => Nat.beq n 0 | .negSucc _ => false
noncomputable def binI (o : Op) (a b : Int) : Option Int := Op.rec (motive := fun _ => Int → Int → Option Int)
  (fun a b => some (Int.add a b)) (fun a b => some (Int.sub a b)) (fun a b => oB (sm a) (some (Int.mul a b)))
  (fun a b => oX (zero? b) (oB (Nat.blt b.natAbs 1073741824) (some (a.fdiv b)))) (fun a b => oX (zero? b) (some (a.fmod b)))
  (fun a b => oX (neg? b) (oB (Nat.ble b.toNat 64) (oB (sm a) (some (a ^ b.toNat))))) (fun a b => some (Builtin.bitAnd a b))
  (fun a b => oX (neg? b) (oB (Nat.ble b.toNat 64) (oB (sm a) (some (a * 2 ^ b.toNat))))) (fun a b => oX (neg? b) (some (a.fdiv (2 ^ b.toNat)))) o a b
noncomputable def cmI (c : Cm) (a b : Int) : Bool := Cm.rec (motive := fun _ => Int → Int → Bool)
  (fun a b => a == b) (fun a b => a != b) (fun a b => decide (a < b)) (fun a b => decide (a ≤ b)) (fun a b => decide (a > b)) (fun a b => decide (a ≥ b)) c a b
mutual
noncomputable def teq : T → T → Bool
  | .none, y => match y with | .none => true | _ => false
  | .bool a, y => match y with | .bool b => a == b | _ => false
  | .int a, y => match y with | .int b => a == b | _ => false
  | .fn a, y => match y with | .fn b => Nat.beq a b | _ => false
  | .list a, y => match y with | .list b => teqs a b | _ => false
  | .tup a, y => match y with | .tup b => teqs a b | _ => false
  | .dict a, y => match y with | .dict b => a == b | _ => false
noncomputable def teqs : List T → List T → Bool
  | [], [] => true
  | a :: r, b :: s => match teq a b with | true => teqs r s | false => false
  | _, _ => false
end
noncomputable def okTs (f : T → Bool) : List T → Bool
  | [] => true
  | t :: r => match f t with | true => okTs f r | false => false
noncomputable def okT : Nat → T → Bool
  | 0, t => match t with | .int _ => true | _ => false
  | n + 1, t => match t with
    | .int _ => true
    | .list xs => okTs (okT n) xs
    | .tup xs => okTs (okT n) xs
    | _ => false
noncomputable def frzs (f : AV → Option T) : List AV → Option (List T)
  | [] => some []
  | v :: r => match f v with
    | some t => match frzs f r with | some ts => some (t :: ts) | none => none
    | none => none
noncomputable def frzO (new : Bool) (f : AV → Option T) (o : AO) : Option T := match o with
  | .list xs => match frzs f xs with | some ts => some (.list ts) | none => none
  | .tup xs => match frzs f xs with | some ts => some (.tup ts) | none => none
  | .dict es => match new with | true => none | false => some (.dict es)
  | _ => none
noncomputable def frz (new : Bool) (H : Hp) : Nat → AV → Option T
  | 0, _ => none
  | n + 1, v => match v with
    | .none => some .none
    | .bool b => some (.bool b)
    | .int i => some (.int i)
    | .fn a => some (.fn a)
    | .ref i => match get H i with
      | some (k, o) => match new, k with
        | true, .base => none
        | _, _ => frzO new (frz new H n) o
      | none => none
mutual
noncomputable def thaw (k : Kd) : T → Nat → Hp → AV × Nat × Hp
  | .none, n, H => (.none, n, H)
  | .bool b, n, H => (.bool b, n, H)
  | .int i, n, H => (.int i, n, H)
  | .fn a, n, H => (.fn a, n, H)
  | .list xs, n, H => match thaws k xs n H with | (vs, n, H) => (.ref n, n + 1, (n, k, .list vs) :: H)
  | .tup xs, n, H => match thaws k xs n H with | (vs, n, H) => (.ref n, n + 1, (n, k, .tup vs) :: H)
  | .dict es, n, H => (.ref n, n + 1, (n, k, .dict es) :: H)
noncomputable def thaws (k : Kd) : List T → Nat → Hp → List AV × Nat × Hp
  | [], n, H => ([], n, H)
  | t :: r, n, H => match thaw k t n H with | (v, n, H) => match thaws k r n H with | (vs, n, H) => (v :: vs, n, H)
end
structure Fn where
  ps : List Nat
  cs : List Nat      -- cell names
  body : List S
abbrev Tab := List (Nat × List T × T)
noncomputable def look (tab : Tab) (g : Nat) (bs : List T) : Option T := List.rec (motive := fun _ => Option T) none (fun e _ ih => Bool.rec ih (Bool.rec ih (some e.2.2) (teqs e.2.1 bs)) (Nat.beq e.1 g)) tab
abbrev Cl := List (Nat × Nat)
structure Ih where
  e : Cl → X → St → Option (AV × St)
  b : Cl → B → St → Option (Bool × St)
  ss : Cl → List S → St → Option (Fl × St)
  wl : Cl → B → List S → St → Option (Fl × St)
  fl : Cl → (List Nat) → Nat → List S → St → Option (Fl × St)
  cp : Cl → X → Nat → Int → Nat → St → List AV → Option (List AV × St)
  cl : Nat → List T → Option T
noncomputable def setLoc (st : St) (x : Nat) (v : AV) : St := ⟨put st.loc x v, st.n, st.H⟩
noncomputable def setLocs (st : St) : List Nat → List AV → St
  | x :: xs, v :: vs => setLocs (setLoc st x v) xs vs
  | _, _ => st
noncomputable def len {α : Type} (l : List α) : Nat := List.rec (motive := fun _ => Nat) 0 (fun _ _ n => Nat.succ n) l
noncomputable def nth {α : Type} (l : List α) (i : Nat) : Option α := List.rec (motive := fun _ => Nat → Option α) (fun _ => none) (fun x _ f i => Nat.rec (some x) (fun j _ => f j) i) l i
noncomputable def setAt {α : Type} : List α → Nat → α → List α
  | [], _, _ => []
  | _ :: l, 0, v => v :: l
  | x :: l, i + 1, v => x :: setAt l i v
noncomputable def repL {α : Type} : Nat → List α → List α
  | 0, _ => []
  | n + 1, l => l ++ repL n l
noncomputable def sumI : List AV → Option Int
  | [] => some 0
  | .int i :: r => match sumI r with | some k => some (i + k) | none => none
  | _ :: _ => none
noncomputable def dget : List (List Int × Int) → List Int → Option Int
  | [], _ => none
  | p :: l, k => match p.1 == k with | true => some p.2 | false => dget l k
noncomputable def lst? (st : St) (v : AV) : Option (Nat × Kd × List AV) := vR v fun i => oP (get st.H i) fun k a => aLx a fun xs => oB (Nat.ble (len xs) 100000) (some (i, k, xs))
noncomputable def binV (o : Op) (a b : AV) (st : St) : Option (AV × St) := v3 a b (fun a b => oO (binI o a b) fun c => some (.int c, st))
  (fun _ _ => isAdd o (oLs (lst? st a) fun xs => oLs (lst? st b) fun ys => some (alloc st .own (.list (xs ++ ys)))))
  (fun _ n => isMul o (oLs (lst? st a) fun xs => oX (neg? n) (oB (Nat.ble (len xs * n.toNat) 100000) (oB (Nat.ble n.toNat 100000) (some (alloc st .own (.list (repL n.toNat xs))))))))
noncomputable def cmT (c : Cm) (s t : T) : Option Bool := Cm.rec (some (teq s t)) (some (!teq s t)) none none none none c
noncomputable def cmV (c : Cm) (a b : AV) (st : St) : Option Bool := v3 a b (fun a b => some (cmI c a b))
  (fun _ _ => oO (frz false st.H 3 a) fun s => oO (frz false st.H 3 b) fun t => oB (okT 3 s) (oB (okT 3 t) (cmT c s t))) (fun _ _ => none)
noncomputable def idxV (a i : AV) (st : St) : Option AV := vR a fun a => vI i fun i => oP (get st.H a) fun _ o => aLT o fun xs => oNB (neg? i) (Nat.ble i.toNat 100000) (nth xs i.toNat)
section
variable (ih : Ih) (cl : Cl)
noncomputable def evs (xs : List X) : St → Option (List AV × St) := List.rec (motive := fun _ => St → Option (List AV × St)) (fun st => some ([], st)) (fun x _ f st => oP (ih.e cl x st) fun v st => oP (f st) fun vs st => some (v :: vs, st)) xs
end
noncomputable def evE_cel (ih : Ih) (cl : Cl) (x : Nat) (st : St) : Option (AV × St) :=
  oO (get cl x) fun i => oCell (get st.H i) fun v => some (v, st)
noncomputable def evE_bin (ih : Ih) (cl : Cl) (o : Op) (a : X) (b : X) (st : St) : Option (AV × St) :=
  oP (ih.e cl a st) fun u st => oP (ih.e cl b st) fun v st => binV o u v st
noncomputable def evE_neg (ih : Ih) (cl : Cl) (a : X) (st : St) : Option (AV × St) :=
  oI (ih.e cl a st) fun i st => some (.int (-i), st)
noncomputable def evE_cmp (ih : Ih) (cl : Cl) (c : Cm) (a : X) (b : X) (st : St) : Option (AV × St) :=
  oP (ih.e cl a st) fun u st => oP (ih.e cl b st) fun v st => oO (cmV c u v st) fun r => some (.bool r, st)
noncomputable def evE_ite (ih : Ih) (cl : Cl) (c : Cm) (l : X) (r : X) (a : X) (b : X) (st : St) : Option (AV × St) :=
  oP (ih.b cl (.cmp c l r) st) fun t st => match t with
    | true => ih.e cl a st
    | false => ih.e cl b st
noncomputable def evE_idx (ih : Ih) (cl : Cl) (a : X) (i : X) (st : St) : Option (AV × St) :=
  oP (ih.e cl a st) fun u st => oP (ih.e cl i st) fun v st => oO (idxV u v st) fun r => some (r, st)
noncomputable def evE_slTo (ih : Ih) (cl : Cl) (a : X) (hi : X) (st : St) : Option (AV × St) :=
  oP (ih.e cl a st) fun u st => oI (ih.e cl hi st) fun j st => oLN (lst? st u) (neg? j) fun xs => some (alloc st .own (.list (xs.take j.toNat)))
noncomputable def evE_slFrom (ih : Ih) (cl : Cl) (a : X) (lo : X) (st : St) : Option (AV × St) :=
  oP (ih.e cl a st) fun u st => oI (ih.e cl lo st) fun j st => oLN (lst? st u) (neg? j) fun xs => some (alloc st .own (.list (xs.drop j.toNat)))
noncomputable def evE_rev (ih : Ih) (cl : Cl) (a : X) (st : St) : Option (AV × St) :=
  oP (ih.e cl a st) fun u st => oLs (lst? st u) fun xs => some (alloc st .own (.list xs.reverse))
noncomputable def evE_len (ih : Ih) (cl : Cl) (a : X) (st : St) : Option (AV × St) :=
  oP (ih.e cl a st) fun u st => oLs (lst? st u) fun xs => some (.int (.ofNat (len xs)), st)
noncomputable def evE_sum (ih : Ih) (cl : Cl) (a : X) (st : St) : Option (AV × St) :=
  oP (ih.e cl a st) fun u st => oLs (lst? st u) fun xs => oO (sumI xs) fun k => some (.int k, st)
noncomputable def evE_min (ih : Ih) (cl : Cl) (a : X) (b : X) (st : St) : Option (AV × St) :=
  oI (ih.e cl a st) fun u st => oI (ih.e cl b st) fun v st => some (.int (match decide (v < u) with | true => v | false => u), st)
noncomputable def evE_call (ih : Ih) (cl : Cl) (f : X) (as : List X) (st : St) : Option (AV × St) :=
  oF (ih.e cl f st) fun g st => oP (evs ih cl as st) fun vs st => oO (frzs (frz false st.H 4) vs) fun ts => oO (ih.cl g ts) fun r =>
      match thaw .froz r st.n st.H with | (v, n, H) => some (v, ⟨st.loc, n, H⟩)
noncomputable def evE_get (ih : Ih) (cl : Cl) (d : X) (k1 : X) (k2 : X) (df : X) (st : St) : Option (AV × St) :=
  oR (ih.e cl d st) fun i st => oD (get st.H i) fun _ => oI (ih.e cl k1 st) fun a st => oI (ih.e cl k2 st) fun b st => oI (ih.e cl df st) fun c st =>
      oD (get st.H i) fun es => some (.int (match dget es [a, b] with | some v => v | none => c), st)
noncomputable def evE_dix (ih : Ih) (cl : Cl) (d : X) (k1 : X) (k2 : X) (st : St) : Option (AV × St) :=
  oR (ih.e cl d st) fun i st => oI (ih.e cl k1 st) fun a st => oI (ih.e cl k2 st) fun b st => oD (get st.H i) fun es => oO (dget es [a, b]) fun v => some (.int v, st)
noncomputable def evE_list (ih : Ih) (cl : Cl) (as : List X) (st : St) : Option (AV × St) :=
  oP (evs ih cl as st) fun vs st => oB (Nat.ble (len vs) 100000) (some (alloc st .own (.list vs)))
noncomputable def evE_tup (ih : Ih) (cl : Cl) (as : List X) (st : St) : Option (AV × St) :=
  oP (evs ih cl as st) fun vs st => oB (Nat.ble (len vs) 100000) (some (alloc st .own (.tup vs)))
noncomputable def evE_comp (ih : Ih) (cl : Cl) (e : X) (t : Nat) (n : X) (st : St) : Option (AV × St) :=
  oI (ih.e cl n st) fun k st => oNB (neg? k) (Nat.ble k.toNat 100000) (oP (ih.cp cl e t 0 k.toNat st []) fun vs st' => some (alloc ⟨st.loc, st'.n, st'.H⟩ .own (.list vs)))
noncomputable def evE_lit' (i : Int) (ih : Ih) (cl : Cl) (st : St) : Option (AV × St) := some (.int i, st)
noncomputable def evE_bl' (b : Bool) (ih : Ih) (cl : Cl) (st : St) : Option (AV × St) := some (.bool b, st)
noncomputable def evE_loc' (x : Nat) (ih : Ih) (cl : Cl) (st : St) : Option (AV × St) := oO (get st.loc x) fun v => some (v, st)
noncomputable def evE_cel' (x : Nat) (ih : Ih) (cl : Cl) (st : St) : Option (AV × St) := evE_cel ih cl x st
noncomputable def evE_fn' (a : Nat) (ih : Ih) (cl : Cl) (st : St) : Option (AV × St) := some (.fn a, st)
noncomputable def evE_bin' (o : Op) (a : X) (b : X) (_ : Ih → Cl → St → Option (AV × St)) (_ : Ih → Cl → St → Option (AV × St)) (ih : Ih) (cl : Cl) (st : St) : Option (AV × St) := evE_bin ih cl o a b st
noncomputable def evE_neg' (a : X) (_ : Ih → Cl → St → Option (AV × St)) (ih : Ih) (cl : Cl) (st : St) : Option (AV × St) := evE_neg ih cl a st
noncomputable def evE_cmp' (c : Cm) (a : X) (b : X) (_ : Ih → Cl → St → Option (AV × St)) (_ : Ih → Cl → St → Option (AV × St)) (ih : Ih) (cl : Cl) (st : St) : Option (AV × St) := evE_cmp ih cl c a b st
noncomputable def evE_ite' (c : Cm) (l : X) (r : X) (a : X) (b : X) (_ : Ih → Cl → St → Option (AV × St)) (_ : Ih → Cl → St → Option (AV × St)) (_ : Ih → Cl → St → Option (AV × St)) (_ : Ih → Cl → St → Option (AV × St)) (ih : Ih) (cl : Cl) (st : St) : Option (AV × St) := evE_ite ih cl c l r a b st
noncomputable def evE_idx' (a : X) (i : X) (_ : Ih → Cl → St → Option (AV × St)) (_ : Ih → Cl → St → Option (AV × St)) (ih : Ih) (cl : Cl) (st : St) : Option (AV × St) := evE_idx ih cl a i st
noncomputable def evE_slTo' (a : X) (hi : X) (_ : Ih → Cl → St → Option (AV × St)) (_ : Ih → Cl → St → Option (AV × St)) (ih : Ih) (cl : Cl) (st : St) : Option (AV × St) := evE_slTo ih cl a hi st
noncomputable def evE_slFrom' (a : X) (lo : X) (_ : Ih → Cl → St → Option (AV × St)) (_ : Ih → Cl → St → Option (AV × St)) (ih : Ih) (cl : Cl) (st : St) : Option (AV × St) := evE_slFrom ih cl a lo st
noncomputable def evE_rev' (a : X) (_ : Ih → Cl → St → Option (AV × St)) (ih : Ih) (cl : Cl) (st : St) : Option (AV × St) := evE_rev ih cl a st
noncomputable def evE_len' (a : X) (_ : Ih → Cl → St → Option (AV × St)) (ih : Ih) (cl : Cl) (st : St) : Option (AV × St) := evE_len ih cl a st
noncomputable def evE_sum' (a : X) (_ : Ih → Cl → St → Option (AV × St)) (ih : Ih) (cl : Cl) (st : St) : Option (AV × St) := evE_sum ih cl a st
noncomputable def evE_min' (a : X) (b : X) (_ : Ih → Cl → St → Option (AV × St)) (_ : Ih → Cl → St → Option (AV × St)) (ih : Ih) (cl : Cl) (st : St) : Option (AV × St) := evE_min ih cl a b st
noncomputable def evE_call' (f : X) (as : List X) (_ : Ih → Cl → St → Option (AV × St)) (_ : Unit) (ih : Ih) (cl : Cl) (st : St) : Option (AV × St) := evE_call ih cl f as st
noncomputable def evE_get' (d : X) (k1 : X) (k2 : X) (df : X) (_ : Ih → Cl → St → Option (AV × St)) (_ : Ih → Cl → St → Option (AV × St)) (_ : Ih → Cl → St → Option (AV × St)) (_ : Ih → Cl → St → Option (AV × St)) (ih : Ih) (cl : Cl) (st : St) : Option (AV × St) := evE_get ih cl d k1 k2 df st
noncomputable def evE_dix' (d : X) (k1 : X) (k2 : X) (_ : Ih → Cl → St → Option (AV × St)) (_ : Ih → Cl → St → Option (AV × St)) (_ : Ih → Cl → St → Option (AV × St)) (ih : Ih) (cl : Cl) (st : St) : Option (AV × St) := evE_dix ih cl d k1 k2 st
noncomputable def evE_list' (as : List X) (_ : Unit) (ih : Ih) (cl : Cl) (st : St) : Option (AV × St) := evE_list ih cl as st
noncomputable def evE_tup' (as : List X) (_ : Unit) (ih : Ih) (cl : Cl) (st : St) : Option (AV × St) := evE_tup ih cl as st
noncomputable def evE_comp' (e : X) (t : Nat) (n : X) (_ : Ih → Cl → St → Option (AV × St)) (_ : Ih → Cl → St → Option (AV × St)) (ih : Ih) (cl : Cl) (st : St) : Option (AV × St) := evE_comp ih cl e t n st
noncomputable def evET (x : X) : Ih → Cl → St → Option (AV × St) :=
  X.rec (motive_1 := fun _ => Ih → Cl → St → Option (AV × St)) (motive_2 := fun _ => Unit) evE_lit' evE_bl' evE_loc' evE_cel' evE_fn' evE_bin' evE_neg' evE_cmp' evE_ite' evE_idx' evE_slTo' evE_slFrom' evE_rev' evE_len' evE_sum' evE_min' evE_call' evE_get' evE_dix' evE_list' evE_tup' evE_comp' () (fun _ _ _ _ => ()) x
noncomputable def evE (ih : Ih) (cl : Cl) (x : X) (st : St) : Option (AV × St) := evET x ih cl st
noncomputable def evB_cmp' (c : Cm) (a : X) (b : X) (ih : Ih) (cl : Cl) (st : St) : Option (Bool × St) := oP (ih.e cl a st) fun u st => oP (ih.e cl b st) fun v st => oO (cmV c u v st) fun r => some (r, st)
noncomputable def evB_and' (a : B) (b : B) (_ : Ih → Cl → St → Option (Bool × St)) (_ : Ih → Cl → St → Option (Bool × St)) (ih : Ih) (cl : Cl) (st : St) : Option (Bool × St) := oP (ih.b cl a st) fun t st => match t with
    | true => ih.b cl b st
    | false => some (false, st)
noncomputable def evB_val' (x : X) (ih : Ih) (cl : Cl) (st : St) : Option (Bool × St) := oP (ih.e cl x st) fun v st => vB v fun b => some (b, st)
noncomputable def evBT (x : B) : Ih → Cl → St → Option (Bool × St) :=
  B.rec (motive := fun _ => Ih → Cl → St → Option (Bool × St)) evB_cmp' evB_and' evB_val' x
noncomputable def evB (ih : Ih) (cl : Cl) (x : B) (st : St) : Option (Bool × St) := evBT x ih cl st
noncomputable def nxt (o : Option (Fl × St)) (f : St → Option (Fl × St)) : Option (Fl × St) := Option.rec none (@Prod.rec Fl St (fun _ => Option (Fl × St)) fun fl st => Fl.rec (f st) (fun v => some (.ret v, st)) fl) o
noncomputable def nextOf (st : St) (it : Nat) : Option (Option (List AV) × St) := match get st.H it with
  | some (.own, .litr l i) => match get st.H l with
    | some (_, .list xs) => match nth xs i with
      | some v => some (some [v], ⟨st.loc, st.n, put st.H it (.own, .litr l (i + 1))⟩)
      | none => some (none, ⟨st.loc, st.n, del st.H it⟩)
    | _ => none
  | some (.own, .ritr x left s) => match left with
    | .ofNat (k + 1) => some (some [.int x], ⟨st.loc, st.n, put st.H it (.own, .ritr (x + s) (.ofNat k) s)⟩)
    | _ => some (none, ⟨st.loc, st.n, del st.H it⟩)
  | some (.own, .eitr t j) => match get st.H t with
    | some (.own, .litr l i) => match get st.H l, Nat.beq i j with
      | some (_, .list xs), true => match nth xs i with
        | some v => some (some [.int (.ofNat j), v], ⟨st.loc, st.n, put (put st.H t (.own, .litr l (i + 1))) it (.own, .eitr t (j + 1))⟩)
        | none => some (none, ⟨st.loc, st.n, del st.H t⟩)
      | _, _ => none
    | _ => none
  | _ => none
noncomputable def evF (ih : Ih) (cl : Cl) (xs : List Nat) (it : Nat) (body : List S) (st : St) : Option (Fl × St) := match nextOf st it with
  | some (none, st) => some (.next, st)
  | some (some [a, b], st) => match xs with
    | [x, y] => nxt (ih.ss cl body (setLoc (setLoc st x a) y b)) fun st => ih.fl cl xs it body st
    | _ => none
  | some (some [v], st) => match xs with
    | [x] => nxt (ih.ss cl body (setLoc st x v)) fun st => ih.fl cl xs it body st
    | [x, y] => match v with
      | .ref i => match get st.H i with
        | some (_, .tup [a, b]) => nxt (ih.ss cl body (setLoc (setLoc st x a) y b)) fun st => ih.fl cl xs it body st
        | _ => none
      | _ => none
    | _ => none
  | _ => none
noncomputable def evW (ih : Ih) (cl : Cl) (t : B) (body : List S) (st : St) : Option (Fl × St) := oP (ih.b cl t st) fun tt st => match tt with
  | true => nxt (ih.ss cl body st) fun st => ih.wl cl t body st
  | false => some (.next, st)
noncomputable def evC (ih : Ih) (cl : Cl) (e : X) (t : Nat) (i : Int) (k : Nat) (st : St) (ys : List AV) : Option (List AV × St) := match k with
  | 0 => some (ys, st)
  | k + 1 => oP (ih.e cl e ⟨[(t, .int i)], st.n, st.H⟩) fun v st => ih.cp cl e t (i + 1) k st (ys ++ [v])
noncomputable def sr (a : Int) : Bool := Nat.blt a.natAbs 1000000000
noncomputable def rng (st : St) (a b c : Int) : Option (Nat × St) := match sr a, sr b, sr c, zero? c, Builtin.Range.rangeSize a b c with
  | true, true, true, false, .ofNat k => match Nat.ble k 100000 with
    | true => some (st.n, ⟨st.loc, st.n + 1, (st.n, .own, .ritr a (.ofNat k) c) :: st.H⟩)
    | false => none
  | _, _, _, _, _ => none
noncomputable def evS_asg (ih : Ih) (cl : Cl) (x : Nat) (e : X) (st : St) : Option (Fl × St) :=
  oP (ih.e cl e st) fun v st => some (.next, setLoc st x v)
noncomputable def evS_asgL (ih : Ih) (cl : Cl) (x : Nat) (e : X) (t : Nat) (n : X) (st : St) : Option (Fl × St) :=
  oI (ih.e cl n st) fun k st => oNB (neg? k) (Nat.ble k.toNat 100000) (oP (ih.cp cl e t 0 k.toNat st []) fun vs st' => some (.next, ⟨put st.loc x (.ref st'.n), st'.n + 1, (st'.n, .own, .list vs) :: st'.H⟩))
noncomputable def evS_asgC (ih : Ih) (cl : Cl) (x : Nat) (e : X) (st : St) : Option (Fl × St) :=
  oP (ih.e cl e st) fun v st => oO (get cl x) fun i => oOC (get st.H i) (some (.next, ⟨st.loc, st.n, put st.H i (.own, .cell (some v))⟩))
noncomputable def evS_asgT (ih : Ih) (cl : Cl) (sw : Bool) (xs : List Nat) (e : X) (st : St) : Option (Fl × St) :=
  oR (ih.e cl e st) fun i st => oTu (get st.H i) fun vs => oB (Nat.beq (len xs) (len vs)) (match sw with
      | true => some (.next, setLocs st xs.reverse vs.reverse)
      | false => some (.next, setLocs st xs vs))
noncomputable def evS_asgI (ih : Ih) (cl : Cl) (a : X) (i : X) (e : X) (st : St) : Option (Fl × St) :=
  oP (ih.e cl e st) fun v st => oP (ih.e cl a st) fun u st => oI (ih.e cl i st) fun j st => oLoN (lst? st u) (neg? j) fun o xs =>
      oB (Nat.blt j.toNat (len xs)) (some (.next, ⟨st.loc, st.n, put st.H o (.own, .list (setAt xs j.toNat v))⟩))
noncomputable def evS_asgK (ih : Ih) (cl : Cl) (d : X) (k1 : X) (k2 : X) (e : X) (st : St) : Option (Fl × St) :=
  oI (ih.e cl e st) fun v st => oR (ih.e cl d st) fun o st => oI (ih.e cl k1 st) fun a st => oI (ih.e cl k2 st) fun b st => oOD (get st.H o) fun es =>
      oDN (dget es [a, b]) (Nat.ble (len es) 100000) (some (.next, ⟨st.loc, st.n, put st.H o (.own, .dict (es ++ [([a, b], v)]))⟩))
noncomputable def evS_aug (ih : Ih) (cl : Cl) (x : Nat) (o : Op) (e : X) (st : St) : Option (Fl × St) :=
  oOI (get st.loc x) fun a => oI (ih.e cl e st) fun b st => oO (binI o a b) fun c => some (.next, setLoc st x (.int c))
noncomputable def evS_iff (ih : Ih) (cl : Cl) (t : B) (a : List S) (b : List S) (st : St) : Option (Fl × St) :=
  oP (ih.b cl t st) fun t st => match t with
    | true => ih.ss cl a st
    | false => ih.ss cl b st
noncomputable def evS_forR (ih : Ih) (cl : Cl) (x : Nat) (r : List X) (b : List S) (st : St) : Option (Fl × St) :=
  oP (evs ih cl r st) fun vs st => aR vs fun lo hi s => oP (rng st lo hi s) fun i st => ih.fl cl [x] i b st
noncomputable def evS_forL (ih : Ih) (cl : Cl) (x : Nat) (e : X) (b : List S) (st : St) : Option (Fl × St) :=
  oR (ih.e cl e st) fun l st => oL (get st.H l) (ih.fl cl [x] st.n b ⟨st.loc, st.n + 1, (st.n, .own, .litr l 0) :: st.H⟩)
noncomputable def evS_forT (ih : Ih) (cl : Cl) (x : Nat) (y : Nat) (e : X) (b : List S) (st : St) : Option (Fl × St) :=
  oR (ih.e cl e st) fun l st => oL (get st.H l) (ih.fl cl [x, y] st.n b ⟨st.loc, st.n + 1, (st.n, .own, .litr l 0) :: st.H⟩)
noncomputable def evS_forE (ih : Ih) (cl : Cl) (x : Nat) (y : Nat) (e : X) (b : List S) (st : St) : Option (Fl × St) :=
  oR (ih.e cl e st) fun l st => oL (get st.H l) (ih.fl cl [x, y] (st.n + 1) b ⟨st.loc, st.n + 2, (st.n + 1, .own, .eitr st.n 0) :: (st.n, .own, .litr l 0) :: st.H⟩)
noncomputable def evS_app (ih : Ih) (cl : Cl) (a : X) (e : X) (st : St) : Option (Fl × St) :=
  oP (ih.e cl a st) fun u st => oO (lst? st u) fun _ => oP (ih.e cl e st) fun v st => oLo (lst? st u) fun o xs => some (.next, ⟨st.loc, st.n, put st.H o (.own, .list (xs ++ [v]))⟩)
noncomputable def evS_ret (ih : Ih) (cl : Cl) (e : X) (st : St) : Option (Fl × St) :=
  oP (ih.e cl e st) fun v st => some (.ret v, st)
noncomputable def evS_ex (ih : Ih) (cl : Cl) (e : X) (st : St) : Option (Fl × St) :=
  oN (ih.e cl e st) fun st => some (.next, st)
noncomputable def evS_asg' (x : Nat) (e : X) (ih : Ih) (cl : Cl) (st : St) : Option (Fl × St) := evS_asg ih cl x e st
noncomputable def evS_asgL' (x : Nat) (e : X) (t : Nat) (n : X) (ih : Ih) (cl : Cl) (st : St) : Option (Fl × St) := evS_asgL ih cl x e t n st
noncomputable def evS_asgC' (x : Nat) (e : X) (ih : Ih) (cl : Cl) (st : St) : Option (Fl × St) := evS_asgC ih cl x e st
noncomputable def evS_asgT' (sw : Bool) (xs : List Nat) (e : X) (ih : Ih) (cl : Cl) (st : St) : Option (Fl × St) := evS_asgT ih cl sw xs e st
noncomputable def evS_asgI' (a : X) (i : X) (e : X) (ih : Ih) (cl : Cl) (st : St) : Option (Fl × St) := evS_asgI ih cl a i e st
noncomputable def evS_asgK' (d : X) (k1 : X) (k2 : X) (e : X) (ih : Ih) (cl : Cl) (st : St) : Option (Fl × St) := evS_asgK ih cl d k1 k2 e st
noncomputable def evS_aug' (x : Nat) (o : Op) (e : X) (ih : Ih) (cl : Cl) (st : St) : Option (Fl × St) := evS_aug ih cl x o e st
noncomputable def evS_iff' (t : B) (a : List S) (b : List S) (_ : Unit) (_ : Unit) (ih : Ih) (cl : Cl) (st : St) : Option (Fl × St) := evS_iff ih cl t a b st
noncomputable def evS_whl' (t : B) (b : List S) (_ : Unit) (ih : Ih) (cl : Cl) (st : St) : Option (Fl × St) := ih.wl cl t b st
noncomputable def evS_forR' (x : Nat) (r : List X) (b : List S) (_ : Unit) (ih : Ih) (cl : Cl) (st : St) : Option (Fl × St) := evS_forR ih cl x r b st
noncomputable def evS_forL' (x : Nat) (e : X) (b : List S) (_ : Unit) (ih : Ih) (cl : Cl) (st : St) : Option (Fl × St) := evS_forL ih cl x e b st
noncomputable def evS_forT' (x : Nat) (y : Nat) (e : X) (b : List S) (_ : Unit) (ih : Ih) (cl : Cl) (st : St) : Option (Fl × St) := evS_forT ih cl x y e b st
noncomputable def evS_forE' (x : Nat) (y : Nat) (e : X) (b : List S) (_ : Unit) (ih : Ih) (cl : Cl) (st : St) : Option (Fl × St) := evS_forE ih cl x y e b st
noncomputable def evS_app' (a : X) (e : X) (ih : Ih) (cl : Cl) (st : St) : Option (Fl × St) := evS_app ih cl a e st
noncomputable def evS_ret' (e : X) (ih : Ih) (cl : Cl) (st : St) : Option (Fl × St) := evS_ret ih cl e st
noncomputable def evS_ex' (e : X) (ih : Ih) (cl : Cl) (st : St) : Option (Fl × St) := evS_ex ih cl e st
noncomputable def evS_raise'  (ih : Ih) (cl : Cl) (st : St) : Option (Fl × St) := none
noncomputable def evST (x : S) : Ih → Cl → St → Option (Fl × St) :=
  S.rec (motive_1 := fun _ => Ih → Cl → St → Option (Fl × St)) (motive_2 := fun _ => Unit) evS_asg' evS_asgL' evS_asgC' evS_asgT' evS_asgI' evS_asgK' evS_aug' evS_iff' evS_whl' evS_forR' evS_forL' evS_forT' evS_forE' evS_app' evS_ret' evS_ex' evS_raise' () (fun _ _ _ _ => ()) x
noncomputable def evS (ih : Ih) (cl : Cl) (x : S) (st : St) : Option (Fl × St) := evST x ih cl st
noncomputable def evSS (ih : Ih) (cl : Cl) (xs : List S) : St → Option (Fl × St) := List.rec (motive := fun _ => St → Option (Fl × St)) (fun st => some (.next, st)) (fun s _ f st => nxt (evS ih cl s st) f) xs
noncomputable def mkCells : List Nat → Nat → Hp → Cl × Nat × Hp
  | [], n, H => ([], n, H)
  | x :: r, n, H => match mkCells r (n + 1) ((n, .own, .cell none) :: H) with | (c, n', H') => ((x, n) :: c, n', H')
noncomputable def zipL : List Nat → List AV → Loc
  | x :: xs, v :: vs => (x, v) :: zipL xs vs
  | _, _ => []
noncomputable def evL (fs : List (Nat × Fn)) (tab : Tab) (ih : Ih) (f : Nat) (ts : List T) : Option T := match look tab f ts with
  | some r => some r
  | none => match get fs f with
    | some fn => match Nat.beq (len fn.ps) (len ts) with
      | true => match thaws .base ts 0 [] with
        | (vs, n, H) => match mkCells fn.cs n H with
          | (cl, n, H) => match ih.ss cl fn.body ⟨zipL fn.ps vs, n, H⟩ with
            | some (.ret v, st) => frz true st.H 4 v
            | some (.next, _) => some .none
            | none => none
      | false => none
    | none => none
noncomputable def step (fs : List (Nat × Fn)) (tab : Tab) (ih : Ih) : Ih where
  e := evE ih
  b := evB ih
  ss := evSS ih
  wl := evW ih
  fl := evF ih
  cp := evC ih
  cl := evL fs tab ih
noncomputable def runT (fs : List (Nat × Fn)) (tab : Tab) (base : Ih) (n : Nat) : Ih := Nat.rec (motive := fun _ => Ih) base (fun _ ih => step fs tab ih) n
noncomputable def teqO (o : Option T) (t : T) : Bool := Option.rec false (fun s => teq s t) o
noncomputable def chk (ih : Ih) (tab : Tab) : Bool := List.rec (motive := fun _ => Bool) true (fun e _ b => Bool.rec false b (teqO (ih.cl e.1 e.2.1) e.2.2)) tab
noncomputable def run (fs : List (Nat × Fn)) (tab : Tab) (n : Nat) : Ih :=
  Nat.rec (motive := fun _ => Ih) ⟨fun _ _ _ => none, fun _ _ _ => none, fun _ _ _ => none, fun _ _ _ _ => none, fun _ _ _ _ _ => none, fun _ _ _ _ _ _ _ => none, fun _ _ => none⟩ (fun _ ih => step fs tab ih) n
end Cat
namespace Cat
section
variable {β γ δ : Type} {r : β} {G : Prop}
theorem elO {o : Option γ} {f : γ → Option β} (e : oO o f = some r) (k : ∀ v, o = some v → f v = some r → G) : G := by
  cases o with
  | none => cases e
  | some v => exact k v rfl e
theorem elP {o : Option (γ × δ)} {f : γ → δ → Option β} (e : oP o f = some r) (k : ∀ v st, o = some (v, st) → f v st = some r → G) : G := by
  cases o with
  | none => cases e
  | some v => exact k v.1 v.2 rfl e
theorem wI {v : AV} {f : Int → Option β} (e : vI v f = some r) : ∃ i, v = .int i ∧ f i = some r := by
  cases v <;> first | exact ⟨_, rfl, e⟩ | cases e
theorem wR {v : AV} {f : Nat → Option β} (e : vR v f = some r) : ∃ i, v = .ref i ∧ f i = some r := by
  cases v <;> first | exact ⟨_, rfl, e⟩ | cases e
theorem wF {v : AV} {f : Nat → Option β} (e : vF v f = some r) : ∃ i, v = .fn i ∧ f i = some r := by
  cases v <;> first | exact ⟨_, rfl, e⟩ | cases e
theorem wN {v : AV} {f : Option β} (e : vN v f = some r) : v = .none ∧ f = some r := by
  cases v <;> first | exact ⟨rfl, e⟩ | cases e
theorem elI {o : Option (AV × γ)} {f : Int → γ → Option β} (e : oI o f = some r) (k : ∀ i st, o = some (.int i, st) → f i st = some r → G) : G :=
  elP e fun _ st h e => let ⟨i, q, e⟩ := wI e; k i st (q ▸ h) e
theorem elR {o : Option (AV × γ)} {f : Nat → γ → Option β} (e : oR o f = some r) (k : ∀ i st, o = some (.ref i, st) → f i st = some r → G) : G :=
  elP e fun _ st h e => let ⟨i, q, e⟩ := wR e; k i st (q ▸ h) e
theorem elF {o : Option (AV × γ)} {f : Nat → γ → Option β} (e : oF o f = some r) (k : ∀ i st, o = some (.fn i, st) → f i st = some r → G) : G :=
  elP e fun _ st h e => let ⟨i, q, e⟩ := wF e; k i st (q ▸ h) e
theorem elN {o : Option (AV × γ)} {f : γ → Option β} (e : oN o f = some r) (k : ∀ st, o = some (.none, st) → f st = some r → G) : G :=
  elP e fun _ st h e => let ⟨q, e⟩ := wN e; k st (q ▸ h) e
theorem elOI {o : Option AV} {f : Int → Option β} (e : oOI o f = some r) (k : ∀ i, o = some (.int i) → f i = some r → G) : G :=
  elO e fun _ h e => let ⟨i, q, e⟩ := wI e; k i (q ▸ h) e
theorem bD {a : AO} {f : List (List Int × Int) → Option β} (e : aD a f = some r) : ∃ es, a = .dict es ∧ f es = some r := by
  cases a <;> first | exact ⟨_, rfl, e⟩ | cases e
theorem bT {a : AO} {f : List AV → Option β} (e : aT a f = some r) : ∃ es, a = .tup es ∧ f es = some r := by
  cases a <;> first | exact ⟨_, rfl, e⟩ | cases e
theorem bL {a : AO} {f : Option β} (e : aL a f = some r) : ∃ es, a = .list es ∧ f = some r := by
  cases a <;> first | exact ⟨_, rfl, e⟩ | cases e
theorem bC {a : AO} {f : Option AV → Option β} (e : aC a f = some r) : ∃ v, a = .cell v ∧ f v = some r := by
  cases a <;> first | exact ⟨_, rfl, e⟩ | cases e
theorem bK {k : Kd} {f : Option β} (e : kO k f = some r) : k = .own ∧ f = some r := by
  cases k <;> first | exact ⟨rfl, e⟩ | cases e
theorem elCell {o : Option (Kd × AO)} {f : AV → Option β} (e : oCell o f = some r) (k : ∀ kk v, o = some (kk, .cell (some v)) → f v = some r → G) : G :=
  elP e fun kk _ h e => let ⟨_, q, e⟩ := bC e; elO e fun v q' e => k kk v (by rw [h, q, q']) e
theorem elD {o : Option (Kd × AO)} {f : List (List Int × Int) → Option β} (e : oD o f = some r) (k : ∀ kk es, o = some (kk, .dict es) → f es = some r → G) : G :=
  elP e fun kk _ h e => let ⟨es, q, e⟩ := bD e; k kk es (q ▸ h) e
theorem elTu {o : Option (Kd × AO)} {f : List AV → Option β} (e : oTu o f = some r) (k : ∀ kk es, o = some (kk, .tup es) → f es = some r → G) : G :=
  elP e fun kk _ h e => let ⟨es, q, e⟩ := bT e; k kk es (q ▸ h) e
theorem elL {o : Option (Kd × AO)} {f : Option β} (e : oL o f = some r) (k : ∀ kk es, o = some (kk, .list es) → f = some r → G) : G :=
  elP e fun kk _ h e => let ⟨es, q, e⟩ := bL e; k kk es (q ▸ h) e
theorem elOC {o : Option (Kd × AO)} {f : Option β} (e : oOC o f = some r) (k : ∀ v, o = some (.own, .cell v) → f = some r → G) : G :=
  elP e fun _ _ h e => let ⟨q, e⟩ := bK e; let ⟨v, q', e⟩ := bC e; k v (by rw [h, q, q']) e
theorem elOD {o : Option (Kd × AO)} {f : List (List Int × Int) → Option β} (e : oOD o f = some r) (k : ∀ es, o = some (.own, .dict es) → f es = some r → G) : G :=
  elP e fun _ _ h e => let ⟨q, e⟩ := bK e; let ⟨v, q', e⟩ := bD e; k v (by rw [h, q, q']) e
theorem elB {b : Bool} {f : Option β} (e : oB b f = some r) (k : b = true → f = some r → G) : G := by
  cases b with
  | true => exact k rfl e
  | false => cases e
theorem elX {b : Bool} {f : Option β} (e : oX b f = some r) (k : b = false → f = some r → G) : G := by
  cases b with
  | false => exact k rfl e
  | true => cases e
theorem elLs {o : Option (Nat × Kd × List AV)} {f : List AV → Option β} (e : oLs o f = some r) (k : ∀ i kk xs, o = some (i, kk, xs) → f xs = some r → G) : G :=
  elP e fun i w h e => k i w.1 w.2 h e
theorem elLo {o : Option (Nat × Kd × List AV)} {f : Nat → List AV → Option β} (e : oLo o f = some r) (k : ∀ i xs, o = some (i, .own, xs) → f i xs = some r → G) : G :=
  elP e fun i w h e => let ⟨q, e⟩ := bK e; k i w.2 (by rw [h, ← q]) e
theorem elLN {o : Option (Nat × Kd × List AV)} {b : Bool} {f : List AV → Option β} (e : oLN o b f = some r) (k : ∀ i kk xs, o = some (i, kk, xs) → b = false → f xs = some r → G) : G :=
  elLs e fun i kk xs h e => elX e fun hb e => k i kk xs h hb e
theorem elLoN {o : Option (Nat × Kd × List AV)} {b : Bool} {f : Nat → List AV → Option β} (e : oLoN o b f = some r) (k : ∀ i xs, o = some (i, .own, xs) → b = false → f i xs = some r → G) : G :=
  elLo e fun i xs h e => elX e fun hb e => k i xs h hb e
theorem elNB {a b : Bool} {f : Option β} (e : oNB a b f = some r) (k : a = false → b = true → f = some r → G) : G :=
  elX e fun ha e => elB e fun hb e => k ha hb e
theorem elAR {vs : List AV} {f : Int → Int → Int → Option β} (e : aR vs f = some r) (k1 : ∀ hi, vs = [.int hi] → f 0 hi 1 = some r → G) (k2 : ∀ lo hi, vs = [.int lo, .int hi] → f lo hi 1 = some r → G)
    (k3 : ∀ lo hi s, vs = [.int lo, .int hi, .int s] → f lo hi s = some r → G) : G := by
  match vs, e with
  | [a], e => obtain ⟨i, rfl, e⟩ := wI e; exact k1 i rfl e
  | [a, b], e =>
    obtain ⟨i, rfl, e⟩ := wI (v := a) e
    obtain ⟨j, rfl, e⟩ := wI (v := b) e
    exact k2 i j rfl e
  | [a, b, c], e =>
    obtain ⟨i, rfl, e⟩ := wI (v := a) e
    obtain ⟨j, rfl, e⟩ := wI (v := b) e
    obtain ⟨l, rfl, e⟩ := wI (v := c) e
    exact k3 i j l rfl e
theorem elDN {o : Option Int} {b : Bool} {f : Option β} (e : oDN o b f = some r) (k : o = none → b = true → f = some r → G) : G := by
  cases o with
  | some v => cases e
  | none => exact elB e fun hb e => k rfl hb e
theorem wB {v : AV} {f : Bool → Option β} (e : vB v f = some r) : ∃ b, v = .bool b ∧ f b = some r := by
  cases v <;> first | exact ⟨_, rfl, e⟩ | cases e
theorem elNx {o : Option (Fl × St)} {f : St → Option (Fl × St)} {r : Fl × St} (e : nxt o f = some r) (k1 : ∀ st, o = some (.next, st) → f st = some r → G) (k2 : ∀ v st, o = some (.ret v, st) → r = (.ret v, st) → G) : G := by
  cases o with
  | none => cases e
  | some p =>
    obtain ⟨fl, st⟩ := p
    cases fl with
    | next => exact k1 st rfl e
    | ret v => exact k2 v st rfl (Option.some.inj e).symm
theorem bLx {a : AO} {f : List AV → Option β} (e : aLx a f = some r) : ∃ es, a = .list es ∧ f es = some r := by
  cases a <;> first | exact ⟨_, rfl, e⟩ | cases e
theorem bLT {a : AO} {f : List AV → Option β} (e : aLT a f = some r) : ∃ es, (a = .list es ∨ a = .tup es) ∧ f es = some r := by
  cases a <;> first | exact ⟨_, .inl rfl, e⟩ | exact ⟨_, .inr rfl, e⟩ | cases e
theorem bAdd {o : Op} {f : Option β} (e : isAdd o f = some r) : o = .add ∧ f = some r := by
  cases o <;> first | exact ⟨rfl, e⟩ | cases e
theorem bMul {o : Op} {f : Option β} (e : isMul o f = some r) : o = .mul ∧ f = some r := by
  cases o <;> first | exact ⟨rfl, e⟩ | cases e
theorem el3 {a b : AV} {f : Int → Int → Option β} {g : Nat → Nat → Option β} {h : Nat → Int → Option β} (e : v3 a b f g h = some r) (k1 : ∀ i j, a = .int i → b = .int j → f i j = some r → G) (k2 : ∀ i j, a = .ref i → b = .ref j → g i j = some r → G) (k3 : ∀ i j, a = .ref i → b = .int j → h i j = some r → G) : G := by
  cases a with
  | int i => obtain ⟨j, q, e⟩ := wI (v := b) e; exact k1 i j rfl q e
  | ref i =>
    cases b with
    | int j => exact k3 i j rfl rfl e
    | ref j => exact k2 i j rfl rfl e
    | none => cases e
    | bool _ => cases e
    | fn _ => cases e
  | none => cases e
  | bool _ => cases e
  | fn _ => cases e
end
end Cat
namespace Cat
open PySem
noncomputable def b_normal : List S := [.asg 0 (.len (.loc 1)),
    .whl (.and (.cmp .gt (.loc 0) (.lit 0)) (.cmp .eq (.idx (.loc 1) (.bin .sub (.loc 0) (.lit 1))) (.lit 0))) [.aug 0 .sub (.lit 1)],
    .ret (.slTo (.loc 1) (.loc 0))]
noncomputable def f_normal : Fn := ⟨[1], [], b_normal⟩
noncomputable def b_nat_of : List S := [.iff (.cmp .lt (.loc 2) (.lit 0)) [.raise] [],
    .asgT true [3, 4] (.tup [(.list []), (.bin .sub (.bin .shl (.lit 1) (.loc 5)) (.lit 1))]),
    .whl (.cmp .gt (.loc 2) (.lit 0)) [.app (.loc 3) (.bin .band (.loc 2) (.loc 4)),
    .aug 2 .shr (.loc 5)],
    .ret (.loc 3)]
noncomputable def f_nat_of : Fn := ⟨[2, 5], [], b_nat_of⟩
noncomputable def b_compare : List S := [.iff (.cmp .ne (.len (.loc 1)) (.len (.loc 6))) [.ret (.ite .lt (.len (.loc 1)) (.len (.loc 6)) (.neg (.lit 1)) (.lit 1))] [],
    .forR 7 [(.bin .sub (.len (.loc 1)) (.lit 1)), (.neg (.lit 1)), (.neg (.lit 1))] [.iff (.cmp .ne (.idx (.loc 1) (.loc 7)) (.idx (.loc 6) (.loc 7))) [.ret (.ite .lt (.idx (.loc 1) (.loc 7)) (.idx (.loc 6) (.loc 7)) (.neg (.lit 1)) (.lit 1))] []],
    .ret (.lit 0)]
noncomputable def f_compare : Fn := ⟨[1, 6], [], b_compare⟩
noncomputable def b_add : List S := [.iff (.cmp .lt (.len (.loc 1)) (.len (.loc 6))) [.asgT true [1, 6] (.tup [(.loc 6), (.loc 1)])] [],
    .asgT true [3, 8, 4] (.tup [(.list []), (.lit 0), (.bin .sub (.bin .shl (.lit 1) (.loc 5)) (.lit 1))]),
    .forR 7 [(.len (.loc 6))] [.aug 8 .add (.bin .add (.idx (.loc 1) (.loc 7)) (.idx (.loc 6) (.loc 7))),
    .app (.loc 3) (.bin .band (.loc 8) (.loc 4)),
    .aug 8 .shr (.loc 5)],
    .forR 7 [(.len (.loc 6)), (.len (.loc 1))] [.aug 8 .add (.idx (.loc 1) (.loc 7)),
    .app (.loc 3) (.bin .band (.loc 8) (.loc 4)),
    .aug 8 .shr (.loc 5)],
    .iff (.cmp .gt (.loc 8) (.lit 0)) [.app (.loc 3) (.loc 8)] [],
    .ret (.loc 3)]
noncomputable def f_add : Fn := ⟨[1, 6, 5], [], b_add⟩
noncomputable def b_sub : List S := [.iff (.cmp .lt (.call (.fn 60) [(.loc 1), (.loc 6)]) (.lit 0)) [.raise] [],
    .asgT true [3, 9, 10] (.tup [(.list []), (.lit 0), (.bin .shl (.lit 1) (.loc 5))]),
    .forR 7 [(.len (.loc 1))] [.asg 11 (.bin .sub (.bin .sub (.idx (.loc 1) (.loc 7)) (.loc 9)) (.ite .lt (.loc 7) (.len (.loc 6)) (.idx (.loc 6) (.loc 7)) (.lit 0))),
    .asg 9 (.ite .lt (.loc 11) (.lit 0) (.lit 1) (.lit 0)),
    .app (.loc 3) (.ite .lt (.loc 11) (.lit 0) (.bin .add (.loc 11) (.loc 10)) (.loc 11))],
    .ret (.call (.fn 46) [(.loc 3)])]
noncomputable def f_sub : Fn := ⟨[1, 6, 5], [], b_sub⟩
noncomputable def b_sieve : List S := [.asg 12 (.bin .mul (.list [(.bl true)]) (.bin .add (.loc 13) (.lit 1))),
    .asg 3 (.list []),
    .forR 14 [(.lit 2), (.bin .add (.loc 13) (.lit 1))] [.iff (.val (.idx (.loc 12) (.loc 14))) [.app (.loc 3) (.loc 14),
    .forR 15 [(.bin .mul (.loc 14) (.loc 14)), (.bin .add (.loc 13) (.lit 1)), (.loc 14)] [.asgI (.loc 12) (.loc 15) (.bl false)]] []],
    .ret (.loc 3)]
noncomputable def f_sieve : Fn := ⟨[13], [], b_sieve⟩
noncomputable def b_need_count : List S := [.iff (.cmp .lt (.loc 13) (.lit 0)) [.raise] []]
noncomputable def f_need_count : Fn := ⟨[13], [], b_need_count⟩
noncomputable def b_power_of_count : List S := [.asgT true [3, 16] (.tup [(.list [(.lit 1)]), (.call (.fn 53) [(.loc 10), (.loc 5)])]),
    .whl (.cmp .gt (.loc 15) (.lit 0)) [.iff (.cmp .eq (.bin .mod (.loc 15) (.lit 2)) (.lit 1)) [.asg 3 (.call (.loc 17) [(.loc 3), (.loc 16), (.loc 5)])] [],
    .asg 15 (.bin .div (.loc 15) (.lit 2)),
    .iff (.cmp .gt (.loc 15) (.lit 0)) [.asg 16 (.call (.loc 17) [(.loc 16), (.loc 16), (.loc 5)])] []],
    .ret (.loc 3)]
noncomputable def f_power_of_count : Fn := ⟨[10, 15, 5, 17], [], b_power_of_count⟩
noncomputable def b_product_of_powers : List S := [.iff (.cmp .eq (.len (.loc 18)) (.lit 0)) [.ret (.list [(.lit 1)])] [],
    .iff (.cmp .eq (.len (.loc 18)) (.lit 1)) [.ret (.call (.fn 95) [(.idx (.idx (.loc 18) (.lit 0)) (.lit 0)), (.idx (.idx (.loc 18) (.lit 0)) (.lit 1)), (.loc 5), (.loc 17)])] [],
    .asg 19 (.bin .div (.len (.loc 18)) (.lit 2)),
    .ret (.call (.loc 17) [(.call (.fn 102) [(.slTo (.loc 18) (.loc 19)), (.loc 5), (.loc 17)]), (.call (.fn 102) [(.slFrom (.loc 18) (.loc 19)), (.loc 5), (.loc 17)]), (.loc 5)])]
noncomputable def f_product_of_powers : Fn := ⟨[18, 5, 17], [], b_product_of_powers⟩
noncomputable def b_factorial_exponent : List S := [.asg 3 (.lit 0),
    .whl (.cmp .gt (.loc 13) (.lit 0)) [.asg 13 (.bin .div (.loc 13) (.loc 20)),
    .aug 3 .add (.loc 13)],
    .ret (.loc 3)]
noncomputable def f_factorial_exponent : Fn := ⟨[13, 20], [], b_factorial_exponent⟩
noncomputable def b_binomial : List S := [.ex (.call (.fn 88) [(.loc 13)]),
    .ex (.call (.fn 88) [(.loc 21)]),
    .iff (.cmp .gt (.loc 21) (.loc 13)) [.ret (.list [])] [],
    .asg 18 (.list []),
    .forL 20 (.call (.fn 81) [(.loc 13)]) [.asg 15 (.bin .sub (.bin .sub (.call (.fn 109) [(.loc 13), (.loc 20)]) (.call (.fn 109) [(.loc 21), (.loc 20)])) (.call (.fn 109) [(.bin .sub (.loc 13) (.loc 21)), (.loc 20)])),
    .iff (.cmp .gt (.loc 15) (.lit 0)) [.app (.loc 18) (.tup [(.loc 20), (.loc 15)])] []],
    .ret (.call (.fn 102) [(.loc 18), (.loc 5), (.loc 17)])]
noncomputable def f_binomial : Fn := ⟨[13, 21, 5, 17], [], b_binomial⟩
noncomputable def b_catalan : List S := [.ex (.call (.fn 88) [(.loc 13)]),
    .ret (.call (.fn 74) [(.call (.fn 116) [(.bin .mul (.lit 2) (.loc 13)), (.loc 13), (.loc 5), (.loc 17)]), (.call (.fn 116) [(.bin .mul (.lit 2) (.loc 13)), (.bin .add (.loc 13) (.lit 1)), (.loc 5), (.loc 17)]), (.loc 5)])]
noncomputable def f_catalan : Fn := ⟨[13, 5, 17], [], b_catalan⟩
noncomputable def b_sum_of_products : List S := [.asg 3 (.list []),
    .forT 1 6 (.loc 18) [.asg 3 (.call (.fn 67) [(.loc 3), (.call (.loc 17) [(.loc 1), (.loc 6), (.loc 5)]), (.loc 5)])],
    .ret (.loc 3)]
noncomputable def f_sum_of_products : Fn := ⟨[18, 5, 17], [], b_sum_of_products⟩
noncomputable def b_mul_school : List S := [.asgT true [3, 4] (.tup [(.bin .mul (.list [(.lit 0)]) (.bin .add (.len (.loc 1)) (.len (.loc 6)))), (.bin .sub (.bin .shl (.lit 1) (.loc 5)) (.lit 1))]),
    .forE 7 11 (.loc 1) [.asg 8 (.lit 0),
    .forE 22 23 (.loc 6) [.aug 8 .add (.bin .add (.idx (.loc 3) (.bin .add (.loc 7) (.loc 22))) (.bin .mul (.loc 11) (.loc 23))),
    .asgI (.loc 3) (.bin .add (.loc 7) (.loc 22)) (.bin .band (.loc 8) (.loc 4)),
    .aug 8 .shr (.loc 5)],
    .asgI (.loc 3) (.bin .add (.loc 7) (.len (.loc 6))) (.loc 8)],
    .ret (.call (.fn 46) [(.loc 3)])]
noncomputable def f_mul_school : Fn := ⟨[1, 6, 5], [], b_mul_school⟩
noncomputable def b_law_limbs : List S := [.asg 3 (.list []),
    .whl (.cmp .gt (.loc 2) (.lit 0)) [.app (.loc 3) (.bin .mod (.loc 2) (.bin .pow (.lit 2) (.loc 5))),
    .asg 2 (.bin .div (.loc 2) (.bin .pow (.lit 2) (.loc 5)))],
    .ret (.loc 3)]
noncomputable def f_law_limbs : Fn := ⟨[2, 5], [], b_law_limbs⟩
noncomputable def b_law_worth : List S := [.asg 24 (.lit 0),
    .forL 11 (.rev (.loc 25)) [.asg 24 (.bin .add (.bin .mul (.loc 24) (.bin .pow (.lit 2) (.loc 5))) (.loc 11))],
    .ret (.loc 24)]
noncomputable def f_law_worth : Fn := ⟨[25, 5], [], b_law_worth⟩
noncomputable def b_law_lead_on : List S := [.asg 26 (.bin .div (.bin .sub (.loc 27) (.loc 28)) (.lit 2)),
    .asg 29 (.call (.fn 116) [(.loc 27), (.loc 26), (.loc 5), (.fn 137)]),
    .ret (.ite .gt (.loc 26) (.lit 0) (.call (.fn 74) [(.loc 29), (.call (.fn 116) [(.loc 27), (.bin .sub (.loc 26) (.lit 1)), (.loc 5), (.fn 137)]), (.loc 5)]) (.loc 29))]
noncomputable def f_law_lead_on : Fn := ⟨[27, 28, 5], [], b_law_lead_on⟩
noncomputable def b_law_counted_out : List S := [.asg 30 (.bin .add (.bin .add (.bin .mul (.list [(.lit 0)]) (.loc 28)) (.list [(.lit 1)])) (.bin .mul (.list [(.lit 0)]) (.bin .add (.loc 27) (.lit 1)))),
    .forR 32 [(.loc 27)] [.asgC 31 (.bin .add (.bin .add (.list [(.lit 0)]) (.loc 30)) (.list [(.lit 0)])),
    .asgL 30 (.bin .add (.idx (.cel 31) (.loc 7)) (.idx (.cel 31) (.bin .add (.loc 7) (.lit 2)))) 7 (.len (.loc 30))],
    .ret (.idx (.loc 30) (.lit 0))]
noncomputable def f_law_counted_out : Fn := ⟨[27, 28], [31], b_law_counted_out⟩
noncomputable def b_law_rows : List S := [.asg 33 (.list [(.list [])]),
    .forR 32 [(.bin .mul (.lit 2) (.loc 18))] [.asg 34 (.list []),
    .forL 35 (.loc 33) [.iff (.cmp .lt (.sum (.loc 35)) (.loc 18)) [.app (.loc 34) (.bin .add (.loc 35) (.list [(.lit 1)]))] [],
    .iff (.cmp .gt (.bin .mul (.lit 2) (.sum (.loc 35))) (.len (.loc 35))) [.app (.loc 34) (.bin .add (.loc 35) (.list [(.lit 0)]))] []],
    .asg 33 (.loc 34)],
    .ret (.loc 33)]
noncomputable def f_law_rows : Fn := ⟨[18], [], b_law_rows⟩
noncomputable def b_law_row_at : List S := [.asgT true [35, 28] (.tup [(.list []), (.lit 0)]),
    .forR 27 [(.bin .sub (.bin .mul (.lit 2) (.loc 18)) (.lit 1)), (.neg (.lit 1)), (.neg (.lit 1))] [.asg 36 (.get (.loc 37) (.loc 27) (.bin .add (.loc 28) (.lit 1)) (.lit 0)),
    .iff (.cmp .lt (.loc 2) (.loc 36)) [.asgT true [35, 28] (.tup [(.bin .add (.loc 35) (.list [(.lit 1)])), (.bin .add (.loc 28) (.lit 1))])] [.asgT true [2, 35, 28] (.tup [(.bin .sub (.loc 2) (.loc 36)), (.bin .add (.loc 35) (.list [(.lit 0)])), (.bin .sub (.loc 28) (.lit 1))])]],
    .ret (.loc 35)]
noncomputable def f_law_row_at : Fn := ⟨[2, 18, 37], [], b_law_row_at⟩
noncomputable def b_law : List S := [.forR 27 [(.bin .mul (.lit 2) (.cel 18))] [.forR 28 [(.bin .mod (.loc 27) (.lit 2)), (.bin .add (.min (.loc 27) (.bin .sub (.bin .mul (.lit 2) (.cel 18)) (.loc 27))) (.lit 1)), (.lit 2)] [.asgK (.cel 37) (.loc 27) (.loc 28) (.call (.fn 158) [(.call (.fn 165) [(.loc 27), (.loc 28), (.cel 5)]), (.cel 5)]),
    .iff (.cmp .ne (.dix (.cel 37) (.loc 27) (.loc 28)) (.call (.fn 170) [(.loc 27), (.loc 28)])) [.ret (.bl false)] []]],
    .asg 33 (.call (.fn 177) [(.cel 18)]),
    .iff (.cmp .ne (.call (.fn 123) [(.cel 18), (.cel 5), (.fn 137)]) (.call (.fn 151) [(.len (.loc 33)), (.cel 5)])) [.ret (.bl false)] [],
    .iff (.cmp .ne (.comp (.call (.fn 184) [(.loc 2), (.cel 18), (.cel 37)]) 2 (.len (.loc 33))) (.loc 33)) [.ret (.bl false)] [],
    .asgC 38 (.comp (.call (.fn 123) [(.loc 7), (.cel 5), (.fn 137)]) 7 (.bin .add (.cel 18) (.lit 1))),
    .asg 39 (.call (.fn 130) [(.comp (.tup [(.idx (.cel 38) (.loc 7)), (.idx (.cel 38) (.bin .sub (.cel 18) (.loc 7)))]) 7 (.bin .add (.cel 18) (.lit 1))), (.cel 5), (.fn 137)]),
    .ret (.cmp .eq (.loc 39) (.call (.fn 123) [(.bin .add (.cel 18) (.lit 1)), (.cel 5), (.fn 137)]))]
noncomputable def f_law : Fn := ⟨[40], [5, 18, 37, 38], b_law⟩
noncomputable def fns : List (Nat × Fn) := [(46, f_normal), (53, f_nat_of), (60, f_compare), (67, f_add), (74, f_sub), (81, f_sieve), (88, f_need_count), (95, f_power_of_count), (102, f_product_of_powers), (109, f_factorial_exponent), (116, f_binomial), (123, f_catalan), (130, f_sum_of_products), (137, f_mul_school), (151, f_law_limbs), (158, f_law_worth), (165, f_law_lead_on), (170, f_law_counted_out), (177, f_law_rows), (184, f_law_row_at)]
noncomputable def nms : List Str := [Str.ofString "end", Str.ofString "a", Str.ofString "number", Str.ofString "found", Str.ofString "mask", Str.ofString "w", Str.ofString "b", Str.ofString "at", Str.ofString "carry", Str.ofString "borrow", Str.ofString "base", Str.ofString "limb", Str.ofString "is_left", Str.ofString "n", Str.ofString "one", Str.ofString "many", Str.ofString "square", Str.ofString "mul", Str.ofString "pairs", Str.ofString "half", Str.ofString "prime", Str.ofString "k", Str.ofString "spot", Str.ofString "other", Str.ofString "worth", Str.ofString "limbs", Str.ofString "ups", Str.ofString "left", Str.ofString "high", Str.ofString "whole", Str.ofString "ways", Str.ofString "wide", Str.ofString "turn", Str.ofString "rows", Str.ofString "longer", Str.ofString "row", Str.ofString "ahead", Str.ofString "told", Str.ofString "some", Str.ofString "later", Str.ofString "script"]
end Cat
namespace Cat
open PySem PyProof.Rows
theorem nat_beq {a b : Nat} : Nat.beq a b = true ↔ a = b := ⟨Nat.eq_of_beq_eq_true, fun h => h ▸ Nat.beq_refl a⟩
theorem nat_beq_ne {a b : Nat} : Nat.beq a b = false ↔ a ≠ b := by
  constructor
  · intro h e; rw [nat_beq.mpr e] at h; cases h
  · intro h; cases q : Nat.beq a b with
    | false => rfl
    | true => exact absurd (nat_beq.mp q) h
theorem get_cons' {α : Type} (p : Nat × α) (l : List (Nat × α)) (j : Nat) : get (p :: l) j = if p.1 = j then some p.2 else get l j := by
  show Bool.rec (motive := fun _ => Option α) (get l j) (some p.2) (Nat.beq p.1 j) = _
  by_cases q : p.1 = j
  · rw [nat_beq.mpr q, if_pos q]
  · rw [nat_beq_ne.mpr q, if_neg q]
theorem get_cons {α : Type} (n : Nat) (v : α) (l : List (Nat × α)) (j : Nat) : get ((n, v) :: l) j = if n = j then some v else get l j := get_cons' (n, v) l j
theorem put_cons {α : Type} (p : Nat × α) (l : List (Nat × α)) (i : Nat) (v : α) : put (p :: l) i v = if p.1 = i then (i, v) :: l else p :: put l i v := by
  show Bool.rec (motive := fun _ => List (Nat × α)) (p :: put l i v) ((i, v) :: l) (Nat.beq p.1 i) = _
  by_cases q : p.1 = i
  · rw [nat_beq.mpr q, if_pos q]
  · rw [nat_beq_ne.mpr q, if_neg q]
theorem get_put {α : Type} (l : List (Nat × α)) (i : Nat) (v : α) (j : Nat) : get (put l i v) j = if i = j then some v else get l j := by
  induction l with
  | nil => exact get_cons i v [] j
  | cons p l ih =>
    rw [put_cons, get_cons' p l j]
    by_cases h : p.1 = i
    · rw [if_pos h, get_cons]
      by_cases q : i = j
      · rw [if_pos q, if_pos q]
      · rw [if_neg q, if_neg q, if_neg (by rw [h]; exact q)]
    · rw [if_neg h, get_cons']
      by_cases q : p.1 = j
      · rw [if_pos q, if_pos q, if_neg fun z => h (q.trans z.symm)]
      · rw [if_neg q, if_neg q, ih]
inductive VR (α : List Addr) : AV → Value → Prop
  | none : VR α .none .none
  | bool (b : Bool) : VR α (.bool b) (.bool b)
  | int (i : Int) (t : Tok) : VR α (.int i) (.int i t)
  | fn (a : Nat) : VR α (.fn a) (.ref a)
  | ref {i : Nat} {a : Addr} : α[i]? = some a → VR α (.ref i) (.ref a)
theorem VR.ofRef {α : List Addr} {i : Nat} {x : Value} (h : VR α (.ref i) x) : ∃ a, x = .ref a ∧ α[i]? = some a := by
  cases h with
  | ref e => exact ⟨_, rfl, e⟩
theorem VR.ofInt {α : List Addr} {i : Int} {x : Value} (h : VR α (.int i) x) : ∃ t, x = .int i t := by
  cases h with
  | int _ t => exact ⟨t, rfl⟩
theorem VR.ofFn {α : List Addr} {i : Nat} {x : Value} (h : VR α (.fn i) x) : x = .ref i := by
  cases h with
  | fn _ => rfl
theorem VR.ofBool {α : List Addr} {b : Bool} {x : Value} (h : VR α (.bool b) x) : x = .bool b := by
  cases h with
  | bool _ => rfl
theorem VR.ofNone {α : List Addr} {x : Value} (h : VR α .none x) : x = .none := by
  cases h with
  | none => rfl
inductive VRs (α : List Addr) : List AV → List Value → Prop
  | nil : VRs α [] []
  | cons {a : AV} {v : Value} {as : List AV} {vs : List Value} : VR α a v → VRs α as vs → VRs α (a :: as) (v :: vs)
noncomputable def Le (α β : List Addr) : Prop := ∀ (i : Nat) (a : Addr), α[i]? = some a → β[i]? = some a
theorem Le.refl (α : List Addr) : Le α α := fun _ _ e => e
theorem Le.trans {α β γ : List Addr} (h : Le α β) (k : Le β γ) : Le α γ := fun i a e => k i a (h i a e)
theorem Le.snoc (α : List Addr) (a : Addr) : Le α (α ++ [a]) := fun i b e => by
  rw [List.getElem?_append_left (List.getElem?_eq_some_iff.mp e).1]; exact e
theorem VR.mono {α β : List Addr} (h : Le α β) {a : AV} {v : Value} : VR α a v → VR β a v
  | .none => .none
  | .bool b => .bool b
  | .int i t => .int i t
  | .fn a => .fn a
  | .ref e => .ref (h _ _ e)
theorem VRs.mono {α β : List Addr} (h : Le α β) {as : List AV} {vs : List Value} (x : VRs α as vs) : VRs β as vs := by
  induction x with
  | nil => exact .nil
  | cons a _ ih => exact .cons (a.mono h) ih
theorem VRs.append {α : List Addr} {as bs : List AV} {vs ws : List Value} (x : VRs α as vs) (y : VRs α bs ws) : VRs α (as ++ bs) (vs ++ ws) := by
  induction x with
  | nil => exact y
  | cons a _ ih => exact .cons a ih
theorem VRs.length {α : List Addr} {as : List AV} {vs : List Value} (x : VRs α as vs) : as.length = vs.length := by
  induction x with
  | nil => rfl
  | cons a _ ih => simp [ih]
theorem VRs.take {α : List Addr} {as : List AV} {vs : List Value} (x : VRs α as vs) : ∀ n : Nat, VRs α (as.take n) (vs.take n) := by
  induction x with
  | nil => intro n; simp; exact .nil
  | cons a _ ih => intro n; cases n with
    | zero => exact .nil
    | succ n => exact .cons a (ih n)
theorem VRs.drop {α : List Addr} {as : List AV} {vs : List Value} (x : VRs α as vs) : ∀ n : Nat, VRs α (as.drop n) (vs.drop n) := by
  induction x with
  | nil => intro n; simp; exact .nil
  | cons a x ih => intro n; cases n with
    | zero => exact .cons a x
    | succ n => exact ih n
theorem VRs.reverse {α : List Addr} {as : List AV} {vs : List Value} (x : VRs α as vs) : VRs α as.reverse vs.reverse := by
  induction x with
  | nil => exact .nil
  | cons a _ ih => rw [List.reverse_cons, List.reverse_cons]; exact ih.append (.cons a .nil)
theorem VRs.nth {α : List Addr} {as : List AV} {vs : List Value} (x : VRs α as vs) : ∀ {n : Nat} {a : AV}, nth as n = some a → ∃ v, vs[n]? = some v ∧ VR α a v := by
  induction x with
  | nil => intro n a e; cases e
  | cons a x ih => intro n b e; cases n with
    | zero => cases e; exact ⟨_, rfl, a⟩
    | succ n => exact ih e
theorem VRs.nth_none {α : List Addr} {as : List AV} {vs : List Value} (x : VRs α as vs) : ∀ {n : Nat}, Cat.nth as n = none → vs[n]? = none := by
  induction x with
  | nil => intro n e; simp
  | cons a x ih => intro n e; cases n with
    | zero => cases e
    | succ n => exact ih e
theorem VRs.setAt {α : List Addr} {as : List AV} {vs : List Value} (x : VRs α as vs) {b : AV} {v : Value} (h : VR α b v) : ∀ n : Nat, VRs α (setAt as n b) (vs.set n v) := by
  induction x with
  | nil => intro n; exact .nil
  | cons a x ih => intro n; cases n with
    | zero => exact .cons h x
    | succ n => exact .cons a (ih n)
theorem len_eq {α : Type} (l : List α) : len l = l.length := by
  induction l with
  | nil => rfl
  | cons x l ih => show len l + 1 = _; rw [ih]; rfl
theorem VRs.repL {α : List Addr} {as : List AV} {vs : List Value} (x : VRs α as vs) : ∀ n : Nat, VRs α (repL n as) (List.replicate n vs).flatten
  | 0 => .nil
  | n + 1 => by
    rw [List.replicate_succ, List.flatten_cons]
    exact x.append (VRs.repL x n)
section
variable (prog : Program) (w : World)
noncomputable def KeyAt (h₀ : Heap) (led : List (Addr × Obj)) (ks : List Int) (a : Addr) : Prop :=
  ∃ o its n, (h₀.get? a = some o ∨ (a, o) ∈ led) ∧ o.cls = .type "tuple" ∧ o.data = .seq its n ∧ PySem.ItemsAre (intKind prog w) ks its.toList
inductive DR : List (List Int × Addr × Value) → List (List Int × Int) → Prop
  | nil : DR [] []
  | cons (k : List Int) (a : Addr) (v : Int) (t : Tok) {xs : List (List Int × Addr × Value)} {es : List (List Int × Int)} : DR xs es → DR ((k, a, .int v t) :: xs) ((k, v) :: es)
inductive OR (h₀ : Heap) (led : List (Addr × Obj)) (α : List Addr) : AO → Obj → Prop
  | list {xs : List AV} {its : Array Value} {n : Nat} : VRs α xs its.toList → OR h₀ led α (.list xs) { cls := .type "list", data := .seq its n }
  | tup {xs : List AV} {its : Array Value} {n : Nat} : VRs α xs its.toList → OR h₀ led α (.tup xs) { cls := .type "tuple", data := .seq its n }
  | dict {es : List (List Int × Int)} {xs : List (List Int × Addr × Value)} {es' : Array DictEntry} {ep : Nat} : es'.toList = xs.map (entryOfKey (tupleKind (intKind prog w))) → (∀ x ∈ xs, KeyAt prog w h₀ led x.1 x.2.1) → (xs.map (·.1)).Nodup → DR xs es →
      OR h₀ led α (.dict es) { cls := .type "dict", data := .dict es' ep }
  | cell0 {o : Obj} {ov : Option Value} : o.data = .cell ov → OR h₀ led α (.cell none) o
  | cell1 {o : Obj} {v : Value} {av : AV} : o.data = .cell (some v) → VR α av v → OR h₀ led α (.cell (some av)) o
  | litr {l i : Nat} {la : Addr} {o : Obj} : α[l]? = some la → o.cls = .type "list_iterator" → o.data = .fields #[.ref la, .int i 0] → OR h₀ led α (.litr l i) o
  | ritr {x left st : Int} : OR h₀ led α (.ritr x left st) { cls := .type "range_iterator", data := .fields #[rawInt x, rawInt left, rawInt st] }
  | eitr {it i : Nat} {ita : Addr} {old : Value} : α[it]? = some ita → OR h₀ led α (.eitr it i) { cls := .type "enumerate", data := .fields #[.none, .bool false, .ref ita, rawInt i, .none, old] }
noncomputable def At (h₀ : Heap) (led : List (Addr × Obj)) (k : Kd) (a : Addr) (o : Obj) : Prop := match k with
  | .base => h₀.get? a = some o
  | _ => (a, o) ∈ led
structure SR (h₀ : Heap) (L : Addr) (h : Heap) (α : List Addr) (n : Nat) (H : Hp) (led : List (Addr × Obj)) : Prop where
  nw : News h₀ L h led
  len : α.length = n
  obj : ∀ (i : Nat) k ao, get H i = some (k, ao) → ∃ a o, α[i]? = some a ∧ At h₀ led k a o ∧ OR prog w h₀ led α ao o
  sep : ∀ (i j : Nat) (a : Addr) ao x, get H i = some (.own, ao) → get H j = some x → α[i]? = some a → α[j]? = some a → i = j
  sysm : ∀ (i : Nat) k es, get H i = some (k, .dict es) → α[i]? ≠ some sysModules
variable {prog w}
variable {h₀ h h' : Heap} {L : Addr} {α β : List Addr} {n : Nat} {H : Hp} {led led' : List (Addr × Obj)} {m : Str → Option Value}
theorem KeyAt.mono (hs : ∀ p ∈ led, p ∈ led') {ks : List Int} {a : Addr} (x : KeyAt prog w h₀ led ks a) : KeyAt prog w h₀ led' ks a :=
  let ⟨o, its, k, e, r⟩ := x
  ⟨o, its, k, e.imp id (hs _), r⟩
theorem OR.mono (hs : ∀ p ∈ led, p ∈ led') (hl : Le α β) {ao : AO} {o : Obj} : OR prog w h₀ led α ao o → OR prog w h₀ led' β ao o
  | .list x => .list (x.mono hl)
  | .tup x => .tup (x.mono hl)
  | .dict e k nd d => .dict e (fun x hx => (k x hx).mono hs) nd d
  | .cell0 e => .cell0 e
  | .cell1 e v => .cell1 e (v.mono hl)
  | .litr e c d => .litr (hl _ _ e) c d
  | .ritr => .ritr
  | .eitr e => .eitr (hl _ _ e)
theorem OR.keyed {led₁ : List (Addr × Obj)} (key : ∀ {ks : List Int} {b : Addr}, KeyAt prog w h₀ led ks b → KeyAt prog w h₀ led₁ ks b) {ao : AO} {o : Obj} : OR prog w h₀ led α ao o → OR prog w h₀ led₁ α ao o
  | .list x => .list x
  | .tup x => .tup x
  | .dict e k nd d => .dict e (fun x hx => key (k x hx)) nd d
  | .cell0 e => .cell0 e
  | .cell1 e v => .cell1 e v
  | .litr e c d => .litr e c d
  | .ritr => .ritr
  | .eitr e => .eitr e
theorem At.mono (hs : ∀ p ∈ led, p ∈ led') {k : Kd} {a : Addr} {o : Obj} (x : At h₀ led k a o) : At h₀ led' k a o := by
  cases k with
  | base => exact x
  | froz => exact hs _ x
  | own => exact hs _ x
theorem At.get (F : Fr h₀ L h m) (N : News h₀ L h led) {k : Kd} {a : Addr} {o : Obj} (x : At h₀ led k a o) : h.get? a = some o := by
  cases k with
  | base => exact F.keep _ _ x
  | froz => exact (N _ x).1
  | own => exact (N _ x).1
theorem SR.at_ (F : Fr h₀ L h m) (R : SR prog w h₀ L h α n H led) {i : Nat} {k : Kd} {ao : AO} (e : Cat.get H i = some (k, ao)) : ∃ a o, α[i]? = some a ∧ h.get? a = some o ∧ OR prog w h₀ led α ao o := by
  obtain ⟨a, o, h1, h2, h3⟩ := R.obj i k ao e
  exact ⟨a, o, h1, h2.get F R.nw, h3⟩
theorem SR.grow (R : SR prog w h₀ L h α n H led) (k : ∀ b o, h.get? b = some o → h'.get? b = some o) : SR prog w h₀ L h' α n H led :=
  ⟨R.nw.grown k, R.len, R.obj, R.sep, R.sysm⟩
theorem SR.more (R : SR prog w h₀ L h α n H led) (hs : ∀ p ∈ led, p ∈ led') (N : News h₀ L h' led') : SR prog w h₀ L h' α n H led' :=
  ⟨N, R.len, fun i k ao e => let ⟨a, o, h1, h2, h3⟩ := R.obj i k ao e; ⟨a, o, h1, h2.mono hs, h3.mono hs (Le.refl _)⟩, R.sep, R.sysm⟩
theorem snoc_get {α : List Addr} {a b : Addr} {j : Nat} (e : (α ++ [b])[j]? = some a) : α[j]? = some a ∨ (j = α.length ∧ a = b) := by
  by_cases h : j < α.length
  · rw [List.getElem?_append_left h] at e; exact .inl e
  · rw [List.getElem?_append_right (Nat.le_of_not_lt h)] at e
    have : j - α.length = 0 := by
      cases q : j - α.length with
      | zero => rfl
      | succ k => rw [q] at e; simp at e
    rw [this] at e
    exact .inr ⟨by omega, by simpa using e.symm⟩
theorem sys_snoc {D : Addr} {ao : AO} {k : Kd} (hn : (α ++ [D])[n]? = some D) (hobj : ∀ (i : Nat) k ao, get H i = some (k, ao) → ∃ a o, α[i]? = some a ∧ At h₀ led k a o ∧ OR prog w h₀ led α ao o)
    (hs : ∀ (i : Nat) k es, get H i = some (k, .dict es) → α[i]? ≠ some sysModules) (hsy : ∀ es, ao = .dict es → D ≠ sysModules) :
    ∀ (i : Nat) k' es, get ((n, k, ao) :: H) i = some (k', .dict es) → (α ++ [D])[i]? ≠ some sysModules := fun i k' es e ei => by
  rw [get_cons] at e
  by_cases q : n = i
  · subst q
    rw [if_pos rfl] at e
    cases e
    rw [hn] at ei
    exact hsy es rfl (Option.some.inj ei)
  · rw [if_neg q] at e
    obtain ⟨a, o, h1, _⟩ := hobj i k' _ e
    have := Le.snoc _ D _ _ h1
    rw [this] at ei
    cases ei
    exact hs i k' es e h1
theorem SR.live (R : SR prog w h₀ L h α n H led) {i : Nat} {x : Kd × AO} (e : get H i = some x) : i < n := by
  obtain ⟨a, o, h1, _⟩ := R.obj i x.1 x.2 e
  rw [← R.len]
  exact (List.getElem?_eq_some_iff.mp h1).1
theorem SR.old (R : SR prog w h₀ L h α n H led) {i : Nat} {x : Kd × AO} {a D : Addr} (e : get H i = some x) (ea : (α ++ [D])[i]? = some a) : α[i]? = some a := by
  obtain ⟨b, o, h1, _⟩ := R.obj i x.1 x.2 e
  have := Le.snoc α D _ _ h1
  rw [this] at ea
  cases ea
  exact h1
theorem SR.sep_snoc (R : SR prog w h₀ L h α n H led) {D : Addr} {k : Kd} {ao : AO} (hn : (α ++ [D])[n]? = some D) (hD : ∀ (i : Nat) x, (k = .own ∨ ∃ ao, x = (Kd.own, ao)) → get H i = some x → α[i]? ≠ some D) :
    ∀ (i j : Nat) (a : Addr) ao' x, get ((n, k, ao) :: H) i = some (.own, ao') → get ((n, k, ao) :: H) j = some x → (α ++ [D])[i]? = some a → (α ++ [D])[j]? = some a → i = j := by
  intro i j a ao' x e e' ei ej
  rw [get_cons] at e e'
  by_cases q : n = i
  · by_cases q' : n = j
    · rw [← q, ← q']
    · rw [if_neg q'] at e'
      rw [if_pos q] at e
      cases e
      rw [← q, hn] at ei
      cases ei
      exact absurd (R.old e' ej) (hD j x (.inl rfl) e')
  · rw [if_neg q] at e
    by_cases q' : n = j
    · rw [← q', hn] at ej
      cases ej
      exact absurd (R.old e ei) (hD i _ (.inr ⟨_, rfl⟩) e)
    · rw [if_neg q'] at e'
      exact R.sep i j a ao' x e e' (R.old e ei) (R.old e' ej)
theorem SR.alloc (R : SR prog w h₀ L h α n H led) {D : Addr} {o : Obj} {ao : AO} {k : Kd} (hk : k ≠ .base) (N : News h₀ L h' ((D, o) :: led)) (hD : ∀ (i : Nat) x, get H i = some x → α[i]? ≠ some D) (x : OR prog w h₀ led α ao o) (hsy : ∀ es, ao = .dict es → D ≠ sysModules) :
    SR prog w h₀ L h' (α ++ [D]) (n + 1) ((n, k, ao) :: H) ((D, o) :: led) := by
  have hs : ∀ p ∈ led, p ∈ (D, o) :: led := fun p hp => .tail _ hp
  have hn : (α ++ [D])[n]? = some D := by rw [← R.len]; simp
  refine ⟨N, by rw [List.length_append, R.len]; rfl, fun i k' ao' e => ?_, R.sep_snoc hn fun i x _ e => hD i x e, sys_snoc hn R.obj R.sysm hsy⟩
  rw [get_cons] at e
  by_cases q : n = i
  · subst q
    rw [if_pos rfl] at e
    cases e
    refine ⟨D, o, hn, ?_, x.mono hs (Le.snoc _ _)⟩
    cases k with
    | base => exact absurd rfl hk
    | froz => exact .head _
    | own => exact .head _
  · rw [if_neg q] at e
    obtain ⟨a, o', h1, h2, h3⟩ := R.obj i k' ao' e
    exact ⟨a, o', Le.snoc _ _ _ _ h1, h2.mono hs, h3.mono hs (Le.snoc _ _)⟩
noncomputable def updL (D : Addr) (o : Obj) (led : List (Addr × Obj)) : List (Addr × Obj) := led.map fun p => if p.1 = D then (D, o) else p
theorem mem_updL {D : Addr} {o : Obj} {p : Addr × Obj} (hp : p ∈ updL D o led) : (p = (D, o) ∧ ∃ o', (D, o') ∈ led) ∨ (p ∈ led ∧ p.1 ≠ D) := by
  obtain ⟨q, hq, e⟩ := List.mem_map.mp hp
  by_cases z : q.1 = D
  · rw [if_pos z] at e
    exact .inl ⟨e.symm, q.2, by rw [← z]; exact hq⟩
  · rw [if_neg z] at e
    subst e
    exact .inr ⟨hq, z⟩
theorem updL_ne {D : Addr} {o : Obj} {p : Addr × Obj} (hp : p ∈ led) (z : p.1 ≠ D) : p ∈ updL D o led := List.mem_map.mpr ⟨p, hp, if_neg z⟩
theorem updL_at {D : Addr} {o o' : Obj} (hp : (D, o') ∈ led) : (D, o) ∈ updL D o led := List.mem_map.mpr ⟨_, hp, if_pos rfl⟩
theorem News.upd (N : News h₀ L h led) {D : Addr} {o : Obj} (hs : Heap.SameBut D h h') (ho : h'.get? D = some o) : News h₀ L h' (updL D o led) := fun p hp => by
  rcases mem_updL hp with ⟨rfl, o', hm⟩ | ⟨hm, z⟩
  · exact ⟨ho, (N _ hm).2⟩
  · exact ⟨(hs.2 _ z).trans (N _ hm).1, (N _ hm).2⟩
theorem SR.update (R : SR prog w h₀ L h α n H led) {i : Nat} {D : Addr} {o o' : Obj} {ao ao' : AO} (e : Cat.get H i = some (.own, ao)) (ei : α[i]? = some D) (hm : (D, o) ∈ led) (hc : ∀ its n, o.cls = .type "tuple" → o.data ≠ .seq its n)
    (N : News h₀ L h' (updL D o' led)) (x : OR prog w h₀ (updL D o' led) α ao' o') (hR : News h₀ L h led) (hsy : ∀ es, ao' = .dict es → D ≠ sysModules) : SR prog w h₀ L h' α n (put H i (.own, ao')) (updL D o' led) := by
  have key : ∀ {ks : List Int} {b : Addr}, KeyAt prog w h₀ led ks b → KeyAt prog w h₀ (updL D o' led) ks b := by
    rintro ks b ⟨o₁, its, c, e₁, hcl, r⟩
    refine ⟨o₁, its, c, e₁.imp id fun hb => updL_ne hb fun z => ?_, hcl, r⟩
    have h1 := (hR _ hb).1
    have h2 := (hR _ hm).1
    rw [show (b, o₁).1 = D from z] at h1
    have := h1.symm.trans h2
    cases this
    exact hc _ _ hcl r.1
  refine ⟨N, R.len, fun j k ao₁ ej => ?_, fun j j' a ao₁ x₁ ej ej' h1 h2 => ?_, fun j k es ej h1 => ?_⟩
  · rw [get_put] at ej
    by_cases q : i = j
    · subst q
      rw [if_pos rfl] at ej
      cases ej
      exact ⟨D, o', ei, updL_at hm, x⟩
    · rw [if_neg q] at ej
      obtain ⟨a, o₁, h1, h2, h3⟩ := R.obj j k ao₁ ej
      have hne : a ≠ D := fun z => q (R.sep i j D ao _ e ej ei (z ▸ h1))
      refine ⟨a, o₁, h1, ?_, ?_⟩
      · cases k with
        | base => exact h2
        | froz => exact updL_ne h2 hne
        | own => exact updL_ne h2 hne
      · exact h3.keyed key
  · have live : ∀ j x, get (put H i (.own, ao')) j = some x → ∃ y, get H j = some y := fun j x ej => by
      rw [get_put] at ej
      by_cases q : i = j
      · subst q; exact ⟨_, e⟩
      · rw [if_neg q] at ej; exact ⟨_, ej⟩
    have own : ∀ j ao₁, get (put H i (.own, ao')) j = some (.own, ao₁) → ∃ ao₂, get H j = some (.own, ao₂) := fun j ao₁ ej => by
      rw [get_put] at ej
      by_cases q : i = j
      · subst q; exact ⟨_, e⟩
      · rw [if_neg q] at ej; exact ⟨_, ej⟩
    obtain ⟨_, g1⟩ := own _ _ ej
    obtain ⟨_, g2⟩ := live _ _ ej'
    exact R.sep _ _ _ _ _ g1 g2 h1 h2
  · rw [get_put] at ej
    by_cases q : i = j
    · subst q
      rw [if_pos rfl] at ej
      cases ej
      rw [ei] at h1
      exact hsy es rfl (Option.some.inj h1)
    · rw [if_neg q] at ej
      exact R.sysm _ _ _ ej h1
theorem get_del {α : Type} (l : List (Nat × α)) (i j : Nat) : get (del l i) j = if i = j then none else get l j := by
  induction l with
  | nil => show none = _; split <;> rfl
  | cons p l ih =>
    rw [get_cons' p l j]
    by_cases h : p.1 = i
    · have e : del (p :: l) i = del l i := by
        show (match Nat.beq p.1 i with | true => del l i | false => p :: del l i) = _
        rw [nat_beq.mpr h]
      rw [e, ih]
      by_cases q : i = j
      · rw [if_pos q, if_pos q]
      · rw [if_neg q, if_neg q, if_neg (by rw [h]; exact q)]
    · have e : del (p :: l) i = p :: del l i := by
        show (match Nat.beq p.1 i with | true => del l i | false => p :: del l i) = _
        rw [nat_beq_ne.mpr h]
      rw [e, get_cons']
      by_cases q : p.1 = j
      · rw [if_pos q, if_pos q, if_neg fun z => h (q.trans z.symm)]
      · rw [if_neg q, if_neg q]
        exact ih
noncomputable def delL (D : Addr) (led : List (Addr × Obj)) : List (Addr × Obj) := led.filter fun p => !Nat.beq p.1 D
theorem mem_delL {D : Addr} {p : Addr × Obj} : p ∈ delL D led ↔ p ∈ led ∧ p.1 ≠ D := by
  unfold delL
  rw [List.mem_filter]
  refine and_congr Iff.rfl ⟨fun h z => ?_, fun h => ?_⟩
  · rw [nat_beq.mpr z] at h; cases h
  · rw [nat_beq_ne.mpr h]; rfl
theorem SR.del (R : SR prog w h₀ L h α n H led) {i : Nat} {D : Addr} {o : Obj} {ao : AO} (e : Cat.get H i = some (.own, ao)) (ei : α[i]? = some D) (hm : (D, o) ∈ led) (hc : ∀ its n, o.cls = .type "tuple" → o.data ≠ .seq its n)
    (N : News h₀ L h' (delL D led)) : SR prog w h₀ L h' α n (Cat.del H i) (delL D led) := by
  have key : ∀ {ks : List Int} {b : Addr}, KeyAt prog w h₀ led ks b → KeyAt prog w h₀ (delL D led) ks b := by
    rintro ks b ⟨o₁, its, c, e₁, hcl, r⟩
    refine ⟨o₁, its, c, e₁.imp id fun hb => mem_delL.mpr ⟨hb, fun z => ?_⟩, hcl, r⟩
    have h1 := (R.nw _ hb).1
    have h2 := (R.nw _ hm).1
    rw [show (b, o₁).1 = D from z] at h1
    have := h1.symm.trans h2
    cases this
    exact hc _ _ hcl r.1
  have old : ∀ {j x}, Cat.get (Cat.del H i) j = some x → i ≠ j ∧ Cat.get H j = some x := fun {j x} ej => by
    rw [get_del] at ej
    by_cases q : i = j
    · rw [if_pos q] at ej; cases ej
    · rw [if_neg q] at ej; exact ⟨q, ej⟩
  refine ⟨N, R.len, fun j k ao₁ ej => ?_, fun j j' a ao₁ x₁ ej ej' h1 h2 => R.sep _ _ _ _ _ (old ej).2 (old ej').2 h1 h2, fun j k es ej h1 => R.sysm _ _ _ (old ej).2 h1⟩
  obtain ⟨q, ej⟩ := old ej
  obtain ⟨a, o₁, h1, h2, h3⟩ := R.obj j k ao₁ ej
  have hne : a ≠ D := fun z => q (R.sep i j D ao _ e ej ei (z ▸ h1))
  refine ⟨a, o₁, h1, ?_, h3.keyed key⟩
  cases k with
  | base => exact h2
  | froz => exact mem_delL.mpr ⟨h2, hne⟩
  | own => exact mem_delL.mpr ⟨h2, hne⟩
theorem News.del (N : News h₀ L h led) {D : Addr} (hs : Heap.ExtBut D h h') : News h₀ L h' (delL D led) := fun p hp => by
  obtain ⟨hm, z⟩ := mem_delL.mp hp
  exact ⟨hs _ _ z (N _ hm).1, (N _ hm).2⟩
end
end Cat
namespace Cat
open PySem PyProof.Rows
section
variable (prog : Program) (w : World)
mutual
noncomputable def TR (P : Addr → Obj → Prop) (d : Bool) : T → Value → Prop
  | .none, v => v = .none
  | .bool b, v => v = .bool b
  | .int i, v => ∃ t, v = .int i t
  | .fn a, v => v = .ref a
  | .list ts, v => ∃ a its n, v = .ref a ∧ P a { cls := .type "list", data := .seq its n } ∧ TRs P d ts its.toList
  | .tup ts, v => ∃ a its n, v = .ref a ∧ P a { cls := .type "tuple", data := .seq its n } ∧ TRs P d ts its.toList
  | .dict es, v => d = true ∧ ∃ a xs es' ep, v = .ref a ∧ a ≠ sysModules ∧ P a { cls := .type "dict", data := .dict es' ep } ∧ es'.toList = xs.map (entryOfKey (tupleKind (intKind prog w))) ∧
      (∀ x ∈ xs, ∃ o its n, P x.2.1 o ∧ o.cls = .type "tuple" ∧ o.data = .seq its n ∧ PySem.ItemsAre (intKind prog w) x.1 its.toList) ∧ (xs.map (·.1)).Nodup ∧ DR xs es
noncomputable def TRs (P : Addr → Obj → Prop) (d : Bool) : List T → List Value → Prop
  | [], vs => vs = []
  | t :: ts, vs => ∃ v r, vs = v :: r ∧ TR P d t v ∧ TRs P d ts r
end
variable {prog w}
mutual
theorem TR.mono {P Q : Addr → Obj → Prop} {d : Bool} (h : ∀ a o, P a o → Q a o) : ∀ {t : T} {v : Value}, TR prog w P d t v → TR prog w Q d t v
  | .none, _, x => x
  | .bool _, _, x => x
  | .int _, _, x => x
  | .fn _, _, x => x
  | .list _, _, ⟨a, its, n, e, p, r⟩ => ⟨a, its, n, e, h _ _ p, TRs.mono h r⟩
  | .tup _, _, ⟨a, its, n, e, p, r⟩ => ⟨a, its, n, e, h _ _ p, TRs.mono h r⟩
  | .dict _, _, ⟨hd, a, xs, es', ep, e, sy, p, q, k, r⟩ => ⟨hd, a, xs, es', ep, e, sy, h _ _ p, q, fun x hx => let ⟨o, its, n, po, z⟩ := k x hx; ⟨o, its, n, h _ _ po, z⟩, r⟩
theorem TRs.mono {P Q : Addr → Obj → Prop} {d : Bool} (h : ∀ a o, P a o → Q a o) : ∀ {ts : List T} {vs : List Value}, TRs prog w P d ts vs → TRs prog w Q d ts vs
  | [], _, x => x
  | _ :: _, _, ⟨v, r, e, x, y⟩ => ⟨v, r, e, TR.mono h x, TRs.mono h y⟩
end
theorem TRs.length {P : Addr → Obj → Prop} {d : Bool} : ∀ {ts : List T} {vs : List Value}, TRs prog w P d ts vs → ts.length = vs.length
  | [], vs, x => by rw [show vs = [] from x]; rfl
  | _ :: _, _, ⟨v, r, e, _, y⟩ => by rw [e, List.length_cons, List.length_cons, TRs.length y]
variable {h₀ h h' : Heap} {L : Addr} {α β : List Addr} {n : Nat} {H : Hp} {led led' : List (Addr × Obj)} {m : Str → Option Value}
section
variable {P : Addr → Obj → Prop} {new : Bool}
theorem frz_sound (R : SR prog w h₀ L h α n H led) (hP : ∀ k a o, At h₀ led k a o → (new = true → k ≠ .base) → P a o) (hK : new = false → ∀ b o, (h₀.get? b = some o ∨ (b, o) ∈ led) → P b o) :
    ∀ (fuel : Nat) {v : AV} {t : T} {x : Value}, frz new H fuel v = some t → VR α v x → TR prog w P (!new) t x
  | 0, _, _, _, e, _ => by cases e
  | fuel + 1, v, t, x, e, hv => by
    have hs : ∀ {vs : List AV} {ts : List T} {xs : List Value}, frzs (frz new H fuel) vs = some ts → VRs α vs xs → TRs prog w P (!new) ts xs := by
      intro vs
      induction vs with
      | nil => intro ts xs e hx; cases e; cases hx; rfl
      | cons v vs ih =>
        intro ts xs e hx
        cases hx with
        | cons hv hx =>
          simp only [frzs] at e
          split at e
          · rename_i t et
            split at e
            · rename_i ts' ets
              cases e
              exact ⟨_, _, rfl, frz_sound R hP hK fuel et hv, ih ets hx⟩
            · cases e
          · cases e
    cases hv with
    | none => cases e; rfl
    | bool b => cases e; rfl
    | int i t => cases e; exact ⟨t, rfl⟩
    | fn a => cases e; rfl
    | @ref i a ha =>
      simp only [frz] at e
      split at e
      · rename_i k o eo
        obtain ⟨a', ob, h1, h2, h3⟩ := R.obj i k o eo
        have : a' = a := by rw [h1] at ha; exact Option.some.inj ha
        subst this
        have go : ∀ (hb : new = true → k ≠ .base), frzO new (frz new H fuel) o = some t → TR prog w P (!new) t (.ref a') := by
          intro hb e
          cases h3 with
          | list x =>
            simp only [frzO] at e
            split at e
            · rename_i ts ets; cases e; exact ⟨_, _, _, rfl, hP _ _ _ h2 hb, hs ets x⟩
            · cases e
          | tup x =>
            simp only [frzO] at e
            split at e
            · rename_i ts ets; cases e; exact ⟨_, _, _, rfl, hP _ _ _ h2 hb, hs ets x⟩
            · cases e
          | dict q kk nd d =>
            cases new with
            | true => cases e
            | false =>
              cases e
              exact ⟨rfl, _, _, _, _, rfl, fun z => R.sysm i k _ eo (z ▸ h1), hP _ _ _ h2 hb, q, fun x hx => let ⟨o, its, c, z, r⟩ := kk x hx; ⟨o, its, c, hK rfl _ _ z, r⟩, nd, d⟩
          | cell0 => cases e
          | cell1 => cases e
          | litr => cases e
          | ritr => cases e
          | eitr => cases e
        cases new with
        | false => exact go (fun z => by cases z) (by cases k <;> exact e)
        | true => cases k with
          | base => cases e
          | froz => exact go (fun _ z => by cases z) e
          | own => exact go (fun _ z => by cases z) e
      · cases e
theorem frzs_sound (R : SR prog w h₀ L h α n H led) (hP : ∀ k a o, At h₀ led k a o → (new = true → k ≠ .base) → P a o) (hK : new = false → ∀ b o, (h₀.get? b = some o ∨ (b, o) ∈ led) → P b o) (fuel : Nat) :
    ∀ {vs : List AV} {ts : List T} {xs : List Value}, frzs (frz new H fuel) vs = some ts → VRs α vs xs → TRs prog w P (!new) ts xs := by
  intro vs
  induction vs with
  | nil => intro ts xs e hx; cases e; cases hx; rfl
  | cons v vs ih =>
    intro ts xs e hx
    cases hx with
    | cons hv hx =>
      simp only [frzs] at e
      split at e
      · rename_i t et
        split at e
        · rename_i ts' ets
          cases e
          exact ⟨_, _, rfl, frz_sound R hP hK fuel et hv, ih ets hx⟩
        · cases e
      · cases e
end
theorem SR.add (R : SR prog w h₀ L h α n H led) {D : Addr} {o : Obj} {ao : AO} {k : Kd} (hk : k ≠ .own) (hs : ∀ p ∈ led, p ∈ led') (N : News h₀ L h led') (hA : At h₀ led' k D o) (hD : ∀ i ao, Cat.get H i = some (.own, ao) → α[i]? ≠ some D)
    (x : OR prog w h₀ led' α ao o) (hsy : ∀ es, ao = .dict es → D ≠ sysModules) : SR prog w h₀ L h (α ++ [D]) (n + 1) ((n, k, ao) :: H) led' := by
  have hn : (α ++ [D])[n]? = some D := by rw [← R.len]; simp
  refine ⟨N, by rw [List.length_append, R.len]; rfl, fun i k' ao' e => ?_, R.sep_snoc hn (fun i x hx e => ?_), sys_snoc hn R.obj R.sysm hsy⟩
  · rw [get_cons] at e
    by_cases q : n = i
    · subst q
      rw [if_pos rfl] at e
      cases e
      exact ⟨D, o, hn, hA, x.mono (fun _ hp => hp) (Le.snoc _ _)⟩
    · rw [if_neg q] at e
      obtain ⟨a, o', h1, h2, h3⟩ := R.obj i k' ao' e
      exact ⟨a, o', Le.snoc _ _ _ _ h1, h2.mono hs, h3.mono hs (Le.snoc _ _)⟩
  · rcases hx with z | ⟨ao₁, rfl⟩
    · exact absurd z hk
    · exact hD i ao₁ e
structure Th (prog : Program) (w : World) (P : Addr → Obj → Prop) (h₀ : Heap) (L : Addr) (h : Heap) (α : List Addr) (H : Hp) (led : List (Addr × Obj)) (α' : List Addr) (n' : Nat) (H' : Hp) (led' : List (Addr × Obj)) : Prop where
  sr : SR prog w h₀ L h α' n' H' led'
  le : Le α α'
  sub : ∀ p ∈ led, p ∈ led'
  own : ∀ i ao, Cat.get H' i = some (.own, ao) → Cat.get H i = some (.own, ao)
  old : ∀ (i : Nat) (a : Addr), α'[i]? = some a → α[i]? = some a ∨ α.length ≤ i
  src : ∀ q ∈ led', q ∈ led ∨ P q.1 q.2
theorem Th.refl {P : Addr → Obj → Prop} (R : SR prog w h₀ L h α n H led) : Th prog w P h₀ L h α H led α n H led := ⟨R, Le.refl _, fun _ h => h, fun _ _ e => e, fun _ _ e => .inl e, fun _ h => .inl h⟩
theorem Th.trans {P : Addr → Obj → Prop} {α₁ α₂ : List Addr} {n₁ n₂ : Nat} {H₁ H₂ : Hp} {led₁ led₂ : List (Addr × Obj)} (x : Th prog w P h₀ L h α H led α₁ n₁ H₁ led₁) (y : Th prog w P h₀ L h α₁ H₁ led₁ α₂ n₂ H₂ led₂) : Th prog w P h₀ L h α H led α₂ n₂ H₂ led₂ :=
  ⟨y.sr, x.le.trans y.le, fun p hp => y.sub p (x.sub p hp), fun i ao e => x.own i ao (y.own i ao e), fun i a e => by
    have len_le : α.length ≤ α₁.length := by
      apply Nat.le_of_not_lt
      intro q
      have z := x.le α₁.length (α[α₁.length]'q) (List.getElem?_eq_some_iff.mpr ⟨q, rfl⟩)
      exact absurd (List.getElem?_eq_some_iff.mp z).1 (Nat.lt_irrefl _)
    rcases y.old i a e with q | q
    · exact x.old i a q
    · exact .inr (Nat.le_trans len_le q), fun q hq => (y.src q hq).elim (x.src q) .inr⟩
section
variable {P : Addr → Obj → Prop} {d : Bool} {k : Kd}
noncomputable def OkP (h₀ : Heap) (L : Addr) (h : Heap) (k : Kd) (d : Bool) (P : Addr → Obj → Prop) : Prop :=
  (k = .base ∧ ∀ a o, P a o → h₀.get? a = some o) ∨ (k = .froz ∧ d = false ∧ ∀ a o, P a o → h.get? a = some o ∧ a ≠ L ∧ h₀.get? a = none)
noncomputable def Off (P : Addr → Obj → Prop) (α : List Addr) (H : Hp) : Prop := ∀ a o, P a o → ∀ i ao, Cat.get H i = some (.own, ao) → α[i]? ≠ some a
theorem Off.th (R : SR prog w h₀ L h α n H led) {α' : List Addr} {n' : Nat} {H' : Hp} (hO : Off P α H) (x : Th prog w P h₀ L h α H led α' n' H' led') : Off P α' H' := fun a o p i ao e q => by
  have e' := x.own i ao e
  obtain ⟨a', _, h1, _⟩ := R.obj i _ _ e'
  rcases x.old i a q with q | q
  · exact hO a o p i ao e' q
  · exact absurd (List.getElem?_eq_some_iff.mp h1).1 (Nat.not_lt.mpr q)
theorem Th.one (R : SR prog w h₀ L h α n H led) (hP : OkP h₀ L h k d P) (hO : Off P α H) {a : Addr} {o : Obj} {ao : AO} (p : P a o) (x : ∀ led', (∀ q ∈ led, q ∈ led') → OR prog w h₀ led' α ao o) (hsy : ∀ es, ao = .dict es → a ≠ sysModules) :
    ∃ led', Th prog w P h₀ L h α H led (α ++ [a]) (n + 1) ((n, k, ao) :: H) led' := by
  have fin : ∀ led', (∀ q ∈ led, q ∈ led') → SR prog w h₀ L h (α ++ [a]) (n + 1) ((n, k, ao) :: H) led' → k ≠ .own → (∀ q ∈ led', q ∈ led ∨ P q.1 q.2) → Th prog w P h₀ L h α H led (α ++ [a]) (n + 1) ((n, k, ao) :: H) led' := by
    intro led' hs S hk hsrc
    refine ⟨S, Le.snoc _ _, hs, fun i ao' e => ?_, fun i b e => (snoc_get e).imp id fun z => Nat.le_of_eq z.1.symm, hsrc⟩
    rw [get_cons] at e
    by_cases q : n = i
    · rw [if_pos q] at e; cases e; exact absurd rfl hk
    · rw [if_neg q] at e; exact e
  rcases hP with ⟨rfl, hp⟩ | ⟨rfl, _, hp⟩
  · exact ⟨led, fin led (fun _ h => h) (R.add (by intro z; cases z) (fun _ h => h) R.nw (hp _ _ p) (hO _ _ p) (x led fun _ h => h) hsy) (by intro z; cases z) fun _ h => .inl h⟩
  · have hs : ∀ q ∈ led, q ∈ (a, o) :: led := fun q hq => .tail _ hq
    refine ⟨(a, o) :: led, fin _ hs (R.add (by intro z; cases z) hs (fun q hq => ?_) (List.Mem.head _) (hO _ _ p) (x _ hs) hsy) (by intro z; cases z) fun q hq => (List.mem_cons.mp hq).elim (fun z => .inr (by rw [z]; exact p)) .inl⟩
    rcases List.mem_cons.mp hq with rfl | hq
    · exact hp _ _ p
    · exact R.nw _ hq
mutual
theorem thaw_sound (hP : OkP h₀ L h k d P) : ∀ (t : T) {v : Value} {α : List Addr} {n : Nat} {H : Hp} {led : List (Addr × Obj)}, TR prog w P d t v → SR prog w h₀ L h α n H led → Off P α H →
    ∃ α' led', Th prog w P h₀ L h α H led α' (thaw k t n H).2.1 (thaw k t n H).2.2 led' ∧ VR α' (thaw k t n H).1 v
  | .none, _, _, _, _, _, x, R, _ => ⟨_, _, Th.refl R, by rw [show _ = Value.none from x]; exact .none⟩
  | .bool b, _, _, _, _, _, x, R, _ => ⟨_, _, Th.refl R, by rw [show _ = Value.bool b from x]; exact .bool b⟩
  | .int i, _, _, _, _, _, ⟨t, x⟩, R, _ => ⟨_, _, Th.refl R, by rw [x]; exact .int i t⟩
  | .fn a, _, _, _, _, _, x, R, _ => ⟨_, _, Th.refl R, by rw [show _ = Value.ref a from x]; exact .fn a⟩
  | .list ts, _, α, n, H, led, ⟨a, its, c, e, p, r⟩, R, hO => by
    subst e
    obtain ⟨α₁, led₁, X, hv⟩ := thaws_sound hP ts r R hO
    show ∃ α' led', Th prog w P h₀ L h α H led α' ((thaws k ts n H).2.1 + 1) (((thaws k ts n H).2.1, k, .list (thaws k ts n H).1) :: (thaws k ts n H).2.2) led' ∧ VR α' (.ref (thaws k ts n H).2.1) (.ref a)
    obtain ⟨led₂, Y⟩ := Th.one X.sr hP (hO.th R X) p (fun led' _ => .list hv) (fun _ z => nomatch z)
    refine ⟨_, led₂, X.trans Y, .ref ?_⟩
    rw [← X.sr.len]; simp
  | .tup ts, _, α, n, H, led, ⟨a, its, c, e, p, r⟩, R, hO => by
    subst e
    obtain ⟨α₁, led₁, X, hv⟩ := thaws_sound hP ts r R hO
    show ∃ α' led', Th prog w P h₀ L h α H led α' ((thaws k ts n H).2.1 + 1) (((thaws k ts n H).2.1, k, .tup (thaws k ts n H).1) :: (thaws k ts n H).2.2) led' ∧ VR α' (.ref (thaws k ts n H).2.1) (.ref a)
    obtain ⟨led₂, Y⟩ := Th.one X.sr hP (hO.th R X) p (fun led' _ => .tup hv) (fun _ z => nomatch z)
    refine ⟨_, led₂, X.trans Y, .ref ?_⟩
    rw [← X.sr.len]; simp
  | .dict es, _, α, n, H, led, ⟨hd, a, xs, es', ep, e, sy, p, q, kk, nd, dr⟩, R, hO => by
    subst e
    rcases hP with ⟨rfl, hp⟩ | ⟨rfl, hd', hp⟩
    · obtain ⟨led₂, Y⟩ := Th.one (k := .base) (d := d) R (.inl ⟨rfl, hp⟩) hO (ao := .dict es) p (fun led' hs => .dict q (fun x hx => let ⟨o, its, c, po, z⟩ := kk x hx; ⟨o, its, c, .inl (hp _ _ po), z⟩) nd dr) (fun _ _ => sy)
      refine ⟨_, led₂, Y, .ref ?_⟩
      rw [← R.len]; simp
    · rw [hd'] at hd; cases hd
theorem thaws_sound (hP : OkP h₀ L h k d P) : ∀ (ts : List T) {vs : List Value} {α : List Addr} {n : Nat} {H : Hp} {led : List (Addr × Obj)}, TRs prog w P d ts vs → SR prog w h₀ L h α n H led → Off P α H →
    ∃ α' led', Th prog w P h₀ L h α H led α' (thaws k ts n H).2.1 (thaws k ts n H).2.2 led' ∧ VRs α' (thaws k ts n H).1 vs
  | [], _, _, _, _, _, x, R, _ => ⟨_, _, Th.refl R, by rw [show _ = [] from x]; exact .nil⟩
  | t :: ts, _, α, n, H, led, ⟨v, r, e, x, y⟩, R, hO => by
    subst e
    obtain ⟨α₁, led₁, X, hv⟩ := thaw_sound hP t x R hO
    obtain ⟨α₂, led₂, Y, hvs⟩ := thaws_sound hP ts y X.sr (hO.th R X)
    exact ⟨α₂, led₂, X.trans Y, .cons (hv.mono Y.le) hvs⟩
end
end
end
end Cat
namespace Cat
open PySem PySem.Calls PyProof.Rows
open PySem.W (Frag nsIn)
noncomputable def opOf : Op → Operator
  | .add => .Add | .sub => .Sub | .mul => .Mult | .div => .FloorDiv | .mod => .Mod | .pow => .Pow | .band => .BitAnd | .shl => .LShift | .shr => .RShift
noncomputable def cmOf : Cm → CmpOp
  | .eq => .Eq | .ne => .NotEq | .lt => .Lt | .le => .LtE | .gt => .Gt | .ge => .GtE
noncomputable def rekd (kd : Str → Option NameKind) (scope : Scope) (y : Str) : Option NameKind :=
  (scope.names.map fun (n, k) => if (k == .free && true && kd n == some .cell) then (n, NameKind.cell) else (n, k)).lookup y
section
variable (K : Frag) (nm : Nat → Str) (N : Nat)
structure CompOk (kd : Str → Option NameKind) (t : Nat) (y : Str) (scope : Scope) : Prop where
  hr : nsIn K mainGlobals "range" = some none
  hkd : kd "range" = some .globalImplicit
  hy : nm t = y
  ht : t < N
  hnc : (scope.names.all fun z => z.2 != .cell) = true
  hki : scope.kind = .function
  hloc : (scope.names.all fun z => z.2 != .local || scope.names.lookup z.1 == some .local) = true
  hlk : scope.names.lookup y = some .local
  hfree : (scope.names.all fun z => z.2 != .free || kd z.1 == some .cell) = true
mutual
inductive ME : (Str → Option NameKind) → X → Expr → Prop
  | lit {kd : Str → Option NameKind} {i : Int} {k : Nat} {p : Pos} : ME kd (.lit i) (.Constant (.int i) k p)
  | bl {kd : Str → Option NameKind} {b : Bool} {k : Nat} {p : Pos} : ME kd (.bl b) (.Constant (.bool b) k p)
  | loc {kd : Str → Option NameKind} {x : Nat} {y : Str} {p : Pos} : nm x = y → kd y = some .local → (y == ("__debug__" : Str)) = false → ME kd (.loc x) (.Name y p)
  | cel {kd : Str → Option NameKind} {x : Nat} {y : Str} {p : Pos} : nm x = y → kd y = some .cell → (y == ("__debug__" : Str)) = false → ME kd (.cel x) (.Name y p)
  | fn {kd : Str → Option NameKind} {a : Nat} {y : Str} {p : Pos} : nsIn K mainGlobals y = some (some (.ref a)) → kd y = some .globalImplicit → (y == ("__debug__" : Str)) = false → ME kd (.fn a) (.Name y p)
  | bin {kd : Str → Option NameKind} {o : Op} {op : Operator} {a b : X} {ea eb : Expr} {p : Pos} : opOf o = op → ME kd a ea → ME kd b eb → ME kd (.bin o a b) (.BinOp ea op eb p)
  | neg {kd : Str → Option NameKind} {a : X} {ea : Expr} {p : Pos} : ME kd a ea → ME kd (.neg a) (.UnaryOp .USub ea p)
  | cmp {kd : Str → Option NameKind} {c : Cm} {op : CmpOp} {a b : X} {ea eb : Expr} {p : Pos} : cmOf c = op → ME kd a ea → ME kd b eb → ME kd (.cmp c a b) (.Compare ea [op] [eb] p)
  | ite {kd : Str → Option NameKind} {c : Cm} {op : CmpOp} {l r a b : X} {el er ea eb : Expr} {p p' : Pos} : cmOf c = op → ME kd l el → ME kd r er → ME kd a ea → ME kd b eb → ME kd (.ite c l r a b) (.IfExp (.Compare el [op] [er] p) ea eb p')
  | idx {kd : Str → Option NameKind} {a i : X} {ea ei : Expr} {p : Pos} : (∀ o v, subscripted ei false o v = operate [o, v] (getItem o v)) → ME kd a ea → ME kd i ei → ME kd (.idx a i) (.Subscript ea ei p)
  | slTo {kd : Str → Option NameKind} {x : Nat} {y : Str} {hi : X} {eh : Expr} {p q r : Pos} : ME kd (.loc x) (.Name y r) → ME kd hi eh → ME kd (.slTo (.loc x) hi) (.Subscript (.Name y r) (.Slice none (some eh) none p) q)
  | slFrom {kd : Str → Option NameKind} {x : Nat} {y : Str} {lo : X} {el : Expr} {p q r : Pos} : ME kd (.loc x) (.Name y r) → ME kd lo el → ME kd (.slFrom (.loc x) lo) (.Subscript (.Name y r) (.Slice (some el) none none p) q)
  | rev {kd : Str → Option NameKind} {x k : Nat} {y : Str} {p q r p₁ p₂ : Pos} : ME kd (.loc x) (.Name y r) → ME kd (.rev (.loc x)) (.Subscript (.Name y r) (.Slice none none (some (.UnaryOp .USub (.Constant (.int 1) k p₁) p₂)) p) q)
  | len {kd : Str → Option NameKind} {a : X} {ea : Expr} {p q : Pos} : nsIn K mainGlobals "len" = some none → kd "len" = some .globalImplicit → ME kd a ea → ME kd (.len a) (.Call (.Name "len" p) [ea] [] q)
  | sum {kd : Str → Option NameKind} {a : X} {ea : Expr} {p q : Pos} : nsIn K mainGlobals "sum" = some none → kd "sum" = some .globalImplicit → ME kd a ea → ME kd (.sum a) (.Call (.Name "sum" p) [ea] [] q)
  | min {kd : Str → Option NameKind} {a b : X} {ea eb : Expr} {p q : Pos} : nsIn K mainGlobals "min" = some none → kd "min" = some .globalImplicit → ME kd a ea → ME kd b eb → ME kd (.min a b) (.Call (.Name "min" p) [ea, eb] [] q)
  | call {kd : Str → Option NameKind} {f a : X} {as : List X} {y : Str} {e : Expr} {es : List Expr} {p q : Pos} : ME kd f (.Name y p) → ME kd a e → MEs kd as es → ME kd (.call f (a :: as)) (.Call (.Name y p) (e :: es) [] q)
  | get {kd : Str → Option NameKind} {x k : Nat} {y : Str} {k1 k2 df : X} {e1 e2 ed : Expr} {p q r t : Pos} : (r.endLine == t.line) = true → ME kd (.loc x) (.Name y p) → ME kd k1 e1 → ME kd k2 e2 → ME kd df ed →
      ME kd (.get (.loc x) k1 k2 df) (.Call (.Attribute (.Name y p) "get" r) [.Tuple [e1, e2] k q, ed] [] t)
  | dix {kd : Str → Option NameKind} {x k : Nat} {y : Str} {k1 k2 : X} {e1 e2 : Expr} {p q r : Pos} : ME kd (.cel x) (.Name y p) → ME kd k1 e1 → ME kd k2 e2 → ME kd (.dix (.cel x) k1 k2) (.Subscript (.Name y p) (.Tuple [e1, e2] k q) r)
  | list {kd : Str → Option NameKind} {as : List X} {es : List Expr} {p : Pos} : MEs kd as es → ME kd (.list as) (.List es p)
  | tup {kd : Str → Option NameKind} {as : List X} {es : List Expr} {k : Nat} {p : Pos} : MEs kd as es → ME kd (.tup as) (.Tuple es k p)
  | comp {kd : Str → Option NameKind} {a n : X} {t : Nat} {y : Str} {ea en : Expr} {scope : Scope} {p q r u : Pos} : CompOk K nm N kd t y scope → ME (rekd kd scope) a ea → ME kd n en → ME kd (.comp a t n) (.ListComp ea [⟨.Name y p, .Call (.Name "range" q) [en] [] r, [], 0⟩] scope u)
inductive MEs : (Str → Option NameKind) → List X → List Expr → Prop
  | nil {kd : Str → Option NameKind} : MEs kd [] []
  | cons {kd : Str → Option NameKind} {a : X} {as : List X} {e : Expr} {es : List Expr} : ME kd a e → MEs kd as es → MEs kd (a :: as) (e :: es)
end
inductive MB : (Str → Option NameKind) → B → Expr → Prop
  | cmp {kd : Str → Option NameKind} {c : Cm} {op : CmpOp} {a b : X} {ea eb : Expr} {p : Pos} : cmOf c = op → ME K nm N kd a ea → ME K nm N kd b eb → MB kd (.cmp c a b) (.Compare ea [op] [eb] p)
  | and {kd : Str → Option NameKind} {a b : B} {ea eb : Expr} {p : Pos} : MB kd a ea → MB kd b eb → MB kd (.and a b) (.BoolOp .And [ea, eb] p)
  | val {kd : Str → Option NameKind} {x i : X} {ex ei : Expr} {p : Pos} : (∀ o v, subscripted ei false o v = operate [o, v] (getItem o v)) → ME K nm N kd x ex → ME K nm N kd i ei → MB kd (.val (.idx x i)) (.Subscript ex ei p)
end
section
variable {K : Frag} {nm : Nat → Str} {N : Nat} {kd : Str → Option NameKind}
noncomputable def plainB : Expr → Bool
  | .Starred _ _ => false
  | .Set _ _ _ => false
  | _ => true
theorem ME.plain {x : X} {e : Expr} (h : ME K nm N kd x e) : plainB e = true := by
  refine ME.casesOn (motive_1 := fun _ _ e _ => plainB e = true) h ?_ ?_ ?_ ?_ ?_ ?_ ?_ ?_ ?_ ?_ ?_ ?_ ?_ ?_ ?_ ?_ ?_ ?_ ?_ ?_ ?_ ?_ <;> (intros; rfl)
theorem star_plain {e : Expr} (h : plainB e = true) (rest : List Expr) (env : Env) : starEach (e :: rest) env = (false, eval e env) :: starEach rest env := by
  cases e <;> first | rfl | cases h
theorem set_plain {e : Expr} (h : plainB e = true) (env : Env) (v : Value) : foldedSetIterable e env v = pure v := by
  cases e <;> first | rfl | cases h
theorem ME.star {x : X} {e : Expr} (h : ME K nm N kd x e) (rest : List Expr) (env : Env) : starEach (e :: rest) env = (false, eval e env) :: starEach rest env := star_plain h.plain rest env
theorem ME.noSet {x : X} {e : Expr} (h : ME K nm N kd x e) (env : Env) (v : Value) : foldedSetIterable e env v = pure v := set_plain h.plain env v
theorem noMarks (c : Cm) (e : Expr) : behindInMarks (cmOf c) e = false := by
  cases e <;> first | rfl | (cases c <;> simp [behindInMarks, cmOf] <;> (intros; first | decide | rfl))
theorem boot_len' : bootBuiltins "len" = some (.builtin "len") := by boot_fast
theorem boot_sum' : bootBuiltins "sum" = some (.builtin "sum") := by boot_fast
theorem boot_min' : bootBuiltins "min" = some (.builtin "min") := by boot_fast
theorem boot_range' : bootBuiltins "range" = some (.type "range") := by boot_fast
theorem boot_enum' : bootBuiltins "enumerate" = some (.type "enumerate") := by boot_fast
end
end Cat
namespace Cat
open PySem PySem.Calls PyProof.Rows
open PySem.W (Frag nsIn mg_of mg_none_of)
structure Cfg where
  prog : Program
  w : World
  K : Frag
  p : Program
  loose : List Str
  mean : ExcName → Option Value
  mg : Str → Option Value
  mb : Str → Option Value
  nm : Nat → Str
  N : Nat
structure Gd (C : Cfg) (n : Nat) (A : Around) (h₀ : Heap) (L : Addr) : Prop where
  fr : ∃ fenv outer A₀ base, A.frames = some (fenv :: outer) ∧ fenv.frame = some L ∧ fenv.scope.kind = .function ∧ Below A₀ base outer h₀
  inK : C.K.In h₀
  top : Top C.p C.loose C.mean C.mg C.mb h₀
  hnd : A.handled = none
  room : A.depth + n < 900
  units : A.units + 4 * n < 9000
  inj : ∀ i j, i < C.N → j < C.N → C.nm i = C.nm j → i = j
theorem Gd.less {C : Cfg} {n k : Nat} {A : Around} {h₀ : Heap} {L : Addr} (G : Gd C n A h₀ L) (h : k ≤ n) : Gd C k A h₀ L :=
  ⟨G.fr, G.inK, G.top, G.hnd, by have := G.room; omega, by have := G.units; omega, G.inj⟩
structure EnvOk (C : Cfg) (env : Env) (kd : Str → Option NameKind) (α : List Addr) (cl : Cl) : Prop where
  kind : env.scope.kind = .function
  kof : ∀ x, env.kindOf x = kd x
  glo : env.globals = mainGlobals
  bui : env.builtins = builtinsNs
  cel : ∀ x i, get cl x = some i → kd (C.nm x) = some .cell → ∃ c, env.cells.lookup (C.nm x) = some c ∧ α[i]? = some c
  has : ∀ y, kd y = some .cell → ∃ c, env.cells.lookup y = some c
theorem EnvOk.mono {C : Cfg} {env : Env} {kd : Str → Option NameKind} {α β : List Addr} {cl : Cl} (x : EnvOk C env kd α cl) (h : Le α β) : EnvOk C env kd β cl :=
  ⟨x.kind, x.kof, x.glo, x.bui, fun y i e k => let ⟨c, e1, e2⟩ := x.cel y i e k; ⟨c, e1, h _ _ e2⟩, x.has⟩
noncomputable def NsAt (L : Addr) (m : Str → Option Value) (led : List (Addr × Obj)) (env : Env) (mm : Str → Option Value) : Prop :=
  (env.locals = L ∧ mm = m) ∨ ∃ oC, (env.locals, oC) ∈ led ∧ LCg.NsObj oC mm
theorem NsAt.mono {L : Addr} {m : Str → Option Value} {led led' : List (Addr × Obj)} {env : Env} {mm : Str → Option Value} (x : NsAt L m led env mm) (hs : ∀ p ∈ led, p ∈ led') : NsAt L m led' env mm :=
  x.imp id fun ⟨o, h, r⟩ => ⟨o, hs _ h, r⟩
theorem NsAt.ns {h₀ h : Heap} {L : Addr} {m : Str → Option Value} {led : List (Addr × Obj)} {env : Env} {mm : Str → Option Value} (x : NsAt L m led env mm) (F : Fr h₀ L h m) (N : News h₀ L h led) : h.Ns env.locals mm := by
  rcases x with ⟨e, rfl⟩ | ⟨o, ho, r⟩
  · rw [e]; exact F.ns
  · exact r.ns (N _ ho).1
noncomputable def LR (C : Cfg) (α : List Addr) (loc : Loc) (mm : Str → Option Value) : Prop := ∀ x av, get loc x = some av → x < C.N ∧ ∃ v, mm (C.nm x) = some v ∧ VR α av v
theorem LR.mono {C : Cfg} {α β : List Addr} {loc : Loc} {mm : Str → Option Value} (x : LR C α loc mm) (h : Le α β) : LR C β loc mm := fun y av e => let ⟨a, v, b, c⟩ := x y av e; ⟨a, v, b, c.mono h⟩
structure Sit (C : Cfg) (n : Nat) (A : Around) (h₀ : Heap) (L : Addr) (m : Str → Option Value) (env : Env) (kd : Str → Option NameKind) (cl : Cl) (mm : Str → Option Value) (aux : List (Addr × Obj)) (st : St) (α : List Addr) (led : List (Addr × Obj)) (h : Heap) : Prop where
  gd : Gd C n A h₀ L
  en : EnvOk C env kd α cl
  ns : NsAt L m aux env mm
  lr : LR C α st.loc mm
  fr : Fr h₀ L h m
  sr : SR C.prog C.w h₀ L h α st.n st.H led
  ax : News h₀ L h aux
  off : ∀ p ∈ aux, ∀ q ∈ led, q.1 ≠ p.1
structure Nx (α : List Addr) (led : List (Addr × Obj)) (α' : List Addr) (led' : List (Addr × Obj)) : Prop where
  le : Le α α'
theorem Nx.refl (α : List Addr) (led : List (Addr × Obj)) : Nx α led α led := ⟨Le.refl _⟩
theorem Nx.trans {α α₁ α₂ : List Addr} {led led₁ led₂ : List (Addr × Obj)} (x : Nx α led α₁ led₁) (y : Nx α₁ led₁ α₂ led₂) : Nx α led α₂ led₂ := ⟨x.le.trans y.le⟩
section
variable {C : Cfg} {n : Nat} {A : Around} {h₀ : Heap} {L : Addr} {m : Str → Option Value} {env : Env} {kd : Str → Option NameKind} {cl : Cl} {mm : Str → Option Value} {aux : List (Addr × Obj)} {st st' : St} {α : List Addr} {led : List (Addr × Obj)} {s : Shared}
noncomputable def PE (C : Cfg) (n : Nat) (A : Around) (h₀ : Heap) (L : Addr) (m : Str → Option Value) (env : Env) (kd : Str → Option NameKind) (cl : Cl) (mm : Str → Option Value) (aux : List (Addr × Obj)) (st' : St) (α : List Addr) (led : List (Addr × Obj)) (s : Shared) (P : List Addr → Prop) (s' : Shared) : Prop :=
  ∃ h' tk α' led', s' = { s with heap := h', toks := tk } ∧ Sit C n A h₀ L m env kd cl mm aux st' α' led' h' ∧ Nx α led α' led' ∧ P α'
theorem PE.lift {P : List Addr → Prop} {α' : List Addr} {led' : List (Addr × Obj)} {h' : Heap} {tk : Nat} {s' : Shared} (x : PE C n A h₀ L m env kd cl mm aux st' α' led' { s with heap := h', toks := tk } P s') (y : Nx α led α' led') : PE C n A h₀ L m env kd cl mm aux st' α led s P s' := by
  obtain ⟨h2, tk2, α2, led2, e, S, nx, q⟩ := x
  exact ⟨h2, tk2, α2, led2, e, S, y.trans nx, q⟩
theorem PE.now {P : List Addr → Prop} (S : Sit C n A h₀ L m env kd cl mm aux st α led s.heap) (h : P α) (tk : Nat) : PE C n A h₀ L m env kd cl mm aux st α led s P { s with toks := tk } :=
  ⟨s.heap, tk, α, led, rfl, S, Nx.refl _ _, h⟩
theorem PE.mono {P Q : List Addr → Prop} {s' : Shared} (x : PE C n A h₀ L m env kd cl mm aux st' α led s P s') (h : ∀ β, P β → Q β) : PE C n A h₀ L m env kd cl mm aux st' α led s Q s' := by
  obtain ⟨h2, tk2, α2, led2, e, S, nx, q⟩ := x
  exact ⟨h2, tk2, α2, led2, e, S, nx, h _ q⟩
theorem Sit.grow (S : Sit C n A h₀ L m env kd cl mm aux st α led s.heap) {h' : Heap} (k : ∀ b o, s.heap.get? b = some o → h'.get? b = some o) : Sit C n A h₀ L m env kd cl mm aux st α led h' :=
  ⟨S.gd, S.en, S.ns, S.lr, S.fr.grownK k, S.sr.grow k, S.ax.grown k, S.off⟩
theorem Sit.news (S : Sit C n A h₀ L m env kd cl mm aux st α led s.heap) : News h₀ L s.heap (aux ++ led) := fun p hp => (List.mem_append.mp hp).elim (S.ax p) (S.sr.nw p)
theorem Sit.low (S : Sit C n A h₀ L m env kd cl mm aux st α led s.heap) : ∀ p ∈ aux ++ led, p.1 ≠ s.heap.objs.size := fun p hp => Nat.ne_of_lt (Heap.lt_size (S.news p hp).1)
theorem Sit.listAt (S : Sit C n A h₀ L m env kd cl mm aux st α led s.heap) {i : Nat} {a : Addr} {k : Kd} {xs : List AV} (e : get st.H i = some (k, .list xs)) (ea : α[i]? = some a) :
    ∃ its c, s.heap.get? a = some { cls := .type "list", data := .seq its c } ∧ VRs α xs its.toList := by
  obtain ⟨b, o, h1, h2, h3⟩ := S.sr.at_ S.fr e
  rw [ea] at h1; cases h1
  cases h3 with
  | list x => exact ⟨_, _, h2, x⟩
theorem Sit.tupAt (S : Sit C n A h₀ L m env kd cl mm aux st α led s.heap) {i : Nat} {a : Addr} {k : Kd} {xs : List AV} (e : get st.H i = some (k, .tup xs)) (ea : α[i]? = some a) :
    ∃ its c, s.heap.get? a = some { cls := .type "tuple", data := .seq its c } ∧ VRs α xs its.toList := by
  obtain ⟨b, o, h1, h2, h3⟩ := S.sr.at_ S.fr e
  rw [ea] at h1; cases h1
  cases h3 with
  | tup x => exact ⟨_, _, h2, x⟩
theorem fresh_of (S : Sit C n A h₀ L m env kd cl mm aux st α led s.heap) {D : Addr} (h0 : h₀.get? D = none) (hl : ∀ p ∈ led, p.1 ≠ D) (i : Nat) (x : Kd × AO) (ex : get st.H i = some x) : α[i]? ≠ some D := fun e => by
  obtain ⟨a, o, h1, h2, _⟩ := S.sr.obj i x.1 x.2 ex
  rw [e] at h1; cases h1
  revert h2
  cases x.1 with
  | base => intro q; have q : h₀.get? D = some o := q; rw [h0] at q; cases q
  | froz => intro q; exact hl _ q rfl
  | own => intro q; exact hl _ q rfl
theorem PE.alloc (S : Sit C n A h₀ L m env kd cl mm aux st α led s.heap) {D : Addr} {o : Obj} {ao : AO} {h' : Heap} {tk : Nat} (F : Fr h₀ L h' m) (N : News h₀ L h' ((D, o) :: (aux ++ led))) (hl : ∀ p ∈ aux ++ led, p.1 ≠ D) (x : OR C.prog C.w h₀ led α ao o) (hsy : ∀ es, ao ≠ .dict es := by intro _ z; cases z) :
    PE C n A h₀ L m env kd cl mm aux (Cat.alloc st .own ao).2 α led s (fun β => VR β (Cat.alloc st .own ao).1 (.ref D)) { s with heap := h', toks := tk } := by
  have h0 := (N _ (List.Mem.head _)).2.2
  have N₁ : News h₀ L h' ((D, o) :: led) := fun p hp => N p ((List.mem_cons.mp hp).elim (fun z => z ▸ List.Mem.head _) fun z => .tail _ (List.mem_append.mpr (.inr z)))
  refine ⟨h', tk, α ++ [D], (D, o) :: led, rfl, ⟨S.gd, S.en.mono (Le.snoc _ _), S.ns, S.lr.mono (Le.snoc _ _), F, S.sr.alloc (by intro z; cases z) N₁ (fresh_of S h0 fun p hp => hl p (List.mem_append.mpr (.inr hp))) x (fun es z => (hsy es z).elim),
    fun p hp => N p (.tail _ (List.mem_append.mpr (.inl hp))), fun p hp q hq => ?_⟩, ⟨Le.snoc _ _⟩, .ref ?_⟩
  · rcases List.mem_cons.mp hq with rfl | hq
    · exact (hl p (List.mem_append.mpr (.inl hp))).symm
    · exact S.off p hp q hq
  · rw [← S.sr.len]; simp
theorem PE.push (S : Sit C n A h₀ L m env kd cl mm aux st α led s.heap) {o : Obj} {ao : AO} {tk : Nat} (hf : o.isFreed = false) (x : OR C.prog C.w h₀ led α ao o) (hsy : ∀ es, ao ≠ .dict es := by intro _ z; cases z) :
    PE C n A h₀ L m env kd cl mm aux (Cat.alloc st .own ao).2 α led s (fun β => VR β (Cat.alloc st .own ao).1 (.ref s.heap.objs.size)) { s with heap := s.heap.push o, toks := tk } :=
  PE.alloc S (S.fr.push o) (S.news.push S.fr o hf) S.low x hsy
theorem cps {G : Prop} (h : ∀ P : Prop, (G → P) → P) : G := h G id
theorem fin2 {α β : Type} {a c : α} {b d : β} {G : α → β → Prop} (e : some (a, b) = some (c, d)) (h : G a b) : G c d := by
  cases e
  exact h
theorem fin3 {α β : Type} {p : α × β} {c : α} {d : β} {G : α → β → Prop} (e : some p = some (c, d)) (h : G p.1 p.2) : G c d := by
  cases e
  exact h
noncomputable def FF : Value → Shared → Prop := fun _ _ => False
noncomputable def GE (C : Cfg) (k : Nat) (A : Around) (h₀ : Heap) (L : Addr) (m : Str → Option Value) (env : Env) (kd : Str → Option NameKind) (cl : Cl) (mm : Str → Option Value) (aux : List (Addr × Obj)) (α : List Addr) (led : List (Addr × Obj)) (s : Shared) (e : Expr) (v : AV) (st' : St) : Prop :=
  wpAny (model C.prog C.w) A (eval e env) (fun v' s' => PE C k A h₀ L m env kd cl mm aux st' α led s (fun β => VR β v v') s') FF s
noncomputable def SndE (C : Cfg) (n : Nat) (f : Cl → X → St → Option (AV × St)) : Prop :=
  ∀ {k : Nat} {A : Around} {h₀ : Heap} {L : Addr} {m : Str → Option Value} {env : Env} {kd : Str → Option NameKind} {cl : Cl} {mm : Str → Option Value} {aux : List (Addr × Obj)} {st st' : St} {α : List Addr} {led : List (Addr × Obj)} {s : Shared} {x : X} {e : Expr} {v : AV},
    n ≤ k → f cl x st = some (v, st') → ME C.K C.nm C.N kd x e → Sit C k A h₀ L m env kd cl mm aux st α led s.heap →
    GE C k A h₀ L m env kd cl mm aux α led s e v st'
theorem SndE.one {f : Cl → X → St → Option (AV × St)} {k : Nat} (hE : SndE C k f) (hk : k ≤ n) {a : X} {ea : Expr} {st₁ : St} {u : AV} (h1 : f cl a st = some (u, st₁)) (ma : ME C.K C.nm C.N kd a ea)
    (S : Sit C n A h₀ L m env kd cl mm aux st α led s.heap) {Q : Value → Shared → Prop} {E : Value → Shared → Prop}
    (h : ∀ u' h' tk α' led', Sit C n A h₀ L m env kd cl mm aux st₁ α' led' h' → Nx α led α' led' → VR α' u u' → Q u' { s with heap := h', toks := tk }) :
    wpAny (model C.prog C.w) A (eval ea env) Q E s := by
  refine wpAny_mono (hE hk h1 ma S) (fun u' s₁ q => ?_) (fun _ _ f => f.elim)
  obtain ⟨h', tk, α₁, led₁, rfl, S₁, nx₁, hu⟩ := q
  exact h u' h' tk α₁ led₁ S₁ nx₁ hu
theorem SndE.two {f : Cl → X → St → Option (AV × St)} {k : Nat} (hE : SndE C k f) (hk : k ≤ n) {a b : X} {ea eb : Expr} {st₁ st₂ : St} {u v : AV} (h1 : f cl a st = some (u, st₁)) (h2 : f cl b st₁ = some (v, st₂)) (ma : ME C.K C.nm C.N kd a ea) (mb : ME C.K C.nm C.N kd b eb)
    (S : Sit C n A h₀ L m env kd cl mm aux st α led s.heap) {Q : Value → Value → Shared → Prop} {E : Value → Shared → Prop}
    (h : ∀ u' v' h' tk α' led', Sit C n A h₀ L m env kd cl mm aux st₂ α' led' h' → Nx α led α' led' → VR α' u u' → VR α' v v' → Q u' v' { s with heap := h', toks := tk }) :
    wpAny (model C.prog C.w) A (eval ea env) (fun u' s₁ => wpAny (model C.prog C.w) A (eval eb env) (fun v' s₂ => Q u' v' s₂) E s₁) E s := by
  refine hE.one hk h1 ma S fun u' h' tk α₁ led₁ S₁ nx₁ hu => ?_
  refine hE.one hk h2 mb S₁ fun v' h2' tk2 α₂ led₂ S₂ nx₂ hv => ?_
  exact h u' v' h2' tk2 α₂ led₂ S₂ (nx₁.trans nx₂) (hu.mono nx₂.le) hv
theorem sm_lt {a : Int} (h : sm a = true) : a.natAbs < 2 ^ 64 := by
  have := Nat.le_of_ble_eq_true (show Nat.ble (a.natAbs + 1) 18446744073709551616 = true from h)
  show a.natAbs < 18446744073709551616
  omega
theorem neg_ge {a : Int} (h : neg? a = false) : 0 ≤ a := by
  cases a with
  | ofNat n => exact Int.natCast_nonneg n
  | negSucc n => cases h
theorem zero_ne {a : Int} (h : zero? a = false) : a ≠ 0 := by
  rintro rfl
  cases h
theorem ble_le {a b : Nat} (h : Nat.ble a b = true) : a ≤ b := Nat.le_of_ble_eq_true h
theorem binI_sound {o : Op} {a b c : Int} {t u : Tok} (e : binI o a b = some c) {Q : Value → Shared → Prop} (h : ∀ t, Q (.int c t) { s with toks := s.toks + 1 }) :
    wpAny (model C.prog C.w) A (binaryOp (opOf o) (.int a t) (.int b u)) Q FF s := by
  cases o with
  | add => cases e; exact P.add_int (h _)
  | sub => cases e; exact P.sub_int (h _)
  | mul =>
    refine elB e fun q e => ?_
    cases e
    exact P.mul_int (h _) (IntMulOk.of_left (intBits_le_64 (by have := sm_lt q; omega) (by have := sm_lt q; omega)))
  | div =>
    refine elX e fun q e => elB e fun q2 e => ?_
    cases e
    exact floordiv_int (zero_ne q) (h _) (.inl (PyProof.noPylong_small (Nat.le_of_ble_eq_true q2)))
  | mod =>
    refine elX e fun q e => ?_
    cases e
    exact PyProof.Rows.mod_int (zero_ne q) (h _)
  | pow =>
    refine elX e fun q1 e => elB e fun q2 e => elB e fun q3 e => ?_
    cases e
    exact pow_int_small (neg_ge q1) (by have := neg_ge q1; have := ble_le q2; omega) (sm_lt q3) (h _)
  | band => cases e; exact PyProof.Rows.and_int (h _)
  | shl =>
    refine elX e fun q1 e => elB e fun q2 e => elB e fun q3 e => ?_
    cases e
    exact lshift_int_small (neg_ge q1) (by have := neg_ge q1; have := ble_le q2; omega) (sm_lt q3) (h _)
  | shr =>
    refine elX e fun q e => ?_
    cases e
    exact PyProof.Rows.rshift_int (neg_ge q) (h _)
theorem cmI_sound {c : Cm} {a b : Int} {t u : Tok} {Q : Value → Shared → Prop} (h : Q (.bool (cmI c a b)) s) : wpAny (model C.prog C.w) A (compareOp (cmOf c) (.int a t) (.int b u)) Q FF s := by
  cases c with
  | eq => exact P.eq_int h
  | ne => exact P.ne_int h
  | lt => exact P.lt_int h
  | le => exact P.le_int h
  | gt => exact P.gt_int h
  | ge => exact P.ge_int h
end
end Cat
namespace Cat
open PySem PySem.Calls PyProof.Rows
open PySem.W (Frag nsIn mg_of mg_none_of topRead_of)
section
variable {C : Cfg} {n : Nat} {A : Around} {h₀ : Heap} {L : Addr} {m : Str → Option Value} {env : Env} {kd : Str → Option NameKind} {cl : Cl} {mm : Str → Option Value} {aux : List (Addr × Obj)} {st st' : St} {α : List Addr} {led : List (Addr × Obj)} {s : Shared}
theorem name_loc {x : Nat} {y : Str} {p : Pos} {v : AV} (e : get st.loc x = some v) (h1 : C.nm x = y) (h2 : kd y = some .local) (h3 : (y == ("__debug__" : Str)) = false) (S : Sit C n A h₀ L m env kd cl mm aux st α led s.heap) {Q : Value → Shared → Prop}
    (h : ∀ v', VR α v v' → Q v' s) : wpAny (model C.prog C.w) A (eval (.Name y p) env) Q FF s := by
  obtain ⟨_, v', hv, hr⟩ := S.lr x v e
  subst h1
  exact wpAny_Name (wpAny_loadName_local S.en.kind ((S.en.kof _).trans h2) (S.ns.ns S.fr S.ax) hv (h v' hr)) h3
theorem name_cel {x i : Nat} {y : Str} {p : Pos} {v : AV} {k : Kd} (e : get cl x = some i) (ei : get st.H i = some (k, .cell (some v))) (h1 : C.nm x = y) (h2 : kd y = some .cell) (h3 : (y == ("__debug__" : Str)) = false) (S : Sit C n A h₀ L m env kd cl mm aux st α led s.heap) {Q : Value → Shared → Prop}
    (h : ∀ v', VR α v v' → Q v' s) : wpAny (model C.prog C.w) A (eval (.Name y p) env) Q FF s := by
  subst h1
  obtain ⟨c, hc, hα⟩ := S.en.cel x i e h2
  obtain ⟨a, o, q1, q2, q3⟩ := S.sr.at_ S.fr ei
  rw [hα] at q1; cases q1
  cases q3 with
  | cell1 hd hr => exact wpAny_Name (wpAny_loadName_cell S.en.kind ((S.en.kof _).trans h2) hc ⟨o, q2, hd⟩ (h _ hr)) h3
theorem name_fn {a : Nat} {y : Str} {p : Pos} (h1 : nsIn C.K mainGlobals y = some (some (.ref a))) (h2 : kd y = some .globalImplicit) (h3 : (y == ("__debug__" : Str)) = false) (S : Sit C n A h₀ L m env kd cl mm aux st α led s.heap) {Q : Value → Shared → Prop}
    (h : Q (.ref a) s) : wpAny (model C.prog C.w) A (eval (.Name y p) env) Q FF s := by
  exact Name_function_global S.en.kind ((S.en.kof _).trans h2) (loadGlobal_global (by rw [S.en.glo]; exact S.gd.top.g.keeps S.fr.keep) (mg_of S.gd.inK S.gd.top.g h1) h) h3
theorem name_bn {y : Str} {p : Pos} {v : Value} (h1 : nsIn C.K mainGlobals y = some none) (h2 : kd y = some .globalImplicit) (hb : bootBuiltins y = some v) (hn : y ≠ "__name__") (hd : (y == ("__debug__" : Str)) = false) (S : Sit C n A h₀ L m env kd cl mm aux st α led s.heap) {Q : Value → Shared → Prop}
    (h : Q v s) : wpAny (model C.prog C.w) A (eval (.Name y p) env) Q FF s :=
  Name_function_global S.en.kind ((S.en.kof _).trans h2) (loadGlobal_builtin (by rw [S.en.glo]; exact S.gd.top.g.keeps S.fr.keep) (mg_none_of S.gd.inK S.gd.top.g h1) (by rw [S.en.bui]; exact S.gd.top.b.keeps S.fr.keep) ((S.gd.top.builtins _ hn).trans hb) h) hd
theorem lst_inv {v : AV} {i : Nat} {k : Kd} {xs : List AV} (e : lst? st v = some (i, k, xs)) : v = .ref i ∧ get st.H i = some (k, .list xs) ∧ xs.length ≤ 100000 := by
  obtain ⟨i', rfl, e⟩ := wR e
  refine elP e fun k a h e => ?_
  obtain ⟨xs', rfl, e⟩ := bLx e
  refine elB e fun b e => ?_
  cases e
  exact ⟨rfl, h, by rw [← len_eq]; exact ble_le b⟩
theorem size_line {k : Nat} (h : k ≤ 200000) : k ≤ sizeLine := by show k ≤ 2 ^ 24; omega
theorem lst_at {v : AV} {x : Value} {i : Nat} {k : Kd} {xs : List AV} (e : lst? st v = some (i, k, xs)) (hv : VR α v x) (S : Sit C n A h₀ L m env kd cl mm aux st α led s.heap) :
    ∃ a its c, x = .ref a ∧ α[i]? = some a ∧ s.heap.get? a = some { cls := .type "list", data := .seq its c } ∧ VRs α xs its.toList ∧ its.size ≤ 100000 := by
  obtain ⟨rfl, e1, e2⟩ := lst_inv e
  cases hv with
  | ref ha =>
    obtain ⟨its, c, h1, h2⟩ := S.listAt e1 ha
    exact ⟨_, its, c, rfl, ha, h1, h2, by rw [← Array.length_toList, ← h2.length]; exact e2⟩
theorem foldl_rep (n : Nat) (its acc : Array Value) : (List.foldl (fun x1 x2 => x1 ++ x2) acc (List.replicate n its)).toList = acc.toList ++ (List.replicate n its.toList).flatten := by
  induction n generalizing acc with
  | zero => simp
  | succ n ih => rw [List.replicate_succ, List.foldl_cons, ih, List.replicate_succ, List.flatten_cons, Array.toList_append, List.append_assoc]
theorem repL_nil {α : Type} (n : Nat) : repL n ([] : List α) = [] := by
  induction n with
  | zero => rfl
  | succ n ih => exact ih
theorem rep_nil (n : Nat) : (List.replicate n ([] : List Value)).flatten = [] := by
  induction n with
  | zero => rfl
  | succ n ih => rw [List.replicate_succ, List.flatten_cons, ih]; rfl
theorem rep_sound {j : Int} {xs : List AV} {a₁ : Addr} {its₁ : Array Value} {c₁ : Nat} {t' : Tok} (q1 : neg? j = false) (q2 : Nat.ble (len xs * j.toNat) 100000 = true) (q3 : Nat.ble j.toNat 100000 = true) (g₁ : s.heap.get? a₁ = some { cls := .type "list", data := .seq its₁ c₁ })
    (r₁ : VRs α xs its₁.toList) (S : Sit C n A h₀ L m env kd cl mm aux st α led s.heap) :
    wpAny (model C.prog C.w) A (binaryOp (opOf .mul) (.ref a₁) (.int j t')) (fun v' s' => PE C n A h₀ L m env kd cl mm aux (alloc st .own (.list (repL j.toNat xs))).2 α led s (fun β => VR β (alloc st .own (.list (repL j.toNat xs))).1 v') s') FF s := by
  have n0 := neg_ge q1
  have n1 := ble_le q3
  refine mul_list S.fr S.news g₁ (by omega) (by omega) ?_ (fun h' F' N' => PE.alloc S F' N' S.low (.list ?_))
  · have := ble_le q2
    rw [len_eq, r₁.length, Array.length_toList] at this
    omega
  · by_cases hz : its₁.isEmpty = true
    · rw [if_pos hz]
      have : its₁ = #[] := by simpa using hz
      subst this
      cases r₁
      rw [repL_nil]
      exact .nil
    · rw [if_neg hz]
      have := r₁.repL j.toNat
      rw [foldl_rep]
      simpa using this
theorem binV_sound {o : Op} {a b v : AV} {x y : Value} (e : binV o a b st = some (v, st')) (ha : VR α a x) (hb : VR α b y) (S : Sit C n A h₀ L m env kd cl mm aux st α led s.heap) :
    wpAny (model C.prog C.w) A (binaryOp (opOf o) x y) (fun v' s' => PE C n A h₀ L m env kd cl mm aux st' α led s (fun β => VR β v v') s') FF s := by
  refine el3 e (fun i j qa qb e => ?_) (fun i j qa qb e => ?_) (fun i j qa qb e => ?_)
  · subst qa; subst qb
    obtain ⟨t, rfl⟩ := ha.ofInt
    obtain ⟨t', rfl⟩ := hb.ofInt
    refine elO e fun c ec e => ?_
    cases e
    exact binI_sound ec fun t => PE.now S (.int _ t) _
  · obtain ⟨rfl, e'⟩ := bAdd e
    refine elLs e' fun i₁ k₁ xs e₁ e => elLs e fun i₂ k₂ ys e₂ e => ?_
    cases e
    obtain ⟨a₁, its₁, c₁, rfl, _, g₁, r₁, z₁⟩ := lst_at e₁ ha S
    obtain ⟨a₂, its₂, c₂, rfl, _, g₂, r₂, z₂⟩ := lst_at e₂ hb S
    refine add_arrays S.fr S.news ⟨_, g₁, rfl, c₁, rfl⟩ ⟨_, g₂, rfl, c₂, rfl⟩ (fun h' F' N' => PE.alloc S F' N' S.low (.list ?_)) (size_line (by omega))
    exact r₁.append r₂
  · obtain ⟨rfl, e'⟩ := bMul e
    subst qb
    refine elLs e' fun i₁ k₁ xs e₁ e => elX e fun q1 e => elB e fun q2 e => elB e fun q3 e => ?_
    cases e
    obtain ⟨t', rfl⟩ := hb.ofInt
    obtain ⟨a₁, its₁, c₁, rfl, _, g₁, r₁, z₁⟩ := lst_at e₁ ha S
    exact rep_sound q1 q2 q3 g₁ r₁ S
end
end Cat
namespace Cat
open PySem PySem.Calls PyProof.Rows
open PySem.W (Frag nsIn mg_of mg_none_of topRead_of)
mutual
noncomputable def toPy : T → PyData
  | .none => .none | .bool b => .bool b | .int i => .int i | .fn _ => .none
  | .list xs => .list (toPys xs) | .tup xs => .tuple (toPys xs) | .dict _ => .none
noncomputable def toPys : List T → List PyData
  | [] => []
  | t :: r => toPy t :: toPys r
end
theorem okTs_inv {f : T → Bool} {t : T} {r : List T} (h : okTs f (t :: r) = true) : f t = true ∧ okTs f r = true := by
  unfold okTs at h
  split at h
  · rename_i q; exact ⟨q, h⟩
  · cases h
theorem ok_depth : ∀ (k : Nat) (t : T), okT k t = true → (toPy t).canLay0 = true ∧ (toPy t).depth ≤ k := by
  intro k
  induction k with
  | zero =>
    intro t h
    cases t <;> first | (cases h; done) | exact ⟨rfl, by simp [toPy, PyData.depth]⟩
  | succ k ih =>
    intro t h
    have hs : ∀ xs : List T, okTs (okT k) xs = true → PyData.canLayAll0 (toPys xs) = true ∧ PyData.depthAll (toPys xs) ≤ k := by
      intro xs
      induction xs with
      | nil => intro _; exact ⟨rfl, by simp [toPys, PyData.depthAll]⟩
      | cons t r ihr =>
        intro q
        obtain ⟨q1, q2⟩ := okTs_inv q
        obtain ⟨a1, a2⟩ := ih t q1
        obtain ⟨b1, b2⟩ := ihr q2
        refine ⟨by simp [toPys, PyData.canLayAll0, a1, b1], ?_⟩
        simp only [toPys, PyData.depthAll]
        omega
    cases t with
    | int i => exact ⟨rfl, by simp [toPy, PyData.depth]⟩
    | list xs =>
      obtain ⟨a, b⟩ := hs xs h
      exact ⟨by simpa [toPy, PyData.canLay0] using a, by simp only [toPy, PyData.depth]; omega⟩
    | tup xs =>
      obtain ⟨a, b⟩ := hs xs h
      exact ⟨by simpa [toPy, PyData.canLay0] using a, by simp only [toPy, PyData.depth]; omega⟩
    | none => cases h
    | bool => cases h
    | fn => cases h
    | dict => cases h
theorem ok_shaped {k : Nat} (hk : k ≤ 64) {t : T} (h : okT k t = true) : SeqAt.shaped (toPy t) = true := by
  obtain ⟨a, b⟩ := ok_depth k t h
  unfold SeqAt.shaped
  rw [a, Bool.true_and]
  exact decide_eq_true (by omega)
theorem teq_eqv : ∀ (k : Nat) (s t : T), okT k s = true → okT k t = true → PyData.eqv (toPy s) (toPy t) = teq s t := by
  intro k
  have base : ∀ i j : Int, PyData.eqv (.int i) (.int j) = teq (.int i) (.int j) := fun i j => by simp [PyData.eqv, teq]
  induction k with
  | zero =>
    intro s t hs ht
    cases s <;> first | (cases hs; done) | skip
    cases t <;> first | (cases ht; done) | exact base _ _
  | succ k ih =>
    intro s t hs ht
    have all : ∀ xs ys : List T, okTs (okT k) xs = true → okTs (okT k) ys = true → PyData.eqvAll (toPys xs) (toPys ys) = teqs xs ys := by
      intro xs
      induction xs with
      | nil => intro ys _ _; cases ys <;> simp [toPys, PyData.eqvAll, teqs]
      | cons a r ihr =>
        intro ys hx hy
        cases ys with
        | nil => simp [toPys, PyData.eqvAll, teqs]
        | cons b q =>
          obtain ⟨x1, x2⟩ := okTs_inv hx
          obtain ⟨y1, y2⟩ := okTs_inv hy
          simp only [toPys, PyData.eqvAll, teqs, ih a b x1 y1, ihr q x2 y2]
          cases teq a b <;> rfl
    cases s with
    | int i =>
      cases t with
      | int j => exact base i j
      | list => simp [toPy, PyData.eqv, teq]
      | tup => simp [toPy, PyData.eqv, teq]
      | none => cases ht
      | bool => cases ht
      | fn => cases ht
      | dict => cases ht
    | list xs =>
      cases t with
      | int j => simp [toPy, PyData.eqv, teq]
      | list ys => simp only [toPy, PyData.eqv, teq]; exact all xs ys hs ht
      | tup => simp [toPy, PyData.eqv, teq]
      | none => cases ht
      | bool => cases ht
      | fn => cases ht
      | dict => cases ht
    | tup xs =>
      cases t with
      | int j => simp [toPy, PyData.eqv, teq]
      | list ys => simp [toPy, PyData.eqv, teq]
      | tup ys => simp only [toPy, PyData.eqv, teq]; exact all xs ys hs ht
      | none => cases ht
      | bool => cases ht
      | fn => cases ht
      | dict => cases ht
    | none => cases hs
    | bool => cases hs
    | fn => cases hs
    | dict => cases hs
theorem reads_of {prog : Program} {w : World} {P : Addr → Obj → Prop} {d : Bool} {h : Heap} (hP : ∀ a o, P a o → h.get? a = some o) : ∀ (k : Nat) {t : T} {v : Value}, okT k t = true → TR prog w P d t v → ∃ as, Reads h v (toPy t) as := by
  intro k
  induction k with
  | zero =>
    intro t v ho x
    cases t <;> first | (cases ho; done) | skip
    obtain ⟨tk, rfl⟩ := x
    exact ⟨_, .int _ _⟩
  | succ k ih =>
    intro t v ho x
    have all : ∀ {ts : List T} {vs : List Value}, okTs (okT k) ts = true → TRs prog w P d ts vs → ∃ as, ReadsAll h vs (toPys ts) as := by
      intro ts
      induction ts with
      | nil => intro vs _ x; rw [show vs = [] from x]; exact ⟨_, .nil⟩
      | cons t r ihr =>
        intro vs ho x
        obtain ⟨q1, q2⟩ := okTs_inv ho
        obtain ⟨v, r', rfl, x1, x2⟩ := x
        obtain ⟨as, z⟩ := ih q1 x1
        obtain ⟨bs, z2⟩ := ihr q2 x2
        exact ⟨_, .cons z z2⟩
    cases t with
    | int i => obtain ⟨tk, rfl⟩ := x; exact ⟨_, .int _ _⟩
    | list xs =>
      obtain ⟨a, its, c, rfl, p, r⟩ := x
      obtain ⟨as, z⟩ := all ho r
      exact ⟨_, .list (hP _ _ p) rfl rfl z⟩
    | tup xs =>
      obtain ⟨a, its, c, rfl, p, r⟩ := x
      obtain ⟨as, z⟩ := all ho r
      exact ⟨_, .tuple (hP _ _ p) rfl rfl z⟩
    | none => cases ho
    | bool => cases ho
    | fn => cases ho
    | dict => cases ho
section
variable {C : Cfg} {n : Nat} {A : Around} {h₀ : Heap} {L : Addr} {m : Str → Option Value} {env : Env} {kd : Str → Option NameKind} {cl : Cl} {mm : Str → Option Value} {aux : List (Addr × Obj)} {st st' : St} {α : List Addr} {led : List (Addr × Obj)} {s : Shared}
theorem Sit.tree (S : Sit C n A h₀ L m env kd cl mm aux st α led s.heap) {k : Nat} {v : AV} {x : Value} {t : T} (e : frz false st.H k v = some t) (hv : VR α v x) : TR C.prog C.w (fun a o => s.heap.get? a = some o) true t x :=
  frz_sound (P := fun a o => s.heap.get? a = some o) S.sr (fun _ _ _ h _ => h.get S.fr S.sr.nw) (fun _ _ _ h => h.elim (S.fr.keep _ _) fun q => (S.sr.nw _ q).1) k e hv
theorem Sit.trees (S : Sit C n A h₀ L m env kd cl mm aux st α led s.heap) {k : Nat} {vs : List AV} {xs : List Value} {ts : List T} (e : frzs (frz false st.H k) vs = some ts) (hv : VRs α vs xs) : TRs C.prog C.w (fun a o => s.heap.get? a = some o) true ts xs :=
  frzs_sound (P := fun a o => s.heap.get? a = some o) S.sr (fun _ _ _ h _ => h.get S.fr S.sr.nw) (fun _ _ _ h => h.elim (S.fr.keep _ _) fun q => (S.sr.nw _ q).1) k e hv
theorem cmV_sound {c : Cm} {a b : AV} {x y : Value} {r : Bool} (e : cmV c a b st = some r) (ha : VR α a x) (hb : VR α b y) (S : Sit C n A h₀ L m env kd cl mm aux st α led s.heap) {Q : Value → Shared → Prop} (h : Q (.bool r) s) :
    wpAny (model C.prog C.w) A (compareOp (cmOf c) x y) Q FF s := by
  refine el3 e (fun i j qa qb e => ?_) (fun i j qa qb e => ?_) (fun i j qa qb e => nomatch e)
  · subst qa; subst qb
    obtain ⟨t, rfl⟩ := ha.ofInt
    obtain ⟨t', rfl⟩ := hb.ofInt
    cases e
    exact cmI_sound h
  · refine elO e fun t₁ e₁ e => elO e fun t₂ e₂ e => elB e fun o₁ e => elB e fun o₂ e => ?_
    obtain ⟨as, r₁⟩ := reads_of (h := s.heap) (fun _ _ q => q) 3 o₁ (S.tree e₁ ha)
    obtain ⟨bs, r₂⟩ := reads_of (h := s.heap) (fun _ _ q => q) 3 o₂ (S.tree e₂ hb)
    have hu : A.units + 64 < cLine := by have := S.gd.units; show A.units + 64 < 9900; omega
    cases c with
    | eq =>
      cases e
      refine eq_dataH r₁ r₂ (ok_shaped (by decide) o₁) (ok_shaped (by decide) o₂) hu ?_
      rw [teq_eqv 3 _ _ o₁ o₂]; exact h
    | ne =>
      cases e
      refine ne_dataH r₁ r₂ (ok_shaped (by decide) o₁) (ok_shaped (by decide) o₂) hu ?_
      rw [teq_eqv 3 _ _ o₁ o₂]; exact h
    | lt => cases e
    | le => cases e
    | gt => cases e
    | ge => cases e
theorem idxV_sound {value slice : Expr} {a i r : AV} {x y : Value} (e : idxV a i st = some r) (ha : VR α a x) (hi : VR α i y) (S : Sit C n A h₀ L m env kd cl mm aux st α led s.heap) (hs : ∀ o i, subscripted slice false o i = operate [o, i] (getItem o i)) {Q : Value → Shared → Prop}
    (h : ∀ v, VR α r v → Q v s) : wpAny (model C.prog C.w) A (subscriptTail value slice x y) Q FF s := by
  obtain ⟨a, rfl, e⟩ := wR e
  obtain ⟨i, rfl, e⟩ := wI e
  refine elP e fun k o eg e => ?_
  obtain ⟨xs, ho, e'⟩ := bLT e
  refine elNB e' fun q1 q2 e₉ => ?_
  obtain ⟨a, rfl, hα⟩ := ha.ofRef
  obtain ⟨t, rfl⟩ := hi.ofInt
  have n0 := neg_ge q1
  have n1 := ble_le q2
  rcases ho with rfl | rfl
  · obtain ⟨its, c, g, r⟩ := S.listAt eg hα
    obtain ⟨v, hv, hr⟩ := r.nth e₉
    have hL : s.heap.IsList a its := ⟨_, g, rfl, c, rfl⟩
    exact tail_any hL.typeIs slot_list_getitem.lookup (wpAny_getItem_list hL n0 (by omega) (by rw [← Array.getElem?_toList]; exact hv) (h _ hr)) (hs _ _)
  · obtain ⟨its, c, g, r⟩ := S.tupAt eg hα
    obtain ⟨v, hv, hr⟩ := r.nth e₉
    have hT : IsTup s.heap a its := ⟨_, g, rfl, c, rfl⟩
    have hlt : (Int.toNat _) < its.toList.length := (List.getElem?_eq_some_iff.mp hv).1
    refine tail_any hT.typeIs slot_tuple_getitem.lookup (getItem_tuple hT (by omega) (by omega) (j := Int.toNat _) ?_ (by rw [← Array.getElem?_toList]; exact hv) (h _ hr)) (hs _ _)
    rw [Array.length_toList] at hlt
    unfold seqIndex?
    simp
    omega
end
end Cat
namespace Cat
open PySem PySem.Calls PyProof.Rows
open PySem.W (Frag nsIn mg_of mg_none_of topRead_of)
section
variable {C : Cfg} {n : Nat} {A : Around} {h₀ : Heap} {L : Addr} {m : Str → Option Value} {env : Env} {kd : Str → Option NameKind} {cl : Cl} {mm : Str → Option Value} {aux : List (Addr × Obj)} {st st' : St} {α : List Addr} {led : List (Addr × Obj)} {s : Shared}
theorem evs_sound {ih : Ih} {k : Nat} (hE : SndE C k ih.e) (hk : k ≤ n) {pos : Pos} {E : Value → Shared → Prop} : ∀ {xs : List X} {es : List Expr} {vs : List AV} {st st' : St} {α : List Addr} {led : List (Addr × Obj)} {s : Shared},
    evs ih cl xs st = some (vs, st') → MEs C.K C.nm C.N kd xs es → Sit C n A h₀ L m env kd cl mm aux st α led s.heap → ∀ {Q : List Value → Shared → Prop},
    (∀ vs' h' tk α' led', Sit C n A h₀ L m env kd cl mm aux st' α' led' h' → Nx α led α' led' → VRs α' vs vs' → Q vs' { s with heap := h', toks := tk }) →
    wpAny (model C.prog C.w) A (spliced (backTo pos (starEach es env))) Q E s := by
  intro xs
  induction xs with
  | nil =>
    intro es vs st st' α led s e M S Q h
    cases M
    cases e
    exact spliced_none (h [] s.heap s.toks α led S (Nx.refl _ _) .nil)
  | cons x xs ihx =>
    intro es vs st st' α led s e M S Q h
    refine elP e fun v st₁ e₁ e => ?_
    refine elP (o := evs ih cl xs st₁) e fun vs' st₂ e₂ e => ?_
    cases e
    cases M with
    | cons M₁ M₂ =>
      refine spliced_more ?_ (M₁.star _ _)
      refine hE.one hk e₁ M₁ S fun u' h' tk α' led' S' nx hu => ?_
      refine ihx e₂ M₂ S' fun vs' h2 tk2 α2 led2 S2 nx2 hvs => ?_
      exact h _ h2 tk2 α2 led2 S2 (nx.trans nx2) (.cons (hu.mono nx2.le) hvs)
theorem Sit.dictAt (S : Sit C n A h₀ L m env kd cl mm aux st α led s.heap) {i : Nat} {a : Addr} {k : Kd} {es : List (List Int × Int)} (e : get st.H i = some (k, .dict es)) (ea : α[i]? = some a) :
    ∃ xs, Heap.DictOfH (tupleKind (intKind C.prog C.w)) s.heap a xs ∧ DR xs es ∧ (∃ es' ep, s.heap.get? a = some { cls := .type "dict", data := .dict es' ep }) ∧ (a == sysModules) = false := by
  obtain ⟨b, o, h1, h2, h3⟩ := S.sr.at_ S.fr e
  rw [ea] at h1; cases h1
  cases h3 with
  | @dict _ xs es' ep q kk nd d =>
    refine ⟨xs, ⟨_, _, _, h2, ⟨rfl, rfl, rfl⟩, rfl, q, fun x hx => ?_, nd⟩, d, ⟨_, _, h2⟩, beq_eq_false_iff_ne.mpr fun z => S.sr.sysm i k es e (z ▸ ea)⟩
    obtain ⟨o, its, c, ho, hc, hd, hi⟩ := kk x hx
    exact ⟨o, its, c, ho.elim (S.fr.keep _ _) (fun q => (S.sr.nw _ q).1), hc, hd, hi⟩
theorem dget_at {xs : List (List Int × Addr × Value)} {es : List (List Int × Int)} (d : DR xs es) (k : List Int) :
    (∀ v, dget es k = some v → ∃ a t, atKey xs k = some (a, .int v t)) ∧ (dget es k = none → atKey xs k = none) := by
  induction d with
  | nil => exact ⟨fun v e => (by cases e), fun _ => rfl⟩
  | @cons k' a v' t xs es d ih =>
    constructor
    · intro v e
      simp only [dget] at e
      split at e
      · rename_i q
        cases e
        have : k' = k := by simpa using q
        exact ⟨a, t, by simp [atKey, this]⟩
      · rename_i q
        have : k' ≠ k := by simpa using q
        obtain ⟨b, u, z⟩ := ih.1 v e
        exact ⟨b, u, by simpa [atKey, this] using z⟩
    · intro e
      simp only [dget] at e
      split at e
      · cases e
      · rename_i q
        have : k' ≠ k := by simpa using q
        have z := ih.2 e
        simpa [atKey, this] using z
theorem sum_ints {α : List Addr} : ∀ {xs : List AV} {vs : List Value} {k : Int}, VRs α xs vs → sumI xs = some k → ∃ l : List (Int × Tok), vs = l.map (fun p => Value.int p.1 p.2) ∧ (l.map (·.1)).sum = k := by
  intro xs
  induction xs with
  | nil => intro vs k x e; cases x; cases e; exact ⟨[], rfl, rfl⟩
  | cons a xs ih =>
    intro vs k x e
    cases x with
    | cons ha x =>
      cases a with
      | int i =>
        simp only [sumI] at e
        split at e
        · rename_i k' e'
          cases e
          obtain ⟨t, rfl⟩ := ha.ofInt
          obtain ⟨l, rfl, hl⟩ := ih x e'
          exact ⟨(i, t) :: l, rfl, by simp [hl]⟩
        · cases e
      | none => cases e
      | bool => cases e
      | fn => cases e
      | ref => cases e
theorem sum_sound {l : Addr} {its : Array Value} {xs : List AV} {k : Int} (hL : s.heap.IsList l its) (hr : VRs α xs its.toList) (e : sumI xs = some k) (S : Sit C n A h₀ L m env kd cl mm aux st α led s.heap) :
    wpAny (model C.prog C.w) A (call (.builtin "sum") [.ref l]) (fun v' s' => PE C n A h₀ L m env kd cl mm aux st α led s (fun β => VR β (.int k) v') s') FF s := by
  obtain ⟨ys, hy, hk⟩ := sum_ints hr e
  have e1 : its = intItems ys.toArray := by
    apply Array.toList_inj.mp
    rw [hy]; simp [intItems]
  rw [e1] at hL
  refine sum_intListG S.gd.hnd hL fun h' tk t' keep => ?_
  have : preSum (numAt ys.toArray) ys.toArray.size = k := by
    rw [preSum_eq, ← hk]
    have : (ys.toArray.toList.map (·.1)) = ys.map (·.1) := by simp
    rw [this, List.take_of_length_le (by simp)]
  rw [this]
  exact ⟨h', tk, α, led, rfl, S.grow keep, Nx.refl _ _, .int _ _⟩
noncomputable def SndB (C : Cfg) (n : Nat) (f : Cl → B → St → Option (Bool × St)) : Prop :=
  ∀ {k : Nat} {A : Around} {h₀ : Heap} {L : Addr} {m : Str → Option Value} {env : Env} {kd : Str → Option NameKind} {cl : Cl} {mm : Str → Option Value} {aux : List (Addr × Obj)} {st st' : St} {α : List Addr} {led : List (Addr × Obj)} {s : Shared} {x : B} {e : Expr} {v : Bool},
    n ≤ k → f cl x st = some (v, st') → MB C.K C.nm C.N kd x e → Sit C k A h₀ L m env kd cl mm aux st α led s.heap →
    wpAny (model C.prog C.w) A (isTrue e env (eval e env)) (fun v' s' => PE C k A h₀ L m env kd cl mm aux st' α led s (fun _ => v' = v) s') FF s
theorem SndB.one {f : Cl → B → St → Option (Bool × St)} {k : Nat} (hB : SndB C k f) (hk : k ≤ n) {a : B} {ea : Expr} {st₁ : St} {u : Bool} (h1 : f cl a st = some (u, st₁)) (ma : MB C.K C.nm C.N kd a ea)
    (S : Sit C n A h₀ L m env kd cl mm aux st α led s.heap) {Q : Bool → Shared → Prop} {E : Value → Shared → Prop}
    (h : ∀ h' tk α' led', Sit C n A h₀ L m env kd cl mm aux st₁ α' led' h' → Nx α led α' led' → Q u { s with heap := h', toks := tk }) :
    wpAny (model C.prog C.w) A (isTrue ea env (eval ea env)) Q E s := by
  refine wpAny_mono (hB hk h1 ma S) (fun u' s₁ q => ?_) (fun _ _ f => f.elim)
  obtain ⟨h', tk, α₁, led₁, rfl, S₁, nx₁, rfl⟩ := q
  exact h h' tk α₁ led₁ S₁ nx₁
theorem evB_sound {ih : Ih} {k : Nat} (hE : SndE C k ih.e) (hB : SndB C k ih.b) : SndB C (k + 1) (evB ih) := by
  intro j A h₀ L m env kd cl mm aux st st' α led s x e v hk ev M S
  have hk' : k ≤ j := Nat.le_of_succ_le hk
  cases M with
  | cmp ho ma mb =>
    subst ho
    refine elP ev fun u st₁ e₁ ev => ?_
    refine elP ev fun v₂ st₂ e₂ ev => ?_
    refine elO ev fun r er ev => ?_
    cases ev
    refine wpAny_isTrue_Compare1 ?_ (noMarks _ _)
    refine hE.two hk' e₁ e₂ ma mb S fun u' v' h' tk α' led' S' nx hu hv => ?_
    exact cmV_sound (s := { s with heap := h', toks := tk }) er hu hv S' (wpAny_truthy_bool ⟨h', tk, α', led', rfl, S', nx, rfl⟩)
  | and ma mb =>
    refine elP ev fun tt st₁ e₁ ev => ?_
    cases tt with
    | true =>
      refine isTrue_and (hB.one hk' e₁ ma S fun h' tk α' led' S' nx => ?_)
      rw [if_pos rfl]
      refine isTrue_and (hB.one hk' ev mb S' fun h2 tk2 α2 led2 S2 nx2 => ?_)
      cases v with
      | true => rw [if_pos rfl]; exact isTrue_and_nil ⟨h2, tk2, α2, led2, rfl, S2, nx.trans nx2, rfl⟩
      | false => rw [if_neg (by intro z; cases z)]; exact ⟨h2, tk2, α2, led2, rfl, S2, nx.trans nx2, rfl⟩
    | false =>
      cases ev
      refine isTrue_and (hB.one hk' e₁ ma S fun h' tk α' led' S' nx => ?_)
      rw [if_neg (by intro z; cases z)]
      exact ⟨h', tk, α', led', rfl, S', nx, rfl⟩
  | val hs mx mi =>
    refine elP ev fun u st₁ e₁ ev => ?_
    obtain ⟨b, rfl, ev⟩ := wB ev
    cases ev
    refine isTrue_plain (hE.one hk' e₁ (.idx hs mx mi) S fun u' h' tk α' led' S' nx hu => ?_) rfl
    rw [hu.ofBool]
    exact wpAny_truthy_bool ⟨h', tk, α', led', rfl, S', nx, rfl⟩
end
end Cat
namespace Cat
open PySem PySem.Calls PyProof.Rows
open PySem.W (Frag nsIn mg_of mg_none_of topRead_of)
theorem closure_go (env : Env) : ∀ (names : List (Str × NameKind)) (acc : List (Str × Addr)), (∀ z ∈ names, z.2 = .free → ∃ c, env.cells.lookup z.1 = some c) → (∀ y c, acc.lookup y = some c → env.cells.lookup y = some c) →
    ∃ cl, (forIn names acc (fun (x : Str × NameKind) r => if x.2 == .free then (do let c ← cellOf env x.1; pure (ForInStep.yield ((x.1, c) :: r))) else pure (ForInStep.yield r)) : Sem _) = pure cl ∧
      (∀ y c, cl.lookup y = some c → env.cells.lookup y = some c) ∧ (∀ y, (y, NameKind.free) ∈ names → ∃ c, cl.lookup y = some c) ∧ (∀ y c, acc.lookup y = some c → ∃ c, cl.lookup y = some c) := by
  intro names
  induction names with
  | nil => intro acc _ h; exact ⟨acc, (by simp), h, (fun y hy => nomatch hy), fun y c e => ⟨c, e⟩⟩
  | cons x names ih =>
    intro acc hf ha
    rw [List.forIn_cons]
    by_cases q : x.2 = .free
    · obtain ⟨c, hc⟩ := hf x List.mem_cons_self q
      have hstep : (if x.2 == .free then (do let c ← cellOf env x.1; pure (ForInStep.yield ((x.1, c) :: acc))) else pure (ForInStep.yield acc) : Sem _) = pure (ForInStep.yield ((x.1, c) :: acc)) := by
        rw [if_pos (by rw [q]; rfl)]
        simp [cellOf, hc]
      rw [hstep, pure_bind]
      have ha' : ∀ y c', List.lookup y ((x.1, c) :: acc) = some c' → env.cells.lookup y = some c' := fun y c' e => by
        rw [List.lookup_cons] at e
        split at e
        · rename_i z
          cases e
          rw [eq_of_beq z]; exact hc
        · exact ha y c' e
      obtain ⟨cl, h1, h2, h3, h4⟩ := ih ((x.1, c) :: acc) (fun z hz => hf z (List.mem_cons_of_mem _ hz)) ha'
      refine ⟨cl, h1, h2, fun y hy => ?_, fun y c' e => ?_⟩
      · rcases List.mem_cons.mp hy with e | hy
        · exact h4 y c (by rw [← e, List.lookup_cons]; simp)
        · exact h3 y hy
      · by_cases z : y = x.1
        · exact h4 y c (by rw [z, List.lookup_cons]; simp)
        · exact h4 y c' (by rw [List.lookup_cons, beq_eq_false_iff_ne.mpr z]; exact e)
    · have hstep : (if x.2 == .free then (do let c ← cellOf env x.1; pure (ForInStep.yield ((x.1, c) :: acc))) else pure (ForInStep.yield acc) : Sem _) = pure (ForInStep.yield acc) := by
        rw [if_neg (by simpa using q)]
      rw [hstep, pure_bind]
      obtain ⟨cl, h1, h2, h3, h4⟩ := ih acc (fun z hz => hf z (List.mem_cons_of_mem _ hz)) ha
      refine ⟨cl, h1, h2, fun y hy => ?_, h4⟩
      rcases List.mem_cons.mp hy with e | hy
      · exact absurd (by rw [← e]) q
      · exact h3 y hy
theorem closure_ok (scope : Scope) (env : Env) (hf : ∀ z ∈ scope.names, z.2 = .free → ∃ c, env.cells.lookup z.1 = some c) :
    ∃ cl, closureFor scope env = pure cl ∧ ∀ y, (y, NameKind.free) ∈ scope.names → ∀ c, env.cells.lookup y = some c → cl.lookup y = some c := by
  obtain ⟨cl, h1, h2, h3, _⟩ := closure_go env scope.names [] hf (fun _ _ e => by cases e)
  refine ⟨cl, ?_, fun y hy c e => ?_⟩
  · rw [← bind_pure (pure cl), ← h1]; rfl
  · obtain ⟨c', e'⟩ := h3 y hy
    rw [e', ← h2 y c' e', e]
theorem rekd_cell {kd : Str → Option NameKind} {scope : Scope} (hc : ∀ z ∈ scope.names, z.2 ≠ .cell) {y : Str} (h : rekd kd scope y = some .cell) : kd y = some .cell ∧ (y, NameKind.free) ∈ scope.names := by
  unfold rekd at h
  generalize scope.names = l at h hc
  induction l with
  | nil => cases h
  | cons x l ih =>
    obtain ⟨z, k⟩ := x
    simp only [List.map_cons] at h
    by_cases q : (k == NameKind.free && true && kd z == some .cell) = true
    · rw [if_pos q, List.lookup_cons] at h
      split at h
      · rename_i e
        have e := eq_of_beq e
        subst e
        simp at q
        obtain ⟨q1, q2⟩ := q
        subst q1
        exact ⟨q2, List.mem_cons_self⟩
      · obtain ⟨a, b⟩ := ih h (fun z hz => hc z (List.mem_cons_of_mem _ hz))
        exact ⟨a, List.mem_cons_of_mem _ b⟩
    · rw [if_neg q, List.lookup_cons] at h
      split at h
      · cases h
        exact absurd rfl (hc _ List.mem_cons_self)
      · obtain ⟨a, b⟩ := ih h (fun z hz => hc z (List.mem_cons_of_mem _ hz))
        exact ⟨a, List.mem_cons_of_mem _ b⟩
section
variable {C : Cfg} {n : Nat} {A : Around} {h₀ : Heap} {L : Addr} {m : Str → Option Value} {env : Env} {kd : Str → Option NameKind} {cl : Cl} {mm : Str → Option Value} {aux : List (Addr × Obj)} {st st' : St} {α : List Addr} {led : List (Addr × Obj)} {s : Shared}
structure ScOk (scope : Scope) (kd : Str → Option NameKind) (y : Str) : Prop where
  nocell : ∀ z ∈ scope.names, z.2 ≠ .cell
  kind : scope.kind = .function
  loc : scope.names.lookup y = some .local
theorem EnvOk.comp (en : EnvOk C env kd α cl) {scope : Scope} {y : Str} (ok : ScOk scope kd y) {clo : List (Str × Addr)} (hclo : ∀ y, (y, NameKind.free) ∈ scope.names → ∀ c, env.cells.lookup y = some c → clo.lookup y = some c) (D : Addr) :
    EnvOk C (compEnvC scope clo D env) (rekd kd scope) α cl := by
  refine ⟨ok.kind, fun x => ?_, en.glo, en.bui, fun x i e k => ?_, fun x k => ?_⟩
  · have hk : (env.scope.kind == ScopeKind.function) = true := by rw [en.kind]; rfl
    have : env.kindOf = kd := funext en.kof
    simp only [Env.kindOf, compEnvC, relabel, rekd, hk]
    have this' : ∀ z, List.lookup z env.scope.names = kd z := fun z => congrFun this z
    simp only [this']
  · obtain ⟨k1, k2⟩ := rekd_cell ok.nocell k
    obtain ⟨c, e1, e2⟩ := en.cel x i e k1
    exact ⟨c, hclo _ k2 c e1, e2⟩
  · obtain ⟨k1, k2⟩ := rekd_cell ok.nocell k
    obtain ⟨c, e1⟩ := en.has x k1
    exact ⟨c, hclo _ k2 c e1⟩
noncomputable def SndC (C : Cfg) (n : Nat) (f : Cl → X → Nat → Int → Nat → St → List AV → Option (List AV × St)) : Prop :=
  ∀ {k : Nat} {A : Around} {h₀ : Heap} {L : Addr} {m : Str → Option Value} {env : Env} {kd : Str → Option NameKind} {cl : Cl} {aux : List (Addr × Obj)} {s : Shared} {elt : Expr} {y : Str} {scope : Scope} {clo : List (Str × Addr)}
    {x : X} {t : Nat} {st st' : St} {α : List Addr} {led : List (Addr × Obj)} {h₁ : Heap} {vs ws : List AV} {ys : List Value} {i : Nat} {cnt : Nat} {Fin : List Value → List (Addr × Obj) → Prop},
    n ≤ k → f cl x t (i : Int) cnt st ws = some (vs, st') → ME C.K C.nm C.N (rekd kd scope) x elt → C.nm t = y → t < C.N → ScOk scope kd y →
    (∀ y, (y, NameKind.free) ∈ scope.names → ∀ c, env.cells.lookup y = some c → clo.lookup y = some c) →
    Gd C k A h₀ L → EnvOk C env kd α cl → SR C.prog C.w h₀ L h₁ α st.n st.H led → (∀ p ∈ aux, ∀ q ∈ led, q.1 ≠ p.1) → VRs α ws ys →
    (∀ α' led' h₂ zs, Le α α' → SR C.prog C.w h₀ L h₂ α' st'.n st'.H led' → (∀ p ∈ aux, ∀ q ∈ led', q.1 ≠ p.1) → VRs α' vs zs → Fin zs (aux ++ led')) →
    LCg.CompRest C.prog C.w A h₀ L m env elt y scope clo s (fun _ => True) (fun j v => ∃ t, v = .int (0 + (j : Int)) t) Fin cnt i ys (aux ++ led)
theorem evC_sound {ih : Ih} {k : Nat} (hE : SndE C k ih.e) (hC : SndC C k ih.cp) : SndC C (k + 1) (evC ih) := by
  intro j A h₀ L m env kd cl aux s elt y scope clo x t st st' α led h₁ vs ws ys i cnt Fin hk e M hy ht ok hclo G en R off hv hF
  have hk' : k ≤ j := Nat.le_of_succ_le hk
  cases cnt with
  | zero =>
    cases e
    exact LCg.CompRest.zero (hF α led h₁ ys (Le.refl _) R off hv)
  | succ cnt =>
    refine elP e fun v st₁ e₁ e => ?_
    refine LCg.CompRest.succ fun v' I oI D oD acc m₂ h tk E' hx hD hm F N hoff hne => ?_
    obtain ⟨tt, rfl⟩ := hx
    have hmem := hoff.mem
    let aux' : List (Addr × Obj) := (I, oI) :: (D, oD) :: (acc, LCg.lst ys) :: aux
    have Naux : News h₀ L h aux' := fun p hp => by
      refine N p ?_
      rcases List.mem_cons.mp hp with rfl | hp
      · exact List.mem_cons_self
      refine List.mem_cons_of_mem _ ?_
      rcases List.mem_cons.mp hp with rfl | hp
      · exact List.mem_cons_self
      refine List.mem_cons_of_mem _ ?_
      rcases List.mem_cons.mp hp with rfl | hp
      · exact List.mem_cons_self
      exact List.mem_cons_of_mem _ (List.mem_append.mpr (.inl hp))
    have Nled : News h₀ L h led := fun p hp => N p (List.mem_cons_of_mem _ (List.mem_cons_of_mem _ (List.mem_cons_of_mem _ (List.mem_append.mpr (.inr hp)))))
    have S : Sit C j A h₀ L m (compEnvC scope clo D env) (rekd kd scope) cl m₂ aux' ⟨[(t, .int (i : Int))], st.n, st.H⟩ α led h := by
      refine ⟨G, en.comp ok hclo D, .inr ⟨oD, List.mem_cons_of_mem _ List.mem_cons_self, hD⟩, fun z av ez => ?_, F, R.more (fun _ h => h) Nled, Naux, fun p hp q hq => ?_⟩
      · rw [get_cons] at ez
        by_cases w : t = z
        · subst w
          rw [if_pos rfl] at ez
          cases ez
          refine ⟨ht, _, by rw [hy]; exact hm, ?_⟩
          rw [Int.zero_add]
          exact .int _ _
        · rw [if_neg w] at ez
          cases ez
      · have z := hmem q (List.mem_append.mpr (.inr hq))
        rcases List.mem_cons.mp hp with rfl | hp
        · exact z.1
        rcases List.mem_cons.mp hp with rfl | hp
        · exact z.2.1
        rcases List.mem_cons.mp hp with rfl | hp
        · exact z.2.2
        exact off p hp q hq
    refine hE.one (s := { s with heap := h, toks := tk }) hk' e₁ M S fun u' h' tk' α' led' S' nx hu => ?_
    have off' : ∀ p ∈ aux, ∀ q ∈ led', q.1 ≠ p.1 := fun p hp => S'.off p (List.mem_cons_of_mem _ (List.mem_cons_of_mem _ (List.mem_cons_of_mem _ hp)))
    refine ⟨h', tk', aux ++ led', rfl, S'.fr, fun p hp => S'.news (s := { s with heap := h', toks := tk' }) p (by simpa [aux'] using hp), LCg.Off3.of fun p hp => ?_, trivial, ?_⟩
    · rcases List.mem_append.mp hp with hp | hp
      · exact hmem p (List.mem_append.mpr (.inl hp))
      · exact ⟨S'.off _ List.mem_cons_self p hp, S'.off _ (List.mem_cons_of_mem _ List.mem_cons_self) p hp, S'.off _ (List.mem_cons_of_mem _ (List.mem_cons_of_mem _ List.mem_cons_self)) p hp⟩
    · refine hC (i := i + 1) hk' (by rw [Int.natCast_succ]; exact e) M hy ht ok hclo G (en.mono nx.le) S'.sr off' ((hv.mono nx.le).append (.cons hu .nil)) fun α2 led2 h2 zs le R2 off2 hz => hF α2 led2 h2 zs (nx.le.trans le) R2 off2 hz
end
end Cat
namespace Cat
open PySem PySem.Calls PyProof.Rows
open PySem.W (Frag nsIn mg_of mg_none_of topRead_of)
section
variable {C : Cfg} {n : Nat} {A : Around} {h₀ : Heap} {L : Addr} {m : Str → Option Value} {env : Env} {kd : Str → Option NameKind} {cl : Cl} {mm : Str → Option Value} {aux : List (Addr × Obj)} {st st' : St} {α : List Addr} {led : List (Addr × Obj)} {s : Shared}
noncomputable def Con (C : Cfg) (n : Nat) (f : Nat → List T → Option T) : Prop :=
  ∀ {g : Nat} {ts : List T} {r : T}, f g ts = some r → (∃ o fd, o.data = .func fd ∧ C.K.lookup g = some o) ∧
    ∀ {k : Nat} {A : Around} {h₀ : Heap} {L : Addr} {m : Str → Option Value} {s : Shared} {vs : List Value}, n ≤ k → Gd C (k + 1) A h₀ L → Fr h₀ L s.heap m → TRs C.prog C.w (fun a o => s.heap.get? a = some o) true ts vs →
      wpAny (model C.prog C.w) A (call (.ref g) vs) (fun v s' => ∃ h' tk, s' = { s with heap := h', toks := tk } ∧ (∀ b o, s.heap.get? b = some o → h'.get? b = some o) ∧ TR C.prog C.w (fun a o => h'.get? a = some o ∧ s.heap.get? a = none) false r v) FF s
theorem Sit.push (S : Sit C n A h₀ L m env kd cl mm aux st α led s.heap) (o : Obj) : Sit C n A h₀ L m env kd cl mm aux st α led (s.heap.push o) := S.grow fun _ _ e => Heap.get?_push_of_some _ e
theorem call_sound {f : Nat → List T → Option T} {k : Nat} (hf : Con C k f) (hk : k + 1 ≤ n) {g : Nat} {as : List AV} {ts : List T} {r : T} {vs : List Value} (e : f g ts = some r) (ef : frzs (frz false st.H 4) as = some ts) (hv : VRs α as vs)
    (S : Sit C n A h₀ L m env kd cl mm aux st α led s.heap) :
    wpAny (model C.prog C.w) A (call (.ref g) vs) (fun v' s' => PE C n A h₀ L m env kd cl mm aux ⟨st.loc, (thaw .froz r st.n st.H).2.1, (thaw .froz r st.n st.H).2.2⟩ α led s (fun β => VR β (thaw .froz r st.n st.H).1 v') s') FF s := by
  obtain ⟨j, rfl⟩ : ∃ j, n = j + 1 := ⟨n - 1, by omega⟩
  refine wpAny_mono ((hf e).2 (Nat.le_of_succ_le_succ hk) S.gd S.fr (S.trees ef hv)) (fun v s' q => ?_) (fun _ _ f => f)
  obtain ⟨h', tk, rfl, keep, tr⟩ := q
  have R := S.sr.grow keep
  have hO : Off (fun a o => h'.get? a = some o ∧ s.heap.get? a = none) α st.H := fun a o p i ao ei q => by
    obtain ⟨a', o', h1, z, _⟩ := S.sr.obj i _ _ ei
    rw [q] at h1; cases h1
    have := (S.sr.nw _ z).1; rw [show s.heap.get? (a, o').1 = none from p.2] at this; cases this
  have hP : ∀ a o, (h'.get? a = some o ∧ s.heap.get? a = none) → h'.get? a = some o ∧ a ≠ L ∧ h₀.get? a = none := fun a o p => by
    refine ⟨p.1, fun z => ?_, ?_⟩
    · obtain ⟨oL, _, _, hL, _⟩ := S.fr.ns
      rw [← z, p.2] at hL
      cases hL
    · cases q : h₀.get? a with
      | none => rfl
      | some o' =>
        have := S.fr.keep _ _ q
        rw [p.2] at this
        cases this
  obtain ⟨α', led', X, hr⟩ := thaw_sound (k := .froz) (d := false) (.inr ⟨rfl, rfl, hP⟩) r tr R hO
  refine ⟨h', tk, α', led', rfl, ⟨S.gd, S.en.mono X.le, S.ns, S.lr.mono X.le, S.fr.grownK keep, X.sr, S.ax.grown keep, fun p hp q hq => ?_⟩, ⟨X.le⟩, hr⟩
  rcases X.src q hq with z | z
  · exact S.off p hp q z
  · intro w
    have := (S.ax p hp).1
    rw [← w, z.2] at this
    cases this
theorem noTmp_name {y : Str} {r : Pos} {a : Addr} (x : Value) : letTemporaryGo (.Name y r) (.ref a) x = pure () := rfl
theorem key_sound {ih : Ih} {k j : Nat} (hE : SndE C k ih.e) (hk : k ≤ n) {k1 k2 : X} {e1 e2 : Expr} {q : Pos} {a b : Int} {st₁ st₂ : St} (h1 : ih.e cl k1 st = some (.int a, st₁)) (h2 : ih.e cl k2 st₁ = some (.int b, st₂)) (m1 : ME C.K C.nm C.N kd k1 e1) (m2 : ME C.K C.nm C.N kd k2 e2)
    (S : Sit C n A h₀ L m env kd cl mm aux st α led s.heap) {Q : Value → Shared → Prop} {E : Value → Shared → Prop}
    (h : ∀ D h' tk α' led' t u, Sit C n A h₀ L m env kd cl mm aux st₂ α' led' h' → Nx α led α' led' → h'.get? D = some { cls := .type "tuple", data := .seq #[.int a t, .int b u] 0 } → (∀ p ∈ aux ++ led', p.1 ≠ D) → D ≠ L → h₀.get? D = none → Q (.ref D) { s with heap := h', toks := tk }) :
    wpAny (model C.prog C.w) A (eval (.Tuple [e1, e2] j q) env) Q E s := by
  refine Tuple_ (spliced_more (hE.one hk h1 m1 S fun u' h' tk α' led' S' nx hu => ?_) (m1.star _ _))
  refine spliced_more (hE.one hk h2 m2 S' fun v' h2 tk2 α2 led2 S2 nx2 hv => ?_) (m2.star _ _)
  refine spliced_none ?_
  obtain ⟨t, rfl⟩ := hu.ofInt
  obtain ⟨u, rfl⟩ := hv.ofInt
  refine wpAny_newObj_type ?_ (by show 2 ≤ sizeLine; exact size_line (by decide))
  have N := S2.news (s := { s with heap := h2, toks := tk2 })
  have Np := N.push S2.fr { cls := .type "tuple", data := .seq #[.int a t, .int b u] 0 } rfl
  have hD := Np _ (List.Mem.head _)
  exact h _ _ tk2 α2 led2 t u (S2.push (s := { s with heap := h2, toks := tk2 }) _) (nx.trans nx2) hD.1 (S2.low (s := { s with heap := h2, toks := tk2 })) hD.2.1 hD.2.2
theorem key_is {prog : Program} {w : World} {h : Heap} {D : Addr} {a b : Int} {t u : Tok} (e : h.get? D = some { cls := .type "tuple", data := .seq #[.int a t, .int b u] 0 }) : (tupleKind (intKind prog w)).is h [a, b] D :=
  ⟨_, _, _, e, rfl, rfl, .cons (intKind_is prog w a t) (.cons (intKind_is prog w b u) .nil)⟩
end
end Cat
namespace Cat
open PySem PySem.Calls PyProof.Rows
open PySem.W (Frag nsIn mg_of mg_none_of topRead_of)
theorem fits {i : Int} (h : i.natAbs < 4000000000) : Builtin.Range.rangeFitsLong i = true := by
  unfold Builtin.Range.rangeFitsLong
  have : (2 : Int) ^ 63 = 9223372036854775808 := rfl
  simp only [this, Bool.and_eq_true, decide_eq_true_eq]
  omega
theorem small_ok {a b c : Int} {k : Nat} (ha : a.natAbs < 1000000000) (hb : b.natAbs < 1000000000) (hc : c.natAbs < 1000000000) (hk : k ≤ 100000) (e : Builtin.Range.rangeSize a b c = (k : Int)) : Builtin.Range.small a b c = true := by
  unfold Builtin.Range.small
  rw [e, fits (show a.natAbs < 4000000000 by omega), fits (show b.natAbs < 4000000000 by omega), fits (show c.natAbs < 4000000000 by omega), fits (show ((k : Nat) : Int).natAbs < 4000000000 by omega)]
  split
  · rw [fits (show (b + (c - 1)).natAbs < 4000000000 by omega)]; simp
  · rw [fits (show (b + (c + 1)).natAbs < 4000000000 by omega)]; simp
section
variable {C : Cfg} {n : Nat} {A : Around} {h₀ : Heap} {L : Addr} {m : Str → Option Value} {env : Env} {kd : Str → Option NameKind} {cl : Cl} {mm : Str → Option Value} {aux : List (Addr × Obj)} {st st' : St} {α : List Addr} {led : List (Addr × Obj)} {s : Shared}
theorem slice_sound {ih : Ih} {k : Nat} (hE : SndE C k ih.e) (hk : k ≤ n) {x : Nat} {y : Str} {r p q : Pos} {u : AV} {st₁ : St} {lo hi : Option Expr} {part : X} {ep : Expr} {j : Int} {st₂ : St} {i₀ : Nat} {k₀ : Kd} {xs ys : List AV}
    (mx : ME C.K C.nm C.N kd (.loc x) (.Name y r)) (e₁ : ih.e cl (.loc x) st = some (u, st₁)) (e₂ : ih.e cl part st₁ = some (.int j, st₂)) (me : ME C.K C.nm C.N kd part ep) (el : lst? st₂ u = some (i₀, k₀, xs)) (hj : neg? j = false)
    (hw : (lo = none ∧ hi = some ep ∧ ys = xs.take j.toNat) ∨ (lo = some ep ∧ hi = none ∧ ys = xs.drop j.toNat))
    (S : Sit C n A h₀ L m env kd cl mm aux st α led s.heap) :
    wpAny (model C.prog C.w) A (eval (.Subscript (.Name y r) (.Slice lo hi none p) q) env) (fun v' s' => PE C n A h₀ L m env kd cl mm aux (alloc st₂ .own (.list ys)).2 α led s (fun β => VR β (alloc st₂ .own (.list ys)).1 v') s') FF s := by
  refine Subscript_ (hE.one hk e₁ mx S fun u' h' tk α₁ led₁ S₁ nx₁ hu => ?_)
  have n0 := neg_ge hj
  rcases hw with ⟨rfl, rfl, rfl⟩ | ⟨rfl, rfl, rfl⟩
  · refine wpAny_Slice (wpAny_pure (hE.one hk e₂ me S₁ fun v' h2 tk2 α₂ led₂ S₂ nx₂ hv => wpAny_pure ?_))
    obtain ⟨t, rfl⟩ := hv.ofInt
    obtain ⟨a, its, c, rfl, _, g, rs, z⟩ := lst_at (s := { s with heap := h2, toks := tk2 }) el (hu.mono nx₂.le) S₂
    refine PySem.W.kmk_slice_lit (s := { s with heap := h2, toks := tk2 }) S₂.fr S₂.news ⟨_, g, rfl, c, rfl⟩ .none (.int j t) rfl (fun D h3 F3 N3 low => ?_) rfl (fun _ => rfl) (size_line (by omega))
    refine PE.lift (PE.alloc (s := { s with heap := h2, toks := tk2 }) S₂ F3 N3 (fun p hp => Nat.ne_of_lt (low p hp)) (.list ?_)) (nx₁.trans nx₂)
    obtain ⟨b, rfl⟩ := Int.eq_ofNat_of_zero_le n0
    rw [slicePick_upto']
    exact rs.take _
  · refine wpAny_Slice (hE.one hk e₂ me S₁ fun v' h2 tk2 α₂ led₂ S₂ nx₂ hv => wpAny_pure (wpAny_pure ?_))
    obtain ⟨t, rfl⟩ := hv.ofInt
    obtain ⟨a, its, c, rfl, _, g, rs, z⟩ := lst_at (s := { s with heap := h2, toks := tk2 }) el (hu.mono nx₂.le) S₂
    refine PySem.W.kmk_slice_lit (s := { s with heap := h2, toks := tk2 }) S₂.fr S₂.news ⟨_, g, rfl, c, rfl⟩ (.int j t) .none rfl (fun D h3 F3 N3 low => ?_) rfl (fun _ => rfl) (size_line (by omega))
    refine PE.lift (PE.alloc (s := { s with heap := h2, toks := tk2 }) S₂ F3 N3 (fun p hp => Nat.ne_of_lt (low p hp)) (.list ?_)) (nx₁.trans nx₂)
    obtain ⟨b, rfl⟩ := Int.eq_ofNat_of_zero_le n0
    rw [slicePick_from']
    exact rs.drop _
theorem rev_sound {ih : Ih} {k : Nat} (hE : SndE C k ih.e) (hk : k ≤ n) {x kk : Nat} {y : Str} {r p q p₁ p₂ : Pos} {u : AV} {st₁ : St} {i₀ : Nat} {k₀ : Kd} {xs : List AV}
    (mx : ME C.K C.nm C.N kd (.loc x) (.Name y r)) (e₁ : ih.e cl (.loc x) st = some (u, st₁)) (el : lst? st₁ u = some (i₀, k₀, xs)) (S : Sit C n A h₀ L m env kd cl mm aux st α led s.heap) :
    wpAny (model C.prog C.w) A (eval (.Subscript (.Name y r) (.Slice none none (some (.UnaryOp .USub (.Constant (.int 1) kk p₁) p₂)) p) q) env) (fun v' s' => PE C n A h₀ L m env kd cl mm aux (alloc st₁ .own (.list xs.reverse)).2 α led s (fun β => VR β (alloc st₁ .own (.list xs.reverse)).1 v') s') FF s := by
  refine Subscript_ (hE.one hk e₁ mx S fun u' h' tk α₁ led₁ S₁ nx₁ hu => ?_)
  refine wpAny_Slice (wpAny_pure (wpAny_pure (wpAny_UnaryOp (wpAny_Constant_int (P.neg_int ?_)))))
  obtain ⟨a, its, c, rfl, _, g, rs, z⟩ := lst_at (s := { s with heap := h', toks := tk }) el hu S₁
  refine PySem.W.krv_lit (s := { s with heap := h', toks := tk + 1 + 1 }) S₁.fr S₁.news ⟨_, g, rfl, c, rfl⟩ (.int (-1) _) rfl (fun D h3 F3 N3 low => ?_) rfl (fun _ => rfl) (size_line (by omega))
  exact PE.lift (PE.alloc (s := { s with heap := h', toks := tk }) S₁ F3 N3 (fun p hp => Nat.ne_of_lt (low p hp)) (.list rs.reverse)) nx₁
theorem CompOk.ok {kd : Str → Option NameKind} {t : Nat} {y : Str} {scope : Scope} (K : CompOk C.K C.nm C.N kd t y scope) : ScOk scope kd y :=
  ⟨fun z hz => by have := List.all_eq_true.mp K.hnc z hz; simpa using this, K.hki, K.hlk⟩
theorem CompOk.free {kd : Str → Option NameKind} {t : Nat} {y : Str} {scope : Scope} (K : CompOk C.K C.nm C.N kd t y scope) : ∀ z ∈ scope.names, z.2 = .free → kd z.1 = some .cell :=
  fun z hz q => by have := List.all_eq_true.mp K.hfree z hz; simpa [q] using this
theorem CompOk.loc {kd : Str → Option NameKind} {t : Nat} {y : Str} {scope : Scope} (K : CompOk C.K C.nm C.N kd t y scope) : ∀ z ∈ scope.names, z.2 = .local → scope.names.lookup z.1 = some .local :=
  fun z hz q => by have := List.all_eq_true.mp K.hloc z hz; simpa [q] using this
theorem size0 (cc : Nat) : Builtin.Range.rangeSize 0 (cc : Int) 1 = (cc : Int) := by
  show (if (1 : Int) > 0 then _ else _) = _
  rw [if_pos (by decide)]
  split <;> omega
theorem off1_in {D : Addr} : ∀ {l : List (Addr × Obj)}, LCg.Off1 D l → ∀ p ∈ l, p.1 ≠ D
  | [], _, p, hp => nomatch hp
  | x :: l, h, p, hp => by
    rcases List.mem_cons.mp hp with rfl | hp
    · exact h.1
    · exact off1_in h.2 p hp
theorem src_sound {ih : Ih} {k : Nat} (hE : SndE C k ih.e) (hC : SndC C k ih.cp) (hk : k ≤ n) {a x : X} {t : Nat} {y : Str} {ea en : Expr} {scope : Scope} {q r : Pos} {c : Int} {st₁ st₂ : St} {vs : List AV} {clo : List (Str × Addr)}
    (K : CompOk C.K C.nm C.N kd t y scope) (ma : ME C.K C.nm C.N (rekd kd scope) a ea) (mx : ME C.K C.nm C.N kd x en) (e₁ : ih.e cl x st = some (.int c, st₁)) (hc : neg? c = false) (hsz : Nat.ble c.toNat 100000 = true)
    (e₂ : ih.cp cl a t 0 c.toNat st₁ [] = some (vs, st₂)) (S : Sit C n A h₀ L m env kd cl mm aux st α led s.heap)
    (hclo : ∀ y, (y, NameKind.free) ∈ scope.names → ∀ c, env.cells.lookup y = some c → clo.lookup y = some c) {Fin : Shared → List Value → List (Addr × Obj) → Prop}
    (h : ∀ {g tk α' led' h₂ zs}, Le α α' → EnvOk C env kd α' cl → LR C α' st₁.loc mm → SR C.prog C.w h₀ L h₂ α' st₂.n st₂.H led' → (∀ p ∈ aux, ∀ q ∈ led', q.1 ≠ p.1) → VRs α' vs zs → Fin { s with heap := g, toks := tk } zs (aux ++ led')) :
    wpAny (model C.prog C.w) A (eval (.Call (.Name "range" q) [en] [] r) env) (LCg.CompSrc C.prog C.w A h₀ L m env ea y scope clo Fin) FF s := by
  refine Call_ (name_bn K.hr K.hkd boot_range' (by decide) (by decide) S ?_)
  refine PyProof.Rows.callWith_type1 (spliced_more (hE.one hk e₁ mx S fun v' h' tk α₁ led₁ S₁ nx₁ hv => spliced_none ?_) (mx.star _ _)) (mx.star _ _) rfl
  obtain ⟨tk', rfl⟩ := hv.ofInt
  refine call_range_1 ?_
  have n0 := neg_ge hc
  have n1 := ble_le hsz
  obtain ⟨cc, rfl⟩ := Int.eq_ofNat_of_zero_le n0
  have S₂ := S₁.push (s := { s with heap := h', toks := tk }) { cls := .type "range", data := .fields #[.int 0 tk, .int (cc : Int) tk', .int 1 (tk + 1)] }
  refine LCg.CompSrc.range (n := cc) (news := aux ++ led₁) S.gd.hnd S₂.fr (S₂.news (s := { s with heap := _ })) (Heap.get?_push_size _ rfl) (small_ok (by decide) (by omega) (by decide) (by omega) (size0 cc)) (size0 cc) (size_line (by omega)) fun g => ?_
  exact hC (i := 0) (x := a) (t := t) (α := α₁) (led := led₁) (aux := aux) (st := st₁) (ws := []) (ys := []) hk e₂ ma K.hy K.ht K.ok hclo S.gd S₁.en S₁.sr S₁.off .nil fun α' led' h₂ zs le R off hz => h (nx₁.le.trans le) (S₁.en.mono le) (S₁.lr.mono le) R off hz
theorem comp_sound {ih : Ih} {k : Nat} (hE : SndE C k ih.e) (hC : SndC C k ih.cp) (hk : k ≤ n) {a x : X} {t : Nat} {y : Str} {ea en : Expr} {scope : Scope} {p q r u : Pos} {c : Int} {st₁ st₂ : St} {vs : List AV}
    (K : CompOk C.K C.nm C.N kd t y scope) (ma : ME C.K C.nm C.N (rekd kd scope) a ea) (mx : ME C.K C.nm C.N kd x en) (e₁ : ih.e cl x st = some (.int c, st₁)) (hc : neg? c = false) (hsz : Nat.ble c.toNat 100000 = true)
    (e₂ : ih.cp cl a t 0 c.toNat st₁ [] = some (vs, st₂)) (S : Sit C n A h₀ L m env kd cl mm aux st α led s.heap) :
    wpAny (model C.prog C.w) A (eval (.ListComp ea [⟨.Name y p, .Call (.Name "range" q) [en] [] r, [], 0⟩] scope u) env)
      (fun v' s' => PE C n A h₀ L m env kd cl mm aux (alloc ⟨st₁.loc, st₂.n, st₂.H⟩ .own (.list vs)).2 α led s (fun β => VR β (alloc ⟨st₁.loc, st₂.n, st₂.H⟩ .own (.list vs)).1 v') s') FF s := by
  obtain ⟨clo, hcl, hclo⟩ := closure_ok scope env fun z hz h => S.en.has z.1 (K.free z hz h)
  refine LCg.ListComp_U S.fr hcl K.ok.nocell K.hki K.loc K.hlk (src_sound hE hC hk K ma mx e₁ hc hsz e₂ S hclo fun {g tk α' led' h₂ zs} le en lr R off hz => ?_) (fun _ => rfl)
  intro D h3 tk3 F3 N3 off1
  have Naux : News h₀ L h3 aux := fun p hp => N3 p (List.mem_cons_of_mem _ (List.mem_append.mpr (.inl hp)))
  have Nled : News h₀ L h3 led' := fun p hp => N3 p (List.mem_cons_of_mem _ (List.mem_append.mpr (.inr hp)))
  exact PE.lift (PE.alloc (s := { s with heap := h3, toks := tk3 }) (st := ⟨st₁.loc, st₂.n, st₂.H⟩) (o := LCg.lst zs) ⟨S.gd, en, S.ns, lr, F3, R.more (fun _ h => h) Nled, Naux, off⟩ F3 N3 (off1_in off1) (.list (by simpa using hz))) ⟨le⟩
end
end Cat
namespace Cat
open PySem PySem.Calls PyProof.Rows
open PySem.W (Frag nsIn mg_of mg_none_of topRead_of)
section
variable {C : Cfg} {n : Nat} {A : Around} {h₀ : Heap} {L : Addr} {m : Str → Option Value} {env : Env} {kd : Str → Option NameKind} {cl : Cl} {mm : Str → Option Value} {aux : List (Addr × Obj)} {st st' : St} {α : List Addr} {led : List (Addr × Obj)} {s : Shared}
theorem Sit.hold (S : Sit C n A h₀ L m env kd cl mm aux st α led s.heap) {D : Addr} {o : Obj} (hD : s.heap.get? D = some o) (low : ∀ p ∈ aux ++ led, p.1 ≠ D) (hL : D ≠ L) (h0 : h₀.get? D = none) : Sit C n A h₀ L m env kd cl mm ((D, o) :: aux) st α led s.heap :=
  ⟨S.gd, S.en, S.ns.mono fun p hp => List.mem_cons_of_mem _ hp, S.lr, S.fr, S.sr, fun p hp => by
    rcases List.mem_cons.mp hp with rfl | hp
    · exact ⟨hD, hL, h0⟩
    · exact S.ax p hp, fun p hp q hq => by
    rcases List.mem_cons.mp hp with rfl | hp
    · exact low q (List.mem_append.mpr (.inr hq))
    · exact S.off p hp q hq⟩
theorem Sit.drop {p : Addr × Obj} (S : Sit C n A h₀ L m env kd cl mm (p :: aux) st α led s.heap) (hn : NsAt L m aux env mm) : Sit C n A h₀ L m env kd cl mm aux st α led s.heap :=
  ⟨S.gd, S.en, hn, S.lr, S.fr, S.sr, fun q hq => S.ax q (List.mem_cons_of_mem _ hq), fun q hq => S.off q (List.mem_cons_of_mem _ hq)⟩
theorem len63 {n : Nat} (h : n ≤ 100000) : (n : Int) < 2 ^ 63 := by
  have : (2 : Int) ^ 63 = 9223372036854775808 := rfl
  omega
theorem evE_sound {ih : Ih} {k : Nat} (hE : SndE C k ih.e) (hB : SndB C k ih.b) (hC : SndC C k ih.cp) (hL : Con C k ih.cl) : SndE C (k + 1) (evE ih) := by
  intro j A h₀ L m env kd cl mm aux st st' α led s x e v hk ev M S
  have hk' : k ≤ j := Nat.le_of_succ_le hk
  refine ME.casesOn (motive_1 := fun kd x e _ => evE ih cl x st = some (v, st') → Sit C j A h₀ L m env kd cl mm aux st α led s.heap → GE C j A h₀ L m env kd cl mm aux α led s e v st') M
    (fun ev S => ?lit)
    (fun ev S => ?bl)
    (fun h1 h2 h3 ev S => ?loc)
    (fun h1 h2 h3 ev S => ?cel)
    (fun h1 h2 h3 ev S => ?fn)
    (fun ho ma mb ev S => ?bin)
    (fun ma ev S => ?neg)
    (fun ho ma mb ev S => ?cmp)
    (fun ho ml mr ma mb ev S => ?ite)
    (fun hs ma mi ev S => ?idx)
    (fun mx me ev S => ?slTo)
    (fun mx me ev S => ?slFrom)
    (fun mx ev S => ?rev)
    (fun hr hkd ma ev S => ?len)
    (fun hr hkd ma ev S => ?sum)
    (fun hr hkd ma mb ev S => ?min)
    (fun mf ma mas ev S => ?call)
    (fun hp mx m1 m2 md ev S => ?get)
    (fun mx m1 m2 ev S => ?dix)
    (fun ms ev S => ?list)
    (fun ms ev S => ?tup)
    (fun ok ma mn ev S => ?comp)
    ev S
  case lit =>
    cases ev; exact wpAny_Constant_int (PE.now S (.int _ _) _)
  case bl =>
    cases ev; exact wpAny_Constant_bool (PE.now S (.bool _) s.toks)
  case loc =>
    refine cps ?_
    intro PP fin
    first | refine elI ev fun v' e₁ ev => ?_ | refine elR ev fun v' e₁ ev => ?_ | refine elF ev fun v' e₁ ev => ?_ | refine elN ev fun v' e₁ ev => ?_ | refine elCell ev fun v' e₁ ev => ?_ | refine elOD ev fun v' e₁ ev => ?_ | refine elOC ev fun v' e₁ ev => ?_ | refine elD ev fun v' e₁ ev => ?_ | refine elTu ev fun v' e₁ ev => ?_ | refine elL ev fun v' e₁ ev => ?_ | refine elLoN ev fun v' e₁ ev => ?_ | refine elLN ev fun v' e₁ ev => ?_ | refine elLo ev fun v' e₁ ev => ?_ | refine elLs ev fun v' e₁ ev => ?_ | refine elNB ev fun v' e₁ ev => ?_ | refine elB ev fun v' e₁ ev => ?_ | refine elDN ev fun v' e₁ ev => ?_ | refine elOI ev fun v' e₁ ev => ?_ | refine elP ev fun v' e₁ ev => ?_ | refine elO ev fun v' e₁ ev => ?_
    refine fin ?_
    refine fin2 ev ?_
    exact name_loc e₁ h1 h2 h3 S fun v' hv => PE.now S hv s.toks
  case cel =>
    refine cps ?_
    intro PP fin
    first | refine elI ev fun i e₁ ev => ?_ | refine elR ev fun i e₁ ev => ?_ | refine elF ev fun i e₁ ev => ?_ | refine elN ev fun i e₁ ev => ?_ | refine elCell ev fun i e₁ ev => ?_ | refine elOD ev fun i e₁ ev => ?_ | refine elOC ev fun i e₁ ev => ?_ | refine elD ev fun i e₁ ev => ?_ | refine elTu ev fun i e₁ ev => ?_ | refine elL ev fun i e₁ ev => ?_ | refine elLoN ev fun i e₁ ev => ?_ | refine elLN ev fun i e₁ ev => ?_ | refine elLo ev fun i e₁ ev => ?_ | refine elLs ev fun i e₁ ev => ?_ | refine elNB ev fun i e₁ ev => ?_ | refine elB ev fun i e₁ ev => ?_ | refine elDN ev fun i e₁ ev => ?_ | refine elOI ev fun i e₁ ev => ?_ | refine elP ev fun i e₁ ev => ?_ | refine elO ev fun i e₁ ev => ?_
    first | refine elI ev fun k₀ v' e₂ ev => ?_ | refine elR ev fun k₀ v' e₂ ev => ?_ | refine elF ev fun k₀ v' e₂ ev => ?_ | refine elN ev fun k₀ v' e₂ ev => ?_ | refine elCell ev fun k₀ v' e₂ ev => ?_ | refine elOD ev fun k₀ v' e₂ ev => ?_ | refine elOC ev fun k₀ v' e₂ ev => ?_ | refine elD ev fun k₀ v' e₂ ev => ?_ | refine elTu ev fun k₀ v' e₂ ev => ?_ | refine elL ev fun k₀ v' e₂ ev => ?_ | refine elLoN ev fun k₀ v' e₂ ev => ?_ | refine elLN ev fun k₀ v' e₂ ev => ?_ | refine elLo ev fun k₀ v' e₂ ev => ?_ | refine elLs ev fun k₀ v' e₂ ev => ?_ | refine elNB ev fun k₀ v' e₂ ev => ?_ | refine elB ev fun k₀ v' e₂ ev => ?_ | refine elDN ev fun k₀ v' e₂ ev => ?_ | refine elOI ev fun k₀ v' e₂ ev => ?_ | refine elP ev fun k₀ v' e₂ ev => ?_ | refine elO ev fun k₀ v' e₂ ev => ?_
    refine fin ?_
    refine fin2 ev ?_
    exact name_cel e₁ e₂ h1 h2 h3 S fun v' hv => PE.now S hv s.toks
  case fn =>
    cases ev; exact name_fn h1 h2 h3 S (PE.now S (.fn _) s.toks)
  case bin =>
    subst ho
    first | refine elI ev fun u st₁ e₁ ev => ?_ | refine elR ev fun u st₁ e₁ ev => ?_ | refine elF ev fun u st₁ e₁ ev => ?_ | refine elN ev fun u st₁ e₁ ev => ?_ | refine elCell ev fun u st₁ e₁ ev => ?_ | refine elOD ev fun u st₁ e₁ ev => ?_ | refine elOC ev fun u st₁ e₁ ev => ?_ | refine elD ev fun u st₁ e₁ ev => ?_ | refine elTu ev fun u st₁ e₁ ev => ?_ | refine elL ev fun u st₁ e₁ ev => ?_ | refine elLoN ev fun u st₁ e₁ ev => ?_ | refine elLN ev fun u st₁ e₁ ev => ?_ | refine elLo ev fun u st₁ e₁ ev => ?_ | refine elLs ev fun u st₁ e₁ ev => ?_ | refine elNB ev fun u st₁ e₁ ev => ?_ | refine elB ev fun u st₁ e₁ ev => ?_ | refine elDN ev fun u st₁ e₁ ev => ?_ | refine elOI ev fun u st₁ e₁ ev => ?_ | refine elP ev fun u st₁ e₁ ev => ?_ | refine elO ev fun u st₁ e₁ ev => ?_
    first | refine elI ev fun v₂ st₂ e₂ ev => ?_ | refine elR ev fun v₂ st₂ e₂ ev => ?_ | refine elF ev fun v₂ st₂ e₂ ev => ?_ | refine elN ev fun v₂ st₂ e₂ ev => ?_ | refine elCell ev fun v₂ st₂ e₂ ev => ?_ | refine elOD ev fun v₂ st₂ e₂ ev => ?_ | refine elOC ev fun v₂ st₂ e₂ ev => ?_ | refine elD ev fun v₂ st₂ e₂ ev => ?_ | refine elTu ev fun v₂ st₂ e₂ ev => ?_ | refine elL ev fun v₂ st₂ e₂ ev => ?_ | refine elLoN ev fun v₂ st₂ e₂ ev => ?_ | refine elLN ev fun v₂ st₂ e₂ ev => ?_ | refine elLo ev fun v₂ st₂ e₂ ev => ?_ | refine elLs ev fun v₂ st₂ e₂ ev => ?_ | refine elNB ev fun v₂ st₂ e₂ ev => ?_ | refine elB ev fun v₂ st₂ e₂ ev => ?_ | refine elDN ev fun v₂ st₂ e₂ ev => ?_ | refine elOI ev fun v₂ st₂ e₂ ev => ?_ | refine elP ev fun v₂ st₂ e₂ ev => ?_ | refine elO ev fun v₂ st₂ e₂ ev => ?_
    refine wpAny_BinOp (hE.two hk' e₁ e₂ ma mb S fun u' v' h' tk α' led' S' nx hu hv => ?_)
    refine wpAny_mono (binV_sound (s := { s with heap := h', toks := tk }) ev hu hv S') (fun w s' q => PE.lift q nx) (fun _ _ f => f)
  case neg =>
    refine cps ?_
    intro PP fin
    first | refine elI ev fun i st₁ e₁ ev => ?_ | refine elR ev fun i st₁ e₁ ev => ?_ | refine elF ev fun i st₁ e₁ ev => ?_ | refine elN ev fun i st₁ e₁ ev => ?_ | refine elCell ev fun i st₁ e₁ ev => ?_ | refine elOD ev fun i st₁ e₁ ev => ?_ | refine elOC ev fun i st₁ e₁ ev => ?_ | refine elD ev fun i st₁ e₁ ev => ?_ | refine elTu ev fun i st₁ e₁ ev => ?_ | refine elL ev fun i st₁ e₁ ev => ?_ | refine elLoN ev fun i st₁ e₁ ev => ?_ | refine elLN ev fun i st₁ e₁ ev => ?_ | refine elLo ev fun i st₁ e₁ ev => ?_ | refine elLs ev fun i st₁ e₁ ev => ?_ | refine elNB ev fun i st₁ e₁ ev => ?_ | refine elB ev fun i st₁ e₁ ev => ?_ | refine elDN ev fun i st₁ e₁ ev => ?_ | refine elOI ev fun i st₁ e₁ ev => ?_ | refine elP ev fun i st₁ e₁ ev => ?_ | refine elO ev fun i st₁ e₁ ev => ?_
    refine fin ?_
    refine fin2 ev ?_
    refine wpAny_UnaryOp (hE.one hk' e₁ ma S fun u' h' tk α' led' S' nx hu => ?_)
    obtain ⟨t, rfl⟩ := hu.ofInt
    exact P.neg_int (s := { s with heap := h', toks := tk }) (PE.lift (PE.now (s := { s with heap := h', toks := tk }) S' (.int _ _) _) nx)
  case cmp =>
    refine cps ?_
    intro PP fin
    subst ho
    first | refine elI ev fun u st₁ e₁ ev => ?_ | refine elR ev fun u st₁ e₁ ev => ?_ | refine elF ev fun u st₁ e₁ ev => ?_ | refine elN ev fun u st₁ e₁ ev => ?_ | refine elCell ev fun u st₁ e₁ ev => ?_ | refine elOD ev fun u st₁ e₁ ev => ?_ | refine elOC ev fun u st₁ e₁ ev => ?_ | refine elD ev fun u st₁ e₁ ev => ?_ | refine elTu ev fun u st₁ e₁ ev => ?_ | refine elL ev fun u st₁ e₁ ev => ?_ | refine elLoN ev fun u st₁ e₁ ev => ?_ | refine elLN ev fun u st₁ e₁ ev => ?_ | refine elLo ev fun u st₁ e₁ ev => ?_ | refine elLs ev fun u st₁ e₁ ev => ?_ | refine elNB ev fun u st₁ e₁ ev => ?_ | refine elB ev fun u st₁ e₁ ev => ?_ | refine elDN ev fun u st₁ e₁ ev => ?_ | refine elOI ev fun u st₁ e₁ ev => ?_ | refine elP ev fun u st₁ e₁ ev => ?_ | refine elO ev fun u st₁ e₁ ev => ?_
    first | refine elI ev fun v₂ st₂ e₂ ev => ?_ | refine elR ev fun v₂ st₂ e₂ ev => ?_ | refine elF ev fun v₂ st₂ e₂ ev => ?_ | refine elN ev fun v₂ st₂ e₂ ev => ?_ | refine elCell ev fun v₂ st₂ e₂ ev => ?_ | refine elOD ev fun v₂ st₂ e₂ ev => ?_ | refine elOC ev fun v₂ st₂ e₂ ev => ?_ | refine elD ev fun v₂ st₂ e₂ ev => ?_ | refine elTu ev fun v₂ st₂ e₂ ev => ?_ | refine elL ev fun v₂ st₂ e₂ ev => ?_ | refine elLoN ev fun v₂ st₂ e₂ ev => ?_ | refine elLN ev fun v₂ st₂ e₂ ev => ?_ | refine elLo ev fun v₂ st₂ e₂ ev => ?_ | refine elLs ev fun v₂ st₂ e₂ ev => ?_ | refine elNB ev fun v₂ st₂ e₂ ev => ?_ | refine elB ev fun v₂ st₂ e₂ ev => ?_ | refine elDN ev fun v₂ st₂ e₂ ev => ?_ | refine elOI ev fun v₂ st₂ e₂ ev => ?_ | refine elP ev fun v₂ st₂ e₂ ev => ?_ | refine elO ev fun v₂ st₂ e₂ ev => ?_
    first | refine elI ev fun r er ev => ?_ | refine elR ev fun r er ev => ?_ | refine elF ev fun r er ev => ?_ | refine elN ev fun r er ev => ?_ | refine elCell ev fun r er ev => ?_ | refine elOD ev fun r er ev => ?_ | refine elOC ev fun r er ev => ?_ | refine elD ev fun r er ev => ?_ | refine elTu ev fun r er ev => ?_ | refine elL ev fun r er ev => ?_ | refine elLoN ev fun r er ev => ?_ | refine elLN ev fun r er ev => ?_ | refine elLo ev fun r er ev => ?_ | refine elLs ev fun r er ev => ?_ | refine elNB ev fun r er ev => ?_ | refine elB ev fun r er ev => ?_ | refine elDN ev fun r er ev => ?_ | refine elOI ev fun r er ev => ?_ | refine elP ev fun r er ev => ?_ | refine elO ev fun r er ev => ?_
    refine fin ?_
    refine fin2 ev ?_
    refine wpAny_Compare1 (hE.two hk' e₁ e₂ ma mb S fun u' v' h' tk α' led' S' nx hu hv => ?_) (noMarks _ _)
    exact cmV_sound (s := { s with heap := h', toks := tk }) er hu hv S' (PE.lift (PE.now (s := { s with heap := h', toks := tk }) S' (.bool _) tk) nx)
  case ite =>
    refine elP ev fun tt st₁ e₁ ev => ?_
    cases tt with
    | true =>
      refine wpAny_IfExp (hB.one hk' e₁ (.cmp ho ml mr) S fun h' tk α' led' S' nx => ?_)
      rw [if_pos rfl]
      exact wpAny_mono (hE (s := { s with heap := h', toks := tk }) hk' ev ma S') (fun w s' q => PE.lift q nx) (fun _ _ f => f)
    | false =>
      refine wpAny_IfExp (hB.one hk' e₁ (.cmp ho ml mr) S fun h' tk α' led' S' nx => ?_)
      rw [if_neg (by intro z; cases z)]
      exact wpAny_mono (hE (s := { s with heap := h', toks := tk }) hk' ev mb S') (fun w s' q => PE.lift q nx) (fun _ _ f => f)
  case idx =>
    refine cps ?_
    intro PP fin
    first | refine elI ev fun u st₁ e₁ ev => ?_ | refine elR ev fun u st₁ e₁ ev => ?_ | refine elF ev fun u st₁ e₁ ev => ?_ | refine elN ev fun u st₁ e₁ ev => ?_ | refine elCell ev fun u st₁ e₁ ev => ?_ | refine elOD ev fun u st₁ e₁ ev => ?_ | refine elOC ev fun u st₁ e₁ ev => ?_ | refine elD ev fun u st₁ e₁ ev => ?_ | refine elTu ev fun u st₁ e₁ ev => ?_ | refine elL ev fun u st₁ e₁ ev => ?_ | refine elLoN ev fun u st₁ e₁ ev => ?_ | refine elLN ev fun u st₁ e₁ ev => ?_ | refine elLo ev fun u st₁ e₁ ev => ?_ | refine elLs ev fun u st₁ e₁ ev => ?_ | refine elNB ev fun u st₁ e₁ ev => ?_ | refine elB ev fun u st₁ e₁ ev => ?_ | refine elDN ev fun u st₁ e₁ ev => ?_ | refine elOI ev fun u st₁ e₁ ev => ?_ | refine elP ev fun u st₁ e₁ ev => ?_ | refine elO ev fun u st₁ e₁ ev => ?_
    first | refine elI ev fun v₂ st₂ e₂ ev => ?_ | refine elR ev fun v₂ st₂ e₂ ev => ?_ | refine elF ev fun v₂ st₂ e₂ ev => ?_ | refine elN ev fun v₂ st₂ e₂ ev => ?_ | refine elCell ev fun v₂ st₂ e₂ ev => ?_ | refine elOD ev fun v₂ st₂ e₂ ev => ?_ | refine elOC ev fun v₂ st₂ e₂ ev => ?_ | refine elD ev fun v₂ st₂ e₂ ev => ?_ | refine elTu ev fun v₂ st₂ e₂ ev => ?_ | refine elL ev fun v₂ st₂ e₂ ev => ?_ | refine elLoN ev fun v₂ st₂ e₂ ev => ?_ | refine elLN ev fun v₂ st₂ e₂ ev => ?_ | refine elLo ev fun v₂ st₂ e₂ ev => ?_ | refine elLs ev fun v₂ st₂ e₂ ev => ?_ | refine elNB ev fun v₂ st₂ e₂ ev => ?_ | refine elB ev fun v₂ st₂ e₂ ev => ?_ | refine elDN ev fun v₂ st₂ e₂ ev => ?_ | refine elOI ev fun v₂ st₂ e₂ ev => ?_ | refine elP ev fun v₂ st₂ e₂ ev => ?_ | refine elO ev fun v₂ st₂ e₂ ev => ?_
    first | refine elI ev fun r er ev => ?_ | refine elR ev fun r er ev => ?_ | refine elF ev fun r er ev => ?_ | refine elN ev fun r er ev => ?_ | refine elCell ev fun r er ev => ?_ | refine elOD ev fun r er ev => ?_ | refine elOC ev fun r er ev => ?_ | refine elD ev fun r er ev => ?_ | refine elTu ev fun r er ev => ?_ | refine elL ev fun r er ev => ?_ | refine elLoN ev fun r er ev => ?_ | refine elLN ev fun r er ev => ?_ | refine elLo ev fun r er ev => ?_ | refine elLs ev fun r er ev => ?_ | refine elNB ev fun r er ev => ?_ | refine elB ev fun r er ev => ?_ | refine elDN ev fun r er ev => ?_ | refine elOI ev fun r er ev => ?_ | refine elP ev fun r er ev => ?_ | refine elO ev fun r er ev => ?_
    refine fin ?_
    refine fin2 ev ?_
    refine Subscript_ (hE.two hk' e₁ e₂ ma mi S fun u' v' h' tk α' led' S' nx hu hv => ?_)
    exact idxV_sound (s := { s with heap := h', toks := tk }) er hu hv S' hs fun w hw => PE.lift (PE.now (s := { s with heap := h', toks := tk }) S' hw tk) nx
  case slTo =>
    refine cps ?_
    intro PP fin
    first | refine elI ev fun u st₁ e₁ ev => ?_ | refine elR ev fun u st₁ e₁ ev => ?_ | refine elF ev fun u st₁ e₁ ev => ?_ | refine elN ev fun u st₁ e₁ ev => ?_ | refine elCell ev fun u st₁ e₁ ev => ?_ | refine elOD ev fun u st₁ e₁ ev => ?_ | refine elOC ev fun u st₁ e₁ ev => ?_ | refine elD ev fun u st₁ e₁ ev => ?_ | refine elTu ev fun u st₁ e₁ ev => ?_ | refine elL ev fun u st₁ e₁ ev => ?_ | refine elLoN ev fun u st₁ e₁ ev => ?_ | refine elLN ev fun u st₁ e₁ ev => ?_ | refine elLo ev fun u st₁ e₁ ev => ?_ | refine elLs ev fun u st₁ e₁ ev => ?_ | refine elNB ev fun u st₁ e₁ ev => ?_ | refine elB ev fun u st₁ e₁ ev => ?_ | refine elDN ev fun u st₁ e₁ ev => ?_ | refine elOI ev fun u st₁ e₁ ev => ?_ | refine elP ev fun u st₁ e₁ ev => ?_ | refine elO ev fun u st₁ e₁ ev => ?_
    first | refine elI ev fun i st₂ e₂ ev => ?_ | refine elR ev fun i st₂ e₂ ev => ?_ | refine elF ev fun i st₂ e₂ ev => ?_ | refine elN ev fun i st₂ e₂ ev => ?_ | refine elCell ev fun i st₂ e₂ ev => ?_ | refine elOD ev fun i st₂ e₂ ev => ?_ | refine elOC ev fun i st₂ e₂ ev => ?_ | refine elD ev fun i st₂ e₂ ev => ?_ | refine elTu ev fun i st₂ e₂ ev => ?_ | refine elL ev fun i st₂ e₂ ev => ?_ | refine elLoN ev fun i st₂ e₂ ev => ?_ | refine elLN ev fun i st₂ e₂ ev => ?_ | refine elLo ev fun i st₂ e₂ ev => ?_ | refine elLs ev fun i st₂ e₂ ev => ?_ | refine elNB ev fun i st₂ e₂ ev => ?_ | refine elB ev fun i st₂ e₂ ev => ?_ | refine elDN ev fun i st₂ e₂ ev => ?_ | refine elOI ev fun i st₂ e₂ ev => ?_ | refine elP ev fun i st₂ e₂ ev => ?_ | refine elO ev fun i st₂ e₂ ev => ?_
    first | refine elI ev fun i₀ k₀ xs el hj ev => ?_ | refine elR ev fun i₀ k₀ xs el hj ev => ?_ | refine elF ev fun i₀ k₀ xs el hj ev => ?_ | refine elN ev fun i₀ k₀ xs el hj ev => ?_ | refine elCell ev fun i₀ k₀ xs el hj ev => ?_ | refine elOD ev fun i₀ k₀ xs el hj ev => ?_ | refine elOC ev fun i₀ k₀ xs el hj ev => ?_ | refine elD ev fun i₀ k₀ xs el hj ev => ?_ | refine elTu ev fun i₀ k₀ xs el hj ev => ?_ | refine elL ev fun i₀ k₀ xs el hj ev => ?_ | refine elLoN ev fun i₀ k₀ xs el hj ev => ?_ | refine elLN ev fun i₀ k₀ xs el hj ev => ?_ | refine elLo ev fun i₀ k₀ xs el hj ev => ?_ | refine elLs ev fun i₀ k₀ xs el hj ev => ?_ | refine elNB ev fun i₀ k₀ xs el hj ev => ?_ | refine elB ev fun i₀ k₀ xs el hj ev => ?_ | refine elDN ev fun i₀ k₀ xs el hj ev => ?_ | refine elOI ev fun i₀ k₀ xs el hj ev => ?_ | refine elP ev fun i₀ k₀ xs el hj ev => ?_ | refine elO ev fun i₀ k₀ xs el hj ev => ?_
    refine fin ?_
    refine fin2 ev ?_
    exact slice_sound hE hk' mx e₁ e₂ me el hj (.inl ⟨rfl, rfl, rfl⟩) S
  case slFrom =>
    refine cps ?_
    intro PP fin
    first | refine elI ev fun u st₁ e₁ ev => ?_ | refine elR ev fun u st₁ e₁ ev => ?_ | refine elF ev fun u st₁ e₁ ev => ?_ | refine elN ev fun u st₁ e₁ ev => ?_ | refine elCell ev fun u st₁ e₁ ev => ?_ | refine elOD ev fun u st₁ e₁ ev => ?_ | refine elOC ev fun u st₁ e₁ ev => ?_ | refine elD ev fun u st₁ e₁ ev => ?_ | refine elTu ev fun u st₁ e₁ ev => ?_ | refine elL ev fun u st₁ e₁ ev => ?_ | refine elLoN ev fun u st₁ e₁ ev => ?_ | refine elLN ev fun u st₁ e₁ ev => ?_ | refine elLo ev fun u st₁ e₁ ev => ?_ | refine elLs ev fun u st₁ e₁ ev => ?_ | refine elNB ev fun u st₁ e₁ ev => ?_ | refine elB ev fun u st₁ e₁ ev => ?_ | refine elDN ev fun u st₁ e₁ ev => ?_ | refine elOI ev fun u st₁ e₁ ev => ?_ | refine elP ev fun u st₁ e₁ ev => ?_ | refine elO ev fun u st₁ e₁ ev => ?_
    first | refine elI ev fun i st₂ e₂ ev => ?_ | refine elR ev fun i st₂ e₂ ev => ?_ | refine elF ev fun i st₂ e₂ ev => ?_ | refine elN ev fun i st₂ e₂ ev => ?_ | refine elCell ev fun i st₂ e₂ ev => ?_ | refine elOD ev fun i st₂ e₂ ev => ?_ | refine elOC ev fun i st₂ e₂ ev => ?_ | refine elD ev fun i st₂ e₂ ev => ?_ | refine elTu ev fun i st₂ e₂ ev => ?_ | refine elL ev fun i st₂ e₂ ev => ?_ | refine elLoN ev fun i st₂ e₂ ev => ?_ | refine elLN ev fun i st₂ e₂ ev => ?_ | refine elLo ev fun i st₂ e₂ ev => ?_ | refine elLs ev fun i st₂ e₂ ev => ?_ | refine elNB ev fun i st₂ e₂ ev => ?_ | refine elB ev fun i st₂ e₂ ev => ?_ | refine elDN ev fun i st₂ e₂ ev => ?_ | refine elOI ev fun i st₂ e₂ ev => ?_ | refine elP ev fun i st₂ e₂ ev => ?_ | refine elO ev fun i st₂ e₂ ev => ?_
    first | refine elI ev fun i₀ k₀ xs el hj ev => ?_ | refine elR ev fun i₀ k₀ xs el hj ev => ?_ | refine elF ev fun i₀ k₀ xs el hj ev => ?_ | refine elN ev fun i₀ k₀ xs el hj ev => ?_ | refine elCell ev fun i₀ k₀ xs el hj ev => ?_ | refine elOD ev fun i₀ k₀ xs el hj ev => ?_ | refine elOC ev fun i₀ k₀ xs el hj ev => ?_ | refine elD ev fun i₀ k₀ xs el hj ev => ?_ | refine elTu ev fun i₀ k₀ xs el hj ev => ?_ | refine elL ev fun i₀ k₀ xs el hj ev => ?_ | refine elLoN ev fun i₀ k₀ xs el hj ev => ?_ | refine elLN ev fun i₀ k₀ xs el hj ev => ?_ | refine elLo ev fun i₀ k₀ xs el hj ev => ?_ | refine elLs ev fun i₀ k₀ xs el hj ev => ?_ | refine elNB ev fun i₀ k₀ xs el hj ev => ?_ | refine elB ev fun i₀ k₀ xs el hj ev => ?_ | refine elDN ev fun i₀ k₀ xs el hj ev => ?_ | refine elOI ev fun i₀ k₀ xs el hj ev => ?_ | refine elP ev fun i₀ k₀ xs el hj ev => ?_ | refine elO ev fun i₀ k₀ xs el hj ev => ?_
    refine fin ?_
    refine fin2 ev ?_
    exact slice_sound hE hk' mx e₁ e₂ me el hj (.inr ⟨rfl, rfl, rfl⟩) S
  case rev =>
    refine cps ?_
    intro PP fin
    first | refine elI ev fun u st₁ e₁ ev => ?_ | refine elR ev fun u st₁ e₁ ev => ?_ | refine elF ev fun u st₁ e₁ ev => ?_ | refine elN ev fun u st₁ e₁ ev => ?_ | refine elCell ev fun u st₁ e₁ ev => ?_ | refine elOD ev fun u st₁ e₁ ev => ?_ | refine elOC ev fun u st₁ e₁ ev => ?_ | refine elD ev fun u st₁ e₁ ev => ?_ | refine elTu ev fun u st₁ e₁ ev => ?_ | refine elL ev fun u st₁ e₁ ev => ?_ | refine elLoN ev fun u st₁ e₁ ev => ?_ | refine elLN ev fun u st₁ e₁ ev => ?_ | refine elLo ev fun u st₁ e₁ ev => ?_ | refine elLs ev fun u st₁ e₁ ev => ?_ | refine elNB ev fun u st₁ e₁ ev => ?_ | refine elB ev fun u st₁ e₁ ev => ?_ | refine elDN ev fun u st₁ e₁ ev => ?_ | refine elOI ev fun u st₁ e₁ ev => ?_ | refine elP ev fun u st₁ e₁ ev => ?_ | refine elO ev fun u st₁ e₁ ev => ?_
    first | refine elI ev fun i₀ k₀ xs el ev => ?_ | refine elR ev fun i₀ k₀ xs el ev => ?_ | refine elF ev fun i₀ k₀ xs el ev => ?_ | refine elN ev fun i₀ k₀ xs el ev => ?_ | refine elCell ev fun i₀ k₀ xs el ev => ?_ | refine elOD ev fun i₀ k₀ xs el ev => ?_ | refine elOC ev fun i₀ k₀ xs el ev => ?_ | refine elD ev fun i₀ k₀ xs el ev => ?_ | refine elTu ev fun i₀ k₀ xs el ev => ?_ | refine elL ev fun i₀ k₀ xs el ev => ?_ | refine elLoN ev fun i₀ k₀ xs el ev => ?_ | refine elLN ev fun i₀ k₀ xs el ev => ?_ | refine elLo ev fun i₀ k₀ xs el ev => ?_ | refine elLs ev fun i₀ k₀ xs el ev => ?_ | refine elNB ev fun i₀ k₀ xs el ev => ?_ | refine elB ev fun i₀ k₀ xs el ev => ?_ | refine elDN ev fun i₀ k₀ xs el ev => ?_ | refine elOI ev fun i₀ k₀ xs el ev => ?_ | refine elP ev fun i₀ k₀ xs el ev => ?_ | refine elO ev fun i₀ k₀ xs el ev => ?_
    refine fin ?_
    refine fin2 ev ?_
    exact rev_sound hE hk' mx e₁ el S
  case len =>
    refine cps ?_
    intro PP fin
    first | refine elI ev fun u st₁ e₁ ev => ?_ | refine elR ev fun u st₁ e₁ ev => ?_ | refine elF ev fun u st₁ e₁ ev => ?_ | refine elN ev fun u st₁ e₁ ev => ?_ | refine elCell ev fun u st₁ e₁ ev => ?_ | refine elOD ev fun u st₁ e₁ ev => ?_ | refine elOC ev fun u st₁ e₁ ev => ?_ | refine elD ev fun u st₁ e₁ ev => ?_ | refine elTu ev fun u st₁ e₁ ev => ?_ | refine elL ev fun u st₁ e₁ ev => ?_ | refine elLoN ev fun u st₁ e₁ ev => ?_ | refine elLN ev fun u st₁ e₁ ev => ?_ | refine elLo ev fun u st₁ e₁ ev => ?_ | refine elLs ev fun u st₁ e₁ ev => ?_ | refine elNB ev fun u st₁ e₁ ev => ?_ | refine elB ev fun u st₁ e₁ ev => ?_ | refine elDN ev fun u st₁ e₁ ev => ?_ | refine elOI ev fun u st₁ e₁ ev => ?_ | refine elP ev fun u st₁ e₁ ev => ?_ | refine elO ev fun u st₁ e₁ ev => ?_
    first | refine elI ev fun i₀ k₀ xs el ev => ?_ | refine elR ev fun i₀ k₀ xs el ev => ?_ | refine elF ev fun i₀ k₀ xs el ev => ?_ | refine elN ev fun i₀ k₀ xs el ev => ?_ | refine elCell ev fun i₀ k₀ xs el ev => ?_ | refine elOD ev fun i₀ k₀ xs el ev => ?_ | refine elOC ev fun i₀ k₀ xs el ev => ?_ | refine elD ev fun i₀ k₀ xs el ev => ?_ | refine elTu ev fun i₀ k₀ xs el ev => ?_ | refine elL ev fun i₀ k₀ xs el ev => ?_ | refine elLoN ev fun i₀ k₀ xs el ev => ?_ | refine elLN ev fun i₀ k₀ xs el ev => ?_ | refine elLo ev fun i₀ k₀ xs el ev => ?_ | refine elLs ev fun i₀ k₀ xs el ev => ?_ | refine elNB ev fun i₀ k₀ xs el ev => ?_ | refine elB ev fun i₀ k₀ xs el ev => ?_ | refine elDN ev fun i₀ k₀ xs el ev => ?_ | refine elOI ev fun i₀ k₀ xs el ev => ?_ | refine elP ev fun i₀ k₀ xs el ev => ?_ | refine elO ev fun i₀ k₀ xs el ev => ?_
    refine fin ?_
    refine fin2 ev ?_
    refine Call_ (name_bn hr hkd boot_len' (by decide) (by decide) S ?_)
    refine PyProof.Rows.callWith_builtin1 (spliced_more (hE.one hk' e₁ ma S fun v' h' tk α₁ led₁ S₁ nx₁ hv => spliced_none ?_) (ma.star _ _)) (ma.star _ _) rfl
    obtain ⟨a, its, c, rfl, _, g, rs, z⟩ := lst_at (s := { s with heap := h', toks := tk }) el hv S₁
    refine call_len_list (s := { s with heap := h', toks := tk }) ⟨_, g, rfl, c, rfl⟩ (len63 z) ?_
    rw [len_eq, rs.length, Array.length_toList]
    exact PE.lift (PE.now (s := { s with heap := h', toks := tk }) S₁ (.int _ _) _) nx₁
  case sum =>
    refine cps ?_
    intro PP fin
    first | refine elI ev fun u st₁ e₁ ev => ?_ | refine elR ev fun u st₁ e₁ ev => ?_ | refine elF ev fun u st₁ e₁ ev => ?_ | refine elN ev fun u st₁ e₁ ev => ?_ | refine elCell ev fun u st₁ e₁ ev => ?_ | refine elOD ev fun u st₁ e₁ ev => ?_ | refine elOC ev fun u st₁ e₁ ev => ?_ | refine elD ev fun u st₁ e₁ ev => ?_ | refine elTu ev fun u st₁ e₁ ev => ?_ | refine elL ev fun u st₁ e₁ ev => ?_ | refine elLoN ev fun u st₁ e₁ ev => ?_ | refine elLN ev fun u st₁ e₁ ev => ?_ | refine elLo ev fun u st₁ e₁ ev => ?_ | refine elLs ev fun u st₁ e₁ ev => ?_ | refine elNB ev fun u st₁ e₁ ev => ?_ | refine elB ev fun u st₁ e₁ ev => ?_ | refine elDN ev fun u st₁ e₁ ev => ?_ | refine elOI ev fun u st₁ e₁ ev => ?_ | refine elP ev fun u st₁ e₁ ev => ?_ | refine elO ev fun u st₁ e₁ ev => ?_
    first | refine elI ev fun i₀ k₀ xs el ev => ?_ | refine elR ev fun i₀ k₀ xs el ev => ?_ | refine elF ev fun i₀ k₀ xs el ev => ?_ | refine elN ev fun i₀ k₀ xs el ev => ?_ | refine elCell ev fun i₀ k₀ xs el ev => ?_ | refine elOD ev fun i₀ k₀ xs el ev => ?_ | refine elOC ev fun i₀ k₀ xs el ev => ?_ | refine elD ev fun i₀ k₀ xs el ev => ?_ | refine elTu ev fun i₀ k₀ xs el ev => ?_ | refine elL ev fun i₀ k₀ xs el ev => ?_ | refine elLoN ev fun i₀ k₀ xs el ev => ?_ | refine elLN ev fun i₀ k₀ xs el ev => ?_ | refine elLo ev fun i₀ k₀ xs el ev => ?_ | refine elLs ev fun i₀ k₀ xs el ev => ?_ | refine elNB ev fun i₀ k₀ xs el ev => ?_ | refine elB ev fun i₀ k₀ xs el ev => ?_ | refine elDN ev fun i₀ k₀ xs el ev => ?_ | refine elOI ev fun i₀ k₀ xs el ev => ?_ | refine elP ev fun i₀ k₀ xs el ev => ?_ | refine elO ev fun i₀ k₀ xs el ev => ?_
    first | refine elI ev fun r er ev => ?_ | refine elR ev fun r er ev => ?_ | refine elF ev fun r er ev => ?_ | refine elN ev fun r er ev => ?_ | refine elCell ev fun r er ev => ?_ | refine elOD ev fun r er ev => ?_ | refine elOC ev fun r er ev => ?_ | refine elD ev fun r er ev => ?_ | refine elTu ev fun r er ev => ?_ | refine elL ev fun r er ev => ?_ | refine elLoN ev fun r er ev => ?_ | refine elLN ev fun r er ev => ?_ | refine elLo ev fun r er ev => ?_ | refine elLs ev fun r er ev => ?_ | refine elNB ev fun r er ev => ?_ | refine elB ev fun r er ev => ?_ | refine elDN ev fun r er ev => ?_ | refine elOI ev fun r er ev => ?_ | refine elP ev fun r er ev => ?_ | refine elO ev fun r er ev => ?_
    refine fin ?_
    refine fin2 ev ?_
    refine Call_ (name_bn hr hkd boot_sum' (by decide) (by decide) S ?_)
    refine PyProof.Rows.callWith_builtin1 (spliced_more (hE.one hk' e₁ ma S fun v' h' tk α₁ led₁ S₁ nx₁ hv => spliced_none ?_) (ma.star _ _)) (ma.star _ _) rfl
    obtain ⟨a, its, c, rfl, _, g, rs, z⟩ := lst_at (s := { s with heap := h', toks := tk }) el hv S₁
    exact wpAny_mono (sum_sound (s := { s with heap := h', toks := tk }) ⟨_, g, rfl, c, rfl⟩ rs er S₁) (fun w s' q => PE.lift q nx₁) (fun _ _ f => f)
  case min =>
    refine cps ?_
    intro PP fin
    first | refine elI ev fun u st₁ e₁ ev => ?_ | refine elR ev fun u st₁ e₁ ev => ?_ | refine elF ev fun u st₁ e₁ ev => ?_ | refine elN ev fun u st₁ e₁ ev => ?_ | refine elCell ev fun u st₁ e₁ ev => ?_ | refine elOD ev fun u st₁ e₁ ev => ?_ | refine elOC ev fun u st₁ e₁ ev => ?_ | refine elD ev fun u st₁ e₁ ev => ?_ | refine elTu ev fun u st₁ e₁ ev => ?_ | refine elL ev fun u st₁ e₁ ev => ?_ | refine elLoN ev fun u st₁ e₁ ev => ?_ | refine elLN ev fun u st₁ e₁ ev => ?_ | refine elLo ev fun u st₁ e₁ ev => ?_ | refine elLs ev fun u st₁ e₁ ev => ?_ | refine elNB ev fun u st₁ e₁ ev => ?_ | refine elB ev fun u st₁ e₁ ev => ?_ | refine elDN ev fun u st₁ e₁ ev => ?_ | refine elOI ev fun u st₁ e₁ ev => ?_ | refine elP ev fun u st₁ e₁ ev => ?_ | refine elO ev fun u st₁ e₁ ev => ?_
    first | refine elI ev fun v₂ st₂ e₂ ev => ?_ | refine elR ev fun v₂ st₂ e₂ ev => ?_ | refine elF ev fun v₂ st₂ e₂ ev => ?_ | refine elN ev fun v₂ st₂ e₂ ev => ?_ | refine elCell ev fun v₂ st₂ e₂ ev => ?_ | refine elOD ev fun v₂ st₂ e₂ ev => ?_ | refine elOC ev fun v₂ st₂ e₂ ev => ?_ | refine elD ev fun v₂ st₂ e₂ ev => ?_ | refine elTu ev fun v₂ st₂ e₂ ev => ?_ | refine elL ev fun v₂ st₂ e₂ ev => ?_ | refine elLoN ev fun v₂ st₂ e₂ ev => ?_ | refine elLN ev fun v₂ st₂ e₂ ev => ?_ | refine elLo ev fun v₂ st₂ e₂ ev => ?_ | refine elLs ev fun v₂ st₂ e₂ ev => ?_ | refine elNB ev fun v₂ st₂ e₂ ev => ?_ | refine elB ev fun v₂ st₂ e₂ ev => ?_ | refine elDN ev fun v₂ st₂ e₂ ev => ?_ | refine elOI ev fun v₂ st₂ e₂ ev => ?_ | refine elP ev fun v₂ st₂ e₂ ev => ?_ | refine elO ev fun v₂ st₂ e₂ ev => ?_
    refine fin ?_
    refine fin2 ev ?_
    refine Call_ (name_bn hr hkd boot_min' (by decide) (by decide) S ?_)
    refine PyProof.Rows.callWith_builtin1 (spliced_more (hE.one hk' e₁ ma S fun u' h' tk α₁ led₁ S₁ nx₁ hu => spliced_more (hE.one hk' e₂ mb S₁ fun v' h2 tk2 α₂ led₂ S₂ nx₂ hv => spliced_none ?_) (mb.star _ _)) (ma.star _ _)) (ma.star _ _) (by rw [mb.star]; rfl)
    obtain ⟨t, rfl⟩ := hu.ofInt
    obtain ⟨t', rfl⟩ := hv.ofInt
    refine min_two_ints (s := { s with heap := h2, toks := tk2 }) S₂.gd.hnd fun h3 tk3 keep => ?_
    refine ⟨h3, tk3, α₂, led₂, rfl, S₂.grow (s := { s with heap := h2, toks := tk2 }) keep, nx₁.trans nx₂, ?_⟩
    by_cases q : v₂ < u
    · rw [if_pos q, decide_eq_true q]; exact .int _ _
    · rw [if_neg q, decide_eq_false q]; exact .int _ _
  case call =>
    first | refine elI ev fun g st₁ e₁ ev => ?_ | refine elR ev fun g st₁ e₁ ev => ?_ | refine elF ev fun g st₁ e₁ ev => ?_ | refine elN ev fun g st₁ e₁ ev => ?_ | refine elCell ev fun g st₁ e₁ ev => ?_ | refine elOD ev fun g st₁ e₁ ev => ?_ | refine elOC ev fun g st₁ e₁ ev => ?_ | refine elD ev fun g st₁ e₁ ev => ?_ | refine elTu ev fun g st₁ e₁ ev => ?_ | refine elL ev fun g st₁ e₁ ev => ?_ | refine elLoN ev fun g st₁ e₁ ev => ?_ | refine elLN ev fun g st₁ e₁ ev => ?_ | refine elLo ev fun g st₁ e₁ ev => ?_ | refine elLs ev fun g st₁ e₁ ev => ?_ | refine elNB ev fun g st₁ e₁ ev => ?_ | refine elB ev fun g st₁ e₁ ev => ?_ | refine elDN ev fun g st₁ e₁ ev => ?_ | refine elOI ev fun g st₁ e₁ ev => ?_ | refine elP ev fun g st₁ e₁ ev => ?_ | refine elO ev fun g st₁ e₁ ev => ?_
    first | refine elI ev fun vs st₂ e₂ ev => ?_ | refine elR ev fun vs st₂ e₂ ev => ?_ | refine elF ev fun vs st₂ e₂ ev => ?_ | refine elN ev fun vs st₂ e₂ ev => ?_ | refine elCell ev fun vs st₂ e₂ ev => ?_ | refine elOD ev fun vs st₂ e₂ ev => ?_ | refine elOC ev fun vs st₂ e₂ ev => ?_ | refine elD ev fun vs st₂ e₂ ev => ?_ | refine elTu ev fun vs st₂ e₂ ev => ?_ | refine elL ev fun vs st₂ e₂ ev => ?_ | refine elLoN ev fun vs st₂ e₂ ev => ?_ | refine elLN ev fun vs st₂ e₂ ev => ?_ | refine elLo ev fun vs st₂ e₂ ev => ?_ | refine elLs ev fun vs st₂ e₂ ev => ?_ | refine elNB ev fun vs st₂ e₂ ev => ?_ | refine elB ev fun vs st₂ e₂ ev => ?_ | refine elDN ev fun vs st₂ e₂ ev => ?_ | refine elOI ev fun vs st₂ e₂ ev => ?_ | refine elP ev fun vs st₂ e₂ ev => ?_ | refine elO ev fun vs st₂ e₂ ev => ?_
    first | refine elI ev fun ts e₃ ev => ?_ | refine elR ev fun ts e₃ ev => ?_ | refine elF ev fun ts e₃ ev => ?_ | refine elN ev fun ts e₃ ev => ?_ | refine elCell ev fun ts e₃ ev => ?_ | refine elOD ev fun ts e₃ ev => ?_ | refine elOC ev fun ts e₃ ev => ?_ | refine elD ev fun ts e₃ ev => ?_ | refine elTu ev fun ts e₃ ev => ?_ | refine elL ev fun ts e₃ ev => ?_ | refine elLoN ev fun ts e₃ ev => ?_ | refine elLN ev fun ts e₃ ev => ?_ | refine elLo ev fun ts e₃ ev => ?_ | refine elLs ev fun ts e₃ ev => ?_ | refine elNB ev fun ts e₃ ev => ?_ | refine elB ev fun ts e₃ ev => ?_ | refine elDN ev fun ts e₃ ev => ?_ | refine elOI ev fun ts e₃ ev => ?_ | refine elP ev fun ts e₃ ev => ?_ | refine elO ev fun ts e₃ ev => ?_
    first | refine elI ev fun r e₄ ev => ?_ | refine elR ev fun r e₄ ev => ?_ | refine elF ev fun r e₄ ev => ?_ | refine elN ev fun r e₄ ev => ?_ | refine elCell ev fun r e₄ ev => ?_ | refine elOD ev fun r e₄ ev => ?_ | refine elOC ev fun r e₄ ev => ?_ | refine elD ev fun r e₄ ev => ?_ | refine elTu ev fun r e₄ ev => ?_ | refine elL ev fun r e₄ ev => ?_ | refine elLoN ev fun r e₄ ev => ?_ | refine elLN ev fun r e₄ ev => ?_ | refine elLo ev fun r e₄ ev => ?_ | refine elLs ev fun r e₄ ev => ?_ | refine elNB ev fun r e₄ ev => ?_ | refine elB ev fun r e₄ ev => ?_ | refine elDN ev fun r e₄ ev => ?_ | refine elOI ev fun r e₄ ev => ?_ | refine elP ev fun r e₄ ev => ?_ | refine elO ev fun r e₄ ev => ?_
    obtain ⟨o, fd, hfd, hKg⟩ := (hL e₄).1
    refine Call_ (hE.one hk' e₁ mf S fun f' h' tk α₁ led₁ S₁ nx₁ hf => ?_)
    rw [hf.ofFn]
    refine callWith_def hfd (evs_sound hE hk' e₂ (.cons ma mas) S₁ fun vs' h2 tk2 α₂ led₂ S₂ nx₂ hvs => ⟨S₂.fr.keep _ _ (S₂.gd.inK _ _ hKg), ?_⟩) (ma.star _ _)
    have := call_sound (s := { s with heap := h2, toks := tk2 }) hL hk e₄ e₃ hvs S₂
    generalize thaw .froz r st₂.n st₂.H = z at ev this
    obtain ⟨z1, z2, z3⟩ := z
    cases ev
    exact wpAny_mono this (fun w s' q => PE.lift q (nx₁.trans nx₂)) (fun _ _ f => f)
  case get =>
    refine cps ?_
    intro PP fin
    first | refine elI ev fun i st₁ e₁ ev => ?_ | refine elR ev fun i st₁ e₁ ev => ?_ | refine elF ev fun i st₁ e₁ ev => ?_ | refine elN ev fun i st₁ e₁ ev => ?_ | refine elCell ev fun i st₁ e₁ ev => ?_ | refine elOD ev fun i st₁ e₁ ev => ?_ | refine elOC ev fun i st₁ e₁ ev => ?_ | refine elD ev fun i st₁ e₁ ev => ?_ | refine elTu ev fun i st₁ e₁ ev => ?_ | refine elL ev fun i st₁ e₁ ev => ?_ | refine elLoN ev fun i st₁ e₁ ev => ?_ | refine elLN ev fun i st₁ e₁ ev => ?_ | refine elLo ev fun i st₁ e₁ ev => ?_ | refine elLs ev fun i st₁ e₁ ev => ?_ | refine elNB ev fun i st₁ e₁ ev => ?_ | refine elB ev fun i st₁ e₁ ev => ?_ | refine elDN ev fun i st₁ e₁ ev => ?_ | refine elOI ev fun i st₁ e₁ ev => ?_ | refine elP ev fun i st₁ e₁ ev => ?_ | refine elO ev fun i st₁ e₁ ev => ?_
    first | refine elI ev fun k₁ es₁ eg₁ ev => ?_ | refine elR ev fun k₁ es₁ eg₁ ev => ?_ | refine elF ev fun k₁ es₁ eg₁ ev => ?_ | refine elN ev fun k₁ es₁ eg₁ ev => ?_ | refine elCell ev fun k₁ es₁ eg₁ ev => ?_ | refine elOD ev fun k₁ es₁ eg₁ ev => ?_ | refine elOC ev fun k₁ es₁ eg₁ ev => ?_ | refine elD ev fun k₁ es₁ eg₁ ev => ?_ | refine elTu ev fun k₁ es₁ eg₁ ev => ?_ | refine elL ev fun k₁ es₁ eg₁ ev => ?_ | refine elLoN ev fun k₁ es₁ eg₁ ev => ?_ | refine elLN ev fun k₁ es₁ eg₁ ev => ?_ | refine elLo ev fun k₁ es₁ eg₁ ev => ?_ | refine elLs ev fun k₁ es₁ eg₁ ev => ?_ | refine elNB ev fun k₁ es₁ eg₁ ev => ?_ | refine elB ev fun k₁ es₁ eg₁ ev => ?_ | refine elDN ev fun k₁ es₁ eg₁ ev => ?_ | refine elOI ev fun k₁ es₁ eg₁ ev => ?_ | refine elP ev fun k₁ es₁ eg₁ ev => ?_ | refine elO ev fun k₁ es₁ eg₁ ev => ?_
    first | refine elI ev fun a st₂ e₂ ev => ?_ | refine elR ev fun a st₂ e₂ ev => ?_ | refine elF ev fun a st₂ e₂ ev => ?_ | refine elN ev fun a st₂ e₂ ev => ?_ | refine elCell ev fun a st₂ e₂ ev => ?_ | refine elOD ev fun a st₂ e₂ ev => ?_ | refine elOC ev fun a st₂ e₂ ev => ?_ | refine elD ev fun a st₂ e₂ ev => ?_ | refine elTu ev fun a st₂ e₂ ev => ?_ | refine elL ev fun a st₂ e₂ ev => ?_ | refine elLoN ev fun a st₂ e₂ ev => ?_ | refine elLN ev fun a st₂ e₂ ev => ?_ | refine elLo ev fun a st₂ e₂ ev => ?_ | refine elLs ev fun a st₂ e₂ ev => ?_ | refine elNB ev fun a st₂ e₂ ev => ?_ | refine elB ev fun a st₂ e₂ ev => ?_ | refine elDN ev fun a st₂ e₂ ev => ?_ | refine elOI ev fun a st₂ e₂ ev => ?_ | refine elP ev fun a st₂ e₂ ev => ?_ | refine elO ev fun a st₂ e₂ ev => ?_
    first | refine elI ev fun b st₃ e₃ ev => ?_ | refine elR ev fun b st₃ e₃ ev => ?_ | refine elF ev fun b st₃ e₃ ev => ?_ | refine elN ev fun b st₃ e₃ ev => ?_ | refine elCell ev fun b st₃ e₃ ev => ?_ | refine elOD ev fun b st₃ e₃ ev => ?_ | refine elOC ev fun b st₃ e₃ ev => ?_ | refine elD ev fun b st₃ e₃ ev => ?_ | refine elTu ev fun b st₃ e₃ ev => ?_ | refine elL ev fun b st₃ e₃ ev => ?_ | refine elLoN ev fun b st₃ e₃ ev => ?_ | refine elLN ev fun b st₃ e₃ ev => ?_ | refine elLo ev fun b st₃ e₃ ev => ?_ | refine elLs ev fun b st₃ e₃ ev => ?_ | refine elNB ev fun b st₃ e₃ ev => ?_ | refine elB ev fun b st₃ e₃ ev => ?_ | refine elDN ev fun b st₃ e₃ ev => ?_ | refine elOI ev fun b st₃ e₃ ev => ?_ | refine elP ev fun b st₃ e₃ ev => ?_ | refine elO ev fun b st₃ e₃ ev => ?_
    first | refine elI ev fun c st₄ e₄ ev => ?_ | refine elR ev fun c st₄ e₄ ev => ?_ | refine elF ev fun c st₄ e₄ ev => ?_ | refine elN ev fun c st₄ e₄ ev => ?_ | refine elCell ev fun c st₄ e₄ ev => ?_ | refine elOD ev fun c st₄ e₄ ev => ?_ | refine elOC ev fun c st₄ e₄ ev => ?_ | refine elD ev fun c st₄ e₄ ev => ?_ | refine elTu ev fun c st₄ e₄ ev => ?_ | refine elL ev fun c st₄ e₄ ev => ?_ | refine elLoN ev fun c st₄ e₄ ev => ?_ | refine elLN ev fun c st₄ e₄ ev => ?_ | refine elLo ev fun c st₄ e₄ ev => ?_ | refine elLs ev fun c st₄ e₄ ev => ?_ | refine elNB ev fun c st₄ e₄ ev => ?_ | refine elB ev fun c st₄ e₄ ev => ?_ | refine elDN ev fun c st₄ e₄ ev => ?_ | refine elOI ev fun c st₄ e₄ ev => ?_ | refine elP ev fun c st₄ e₄ ev => ?_ | refine elO ev fun c st₄ e₄ ev => ?_
    first | refine elI ev fun k₀ es eg ev => ?_ | refine elR ev fun k₀ es eg ev => ?_ | refine elF ev fun k₀ es eg ev => ?_ | refine elN ev fun k₀ es eg ev => ?_ | refine elCell ev fun k₀ es eg ev => ?_ | refine elOD ev fun k₀ es eg ev => ?_ | refine elOC ev fun k₀ es eg ev => ?_ | refine elD ev fun k₀ es eg ev => ?_ | refine elTu ev fun k₀ es eg ev => ?_ | refine elL ev fun k₀ es eg ev => ?_ | refine elLoN ev fun k₀ es eg ev => ?_ | refine elLN ev fun k₀ es eg ev => ?_ | refine elLo ev fun k₀ es eg ev => ?_ | refine elLs ev fun k₀ es eg ev => ?_ | refine elNB ev fun k₀ es eg ev => ?_ | refine elB ev fun k₀ es eg ev => ?_ | refine elDN ev fun k₀ es eg ev => ?_ | refine elOI ev fun k₀ es eg ev => ?_ | refine elP ev fun k₀ es eg ev => ?_ | refine elO ev fun k₀ es eg ev => ?_
    refine fin ?_
    refine fin2 ev ?_
    refine wpAny_Call_method2_late rfl hp (by rw [show ∀ (e₁ e₂ e₃ : Expr) (k : Nat) (q : Pos), starEach [Expr.Tuple [e₁, e₂] k q, e₃] env = (false, eval (Expr.Tuple [e₁, e₂] k q) env) :: starEach [e₃] env from fun _ _ _ _ _ => rfl, md.star]; rfl) ?_
    refine hE.one hk' e₁ mx S fun u' h' tk α₁ led₁ S₁ nx₁ hu => ?_
    obtain ⟨d, rfl, hd⟩ := hu.ofRef
    obtain ⟨xs₁, hx₁, _, ⟨_, _, hob⟩, hsy⟩ := S₁.dictAt (s := { s with heap := h', toks := tk }) eg₁ hd
    refine ⟨"dict", "dict.get", F.plainAttrs_dict, F.slot_dict_get, F.type_dict_get, hx₁.typeIs, fun z hz => by cases hz; exact ⟨_, hob, rfl⟩,
      wpAny_dict_get2_heap (knd := tupleKind (intKind C.prog C.w)) (by have := S.gd.units; show _ + 1 < 9900; omega) hsy ?_⟩
    refine key_sound hE hk' e₂ e₃ m1 m2 S₁ fun D h2 tk2 α₂ led₂ t u S₂ nx₂ hD low hDL hD0 => ?_
    have S₃ := S₂.hold (s := { s with heap := h2, toks := tk2 }) hD low hDL hD0
    refine hE.one (s := { s with heap := h2, toks := tk2 }) hk' e₄ md S₃ fun w' h4 tk4 α₄ led₄ S₄ nx₄ hw => ?_
    obtain ⟨t', rfl⟩ := hw.ofInt
    have S₅ := S₄.drop (s := { s with heap := h4, toks := tk4 }) S.ns
    obtain ⟨xs, hx, dr, _, _⟩ := S₅.dictAt (s := { s with heap := h4, toks := tk4 }) eg (nx₄.le _ _ (nx₂.le _ _ hd))
    have hD4 := (S₄.ax _ List.mem_cons_self).1
    refine ⟨D, _, xs, rfl, key_is hD4, hx, ?_⟩
    have nx : Nx α led α₄ led₄ := (nx₁.trans nx₂).trans ⟨nx₄.le⟩
    have res : VR α₄ (.int (match dget es [a, b] with | some v => v | none => c)) ((Option.map (fun x => x.2) (atKey xs [a, b])).getD (.int c t')) := by
      cases q : dget es [a, b] with
      | some v => obtain ⟨a', t'', hat⟩ := (dget_at dr _).1 _ q; rw [hat]; exact .int _ _
      | none => rw [(dget_at dr _).2 q]; exact .int _ _
    exact PE.lift (PE.now (s := { s with heap := h4, toks := tk4 }) S₅ res _) nx
  case dix =>
    refine cps ?_
    intro PP fin
    first | refine elI ev fun i st₁ e₁ ev => ?_ | refine elR ev fun i st₁ e₁ ev => ?_ | refine elF ev fun i st₁ e₁ ev => ?_ | refine elN ev fun i st₁ e₁ ev => ?_ | refine elCell ev fun i st₁ e₁ ev => ?_ | refine elOD ev fun i st₁ e₁ ev => ?_ | refine elOC ev fun i st₁ e₁ ev => ?_ | refine elD ev fun i st₁ e₁ ev => ?_ | refine elTu ev fun i st₁ e₁ ev => ?_ | refine elL ev fun i st₁ e₁ ev => ?_ | refine elLoN ev fun i st₁ e₁ ev => ?_ | refine elLN ev fun i st₁ e₁ ev => ?_ | refine elLo ev fun i st₁ e₁ ev => ?_ | refine elLs ev fun i st₁ e₁ ev => ?_ | refine elNB ev fun i st₁ e₁ ev => ?_ | refine elB ev fun i st₁ e₁ ev => ?_ | refine elDN ev fun i st₁ e₁ ev => ?_ | refine elOI ev fun i st₁ e₁ ev => ?_ | refine elP ev fun i st₁ e₁ ev => ?_ | refine elO ev fun i st₁ e₁ ev => ?_
    first | refine elI ev fun a st₂ e₂ ev => ?_ | refine elR ev fun a st₂ e₂ ev => ?_ | refine elF ev fun a st₂ e₂ ev => ?_ | refine elN ev fun a st₂ e₂ ev => ?_ | refine elCell ev fun a st₂ e₂ ev => ?_ | refine elOD ev fun a st₂ e₂ ev => ?_ | refine elOC ev fun a st₂ e₂ ev => ?_ | refine elD ev fun a st₂ e₂ ev => ?_ | refine elTu ev fun a st₂ e₂ ev => ?_ | refine elL ev fun a st₂ e₂ ev => ?_ | refine elLoN ev fun a st₂ e₂ ev => ?_ | refine elLN ev fun a st₂ e₂ ev => ?_ | refine elLo ev fun a st₂ e₂ ev => ?_ | refine elLs ev fun a st₂ e₂ ev => ?_ | refine elNB ev fun a st₂ e₂ ev => ?_ | refine elB ev fun a st₂ e₂ ev => ?_ | refine elDN ev fun a st₂ e₂ ev => ?_ | refine elOI ev fun a st₂ e₂ ev => ?_ | refine elP ev fun a st₂ e₂ ev => ?_ | refine elO ev fun a st₂ e₂ ev => ?_
    first | refine elI ev fun b st₃ e₃ ev => ?_ | refine elR ev fun b st₃ e₃ ev => ?_ | refine elF ev fun b st₃ e₃ ev => ?_ | refine elN ev fun b st₃ e₃ ev => ?_ | refine elCell ev fun b st₃ e₃ ev => ?_ | refine elOD ev fun b st₃ e₃ ev => ?_ | refine elOC ev fun b st₃ e₃ ev => ?_ | refine elD ev fun b st₃ e₃ ev => ?_ | refine elTu ev fun b st₃ e₃ ev => ?_ | refine elL ev fun b st₃ e₃ ev => ?_ | refine elLoN ev fun b st₃ e₃ ev => ?_ | refine elLN ev fun b st₃ e₃ ev => ?_ | refine elLo ev fun b st₃ e₃ ev => ?_ | refine elLs ev fun b st₃ e₃ ev => ?_ | refine elNB ev fun b st₃ e₃ ev => ?_ | refine elB ev fun b st₃ e₃ ev => ?_ | refine elDN ev fun b st₃ e₃ ev => ?_ | refine elOI ev fun b st₃ e₃ ev => ?_ | refine elP ev fun b st₃ e₃ ev => ?_ | refine elO ev fun b st₃ e₃ ev => ?_
    first | refine elI ev fun k₀ es eg ev => ?_ | refine elR ev fun k₀ es eg ev => ?_ | refine elF ev fun k₀ es eg ev => ?_ | refine elN ev fun k₀ es eg ev => ?_ | refine elCell ev fun k₀ es eg ev => ?_ | refine elOD ev fun k₀ es eg ev => ?_ | refine elOC ev fun k₀ es eg ev => ?_ | refine elD ev fun k₀ es eg ev => ?_ | refine elTu ev fun k₀ es eg ev => ?_ | refine elL ev fun k₀ es eg ev => ?_ | refine elLoN ev fun k₀ es eg ev => ?_ | refine elLN ev fun k₀ es eg ev => ?_ | refine elLo ev fun k₀ es eg ev => ?_ | refine elLs ev fun k₀ es eg ev => ?_ | refine elNB ev fun k₀ es eg ev => ?_ | refine elB ev fun k₀ es eg ev => ?_ | refine elDN ev fun k₀ es eg ev => ?_ | refine elOI ev fun k₀ es eg ev => ?_ | refine elP ev fun k₀ es eg ev => ?_ | refine elO ev fun k₀ es eg ev => ?_
    first | refine elI ev fun r er ev => ?_ | refine elR ev fun r er ev => ?_ | refine elF ev fun r er ev => ?_ | refine elN ev fun r er ev => ?_ | refine elCell ev fun r er ev => ?_ | refine elOD ev fun r er ev => ?_ | refine elOC ev fun r er ev => ?_ | refine elD ev fun r er ev => ?_ | refine elTu ev fun r er ev => ?_ | refine elL ev fun r er ev => ?_ | refine elLoN ev fun r er ev => ?_ | refine elLN ev fun r er ev => ?_ | refine elLo ev fun r er ev => ?_ | refine elLs ev fun r er ev => ?_ | refine elNB ev fun r er ev => ?_ | refine elB ev fun r er ev => ?_ | refine elDN ev fun r er ev => ?_ | refine elOI ev fun r er ev => ?_ | refine elP ev fun r er ev => ?_ | refine elO ev fun r er ev => ?_
    refine fin ?_
    refine fin2 ev ?_
    refine Subscript_ (hE.one hk' e₁ mx S fun u' h' tk α₁ led₁ S₁ nx₁ hu => ?_)
    obtain ⟨d, rfl, hd⟩ := hu.ofRef
    refine key_sound hE hk' e₂ e₃ m1 m2 S₁ fun D h2 tk2 α₂ led₂ t u S₂ nx₂ hD low hDL hD0 => ?_
    obtain ⟨xs, hx, dr, _, hsy⟩ := S₂.dictAt (s := { s with heap := h2, toks := tk2 }) eg (nx₂.le _ _ hd)
    obtain ⟨a', t', hat⟩ := (dget_at dr _).1 _ er
    refine tail_any (s := { s with heap := h2, toks := tk2 }) hx.typeIs slot_dict_getitem.lookup (wpAny_getItem_heap (by have := S₂.gd.units; show _ + 1 < 9900; omega) (key_is hD) hx hat ?_) rfl
    exact PE.lift (PE.now (s := { s with heap := h2, toks := tk2 }) S₂ (.int _ _) _) (nx₁.trans nx₂)
  case list =>
    refine cps ?_
    intro PP fin
    first | refine elI ev fun vs st₁ e₁ ev => ?_ | refine elR ev fun vs st₁ e₁ ev => ?_ | refine elF ev fun vs st₁ e₁ ev => ?_ | refine elN ev fun vs st₁ e₁ ev => ?_ | refine elCell ev fun vs st₁ e₁ ev => ?_ | refine elOD ev fun vs st₁ e₁ ev => ?_ | refine elOC ev fun vs st₁ e₁ ev => ?_ | refine elD ev fun vs st₁ e₁ ev => ?_ | refine elTu ev fun vs st₁ e₁ ev => ?_ | refine elL ev fun vs st₁ e₁ ev => ?_ | refine elLoN ev fun vs st₁ e₁ ev => ?_ | refine elLN ev fun vs st₁ e₁ ev => ?_ | refine elLo ev fun vs st₁ e₁ ev => ?_ | refine elLs ev fun vs st₁ e₁ ev => ?_ | refine elNB ev fun vs st₁ e₁ ev => ?_ | refine elB ev fun vs st₁ e₁ ev => ?_ | refine elDN ev fun vs st₁ e₁ ev => ?_ | refine elOI ev fun vs st₁ e₁ ev => ?_ | refine elP ev fun vs st₁ e₁ ev => ?_ | refine elO ev fun vs st₁ e₁ ev => ?_
    first | refine elI ev fun q ev => ?_ | refine elR ev fun q ev => ?_ | refine elF ev fun q ev => ?_ | refine elN ev fun q ev => ?_ | refine elCell ev fun q ev => ?_ | refine elOD ev fun q ev => ?_ | refine elOC ev fun q ev => ?_ | refine elD ev fun q ev => ?_ | refine elTu ev fun q ev => ?_ | refine elL ev fun q ev => ?_ | refine elLoN ev fun q ev => ?_ | refine elLN ev fun q ev => ?_ | refine elLo ev fun q ev => ?_ | refine elLs ev fun q ev => ?_ | refine elNB ev fun q ev => ?_ | refine elB ev fun q ev => ?_ | refine elDN ev fun q ev => ?_ | refine elOI ev fun q ev => ?_ | refine elP ev fun q ev => ?_ | refine elO ev fun q ev => ?_
    refine fin ?_
    refine fin2 ev ?_
    refine List_ (evs_sound hE hk' e₁ ms S fun vs' h' tk α' led' S' nx hvs => ?_)
    refine wpAny_newObj_type (PE.lift (PE.push (s := { s with heap := h', toks := tk }) S' rfl (.list (by simpa using hvs))) nx) ?_
    have := ble_le q
    rw [len_eq, hvs.length] at this
    show vs'.toArray.size ≤ sizeLine
    rw [List.size_toArray]
    exact size_line (by omega)
  case tup =>
    refine cps ?_
    intro PP fin
    first | refine elI ev fun vs st₁ e₁ ev => ?_ | refine elR ev fun vs st₁ e₁ ev => ?_ | refine elF ev fun vs st₁ e₁ ev => ?_ | refine elN ev fun vs st₁ e₁ ev => ?_ | refine elCell ev fun vs st₁ e₁ ev => ?_ | refine elOD ev fun vs st₁ e₁ ev => ?_ | refine elOC ev fun vs st₁ e₁ ev => ?_ | refine elD ev fun vs st₁ e₁ ev => ?_ | refine elTu ev fun vs st₁ e₁ ev => ?_ | refine elL ev fun vs st₁ e₁ ev => ?_ | refine elLoN ev fun vs st₁ e₁ ev => ?_ | refine elLN ev fun vs st₁ e₁ ev => ?_ | refine elLo ev fun vs st₁ e₁ ev => ?_ | refine elLs ev fun vs st₁ e₁ ev => ?_ | refine elNB ev fun vs st₁ e₁ ev => ?_ | refine elB ev fun vs st₁ e₁ ev => ?_ | refine elDN ev fun vs st₁ e₁ ev => ?_ | refine elOI ev fun vs st₁ e₁ ev => ?_ | refine elP ev fun vs st₁ e₁ ev => ?_ | refine elO ev fun vs st₁ e₁ ev => ?_
    first | refine elI ev fun q ev => ?_ | refine elR ev fun q ev => ?_ | refine elF ev fun q ev => ?_ | refine elN ev fun q ev => ?_ | refine elCell ev fun q ev => ?_ | refine elOD ev fun q ev => ?_ | refine elOC ev fun q ev => ?_ | refine elD ev fun q ev => ?_ | refine elTu ev fun q ev => ?_ | refine elL ev fun q ev => ?_ | refine elLoN ev fun q ev => ?_ | refine elLN ev fun q ev => ?_ | refine elLo ev fun q ev => ?_ | refine elLs ev fun q ev => ?_ | refine elNB ev fun q ev => ?_ | refine elB ev fun q ev => ?_ | refine elDN ev fun q ev => ?_ | refine elOI ev fun q ev => ?_ | refine elP ev fun q ev => ?_ | refine elO ev fun q ev => ?_
    refine fin ?_
    refine fin2 ev ?_
    refine Tuple_ (evs_sound hE hk' e₁ ms S fun vs' h' tk α' led' S' nx hvs => ?_)
    refine wpAny_newObj_type (PE.lift (PE.push (s := { s with heap := h', toks := tk }) S' rfl (.tup (by simpa using hvs))) nx) ?_
    have := ble_le q
    rw [len_eq, hvs.length] at this
    show vs'.toArray.size ≤ sizeLine
    rw [List.size_toArray]
    exact size_line (by omega)
  case comp =>
    refine cps ?_
    intro PP fin
    first | refine elI ev fun c st₁ e₁ ev => ?_ | refine elR ev fun c st₁ e₁ ev => ?_ | refine elF ev fun c st₁ e₁ ev => ?_ | refine elN ev fun c st₁ e₁ ev => ?_ | refine elCell ev fun c st₁ e₁ ev => ?_ | refine elOD ev fun c st₁ e₁ ev => ?_ | refine elOC ev fun c st₁ e₁ ev => ?_ | refine elD ev fun c st₁ e₁ ev => ?_ | refine elTu ev fun c st₁ e₁ ev => ?_ | refine elL ev fun c st₁ e₁ ev => ?_ | refine elLoN ev fun c st₁ e₁ ev => ?_ | refine elLN ev fun c st₁ e₁ ev => ?_ | refine elLo ev fun c st₁ e₁ ev => ?_ | refine elLs ev fun c st₁ e₁ ev => ?_ | refine elNB ev fun c st₁ e₁ ev => ?_ | refine elB ev fun c st₁ e₁ ev => ?_ | refine elDN ev fun c st₁ e₁ ev => ?_ | refine elOI ev fun c st₁ e₁ ev => ?_ | refine elP ev fun c st₁ e₁ ev => ?_ | refine elO ev fun c st₁ e₁ ev => ?_
    first | refine elI ev fun hc hsz ev => ?_ | refine elR ev fun hc hsz ev => ?_ | refine elF ev fun hc hsz ev => ?_ | refine elN ev fun hc hsz ev => ?_ | refine elCell ev fun hc hsz ev => ?_ | refine elOD ev fun hc hsz ev => ?_ | refine elOC ev fun hc hsz ev => ?_ | refine elD ev fun hc hsz ev => ?_ | refine elTu ev fun hc hsz ev => ?_ | refine elL ev fun hc hsz ev => ?_ | refine elLoN ev fun hc hsz ev => ?_ | refine elLN ev fun hc hsz ev => ?_ | refine elLo ev fun hc hsz ev => ?_ | refine elLs ev fun hc hsz ev => ?_ | refine elNB ev fun hc hsz ev => ?_ | refine elB ev fun hc hsz ev => ?_ | refine elDN ev fun hc hsz ev => ?_ | refine elOI ev fun hc hsz ev => ?_ | refine elP ev fun hc hsz ev => ?_ | refine elO ev fun hc hsz ev => ?_
    first | refine elI ev fun vs st₂ e₂ ev => ?_ | refine elR ev fun vs st₂ e₂ ev => ?_ | refine elF ev fun vs st₂ e₂ ev => ?_ | refine elN ev fun vs st₂ e₂ ev => ?_ | refine elCell ev fun vs st₂ e₂ ev => ?_ | refine elOD ev fun vs st₂ e₂ ev => ?_ | refine elOC ev fun vs st₂ e₂ ev => ?_ | refine elD ev fun vs st₂ e₂ ev => ?_ | refine elTu ev fun vs st₂ e₂ ev => ?_ | refine elL ev fun vs st₂ e₂ ev => ?_ | refine elLoN ev fun vs st₂ e₂ ev => ?_ | refine elLN ev fun vs st₂ e₂ ev => ?_ | refine elLo ev fun vs st₂ e₂ ev => ?_ | refine elLs ev fun vs st₂ e₂ ev => ?_ | refine elNB ev fun vs st₂ e₂ ev => ?_ | refine elB ev fun vs st₂ e₂ ev => ?_ | refine elDN ev fun vs st₂ e₂ ev => ?_ | refine elOI ev fun vs st₂ e₂ ev => ?_ | refine elP ev fun vs st₂ e₂ ev => ?_ | refine elO ev fun vs st₂ e₂ ev => ?_
    refine fin ?_
    refine fin2 ev ?_
    exact comp_sound hE hC hk' ok ma mn e₁ hc hsz e₂ S
end
end Cat
namespace Cat
open PySem PySem.Calls PyProof.Rows
open PySem.W (Frag nsIn mg_of mg_none_of envX)
abbrev kdOf (cs : Scope) : Str → Option NameKind := fun y => cs.names.lookup y
section
variable (K : Frag) (nm : Nat → Str) (N : Nat) (cs : Scope)
noncomputable def Lo (x : Nat) (y : Str) : Prop := nm x = y ∧ x < N ∧ kdOf cs y = some .local
inductive Los : List Nat → List Str → Prop
  | nil : Los [] []
  | cons {x : Nat} {xs : List Nat} {y : Str} {ys : List Str} : Lo nm N cs x y → Los xs ys → Los (x :: xs) (y :: ys)
inductive Tg : List Nat → Expr → Prop
  | one {x : Nat} {y : Str} {p : Pos} : Lo nm N cs x y → Tg [x] (.Name y p)
  | two {x₁ x₂ k : Nat} {y₁ y₂ : Str} {p₁ p₂ p : Pos} : Lo nm N cs x₁ y₁ → Lo nm N cs x₂ y₂ → Tg [x₁, x₂] (.Tuple [.Name y₁ p₁, .Name y₂ p₂] k p)
mutual
inductive MS : S → Stmt → Prop
  | asg {x : Nat} {y : Str} {e : X} {ee : Expr} {p q : Pos} : Lo nm N cs x y → (∀ t l env, swapsWith ee t l env = pure false) → ME K nm N (kdOf cs) e ee → MS (.asg x e) (.Assign [.Name y p] ee q)
  | asgL {x t : Nat} {y yt : Str} {a n : X} {ea en : Expr} {scope : Scope} {p q p' q' r u : Pos} : Lo nm N cs x y → (∀ cn L f ccd cl, swapsWith (.ListComp ea [⟨.Name yt p', .Call (.Name "range" q') [en] [] r, [], 0⟩] scope u) (some (.Name y p)) q.line (envX cn cs L f ccd cl) = pure true) → CompOk K nm N (kdOf cs) t yt scope → ME K nm N (rekd (kdOf cs) scope) a ea → ME K nm N (kdOf cs) n en →
      MS (.asgL x a t n) (.Assign [.Name y p] (.ListComp ea [⟨.Name yt p', .Call (.Name "range" q') [en] [] r, [], 0⟩] scope u) q)
  | asgC {x : Nat} {y : Str} {e : X} {ee : Expr} {p q : Pos} : nm x = y → kdOf cs y = some .cell → (∀ cn L f ccd cl, swapsWith ee (some (.Name y p)) q.line (envX cn cs L f ccd cl) = pure false) → ME K nm N (kdOf cs) e ee → MS (.asgC x e) (.Assign [.Name y p] ee q)
  | asgT {xs : List Nat} {ys : List Str} {ts : List Expr} {e : X} {ee : Expr} {k : Nat} {p q : Pos} : Los nm N cs xs ys → (∀ t l env, swapsWith ee t l env = pure false) → (∀ cn L f ccd cl, swappedStores [.Tuple ts k p] ee (envX cn cs L f ccd cl) = pure (some ys)) → ME K nm N (kdOf cs) e ee →
      MS (.asgT true xs e) (.Assign [.Tuple ts k p] ee q)
  | asgI {a i e : X} {ea ei ee : Expr} {p q : Pos} : (∀ t l env, swapsWith ee t l env = pure false) → ME K nm N (kdOf cs) a ea → ME K nm N (kdOf cs) i ei → ME K nm N (kdOf cs) e ee → MS (.asgI a i e) (.Assign [.Subscript ea ei p] ee q)
  | asgK {d k1 k2 e : X} {ed e1 e2 ee : Expr} {k : Nat} {p q r : Pos} : (∀ t l env, swapsWith ee t l env = pure false) → ME K nm N (kdOf cs) d ed → ME K nm N (kdOf cs) k1 e1 → ME K nm N (kdOf cs) k2 e2 → ME K nm N (kdOf cs) e ee →
      MS (.asgK d k1 k2 e) (.Assign [.Subscript ed (.Tuple [e1, e2] k r) p] ee q)
  | aug {x : Nat} {y : Str} {o : Op} {op : Operator} {e : X} {ee : Expr} {p q : Pos} : Lo nm N cs x y → opOf o = op → (match o with | .add => true | .sub => true | .shr => true | _ => false) = true → ME K nm N (kdOf cs) e ee → MS (.aug x o e) (.AugAssign (.Name y p) op ee q)
  | iff {t : B} {a b : List S} {et : Expr} {ea eb : List Stmt} {p : Pos} : MB K nm N (kdOf cs) t et → MSs a ea → MSs b eb → MS (.iff t a b) (.If et ea eb p)
  | whl {t : B} {b : List S} {et : Expr} {eb : List Stmt} {p : Pos} : MB K nm N (kdOf cs) t et → MSs b eb → MS (.whl t b) (.While et eb [] p)
  | forR {x : Nat} {tg : Expr} {r : X} {rs : List X} {e : Expr} {es : List Expr} {b : List S} {eb : List Stmt} {p q u : Pos} : nsIn K mainGlobals "range" = some none → kdOf cs "range" = some .globalImplicit → Tg nm N cs [x] tg → MEs K nm N (kdOf cs) (r :: rs) (e :: es) → MSs b eb →
      MS (.forR x (r :: rs) b) (.For tg (.Call (.Name "range" p) (e :: es) [] q) eb [] u)
  | forL {x : Nat} {tg : Expr} {e : X} {ee : Expr} {b : List S} {eb : List Stmt} {p : Pos} : Tg nm N cs [x] tg → ME K nm N (kdOf cs) e ee → MSs b eb → MS (.forL x e b) (.For tg ee eb [] p)
  | forT {x y : Nat} {tg : Expr} {e : X} {ee : Expr} {b : List S} {eb : List Stmt} {p : Pos} : Tg nm N cs [x, y] tg → ME K nm N (kdOf cs) e ee → MSs b eb → MS (.forT x y e b) (.For tg ee eb [] p)
  | forE {x y : Nat} {tg : Expr} {e : X} {ee : Expr} {b : List S} {eb : List Stmt} {p q r : Pos} : nsIn K mainGlobals "enumerate" = some none → kdOf cs "enumerate" = some .globalImplicit → Tg nm N cs [x, y] tg → ME K nm N (kdOf cs) e ee → MSs b eb →
      MS (.forE x y e b) (.For tg (.Call (.Name "enumerate" p) [ee] [] q) eb [] r)
  | app {a : Nat} {y : Str} {e : X} {ee : Expr} {p q r t : Pos} : (r.endLine == t.line) = true → ME K nm N (kdOf cs) (.loc a) (.Name y p) → ME K nm N (kdOf cs) e ee → MS (.app (.loc a) e) (.Expr (.Call (.Attribute (.Name y p) "append" r) [ee] [] t) q)
  | ret {e : X} {ee : Expr} {p : Pos} : ME K nm N (kdOf cs) e ee → MS (.ret e) (.Return (some ee) p)
  | ex {f : X} {as : List X} {ef : Expr} {es : List Expr} {p q : Pos} : ME K nm N (kdOf cs) (.call f as) (.Call ef es [] q) → MS (.ex (.call f as)) (.Expr (.Call ef es [] q) p)
  | raise {st : Stmt} : MS .raise st
inductive MSs : List S → List Stmt → Prop
  | nil : MSs [] []
  | cons {s : S} {ss : List S} {e : Stmt} {es : List Stmt} : MS s e → MSs ss es → MSs (s :: ss) (e :: es)
end
end
section
variable {C : Cfg} {n : Nat} {A : Around} {h₀ : Heap} {L : Addr} {m mm : Str → Option Value} {env : Env} {kd : Str → Option NameKind} {cl : Cl} {st st' : St} {α : List Addr} {led : List (Addr × Obj)} {s : Shared}
theorem Sit.ownAt (S : Sit C n A h₀ L m env kd cl mm [] st α led s.heap) {i : Nat} {ao : AO} (e : get st.H i = some (.own, ao)) : ∃ D o, α[i]? = some D ∧ (D, o) ∈ led ∧ OR C.prog C.w h₀ led α ao o ∧ s.heap.get? D = some o ∧ D ≠ L ∧ h₀.get? D = none := by
  obtain ⟨a, o, h1, h2, h3⟩ := S.sr.obj i _ _ e
  exact ⟨a, o, h1, h2, h3, (S.sr.nw _ h2).1, (S.sr.nw _ h2).2.1, (S.sr.nw _ h2).2.2⟩
theorem Sit.upd (S : Sit C n A h₀ L m env kd cl mm [] st α led s.heap) {i : Nat} {D : Addr} {o o' : Obj} {ao ao' : AO} {h' : Heap} (e : get st.H i = some (.own, ao)) (ei : α[i]? = some D) (hm : (D, o) ∈ led) (hc : ∀ its n, o.cls = .type "tuple" → o.data ≠ .seq its n)
    (hs : Heap.SameBut D s.heap h') (ho : h'.get? D = some o') (x : OR C.prog C.w h₀ (updL D o' led) α ao' o') (hsy : ∀ es, ao' = .dict es → D ≠ sysModules) : Sit C n A h₀ L m env kd cl mm [] ⟨st.loc, st.n, put st.H i (.own, ao')⟩ α (updL D o' led) h' :=
  ⟨S.gd, S.en, S.ns, S.lr, S.fr.change hs (S.sr.nw _ hm).2.1 (S.sr.nw _ hm).2.2, S.sr.update e ei hm hc (Cat.News.upd S.sr.nw hs ho) x S.sr.nw hsy, News.nil, fun _ hp => nomatch hp⟩
theorem Sit.gone (S : Sit C n A h₀ L m env kd cl mm [] st α led s.heap) {i : Nat} {D : Addr} {o : Obj} {ao : AO} {h' : Heap} (e : get st.H i = some (.own, ao)) (ei : α[i]? = some D) (hm : (D, o) ∈ led) (hc : ∀ its n, o.cls = .type "tuple" → o.data ≠ .seq its n)
    (hs : Heap.ExtBut D s.heap h') : Sit C n A h₀ L m env kd cl mm [] ⟨st.loc, st.n, del st.H i⟩ α (delL D led) h' :=
  ⟨S.gd, S.en, S.ns, S.lr, LCg.fr_but S.fr (fun b o hb hg => hs b o (by simpa using hb) hg) (S.sr.nw _ hm).2.1.symm (S.sr.nw _ hm).2.2, S.sr.del e ei hm hc (Cat.News.del S.sr.nw hs), News.nil, fun _ hp => nomatch hp⟩
theorem Sit.set (S : Sit C n A h₀ L m env kd cl m [] st α led s.heap) (hL : env.locals = L) {x : Nat} {av : AV} {v : Value} {h' : Heap} (hx : x < C.N) (hv : VR α av v) (hn : h'.Ns L (fun z => if z = C.nm x then some v else m z)) (hs : Heap.SameBut L s.heap h') :
    Sit C n A h₀ L (fun z => if z = C.nm x then some v else m z) env kd cl (fun z => if z = C.nm x then some v else m z) [] (setLoc st x av) α led h' := by
  refine ⟨S.gd, S.en, .inl ⟨hL, rfl⟩, fun z a ez => ?_, S.fr.set hn hs, S.sr.more (fun _ h => h) (S.sr.nw.set hs), News.nil, fun _ hp => nomatch hp⟩
  rw [show (setLoc st x av).loc = put st.loc x av from rfl, get_put] at ez
  by_cases q : x = z
  · subst q
    rw [if_pos rfl] at ez
    cases ez
    exact ⟨hx, v, if_pos rfl, hv⟩
  · rw [if_neg q] at ez
    obtain ⟨hz, v', e, r⟩ := S.lr z a ez
    refine ⟨hz, v', ?_, r⟩
    show (if C.nm z = C.nm x then some v else m (C.nm z)) = _
    rw [if_neg (fun w => q (S.gd.inj _ _ hx hz w.symm))]
    exact e
end
end Cat
namespace Cat
open PySem PySem.Calls PyProof.Rows
open PySem.W (Frag nsIn mg_of mg_none_of envX)
theorem while_once {prog : Program} {w : World} {A : Around} {s : Shared} {R : Result → Shared → Prop} {test : Expr} {body orelse : List Stmt} {env : Env}
    (h : wpAny (model prog w) A (isTrue test env (eval test env)) (fun b s₂ =>
        if b then wpAny (model prog w) A (execs body env) (fun f s₃ => match f with
            | .next | .cont => codeAny (model prog w) A (.whileLoop test body orelse env) R s₃
            | .brk => R (.ok .next) s₃
            | .ret v => R (.ok (.ret v)) s₃) FF s₂
        else wpAny (model prog w) A (execs orelse env) (fun f s₃ => R (.ok f) s₃) FF s₂) FF s) :
    codeAny (model prog w) A (.whileLoop test body orelse env) R s := by
  refine codeAny_of_tree ?_
  show wpAny _ A ((whileTurn test body orelse env).onRaise (fun x => do noteFrame x env; theTreesLotGoes x)) _ _ s
  refine wpAny_noted ?_
  simp only [whileTurn]
  refine wpAny_bind (wpAny_mono h (fun b s₂ h₂ => ?_) fun _ _ h' => h'.elim)
  cases b with
  | false =>
    simp only [Bool.false_eq_true, if_false] at h₂ ⊢
    exact wpAny_bind (wpAny_mono h₂ (fun f s₃ h₃ => wpAny_pure h₃) fun _ _ h' => h'.elim)
  | true =>
    simp only [if_true] at h₂ ⊢
    refine wpAny_bind (wpAny_mono h₂ (fun f s₃ h₃ => ?_) fun _ _ h' => h'.elim)
    cases f with
    | next => exact wpAny_pure ⟨rfl, h₃⟩
    | cont => exact wpAny_pure ⟨rfl, h₃⟩
    | brk => exact wpAny_pure h₃
    | ret v => exact wpAny_pure h₃
noncomputable def TurnC (prog : Program) (w : World) (A : Around) (tg : Expr) (it : Value) (es : List Stmt) (env : Env) (R : Result → Shared → Prop) (s : Shared) : Prop :=
  wpAny (model prog w) A (execs es env) (fun f s₃ => match f with
    | .next | .cont => codeAny (model prog w) A (.forLoop tg it es [] env) R s₃
    | .brk => R (.ok .next) s₃
    | .ret v => R (.ok (.ret v)) s₃) FF s
noncomputable def TurnA (prog : Program) (w : World) (A : Around) (tg : Expr) (it : Value) (es : List Stmt) (env : Env) (R : Result → Shared → Prop) (v : Value) (s : Shared) : Prop :=
  wpAny (model prog w) A (assign tg env v) (fun _ s₂ => TurnC prog w A tg it es env R s₂) FF s
noncomputable def TurnB (prog : Program) (w : World) (A : Around) (tg : Expr) (it : Value) (es : List Stmt) (env : Env) (R : Result → Shared → Prop) (v : Value) (s : Shared) : Prop :=
  wpAny (model prog w) A (letOwnedTupleGo tg it v) (fun _ s₂ => TurnA prog w A tg it es env R v s₂) FF s
noncomputable def TurnN (prog : Program) (w : World) (A : Around) (tg : Expr) (it : Value) (es : List Stmt) (env : Env) (R : Result → Shared → Prop) (r : Option Value) (s : Shared) : Prop := match r with
  | none => wpAny (model prog w) A (execs [] env) (fun f s₃ => R (.ok f) s₃) FF s
  | some v => TurnB prog w A tg it es env R v s
theorem for_once {prog : Program} {w : World} {A : Around} {s : Shared} {R : Result → Shared → Prop} {target : Expr} {it : Value} {body : List Stmt} {env : Env}
    (h : wpAny (model prog w) A (pyNext it) (TurnN prog w A target it body env R) FF s) :
    codeAny (model prog w) A (.forLoop target it body [] env) R s := by
  refine codeAny_of_tree ?_
  show wpAny _ A ((forTurn target it body [] env).onRaise (fun x => do noteFrame x env; theTreesLotGoes x)) _ _ s
  refine wpAny_noted ?_
  simp only [forTurn]
  refine wpAny_bind (wpAny_standAt (wpAny_bind (wpAny_onRaise (wpAny_mono h (fun r s₁ h₁ => ?_) fun _ _ h' => h'.elim))))
  cases r with
  | none => exact wpAny_pure ⟨rfl, codeAny_block (wpAny_mono h₁ (fun _ _ x => x) fun _ _ h' => h'.elim)⟩
  | some v =>
    refine wpAny_bind (wpAny_mono (show wpAny _ _ _ _ _ _ from h₁) (fun _ s₁' h₁' => ?_) fun _ _ h' => h'.elim)
    refine wpAny_bind (wpAny_mono (show wpAny _ _ _ _ _ _ from h₁') (fun _ s₂ h₂ => wpAny_bind (wpAny_mono (show wpAny _ _ _ _ _ _ from h₂) (fun f s₃ h₃ => ?_) fun _ _ h' => h'.elim)) fun _ _ h' => h'.elim)
    cases f with
    | next => exact wpAny_pure ⟨rfl, h₃⟩
    | cont => exact wpAny_pure ⟨rfl, h₃⟩
    | brk => exact wpAny_pure h₃
    | ret v => exact wpAny_pure h₃
inductive FlR (α : List Addr) : Fl → Flow → Prop
  | next : FlR α .next .next
  | ret {a : AV} {v : Value} : VR α a v → FlR α (.ret a) (.ret v)
section
variable {C : Cfg} {n : Nat} {A : Around} {h₀ : Heap} {L a : Addr} {m : Str → Option Value} {cn : Str} {cs : Scope} {ccd : Value} {clo : List (Str × Addr)} {cl : Cl} {st st' : St} {α : List Addr} {led : List (Addr × Obj)} {s : Shared}
noncomputable def PS (C : Cfg) (n : Nat) (A : Around) (h₀ : Heap) (L : Addr) (env : Env) (kd : Str → Option NameKind) (cl : Cl) (st' : St) (α : List Addr) (s : Shared) (fl : Fl) (f : Flow) (s' : Shared) : Prop :=
  ∃ h' tk α' led' m', s' = { s with heap := h', toks := tk } ∧ Sit C n A h₀ L m' env kd cl m' [] st' α' led' h' ∧ Le α α' ∧ FlR α' fl f
theorem PS.lift {env : Env} {kd : Str → Option NameKind} {fl : Fl} {f : Flow} {α' : List Addr} {h' : Heap} {tk : Nat} {s' : Shared} (x : PS C n A h₀ L env kd cl st' α' { s with heap := h', toks := tk } fl f s') (y : Le α α') : PS C n A h₀ L env kd cl st' α s fl f s' := by
  obtain ⟨h2, tk2, α2, led2, m2, e, S, le, q⟩ := x
  exact ⟨h2, tk2, α2, led2, m2, e, S, y.trans le, q⟩
theorem store_sound (S : Sit C n A h₀ L m (envX cn cs L a ccd clo) (kdOf cs) cl m [] st α led s.heap) {x : Nat} {y : Str} {av : AV} {v : Value} (lo : Lo C.nm C.N cs x y) (hv : VR α av v) {Q : Unit → Shared → Prop} {E : Value → Shared → Prop}
    (h : ∀ h' m' tk, Sit C n A h₀ L m' (envX cn cs L a ccd clo) (kdOf cs) cl m' [] (setLoc st x av) α led h' → Q () { s with heap := h', toks := tk }) : wpAny (model C.prog C.w) A (storeName (envX cn cs L a ccd clo) y v) Q E s := by
  obtain ⟨rfl, hx, hk⟩ := lo
  refine wpAny_storeName_local hk S.fr.ns (fun h' hn hs => h h' _ _ (S.set rfl hx hv hn hs)) ?_
  rw [S.en.kind]; rfl
theorem storeC_sound (S : Sit C n A h₀ L m (envX cn cs L a ccd clo) (kdOf cs) cl m [] st α led s.heap) {x i : Nat} {y : Str} {av : AV} {v : Value} {ov : Option AV} (hy : C.nm x = y) (hk : kdOf cs y = some .cell) (hc : get cl x = some i) (ei : get st.H i = some (.own, .cell ov)) (hv : VR α av v) {Q : Unit → Shared → Prop} {E : Value → Shared → Prop}
    (h : ∀ h' led', Sit C n A h₀ L m (envX cn cs L a ccd clo) (kdOf cs) cl m [] ⟨st.loc, st.n, put st.H i (.own, .cell (some av))⟩ α led' h' → Q () { s with heap := h' }) : wpAny (model C.prog C.w) A (storeName (envX cn cs L a ccd clo) y v) Q E s := by
  subst hy
  obtain ⟨c, hc1, hc2⟩ := S.en.cel x i hc hk
  obtain ⟨D, o, e1, hm, ho, hg, hDL, hD0⟩ := S.ownAt ei
  rw [hc2] at e1; cases e1
  have hcell : ∃ v₀, o.data = .cell v₀ := by
    cases ho with
    | cell0 q => exact ⟨_, q⟩
    | cell1 q => exact ⟨_, q⟩
  obtain ⟨v₀, hd⟩ := hcell
  refine wpAny_storeName_cell S.en.kind hk hc1 ⟨o, hg, hd⟩ fun h' hi hs => ?_
  obtain ⟨o', hg', hd'⟩ := hi
  exact h h' _ (S.upd ei hc2 hm (fun its n _ z => by rw [hd] at z; cases z) hs hg' (.cell1 hd' hv) (fun _ z => nomatch z))
theorem setLocs_sound : ∀ {xs : List Nat} {ys : List Str} {avs : List AV} {vs : List Value} {st : St} {m : Str → Option Value} {s : Shared}, Los C.nm C.N cs xs ys → VRs α avs vs → xs.length = avs.length → Sit C n A h₀ L m (envX cn cs L a ccd clo) (kdOf cs) cl m [] st α led s.heap →
    ∀ {Q : Unit → Shared → Prop} {E : Value → Shared → Prop}, (∀ h' m' tk, Sit C n A h₀ L m' (envX cn cs L a ccd clo) (kdOf cs) cl m' [] (setLocs st xs avs) α led h' → Q () { s with heap := h', toks := tk }) →
    wpAny (model C.prog C.w) A (assignInOrder (ys.map fun n => bindName (envX cn cs L a ccd clo) n) vs) Q E s := by
  intro xs
  induction xs with
  | nil =>
    intro ys avs vs st m s lo hv hl S Q E h
    cases lo
    exact wpAny_pure (h s.heap m s.toks S)
  | cons x xs ih =>
    intro ys avs vs st m s lo hv hl S Q E h
    cases lo with
    | cons l ls =>
      cases hv with
      | nil => cases hl
      | cons v hvs =>
        show wpAny _ A (do holding _ (bindName _ _ _); assignInOrder _ _) Q E s
        refine wpAny_bind (wpAny_holding (wpAny_bindName (store_sound S l v fun h' m' tk S' => ?_)))
        exact ih (s := { s with heap := h', toks := tk }) ls hvs (by simpa using hl) S' fun h2 m2 tk2 S2 => h h2 m2 tk2 S2
theorem Los.append {nm : Nat → Str} {N : Nat} {xs xs' : List Nat} {ys ys' : List Str} (x : Los nm N cs xs ys) (y : Los nm N cs xs' ys') : Los nm N cs (xs ++ xs') (ys ++ ys') := by
  induction x with
  | nil => exact y
  | cons l _ ih => exact .cons l ih
theorem Los.reverse {nm : Nat → Str} {N : Nat} {xs : List Nat} {ys : List Str} (x : Los nm N cs xs ys) : Los nm N cs xs.reverse ys.reverse := by
  induction x with
  | nil => exact .nil
  | cons l _ ih => rw [List.reverse_cons, List.reverse_cons]; exact ih.append (.cons l .nil)
theorem Los.length {nm : Nat → Str} {N : Nat} {xs : List Nat} {ys : List Str} (x : Los nm N cs xs ys) : xs.length = ys.length := by
  induction x with
  | nil => rfl
  | cons l _ ih => simp [ih]
noncomputable def SndS (C : Cfg) (n : Nat) (f : Cl → List S → St → Option (Fl × St)) : Prop :=
  ∀ {k : Nat} {A : Around} {h₀ : Heap} {L a : Addr} {m : Str → Option Value} {cn : Str} {cs : Scope} {ccd : Value} {clo : List (Str × Addr)} {cl : Cl} {st st' : St} {α : List Addr} {led : List (Addr × Obj)} {s : Shared} {xs : List S} {es : List Stmt} {fl : Fl},
    n ≤ k → f cl xs st = some (fl, st') → MSs C.K C.nm C.N cs xs es → Sit C k A h₀ L m (envX cn cs L a ccd clo) (kdOf cs) cl m [] st α led s.heap →
    wpAny (model C.prog C.w) A (execs es (envX cn cs L a ccd clo)) (PS C k A h₀ L (envX cn cs L a ccd clo) (kdOf cs) cl st' α s fl) FF s
noncomputable def GS (C : Cfg) (k : Nat) (A : Around) (h₀ : Heap) (L : Addr) (env : Env) (kd : Str → Option NameKind) (cl : Cl) (α : List Addr) (s : Shared) (e : Stmt) (fl : Fl) (st' : St) : Prop :=
  wpAny (model C.prog C.w) A (exec e env) (PS C k A h₀ L env kd cl st' α s fl) FF s
noncomputable def SndS1 (C : Cfg) (n : Nat) (f : Cl → S → St → Option (Fl × St)) : Prop :=
  ∀ {k : Nat} {A : Around} {h₀ : Heap} {L a : Addr} {m : Str → Option Value} {cn : Str} {cs : Scope} {ccd : Value} {clo : List (Str × Addr)} {cl : Cl} {st st' : St} {α : List Addr} {led : List (Addr × Obj)} {s : Shared} {x : S} {e : Stmt} {fl : Fl},
    n ≤ k → f cl x st = some (fl, st') → MS C.K C.nm C.N cs x e → Sit C k A h₀ L m (envX cn cs L a ccd clo) (kdOf cs) cl m [] st α led s.heap →
    GS C k A h₀ L (envX cn cs L a ccd clo) (kdOf cs) cl α s e fl st'
theorem evSS_sound {ih : Ih} {k : Nat} (h1 : SndS1 C k (evS ih)) : SndS C k (evSS ih) := by
  intro j A h₀ L a m cn cs ccd clo cl st st' α led s xs
  induction xs generalizing st α led s m with
  | nil =>
    intro es fl hk e M S
    cases M; cases e
    exact wpAny_execs_nil ⟨s.heap, s.toks, α, led, m, rfl, S, Le.refl _, .next⟩
  | cons x xs ihx =>
    intro es fl hk e M S
    cases M with
    | cons M Ms =>
      refine elNx (f := evSS ih cl xs) e (fun st₁ e₁ e => ?_) fun v st₁ e₁ er => ?_
      · refine wpAny_execs_cons (wpAny_mono (h1 hk e₁ M S) (fun f s' q => ?_) fun _ _ z => z)
        obtain ⟨h', tk, α', led', m', rfl, S', le, fr⟩ := q
        cases fr
        exact wpAny_mono (ihx (s := { s with heap := h', toks := tk }) hk e Ms S') (fun f s' q => PS.lift q le) (fun _ _ z => z)
      · cases er
        refine wpAny_execs_cons (wpAny_mono (h1 hk e₁ M S) (fun f s' q => ?_) fun _ _ z => z)
        obtain ⟨h', tk, α', led', m', rfl, S', le, fr⟩ := q
        cases fr with
        | ret hv => exact ⟨h', tk, α', led', m', rfl, S', le, .ret hv⟩
noncomputable def SndW (C : Cfg) (n : Nat) (f : Cl → B → List S → St → Option (Fl × St)) : Prop :=
  ∀ {k : Nat} {A : Around} {h₀ : Heap} {L a : Addr} {m : Str → Option Value} {cn : Str} {cs : Scope} {ccd : Value} {clo : List (Str × Addr)} {cl : Cl} {st st' : St} {α : List Addr} {led : List (Addr × Obj)} {s : Shared} {t : B} {xs : List S} {te : Expr} {es : List Stmt} {fl : Fl} {R : Result → Shared → Prop},
    n ≤ k → f cl t xs st = some (fl, st') → MB C.K C.nm C.N (kdOf cs) t te → MSs C.K C.nm C.N cs xs es → Sit C k A h₀ L m (envX cn cs L a ccd clo) (kdOf cs) cl m [] st α led s.heap →
    (∀ f s', PS C k A h₀ L (envX cn cs L a ccd clo) (kdOf cs) cl st' α s fl f s' → R (.ok f) s') →
    codeAny (model C.prog C.w) A (.whileLoop te es [] (envX cn cs L a ccd clo)) R s
theorem evW_sound {ih : Ih} {k : Nat} (hB : SndB C k ih.b) (hS : SndS C k ih.ss) (hW : SndW C k ih.wl) : SndW C (k + 1) (evW ih) := by
  intro j A h₀ L a m cn cs ccd clo cl st st' α led s t xs te es fl R hk e Mt Ms S hR
  have hk' : k ≤ j := Nat.le_of_succ_le hk
  refine elP e fun tt st₁ e₁ e => ?_
  cases tt with
  | true =>
    refine while_once (hB.one hk' e₁ Mt S fun h' tk α' led' S' nx => ?_)
    rw [if_pos rfl]
    refine elNx e (fun st₂ e₂ e => ?_) fun v st₂ e₂ er => ?_
    · refine wpAny_mono (hS (s := { s with heap := h', toks := tk }) hk' e₂ Ms S') (fun f s' q => ?_) fun _ _ z => z
      obtain ⟨h2, tk2, α2, led2, m2, rfl, S2, le, fr⟩ := q
      cases fr
      exact hW (s := { s with heap := h2, toks := tk2 }) hk' e Mt Ms S2 fun f s' q => hR f s' (PS.lift q (nx.le.trans le))
    · cases er
      refine wpAny_mono (hS (s := { s with heap := h', toks := tk }) hk' e₂ Ms S') (fun f s' q => ?_) fun _ _ z => z
      obtain ⟨h2, tk2, α2, led2, m2, rfl, S2, le, fr⟩ := q
      cases fr with
      | ret hv => exact hR _ _ ⟨h2, tk2, α2, led2, m2, rfl, S2, nx.le.trans le, .ret hv⟩
  | false =>
    cases e
    refine while_once (hB.one hk' e₁ Mt S fun h' tk α' led' S' nx => ?_)
    rw [if_neg (by intro z; cases z)]
    exact wpAny_execs_nil (hR _ _ ⟨h', tk, α', led', m, rfl, S', nx.le, .next⟩)
end
end Cat
namespace Cat
open PySem PySem.Calls PyProof.Rows
open PySem.W (Frag nsIn mg_of mg_none_of envX)
section
variable {C : Cfg} {n : Nat} {A : Around} {h₀ : Heap} {L a : Addr} {m : Str → Option Value} {cn : Str} {cs : Scope} {ccd : Value} {clo : List (Str × Addr)} {cl : Cl} {st st' : St} {α : List Addr} {led : List (Addr × Obj)} {s : Shared}
theorem ty_ne {x y : String} (h : x ≠ y) {o : Obj} (e : o.cls = .type x) : ∀ (its : Array Value) (n : Nat), o.cls = .type y → o.data ≠ .seq its n := fun _ _ z => absurd (Value.type.inj (e.symm.trans z)) h
noncomputable def SndF (C : Cfg) (n : Nat) (f : Cl → List Nat → Nat → List S → St → Option (Fl × St)) : Prop :=
  ∀ {k : Nat} {A : Around} {h₀ : Heap} {L a : Addr} {m : Str → Option Value} {cn : Str} {cs : Scope} {ccd : Value} {clo : List (Str × Addr)} {cl : Cl} {st st' : St} {α : List Addr} {led : List (Addr × Obj)} {s : Shared} {xs : List Nat} {i : Nat} {I : Addr} {b : List S} {tg : Expr} {es : List Stmt} {fl : Fl} {R : Result → Shared → Prop},
    n ≤ k → f cl xs i b st = some (fl, st') → Tg C.nm C.N cs xs tg → α[i]? = some I → MSs C.K C.nm C.N cs b es → Sit C k A h₀ L m (envX cn cs L a ccd clo) (kdOf cs) cl m [] st α led s.heap →
    (∀ f s', PS C k A h₀ L (envX cn cs L a ccd clo) (kdOf cs) cl st' α s fl f s' → R (.ok f) s') →
    codeAny (model C.prog C.w) A (.forLoop tg (.ref I) es [] (envX cn cs L a ccd clo)) R s
theorem turn_sound {ih : Ih} {k : Nat} (hS : SndS C k ih.ss) (hF : SndF C k ih.fl) (hk : k ≤ n) {xs : List Nat} {i : Nat} {I : Addr} {b : List S} {tg : Expr} {es : List Stmt} {fl : Fl} {R : Result → Shared → Prop}
    (e : nxt (ih.ss cl b st) (fun st => ih.fl cl xs i b st) = some (fl, st')) (ht : Tg C.nm C.N cs xs tg) (hI : α[i]? = some I) (Ms : MSs C.K C.nm C.N cs b es) (S : Sit C n A h₀ L m (envX cn cs L a ccd clo) (kdOf cs) cl m [] st α led s.heap)
    (hR : ∀ f s', PS C n A h₀ L (envX cn cs L a ccd clo) (kdOf cs) cl st' α s fl f s' → R (.ok f) s') :
    TurnC C.prog C.w A tg (.ref I) es (envX cn cs L a ccd clo) R s := by
  refine elNx e (fun st₂ e₂ e => ?_) fun v st₂ e₂ er => ?_
  · refine wpAny_mono (hS hk e₂ Ms S) (fun f s' q => ?_) fun _ _ z => z
    obtain ⟨h2, tk2, α2, led2, m2, rfl, S2, le, fr⟩ := q
    cases fr
    exact hF (s := { s with heap := h2, toks := tk2 }) hk e ht (le _ _ hI) Ms S2 fun f s' q => hR f s' (PS.lift q le)
  · cases er
    refine wpAny_mono (hS hk e₂ Ms S) (fun f s' q => ?_) fun _ _ z => z
    obtain ⟨h2, tk2, α2, led2, m2, rfl, S2, le, fr⟩ := q
    cases fr with
    | ret hv => exact hR _ _ ⟨h2, tk2, α2, led2, m2, rfl, S2, le, .ret hv⟩
theorem turn1_sound {ih : Ih} {k : Nat} (hS : SndS C k ih.ss) (hF : SndF C k ih.fl) (hk : k ≤ n) {x : Nat} {i : Nat} {I : Addr} {b : List S} {tg : Expr} {es : List Stmt} {fl : Fl} {R : Result → Shared → Prop} {av : AV} {v : Value}
    (e : nxt (ih.ss cl b (setLoc st x av)) (fun st => ih.fl cl [x] i b st) = some (fl, st')) (ht : Tg C.nm C.N cs [x] tg) (hI : α[i]? = some I) (Ms : MSs C.K C.nm C.N cs b es) (S : Sit C n A h₀ L m (envX cn cs L a ccd clo) (kdOf cs) cl m [] st α led s.heap) (hv : VR α av v)
    (hR : ∀ f s', PS C n A h₀ L (envX cn cs L a ccd clo) (kdOf cs) cl st' α s fl f s' → R (.ok f) s') :
    TurnB C.prog C.w A tg (.ref I) es (envX cn cs L a ccd clo) R v s := by
  cases ht with
  | one lo =>
    refine wpAny_pure (wpAny_assign_Name (store_sound S lo hv fun h' m' tk S' => ?_))
    exact turn_sound (s := { s with heap := h', toks := tk }) hS hF hk e (.one lo) hI Ms S' fun f s' q => hR f s' (PS.lift q (Le.refl _))
theorem turn2_sound {ih : Ih} {k : Nat} (hS : SndS C k ih.ss) (hF : SndF C k ih.fl) (hk : k ≤ n) {x y : Nat} {i : Nat} {I T : Addr} {b : List S} {tg : Expr} {es : List Stmt} {fl : Fl} {R : Result → Shared → Prop} {av bv : AV} {v₀ v₁ : Value}
    (e : nxt (ih.ss cl b (setLoc (setLoc st x av) y bv)) (fun st => ih.fl cl [x, y] i b st) = some (fl, st')) (ht : Tg C.nm C.N cs [x, y] tg) (hI : α[i]? = some I) (Ms : MSs C.K C.nm C.N cs b es) (S : Sit C n A h₀ L m (envX cn cs L a ccd clo) (kdOf cs) cl m [] st α led s.heap)
    (hT : s.heap.IsTuple T #[v₀, v₁]) (hv : VR α av v₀) (hw : VR α bv v₁)
    (hR : ∀ f s', PS C n A h₀ L (envX cn cs L a ccd clo) (kdOf cs) cl st' α s fl f s' → R (.ok f) s') :
    TurnA C.prog C.w A tg (.ref I) es (envX cn cs L a ccd clo) R (.ref T) s := by
  cases ht with
  | @two _ _ kk y₁ y₂ p₁ p₂ p lo₁ lo₂ =>
    refine wpAny_assign_Tuple S.gd.hnd hT rfl rfl fun h₃ hx₃ => ?_
    have S₃ := S.grow fun b o e => hx₃ b o (Nat.ne_of_lt (Heap.lt_size e)) e
    show wpAny _ A (do holding [v₁] (assign (.Name y₁ p₁) (envX cn cs L a ccd clo) v₀); do holding [] (assign (.Name y₂ p₂) (envX cn cs L a ccd clo) v₁); pure ()) _ _ _
    refine wpAny_bind (wpAny_holding (wpAny_assign_Name (store_sound (s := { s with heap := h₃ }) S₃ lo₁ hv fun h₄ m₄ tk₄ S₄ => ?_)))
    refine wpAny_bind (wpAny_holding (wpAny_assign_Name (store_sound (s := { s with heap := h₄, toks := tk₄ }) S₄ lo₂ hw fun h₅ m₅ tk₅ S₅ => wpAny_pure ?_)))
    exact turn_sound (s := { s with heap := h₅, toks := tk₅ }) hS hF hk e (.two lo₁ lo₂) hI Ms S₅ fun f s' q => hR f s' (PS.lift q (Le.refl _))
theorem News.updX {led : List (Addr × Obj)} {h h' : Heap} (N : News h₀ L h led) {D : Addr} {o : Obj} (hs : Heap.ExtBut D h h') (ho : h'.get? D = some o) : News h₀ L h' (updL D o led) := fun p hp => by
  rcases mem_updL hp with ⟨rfl, o', hm⟩ | ⟨hm, z⟩
  · exact ⟨ho, (N _ hm).2⟩
  · exact ⟨hs _ _ z (N _ hm).1, (N _ hm).2⟩
theorem Sit.updX {env : Env} {kd : Str → Option NameKind} {mm : Str → Option Value} (S : Sit C n A h₀ L m env kd cl mm [] st α led s.heap) {i : Nat} {D : Addr} {o o' : Obj} {ao ao' : AO} {h' : Heap} (e : get st.H i = some (.own, ao)) (ei : α[i]? = some D) (hm : (D, o) ∈ led) (hc : ∀ its n, o.cls = .type "tuple" → o.data ≠ .seq its n)
    (hs : Heap.ExtBut D s.heap h') (ho : h'.get? D = some o') (x : OR C.prog C.w h₀ (updL D o' led) α ao' o') (hsy : ∀ es, ao' = .dict es → D ≠ sysModules) : Sit C n A h₀ L m env kd cl mm [] ⟨st.loc, st.n, put st.H i (.own, ao')⟩ α (updL D o' led) h' :=
  ⟨S.gd, S.en, S.ns, S.lr, LCg.fr_but S.fr (fun b o hb hg => hs b o (by simpa using hb) hg) (S.sr.nw _ hm).2.1.symm (S.sr.nw _ hm).2.2, S.sr.update e ei hm hc (Cat.News.updX S.sr.nw hs ho) x S.sr.nw hsy, News.nil, fun _ hp => nomatch hp⟩
inductive NextR (st : St) (it : Nat) : Option (List AV) → St → Prop
  | litem {l i : Nat} {k : Kd} {xs : List AV} {v : AV} : get st.H it = some (.own, .litr l i) → get st.H l = some (k, .list xs) → nth xs i = some v → NextR st it (some [v]) ⟨st.loc, st.n, put st.H it (.own, .litr l (i + 1))⟩
  | lend {l i : Nat} {k : Kd} {xs : List AV} : get st.H it = some (.own, .litr l i) → get st.H l = some (k, .list xs) → nth xs i = none → NextR st it none ⟨st.loc, st.n, del st.H it⟩
  | ritem {x s : Int} {k : Nat} : get st.H it = some (.own, .ritr x (.ofNat (k + 1)) s) → NextR st it (some [.int x]) ⟨st.loc, st.n, put st.H it (.own, .ritr (x + s) (.ofNat k) s)⟩
  | rend {x left s : Int} : get st.H it = some (.own, .ritr x left s) → left ≤ 0 → NextR st it none ⟨st.loc, st.n, del st.H it⟩
  | eitem {t i l j : Nat} {k : Kd} {xs : List AV} {v : AV} : j = i → get st.H it = some (.own, .eitr t j) → get st.H t = some (.own, .litr l i) → get st.H l = some (k, .list xs) → nth xs i = some v →
      NextR st it (some [.int (.ofNat j), v]) ⟨st.loc, st.n, put (put st.H t (.own, .litr l (i + 1))) it (.own, .eitr t (j + 1))⟩
  | eend {t j l i : Nat} {k : Kd} {xs : List AV} : j = i → get st.H it = some (.own, .eitr t j) → get st.H t = some (.own, .litr l i) → get st.H l = some (k, .list xs) → nth xs i = none → NextR st it none ⟨st.loc, st.n, del st.H t⟩
theorem nextOf_inv {st st' : St} {it : Nat} {o : Option (List AV)} (e : nextOf st it = some (o, st')) : NextR st it o st' := by
  unfold nextOf at e
  split at e
  · rename_i l i e₁
    split at e
    · rename_i k xs e₂
      split at e
      · rename_i v e₃; cases e; exact .litem e₁ e₂ e₃
      · rename_i e₃; cases e; exact .lend e₁ e₂ e₃
    · cases e
  · rename_i x left s e₁
    split at e
    · cases e; exact .ritem e₁
    · rename_i hne
      cases e
      refine .rend e₁ ?_
      cases left with
      | ofNat q =>
        cases q with
        | zero => exact Int.le_refl 0
        | succ q => exact absurd rfl (hne q)
      | negSucc q => exact Int.le_of_lt (Int.negSucc_lt_zero q)
  · rename_i t j e₁
    split at e
    · rename_i l i e₂
      split at e
      · rename_i k xs e₃ q
        have q := (nat_beq.mp q).symm
        split at e
        · rename_i v e₄; cases e; exact .eitem q e₁ e₂ e₃ e₄
        · rename_i e₄; cases e; exact .eend q e₁ e₂ e₃ e₄
      · cases e
    · cases e
  · cases e
theorem list_nocell {its : Array Value} {c : Nat} : ∀ (its' : Array Value) (n : Nat), ({ cls := .type "list", data := .seq its c } : Obj).cls = .type "tuple" → ({ cls := .type "list", data := .seq its c } : Obj).data ≠ .seq its' n := ty_ne (by decide) rfl
theorem fields_ne {o : Obj} {fs : Array Value} (e : o.data = .fields fs) : ∀ (its : Array Value) (n : Nat), o.cls = .type "tuple" → o.data ≠ .seq its n := fun _ _ _ z => by rw [e] at z; cases z
theorem evF_sound {ih : Ih} {k : Nat} (hS : SndS C k ih.ss) (hF : SndF C k ih.fl) : SndF C (k + 1) (evF ih) := by
  intro j A h₀ L a m cn cs ccd clo cl st st' α led s xs i I b tg es fl R hk e ht hI Ms S hR
  have hk' : k ≤ j := Nat.le_of_succ_le hk
  unfold evF at e
  refine for_once ?_
  cases hn : nextOf st i with
  | none => rw [hn] at e; cases e
  | some q =>
    obtain ⟨o, st₁⟩ := q
    rw [hn] at e
    have hx := nextOf_inv hn
    cases hx with
    | @lend l i' k₀ xs₀ g₁ g₂ g₃ =>
      cases e
      obtain ⟨D, ob, d1, dm, dor, dg, dL, d0⟩ := S.ownAt g₁
      rw [hI] at d1; cases d1
      cases dor with
      | litr hl hc hd =>
        obtain ⟨its, c, gl, rs⟩ := S.listAt g₂ hl
        refine wpAny_pyNext_list_end S.gd.hnd ⟨_, dg, hc, hd⟩ ⟨_, gl, rfl, c, rfl⟩ (by rw [← Array.getElem?_toList]; exact rs.nth_none g₃) fun h' hx => ?_
        exact wpAny_execs_nil (hR _ _ ⟨h', s.toks, α, _, m, rfl, S.gone g₁ hI dm (fields_ne hd) hx, Le.refl _, .next⟩)
    | @rend x left s₀ g₁ hle =>
      cases e
      obtain ⟨D, ob, d1, dm, dor, dg, dL, d0⟩ := S.ownAt g₁
      rw [hI] at d1; cases d1
      cases dor with
      | ritr =>
        refine wpAny_pyNext_range_end S.gd.hnd dg hle fun h' hx => ?_
        exact wpAny_execs_nil (hR _ _ ⟨h', s.toks, α, _, m, rfl, S.gone g₁ hI dm (fields_ne rfl) hx, Le.refl _, .next⟩)
    | @eend t j' l i' k₀ xs₀ hji g₁ g₂ g₃ g₄ =>
      subst hji
      cases e
      obtain ⟨D, ob, d1, dm, dor, dg, dL, d0⟩ := S.ownAt g₁
      rw [hI] at d1; cases d1
      obtain ⟨D₂, ob₂, e1, em, eor, eg, eL, e0⟩ := S.ownAt g₂
      cases dor with
      | eitr hi =>
        rw [hi] at e1; cases e1
        cases eor with
        | litr hl hc hd =>
          obtain ⟨its, c, gl, rs⟩ := S.listAt g₃ hl
          refine wpAny_pyNext_enum_end S.gd.hnd dg ⟨_, eg, hc, hd⟩ ⟨_, gl, rfl, c, rfl⟩ (by rw [← Array.getElem?_toList]; exact rs.nth_none g₄) fun h' hx => ?_
          exact wpAny_execs_nil (hR _ _ ⟨h', s.toks, α, _, m, rfl, S.gone g₂ hi em (fields_ne hd) hx, Le.refl _, .next⟩)
    | @litem l i' k₀ xs₀ v g₁ g₂ g₃ =>
      obtain ⟨D, ob, d1, dm, dor, dg, dL, d0⟩ := S.ownAt g₁
      rw [hI] at d1; cases d1
      cases dor with
      | litr hl hc hd =>
        obtain ⟨its, c, gl, rs⟩ := S.listAt g₂ hl
        obtain ⟨v', hv', hv⟩ := rs.nth g₃
        refine wpAny_pyNext_list_item ⟨_, dg, hc, hd⟩ ⟨_, gl, rfl, c, rfl⟩ (by rw [← Array.getElem?_toList]; exact hv') fun h' hit hs => ?_
        obtain ⟨o', og, oc, od⟩ := id hit
        have S' := S.upd g₁ hI dm (fields_ne hd) hs og (.litr hl oc od) (fun _ z => nomatch z)
        cases ht with
        | one lo => exact turn1_sound (s := { s with heap := h' }) hS hF hk' e (.one lo) hI Ms S' hv fun f s' q => hR f s' (PS.lift q (Le.refl _))
        | two lo₁ lo₂ =>
          dsimp only at e
          split at e
          · rename_i i₂
            split at e
            · rename_i k₂ av bv eg
              obtain ⟨T, rfl, hT⟩ := hv.ofRef
              obtain ⟨tits, tc, tg, tr⟩ := S'.tupAt (s := { s with heap := h' }) eg hT
              have : ∃ w₀ w₁, tits = #[w₀, w₁] ∧ VR α av w₀ ∧ VR α bv w₁ := by
                generalize hq : tits.toList = q at tr
                cases tr with
                | cons r₀ tr =>
                  cases tr with
                  | cons r₁ tr =>
                    cases tr
                    exact ⟨_, _, Array.toList_inj.mp hq, r₀, r₁⟩
              obtain ⟨w₀, w₁, rfl, r₀, r₁⟩ := this
              refine wpAny_letOwnedTupleGo_listiter (s := { s with heap := h' }) hit ?_
              exact turn2_sound (s := { s with heap := h' }) hS hF hk' e (.two lo₁ lo₂) hI Ms S' ⟨_, tg, rfl, tc, rfl⟩ r₀ r₁ fun f s' q => hR f s' (PS.lift q (Le.refl _))
            · cases e
          · cases e
    | @ritem x s₀ kk g₁ =>
      obtain ⟨D, ob, d1, dm, dor, dg, dL, d0⟩ := S.ownAt g₁
      rw [hI] at d1; cases d1
      cases dor with
      | ritr =>
        refine wpAny_pyNext_range_item dg (by show (0 : Int) < ((kk + 1 : Nat) : Int); omega) fun h' hit hs => ?_
        have hk1 : (Int.ofNat (kk + 1)) - 1 = Int.ofNat kk := by show ((kk + 1 : Nat) : Int) - 1 = (kk : Int); omega
        rw [hk1] at hit
        have S' := S.upd g₁ hI dm (fields_ne rfl) hs hit .ritr (fun _ z => nomatch z)
        cases ht with
        | one lo => exact turn1_sound (s := { s with heap := h', toks := s.toks + 1 }) hS hF hk' e (.one lo) hI Ms S' (.int _ _) fun f s' q => hR f s' (PS.lift q (Le.refl _))
        | two lo₁ lo₂ => cases e
    | @eitem t i' l j' k₀ xs₀ v hji g₁ g₂ g₃ g₄ =>
      subst hji
      obtain ⟨D, ob, d1, dm, dor, dg, dL, d0⟩ := S.ownAt g₁
      rw [hI] at d1; cases d1
      obtain ⟨D₂, ob₂, e1, em, eor, eg, eL, e0⟩ := S.ownAt g₂
      cases dor with
      | eitr hi =>
        rw [hi] at e1; cases e1
        cases eor with
        | litr hl hc hd =>
          obtain ⟨its, c, gl, rs⟩ := S.listAt g₃ hl
          obtain ⟨v', hv', hv⟩ := rs.nth g₄
          have hne : I ≠ D₂ := fun z => by
            subst z
            rw [dg] at eg
            cases eg
            exact absurd (Value.type.inj hc) (by decide)
          have hti : t ≠ i := fun z => by
            subst z
            rw [g₁] at g₂
            cases g₂
          cases ht with
          | one lo => cases e
          | two lo₁ lo₂ =>
            refine wpAny_pyNext_enum_item dg ⟨_, eg, hc, hd⟩ ⟨_, gl, rfl, c, rfl⟩ (by rw [← Array.getElem?_toList]; exact hv') hne fun h₁ heo hit₁ ht₁ hz₁ hk₁ => ?_
            refine wpAny_letOwnedTupleGo_enum heo fun h₂ he₂ hs₂ => ?_
            have hIs : s.heap.objs.size ≠ I := Nat.ne_of_gt (Heap.lt_size dg)
            have hT : h₂.IsTuple s.heap.objs.size #[.int (j' : Int) s.toks, v'] := ⟨_, (hs₂.2 _ hIs).trans ht₁, rfl, _, rfl⟩
            obtain ⟨o₂, og, oc, od⟩ := hit₁
            have og₂ : h₂.get? D₂ = some o₂ := (hs₂.2 _ hne.symm).trans og
            have S₁ := S.updX (h' := s.heap.update D₂ fun _ => o₂) g₂ hi em (fields_ne hd) (Heap.SameBut.update ..).extBut (Heap.get?_update_self _ eg (Obj.isFreed_of_fields od)) (.litr hl oc od) (fun _ z => nomatch z)
            have S₂ := S₁.updX (s := { s with heap := s.heap.update D₂ fun _ => o₂ }) (h' := h₂) (i := i) (by rw [show (St.mk st.loc st.n (put st.H t (.own, .litr l (j' + 1)))).H = put st.H t (.own, .litr l (j' + 1)) from rfl, get_put, if_neg hti]; exact g₁) hI (updL_ne dm hne) (fields_ne rfl) (fun b o hb hg => ?_) he₂ (.eitr (i := j' + 1) hi) (fun _ z => nomatch z)
            · exact turn2_sound (s := { s with heap := h₂, toks := s.toks + 1 }) hS hF hk' e (.two lo₁ lo₂) hI Ms S₂ hT (.int _ _) hv fun f s' q => hR f s' (PS.lift q (Le.refl _))
            · by_cases z : b = D₂
              · subst z
                have hg : (s.heap.update b fun _ => o₂).get? b = some o := hg
                rw [Heap.get?_update_self _ eg (Obj.isFreed_of_fields od)] at hg
                cases hg
                exact og₂
              · have hg : (s.heap.update D₂ fun _ => o₂).get? b = some o := hg
                rw [(Heap.SameBut.update ..).2 b z] at hg
                exact (hs₂.2 b hb).trans (hk₁ b o hb z hg)
end
end Cat
namespace Cat
open PySem PySem.Calls PyProof.Rows
open PySem.W (Frag nsIn mg_of mg_none_of envX)
section
variable {C : Cfg} {n : Nat} {A : Around} {h₀ : Heap} {L a : Addr} {m : Str → Option Value} {cn : Str} {cs : Scope} {ccd : Value} {clo : List (Str × Addr)} {cl : Cl} {st st' : St} {α : List Addr} {led : List (Addr × Obj)} {s : Shared}
theorem PS.next {env : Env} {kd : Str → Option NameKind} {h' : Heap} {tk : Nat} {α' : List Addr} {led' : List (Addr × Obj)} {m' : Str → Option Value} (S : Sit C n A h₀ L m' env kd cl m' [] st' α' led' h') (le : Le α α') : PS C n A h₀ L env kd cl st' α s .next .next { s with heap := h', toks := tk } :=
  ⟨h', tk, α', led', m', rfl, S, le, .next⟩
theorem asgL_sound {ih : Ih} {k : Nat} (hE : SndE C k ih.e) (hC : SndC C k ih.cp) (hk : k ≤ n) {b x : X} {z t : Nat} {y yt : Str} {ea en : Expr} {scope : Scope} {p q p' q' r' u' : Pos} {c : Int} {st₁ st₂ : St} {vs : List AV} (lo : Lo C.nm C.N cs z y)
    (hsw : swapsWith (.ListComp ea [⟨.Name yt p', .Call (.Name "range" q') [en] [] r', [], 0⟩] scope u') (some (.Name y p)) q.line (envX cn cs L a ccd clo) = pure true) (K : CompOk C.K C.nm C.N (kdOf cs) t yt scope) (ma : ME C.K C.nm C.N (rekd (kdOf cs) scope) b ea) (mn : ME C.K C.nm C.N (kdOf cs) x en) (e₁ : ih.e cl x st = some (.int c, st₁)) (hc : neg? c = false) (hsz : Nat.ble c.toNat 100000 = true)
    (e₂ : ih.cp cl b t 0 c.toNat st₁ [] = some (vs, st₂)) (S : Sit C n A h₀ L m (envX cn cs L a ccd clo) (kdOf cs) cl m [] st α led s.heap) :
    wpAny (model C.prog C.w) A (exec (.Assign [.Name y p] (.ListComp ea [⟨.Name yt p', .Call (.Name "range" q') [en] [] r', [], 0⟩] scope u') q) (envX cn cs L a ccd clo)) (PS C n A h₀ L (envX cn cs L a ccd clo) (kdOf cs) cl ⟨put st₁.loc z (.ref st₂.n), st₂.n + 1, (st₂.n, .own, .list vs) :: st₂.H⟩ α s .next) FF s := by
  obtain ⟨lo1, lo2, lo3⟩ := id lo
  obtain ⟨clo', hcl, hclo⟩ := closure_ok scope (envX cn cs L a ccd clo) fun z hz h => S.en.has z.1 (K.free z hz h)
  refine LCg.Assign_ListComp_U S.fr rfl hsw hcl K.ok.nocell K.hki K.loc K.hlk lo3 (by rw [S.en.kind]; rfl) (src_sound hE hC hk K ma mn e₁ hc hsz e₂ S hclo fun {g tk α' led' h₂ zs} le en lr R off hz => ?_) (fun _ => rfl)
  intro D h3 tk3 F3 N3 off1
  have R3 := R.more (fun _ h => h) fun p hp => N3 p (List.mem_cons_of_mem _ hp)
  have hn : (α' ++ [D])[st₂.n]? = some D := by rw [← R.len]; simp
  have lsn := Le.snoc α' D
  refine ⟨h3, tk3, α' ++ [D], (D, LCg.lst zs) :: led', _, rfl, ⟨S.gd, en.mono lsn, .inl ⟨rfl, rfl⟩, fun w av ew => ?_, F3, R3.alloc (by intro z; cases z) N3 (fun i x ex ei => ?_) (.list (by simpa using hz)) (fun _ z => nomatch z), News.nil, fun _ hp => nomatch hp⟩, le.trans lsn, .next⟩
  · have ew : get (put st₁.loc z (.ref st₂.n)) w = some av := ew
    rw [get_put] at ew
    by_cases q : z = w
    · subst q
      rw [if_pos rfl] at ew
      cases ew
      exact ⟨lo2, _, if_pos lo1, .ref hn⟩
    · rw [if_neg q] at ew
      obtain ⟨hw, v', ev, rv⟩ := lr w av ew
      refine ⟨hw, v', ?_, rv.mono lsn⟩
      rw [if_neg (fun e => q (S.gd.inj _ _ lo2 hw (lo1.trans e.symm)))]
      exact ev
  · obtain ⟨b', o', h1, h2, _⟩ := R.obj i x.1 x.2 ex
    rw [ei] at h1; cases h1
    revert h2
    have hD0 := (N3 _ List.mem_cons_self).2.2
    cases x.1 with
    | base => intro q; have q : h₀.get? D = some o' := q; rw [hD0] at q; cases q
    | froz => intro q; exact off1_in off1 _ q rfl
    | own => intro q; exact off1_in off1 _ q rfl
theorem Sit.ownList {env : Env} {kd : Str → Option NameKind} {mm : Str → Option Value} (S : Sit C n A h₀ L m env kd cl mm [] st α led s.heap) {u : AV} {o : Nat} {xs : List AV} (el : lst? st u = some (o, .own, xs)) {u' : Value} (hu : VR α u u') :
    ∃ D its c, u' = .ref D ∧ get st.H o = some (.own, .list xs) ∧ α[o]? = some D ∧ (D, { cls := .type "list", data := .seq its c }) ∈ led ∧ s.heap.get? D = some { cls := .type "list", data := .seq its c } ∧ VRs α xs its.toList ∧ its.size ≤ 100000 := by
  obtain ⟨rfl, e1, e2⟩ := lst_inv el
  obtain ⟨D, rfl, hD⟩ := hu.ofRef
  obtain ⟨D', ob, d1, dm, dor, dg, _, _⟩ := S.ownAt e1
  rw [hD] at d1; cases d1
  cases dor with
  | @list _ its c rs => exact ⟨D, its, c, rfl, e1, hD, dm, dg, rs, by rw [← Array.length_toList, ← rs.length]; exact e2⟩
theorem app_sound {env : Env} {kd : Str → Option NameKind} {h' : Heap} {tk : Nat} {α' : List Addr} {led' : List (Addr × Obj)} {st₃ : St} {w v : AV} {D : Addr} {y : Value} {o : Nat} {xs : List AV} (le : Le α α') (S : Sit C n A h₀ L m env kd cl m [] st₃ α' led' h')
    (el : lst? st₃ w = some (o, .own, xs)) (hu : VR α' w (.ref D)) (hv : VR α' v y) {Q E : Value → Shared → Prop} (hQ : ∀ s', PS C n A h₀ L env kd cl ⟨st₃.loc, st₃.n, put st₃.H o (.own, .list (xs ++ [v]))⟩ α s .next .next s' → Q .none s') :
    wpAny (model C.prog C.w) A (call (.builtin "list.append") [.ref D, y]) Q E { s with heap := h', toks := tk } := by
  obtain ⟨D', its, c, q, e1, hD, dm, dg, rs, hz⟩ := S.ownList (s := { s with heap := h', toks := tk }) el hu
  cases q
  exact append_at (s := { s with heap := h', toks := tk }) dg (fun h3 hs hg => hQ _ (PS.next (S.upd (s := { s with heap := h', toks := tk }) e1 hD dm list_nocell hs hg (.list (by rw [Array.toList_push]; exact rs.append (.cons hv .nil))) (fun _ z => nomatch z)) le)) (size_line (by omega))
theorem asgI_sound {h' : Heap} {tk : Nat} {α' : List Addr} {led' : List (Addr × Obj)} {st₃ : St} {u v : AV} {j : Int} {u' v' w' : Value} {o : Nat} {xs : List AV} (le : Le α α') (S : Sit C n A h₀ L m (envX cn cs L a ccd clo) (kdOf cs) cl m [] st₃ α' led' h')
    (el : lst? st₃ u = some (o, .own, xs)) (hj : neg? j = false) (hlt : Nat.blt j.toNat (len xs) = true) (hu : VR α' u u') (hw : VR α' (.int j) w') (hv : VR α' v v') :
    wpAny (model C.prog C.w) A (setItem u' w' v') (fun _ s' => PS C n A h₀ L (envX cn cs L a ccd clo) (kdOf cs) cl ⟨st₃.loc, st₃.n, put st₃.H o (.own, .list (setAt xs j.toNat v))⟩ α s .next .next s') FF { s with heap := h', toks := tk } := by
  obtain ⟨t, rfl⟩ := hw.ofInt
  obtain ⟨D, its, c, rfl, e1, hD, dm, dg, rs, hz⟩ := S.ownList (s := { s with heap := h', toks := tk }) el hu
  have n0 := neg_ge hj
  have hl : j.toNat < its.size := by
    have := Nat.le_of_ble_eq_true (show Nat.ble (j.toNat + 1) (len xs) = true from hlt)
    rw [len_eq, rs.length, Array.length_toList] at this
    omega
  have z63 := len63 hz
  refine PySem.W.ki_setAt (n := c) dg n0 (by omega) (by omega) ?_
  have hob : ∃ c', (Obj.mapSeq (fun x => x.setIfInBounds j.toNat v') { cls := .type "list", data := .seq its c }) = { cls := .type "list", data := .seq (its.setIfInBounds j.toNat v') c' } := by
    unfold Obj.mapSeq
    exact ⟨_, rfl⟩
  obtain ⟨c', hob⟩ := hob
  have hg := Heap.get?_update_self (Obj.mapSeq fun x => x.setIfInBounds j.toNat v') dg (by rw [hob]; rfl)
  rw [hob] at hg
  refine PS.next (S.upd (s := { s with heap := h', toks := tk }) e1 hD dm list_nocell (Heap.SameBut.update ..) hg (.list (its := its.setIfInBounds j.toNat v') ?_) (fun _ z => nomatch z)) le
  rw [Array.toList_setIfInBounds]
  exact rs.setAt hv j.toNat
end
end Cat
namespace Cat
open PySem PySem.Calls PyProof.Rows
open PySem.W (Frag nsIn mg_of mg_none_of envX)
section
variable {C : Cfg} {n : Nat} {A : Around} {h₀ : Heap} {L a : Addr} {m : Str → Option Value} {cn : Str} {cs : Scope} {ccd : Value} {clo : List (Str × Addr)} {cl : Cl} {st st' : St} {α : List Addr} {led : List (Addr × Obj)} {s : Shared}
theorem DR.length {xs : List (List Int × Addr × Value)} {es : List (List Int × Int)} (d : DR xs es) : xs.length = es.length := by
  induction d with
  | nil => rfl
  | cons k a v t _ ih => simp [ih]
theorem DR.snoc {xs : List (List Int × Addr × Value)} {es : List (List Int × Int)} (d : DR xs es) (k : List Int) (a : Addr) (v : Int) (t : Tok) : DR (xs ++ [(k, a, .int v t)]) (es ++ [(k, v)]) := by
  induction d with
  | nil => exact .cons k a v t .nil
  | cons k' a' v' t' _ ih => exact .cons k' a' v' t' ih
theorem asgK_sound {st₂ : St} {α₂ : List Addr} {led₂ : List (Addr × Obj)} {h₂ : Heap} {tk₂ : Nat} {o : Nat} {d D : Addr} {b₀ c₀ v : Int} {t u tv : Tok} {es : List (List Int × Int)} (le : Le α α₂) (S : Sit C n A h₀ L m (envX cn cs L a ccd clo) (kdOf cs) cl m [] st₂ α₂ led₂ h₂)
    (hd : α₂[o]? = some d) (eg : get st₂.H o = some (.own, .dict es)) (eq : dget es [b₀, c₀] = none) (hsz : Nat.ble (len es) 100000 = true)
    (hD : h₂.get? D = some { cls := .type "tuple", data := .seq #[.int b₀ t, .int c₀ u] 0 }) (low : ∀ p ∈ [] ++ led₂, p.1 ≠ D) (hDL : D ≠ L) (hD0 : h₀.get? D = none) :
    wpAny (model C.prog C.w) A (setItem (.ref d) (.ref D) (.int v tv)) (fun _ s' => PS C n A h₀ L (envX cn cs L a ccd clo) (kdOf cs) cl ⟨st₂.loc, st₂.n, put st₂.H o (.own, .dict (es ++ [([b₀, c₀], v)]))⟩ α s .next .next s') FF { s with heap := h₂, toks := tk₂ } := by
  have N₂ : News h₀ L h₂ ((D, { cls := .type "tuple", data := .seq #[.int b₀ t, .int c₀ u] 0 }) :: led₂) := fun p hp => by
    rcases List.mem_cons.mp hp with rfl | hp
    · exact ⟨hD, hDL, hD0⟩
    · exact S.sr.nw p hp
  have S₂ : Sit C n A h₀ L m (envX cn cs L a ccd clo) (kdOf cs) cl m [] st₂ α₂ ((D, { cls := .type "tuple", data := .seq #[.int b₀ t, .int c₀ u] 0 }) :: led₂) h₂ :=
    ⟨S.gd, S.en, S.ns, S.lr, S.fr, S.sr.more (fun _ h => List.mem_cons_of_mem _ h) N₂, News.nil, fun _ hp => nomatch hp⟩
  obtain ⟨d', ob, d1, dm, dor, dg, dL, d0⟩ := S₂.ownAt (s := { s with heap := h₂, toks := tk₂ }) eg
  rw [hd] at d1; cases d1
  obtain ⟨_, hx₀, _, _, hsy⟩ := S₂.dictAt (s := { s with heap := h₂, toks := tk₂ }) eg hd
  cases dor with
  | @dict _ xs es' ep q kk nd dr =>
    have hx : Heap.DictOfH (tupleKind (intKind C.prog C.w)) h₂ d xs := by
      refine ⟨_, _, _, dg, ⟨rfl, rfl, rfl⟩, rfl, q, fun x hx => ?_, nd⟩
      obtain ⟨o, its, c, ho, hc, hdd, hi⟩ := kk x hx
      exact ⟨o, its, c, ho.elim (S₂.fr.keep _ _) (fun q => (S₂.sr.nw _ q).1), hc, hdd, hi⟩
    have hlen := ble_le hsz
    rw [len_eq, ← dr.length] at hlen
    refine wpAny_setItem_heap (s := { s with heap := h₂, toks := tk₂ }) (by have := S.gd.units; show _ + 1 < 9900; omega) (key_is hD) hx (fun h' hx' hs => ?_) (size_line (by omega))
    rw [storedH_new ((dget_at dr _).2 eq)] at hx'
    obtain ⟨o', es'', ep', hg', ⟨hc1, hc2, hc3⟩, hdat, hes, hks, hnd⟩ := hx'
    have ho' : o' = { cls := .type "dict", data := .dict es'' ep' } := by
      obtain ⟨c1, c2, c3, c4⟩ := o'
      simp only at hc1 hc2 hc3 hdat
      rw [hc1, hc2, hc3, hdat]
    rw [ho'] at hg'
    have hdD : D ≠ d := fun z => by
      rw [z] at hD
      rw [show h₂.get? d = _ from dg] at hD
      exact absurd (Value.type.inj (congrArg Obj.cls (Option.some.inj hD))) (by decide)
    refine PS.next (S₂.upd (s := { s with heap := h₂, toks := tk₂ }) eg hd dm (ty_ne (by decide) rfl) hs hg' (.dict (xs := xs ++ [([b₀, c₀], D, .int v tv)]) hes (fun x hx => ?_) hnd (dr.snoc _ _ _ _)) (fun _ _ z => by rw [z] at hsy; exact absurd hsy (by decide))) le
    rcases List.mem_append.mp hx with hx | hx
    · obtain ⟨o, its, c, ho, hc, hdd, hi⟩ := kk x hx
      refine ⟨o, its, c, ho.imp id fun hm => updL_ne hm fun z => ?_, hc, hdd, hi⟩
      have h1 := (N₂ _ hm).1
      rw [show (x.2.1, o).1 = d from z, show h₂.get? d = _ from dg] at h1
      cases h1
      exact absurd (Value.type.inj hc) (by decide)
    · cases List.mem_singleton.mp hx
      exact ⟨_, _, _, .inr (updL_ne List.mem_cons_self hdD), rfl, rfl, .cons (intKind_is _ _ _ _) (.cons (intKind_is _ _ _ _) .nil)⟩
noncomputable def Iter (C : Cfg) (n : Nat) (A : Around) (h₀ : Heap) (L : Addr) (m : Str → Option Value) (env : Env) (kd : Str → Option NameKind) (cl : Cl) (st' : St) (i : Nat) (α : List Addr) (s : Shared) (it : Value) (s' : Shared) : Prop :=
  ∃ I h' tk α' led', it = .ref I ∧ s' = { s with heap := h', toks := tk } ∧ Sit C n A h₀ L m env kd cl m [] st' α' led' h' ∧ Le α α' ∧ α'[i]? = some I
theorem Iter.of {env : Env} {kd : Str → Option NameKind} {ao : AO} {I : Addr} {s' : Shared} (x : PE C n A h₀ L m env kd cl m [] (Cat.alloc st .own ao).2 α led s (fun β => VR β (Cat.alloc st .own ao).1 (.ref I)) s') : Iter C n A h₀ L m env kd cl ⟨st.loc, st.n + 1, (st.n, .own, ao) :: st.H⟩ st.n α s (.ref I) s' := by
  obtain ⟨h', tk, α', led', rfl, S, nx, hv⟩ := x
  obtain ⟨_, e, hI⟩ := hv.ofRef
  cases e
  exact ⟨_, h', tk, α', led', rfl, rfl, S, nx.le, hI⟩
theorem range_sound {env : Env} {kd : Str → Option NameKind} {lo hi stp : Int} {i : Nat} {r : Addr} {t u v : Tok} (S : Sit C n A h₀ L m env kd cl m [] st α led s.heap) (e : rng st lo hi stp = some (i, st')) (hr : IsRange s.heap r lo hi stp t u v) {E : Value → Shared → Prop} :
    wpAny (model C.prog C.w) A (pyIter (.ref r)) (Iter C n A h₀ L m env kd cl st' i α s) E s := by
  unfold rng at e
  split at e
  · rename_i k q1 q2 q3 q0 q4
    split at e
    · rename_i q5
      cases e
      have sl : ∀ {x : Int}, sr x = true → x.natAbs < 1000000000 := fun {x} q => by
        have := Nat.le_of_ble_eq_true (show Nat.ble (x.natAbs + 1) 1000000000 = true from q)
        omega
      have hz : Builtin.Range.rangeSize lo hi stp = (k : Int) := q4
      refine wpAny_pyIter_range hr (small_ok (sl q1) (sl q2) (sl q3) (ble_le q5) hz) ?_
      refine Iter.of (PE.push (tk := s.toks) S rfl ?_)
      rw [hz]
      exact .ritr
    · cases e
  · cases e
theorem rng_small {st₂ : St} {lo hi stp : Int} {i : Nat} (e : rng st lo hi stp = some (i, st₂)) : stp ≠ 0 ∧ stp.natAbs < 1073741824 := by
  unfold rng at e
  split at e
  · rename_i k q1 q2 q3 q0 q4
    have := Nat.le_of_ble_eq_true (show Nat.ble (stp.natAbs + 1) 1000000000 = true from q3)
    exact ⟨zero_ne q0, by omega⟩
  · cases e
end
end Cat
namespace Cat
open PySem PySem.Calls PyProof.Rows
open PySem.W (Frag nsIn mg_of mg_none_of envX)
section
variable {C : Cfg} {n : Nat} {A : Around} {h₀ : Heap} {L a : Addr} {m : Str → Option Value} {cn : Str} {cs : Scope} {ccd : Value} {clo : List (Str × Addr)} {cl : Cl} {st st' : St} {α : List Addr} {led : List (Addr × Obj)} {s : Shared}
theorem sole (t v : Expr) (l : Nat) (env : Env) : swapsWithSole [t] v l env = swapsWith v (some t) l env := by simp [swapsWithSole]
theorem aug_sound {o : Op} (ho : (match o with | .add => true | .sub => true | .shr => true | _ => false) = true) {a b c : Int} {t u : Tok} (e : binI o a b = some c) {Q : Value → Shared → Prop} {E : Value → Shared → Prop} (h : ∀ t, Q (.int c t) { s with toks := s.toks + 1 }) :
    wpAny (model C.prog C.w) A (inplaceOp (opOf o) (.int a t) (.int b u)) Q E s := by
  cases o with
  | add => cases e; exact P.iadd_int (h _)
  | sub => cases e; exact P.isub_int (h _)
  | shr =>
    refine elX e fun q e => ?_
    cases e
    exact irshift_int (neg_ge q) (h _)
  | mul => cases ho
  | div => cases ho
  | mod => cases ho
  | pow => cases ho
  | band => cases ho
  | shl => cases ho
theorem MEs.noStar {K : Frag} {nm : Nat → Str} {N : Nat} {kd : Str → Option NameKind} {env : Env} {p : Pos} {xs : List X} : ∀ {es : List Expr}, MEs K nm N kd xs es → ((backTo p (starEach es env)).any fun x => x.1) = false := by
  induction xs with
  | nil => intro es h; cases h; rfl
  | cons x xs ih =>
    intro es h
    cases h with
    | cons h hs =>
      rw [h.star]
      show (false || (backTo p (starEach _ env)).any fun x => x.1) = false
      rw [ih hs]; rfl
theorem Sit.alloc {env : Env} {kd : Str → Option NameKind} {mm : Str → Option Value} (S : Sit C n A h₀ L m env kd cl mm [] st α led s.heap) {D : Addr} {o : Obj} {ao : AO} {h' : Heap} (F : Fr h₀ L h' m) (N : News h₀ L h' ((D, o) :: led)) (hl : ∀ p ∈ led, p.1 ≠ D) (x : OR C.prog C.w h₀ led α ao o) (hsy : ∀ es, ao ≠ .dict es) :
    Sit C n A h₀ L m env kd cl mm [] ⟨st.loc, st.n + 1, (st.n, .own, ao) :: st.H⟩ (α ++ [D]) ((D, o) :: led) h' :=
  ⟨S.gd, S.en.mono (Le.snoc _ _), S.ns, S.lr.mono (Le.snoc _ _), F, S.sr.alloc (by intro z; cases z) N (fresh_of S (N _ List.mem_cons_self).2.2 hl) x (fun es z => (hsy es z).elim), News.nil, fun _ hp => nomatch hp⟩
theorem enum_sound {env : Env} {kd : Str → Option NameKind} {l : Nat} {D : Addr} {its : Array Value} {c : Nat} (S : Sit C n A h₀ L m env kd cl m [] st α led s.heap) (hD : α[l]? = some D) (g : s.heap.get? D = some { cls := .type "list", data := .seq its c }) {E : Value → Shared → Prop} :
    wpAny (model C.prog C.w) A (call (.type "enumerate") [.ref D]) (fun v s₁ => wpAny (model C.prog C.w) A (pyIter v) (Iter C n A h₀ L m env kd cl ⟨st.loc, st.n + 2, (st.n + 1, .own, .eitr st.n 0) :: (st.n, .own, .litr l 0) :: st.H⟩ (st.n + 1) α s) E s₁) E s := by
  refine call_enumerate_1 g fun h' he hit hz keep => wpAny_pyIter_enum he ?_
  obtain ⟨o, og, oc, od⟩ := hit
  have F' := S.fr.grownK keep
  have hLt : L < s.heap.objs.size := by obtain ⟨oL, _, _, hL, _⟩ := S.fr.ns; exact Heap.lt_size hL
  have fresh : ∀ q, s.heap.objs.size ≤ q → h₀.get? q = none := fun q hq => by
    cases z : h₀.get? q with
    | none => rfl
    | some o' => exact absurd (Heap.lt_size (S.fr.keep _ _ z)) (Nat.not_lt.mpr hq)
  have N₁ : News h₀ L h' ((s.heap.objs.size, o) :: led) := fun p hp => by
    rcases List.mem_cons.mp hp with rfl | hp
    · exact ⟨og, Nat.ne_of_gt hLt, fresh _ (Nat.le_refl _)⟩
    · exact S.sr.nw.grown keep p hp
  have low : ∀ p ∈ led, p.1 < s.heap.objs.size := fun p hp => Heap.lt_size (S.sr.nw p hp).1
  have S₁ := S.alloc F' N₁ (fun p hp => Nat.ne_of_lt (low p hp)) (.litr (i := 0) hD oc od) (fun _ z => nomatch z)
  have N₂ : News h₀ L h' ((s.heap.objs.size + 1, _) :: (s.heap.objs.size, o) :: led) := fun p hp => by
    rcases List.mem_cons.mp hp with rfl | hp
    · exact ⟨he, Nat.ne_of_gt (Nat.lt_succ_of_lt hLt), fresh _ (Nat.le_succ _)⟩
    · exact N₁ p hp
  have hn : (α ++ [s.heap.objs.size])[st.n]? = some s.heap.objs.size := by rw [← S.sr.len]; simp
  have S₂ := S₁.alloc (s := { s with heap := h' }) F' N₂ (fun p hp => by
    rcases List.mem_cons.mp hp with rfl | hp
    · exact Nat.ne_of_lt (Nat.lt_succ_self _)
    · exact Nat.ne_of_lt (Nat.lt_succ_of_lt (low p hp))) (.eitr (i := 0) hn) (fun _ z => nomatch z)
  refine ⟨s.heap.objs.size + 1, h', s.toks, _, _, rfl, rfl, S₂, (Le.snoc _ _).trans (Le.snoc _ _), ?_⟩
  have : (α ++ [s.heap.objs.size]).length = st.n + 1 := by rw [List.length_append, S.sr.len]; rfl
  rw [← this]; simp
theorem loop_sound {ih : Ih} {k : Nat} (hF : SndF C k ih.fl) (hk : k ≤ n) {xs : List Nat} {i : Nat} {b : List S} {tg : Expr} {es : List Stmt} {fl : Fl} {st₁ : St} (e : ih.fl cl xs i b st₁ = some (fl, st')) (ht : Tg C.nm C.N cs xs tg) (Ms : MSs C.K C.nm C.N cs b es) {α₀ : List Addr} {s₀ : Shared} {it : Value} (le₀ : Le α₀ α) (hs : ∃ h tk, s = { s₀ with heap := h, toks := tk })
    {s' : Shared} (x : Iter C n A h₀ L m (envX cn cs L a ccd clo) (kdOf cs) cl st₁ i α s it s') {E : Value → Shared → Prop} :
    codeAny (model C.prog C.w) A (.forLoop tg it es [] (envX cn cs L a ccd clo)) (fun r s'' => match r with | .ok f => PS C n A h₀ L (envX cn cs L a ccd clo) (kdOf cs) cl st' α₀ s₀ fl f s'' | .error e => cameBackBy (model C.prog C.w) A (envX cn cs L a ccd clo) E e s'') s' := by
  obtain ⟨h, tk, rfl⟩ := hs
  obtain ⟨I, h', tk', α', led', rfl, rfl, S', le, hI⟩ := x
  exact hF (s := { s₀ with heap := h', toks := tk' }) hk e ht hI Ms S' fun f s'' q => PS.lift q (le₀.trans le)
theorem MEs.star1 {K : Frag} {nm : Nat → Str} {N : Nat} {kd : Str → Option NameKind} {env : Env} {x : X} {xs : List X} {e : Expr} {es : List Expr} (h : MEs K nm N kd (x :: xs) (e :: es)) : starEach (e :: es) env = (false, eval e env) :: starEach es env := by
  cases h with
  | cons q qs => exact q.star _ _
theorem MEs.noStar1 {K : Frag} {nm : Nat → Str} {N : Nat} {kd : Str → Option NameKind} {env : Env} {p : Pos} {x : X} {xs : List X} {e : Expr} {es : List Expr} (h : MEs K nm N kd (x :: xs) (e :: es)) : ((backTo p (starEach es env)).any fun x => x.1) = false := by
  cases h with
  | cons q qs => exact qs.noStar
theorem VRs.nil' {vs : List Value} (h : VRs α [] vs) : vs = [] := by cases h; rfl
theorem VRs.int {i : Int} {as : List AV} {vs : List Value} (h : VRs α (.int i :: as) vs) : ∃ t ws, vs = .int i t :: ws ∧ VRs α as ws := by
  cases h with
  | cons v hv =>
    obtain ⟨t, rfl⟩ := v.ofInt
    exact ⟨t, _, rfl, hv⟩
theorem VRs.int1 {i : Int} {vs : List Value} (h : VRs α [.int i] vs) : ∃ t, vs = [.int i t] := by
  obtain ⟨t, _, rfl, h2⟩ := h.int
  rw [h2.nil']; exact ⟨t, rfl⟩
theorem VRs.int2 {i j : Int} {vs : List Value} (h : VRs α [.int i, .int j] vs) : ∃ t u, vs = [.int i t, .int j u] := by
  obtain ⟨t, _, rfl, h2⟩ := h.int
  obtain ⟨u, rfl⟩ := h2.int1
  exact ⟨t, u, rfl⟩
theorem VRs.int3 {i j l : Int} {vs : List Value} (h : VRs α [.int i, .int j, .int l] vs) : ∃ t u w, vs = [.int i t, .int j u, .int l w] := by
  obtain ⟨t, _, rfl, h2⟩ := h.int
  obtain ⟨u, w, rfl⟩ := h2.int2
  exact ⟨t, u, w, rfl⟩
noncomputable def RunF (C : Cfg) (k : Nat) (A : Around) (h₀ : Heap) (L : Addr) (env : Env) (kd : Str → Option NameKind) (cl : Cl) (st' : St) (α : List Addr) (s : Shared) (fl : Fl) (tg : Expr) (eb : List Stmt) (r : Value) (s₁ : Shared) : Prop :=
  wpAny (model C.prog C.w) A (pyIter r) (fun it s₂ => codeAny (model C.prog C.w) A (.forLoop tg it eb [] env) (fun r s'' => match r with | .ok f => PS C k A h₀ L env kd cl st' α s fl f s'' | .error e => cameBackBy (model C.prog C.w) A env FF e s'') s₂) FF s₁
theorem RunF.go {ih : Ih} {k : Nat} (hF : SndF C k ih.fl) (hk : k ≤ n) {x i : Nat} {b : List S} {lo hi stp : Int} {tg : Expr} {eb : List Stmt} {fl : Fl} {r : Addr} {t u v : Tok} {st₂ : St} {α₀ : List Addr} {s₀ : Shared} (e₂ : rng st lo hi stp = some (i, st₂)) (ev : ih.fl cl [x] i b st₂ = some (fl, st'))
    (ht : Tg C.nm C.N cs [x] tg) (mb : MSs C.K C.nm C.N cs b eb) (le : Le α₀ α) (S : Sit C n A h₀ L m (envX cn cs L a ccd clo) (kdOf cs) cl m [] st α led s.heap) (hr : IsRange s.heap r lo hi stp t u v) (hs : ∃ h tk, s = { s₀ with heap := h, toks := tk }) :
    RunF C n A h₀ L (envX cn cs L a ccd clo) (kdOf cs) cl st' α₀ s₀ fl tg eb (.ref r) s :=
  wpAny_mono (range_sound S e₂ hr) (fun _ _ q => loop_sound hF hk ev ht mb le hs q) (fun _ _ z => z)
theorem evS_sound {ih : Ih} {k : Nat} (hE : SndE C k ih.e) (hB : SndB C k ih.b) (hC : SndC C k ih.cp) (hS : SndS C k ih.ss) (hW : SndW C k ih.wl) (hF : SndF C k ih.fl) : SndS1 C (k + 1) (evS ih) := by
  intro j A h₀ L a m cn cs ccd clo cl st st' α led s x e fl hk ev M S
  have hk' : k ≤ j := Nat.le_of_succ_le hk
  refine MS.casesOn (motive_1 := fun x e _ => evS ih cl x st = some (fl, st') → GS C j A h₀ L (envX cn cs L a ccd clo) (kdOf cs) cl α s e fl st') M
    (fun lo hnc me ev => ?asg)
    (fun lo hsw ok ma mn ev => ?asgL)
    (fun hy hkd hsw me ev => ?asgC)
    (fun los hnc hsw me ev => ?asgT)
    (fun hnc ma mi me ev => ?asgI)
    (fun hnc md m1 m2 me ev => ?asgK)
    (fun lo ho hoo me ev => ?aug)
    (fun mt ma mb ev => ?iff)
    (fun mt mb ev => ?whl)
    (fun {x} {tg} {r} {rs} {ex} {es} {b} {eb} {p} {q} {u} hr hkd ht mes mb ev => ?forR)
    (fun ht me mb ev => ?forL)
    (fun ht me mb ev => ?forT)
    (fun hr hkd ht me mb ev => ?forE)
    (fun hp ma me ev => ?app)
    (fun me ev => ?ret)
    (fun me ev => ?ex)
    (fun ev => ?raise)
    ev
  case asg =>
    first | refine elI ev fun v st₁ e₁ ev => ?_ | refine elR ev fun v st₁ e₁ ev => ?_ | refine elF ev fun v st₁ e₁ ev => ?_ | refine elN ev fun v st₁ e₁ ev => ?_ | refine elCell ev fun v st₁ e₁ ev => ?_ | refine elOD ev fun v st₁ e₁ ev => ?_ | refine elOC ev fun v st₁ e₁ ev => ?_ | refine elD ev fun v st₁ e₁ ev => ?_ | refine elTu ev fun v st₁ e₁ ev => ?_ | refine elL ev fun v st₁ e₁ ev => ?_ | refine elLoN ev fun v st₁ e₁ ev => ?_ | refine elLN ev fun v st₁ e₁ ev => ?_ | refine elLo ev fun v st₁ e₁ ev => ?_ | refine elLs ev fun v st₁ e₁ ev => ?_ | refine elNB ev fun v st₁ e₁ ev => ?_ | refine elB ev fun v st₁ e₁ ev => ?_ | refine elDN ev fun v st₁ e₁ ev => ?_ | refine elOI ev fun v st₁ e₁ ev => ?_ | refine elP ev fun v st₁ e₁ ev => ?_ | refine elO ev fun v st₁ e₁ ev => ?_
    refine fin2 ev ?_
    refine wpAny_Assign_Name (hE.one hk' e₁ me S fun u' h' tk α' led' S' nx hu => ?_) (hnc _ _ _)
    exact store_sound (s := { s with heap := h', toks := tk }) S' lo hu fun h2 m2 tk2 S2 => PS.next S2 nx.le
  case asgL =>
    first | refine elI ev fun c st₁ e₁ ev => ?_ | refine elR ev fun c st₁ e₁ ev => ?_ | refine elF ev fun c st₁ e₁ ev => ?_ | refine elN ev fun c st₁ e₁ ev => ?_ | refine elCell ev fun c st₁ e₁ ev => ?_ | refine elOD ev fun c st₁ e₁ ev => ?_ | refine elOC ev fun c st₁ e₁ ev => ?_ | refine elD ev fun c st₁ e₁ ev => ?_ | refine elTu ev fun c st₁ e₁ ev => ?_ | refine elL ev fun c st₁ e₁ ev => ?_ | refine elLoN ev fun c st₁ e₁ ev => ?_ | refine elLN ev fun c st₁ e₁ ev => ?_ | refine elLo ev fun c st₁ e₁ ev => ?_ | refine elLs ev fun c st₁ e₁ ev => ?_ | refine elNB ev fun c st₁ e₁ ev => ?_ | refine elB ev fun c st₁ e₁ ev => ?_ | refine elDN ev fun c st₁ e₁ ev => ?_ | refine elOI ev fun c st₁ e₁ ev => ?_ | refine elP ev fun c st₁ e₁ ev => ?_ | refine elO ev fun c st₁ e₁ ev => ?_
    first | refine elI ev fun hc hsz ev => ?_ | refine elR ev fun hc hsz ev => ?_ | refine elF ev fun hc hsz ev => ?_ | refine elN ev fun hc hsz ev => ?_ | refine elCell ev fun hc hsz ev => ?_ | refine elOD ev fun hc hsz ev => ?_ | refine elOC ev fun hc hsz ev => ?_ | refine elD ev fun hc hsz ev => ?_ | refine elTu ev fun hc hsz ev => ?_ | refine elL ev fun hc hsz ev => ?_ | refine elLoN ev fun hc hsz ev => ?_ | refine elLN ev fun hc hsz ev => ?_ | refine elLo ev fun hc hsz ev => ?_ | refine elLs ev fun hc hsz ev => ?_ | refine elNB ev fun hc hsz ev => ?_ | refine elB ev fun hc hsz ev => ?_ | refine elDN ev fun hc hsz ev => ?_ | refine elOI ev fun hc hsz ev => ?_ | refine elP ev fun hc hsz ev => ?_ | refine elO ev fun hc hsz ev => ?_
    first | refine elI ev fun vs st₂ e₂ ev => ?_ | refine elR ev fun vs st₂ e₂ ev => ?_ | refine elF ev fun vs st₂ e₂ ev => ?_ | refine elN ev fun vs st₂ e₂ ev => ?_ | refine elCell ev fun vs st₂ e₂ ev => ?_ | refine elOD ev fun vs st₂ e₂ ev => ?_ | refine elOC ev fun vs st₂ e₂ ev => ?_ | refine elD ev fun vs st₂ e₂ ev => ?_ | refine elTu ev fun vs st₂ e₂ ev => ?_ | refine elL ev fun vs st₂ e₂ ev => ?_ | refine elLoN ev fun vs st₂ e₂ ev => ?_ | refine elLN ev fun vs st₂ e₂ ev => ?_ | refine elLo ev fun vs st₂ e₂ ev => ?_ | refine elLs ev fun vs st₂ e₂ ev => ?_ | refine elNB ev fun vs st₂ e₂ ev => ?_ | refine elB ev fun vs st₂ e₂ ev => ?_ | refine elDN ev fun vs st₂ e₂ ev => ?_ | refine elOI ev fun vs st₂ e₂ ev => ?_ | refine elP ev fun vs st₂ e₂ ev => ?_ | refine elO ev fun vs st₂ e₂ ev => ?_
    refine fin2 ev ?_
    exact asgL_sound hE hC hk' lo (hsw _ _ _ _ _) ok ma mn e₁ hc hsz e₂ S
  case asgC =>
    first | refine elI ev fun v st₁ e₁ ev => ?_ | refine elR ev fun v st₁ e₁ ev => ?_ | refine elF ev fun v st₁ e₁ ev => ?_ | refine elN ev fun v st₁ e₁ ev => ?_ | refine elCell ev fun v st₁ e₁ ev => ?_ | refine elOD ev fun v st₁ e₁ ev => ?_ | refine elOC ev fun v st₁ e₁ ev => ?_ | refine elD ev fun v st₁ e₁ ev => ?_ | refine elTu ev fun v st₁ e₁ ev => ?_ | refine elL ev fun v st₁ e₁ ev => ?_ | refine elLoN ev fun v st₁ e₁ ev => ?_ | refine elLN ev fun v st₁ e₁ ev => ?_ | refine elLo ev fun v st₁ e₁ ev => ?_ | refine elLs ev fun v st₁ e₁ ev => ?_ | refine elNB ev fun v st₁ e₁ ev => ?_ | refine elB ev fun v st₁ e₁ ev => ?_ | refine elDN ev fun v st₁ e₁ ev => ?_ | refine elOI ev fun v st₁ e₁ ev => ?_ | refine elP ev fun v st₁ e₁ ev => ?_ | refine elO ev fun v st₁ e₁ ev => ?_
    first | refine elI ev fun i hi ev => ?_ | refine elR ev fun i hi ev => ?_ | refine elF ev fun i hi ev => ?_ | refine elN ev fun i hi ev => ?_ | refine elCell ev fun i hi ev => ?_ | refine elOD ev fun i hi ev => ?_ | refine elOC ev fun i hi ev => ?_ | refine elD ev fun i hi ev => ?_ | refine elTu ev fun i hi ev => ?_ | refine elL ev fun i hi ev => ?_ | refine elLoN ev fun i hi ev => ?_ | refine elLN ev fun i hi ev => ?_ | refine elLo ev fun i hi ev => ?_ | refine elLs ev fun i hi ev => ?_ | refine elNB ev fun i hi ev => ?_ | refine elB ev fun i hi ev => ?_ | refine elDN ev fun i hi ev => ?_ | refine elOI ev fun i hi ev => ?_ | refine elP ev fun i hi ev => ?_ | refine elO ev fun i hi ev => ?_
    first | refine elI ev fun ov eg ev => ?_ | refine elR ev fun ov eg ev => ?_ | refine elF ev fun ov eg ev => ?_ | refine elN ev fun ov eg ev => ?_ | refine elCell ev fun ov eg ev => ?_ | refine elOD ev fun ov eg ev => ?_ | refine elOC ev fun ov eg ev => ?_ | refine elD ev fun ov eg ev => ?_ | refine elTu ev fun ov eg ev => ?_ | refine elL ev fun ov eg ev => ?_ | refine elLoN ev fun ov eg ev => ?_ | refine elLN ev fun ov eg ev => ?_ | refine elLo ev fun ov eg ev => ?_ | refine elLs ev fun ov eg ev => ?_ | refine elNB ev fun ov eg ev => ?_ | refine elB ev fun ov eg ev => ?_ | refine elDN ev fun ov eg ev => ?_ | refine elOI ev fun ov eg ev => ?_ | refine elP ev fun ov eg ev => ?_ | refine elO ev fun ov eg ev => ?_
    refine fin2 ev ?_
    refine wpAny_Assign_Name (hE.one hk' e₁ me S fun u' h' tk α' led' S' nx hu => ?_) (hsw _ _ _ _ _)
    exact storeC_sound (s := { s with heap := h', toks := tk }) S' hy hkd hi eg hu fun h2 led2 S2 => PS.next (tk := tk) S2 nx.le
  case asgT =>
    first | refine elI ev fun i st₁ e₁ ev => ?_ | refine elR ev fun i st₁ e₁ ev => ?_ | refine elF ev fun i st₁ e₁ ev => ?_ | refine elN ev fun i st₁ e₁ ev => ?_ | refine elCell ev fun i st₁ e₁ ev => ?_ | refine elOD ev fun i st₁ e₁ ev => ?_ | refine elOC ev fun i st₁ e₁ ev => ?_ | refine elD ev fun i st₁ e₁ ev => ?_ | refine elTu ev fun i st₁ e₁ ev => ?_ | refine elL ev fun i st₁ e₁ ev => ?_ | refine elLoN ev fun i st₁ e₁ ev => ?_ | refine elLN ev fun i st₁ e₁ ev => ?_ | refine elLo ev fun i st₁ e₁ ev => ?_ | refine elLs ev fun i st₁ e₁ ev => ?_ | refine elNB ev fun i st₁ e₁ ev => ?_ | refine elB ev fun i st₁ e₁ ev => ?_ | refine elDN ev fun i st₁ e₁ ev => ?_ | refine elOI ev fun i st₁ e₁ ev => ?_ | refine elP ev fun i st₁ e₁ ev => ?_ | refine elO ev fun i st₁ e₁ ev => ?_
    first | refine elI ev fun k₀ vs eg ev => ?_ | refine elR ev fun k₀ vs eg ev => ?_ | refine elF ev fun k₀ vs eg ev => ?_ | refine elN ev fun k₀ vs eg ev => ?_ | refine elCell ev fun k₀ vs eg ev => ?_ | refine elOD ev fun k₀ vs eg ev => ?_ | refine elOC ev fun k₀ vs eg ev => ?_ | refine elD ev fun k₀ vs eg ev => ?_ | refine elTu ev fun k₀ vs eg ev => ?_ | refine elL ev fun k₀ vs eg ev => ?_ | refine elLoN ev fun k₀ vs eg ev => ?_ | refine elLN ev fun k₀ vs eg ev => ?_ | refine elLo ev fun k₀ vs eg ev => ?_ | refine elLs ev fun k₀ vs eg ev => ?_ | refine elNB ev fun k₀ vs eg ev => ?_ | refine elB ev fun k₀ vs eg ev => ?_ | refine elDN ev fun k₀ vs eg ev => ?_ | refine elOI ev fun k₀ vs eg ev => ?_ | refine elP ev fun k₀ vs eg ev => ?_ | refine elO ev fun k₀ vs eg ev => ?_
    first | refine elI ev fun hlen ev => ?_ | refine elR ev fun hlen ev => ?_ | refine elF ev fun hlen ev => ?_ | refine elN ev fun hlen ev => ?_ | refine elCell ev fun hlen ev => ?_ | refine elOD ev fun hlen ev => ?_ | refine elOC ev fun hlen ev => ?_ | refine elD ev fun hlen ev => ?_ | refine elTu ev fun hlen ev => ?_ | refine elL ev fun hlen ev => ?_ | refine elLoN ev fun hlen ev => ?_ | refine elLN ev fun hlen ev => ?_ | refine elLo ev fun hlen ev => ?_ | refine elLs ev fun hlen ev => ?_ | refine elNB ev fun hlen ev => ?_ | refine elB ev fun hlen ev => ?_ | refine elDN ev fun hlen ev => ?_ | refine elOI ev fun hlen ev => ?_ | refine elP ev fun hlen ev => ?_ | refine elO ev fun hlen ev => ?_
    refine fin2 ev ?_
    have hlen := nat_beq.mp hlen
    rw [len_eq, len_eq] at hlen
    refine Assign_Tuple_swapped (hE.one hk' e₁ me S fun u' h' tk α' led' S' nx hu => ?_) ((sole _ _ _ _).trans (hnc _ _ _)) (hsw _ _ _ _ _)
    obtain ⟨T, rfl, hT⟩ := hu.ofRef
    obtain ⟨its, c, g, rs⟩ := S'.tupAt (s := { s with heap := h', toks := tk }) eg hT
    have hsz : _ = its.size := (los.length.symm.trans hlen).trans (rs.length.trans Array.length_toList)
    rw [hsz]
    refine unpackItems_tuple (s := { s with heap := h', toks := tk }) S.gd.hnd ⟨_, g, rfl, c, rfl⟩ fun h2 hx => ?_
    have S2 := S'.grow (s := { s with heap := h', toks := tk }) fun b o e => hx b o (Nat.ne_of_lt (Heap.lt_size e)) e
    exact setLocs_sound (s := { s with heap := h2, toks := tk }) los.reverse rs.reverse (by simpa using hlen) S2 fun h3 m3 tk3 S3 => PS.next S3 nx.le
  case asgI =>
    first | refine elI ev fun v st₁ e₁ ev => ?_ | refine elR ev fun v st₁ e₁ ev => ?_ | refine elF ev fun v st₁ e₁ ev => ?_ | refine elN ev fun v st₁ e₁ ev => ?_ | refine elCell ev fun v st₁ e₁ ev => ?_ | refine elOD ev fun v st₁ e₁ ev => ?_ | refine elOC ev fun v st₁ e₁ ev => ?_ | refine elD ev fun v st₁ e₁ ev => ?_ | refine elTu ev fun v st₁ e₁ ev => ?_ | refine elL ev fun v st₁ e₁ ev => ?_ | refine elLoN ev fun v st₁ e₁ ev => ?_ | refine elLN ev fun v st₁ e₁ ev => ?_ | refine elLo ev fun v st₁ e₁ ev => ?_ | refine elLs ev fun v st₁ e₁ ev => ?_ | refine elNB ev fun v st₁ e₁ ev => ?_ | refine elB ev fun v st₁ e₁ ev => ?_ | refine elDN ev fun v st₁ e₁ ev => ?_ | refine elOI ev fun v st₁ e₁ ev => ?_ | refine elP ev fun v st₁ e₁ ev => ?_ | refine elO ev fun v st₁ e₁ ev => ?_
    first | refine elI ev fun u st₂ e₂ ev => ?_ | refine elR ev fun u st₂ e₂ ev => ?_ | refine elF ev fun u st₂ e₂ ev => ?_ | refine elN ev fun u st₂ e₂ ev => ?_ | refine elCell ev fun u st₂ e₂ ev => ?_ | refine elOD ev fun u st₂ e₂ ev => ?_ | refine elOC ev fun u st₂ e₂ ev => ?_ | refine elD ev fun u st₂ e₂ ev => ?_ | refine elTu ev fun u st₂ e₂ ev => ?_ | refine elL ev fun u st₂ e₂ ev => ?_ | refine elLoN ev fun u st₂ e₂ ev => ?_ | refine elLN ev fun u st₂ e₂ ev => ?_ | refine elLo ev fun u st₂ e₂ ev => ?_ | refine elLs ev fun u st₂ e₂ ev => ?_ | refine elNB ev fun u st₂ e₂ ev => ?_ | refine elB ev fun u st₂ e₂ ev => ?_ | refine elDN ev fun u st₂ e₂ ev => ?_ | refine elOI ev fun u st₂ e₂ ev => ?_ | refine elP ev fun u st₂ e₂ ev => ?_ | refine elO ev fun u st₂ e₂ ev => ?_
    first | refine elI ev fun jj st₃ e₃ ev => ?_ | refine elR ev fun jj st₃ e₃ ev => ?_ | refine elF ev fun jj st₃ e₃ ev => ?_ | refine elN ev fun jj st₃ e₃ ev => ?_ | refine elCell ev fun jj st₃ e₃ ev => ?_ | refine elOD ev fun jj st₃ e₃ ev => ?_ | refine elOC ev fun jj st₃ e₃ ev => ?_ | refine elD ev fun jj st₃ e₃ ev => ?_ | refine elTu ev fun jj st₃ e₃ ev => ?_ | refine elL ev fun jj st₃ e₃ ev => ?_ | refine elLoN ev fun jj st₃ e₃ ev => ?_ | refine elLN ev fun jj st₃ e₃ ev => ?_ | refine elLo ev fun jj st₃ e₃ ev => ?_ | refine elLs ev fun jj st₃ e₃ ev => ?_ | refine elNB ev fun jj st₃ e₃ ev => ?_ | refine elB ev fun jj st₃ e₃ ev => ?_ | refine elDN ev fun jj st₃ e₃ ev => ?_ | refine elOI ev fun jj st₃ e₃ ev => ?_ | refine elP ev fun jj st₃ e₃ ev => ?_ | refine elO ev fun jj st₃ e₃ ev => ?_
    first | refine elI ev fun o xs el hj ev => ?_ | refine elR ev fun o xs el hj ev => ?_ | refine elF ev fun o xs el hj ev => ?_ | refine elN ev fun o xs el hj ev => ?_ | refine elCell ev fun o xs el hj ev => ?_ | refine elOD ev fun o xs el hj ev => ?_ | refine elOC ev fun o xs el hj ev => ?_ | refine elD ev fun o xs el hj ev => ?_ | refine elTu ev fun o xs el hj ev => ?_ | refine elL ev fun o xs el hj ev => ?_ | refine elLoN ev fun o xs el hj ev => ?_ | refine elLN ev fun o xs el hj ev => ?_ | refine elLo ev fun o xs el hj ev => ?_ | refine elLs ev fun o xs el hj ev => ?_ | refine elNB ev fun o xs el hj ev => ?_ | refine elB ev fun o xs el hj ev => ?_ | refine elDN ev fun o xs el hj ev => ?_ | refine elOI ev fun o xs el hj ev => ?_ | refine elP ev fun o xs el hj ev => ?_ | refine elO ev fun o xs el hj ev => ?_
    first | refine elI ev fun hlt ev => ?_ | refine elR ev fun hlt ev => ?_ | refine elF ev fun hlt ev => ?_ | refine elN ev fun hlt ev => ?_ | refine elCell ev fun hlt ev => ?_ | refine elOD ev fun hlt ev => ?_ | refine elOC ev fun hlt ev => ?_ | refine elD ev fun hlt ev => ?_ | refine elTu ev fun hlt ev => ?_ | refine elL ev fun hlt ev => ?_ | refine elLoN ev fun hlt ev => ?_ | refine elLN ev fun hlt ev => ?_ | refine elLo ev fun hlt ev => ?_ | refine elLs ev fun hlt ev => ?_ | refine elNB ev fun hlt ev => ?_ | refine elB ev fun hlt ev => ?_ | refine elDN ev fun hlt ev => ?_ | refine elOI ev fun hlt ev => ?_ | refine elP ev fun hlt ev => ?_ | refine elO ev fun hlt ev => ?_
    refine fin2 ev ?_
    refine wpAny_Assign_Subscript (hE.one hk' e₁ me S fun v' h' tk α' led' S' nx hv => ?_) (hnc _ _ _)
    refine hE.two (s := { s with heap := h', toks := tk }) hk' e₂ e₃ ma mi S' fun u' w' h2 tk2 α2 led2 S2 nx2 hu hw => ?_
    exact asgI_sound (nx.le.trans nx2.le) S2 el hj hlt hu hw (hv.mono nx2.le)
  case asgK =>
    first | refine elI ev fun v st₁ e₁ ev => ?_ | refine elR ev fun v st₁ e₁ ev => ?_ | refine elF ev fun v st₁ e₁ ev => ?_ | refine elN ev fun v st₁ e₁ ev => ?_ | refine elCell ev fun v st₁ e₁ ev => ?_ | refine elOD ev fun v st₁ e₁ ev => ?_ | refine elOC ev fun v st₁ e₁ ev => ?_ | refine elD ev fun v st₁ e₁ ev => ?_ | refine elTu ev fun v st₁ e₁ ev => ?_ | refine elL ev fun v st₁ e₁ ev => ?_ | refine elLoN ev fun v st₁ e₁ ev => ?_ | refine elLN ev fun v st₁ e₁ ev => ?_ | refine elLo ev fun v st₁ e₁ ev => ?_ | refine elLs ev fun v st₁ e₁ ev => ?_ | refine elNB ev fun v st₁ e₁ ev => ?_ | refine elB ev fun v st₁ e₁ ev => ?_ | refine elDN ev fun v st₁ e₁ ev => ?_ | refine elOI ev fun v st₁ e₁ ev => ?_ | refine elP ev fun v st₁ e₁ ev => ?_ | refine elO ev fun v st₁ e₁ ev => ?_
    first | refine elI ev fun o st₂ e₂ ev => ?_ | refine elR ev fun o st₂ e₂ ev => ?_ | refine elF ev fun o st₂ e₂ ev => ?_ | refine elN ev fun o st₂ e₂ ev => ?_ | refine elCell ev fun o st₂ e₂ ev => ?_ | refine elOD ev fun o st₂ e₂ ev => ?_ | refine elOC ev fun o st₂ e₂ ev => ?_ | refine elD ev fun o st₂ e₂ ev => ?_ | refine elTu ev fun o st₂ e₂ ev => ?_ | refine elL ev fun o st₂ e₂ ev => ?_ | refine elLoN ev fun o st₂ e₂ ev => ?_ | refine elLN ev fun o st₂ e₂ ev => ?_ | refine elLo ev fun o st₂ e₂ ev => ?_ | refine elLs ev fun o st₂ e₂ ev => ?_ | refine elNB ev fun o st₂ e₂ ev => ?_ | refine elB ev fun o st₂ e₂ ev => ?_ | refine elDN ev fun o st₂ e₂ ev => ?_ | refine elOI ev fun o st₂ e₂ ev => ?_ | refine elP ev fun o st₂ e₂ ev => ?_ | refine elO ev fun o st₂ e₂ ev => ?_
    first | refine elI ev fun b₀ st₃ e₃ ev => ?_ | refine elR ev fun b₀ st₃ e₃ ev => ?_ | refine elF ev fun b₀ st₃ e₃ ev => ?_ | refine elN ev fun b₀ st₃ e₃ ev => ?_ | refine elCell ev fun b₀ st₃ e₃ ev => ?_ | refine elOD ev fun b₀ st₃ e₃ ev => ?_ | refine elOC ev fun b₀ st₃ e₃ ev => ?_ | refine elD ev fun b₀ st₃ e₃ ev => ?_ | refine elTu ev fun b₀ st₃ e₃ ev => ?_ | refine elL ev fun b₀ st₃ e₃ ev => ?_ | refine elLoN ev fun b₀ st₃ e₃ ev => ?_ | refine elLN ev fun b₀ st₃ e₃ ev => ?_ | refine elLo ev fun b₀ st₃ e₃ ev => ?_ | refine elLs ev fun b₀ st₃ e₃ ev => ?_ | refine elNB ev fun b₀ st₃ e₃ ev => ?_ | refine elB ev fun b₀ st₃ e₃ ev => ?_ | refine elDN ev fun b₀ st₃ e₃ ev => ?_ | refine elOI ev fun b₀ st₃ e₃ ev => ?_ | refine elP ev fun b₀ st₃ e₃ ev => ?_ | refine elO ev fun b₀ st₃ e₃ ev => ?_
    first | refine elI ev fun c₀ st₄ e₄ ev => ?_ | refine elR ev fun c₀ st₄ e₄ ev => ?_ | refine elF ev fun c₀ st₄ e₄ ev => ?_ | refine elN ev fun c₀ st₄ e₄ ev => ?_ | refine elCell ev fun c₀ st₄ e₄ ev => ?_ | refine elOD ev fun c₀ st₄ e₄ ev => ?_ | refine elOC ev fun c₀ st₄ e₄ ev => ?_ | refine elD ev fun c₀ st₄ e₄ ev => ?_ | refine elTu ev fun c₀ st₄ e₄ ev => ?_ | refine elL ev fun c₀ st₄ e₄ ev => ?_ | refine elLoN ev fun c₀ st₄ e₄ ev => ?_ | refine elLN ev fun c₀ st₄ e₄ ev => ?_ | refine elLo ev fun c₀ st₄ e₄ ev => ?_ | refine elLs ev fun c₀ st₄ e₄ ev => ?_ | refine elNB ev fun c₀ st₄ e₄ ev => ?_ | refine elB ev fun c₀ st₄ e₄ ev => ?_ | refine elDN ev fun c₀ st₄ e₄ ev => ?_ | refine elOI ev fun c₀ st₄ e₄ ev => ?_ | refine elP ev fun c₀ st₄ e₄ ev => ?_ | refine elO ev fun c₀ st₄ e₄ ev => ?_
    first | refine elI ev fun es eg ev => ?_ | refine elR ev fun es eg ev => ?_ | refine elF ev fun es eg ev => ?_ | refine elN ev fun es eg ev => ?_ | refine elCell ev fun es eg ev => ?_ | refine elOD ev fun es eg ev => ?_ | refine elOC ev fun es eg ev => ?_ | refine elD ev fun es eg ev => ?_ | refine elTu ev fun es eg ev => ?_ | refine elL ev fun es eg ev => ?_ | refine elLoN ev fun es eg ev => ?_ | refine elLN ev fun es eg ev => ?_ | refine elLo ev fun es eg ev => ?_ | refine elLs ev fun es eg ev => ?_ | refine elNB ev fun es eg ev => ?_ | refine elB ev fun es eg ev => ?_ | refine elDN ev fun es eg ev => ?_ | refine elOI ev fun es eg ev => ?_ | refine elP ev fun es eg ev => ?_ | refine elO ev fun es eg ev => ?_
    first | refine elI ev fun eq hsz ev => ?_ | refine elR ev fun eq hsz ev => ?_ | refine elF ev fun eq hsz ev => ?_ | refine elN ev fun eq hsz ev => ?_ | refine elCell ev fun eq hsz ev => ?_ | refine elOD ev fun eq hsz ev => ?_ | refine elOC ev fun eq hsz ev => ?_ | refine elD ev fun eq hsz ev => ?_ | refine elTu ev fun eq hsz ev => ?_ | refine elL ev fun eq hsz ev => ?_ | refine elLoN ev fun eq hsz ev => ?_ | refine elLN ev fun eq hsz ev => ?_ | refine elLo ev fun eq hsz ev => ?_ | refine elLs ev fun eq hsz ev => ?_ | refine elNB ev fun eq hsz ev => ?_ | refine elB ev fun eq hsz ev => ?_ | refine elDN ev fun eq hsz ev => ?_ | refine elOI ev fun eq hsz ev => ?_ | refine elP ev fun eq hsz ev => ?_ | refine elO ev fun eq hsz ev => ?_
    refine fin2 ev ?_
    refine wpAny_Assign_Subscript (hE.one hk' e₁ me S fun v' h' tk α' led' S' nx hv => ?_) (hnc _ _ _)
    refine hE.one (s := { s with heap := h', toks := tk }) hk' e₂ md S' fun u' h2 tk2 α2 led2 S2 nx2 hu => ?_
    refine key_sound (s := { s with heap := h2, toks := tk2 }) hE hk' e₃ e₄ m1 m2 S2 fun D h3 tk3 α3 led3 t u S3 nx3 hD low hDL hD0 => ?_
    obtain ⟨d, rfl, hd⟩ := hu.ofRef
    obtain ⟨tv, rfl⟩ := hv.ofInt
    exact asgK_sound ((nx.le.trans nx2.le).trans nx3.le) S3 (nx3.le _ _ hd) eg eq hsz hD low hDL hD0
  case aug =>
    subst ho
    first | refine elI ev fun a₀ e₀ ev => ?_ | refine elR ev fun a₀ e₀ ev => ?_ | refine elF ev fun a₀ e₀ ev => ?_ | refine elN ev fun a₀ e₀ ev => ?_ | refine elCell ev fun a₀ e₀ ev => ?_ | refine elOD ev fun a₀ e₀ ev => ?_ | refine elOC ev fun a₀ e₀ ev => ?_ | refine elD ev fun a₀ e₀ ev => ?_ | refine elTu ev fun a₀ e₀ ev => ?_ | refine elL ev fun a₀ e₀ ev => ?_ | refine elLoN ev fun a₀ e₀ ev => ?_ | refine elLN ev fun a₀ e₀ ev => ?_ | refine elLo ev fun a₀ e₀ ev => ?_ | refine elLs ev fun a₀ e₀ ev => ?_ | refine elNB ev fun a₀ e₀ ev => ?_ | refine elB ev fun a₀ e₀ ev => ?_ | refine elDN ev fun a₀ e₀ ev => ?_ | refine elOI ev fun a₀ e₀ ev => ?_ | refine elP ev fun a₀ e₀ ev => ?_ | refine elO ev fun a₀ e₀ ev => ?_
    first | refine elI ev fun b₀ st₁ e₁ ev => ?_ | refine elR ev fun b₀ st₁ e₁ ev => ?_ | refine elF ev fun b₀ st₁ e₁ ev => ?_ | refine elN ev fun b₀ st₁ e₁ ev => ?_ | refine elCell ev fun b₀ st₁ e₁ ev => ?_ | refine elOD ev fun b₀ st₁ e₁ ev => ?_ | refine elOC ev fun b₀ st₁ e₁ ev => ?_ | refine elD ev fun b₀ st₁ e₁ ev => ?_ | refine elTu ev fun b₀ st₁ e₁ ev => ?_ | refine elL ev fun b₀ st₁ e₁ ev => ?_ | refine elLoN ev fun b₀ st₁ e₁ ev => ?_ | refine elLN ev fun b₀ st₁ e₁ ev => ?_ | refine elLo ev fun b₀ st₁ e₁ ev => ?_ | refine elLs ev fun b₀ st₁ e₁ ev => ?_ | refine elNB ev fun b₀ st₁ e₁ ev => ?_ | refine elB ev fun b₀ st₁ e₁ ev => ?_ | refine elDN ev fun b₀ st₁ e₁ ev => ?_ | refine elOI ev fun b₀ st₁ e₁ ev => ?_ | refine elP ev fun b₀ st₁ e₁ ev => ?_ | refine elO ev fun b₀ st₁ e₁ ev => ?_
    first | refine elI ev fun c₀ e₂ ev => ?_ | refine elR ev fun c₀ e₂ ev => ?_ | refine elF ev fun c₀ e₂ ev => ?_ | refine elN ev fun c₀ e₂ ev => ?_ | refine elCell ev fun c₀ e₂ ev => ?_ | refine elOD ev fun c₀ e₂ ev => ?_ | refine elOC ev fun c₀ e₂ ev => ?_ | refine elD ev fun c₀ e₂ ev => ?_ | refine elTu ev fun c₀ e₂ ev => ?_ | refine elL ev fun c₀ e₂ ev => ?_ | refine elLoN ev fun c₀ e₂ ev => ?_ | refine elLN ev fun c₀ e₂ ev => ?_ | refine elLo ev fun c₀ e₂ ev => ?_ | refine elLs ev fun c₀ e₂ ev => ?_ | refine elNB ev fun c₀ e₂ ev => ?_ | refine elB ev fun c₀ e₂ ev => ?_ | refine elDN ev fun c₀ e₂ ev => ?_ | refine elOI ev fun c₀ e₂ ev => ?_ | refine elP ev fun c₀ e₂ ev => ?_ | refine elO ev fun c₀ e₂ ev => ?_
    refine fin2 ev ?_
    obtain ⟨_, v₀, hv₀, hr₀⟩ := S.lr _ _ e₀
    obtain ⟨t₀, rfl⟩ := hr₀.ofInt
    refine wpAny_AugAssign_Name (wpAny_loadName_local S.en.kind lo.2.2 S.fr.ns (by rw [← lo.1]; exact hv₀) ?_)
    refine hE.one hk' e₁ me S fun u' h' tk α' led' S' nx hu => ?_
    obtain ⟨t₁, rfl⟩ := hu.ofInt
    refine aug_sound hoo e₂ fun t => ?_
    exact store_sound (s := { s with heap := h', toks := tk + 1 }) S' lo (.int _ t) fun h2 m2 tk2 S2 => PS.next S2 nx.le
  case iff =>
    refine elP ev fun tt st₁ e₁ ev => ?_
    cases tt with
    | true =>
      refine wpAny_If (hB.one hk' e₁ mt S fun h' tk α' led' S' nx => ?_)
      rw [if_pos rfl]
      exact wpAny_mono (hS (s := { s with heap := h', toks := tk }) hk' ev ma S') (fun w s' q => PS.lift q nx.le) (fun _ _ f => f)
    | false =>
      refine wpAny_If (hB.one hk' e₁ mt S fun h' tk α' led' S' nx => ?_)
      rw [if_neg (by intro z; cases z)]
      exact wpAny_mono (hS (s := { s with heap := h', toks := tk }) hk' ev mb S') (fun w s' q => PS.lift q nx.le) (fun _ _ f => f)
  case whl =>
    exact wpAny_While (hW hk' ev mt mb S fun f s' q => q)
  case ret =>
    first | refine elI ev fun v st₁ e₁ ev => ?_ | refine elR ev fun v st₁ e₁ ev => ?_ | refine elF ev fun v st₁ e₁ ev => ?_ | refine elN ev fun v st₁ e₁ ev => ?_ | refine elCell ev fun v st₁ e₁ ev => ?_ | refine elOD ev fun v st₁ e₁ ev => ?_ | refine elOC ev fun v st₁ e₁ ev => ?_ | refine elD ev fun v st₁ e₁ ev => ?_ | refine elTu ev fun v st₁ e₁ ev => ?_ | refine elL ev fun v st₁ e₁ ev => ?_ | refine elLoN ev fun v st₁ e₁ ev => ?_ | refine elLN ev fun v st₁ e₁ ev => ?_ | refine elLo ev fun v st₁ e₁ ev => ?_ | refine elLs ev fun v st₁ e₁ ev => ?_ | refine elNB ev fun v st₁ e₁ ev => ?_ | refine elB ev fun v st₁ e₁ ev => ?_ | refine elDN ev fun v st₁ e₁ ev => ?_ | refine elOI ev fun v st₁ e₁ ev => ?_ | refine elP ev fun v st₁ e₁ ev => ?_ | refine elO ev fun v st₁ e₁ ev => ?_
    refine fin2 ev ?_
    exact wpAny_Return_some (hE.one hk' e₁ me S fun u' h' tk α' led' S' nx hu => ⟨h', tk, α', led', m, rfl, S', nx.le, .ret hu⟩)
  case raise =>
    cases ev
  case ex =>
    first | refine elI ev fun st₁ e₁ ev => ?_ | refine elR ev fun st₁ e₁ ev => ?_ | refine elF ev fun st₁ e₁ ev => ?_ | refine elN ev fun st₁ e₁ ev => ?_ | refine elCell ev fun st₁ e₁ ev => ?_ | refine elOD ev fun st₁ e₁ ev => ?_ | refine elOC ev fun st₁ e₁ ev => ?_ | refine elD ev fun st₁ e₁ ev => ?_ | refine elTu ev fun st₁ e₁ ev => ?_ | refine elL ev fun st₁ e₁ ev => ?_ | refine elLoN ev fun st₁ e₁ ev => ?_ | refine elLN ev fun st₁ e₁ ev => ?_ | refine elLo ev fun st₁ e₁ ev => ?_ | refine elLs ev fun st₁ e₁ ev => ?_ | refine elNB ev fun st₁ e₁ ev => ?_ | refine elB ev fun st₁ e₁ ev => ?_ | refine elDN ev fun st₁ e₁ ev => ?_ | refine elOI ev fun st₁ e₁ ev => ?_ | refine elP ev fun st₁ e₁ ev => ?_ | refine elO ev fun st₁ e₁ ev => ?_
    refine fin2 ev ?_
    refine wpAny_Expr (hE.one hk' e₁ me S fun u' h' tk α' led' S' nx hu => ?_) ?_ ?_
    · rw [hu.ofNone]
      exact PS.next S' nx.le
    · unfold interactive
      rw [S.en.kind]; rfl
    · rfl
  case app =>
    first | refine elI ev fun u st₁ e₁ ev => ?_ | refine elR ev fun u st₁ e₁ ev => ?_ | refine elF ev fun u st₁ e₁ ev => ?_ | refine elN ev fun u st₁ e₁ ev => ?_ | refine elCell ev fun u st₁ e₁ ev => ?_ | refine elOD ev fun u st₁ e₁ ev => ?_ | refine elOC ev fun u st₁ e₁ ev => ?_ | refine elD ev fun u st₁ e₁ ev => ?_ | refine elTu ev fun u st₁ e₁ ev => ?_ | refine elL ev fun u st₁ e₁ ev => ?_ | refine elLoN ev fun u st₁ e₁ ev => ?_ | refine elLN ev fun u st₁ e₁ ev => ?_ | refine elLo ev fun u st₁ e₁ ev => ?_ | refine elLs ev fun u st₁ e₁ ev => ?_ | refine elNB ev fun u st₁ e₁ ev => ?_ | refine elB ev fun u st₁ e₁ ev => ?_ | refine elDN ev fun u st₁ e₁ ev => ?_ | refine elOI ev fun u st₁ e₁ ev => ?_ | refine elP ev fun u st₁ e₁ ev => ?_ | refine elO ev fun u st₁ e₁ ev => ?_
    first | refine elI ev fun w hw ev => ?_ | refine elR ev fun w hw ev => ?_ | refine elF ev fun w hw ev => ?_ | refine elN ev fun w hw ev => ?_ | refine elCell ev fun w hw ev => ?_ | refine elOD ev fun w hw ev => ?_ | refine elOC ev fun w hw ev => ?_ | refine elD ev fun w hw ev => ?_ | refine elTu ev fun w hw ev => ?_ | refine elL ev fun w hw ev => ?_ | refine elLoN ev fun w hw ev => ?_ | refine elLN ev fun w hw ev => ?_ | refine elLo ev fun w hw ev => ?_ | refine elLs ev fun w hw ev => ?_ | refine elNB ev fun w hw ev => ?_ | refine elB ev fun w hw ev => ?_ | refine elDN ev fun w hw ev => ?_ | refine elOI ev fun w hw ev => ?_ | refine elP ev fun w hw ev => ?_ | refine elO ev fun w hw ev => ?_
    first | refine elI ev fun v st₂ e₂ ev => ?_ | refine elR ev fun v st₂ e₂ ev => ?_ | refine elF ev fun v st₂ e₂ ev => ?_ | refine elN ev fun v st₂ e₂ ev => ?_ | refine elCell ev fun v st₂ e₂ ev => ?_ | refine elOD ev fun v st₂ e₂ ev => ?_ | refine elOC ev fun v st₂ e₂ ev => ?_ | refine elD ev fun v st₂ e₂ ev => ?_ | refine elTu ev fun v st₂ e₂ ev => ?_ | refine elL ev fun v st₂ e₂ ev => ?_ | refine elLoN ev fun v st₂ e₂ ev => ?_ | refine elLN ev fun v st₂ e₂ ev => ?_ | refine elLo ev fun v st₂ e₂ ev => ?_ | refine elLs ev fun v st₂ e₂ ev => ?_ | refine elNB ev fun v st₂ e₂ ev => ?_ | refine elB ev fun v st₂ e₂ ev => ?_ | refine elDN ev fun v st₂ e₂ ev => ?_ | refine elOI ev fun v st₂ e₂ ev => ?_ | refine elP ev fun v st₂ e₂ ev => ?_ | refine elO ev fun v st₂ e₂ ev => ?_
    first | refine elI ev fun o xs el ev => ?_ | refine elR ev fun o xs el ev => ?_ | refine elF ev fun o xs el ev => ?_ | refine elN ev fun o xs el ev => ?_ | refine elCell ev fun o xs el ev => ?_ | refine elOD ev fun o xs el ev => ?_ | refine elOC ev fun o xs el ev => ?_ | refine elD ev fun o xs el ev => ?_ | refine elTu ev fun o xs el ev => ?_ | refine elL ev fun o xs el ev => ?_ | refine elLoN ev fun o xs el ev => ?_ | refine elLN ev fun o xs el ev => ?_ | refine elLo ev fun o xs el ev => ?_ | refine elLs ev fun o xs el ev => ?_ | refine elNB ev fun o xs el ev => ?_ | refine elB ev fun o xs el ev => ?_ | refine elDN ev fun o xs el ev => ?_ | refine elOI ev fun o xs el ev => ?_ | refine elP ev fun o xs el ev => ?_ | refine elO ev fun o xs el ev => ?_
    refine fin2 ev ?_
    refine wpAny_Expr ?_ ?_ rfl
    · refine wpAny_Call_append rfl (by rw [me.star]; rfl) hp (by rw [me.star]; rfl) ?_
      refine hE.one hk' e₁ ma S fun u' h' tk α' led' S' nx hu => ?_
      obtain ⟨D₁, its₁, c₁, rfl, _, g₁, _, _⟩ := lst_at (s := { s with heap := h', toks := tk }) hw hu S'
      refine ⟨D₁, its₁, rfl, ⟨_, c₁, g₁, rfl, rfl, rfl⟩, ?_⟩
      refine hE.one (s := { s with heap := h', toks := tk }) hk' e₂ me S' fun v' h2 tk2 α2 led2 S2 nx2 hv => ?_
      exact app_sound (s := s) (nx.le.trans nx2.le) S2 el (hu.mono nx2.le) hv fun _ q => q
    · unfold interactive
      rw [S.en.kind]; rfl
  case forR =>
    have go : ∀ {vs : List AV} {st₁ : St}, evs ih cl (r :: rs) st = some (vs, st₁) → (∀ {vs' : List Value} {h' : Heap} {tk : Nat} {α' : List Addr} {led' : List (Addr × Obj)}, Sit C j A h₀ L m (envX cn cs L a ccd clo) (kdOf cs) cl m [] st₁ α' led' h' → Le α α' → VRs α' vs vs' →
        wpAny (model C.prog C.w) A (call (.type "range") vs') (RunF C j A h₀ L (envX cn cs L a ccd clo) (kdOf cs) cl st' α s fl tg eb) FF { s with heap := h', toks := tk }) →
        GS C j A h₀ L (envX cn cs L a ccd clo) (kdOf cs) cl α s (.For tg (.Call (.Name "range" p) (ex :: es) [] q) eb [] u) fl st' := by
      intro vs st₁ e₁ h
      refine wpAny_For (Call_ (name_bn hr hkd boot_range' (by decide) (by decide) S ?_)) (fun _ => rfl)
      exact PyProof.Rows.callWith_type1 (evs_sound hE hk' e₁ mes S fun vs' h' tk α' led' S' nx hv => h S' nx.le hv) mes.star1 mes.noStar1
    refine elP ev fun vs st₁ e₁ ev => ?_
    refine elAR ev (fun hi hvs ev => ?_) (fun lo hi hvs ev => ?_) (fun lo hi sp hvs ev => ?_) <;> subst hvs
    · refine elP ev fun i st₂ e₂ ev => ?_
      refine go e₁ fun {vs' h' tk α' led'} S' le hv => ?_
      obtain ⟨t₁, rfl⟩ := hv.int1
      refine call_range_1 (s := { s with heap := h', toks := tk }) ?_
      exact RunF.go (s := { s with heap := _, toks := tk + 1 + 1 }) hF hk' e₂ ev ht mb le (S'.push (s := { s with heap := h', toks := tk }) { cls := .type "range", data := .fields #[.int 0 tk, .int hi t₁, .int 1 (tk + 1)] }) (Heap.get?_push_size _ rfl) ⟨_, _, rfl⟩
    · refine elP ev fun i st₂ e₂ ev => ?_
      refine go e₁ fun {vs' h' tk α' led'} S' le hv => ?_
      obtain ⟨t₁, t₂, rfl⟩ := hv.int2
      refine call_range_2 (s := { s with heap := h', toks := tk }) ?_
      exact RunF.go (s := { s with heap := _, toks := tk + 1 }) hF hk' e₂ ev ht mb le (S'.push (s := { s with heap := h', toks := tk }) { cls := .type "range", data := .fields #[.int lo t₁, .int hi t₂, .int 1 tk] }) (Heap.get?_push_size _ rfl) ⟨_, _, rfl⟩
    · refine elP ev fun i st₂ e₂ ev => ?_
      refine go e₁ fun {vs' h' tk α' led'} S' le hv => ?_
      obtain ⟨t₁, t₂, t₃, rfl⟩ := hv.int3
      refine call_range_3 (s := { s with heap := h', toks := tk }) (rng_small e₂).1 ?_ (.inl (PyProof.noPylong_small (rng_small e₂).2))
      exact RunF.go (s := { s with heap := _, toks := tk }) hF hk' e₂ ev ht mb le (S'.push (s := { s with heap := h', toks := tk }) { cls := .type "range", data := .fields #[.int lo t₁, .int hi t₂, .int sp t₃] }) (Heap.get?_push_size _ rfl) ⟨_, _, rfl⟩
  case forL =>
    first | refine elI ev fun l st₁ e₁ ev => ?_ | refine elR ev fun l st₁ e₁ ev => ?_ | refine elF ev fun l st₁ e₁ ev => ?_ | refine elN ev fun l st₁ e₁ ev => ?_ | refine elCell ev fun l st₁ e₁ ev => ?_ | refine elOD ev fun l st₁ e₁ ev => ?_ | refine elOC ev fun l st₁ e₁ ev => ?_ | refine elD ev fun l st₁ e₁ ev => ?_ | refine elTu ev fun l st₁ e₁ ev => ?_ | refine elL ev fun l st₁ e₁ ev => ?_ | refine elLoN ev fun l st₁ e₁ ev => ?_ | refine elLN ev fun l st₁ e₁ ev => ?_ | refine elLo ev fun l st₁ e₁ ev => ?_ | refine elLs ev fun l st₁ e₁ ev => ?_ | refine elNB ev fun l st₁ e₁ ev => ?_ | refine elB ev fun l st₁ e₁ ev => ?_ | refine elDN ev fun l st₁ e₁ ev => ?_ | refine elOI ev fun l st₁ e₁ ev => ?_ | refine elP ev fun l st₁ e₁ ev => ?_ | refine elO ev fun l st₁ e₁ ev => ?_
    first | refine elI ev fun k₀ xs₀ eg ev => ?_ | refine elR ev fun k₀ xs₀ eg ev => ?_ | refine elF ev fun k₀ xs₀ eg ev => ?_ | refine elN ev fun k₀ xs₀ eg ev => ?_ | refine elCell ev fun k₀ xs₀ eg ev => ?_ | refine elOD ev fun k₀ xs₀ eg ev => ?_ | refine elOC ev fun k₀ xs₀ eg ev => ?_ | refine elD ev fun k₀ xs₀ eg ev => ?_ | refine elTu ev fun k₀ xs₀ eg ev => ?_ | refine elL ev fun k₀ xs₀ eg ev => ?_ | refine elLoN ev fun k₀ xs₀ eg ev => ?_ | refine elLN ev fun k₀ xs₀ eg ev => ?_ | refine elLo ev fun k₀ xs₀ eg ev => ?_ | refine elLs ev fun k₀ xs₀ eg ev => ?_ | refine elNB ev fun k₀ xs₀ eg ev => ?_ | refine elB ev fun k₀ xs₀ eg ev => ?_ | refine elDN ev fun k₀ xs₀ eg ev => ?_ | refine elOI ev fun k₀ xs₀ eg ev => ?_ | refine elP ev fun k₀ xs₀ eg ev => ?_ | refine elO ev fun k₀ xs₀ eg ev => ?_
    refine wpAny_For (hE.one hk' e₁ me S fun u' h' tk α' led' S' nx hu => ?_) (me.noSet _)
    obtain ⟨D, rfl, hD⟩ := hu.ofRef
    obtain ⟨its, c, g, rs⟩ := S'.listAt (s := { s with heap := h', toks := tk }) eg hD
    refine wpAny_pyIter_list (s := { s with heap := h', toks := tk }) ⟨_, g, rfl, c, rfl⟩ ?_
    exact loop_sound (s := { s with heap := h', toks := tk }) hF hk' ev ht mb nx.le ⟨_, _, rfl⟩ (Iter.of (PE.push (s := { s with heap := h', toks := tk }) (tk := tk) S' rfl (.litr (i := 0) hD rfl rfl)))
  case forT =>
    first | refine elI ev fun l st₁ e₁ ev => ?_ | refine elR ev fun l st₁ e₁ ev => ?_ | refine elF ev fun l st₁ e₁ ev => ?_ | refine elN ev fun l st₁ e₁ ev => ?_ | refine elCell ev fun l st₁ e₁ ev => ?_ | refine elOD ev fun l st₁ e₁ ev => ?_ | refine elOC ev fun l st₁ e₁ ev => ?_ | refine elD ev fun l st₁ e₁ ev => ?_ | refine elTu ev fun l st₁ e₁ ev => ?_ | refine elL ev fun l st₁ e₁ ev => ?_ | refine elLoN ev fun l st₁ e₁ ev => ?_ | refine elLN ev fun l st₁ e₁ ev => ?_ | refine elLo ev fun l st₁ e₁ ev => ?_ | refine elLs ev fun l st₁ e₁ ev => ?_ | refine elNB ev fun l st₁ e₁ ev => ?_ | refine elB ev fun l st₁ e₁ ev => ?_ | refine elDN ev fun l st₁ e₁ ev => ?_ | refine elOI ev fun l st₁ e₁ ev => ?_ | refine elP ev fun l st₁ e₁ ev => ?_ | refine elO ev fun l st₁ e₁ ev => ?_
    first | refine elI ev fun k₀ xs₀ eg ev => ?_ | refine elR ev fun k₀ xs₀ eg ev => ?_ | refine elF ev fun k₀ xs₀ eg ev => ?_ | refine elN ev fun k₀ xs₀ eg ev => ?_ | refine elCell ev fun k₀ xs₀ eg ev => ?_ | refine elOD ev fun k₀ xs₀ eg ev => ?_ | refine elOC ev fun k₀ xs₀ eg ev => ?_ | refine elD ev fun k₀ xs₀ eg ev => ?_ | refine elTu ev fun k₀ xs₀ eg ev => ?_ | refine elL ev fun k₀ xs₀ eg ev => ?_ | refine elLoN ev fun k₀ xs₀ eg ev => ?_ | refine elLN ev fun k₀ xs₀ eg ev => ?_ | refine elLo ev fun k₀ xs₀ eg ev => ?_ | refine elLs ev fun k₀ xs₀ eg ev => ?_ | refine elNB ev fun k₀ xs₀ eg ev => ?_ | refine elB ev fun k₀ xs₀ eg ev => ?_ | refine elDN ev fun k₀ xs₀ eg ev => ?_ | refine elOI ev fun k₀ xs₀ eg ev => ?_ | refine elP ev fun k₀ xs₀ eg ev => ?_ | refine elO ev fun k₀ xs₀ eg ev => ?_
    refine wpAny_For (hE.one hk' e₁ me S fun u' h' tk α' led' S' nx hu => ?_) (me.noSet _)
    obtain ⟨D, rfl, hD⟩ := hu.ofRef
    obtain ⟨its, c, g, rs⟩ := S'.listAt (s := { s with heap := h', toks := tk }) eg hD
    refine wpAny_pyIter_list (s := { s with heap := h', toks := tk }) ⟨_, g, rfl, c, rfl⟩ ?_
    exact loop_sound (s := { s with heap := h', toks := tk }) hF hk' ev ht mb nx.le ⟨_, _, rfl⟩ (Iter.of (PE.push (s := { s with heap := h', toks := tk }) (tk := tk) S' rfl (.litr (i := 0) hD rfl rfl)))
  case forE =>
    first | refine elI ev fun l st₁ e₁ ev => ?_ | refine elR ev fun l st₁ e₁ ev => ?_ | refine elF ev fun l st₁ e₁ ev => ?_ | refine elN ev fun l st₁ e₁ ev => ?_ | refine elCell ev fun l st₁ e₁ ev => ?_ | refine elOD ev fun l st₁ e₁ ev => ?_ | refine elOC ev fun l st₁ e₁ ev => ?_ | refine elD ev fun l st₁ e₁ ev => ?_ | refine elTu ev fun l st₁ e₁ ev => ?_ | refine elL ev fun l st₁ e₁ ev => ?_ | refine elLoN ev fun l st₁ e₁ ev => ?_ | refine elLN ev fun l st₁ e₁ ev => ?_ | refine elLo ev fun l st₁ e₁ ev => ?_ | refine elLs ev fun l st₁ e₁ ev => ?_ | refine elNB ev fun l st₁ e₁ ev => ?_ | refine elB ev fun l st₁ e₁ ev => ?_ | refine elDN ev fun l st₁ e₁ ev => ?_ | refine elOI ev fun l st₁ e₁ ev => ?_ | refine elP ev fun l st₁ e₁ ev => ?_ | refine elO ev fun l st₁ e₁ ev => ?_
    first | refine elI ev fun k₀ xs₀ eg ev => ?_ | refine elR ev fun k₀ xs₀ eg ev => ?_ | refine elF ev fun k₀ xs₀ eg ev => ?_ | refine elN ev fun k₀ xs₀ eg ev => ?_ | refine elCell ev fun k₀ xs₀ eg ev => ?_ | refine elOD ev fun k₀ xs₀ eg ev => ?_ | refine elOC ev fun k₀ xs₀ eg ev => ?_ | refine elD ev fun k₀ xs₀ eg ev => ?_ | refine elTu ev fun k₀ xs₀ eg ev => ?_ | refine elL ev fun k₀ xs₀ eg ev => ?_ | refine elLoN ev fun k₀ xs₀ eg ev => ?_ | refine elLN ev fun k₀ xs₀ eg ev => ?_ | refine elLo ev fun k₀ xs₀ eg ev => ?_ | refine elLs ev fun k₀ xs₀ eg ev => ?_ | refine elNB ev fun k₀ xs₀ eg ev => ?_ | refine elB ev fun k₀ xs₀ eg ev => ?_ | refine elDN ev fun k₀ xs₀ eg ev => ?_ | refine elOI ev fun k₀ xs₀ eg ev => ?_ | refine elP ev fun k₀ xs₀ eg ev => ?_ | refine elO ev fun k₀ xs₀ eg ev => ?_
    refine wpAny_For (Call_ (name_bn hr hkd boot_enum' (by decide) (by decide) S ?_)) (fun _ => rfl)
    refine PyProof.Rows.callWith_type1 (spliced_more (hE.one hk' e₁ me S fun u' h' tk α' led' S' nx hu => spliced_none ?_) (me.star _ _)) (me.star _ _) rfl
    obtain ⟨D, rfl, hD⟩ := hu.ofRef
    obtain ⟨its, c, g, rs⟩ := S'.listAt (s := { s with heap := h', toks := tk }) eg hD
    refine wpAny_mono (enum_sound (s := { s with heap := h', toks := tk }) S' hD g) (fun v s₁ q => wpAny_mono q (fun it s₂ q => ?_) (fun _ _ z => z)) (fun _ _ z => z)
    exact loop_sound (s := { s with heap := h', toks := tk }) hF hk' ev ht mb nx.le ⟨_, _, rfl⟩ q
end
end Cat
namespace Cat
open PySem PySem.Calls PyProof.Rows PySem.Spec
open PySem.W (Frag nsIn mg_of mg_none_of envX fnX fnOf codeIn codeRec_of groundX cellsFrom_some kindsX)
theorem body_call {prog : Program} {w : World} {A₀ A : Around} {s : Shared} {base h₀ : Heap} {outer : List Env} {L : Addr} {m : Str → Option Value} {env : Env}
    {R : Result → Shared → Prop} {name qual : Str} {params : Arguments} {body : List Stmt} {scope : Scope} {dV kV doc pm cdv ct : Value} {an : Option Addr} {fo : Obj} {f : Addr} {args : Args} {binds : List (Str × Value)}
    (B : Below A₀ base outer h₀) (F : Fr h₀ L s.heap m) (hlim : h₀.NoLimit) (hA : A.frames = some (env :: outer)) (hf : env.frame = some L) (hke : env.scope.kind = .function)
    (ho : s.heap.get? f = some fo) (hd : fo.data = .func (fnOf name qual params body scope dV kV doc pm an cdv ct)) (hcd : s.heap.CodeRec cdv qual) (hroom : A.depth < recursionLimit)
    (hbind : BindsTo s (fnOf name qual params body scope dV kV doc pm an cdv ct) args binds)
    (hkind : ∀ n, ∀ x ∈ binds, scope.names.lookup x.1 = some .local ∨ (scope.names.lookup x.1 = some .cell ∧ ((cellsFrom n scope.names []).lookup x.1).isSome = true))
    (hnd : ((cellsFrom 0 scope.names []).map (·.1)).Nodup)
    (h : ∀ h₁ tk cells, Fr s.heap s.heap.objs.size h₁ (bindL (fun y => scope.names.lookup y) binds fun _ => none) → News s.heap s.heap.objs.size h₁ cells →
      CellsAre (bindC (fun y => scope.names.lookup y) binds fun _ => none) (cellsFrom (s.heap.objs.size + 1) scope.names []) cells → Below A base (env :: outer) s.heap →
      wpAny (model prog w) (A.deeper (envX qual scope s.heap.objs.size f cdv (cellsFrom (s.heap.objs.size + 1) scope.names []))) (execs body (envX qual scope s.heap.objs.size f cdv (cellsFrom (s.heap.objs.size + 1) scope.names [])))
        (fun fl s' => R (.ok (.ret (match fl with | .ret v => v | _ => .none))) s') FF { s with heap := h₁, toks := tk })
    (hco : scope.isCoroutine = false) (hgen : scope.isGenerator = false) (hk : scope.kind = .function) : codeAny (model prog w) A (.call (.ref f) args) R s := by
  obtain ⟨FG, BG, st, lv⟩ := groundX (R := R) B F (News.nil (h₀ := h₀) (L := L) (h := s.heap)) hA hf hke
  refine codeAny_call_function hroom ho hd hco hgen rfl hcd (hbind _ _ _ _ ?_)
  refine wpAny_newFunctionEnv_cells hk (hkind _) fun env' he s' x => ?_
  subst he
  refine ⟨(hlim.keeps F.keep).keeps x.toInCall.keep, codeAny_func ?_⟩
  obtain ⟨h₁, tk, rfl, _⟩ := x.done
  have hk₁ := x.toInCall.keep
  obtain ⟨cells, NC, Y⟩ := Cl.news (h₀ := s.heap) (Nat.le_refl _) fun n c hm => ⟨x.cell n c (lookup_of_mem_nodup (cellsFrom_names scope.names 0 (s.heap.objs.size + 1) [] [] rfl ▸ hnd) hm), x.above n c hm⟩
  exact wpAny_mono (h h₁ tk cells ⟨x.toInCall.ns, hk₁, Nat.le_refl _⟩ NC Y BG) (fun fl s' hl => hl) fun _ _ y => y.elim
structure FnOk (K : Frag) (nm : Nat → Str) (N : Nat) (g : Nat) (fn : Fn) (o : Obj) (fd : FuncData) (body : List Stmt) : Prop where
  look : K.lookup g = some o
  dat : o.data = .func fd
  shape : fd = fnOf fd.name fd.qualname fd.params body fd.scope fd.defaults fd.kwdefaults fd.doc fd.pyModule fd.annotations fd.code fd.closureTuple
  code : codeIn K fd.code fd.qualname = true
  bind : ∀ (s : Shared) (vs : List Value), vs.length = fn.ps.length → BindsTo s fd ⟨vs, []⟩ ((fn.ps.map nm).zip vs)
  loc : Los nm N fd.scope fn.ps (fn.ps.map nm)
  dist : fn.ps.Nodup
  cells : (fn.cs = [] ∧ (cellsFrom 0 fd.scope.names []).map (·.1) = []) ∨ ∃ x, fn.cs = [x] ∧ (cellsFrom 0 fd.scope.names []).map (·.1) = [nm x]
  text : MSs K nm N fd.scope fn.body body
  co : fd.scope.isCoroutine = false
  gen : fd.scope.isGenerator = false
  kind : fd.scope.kind = .function
noncomputable def FnsOk (K : Frag) (nm : Nat → Str) (N : Nat) (fs : List (Nat × Fn)) : Prop := ∀ g fn, get fs g = some fn → ∃ o fd body, FnOk K nm N g fn o fd body
noncomputable def AllFn (K : Frag) (nm : Nat → Str) (N : Nat) : List (Nat × Fn) → Prop
  | [] => True
  | p :: l => (∃ o fd body, FnOk K nm N p.1 p.2 o fd body) ∧ AllFn K nm N l
theorem AllFn.ok {K : Frag} {nm : Nat → Str} {N : Nat} : ∀ {fs : List (Nat × Fn)}, AllFn K nm N fs → FnsOk K nm N fs
  | [], _, _, _, e => by cases e
  | p :: l, h, g, fn, e => by
    rw [show get (p :: l) g = if p.1 = g then some p.2 else get l g from get_cons p.1 p.2 l g] at e
    by_cases q : p.1 = g
    · rw [if_pos q] at e
      cases e
      exact q ▸ h.1
    · rw [if_neg q] at e
      exact AllFn.ok h.2 g fn e
theorem Los.zip_local {nm : Nat → Str} {N : Nat} {cs : Scope} : ∀ {xs : List Nat} {ys : List Str} {vs : List Value}, Los nm N cs xs ys → ∀ y ∈ ys.zip vs, cs.names.lookup y.1 = some .local := by
  intro xs ys vs h
  induction h generalizing vs with
  | nil => intro y hy; cases hy
  | cons l _ ih =>
    intro y hy
    cases vs with
    | nil => cases hy
    | cons v vs =>
      rcases List.mem_cons.mp hy with rfl | hy
      · exact l.2.2
      · exact ih y hy
theorem bindC_local {nm : Nat → Str} {N : Nat} {cs : Scope} {xs : List Nat} {ys : List Str} (h : Los nm N cs xs ys) : ∀ (vs : List Value) (m : Str → Option Value), bindC (fun y => cs.names.lookup y) (ys.zip vs) m = m := by
  induction h with
  | nil => intro vs m; rfl
  | cons l _ ih =>
    intro vs m
    cases vs with
    | nil => rfl
    | cons v vs =>
      show bindC _ (_ :: _) m = m
      unfold bindC
      rw [if_pos l.2.2]
      exact ih vs m
theorem bindL_out {nm : Nat → Str} {N : Nat} {cs : Scope} {xs : List Nat} {ys : List Str} (h : Los nm N cs xs ys) (y : Str) (hy : y ∉ ys) : ∀ (vs : List Value) (m : Str → Option Value), bindL (fun y => cs.names.lookup y) (ys.zip vs) m y = m y := by
  induction h with
  | nil => intro vs m; rfl
  | @cons x₀ xs y₀ ys l _ ih =>
    intro vs m
    cases vs with
    | nil => rfl
    | cons v vs =>
      show bindL _ ((y₀, v) :: ys.zip vs) m y = m y
      unfold bindL
      rw [if_pos l.2.2, ih (fun q => hy (List.mem_cons_of_mem _ q))]
      exact if_neg fun (q : y = y₀) => hy (by rw [q]; exact List.mem_cons_self)
theorem Los.names {nm : Nat → Str} {N : Nat} {cs : Scope} {xs : List Nat} {ys : List Str} (h : Los nm N cs xs ys) : ys = xs.map nm := by
  induction h with
  | nil => rfl
  | cons l _ ih => rw [List.map_cons, l.1, ih]
theorem Los.lt {nm : Nat → Str} {N : Nat} {cs : Scope} {xs : List Nat} {ys : List Str} (h : Los nm N cs xs ys) : ∀ x ∈ xs, x < N := by
  induction h with
  | nil => intro x hx; cases hx
  | cons l _ ih =>
    intro x hx
    rcases List.mem_cons.mp hx with rfl | hx
    · exact l.2.1
    · exact ih x hx
theorem bindL_in {nm : Nat → Str} {N : Nat} {cs : Scope} {α : List Addr} (inj : ∀ i j, i < N → j < N → nm i = nm j → i = j) {xs : List Nat} {ys : List Str} (h : Los nm N cs xs ys) (nd : xs.Nodup) : ∀ {avs : List AV} {vs : List Value} (m : Str → Option Value), VRs α avs vs →
    ∀ x av, get (zipL xs avs) x = some av → x < N ∧ ∃ v, bindL (fun y => cs.names.lookup y) (ys.zip vs) m (nm x) = some v ∧ VR α av v := by
  induction h with
  | nil => intro avs vs m _ x av e; cases e
  | @cons x₀ xs y₀ ys l ls ih =>
    intro avs vs m hv x av e
    cases hv with
    | nil => cases e
    | @cons a v as vs hv hvs =>
      have e : get ((x₀, a) :: zipL xs as) x = some av := e
      rw [get_cons] at e
      show _ ∧ ∃ v', bindL _ ((y₀, v) :: ys.zip vs) m (nm x) = some v' ∧ _
      unfold bindL
      rw [if_pos l.2.2]
      by_cases q : x₀ = x
      · subst q
        rw [if_pos rfl] at e
        cases e
        refine ⟨l.2.1, v, ?_, hv⟩
        rw [bindL_out ls _ (fun hm => ?_)]
        · exact if_pos l.1
        · rw [ls.names] at hm
          obtain ⟨z, hz, hzz⟩ := List.mem_map.mp hm
          have := inj _ _ (ls.lt z hz) l.2.1 hzz
          exact (List.nodup_cons.mp nd).1 (this ▸ hz)
      · rw [if_neg q] at e
        exact ih (List.nodup_cons.mp nd).2 _ hvs x av e
end Cat
namespace Cat
open PySem PySem.Calls PyProof.Rows PySem.Spec
open PySem.W (Frag nsIn mg_of mg_none_of envX fnX fnOf codeIn codeRec_of groundX cellsFrom_some kindsX)
theorem evL_sound {C : Cfg} {fs : List (Nat × Fn)} {tab : Tab} {ih : Ih} {k : Nat} (hfs : FnsOk C.K C.nm C.N fs) (hS : SndS C k ih.ss) (ht : Con C (k + 1) (look tab)) : Con C (k + 1) (evL fs tab ih) := by
  intro g ts r e
  unfold evL at e
  cases hl : look tab g ts with
  | some r' => rw [hl] at e; cases e; exact ht hl
  | none =>
  rw [hl] at e
  dsimp only at e
  split at e
  · rename_i fn hfn
    obtain ⟨ob, fd, body, X⟩ := hfs g fn hfn
    refine ⟨⟨_, _, X.dat, X.look⟩, ?_⟩
    intro j A h₀ L m s vs hk G F tr
    have hk' : k ≤ j := Nat.le_of_succ_le hk
    split at e
    · rename_i hlen
      have hlen : fn.ps.length = vs.length := by
        have := nat_beq.mp hlen
        rw [len_eq, len_eq] at this
        exact this.trans tr.length
      obtain ⟨fenv, outer, A₀, base, hA, hf, hke, B⟩ := G.fr
      have hbase : ∀ b o, h₀.get? b = some o → s.heap.get? b = some o := F.keep
      refine wpAny_call (body_call B F G.top.nolimit hA hf hke ((G.inK.keeps F.keep) _ _ X.look) (X.dat.trans (congrArg Data.func X.shape)) (codeRec_of (G.inK.keeps F.keep) X.code) (by have := G.room; show A.depth < 1000; omega) (by rw [← X.shape]; exact X.bind s vs hlen.symm)
        (fun n x hx => .inl (X.loc.zip_local x hx)) ?_ (fun h₁ tk cells FL NL Y BL => ?_) X.co X.gen X.kind)
      · rcases X.cells with ⟨_, q⟩ | ⟨x, _, q⟩
        · rw [q]; exact List.nodup_nil
        · rw [q]; exact List.nodup_cons.mpr ⟨(fun h => nomatch h), List.nodup_nil⟩
      rw [bindC_local X.loc] at Y
      have R₀ : SR C.prog C.w s.heap s.heap.objs.size h₁ [] 0 [] [] := ⟨News.nil, rfl, fun _ _ _ e => (by cases e), fun _ _ _ _ _ e => (by cases e), fun _ _ _ e => (by cases e)⟩
      obtain ⟨α₁, led₁, X₁, hv⟩ := thaws_sound (k := .base) (d := true) (.inl ⟨rfl, fun a o p => p⟩) ts tr R₀ (fun _ _ _ _ _ e => (by cases e))
      generalize hth : thaws .base ts 0 [] = th at e X₁ hv
      obtain ⟨avs, n₁, H₁⟩ := th
      dsimp only at e X₁ hv
      generalize hmk : mkCells fn.cs n₁ H₁ = mk at e
      obtain ⟨cl, n₂, H₂⟩ := mk
      dsimp only at e
      let env := envX fd.qualname fd.scope s.heap.objs.size g fd.code (cellsFrom (s.heap.objs.size + 1) fd.scope.names [])
      -- the cells
      have hcells : ∃ α₂ led₂, SR C.prog C.w s.heap s.heap.objs.size h₁ α₂ n₂ H₂ led₂ ∧ Le α₁ α₂ ∧ ∀ x i, get cl x = some i → ∃ c, (cellsFrom (s.heap.objs.size + 1) fd.scope.names []).lookup (C.nm x) = some c ∧ α₂[i]? = some c := by
        have hnames : (cellsFrom (s.heap.objs.size + 1) fd.scope.names []).map (·.1) = (cellsFrom 0 fd.scope.names []).map (·.1) := (cellsFrom_names fd.scope.names 0 (s.heap.objs.size + 1) [] [] rfl).symm
        rcases X.cells with ⟨q, _⟩ | ⟨x, q, qn⟩
        · rw [q] at hmk
          cases hmk
          exact ⟨α₁, led₁, X₁.sr, Le.refl _, fun _ _ e => (by cases e)⟩
        · rw [q] at hmk
          cases hmk
          rw [qn] at hnames
          generalize cellsFrom (s.heap.objs.size + 1) fd.scope.names [] = cf at hnames Y
          cases cf with
          | nil => cases hnames
          | cons c₀ cf =>
            cases cf with
            | cons _ _ => simp at hnames
            | nil =>
              obtain ⟨y₀, c₀⟩ := c₀
              have hy : y₀ = C.nm x := by simpa using hnames
              subst hy
              obtain ⟨o, rfl, hd⟩ := Y.one
              have Nc := NL (c₀, o) List.mem_cons_self
              have N₂ : News s.heap s.heap.objs.size h₁ ((c₀, o) :: led₁) := fun p hp => by
                rcases List.mem_cons.mp hp with rfl | hp
                · exact Nc
                · exact X₁.sr.nw p hp
              have hl₁ : led₁ = [] ∨ True := .inr trivial
              refine ⟨α₁ ++ [c₀], (c₀, o) :: led₁, X₁.sr.alloc (by intro z; cases z) N₂ (fun i y hy hi => ?_) (.cell0 hd) (fun _ z => nomatch z), Le.snoc _ _, fun z i ez => ?_⟩
              · obtain ⟨a', o', q1, q2, _⟩ := X₁.sr.obj i y.1 y.2 hy
                rw [hi] at q1; cases q1
                rcases X₁.own with _
                revert q2
                cases hy1 : y.1 with
                | base => intro q; have q : s.heap.get? c₀ = some o' := q; rw [Nc.2.2] at q; cases q
                | froz =>
                  intro q
                  rcases X₁.src _ q with q | q
                  · cases q
                  · rw [show s.heap.get? c₀ = some o' from q] at Nc; cases Nc.2.2
                | own =>
                  intro q
                  rcases X₁.src _ q with q | q
                  · cases q
                  · rw [show s.heap.get? c₀ = some o' from q] at Nc; cases Nc.2.2
              · have ez : get [(x, n₁)] z = some i := ez
                rw [get_cons] at ez
                by_cases w : x = z
                · subst w
                  rw [if_pos rfl] at ez
                  cases ez
                  refine ⟨c₀, by rw [List.lookup_cons]; simp, ?_⟩
                  rw [← X₁.sr.len]; simp
                · rw [if_neg w] at ez; cases ez
      obtain ⟨α₂, led₂, R₂, le₂, hcl⟩ := hcells
      have S : Sit C j (A.deeper env) s.heap s.heap.objs.size (bindL (fun y => fd.scope.names.lookup y) ((fn.ps.map C.nm).zip vs) fun _ => none) env (kdOf fd.scope) cl (bindL (fun y => fd.scope.names.lookup y) ((fn.ps.map C.nm).zip vs) fun _ => none) [] ⟨zipL fn.ps avs, n₂, H₂⟩ α₂ led₂ h₁ := by
        refine ⟨⟨⟨env, fenv :: outer, A, base, Around.frames_deeper hA, rfl, X.kind, BL⟩, G.inK.keeps F.keep, G.top.keeps F.keep, G.hnd, ?_, ?_, G.inj⟩, ⟨X.kind, fun _ => rfl, rfl, rfl, fun x i ex _ => hcl x i ex, fun y hy => ?_⟩, .inl ⟨rfl, rfl⟩, fun x av ex => ?_, FL, R₂, News.nil, fun _ hp => nomatch hp⟩
        · have := G.room; show A.depth + 1 + j < 900; omega
        · have := G.units; show A.units + 3 + 4 * j < 9000; omega
        · have := cellsFrom_some (x := y) fd.scope.names (s.heap.objs.size + 1) [] (.inl hy)
          exact Option.isSome_iff_exists.mp this
        · exact bindL_in G.inj X.loc X.dist _ (hv.mono le₂) x av ex
      split at e
      · rename_i v st₁ e₁
        refine wpAny_mono (hS (s := { s with heap := h₁, toks := tk }) hk' e₁ X.text S) (fun fl s' q => ?_) fun _ _ z => z
        obtain ⟨h', tk', α', led', m', rfl, S', le, fr⟩ := q
        cases fr with
        | ret hv =>
          refine ⟨h', tk', rfl, S'.fr.keep, ?_⟩
          exact frz_sound (new := true) S'.sr (P := fun a o => h'.get? a = some o ∧ s.heap.get? a = none) (fun kk a o hat hb => by
            cases kk with
            | base => exact absurd rfl (hb rfl)
            | froz => exact ⟨(S'.sr.nw _ hat).1, (S'.sr.nw _ hat).2.2⟩
            | own => exact ⟨(S'.sr.nw _ hat).1, (S'.sr.nw _ hat).2.2⟩) (fun z => nomatch z) 4 e hv
      · rename_i st₁ e₁
        cases e
        refine wpAny_mono (hS (s := { s with heap := h₁, toks := tk }) hk' e₁ X.text S) (fun fl s' q => ?_) fun _ _ z => z
        obtain ⟨h', tk', α', led', m', rfl, S', le, fr⟩ := q
        cases fr
        exact ⟨h', tk', rfl, S'.fr.keep, rfl⟩
      · cases e
    · cases e
  · cases e
end Cat
namespace Cat
open PySem PySem.Calls PyProof.Rows
structure AllOk (C : Cfg) (n : Nat) (ih : Ih) : Prop where
  e : SndE C n ih.e
  b : SndB C n ih.b
  ss : SndS C n ih.ss
  wl : SndW C n ih.wl
  fl : SndF C n ih.fl
  cp : SndC C n ih.cp
  cl : Con C n ih.cl
theorem Con.mono {C : Cfg} {n n' : Nat} {f : Nat → List T → Option T} (h : Con C n f) (le : n ≤ n') : Con C n' f := fun e => ⟨(h e).1, fun hk => (h e).2 (Nat.le_trans le hk)⟩
theorem step_sound {C : Cfg} {fs : List (Nat × Fn)} {tab : Tab} (hfs : FnsOk C.K C.nm C.N fs) {n : Nat} {ih : Ih} (x : AllOk C n ih) (ht : Con C (n + 1) (look tab)) : AllOk C (n + 1) (step fs tab ih) :=
  { e := evE_sound x.e x.b x.cp x.cl
    b := evB_sound x.e x.b
    ss := evSS_sound (evS_sound x.e x.b x.cp x.ss x.wl x.fl)
    wl := evW_sound x.b x.ss x.wl
    fl := evF_sound x.ss x.fl
    cp := evC_sound x.e x.cp
    cl := evL_sound hfs x.ss ht }
theorem run_sound {C : Cfg} {fs : List (Nat × Fn)} (hfs : FnsOk C.K C.nm C.N fs) : ∀ n, AllOk C n (run fs [] n)
  | 0 => { e := fun _ h => (by cases h), b := fun _ h => (by cases h), ss := fun _ h => (by cases h), wl := fun _ h => (by cases h), fl := fun _ h => (by cases h), cp := fun _ h => (by cases h), cl := fun h => (by cases h) }
  | n + 1 => step_sound hfs (run_sound hfs n) fun h => (by cases h)
theorem runT_sound {C : Cfg} {fs : List (Nat × Fn)} {tab : Tab} (hfs : FnsOk C.K C.nm C.N fs) {m : Nat} {base : Ih} (hb : AllOk C m base) (ht : Con C m (look tab)) : ∀ n, AllOk C (m + n) (runT fs tab base n)
  | 0 => hb
  | n + 1 => step_sound hfs (runT_sound hfs hb ht n) (ht.mono (Nat.le_succ_of_le (Nat.le_add_right m n)))
mutual
theorem teq_eq : ∀ {a b : T}, teq a b = true → a = b
  | .none, b, h => by cases b <;> first | rfl | cases h
  | .bool x, b, h => by cases b <;> first | exact congrArg T.bool (eq_of_beq h) | cases h
  | .int x, b, h => by cases b <;> first | exact congrArg T.int (eq_of_beq h) | cases h
  | .fn x, b, h => by cases b <;> first | exact congrArg T.fn (Nat.eq_of_beq_eq_true h) | cases h
  | .list x, b, h => by cases b <;> first | exact congrArg T.list (teqs_eq h) | cases h
  | .tup x, b, h => by cases b <;> first | exact congrArg T.tup (teqs_eq h) | cases h
  | .dict x, b, h => by cases b <;> first | exact congrArg T.dict (eq_of_beq h) | cases h
theorem teqs_eq : ∀ {a b : List T}, teqs a b = true → a = b
  | [], b, h => by cases b <;> first | rfl | cases h
  | x :: xs, b, h => by
    cases b with
    | nil => cases h
    | cons y ys =>
      cases q : teq x y with
      | false => simp only [teqs, q] at h; cases h
      | true =>
        have h' : teqs xs ys = true := by simpa only [teqs, q] using h
        rw [teq_eq q, teqs_eq h']
end
theorem look_sound {C : Cfg} {m : Nat} {ih : Ih} (x : AllOk C m ih) : ∀ tab, chk ih tab = true → Con C m (look tab)
  | [], _ => fun h => (by cases h)
  | e :: l, h => by
    rename_i g ts r
    intro hl
    have h : Bool.rec (motive := fun _ => Bool) false (chk ih l) (teqO (ih.cl e.1 e.2.1) e.2.2) = true := h
    have hl : Bool.rec (motive := fun _ => Option T) (look l g ts) (Bool.rec (look l g ts) (some e.2.2) (teqs e.2.1 ts)) (Nat.beq e.1 g) = some r := hl
    cases q : teqO (ih.cl e.1 e.2.1) e.2.2 with
    | false => rw [q] at h; cases h
    | true =>
      rw [q] at h
      cases f : Nat.beq e.1 g with
      | false => rw [f] at hl; exact look_sound x l h hl
      | true =>
        rw [f] at hl
        cases u : teqs e.2.1 ts with
        | false => rw [u] at hl; exact look_sound x l h hl
        | true =>
          rw [u] at hl
          cases hl
          cases o : ih.cl e.1 e.2.1 with
          | none => rw [o] at q; cases q
          | some s =>
            rw [o] at q
            have q : s = e.2.2 := teq_eq q
            rw [nat_beq.mp f, teqs_eq u, q] at o
            exact x.cl o
theorem chk_app {ih : Ih} {b : Tab} (hb : chk ih b = true) : ∀ {a : Tab}, chk ih a = true → chk ih (a ++ b) = true
  | [], _ => hb
  | e :: l, h => by
    have h : Bool.rec (motive := fun _ => Bool) false (chk ih l) (teqO (ih.cl e.1 e.2.1) e.2.2) = true := h
    show Bool.rec (motive := fun _ => Bool) false (chk ih (l ++ b)) (teqO (ih.cl e.1 e.2.1) e.2.2) = true
    cases q : teqO (ih.cl e.1 e.2.1) e.2.2 with
    | false => rw [q] at h; cases h
    | true => rw [q] at h; exact chk_app hb h
end Cat
open PySem PySem.W PyProof.Rows in
open_top hd for PySem.Challenge.rw_xm0399_01
namespace Cat
open PySem PySem.Calls PyProof.Rows
open PySem.W (Frag nsIn)
noncomputable def nmF (i : Nat) : Str := match nth nms i with
  | some y => y
  | none => Str.ofString ""
theorem nmF_inj : ∀ i j, i < 41 → j < 41 → nmF i = nmF j → i = j := by
  have h : ((List.range 41).all fun i => (List.range 41).all fun j => nmF i != nmF j || i == j) = true := by decide +kernel
  intro i j hi hj e
  have := List.all_eq_true.mp (List.all_eq_true.mp h i (List.mem_range.mpr hi)) j (List.mem_range.mpr hj)
  simpa [e] using this
theorem lt41 {x : Nat} (h : Nat.ble (x + 1) 41 = true) : x < 41 := Nat.le_of_ble_eq_true h
theorem vs0 {vs : List Value} {n : Nat} (h : vs.length = n + 1) : ∃ v r, vs = v :: r ∧ r.length = n := by
  cases vs with
  | nil => cases h
  | cons v r => exact ⟨v, r, rfl, Nat.succ.inj h⟩
theorem vs1 {vs : List Value} (h : vs.length = 1) : ∃ v0, vs = [v0] := by
  obtain ⟨v, r, rfl, h2⟩ := vs0 h
  exact ⟨v, by rw [List.length_eq_zero_iff.mp h2]⟩
theorem vs2 {vs : List Value} (h : vs.length = 2) : ∃ v0 v1, vs = [v0, v1] := by
  obtain ⟨v, r, rfl, h2⟩ := vs0 h
  obtain ⟨v1, rfl⟩ := vs1 h2
  exact ⟨v, v1, rfl⟩
theorem vs3 {vs : List Value} (h : vs.length = 3) : ∃ v0 v1 v2, vs = [v0, v1, v2] := by
  obtain ⟨v, r, rfl, h2⟩ := vs0 h
  obtain ⟨v1, v2, rfl⟩ := vs2 h2
  exact ⟨v, v1, v2, rfl⟩
theorem vs4 {vs : List Value} (h : vs.length = 4) : ∃ v0 v1 v2 v3, vs = [v0, v1, v2, v3] := by
  obtain ⟨v, r, rfl, h2⟩ := vs0 h
  obtain ⟨v1, v2, v3, rfl⟩ := vs3 h2
  exact ⟨v, v1, v2, v3, rfl⟩
noncomputable def lawFd (P : Params) : FuncData := match (hd.heap_39 P).lookup 189 with
  | some ⟨_, _, .func fd, _⟩ => fd
  | _ => default
noncomputable def lawBody (P : Params) : List Stmt := match (lawFd P).body with
  | .stmts b => b
  | _ => []
theorem g_normal (P : Params) : nsIn (hd.heap_39 P) mainGlobals (Str.ofString "normal") = some (some (.ref 46)) := rfl
theorem g_nat_of (P : Params) : nsIn (hd.heap_39 P) mainGlobals (Str.ofString "nat_of") = some (some (.ref 53)) := rfl
theorem g_compare (P : Params) : nsIn (hd.heap_39 P) mainGlobals (Str.ofString "compare") = some (some (.ref 60)) := rfl
theorem g_add (P : Params) : nsIn (hd.heap_39 P) mainGlobals (Str.ofString "add") = some (some (.ref 67)) := rfl
theorem g_sub (P : Params) : nsIn (hd.heap_39 P) mainGlobals (Str.ofString "sub") = some (some (.ref 74)) := rfl
theorem g_sieve (P : Params) : nsIn (hd.heap_39 P) mainGlobals (Str.ofString "sieve") = some (some (.ref 81)) := rfl
theorem g_need_count (P : Params) : nsIn (hd.heap_39 P) mainGlobals (Str.ofString "need_count") = some (some (.ref 88)) := rfl
theorem g_power_of_count (P : Params) : nsIn (hd.heap_39 P) mainGlobals (Str.ofString "power_of_count") = some (some (.ref 95)) := rfl
theorem g_product_of_powers (P : Params) : nsIn (hd.heap_39 P) mainGlobals (Str.ofString "product_of_powers") = some (some (.ref 102)) := rfl
theorem g_factorial_exponent (P : Params) : nsIn (hd.heap_39 P) mainGlobals (Str.ofString "factorial_exponent") = some (some (.ref 109)) := rfl
theorem g_binomial (P : Params) : nsIn (hd.heap_39 P) mainGlobals (Str.ofString "binomial") = some (some (.ref 116)) := rfl
theorem g_catalan (P : Params) : nsIn (hd.heap_39 P) mainGlobals (Str.ofString "catalan") = some (some (.ref 123)) := rfl
theorem g_sum_of_products (P : Params) : nsIn (hd.heap_39 P) mainGlobals (Str.ofString "sum_of_products") = some (some (.ref 130)) := rfl
theorem g_mul_school (P : Params) : nsIn (hd.heap_39 P) mainGlobals (Str.ofString "mul_school") = some (some (.ref 137)) := rfl
theorem g_law_limbs (P : Params) : nsIn (hd.heap_39 P) mainGlobals (Str.ofString "_law_limbs") = some (some (.ref 151)) := rfl
theorem g_law_worth (P : Params) : nsIn (hd.heap_39 P) mainGlobals (Str.ofString "_law_worth") = some (some (.ref 158)) := rfl
theorem g_law_lead_on (P : Params) : nsIn (hd.heap_39 P) mainGlobals (Str.ofString "_law_lead_on") = some (some (.ref 165)) := rfl
theorem g_law_counted_out (P : Params) : nsIn (hd.heap_39 P) mainGlobals (Str.ofString "_law_counted_out") = some (some (.ref 170)) := rfl
theorem g_law_rows (P : Params) : nsIn (hd.heap_39 P) mainGlobals (Str.ofString "_law_rows") = some (some (.ref 177)) := rfl
theorem g_law_row_at (P : Params) : nsIn (hd.heap_39 P) mainGlobals (Str.ofString "_law_row_at") = some (some (.ref 184)) := rfl
theorem g_range (P : Params) : nsIn (hd.heap_39 P) mainGlobals (Str.ofString "range") = some none := rfl
theorem g_len (P : Params) : nsIn (hd.heap_39 P) mainGlobals (Str.ofString "len") = some none := rfl
theorem g_sum (P : Params) : nsIn (hd.heap_39 P) mainGlobals (Str.ofString "sum") = some none := rfl
theorem g_min (P : Params) : nsIn (hd.heap_39 P) mainGlobals (Str.ofString "min") = some none := rfl
theorem g_enumerate (P : Params) : nsIn (hd.heap_39 P) mainGlobals (Str.ofString "enumerate") = some none := rfl
theorem fn_normal (P : Params) : ∃ o fd body, FnOk (hd.heap_39 P) nmF 41 46 f_normal o fd body := by
  refine ⟨_, _, _, rfl, rfl, rfl, rfl, fun s vs h => ?_, (.cons ⟨rfl, lt41 rfl, rfl⟩ .nil), by decide, .inl ⟨rfl, rfl⟩, ?_, rfl, rfl, rfl⟩
  · obtain ⟨v0, rfl⟩ := vs1 h
    exact BindsTo.of_eq rfl
  · exact (.cons (.asg ⟨rfl, lt41 rfl, rfl⟩ (fun _ _ _ => rfl) (.len (g_len P) rfl (.loc rfl rfl rfl)))
    (.cons (.whl (.and (.cmp rfl (.loc rfl rfl rfl) .lit) (.cmp rfl (.idx (fun _ _ => rfl) (.loc rfl rfl rfl) (.bin rfl (.loc rfl rfl rfl) .lit)) .lit)) (.cons (.aug ⟨rfl, lt41 rfl, rfl⟩ rfl rfl .lit)
    .nil))
    (.cons (.ret (.slTo (.loc rfl rfl rfl) (.loc rfl rfl rfl)))
    .nil)))
theorem fn_nat_of (P : Params) : ∃ o fd body, FnOk (hd.heap_39 P) nmF 41 53 f_nat_of o fd body := by
  refine ⟨_, _, _, rfl, rfl, rfl, rfl, fun s vs h => ?_, (.cons ⟨rfl, lt41 rfl, rfl⟩ (.cons ⟨rfl, lt41 rfl, rfl⟩ .nil)), by decide, .inl ⟨rfl, rfl⟩, ?_, rfl, rfl, rfl⟩
  · obtain ⟨v0, v1, rfl⟩ := vs2 h
    exact BindsTo.of_eq rfl
  · exact (.cons (.iff (.cmp rfl (.loc rfl rfl rfl) .lit) (.cons (.raise)
    .nil) .nil)
    (.cons (.asgT (.cons ⟨rfl, lt41 rfl, rfl⟩ (.cons ⟨rfl, lt41 rfl, rfl⟩ .nil)) (fun _ _ _ => rfl) (fun _ _ _ _ _ => rfl) (.tup (.cons (.list .nil) (.cons (.bin rfl (.bin rfl .lit (.loc rfl rfl rfl)) .lit) .nil))))
    (.cons (.whl (.cmp rfl (.loc rfl rfl rfl) .lit) (.cons (.app rfl (.loc rfl rfl rfl) (.bin rfl (.loc rfl rfl rfl) (.loc rfl rfl rfl)))
    (.cons (.aug ⟨rfl, lt41 rfl, rfl⟩ rfl rfl (.loc rfl rfl rfl))
    .nil)))
    (.cons (.ret (.loc rfl rfl rfl))
    .nil))))
theorem fn_compare (P : Params) : ∃ o fd body, FnOk (hd.heap_39 P) nmF 41 60 f_compare o fd body := by
  refine ⟨_, _, _, rfl, rfl, rfl, rfl, fun s vs h => ?_, (.cons ⟨rfl, lt41 rfl, rfl⟩ (.cons ⟨rfl, lt41 rfl, rfl⟩ .nil)), by decide, .inl ⟨rfl, rfl⟩, ?_, rfl, rfl, rfl⟩
  · obtain ⟨v0, v1, rfl⟩ := vs2 h
    exact BindsTo.of_eq rfl
  · exact (.cons (.iff (.cmp rfl (.len (g_len P) rfl (.loc rfl rfl rfl)) (.len (g_len P) rfl (.loc rfl rfl rfl))) (.cons (.ret (.ite rfl (.len (g_len P) rfl (.loc rfl rfl rfl)) (.len (g_len P) rfl (.loc rfl rfl rfl)) (.neg .lit) .lit))
    .nil) .nil)
    (.cons (.forR (g_range P) rfl (.one ⟨rfl, lt41 rfl, rfl⟩) (.cons (.bin rfl (.len (g_len P) rfl (.loc rfl rfl rfl)) .lit) (.cons (.neg .lit) (.cons (.neg .lit) .nil))) (.cons (.iff (.cmp rfl (.idx (fun _ _ => rfl) (.loc rfl rfl rfl) (.loc rfl rfl rfl)) (.idx (fun _ _ => rfl) (.loc rfl rfl rfl) (.loc rfl rfl rfl))) (.cons (.ret (.ite rfl (.idx (fun _ _ => rfl) (.loc rfl rfl rfl) (.loc rfl rfl rfl)) (.idx (fun _ _ => rfl) (.loc rfl rfl rfl) (.loc rfl rfl rfl)) (.neg .lit) .lit))
    .nil) .nil)
    .nil))
    (.cons (.ret .lit)
    .nil)))
theorem fn_add (P : Params) : ∃ o fd body, FnOk (hd.heap_39 P) nmF 41 67 f_add o fd body := by
  refine ⟨_, _, _, rfl, rfl, rfl, rfl, fun s vs h => ?_, (.cons ⟨rfl, lt41 rfl, rfl⟩ (.cons ⟨rfl, lt41 rfl, rfl⟩ (.cons ⟨rfl, lt41 rfl, rfl⟩ .nil))), by decide, .inl ⟨rfl, rfl⟩, ?_, rfl, rfl, rfl⟩
  · obtain ⟨v0, v1, v2, rfl⟩ := vs3 h
    exact BindsTo.of_eq rfl
  · exact (.cons (.iff (.cmp rfl (.len (g_len P) rfl (.loc rfl rfl rfl)) (.len (g_len P) rfl (.loc rfl rfl rfl))) (.cons (.asgT (.cons ⟨rfl, lt41 rfl, rfl⟩ (.cons ⟨rfl, lt41 rfl, rfl⟩ .nil)) (fun _ _ _ => rfl) (fun _ _ _ _ _ => rfl) (.tup (.cons (.loc rfl rfl rfl) (.cons (.loc rfl rfl rfl) .nil))))
    .nil) .nil)
    (.cons (.asgT (.cons ⟨rfl, lt41 rfl, rfl⟩ (.cons ⟨rfl, lt41 rfl, rfl⟩ (.cons ⟨rfl, lt41 rfl, rfl⟩ .nil))) (fun _ _ _ => rfl) (fun _ _ _ _ _ => rfl) (.tup (.cons (.list .nil) (.cons .lit (.cons (.bin rfl (.bin rfl .lit (.loc rfl rfl rfl)) .lit) .nil)))))
    (.cons (.forR (g_range P) rfl (.one ⟨rfl, lt41 rfl, rfl⟩) (.cons (.len (g_len P) rfl (.loc rfl rfl rfl)) .nil) (.cons (.aug ⟨rfl, lt41 rfl, rfl⟩ rfl rfl (.bin rfl (.idx (fun _ _ => rfl) (.loc rfl rfl rfl) (.loc rfl rfl rfl)) (.idx (fun _ _ => rfl) (.loc rfl rfl rfl) (.loc rfl rfl rfl))))
    (.cons (.app rfl (.loc rfl rfl rfl) (.bin rfl (.loc rfl rfl rfl) (.loc rfl rfl rfl)))
    (.cons (.aug ⟨rfl, lt41 rfl, rfl⟩ rfl rfl (.loc rfl rfl rfl))
    .nil))))
    (.cons (.forR (g_range P) rfl (.one ⟨rfl, lt41 rfl, rfl⟩) (.cons (.len (g_len P) rfl (.loc rfl rfl rfl)) (.cons (.len (g_len P) rfl (.loc rfl rfl rfl)) .nil)) (.cons (.aug ⟨rfl, lt41 rfl, rfl⟩ rfl rfl (.idx (fun _ _ => rfl) (.loc rfl rfl rfl) (.loc rfl rfl rfl)))
    (.cons (.app rfl (.loc rfl rfl rfl) (.bin rfl (.loc rfl rfl rfl) (.loc rfl rfl rfl)))
    (.cons (.aug ⟨rfl, lt41 rfl, rfl⟩ rfl rfl (.loc rfl rfl rfl))
    .nil))))
    (.cons (.iff (.cmp rfl (.loc rfl rfl rfl) .lit) (.cons (.app rfl (.loc rfl rfl rfl) (.loc rfl rfl rfl))
    .nil) .nil)
    (.cons (.ret (.loc rfl rfl rfl))
    .nil))))))
theorem fn_sub (P : Params) : ∃ o fd body, FnOk (hd.heap_39 P) nmF 41 74 f_sub o fd body := by
  refine ⟨_, _, _, rfl, rfl, rfl, rfl, fun s vs h => ?_, (.cons ⟨rfl, lt41 rfl, rfl⟩ (.cons ⟨rfl, lt41 rfl, rfl⟩ (.cons ⟨rfl, lt41 rfl, rfl⟩ .nil))), by decide, .inl ⟨rfl, rfl⟩, ?_, rfl, rfl, rfl⟩
  · obtain ⟨v0, v1, v2, rfl⟩ := vs3 h
    exact BindsTo.of_eq rfl
  · exact (.cons (.iff (.cmp rfl (.call (.fn (g_compare P) rfl rfl) (.loc rfl rfl rfl) (.cons (.loc rfl rfl rfl) .nil)) .lit) (.cons (.raise)
    .nil) .nil)
    (.cons (.asgT (.cons ⟨rfl, lt41 rfl, rfl⟩ (.cons ⟨rfl, lt41 rfl, rfl⟩ (.cons ⟨rfl, lt41 rfl, rfl⟩ .nil))) (fun _ _ _ => rfl) (fun _ _ _ _ _ => rfl) (.tup (.cons (.list .nil) (.cons .lit (.cons (.bin rfl .lit (.loc rfl rfl rfl)) .nil)))))
    (.cons (.forR (g_range P) rfl (.one ⟨rfl, lt41 rfl, rfl⟩) (.cons (.len (g_len P) rfl (.loc rfl rfl rfl)) .nil) (.cons (.asg ⟨rfl, lt41 rfl, rfl⟩ (fun _ _ _ => rfl) (.bin rfl (.bin rfl (.idx (fun _ _ => rfl) (.loc rfl rfl rfl) (.loc rfl rfl rfl)) (.loc rfl rfl rfl)) (.ite rfl (.loc rfl rfl rfl) (.len (g_len P) rfl (.loc rfl rfl rfl)) (.idx (fun _ _ => rfl) (.loc rfl rfl rfl) (.loc rfl rfl rfl)) .lit)))
    (.cons (.asg ⟨rfl, lt41 rfl, rfl⟩ (fun _ _ _ => rfl) (.ite rfl (.loc rfl rfl rfl) .lit .lit .lit))
    (.cons (.app rfl (.loc rfl rfl rfl) (.ite rfl (.loc rfl rfl rfl) .lit (.bin rfl (.loc rfl rfl rfl) (.loc rfl rfl rfl)) (.loc rfl rfl rfl)))
    .nil))))
    (.cons (.ret (.call (.fn (g_normal P) rfl rfl) (.loc rfl rfl rfl) .nil))
    .nil))))
theorem fn_sieve (P : Params) : ∃ o fd body, FnOk (hd.heap_39 P) nmF 41 81 f_sieve o fd body := by
  refine ⟨_, _, _, rfl, rfl, rfl, rfl, fun s vs h => ?_, (.cons ⟨rfl, lt41 rfl, rfl⟩ .nil), by decide, .inl ⟨rfl, rfl⟩, ?_, rfl, rfl, rfl⟩
  · obtain ⟨v0, rfl⟩ := vs1 h
    exact BindsTo.of_eq rfl
  · exact (.cons (.asg ⟨rfl, lt41 rfl, rfl⟩ (fun _ _ _ => rfl) (.bin rfl (.list (.cons .bl .nil)) (.bin rfl (.loc rfl rfl rfl) .lit)))
    (.cons (.asg ⟨rfl, lt41 rfl, rfl⟩ (fun _ _ _ => rfl) (.list .nil))
    (.cons (.forR (g_range P) rfl (.one ⟨rfl, lt41 rfl, rfl⟩) (.cons .lit (.cons (.bin rfl (.loc rfl rfl rfl) .lit) .nil)) (.cons (.iff (.val (fun _ _ => rfl) (.loc rfl rfl rfl) (.loc rfl rfl rfl)) (.cons (.app rfl (.loc rfl rfl rfl) (.loc rfl rfl rfl))
    (.cons (.forR (g_range P) rfl (.one ⟨rfl, lt41 rfl, rfl⟩) (.cons (.bin rfl (.loc rfl rfl rfl) (.loc rfl rfl rfl)) (.cons (.bin rfl (.loc rfl rfl rfl) .lit) (.cons (.loc rfl rfl rfl) .nil))) (.cons (.asgI (fun _ _ _ => rfl) (.loc rfl rfl rfl) (.loc rfl rfl rfl) .bl)
    .nil))
    .nil)) .nil)
    .nil))
    (.cons (.ret (.loc rfl rfl rfl))
    .nil))))
theorem fn_need_count (P : Params) : ∃ o fd body, FnOk (hd.heap_39 P) nmF 41 88 f_need_count o fd body := by
  refine ⟨_, _, _, rfl, rfl, rfl, rfl, fun s vs h => ?_, (.cons ⟨rfl, lt41 rfl, rfl⟩ .nil), by decide, .inl ⟨rfl, rfl⟩, ?_, rfl, rfl, rfl⟩
  · obtain ⟨v0, rfl⟩ := vs1 h
    exact BindsTo.of_eq rfl
  · exact (.cons (.iff (.cmp rfl (.loc rfl rfl rfl) .lit) (.cons (.raise)
    .nil) .nil)
    .nil)
theorem fn_power_of_count (P : Params) : ∃ o fd body, FnOk (hd.heap_39 P) nmF 41 95 f_power_of_count o fd body := by
  refine ⟨_, _, _, rfl, rfl, rfl, rfl, fun s vs h => ?_, (.cons ⟨rfl, lt41 rfl, rfl⟩ (.cons ⟨rfl, lt41 rfl, rfl⟩ (.cons ⟨rfl, lt41 rfl, rfl⟩ (.cons ⟨rfl, lt41 rfl, rfl⟩ .nil)))), by decide, .inl ⟨rfl, rfl⟩, ?_, rfl, rfl, rfl⟩
  · obtain ⟨v0, v1, v2, v3, rfl⟩ := vs4 h
    exact BindsTo.of_eq rfl
  · exact (.cons (.asgT (.cons ⟨rfl, lt41 rfl, rfl⟩ (.cons ⟨rfl, lt41 rfl, rfl⟩ .nil)) (fun _ _ _ => rfl) (fun _ _ _ _ _ => rfl) (.tup (.cons (.list (.cons .lit .nil)) (.cons (.call (.fn (g_nat_of P) rfl rfl) (.loc rfl rfl rfl) (.cons (.loc rfl rfl rfl) .nil)) .nil))))
    (.cons (.whl (.cmp rfl (.loc rfl rfl rfl) .lit) (.cons (.iff (.cmp rfl (.bin rfl (.loc rfl rfl rfl) .lit) .lit) (.cons (.asg ⟨rfl, lt41 rfl, rfl⟩ (fun _ _ _ => rfl) (.call (.loc rfl rfl rfl) (.loc rfl rfl rfl) (.cons (.loc rfl rfl rfl) (.cons (.loc rfl rfl rfl) .nil))))
    .nil) .nil)
    (.cons (.asg ⟨rfl, lt41 rfl, rfl⟩ (fun _ _ _ => rfl) (.bin rfl (.loc rfl rfl rfl) .lit))
    (.cons (.iff (.cmp rfl (.loc rfl rfl rfl) .lit) (.cons (.asg ⟨rfl, lt41 rfl, rfl⟩ (fun _ _ _ => rfl) (.call (.loc rfl rfl rfl) (.loc rfl rfl rfl) (.cons (.loc rfl rfl rfl) (.cons (.loc rfl rfl rfl) .nil))))
    .nil) .nil)
    .nil))))
    (.cons (.ret (.loc rfl rfl rfl))
    .nil)))
theorem fn_product_of_powers (P : Params) : ∃ o fd body, FnOk (hd.heap_39 P) nmF 41 102 f_product_of_powers o fd body := by
  refine ⟨_, _, _, rfl, rfl, rfl, rfl, fun s vs h => ?_, (.cons ⟨rfl, lt41 rfl, rfl⟩ (.cons ⟨rfl, lt41 rfl, rfl⟩ (.cons ⟨rfl, lt41 rfl, rfl⟩ .nil))), by decide, .inl ⟨rfl, rfl⟩, ?_, rfl, rfl, rfl⟩
  · obtain ⟨v0, v1, v2, rfl⟩ := vs3 h
    exact BindsTo.of_eq rfl
  · exact (.cons (.iff (.cmp rfl (.len (g_len P) rfl (.loc rfl rfl rfl)) .lit) (.cons (.ret (.list (.cons .lit .nil)))
    .nil) .nil)
    (.cons (.iff (.cmp rfl (.len (g_len P) rfl (.loc rfl rfl rfl)) .lit) (.cons (.ret (.call (.fn (g_power_of_count P) rfl rfl) (.idx (fun _ _ => rfl) (.idx (fun _ _ => rfl) (.loc rfl rfl rfl) .lit) .lit) (.cons (.idx (fun _ _ => rfl) (.idx (fun _ _ => rfl) (.loc rfl rfl rfl) .lit) .lit) (.cons (.loc rfl rfl rfl) (.cons (.loc rfl rfl rfl) .nil)))))
    .nil) .nil)
    (.cons (.asg ⟨rfl, lt41 rfl, rfl⟩ (fun _ _ _ => rfl) (.bin rfl (.len (g_len P) rfl (.loc rfl rfl rfl)) .lit))
    (.cons (.ret (.call (.loc rfl rfl rfl) (.call (.fn (g_product_of_powers P) rfl rfl) (.slTo (.loc rfl rfl rfl) (.loc rfl rfl rfl)) (.cons (.loc rfl rfl rfl) (.cons (.loc rfl rfl rfl) .nil))) (.cons (.call (.fn (g_product_of_powers P) rfl rfl) (.slFrom (.loc rfl rfl rfl) (.loc rfl rfl rfl)) (.cons (.loc rfl rfl rfl) (.cons (.loc rfl rfl rfl) .nil))) (.cons (.loc rfl rfl rfl) .nil))))
    .nil))))
theorem fn_factorial_exponent (P : Params) : ∃ o fd body, FnOk (hd.heap_39 P) nmF 41 109 f_factorial_exponent o fd body := by
  refine ⟨_, _, _, rfl, rfl, rfl, rfl, fun s vs h => ?_, (.cons ⟨rfl, lt41 rfl, rfl⟩ (.cons ⟨rfl, lt41 rfl, rfl⟩ .nil)), by decide, .inl ⟨rfl, rfl⟩, ?_, rfl, rfl, rfl⟩
  · obtain ⟨v0, v1, rfl⟩ := vs2 h
    exact BindsTo.of_eq rfl
  · exact (.cons (.asg ⟨rfl, lt41 rfl, rfl⟩ (fun _ _ _ => rfl) .lit)
    (.cons (.whl (.cmp rfl (.loc rfl rfl rfl) .lit) (.cons (.asg ⟨rfl, lt41 rfl, rfl⟩ (fun _ _ _ => rfl) (.bin rfl (.loc rfl rfl rfl) (.loc rfl rfl rfl)))
    (.cons (.aug ⟨rfl, lt41 rfl, rfl⟩ rfl rfl (.loc rfl rfl rfl))
    .nil)))
    (.cons (.ret (.loc rfl rfl rfl))
    .nil)))
theorem fn_binomial (P : Params) : ∃ o fd body, FnOk (hd.heap_39 P) nmF 41 116 f_binomial o fd body := by
  refine ⟨_, _, _, rfl, rfl, rfl, rfl, fun s vs h => ?_, (.cons ⟨rfl, lt41 rfl, rfl⟩ (.cons ⟨rfl, lt41 rfl, rfl⟩ (.cons ⟨rfl, lt41 rfl, rfl⟩ (.cons ⟨rfl, lt41 rfl, rfl⟩ .nil)))), by decide, .inl ⟨rfl, rfl⟩, ?_, rfl, rfl, rfl⟩
  · obtain ⟨v0, v1, v2, v3, rfl⟩ := vs4 h
    exact BindsTo.of_eq rfl
  · exact (.cons (.ex (.call (.fn (g_need_count P) rfl rfl) (.loc rfl rfl rfl) .nil))
    (.cons (.ex (.call (.fn (g_need_count P) rfl rfl) (.loc rfl rfl rfl) .nil))
    (.cons (.iff (.cmp rfl (.loc rfl rfl rfl) (.loc rfl rfl rfl)) (.cons (.ret (.list .nil))
    .nil) .nil)
    (.cons (.asg ⟨rfl, lt41 rfl, rfl⟩ (fun _ _ _ => rfl) (.list .nil))
    (.cons (.forL (.one ⟨rfl, lt41 rfl, rfl⟩) (.call (.fn (g_sieve P) rfl rfl) (.loc rfl rfl rfl) .nil) (.cons (.asg ⟨rfl, lt41 rfl, rfl⟩ (fun _ _ _ => rfl) (.bin rfl (.bin rfl (.call (.fn (g_factorial_exponent P) rfl rfl) (.loc rfl rfl rfl) (.cons (.loc rfl rfl rfl) .nil)) (.call (.fn (g_factorial_exponent P) rfl rfl) (.loc rfl rfl rfl) (.cons (.loc rfl rfl rfl) .nil))) (.call (.fn (g_factorial_exponent P) rfl rfl) (.bin rfl (.loc rfl rfl rfl) (.loc rfl rfl rfl)) (.cons (.loc rfl rfl rfl) .nil))))
    (.cons (.iff (.cmp rfl (.loc rfl rfl rfl) .lit) (.cons (.app rfl (.loc rfl rfl rfl) (.tup (.cons (.loc rfl rfl rfl) (.cons (.loc rfl rfl rfl) .nil))))
    .nil) .nil)
    .nil)))
    (.cons (.ret (.call (.fn (g_product_of_powers P) rfl rfl) (.loc rfl rfl rfl) (.cons (.loc rfl rfl rfl) (.cons (.loc rfl rfl rfl) .nil))))
    .nil))))))
theorem fn_catalan (P : Params) : ∃ o fd body, FnOk (hd.heap_39 P) nmF 41 123 f_catalan o fd body := by
  refine ⟨_, _, _, rfl, rfl, rfl, rfl, fun s vs h => ?_, (.cons ⟨rfl, lt41 rfl, rfl⟩ (.cons ⟨rfl, lt41 rfl, rfl⟩ (.cons ⟨rfl, lt41 rfl, rfl⟩ .nil))), by decide, .inl ⟨rfl, rfl⟩, ?_, rfl, rfl, rfl⟩
  · obtain ⟨v0, v1, v2, rfl⟩ := vs3 h
    exact BindsTo.of_eq rfl
  · exact (.cons (.ex (.call (.fn (g_need_count P) rfl rfl) (.loc rfl rfl rfl) .nil))
    (.cons (.ret (.call (.fn (g_sub P) rfl rfl) (.call (.fn (g_binomial P) rfl rfl) (.bin rfl .lit (.loc rfl rfl rfl)) (.cons (.loc rfl rfl rfl) (.cons (.loc rfl rfl rfl) (.cons (.loc rfl rfl rfl) .nil)))) (.cons (.call (.fn (g_binomial P) rfl rfl) (.bin rfl .lit (.loc rfl rfl rfl)) (.cons (.bin rfl (.loc rfl rfl rfl) .lit) (.cons (.loc rfl rfl rfl) (.cons (.loc rfl rfl rfl) .nil)))) (.cons (.loc rfl rfl rfl) .nil))))
    .nil))
theorem fn_sum_of_products (P : Params) : ∃ o fd body, FnOk (hd.heap_39 P) nmF 41 130 f_sum_of_products o fd body := by
  refine ⟨_, _, _, rfl, rfl, rfl, rfl, fun s vs h => ?_, (.cons ⟨rfl, lt41 rfl, rfl⟩ (.cons ⟨rfl, lt41 rfl, rfl⟩ (.cons ⟨rfl, lt41 rfl, rfl⟩ .nil))), by decide, .inl ⟨rfl, rfl⟩, ?_, rfl, rfl, rfl⟩
  · obtain ⟨v0, v1, v2, rfl⟩ := vs3 h
    exact BindsTo.of_eq rfl
  · exact (.cons (.asg ⟨rfl, lt41 rfl, rfl⟩ (fun _ _ _ => rfl) (.list .nil))
    (.cons (.forT (.two ⟨rfl, lt41 rfl, rfl⟩ ⟨rfl, lt41 rfl, rfl⟩) (.loc rfl rfl rfl) (.cons (.asg ⟨rfl, lt41 rfl, rfl⟩ (fun _ _ _ => rfl) (.call (.fn (g_add P) rfl rfl) (.loc rfl rfl rfl) (.cons (.call (.loc rfl rfl rfl) (.loc rfl rfl rfl) (.cons (.loc rfl rfl rfl) (.cons (.loc rfl rfl rfl) .nil))) (.cons (.loc rfl rfl rfl) .nil))))
    .nil))
    (.cons (.ret (.loc rfl rfl rfl))
    .nil)))
theorem fn_mul_school (P : Params) : ∃ o fd body, FnOk (hd.heap_39 P) nmF 41 137 f_mul_school o fd body := by
  refine ⟨_, _, _, rfl, rfl, rfl, rfl, fun s vs h => ?_, (.cons ⟨rfl, lt41 rfl, rfl⟩ (.cons ⟨rfl, lt41 rfl, rfl⟩ (.cons ⟨rfl, lt41 rfl, rfl⟩ .nil))), by decide, .inl ⟨rfl, rfl⟩, ?_, rfl, rfl, rfl⟩
  · obtain ⟨v0, v1, v2, rfl⟩ := vs3 h
    exact BindsTo.of_eq rfl
  · exact (.cons (.asgT (.cons ⟨rfl, lt41 rfl, rfl⟩ (.cons ⟨rfl, lt41 rfl, rfl⟩ .nil)) (fun _ _ _ => rfl) (fun _ _ _ _ _ => rfl) (.tup (.cons (.bin rfl (.list (.cons .lit .nil)) (.bin rfl (.len (g_len P) rfl (.loc rfl rfl rfl)) (.len (g_len P) rfl (.loc rfl rfl rfl)))) (.cons (.bin rfl (.bin rfl .lit (.loc rfl rfl rfl)) .lit) .nil))))
    (.cons (.forE (g_enumerate P) rfl (.two ⟨rfl, lt41 rfl, rfl⟩ ⟨rfl, lt41 rfl, rfl⟩) (.loc rfl rfl rfl) (.cons (.asg ⟨rfl, lt41 rfl, rfl⟩ (fun _ _ _ => rfl) .lit)
    (.cons (.forE (g_enumerate P) rfl (.two ⟨rfl, lt41 rfl, rfl⟩ ⟨rfl, lt41 rfl, rfl⟩) (.loc rfl rfl rfl) (.cons (.aug ⟨rfl, lt41 rfl, rfl⟩ rfl rfl (.bin rfl (.idx (fun _ _ => rfl) (.loc rfl rfl rfl) (.bin rfl (.loc rfl rfl rfl) (.loc rfl rfl rfl))) (.bin rfl (.loc rfl rfl rfl) (.loc rfl rfl rfl))))
    (.cons (.asgI (fun _ _ _ => rfl) (.loc rfl rfl rfl) (.bin rfl (.loc rfl rfl rfl) (.loc rfl rfl rfl)) (.bin rfl (.loc rfl rfl rfl) (.loc rfl rfl rfl)))
    (.cons (.aug ⟨rfl, lt41 rfl, rfl⟩ rfl rfl (.loc rfl rfl rfl))
    .nil))))
    (.cons (.asgI (fun _ _ _ => rfl) (.loc rfl rfl rfl) (.bin rfl (.loc rfl rfl rfl) (.len (g_len P) rfl (.loc rfl rfl rfl))) (.loc rfl rfl rfl))
    .nil))))
    (.cons (.ret (.call (.fn (g_normal P) rfl rfl) (.loc rfl rfl rfl) .nil))
    .nil)))
theorem fn_law_limbs (P : Params) : ∃ o fd body, FnOk (hd.heap_39 P) nmF 41 151 f_law_limbs o fd body := by
  refine ⟨_, _, _, rfl, rfl, rfl, rfl, fun s vs h => ?_, (.cons ⟨rfl, lt41 rfl, rfl⟩ (.cons ⟨rfl, lt41 rfl, rfl⟩ .nil)), by decide, .inl ⟨rfl, rfl⟩, ?_, rfl, rfl, rfl⟩
  · obtain ⟨v0, v1, rfl⟩ := vs2 h
    exact BindsTo.of_eq rfl
  · exact (.cons (.asg ⟨rfl, lt41 rfl, rfl⟩ (fun _ _ _ => rfl) (.list .nil))
    (.cons (.whl (.cmp rfl (.loc rfl rfl rfl) .lit) (.cons (.app rfl (.loc rfl rfl rfl) (.bin rfl (.loc rfl rfl rfl) (.bin rfl .lit (.loc rfl rfl rfl))))
    (.cons (.asg ⟨rfl, lt41 rfl, rfl⟩ (fun _ _ _ => rfl) (.bin rfl (.loc rfl rfl rfl) (.bin rfl .lit (.loc rfl rfl rfl))))
    .nil)))
    (.cons (.ret (.loc rfl rfl rfl))
    .nil)))
theorem fn_law_worth (P : Params) : ∃ o fd body, FnOk (hd.heap_39 P) nmF 41 158 f_law_worth o fd body := by
  refine ⟨_, _, _, rfl, rfl, rfl, rfl, fun s vs h => ?_, (.cons ⟨rfl, lt41 rfl, rfl⟩ (.cons ⟨rfl, lt41 rfl, rfl⟩ .nil)), by decide, .inl ⟨rfl, rfl⟩, ?_, rfl, rfl, rfl⟩
  · obtain ⟨v0, v1, rfl⟩ := vs2 h
    exact BindsTo.of_eq rfl
  · exact (.cons (.asg ⟨rfl, lt41 rfl, rfl⟩ (fun _ _ _ => rfl) .lit)
    (.cons (.forL (.one ⟨rfl, lt41 rfl, rfl⟩) (.rev (.loc rfl rfl rfl)) (.cons (.asg ⟨rfl, lt41 rfl, rfl⟩ (fun _ _ _ => rfl) (.bin rfl (.bin rfl (.loc rfl rfl rfl) (.bin rfl .lit (.loc rfl rfl rfl))) (.loc rfl rfl rfl)))
    .nil))
    (.cons (.ret (.loc rfl rfl rfl))
    .nil)))
theorem fn_law_lead_on (P : Params) : ∃ o fd body, FnOk (hd.heap_39 P) nmF 41 165 f_law_lead_on o fd body := by
  refine ⟨_, _, _, rfl, rfl, rfl, rfl, fun s vs h => ?_, (.cons ⟨rfl, lt41 rfl, rfl⟩ (.cons ⟨rfl, lt41 rfl, rfl⟩ (.cons ⟨rfl, lt41 rfl, rfl⟩ .nil))), by decide, .inl ⟨rfl, rfl⟩, ?_, rfl, rfl, rfl⟩
  · obtain ⟨v0, v1, v2, rfl⟩ := vs3 h
    exact BindsTo.of_eq rfl
  · exact (.cons (.asg ⟨rfl, lt41 rfl, rfl⟩ (fun _ _ _ => rfl) (.bin rfl (.bin rfl (.loc rfl rfl rfl) (.loc rfl rfl rfl)) .lit))
    (.cons (.asg ⟨rfl, lt41 rfl, rfl⟩ (fun _ _ _ => rfl) (.call (.fn (g_binomial P) rfl rfl) (.loc rfl rfl rfl) (.cons (.loc rfl rfl rfl) (.cons (.loc rfl rfl rfl) (.cons (.fn (g_mul_school P) rfl rfl) .nil)))))
    (.cons (.ret (.ite rfl (.loc rfl rfl rfl) .lit (.call (.fn (g_sub P) rfl rfl) (.loc rfl rfl rfl) (.cons (.call (.fn (g_binomial P) rfl rfl) (.loc rfl rfl rfl) (.cons (.bin rfl (.loc rfl rfl rfl) .lit) (.cons (.loc rfl rfl rfl) (.cons (.fn (g_mul_school P) rfl rfl) .nil)))) (.cons (.loc rfl rfl rfl) .nil))) (.loc rfl rfl rfl)))
    .nil)))
theorem fn_law_counted_out (P : Params) : ∃ o fd body, FnOk (hd.heap_39 P) nmF 41 170 f_law_counted_out o fd body := by
  refine ⟨_, _, _, rfl, rfl, rfl, rfl, fun s vs h => ?_, (.cons ⟨rfl, lt41 rfl, rfl⟩ (.cons ⟨rfl, lt41 rfl, rfl⟩ .nil)), by decide, .inr ⟨31, rfl, rfl⟩, ?_, rfl, rfl, rfl⟩
  · obtain ⟨v0, v1, rfl⟩ := vs2 h
    exact BindsTo.of_eq rfl
  · exact (.cons (.asg ⟨rfl, lt41 rfl, rfl⟩ (fun _ _ _ => rfl) (.bin rfl (.bin rfl (.bin rfl (.list (.cons .lit .nil)) (.loc rfl rfl rfl)) (.list (.cons .lit .nil))) (.bin rfl (.list (.cons .lit .nil)) (.bin rfl (.loc rfl rfl rfl) .lit))))
    (.cons (.forR (g_range P) rfl (.one ⟨rfl, lt41 rfl, rfl⟩) (.cons (.loc rfl rfl rfl) .nil) (.cons (.asgC rfl rfl (fun _ _ _ _ _ => rfl) (.bin rfl (.bin rfl (.list (.cons .lit .nil)) (.loc rfl rfl rfl)) (.list (.cons .lit .nil))))
    (.cons (.asgL ⟨rfl, lt41 rfl, rfl⟩ (fun _ _ _ _ _ => rfl) ⟨g_range P, rfl, rfl, lt41 rfl, rfl, rfl, rfl, rfl, rfl⟩ (.bin rfl (.idx (fun _ _ => rfl) (.cel rfl rfl rfl) (.loc rfl rfl rfl)) (.idx (fun _ _ => rfl) (.cel rfl rfl rfl) (.bin rfl (.loc rfl rfl rfl) .lit))) (.len (g_len P) rfl (.loc rfl rfl rfl)))
    .nil)))
    (.cons (.ret (.idx (fun _ _ => rfl) (.loc rfl rfl rfl) .lit))
    .nil)))
theorem fn_law_rows (P : Params) : ∃ o fd body, FnOk (hd.heap_39 P) nmF 41 177 f_law_rows o fd body := by
  refine ⟨_, _, _, rfl, rfl, rfl, rfl, fun s vs h => ?_, (.cons ⟨rfl, lt41 rfl, rfl⟩ .nil), by decide, .inl ⟨rfl, rfl⟩, ?_, rfl, rfl, rfl⟩
  · obtain ⟨v0, rfl⟩ := vs1 h
    exact BindsTo.of_eq rfl
  · exact (.cons (.asg ⟨rfl, lt41 rfl, rfl⟩ (fun _ _ _ => rfl) (.list (.cons (.list .nil) .nil)))
    (.cons (.forR (g_range P) rfl (.one ⟨rfl, lt41 rfl, rfl⟩) (.cons (.bin rfl .lit (.loc rfl rfl rfl)) .nil) (.cons (.asg ⟨rfl, lt41 rfl, rfl⟩ (fun _ _ _ => rfl) (.list .nil))
    (.cons (.forL (.one ⟨rfl, lt41 rfl, rfl⟩) (.loc rfl rfl rfl) (.cons (.iff (.cmp rfl (.sum (g_sum P) rfl (.loc rfl rfl rfl)) (.loc rfl rfl rfl)) (.cons (.app rfl (.loc rfl rfl rfl) (.bin rfl (.loc rfl rfl rfl) (.list (.cons .lit .nil))))
    .nil) .nil)
    (.cons (.iff (.cmp rfl (.bin rfl .lit (.sum (g_sum P) rfl (.loc rfl rfl rfl))) (.len (g_len P) rfl (.loc rfl rfl rfl))) (.cons (.app rfl (.loc rfl rfl rfl) (.bin rfl (.loc rfl rfl rfl) (.list (.cons .lit .nil))))
    .nil) .nil)
    .nil)))
    (.cons (.asg ⟨rfl, lt41 rfl, rfl⟩ (fun _ _ _ => rfl) (.loc rfl rfl rfl))
    .nil))))
    (.cons (.ret (.loc rfl rfl rfl))
    .nil)))
theorem fn_law_row_at (P : Params) : ∃ o fd body, FnOk (hd.heap_39 P) nmF 41 184 f_law_row_at o fd body := by
  refine ⟨_, _, _, rfl, rfl, rfl, rfl, fun s vs h => ?_, (.cons ⟨rfl, lt41 rfl, rfl⟩ (.cons ⟨rfl, lt41 rfl, rfl⟩ (.cons ⟨rfl, lt41 rfl, rfl⟩ .nil))), by decide, .inl ⟨rfl, rfl⟩, ?_, rfl, rfl, rfl⟩
  · obtain ⟨v0, v1, v2, rfl⟩ := vs3 h
    exact BindsTo.of_eq rfl
  · exact (.cons (.asgT (.cons ⟨rfl, lt41 rfl, rfl⟩ (.cons ⟨rfl, lt41 rfl, rfl⟩ .nil)) (fun _ _ _ => rfl) (fun _ _ _ _ _ => rfl) (.tup (.cons (.list .nil) (.cons .lit .nil))))
    (.cons (.forR (g_range P) rfl (.one ⟨rfl, lt41 rfl, rfl⟩) (.cons (.bin rfl (.bin rfl .lit (.loc rfl rfl rfl)) .lit) (.cons (.neg .lit) (.cons (.neg .lit) .nil))) (.cons (.asg ⟨rfl, lt41 rfl, rfl⟩ (fun _ _ _ => rfl) (.get rfl (.loc rfl rfl rfl) (.loc rfl rfl rfl) (.bin rfl (.loc rfl rfl rfl) .lit) .lit))
    (.cons (.iff (.cmp rfl (.loc rfl rfl rfl) (.loc rfl rfl rfl)) (.cons (.asgT (.cons ⟨rfl, lt41 rfl, rfl⟩ (.cons ⟨rfl, lt41 rfl, rfl⟩ .nil)) (fun _ _ _ => rfl) (fun _ _ _ _ _ => rfl) (.tup (.cons (.bin rfl (.loc rfl rfl rfl) (.list (.cons .lit .nil))) (.cons (.bin rfl (.loc rfl rfl rfl) .lit) .nil))))
    .nil) (.cons (.asgT (.cons ⟨rfl, lt41 rfl, rfl⟩ (.cons ⟨rfl, lt41 rfl, rfl⟩ (.cons ⟨rfl, lt41 rfl, rfl⟩ .nil))) (fun _ _ _ => rfl) (fun _ _ _ _ _ => rfl) (.tup (.cons (.bin rfl (.loc rfl rfl rfl) (.loc rfl rfl rfl)) (.cons (.bin rfl (.loc rfl rfl rfl) (.list (.cons .lit .nil))) (.cons (.bin rfl (.loc rfl rfl rfl) .lit) .nil)))))
    .nil))
    .nil)))
    (.cons (.ret (.loc rfl rfl rfl))
    .nil)))
theorem fns_ok (P : Params) : FnsOk (hd.heap_39 P) nmF 41 fns := AllFn.ok (show AllFn (hd.heap_39 P) nmF 41 fns from ⟨fn_normal P, fn_nat_of P, fn_compare P, fn_add P, fn_sub P, fn_sieve P, fn_need_count P, fn_power_of_count P, fn_product_of_powers P, fn_factorial_exponent P, fn_binomial P, fn_catalan P, fn_sum_of_products P, fn_mul_school P, fn_law_limbs P, fn_law_worth P, fn_law_lead_on P, fn_law_counted_out P, fn_law_rows P, fn_law_row_at P, trivial⟩)
theorem law_text (P : Params) : MSs (hd.heap_39 P) nmF 41 (lawFd P).scope b_law ((lawBody P).drop 2) := (.cons (.forR (g_range P) rfl (.one ⟨rfl, lt41 rfl, rfl⟩) (.cons (.bin rfl .lit (.cel rfl rfl rfl)) .nil) (.cons (.forR (g_range P) rfl (.one ⟨rfl, lt41 rfl, rfl⟩) (.cons (.bin rfl (.loc rfl rfl rfl) .lit) (.cons (.bin rfl (.min (g_min P) rfl (.loc rfl rfl rfl) (.bin rfl (.bin rfl .lit (.cel rfl rfl rfl)) (.loc rfl rfl rfl))) .lit) (.cons .lit .nil))) (.cons (.asgK (fun _ _ _ => rfl) (.cel rfl rfl rfl) (.loc rfl rfl rfl) (.loc rfl rfl rfl) (.call (.fn (g_law_worth P) rfl rfl) (.call (.fn (g_law_lead_on P) rfl rfl) (.loc rfl rfl rfl) (.cons (.loc rfl rfl rfl) (.cons (.cel rfl rfl rfl) .nil))) (.cons (.cel rfl rfl rfl) .nil)))
    (.cons (.iff (.cmp rfl (.dix (.cel rfl rfl rfl) (.loc rfl rfl rfl) (.loc rfl rfl rfl)) (.call (.fn (g_law_counted_out P) rfl rfl) (.loc rfl rfl rfl) (.cons (.loc rfl rfl rfl) .nil))) (.cons (.ret .bl)
    .nil) .nil)
    .nil)))
    .nil))
    (.cons (.asg ⟨rfl, lt41 rfl, rfl⟩ (fun _ _ _ => rfl) (.call (.fn (g_law_rows P) rfl rfl) (.cel rfl rfl rfl) .nil))
    (.cons (.iff (.cmp rfl (.call (.fn (g_catalan P) rfl rfl) (.cel rfl rfl rfl) (.cons (.cel rfl rfl rfl) (.cons (.fn (g_mul_school P) rfl rfl) .nil))) (.call (.fn (g_law_limbs P) rfl rfl) (.len (g_len P) rfl (.loc rfl rfl rfl)) (.cons (.cel rfl rfl rfl) .nil))) (.cons (.ret .bl)
    .nil) .nil)
    (.cons (.iff (.cmp rfl (.comp ⟨g_range P, rfl, rfl, lt41 rfl, rfl, rfl, rfl, rfl, rfl⟩ (.call (.fn (g_law_row_at P) rfl rfl) (.loc rfl rfl rfl) (.cons (.cel rfl rfl rfl) (.cons (.cel rfl rfl rfl) .nil))) (.len (g_len P) rfl (.loc rfl rfl rfl))) (.loc rfl rfl rfl)) (.cons (.ret .bl)
    .nil) .nil)
    (.cons (.asgC rfl rfl (fun _ _ _ _ _ => rfl) (.comp ⟨g_range P, rfl, rfl, lt41 rfl, rfl, rfl, rfl, rfl, rfl⟩ (.call (.fn (g_catalan P) rfl rfl) (.loc rfl rfl rfl) (.cons (.cel rfl rfl rfl) (.cons (.fn (g_mul_school P) rfl rfl) .nil))) (.bin rfl (.cel rfl rfl rfl) .lit)))
    (.cons (.asg ⟨rfl, lt41 rfl, rfl⟩ (fun _ _ _ => rfl) (.call (.fn (g_sum_of_products P) rfl rfl) (.comp ⟨g_range P, rfl, rfl, lt41 rfl, rfl, rfl, rfl, rfl, rfl⟩ (.tup (.cons (.idx (fun _ _ => rfl) (.cel rfl rfl rfl) (.loc rfl rfl rfl)) (.cons (.idx (fun _ _ => rfl) (.cel rfl rfl rfl) (.bin rfl (.cel rfl rfl rfl) (.loc rfl rfl rfl))) .nil))) (.bin rfl (.cel rfl rfl rfl) .lit)) (.cons (.cel rfl rfl rfl) (.cons (.fn (g_mul_school P) rfl rfl) .nil))))
    (.cons (.ret (.cmp rfl (.loc rfl rfl rfl) (.call (.fn (g_catalan P) rfl rfl) (.bin rfl (.cel rfl rfl rfl) .lit) (.cons (.cel rfl rfl rfl) (.cons (.fn (g_mul_school P) rfl rfl) .nil)))))
    .nil)))))))
end Cat
namespace Cat
open PySem PySem.Calls PyProof.Rows PySem.Spec
open PySem.W (Frag nsIn envX cellsFrom_some)
noncomputable def lawSt (w p : Int) : St := ⟨[], 5, [(0, .own, .cell (some (.int w))), (1, .own, .cell (some (.int p))), (2, .own, .cell (some (.ref 4))), (3, .own, .cell none), (4, .own, .dict [])]⟩
noncomputable def lawCl : Cl := [(5, 0), (18, 1), (37, 2), (38, 3)]
noncomputable def isT : Option (Fl × St) → Bool
  | some (.ret (.bool b), _) => b
  | _ => false
theorem isT_ok {o : Option (Fl × St)} (h : isT o = true) : ∃ st, o = some (.ret (.bool true), st) := by
  match o, h with
  | some (.ret (.bool true), st), _ => exact ⟨st, rfl⟩
noncomputable def ih0 : Ih := run fns [] 200
noncomputable def lawRun (tab : Tab) (w p : Int) : Option (Fl × St) := (runT fns tab ih0 200).ss lawCl b_law (lawSt w p)
noncomputable def LawOk (w p : Int) : Prop := ∃ tab, chk ih0 tab = true ∧ isT (lawRun tab w p) = true
theorem nd5_inj {a b c d e : Addr} (h1 : a ≠ b) (h2 : a ≠ c) (h3 : a ≠ d) (h4 : a ≠ e) (h5 : b ≠ c) (h6 : b ≠ d) (h7 : b ≠ e) (h8 : c ≠ d) (h9 : c ≠ e) (h10 : d ≠ e) {i j : Nat} {x : Addr} (ei : [a, b, c, d, e][i]? = some x) (ej : [a, b, c, d, e][j]? = some x) : i = j := by
  have nd : [a, b, c, d, e].Nodup := by simp [*]
  exact (List.getElem?_inj (List.getElem?_eq_some_iff.mp ei).1 nd).mp (ei.trans ej.symm)
theorem law_end {prog : Program} {w : World} {base h₀ : Heap} {L fa : Addr} {m : Str → Option Value} {name : Str} {scope : Scope} {cd : Value} {s : Shared} {news : List (Addr × Obj)} {p : Program} {loose : List Str} {mean : ExcName → Option Value} {mg mb : Str → Option Value}
    {body : List Stmt} {Q : Flow → Shared → Prop} {E : Value → Shared → Prop} {o₁ o₂ o₃ o₄ oD : Obj} {dA : Addr} {W P : Int} {t u : Tok} {v₄ : Option Value}
    (B : Below callerA base [] h₀) (X : (hd.heap_39 w.params).In h₀) (T : Top p loose mean mg mb h₀) (F : Fr h₀ L s.heap m) (N : News h₀ L s.heap news)
    (hk : scope.kind = .function) (hcs : ∀ n, cellsFrom n scope.names [] = [(Str.ofString "some", n + 1 + 1 + 1), (Str.ofString "told", n + 1 + 1), (Str.ofString "pairs", n + 1), (Str.ofString "w", n)])
    (M : MSs (hd.heap_39 w.params) nmF 41 scope b_law body)
    (m₁ : (L + 1, o₁) ∈ news) (m₂ : (L + 1 + 1, o₂) ∈ news) (m₃ : (L + 1 + 1 + 1, o₃) ∈ news) (m₄ : (L + 1 + 1 + 1 + 1, o₄) ∈ news) (mD : (dA, oD) ∈ news)
    (d₁ : o₁.data = .cell (some (.int W t))) (d₂ : o₂.data = .cell (some (.int P u))) (d₃ : o₃.data = .cell (some (.ref dA))) (d₄ : o₄.data = .cell v₄) (hv₄ : v₄ = none) (hD : oD.IsDictOf (intKind prog w) []) (hsy : (dA == sysModules) = false)
    (hrun : LawOk W P) (hQ : ∀ h' tk m', Fr h₀ L h' m' → Q (.ret (.bool true)) { s with heap := h', toks := tk }) :
    wpAny (model prog w) (callerA.deeper (envOfC name scope L fa cd)) (execs body (envOfC name scope L fa cd)) Q E s := by
  subst hv₄
  obtain ⟨tab, htab, hrun⟩ := hrun
  obtain ⟨st', hst⟩ := isT_ok hrun
  obtain ⟨es, ep, ⟨c1, c2, c3⟩, hdat, _, hpairs, _⟩ := hD
  have hoD : oD = { cls := .type "dict", data := .dict es ep } := by
    obtain ⟨x1, x2, x3, x4⟩ := oD
    simp only at c1 c2 c3 hdat
    rw [c1, c2, c3, hdat]
  have hes : es.toList = [] := by
    cases hq : es.toList with
    | nil => rfl
    | cons a l => rw [hq] at hpairs; cases hpairs
  let C : Cfg := ⟨prog, w, hd.heap_39 w.params, p, loose, mean, mg, mb, nmF, 41⟩
  have hba : AllOk C 200 ih0 := run_sound (C := C) (fns_ok w.params) 200
  have hok := runT_sound (C := C) (fns_ok w.params) hba (look_sound hba tab htab) 200
  have g : ∀ {a o}, (a, o) ∈ news → s.heap.get? a = some o := fun h => (N _ h).1
  have ncell : ∀ {a : Addr} {o : Obj} {v : Option Value}, (a, o) ∈ news → o.data = .cell v → a ≠ dA := fun {a o v} hm hd z => by
    have h1 := g hm
    rw [z, g mD] at h1
    cases h1
    rw [hdat] at hd
    cases hd
  have n₁ := ncell m₁ d₁
  have n₂ := ncell m₂ d₂
  have n₃ := ncell m₃ d₃
  have n₄ := ncell m₄ d₄
  let led : List (Addr × Obj) := [(L + 1, o₁), (L + 1 + 1, o₂), (L + 1 + 1 + 1, o₃), (L + 1 + 1 + 1 + 1, o₄), (dA, oD)]
  have Nl : News h₀ L s.heap led := fun q hq => by
    simp only [led, List.mem_cons, List.not_mem_nil, or_false] at hq
    rcases hq with rfl | rfl | rfl | rfl | rfl
    · exact N _ m₁
    · exact N _ m₂
    · exact N _ m₃
    · exact N _ m₄
    · exact N _ mD
  let α : List Addr := [L + 1, L + 1 + 1, L + 1 + 1 + 1, L + 1 + 1 + 1 + 1, dA]
  have getH : ∀ i x, get (lawSt W P).H i = some x → (i = 0 ∧ x = (.own, .cell (some (.int W)))) ∨ (i = 1 ∧ x = (.own, .cell (some (.int P)))) ∨ (i = 2 ∧ x = (.own, .cell (some (.ref 4)))) ∨ (i = 3 ∧ x = (.own, .cell none)) ∨ (i = 4 ∧ x = (.own, .dict [])) := by
    intro i x e
    simp only [lawSt, get_cons] at e
    by_cases q : 0 = i
    · rw [if_pos q] at e; cases e; exact .inl ⟨q.symm, rfl⟩
    rw [if_neg q] at e
    by_cases q : 1 = i
    · rw [if_pos q] at e; cases e; exact .inr (.inl ⟨q.symm, rfl⟩)
    rw [if_neg q] at e
    by_cases q : 2 = i
    · rw [if_pos q] at e; cases e; exact .inr (.inr (.inl ⟨q.symm, rfl⟩))
    rw [if_neg q] at e
    by_cases q : 3 = i
    · rw [if_pos q] at e; cases e; exact .inr (.inr (.inr (.inl ⟨q.symm, rfl⟩)))
    rw [if_neg q] at e
    by_cases q : 4 = i
    · rw [if_pos q] at e; cases e; exact .inr (.inr (.inr (.inr ⟨q.symm, rfl⟩)))
    rw [if_neg q] at e
    cases e
  have R : SR C.prog C.w h₀ L s.heap α 5 (lawSt W P).H led := by
    refine ⟨Nl, rfl, fun i k ao e => ?_, fun i j a ao x e e' ei ej => ?_, fun i k es' e ei => ?_⟩
    · rcases getH i _ e with ⟨rfl, q⟩ | ⟨rfl, q⟩ | ⟨rfl, q⟩ | ⟨rfl, q⟩ | ⟨rfl, q⟩ <;> cases q
      · exact ⟨L + 1, o₁, rfl, List.mem_cons_self, .cell1 d₁ (.int W t)⟩
      · exact ⟨L + 1 + 1, o₂, rfl, List.mem_cons_of_mem _ List.mem_cons_self, .cell1 d₂ (.int P u)⟩
      · exact ⟨L + 1 + 1 + 1, o₃, rfl, List.mem_cons_of_mem _ (List.mem_cons_of_mem _ List.mem_cons_self), .cell1 d₃ (.ref rfl)⟩
      · exact ⟨L + 1 + 1 + 1 + 1, o₄, rfl, List.mem_cons_of_mem _ (List.mem_cons_of_mem _ (List.mem_cons_of_mem _ List.mem_cons_self)), .cell0 d₄⟩
      · refine ⟨dA, oD, rfl, List.mem_cons_of_mem _ (List.mem_cons_of_mem _ (List.mem_cons_of_mem _ (List.mem_cons_of_mem _ List.mem_cons_self))), ?_⟩
        rw [hoD]
        exact .dict (xs := []) (by rw [hes]; rfl) (fun x hx => nomatch hx) List.nodup_nil .nil
    · exact nd5_inj (Nat.ne_of_lt (Nat.lt_succ_self _)) (Nat.ne_of_lt (Nat.lt_succ_of_lt (Nat.lt_succ_self _))) (Nat.ne_of_lt (Nat.lt_succ_of_lt (Nat.lt_succ_of_lt (Nat.lt_succ_self _)))) n₁ (Nat.ne_of_lt (Nat.lt_succ_self _)) (Nat.ne_of_lt (Nat.lt_succ_of_lt (Nat.lt_succ_self _))) n₂ (Nat.ne_of_lt (Nat.lt_succ_self _)) n₃ n₄ ei ej
    · rcases getH i _ e with ⟨rfl, q⟩ | ⟨rfl, q⟩ | ⟨rfl, q⟩ | ⟨rfl, q⟩ | ⟨rfl, q⟩ <;> cases q
      have ei : some dA = some sysModules := ei
      rw [Option.some.inj ei] at hsy
      exact absurd hsy (by simp)
  have hcells : (envOfC name scope L fa cd).cells = [(Str.ofString "some", L + 1 + 1 + 1 + 1), (Str.ofString "told", L + 1 + 1 + 1), (Str.ofString "pairs", L + 1 + 1), (Str.ofString "w", L + 1)] := hcs (L + 1)
  have S : Sit C 400 (callerA.deeper (envOfC name scope L fa cd)) h₀ L m (envX name scope L fa cd (cellsFrom (L + 1) scope.names [])) (kdOf scope) lawCl m [] (lawSt W P) α led s.heap := by
    refine ⟨⟨⟨envOfC name scope L fa cd, [], callerA, base, Around.frames_deeper B.stack, rfl, hk, B⟩, X, T, rfl, ?_, ?_, nmF_inj⟩, ⟨hk, fun _ => rfl, rfl, rfl, fun x i ex _ => ?_, fun y hy => ?_⟩, .inl ⟨rfl, rfl⟩, fun x av ex => (by cases ex), F, R, News.nil, fun _ hp => nomatch hp⟩
    · show 1 + claimMargin + 1 + 400 < 900
      decide
    · show 4 + 3 + 4 * 400 < 9000
      decide
    · show ∃ c, List.lookup _ (cellsFrom (L + 1) scope.names []) = some c ∧ _
      rw [hcs (L + 1)]
      simp only [lawCl, get_cons] at ex
      by_cases q : 5 = x
      · rw [if_pos q] at ex; cases ex; subst q; exact ⟨L + 1, rfl, rfl⟩
      rw [if_neg q] at ex
      by_cases q : 18 = x
      · rw [if_pos q] at ex; cases ex; subst q; exact ⟨L + 1 + 1, rfl, rfl⟩
      rw [if_neg q] at ex
      by_cases q : 37 = x
      · rw [if_pos q] at ex; cases ex; subst q; exact ⟨L + 1 + 1 + 1, rfl, rfl⟩
      rw [if_neg q] at ex
      by_cases q : 38 = x
      · rw [if_pos q] at ex; cases ex; subst q; exact ⟨L + 1 + 1 + 1 + 1, rfl, rfl⟩
      rw [if_neg q] at ex
      cases ex
    · have := cellsFrom_some (x := y) scope.names (L + 1) [] (.inl hy)
      exact Option.isSome_iff_exists.mp this
  refine wpAny_mono (hok.ss (show 200 + 200 ≤ 400 from Nat.le_refl _) hst M S) (fun f s' q => ?_) (fun _ _ z => z.elim)
  obtain ⟨h', tk, α', led', m', rfl, S', le, fr⟩ := q
  cases fr with
  | ret hv => rw [hv.ofBool]; exact hQ h' tk m' S'.fr
end Cat
namespace Cat
noncomputable def told2 : List (List Int × Int) := [([0, 0], 1), ([1, 1], 1), ([2, 0], 1), ([2, 2], 1), ([3, 1], 2)]
noncomputable def told3 : List (List Int × Int) := [([0, 0], 1), ([1, 1], 1), ([2, 0], 1), ([2, 2], 1), ([3, 1], 2), ([3, 3], 1), ([4, 0], 2), ([4, 2], 3), ([5, 1], 5)]
noncomputable def told4 : List (List Int × Int) := [([0, 0], 1), ([1, 1], 1), ([2, 0], 1), ([2, 2], 1), ([3, 1], 2), ([3, 3], 1), ([4, 0], 2), ([4, 2], 3), ([4, 4], 1), ([5, 1], 5), ([5, 3], 4), ([6, 0], 5), ([6, 2], 9), ([7, 1], 14)]
noncomputable def tC : Tab := [(170, [.int 0, .int 0], .int 1),
    (170, [.int 1, .int 1], .int 1),
    (170, [.int 2, .int 0], .int 1),
    (170, [.int 2, .int 2], .int 1),
    (170, [.int 3, .int 1], .int 2),
    (170, [.int 3, .int 3], .int 1),
    (170, [.int 4, .int 0], .int 2),
    (170, [.int 4, .int 2], .int 3),
    (170, [.int 4, .int 4], .int 1),
    (170, [.int 5, .int 1], .int 5),
    (170, [.int 5, .int 3], .int 4),
    (170, [.int 6, .int 0], .int 5),
    (170, [.int 6, .int 2], .int 9),
    (170, [.int 7, .int 1], .int 14)]
theorem tC_ok : chk ih0 tC = true := by decide +kernel
noncomputable def tR2 : Tab := [(177, [.int 2], .list [.list [.int 1, .int 1, .int 0, .int 0], .list [.int 1, .int 0, .int 1, .int 0]]),
    (184, [.int 0, .int 2, .dict told2], .list [.int 1, .int 1, .int 0, .int 0]),
    (184, [.int 1, .int 2, .dict told2], .list [.int 1, .int 0, .int 1, .int 0])]
theorem tR2_ok : chk ih0 tR2 = true := by decide +kernel
noncomputable def tR3 : Tab := [(177, [.int 3], .list [.list [.int 1, .int 1, .int 1, .int 0, .int 0, .int 0], .list [.int 1, .int 1, .int 0, .int 1, .int 0, .int 0], .list [.int 1, .int 1, .int 0, .int 0, .int 1, .int 0], .list [.int 1, .int 0, .int 1, .int 1, .int 0, .int 0], .list [.int 1, .int 0, .int 1, .int 0, .int 1, .int 0]]),
    (184, [.int 0, .int 3, .dict told3], .list [.int 1, .int 1, .int 1, .int 0, .int 0, .int 0]),
    (184, [.int 1, .int 3, .dict told3], .list [.int 1, .int 1, .int 0, .int 1, .int 0, .int 0]),
    (184, [.int 2, .int 3, .dict told3], .list [.int 1, .int 1, .int 0, .int 0, .int 1, .int 0]),
    (184, [.int 3, .int 3, .dict told3], .list [.int 1, .int 0, .int 1, .int 1, .int 0, .int 0]),
    (184, [.int 4, .int 3, .dict told3], .list [.int 1, .int 0, .int 1, .int 0, .int 1, .int 0])]
theorem tR3_ok : chk ih0 tR3 = true := by decide +kernel
noncomputable def tR4 : Tab := [(177, [.int 4], .list [.list [.int 1, .int 1, .int 1, .int 1, .int 0, .int 0, .int 0, .int 0], .list [.int 1, .int 1, .int 1, .int 0, .int 1, .int 0, .int 0, .int 0], .list [.int 1, .int 1, .int 1, .int 0, .int 0, .int 1, .int 0, .int 0], .list [.int 1, .int 1, .int 1, .int 0, .int 0, .int 0, .int 1, .int 0], .list [.int 1, .int 1, .int 0, .int 1, .int 1, .int 0, .int 0, .int 0], .list [.int 1, .int 1, .int 0, .int 1, .int 0, .int 1, .int 0, .int 0], .list [.int 1, .int 1, .int 0, .int 1, .int 0, .int 0, .int 1, .int 0], .list [.int 1, .int 1, .int 0, .int 0, .int 1, .int 1, .int 0, .int 0], .list [.int 1, .int 1, .int 0, .int 0, .int 1, .int 0, .int 1, .int 0], .list [.int 1, .int 0, .int 1, .int 1, .int 1, .int 0, .int 0, .int 0], .list [.int 1, .int 0, .int 1, .int 1, .int 0, .int 1, .int 0, .int 0], .list [.int 1, .int 0, .int 1, .int 1, .int 0, .int 0, .int 1, .int 0], .list [.int 1, .int 0, .int 1, .int 0, .int 1, .int 1, .int 0, .int 0], .list [.int 1, .int 0, .int 1, .int 0, .int 1, .int 0, .int 1, .int 0]]),
    (184, [.int 0, .int 4, .dict told4], .list [.int 1, .int 1, .int 1, .int 1, .int 0, .int 0, .int 0, .int 0]),
    (184, [.int 1, .int 4, .dict told4], .list [.int 1, .int 1, .int 1, .int 0, .int 1, .int 0, .int 0, .int 0]),
    (184, [.int 2, .int 4, .dict told4], .list [.int 1, .int 1, .int 1, .int 0, .int 0, .int 1, .int 0, .int 0]),
    (184, [.int 3, .int 4, .dict told4], .list [.int 1, .int 1, .int 1, .int 0, .int 0, .int 0, .int 1, .int 0]),
    (184, [.int 4, .int 4, .dict told4], .list [.int 1, .int 1, .int 0, .int 1, .int 1, .int 0, .int 0, .int 0]),
    (184, [.int 5, .int 4, .dict told4], .list [.int 1, .int 1, .int 0, .int 1, .int 0, .int 1, .int 0, .int 0]),
    (184, [.int 6, .int 4, .dict told4], .list [.int 1, .int 1, .int 0, .int 1, .int 0, .int 0, .int 1, .int 0]),
    (184, [.int 7, .int 4, .dict told4], .list [.int 1, .int 1, .int 0, .int 0, .int 1, .int 1, .int 0, .int 0]),
    (184, [.int 8, .int 4, .dict told4], .list [.int 1, .int 1, .int 0, .int 0, .int 1, .int 0, .int 1, .int 0]),
    (184, [.int 9, .int 4, .dict told4], .list [.int 1, .int 0, .int 1, .int 1, .int 1, .int 0, .int 0, .int 0]),
    (184, [.int 10, .int 4, .dict told4], .list [.int 1, .int 0, .int 1, .int 1, .int 0, .int 1, .int 0, .int 0]),
    (184, [.int 11, .int 4, .dict told4], .list [.int 1, .int 0, .int 1, .int 1, .int 0, .int 0, .int 1, .int 0]),
    (184, [.int 12, .int 4, .dict told4], .list [.int 1, .int 0, .int 1, .int 0, .int 1, .int 1, .int 0, .int 0]),
    (184, [.int 13, .int 4, .dict told4], .list [.int 1, .int 0, .int 1, .int 0, .int 1, .int 0, .int 1, .int 0])]
theorem tR4_ok : chk ih0 tR4 = true := by decide +kernel
noncomputable def tB3a : Tab := [(116, [.int 0, .int 0, .int 3, .fn 137], .list [.int 1]),
    (116, [.int 0, .int 1, .int 3, .fn 137], .list []),
    (116, [.int 1, .int 0, .int 3, .fn 137], .list [.int 1]),
    (116, [.int 2, .int 0, .int 3, .fn 137], .list [.int 1]),
    (116, [.int 2, .int 1, .int 3, .fn 137], .list [.int 2]),
    (116, [.int 2, .int 2, .int 3, .fn 137], .list [.int 1]),
    (116, [.int 3, .int 0, .int 3, .fn 137], .list [.int 1]),
    (116, [.int 3, .int 1, .int 3, .fn 137], .list [.int 3]),
    (116, [.int 4, .int 0, .int 3, .fn 137], .list [.int 1]),
    (116, [.int 4, .int 1, .int 3, .fn 137], .list [.int 4]),
    (116, [.int 4, .int 2, .int 3, .fn 137], .list [.int 6]),
    (116, [.int 4, .int 3, .int 3, .fn 137], .list [.int 4])]
theorem tB3a_ok : chk ih0 tB3a = true := by decide +kernel
noncomputable def tB3b : Tab := [(116, [.int 5, .int 0, .int 3, .fn 137], .list [.int 1]),
    (116, [.int 5, .int 1, .int 3, .fn 137], .list [.int 5]),
    (116, [.int 5, .int 2, .int 3, .fn 137], .list [.int 2, .int 1]),
    (116, [.int 6, .int 1, .int 3, .fn 137], .list [.int 6]),
    (116, [.int 6, .int 2, .int 3, .fn 137], .list [.int 7, .int 1]),
    (116, [.int 6, .int 3, .int 3, .fn 137], .list [.int 4, .int 2]),
    (116, [.int 6, .int 4, .int 3, .fn 137], .list [.int 7, .int 1]),
    (116, [.int 7, .int 2, .int 3, .fn 137], .list [.int 5, .int 2]),
    (116, [.int 7, .int 3, .int 3, .fn 137], .list [.int 3, .int 4]),
    (116, [.int 8, .int 4, .int 3, .fn 137], .list [.int 6, .int 0, .int 1]),
    (116, [.int 8, .int 5, .int 3, .fn 137], .list [.int 0, .int 7]),
    (116, [.int 10, .int 5, .int 3, .fn 137], .list [.int 4, .int 7, .int 3])]
theorem tB3b_ok : chk ih0 tB3b = true := by decide +kernel
noncomputable def tB3c : Tab := [(116, [.int 10, .int 6, .int 3, .fn 137], .list [.int 2, .int 2, .int 3])]
theorem tB3c_ok : chk ih0 tB3c = true := by decide +kernel
theorem t_3_2 : isT (lawRun (tR2 ++ (tB3a ++ (tB3b ++ (tB3c ++ (tC))))) 3 2) = true := by decide +kernel
theorem t_3_3 : isT (lawRun (tR3 ++ (tB3a ++ (tB3b ++ (tB3c ++ (tC))))) 3 3) = true := by decide +kernel
theorem t_3_4 : isT (lawRun (tR4 ++ (tB3a ++ (tB3b ++ (tB3c ++ (tC))))) 3 4) = true := by decide +kernel
noncomputable def tB4a : Tab := [(116, [.int 0, .int 0, .int 4, .fn 137], .list [.int 1]),
    (116, [.int 0, .int 1, .int 4, .fn 137], .list []),
    (116, [.int 1, .int 0, .int 4, .fn 137], .list [.int 1]),
    (116, [.int 2, .int 0, .int 4, .fn 137], .list [.int 1]),
    (116, [.int 2, .int 1, .int 4, .fn 137], .list [.int 2]),
    (116, [.int 2, .int 2, .int 4, .fn 137], .list [.int 1]),
    (116, [.int 3, .int 0, .int 4, .fn 137], .list [.int 1]),
    (116, [.int 3, .int 1, .int 4, .fn 137], .list [.int 3]),
    (116, [.int 4, .int 0, .int 4, .fn 137], .list [.int 1]),
    (116, [.int 4, .int 1, .int 4, .fn 137], .list [.int 4]),
    (116, [.int 4, .int 2, .int 4, .fn 137], .list [.int 6]),
    (116, [.int 4, .int 3, .int 4, .fn 137], .list [.int 4])]
theorem tB4a_ok : chk ih0 tB4a = true := by decide +kernel
noncomputable def tB4b : Tab := [(116, [.int 5, .int 0, .int 4, .fn 137], .list [.int 1]),
    (116, [.int 5, .int 1, .int 4, .fn 137], .list [.int 5]),
    (116, [.int 5, .int 2, .int 4, .fn 137], .list [.int 10]),
    (116, [.int 6, .int 1, .int 4, .fn 137], .list [.int 6]),
    (116, [.int 6, .int 2, .int 4, .fn 137], .list [.int 15]),
    (116, [.int 6, .int 3, .int 4, .fn 137], .list [.int 4, .int 1]),
    (116, [.int 6, .int 4, .int 4, .fn 137], .list [.int 15]),
    (116, [.int 7, .int 2, .int 4, .fn 137], .list [.int 5, .int 1]),
    (116, [.int 7, .int 3, .int 4, .fn 137], .list [.int 3, .int 2]),
    (116, [.int 8, .int 4, .int 4, .fn 137], .list [.int 6, .int 4]),
    (116, [.int 8, .int 5, .int 4, .fn 137], .list [.int 8, .int 3]),
    (116, [.int 10, .int 5, .int 4, .fn 137], .list [.int 12, .int 15])]
theorem tB4b_ok : chk ih0 tB4b = true := by decide +kernel
noncomputable def tB4c : Tab := [(116, [.int 10, .int 6, .int 4, .fn 137], .list [.int 2, .int 13])]
theorem tB4c_ok : chk ih0 tB4c = true := by decide +kernel
theorem t_4_2 : isT (lawRun (tR2 ++ (tB4a ++ (tB4b ++ (tB4c ++ (tC))))) 4 2) = true := by decide +kernel
theorem t_4_3 : isT (lawRun (tR3 ++ (tB4a ++ (tB4b ++ (tB4c ++ (tC))))) 4 3) = true := by decide +kernel
theorem t_4_4 : isT (lawRun (tR4 ++ (tB4a ++ (tB4b ++ (tB4c ++ (tC))))) 4 4) = true := by decide +kernel
noncomputable def tB5a : Tab := [(116, [.int 0, .int 0, .int 5, .fn 137], .list [.int 1]),
    (116, [.int 0, .int 1, .int 5, .fn 137], .list []),
    (116, [.int 1, .int 0, .int 5, .fn 137], .list [.int 1]),
    (116, [.int 2, .int 0, .int 5, .fn 137], .list [.int 1]),
    (116, [.int 2, .int 1, .int 5, .fn 137], .list [.int 2]),
    (116, [.int 2, .int 2, .int 5, .fn 137], .list [.int 1]),
    (116, [.int 3, .int 0, .int 5, .fn 137], .list [.int 1]),
    (116, [.int 3, .int 1, .int 5, .fn 137], .list [.int 3]),
    (116, [.int 4, .int 0, .int 5, .fn 137], .list [.int 1]),
    (116, [.int 4, .int 1, .int 5, .fn 137], .list [.int 4]),
    (116, [.int 4, .int 2, .int 5, .fn 137], .list [.int 6]),
    (116, [.int 4, .int 3, .int 5, .fn 137], .list [.int 4])]
theorem tB5a_ok : chk ih0 tB5a = true := by decide +kernel
noncomputable def tB5b : Tab := [(116, [.int 5, .int 0, .int 5, .fn 137], .list [.int 1]),
    (116, [.int 5, .int 1, .int 5, .fn 137], .list [.int 5]),
    (116, [.int 5, .int 2, .int 5, .fn 137], .list [.int 10]),
    (116, [.int 6, .int 1, .int 5, .fn 137], .list [.int 6]),
    (116, [.int 6, .int 2, .int 5, .fn 137], .list [.int 15]),
    (116, [.int 6, .int 3, .int 5, .fn 137], .list [.int 20]),
    (116, [.int 6, .int 4, .int 5, .fn 137], .list [.int 15]),
    (116, [.int 7, .int 2, .int 5, .fn 137], .list [.int 21]),
    (116, [.int 7, .int 3, .int 5, .fn 137], .list [.int 3, .int 1]),
    (116, [.int 8, .int 4, .int 5, .fn 137], .list [.int 6, .int 2]),
    (116, [.int 8, .int 5, .int 5, .fn 137], .list [.int 24, .int 1]),
    (116, [.int 10, .int 5, .int 5, .fn 137], .list [.int 28, .int 7])]
theorem tB5b_ok : chk ih0 tB5b = true := by decide +kernel
noncomputable def tB5c : Tab := [(116, [.int 10, .int 6, .int 5, .fn 137], .list [.int 18, .int 6])]
theorem tB5c_ok : chk ih0 tB5c = true := by decide +kernel
theorem t_5_2 : isT (lawRun (tR2 ++ (tB5a ++ (tB5b ++ (tB5c ++ (tC))))) 5 2) = true := by decide +kernel
theorem t_5_3 : isT (lawRun (tR3 ++ (tB5a ++ (tB5b ++ (tB5c ++ (tC))))) 5 3) = true := by decide +kernel
theorem t_5_4 : isT (lawRun (tR4 ++ (tB5a ++ (tB5b ++ (tB5c ++ (tC))))) 5 4) = true := by decide +kernel
noncomputable def tB6a : Tab := [(116, [.int 0, .int 0, .int 6, .fn 137], .list [.int 1]),
    (116, [.int 0, .int 1, .int 6, .fn 137], .list []),
    (116, [.int 1, .int 0, .int 6, .fn 137], .list [.int 1]),
    (116, [.int 2, .int 0, .int 6, .fn 137], .list [.int 1]),
    (116, [.int 2, .int 1, .int 6, .fn 137], .list [.int 2]),
    (116, [.int 2, .int 2, .int 6, .fn 137], .list [.int 1]),
    (116, [.int 3, .int 0, .int 6, .fn 137], .list [.int 1]),
    (116, [.int 3, .int 1, .int 6, .fn 137], .list [.int 3]),
    (116, [.int 4, .int 0, .int 6, .fn 137], .list [.int 1]),
    (116, [.int 4, .int 1, .int 6, .fn 137], .list [.int 4]),
    (116, [.int 4, .int 2, .int 6, .fn 137], .list [.int 6]),
    (116, [.int 4, .int 3, .int 6, .fn 137], .list [.int 4])]
theorem tB6a_ok : chk ih0 tB6a = true := by decide +kernel
noncomputable def tB6b : Tab := [(116, [.int 5, .int 0, .int 6, .fn 137], .list [.int 1]),
    (116, [.int 5, .int 1, .int 6, .fn 137], .list [.int 5]),
    (116, [.int 5, .int 2, .int 6, .fn 137], .list [.int 10]),
    (116, [.int 6, .int 1, .int 6, .fn 137], .list [.int 6]),
    (116, [.int 6, .int 2, .int 6, .fn 137], .list [.int 15]),
    (116, [.int 6, .int 3, .int 6, .fn 137], .list [.int 20]),
    (116, [.int 6, .int 4, .int 6, .fn 137], .list [.int 15]),
    (116, [.int 7, .int 2, .int 6, .fn 137], .list [.int 21]),
    (116, [.int 7, .int 3, .int 6, .fn 137], .list [.int 35]),
    (116, [.int 8, .int 4, .int 6, .fn 137], .list [.int 6, .int 1]),
    (116, [.int 8, .int 5, .int 6, .fn 137], .list [.int 56]),
    (116, [.int 10, .int 5, .int 6, .fn 137], .list [.int 60, .int 3])]
theorem tB6b_ok : chk ih0 tB6b = true := by decide +kernel
noncomputable def tB6c : Tab := [(116, [.int 10, .int 6, .int 6, .fn 137], .list [.int 18, .int 3])]
theorem tB6c_ok : chk ih0 tB6c = true := by decide +kernel
theorem t_6_2 : isT (lawRun (tR2 ++ (tB6a ++ (tB6b ++ (tB6c ++ (tC))))) 6 2) = true := by decide +kernel
theorem t_6_3 : isT (lawRun (tR3 ++ (tB6a ++ (tB6b ++ (tB6c ++ (tC))))) 6 3) = true := by decide +kernel
theorem t_6_4 : isT (lawRun (tR4 ++ (tB6a ++ (tB6b ++ (tB6c ++ (tC))))) 6 4) = true := by decide +kernel
noncomputable def tB7a : Tab := [(116, [.int 0, .int 0, .int 7, .fn 137], .list [.int 1]),
    (116, [.int 0, .int 1, .int 7, .fn 137], .list []),
    (116, [.int 1, .int 0, .int 7, .fn 137], .list [.int 1]),
    (116, [.int 2, .int 0, .int 7, .fn 137], .list [.int 1]),
    (116, [.int 2, .int 1, .int 7, .fn 137], .list [.int 2]),
    (116, [.int 2, .int 2, .int 7, .fn 137], .list [.int 1]),
    (116, [.int 3, .int 0, .int 7, .fn 137], .list [.int 1]),
    (116, [.int 3, .int 1, .int 7, .fn 137], .list [.int 3]),
    (116, [.int 4, .int 0, .int 7, .fn 137], .list [.int 1]),
    (116, [.int 4, .int 1, .int 7, .fn 137], .list [.int 4]),
    (116, [.int 4, .int 2, .int 7, .fn 137], .list [.int 6]),
    (116, [.int 4, .int 3, .int 7, .fn 137], .list [.int 4])]
theorem tB7a_ok : chk ih0 tB7a = true := by decide +kernel
noncomputable def tB7b : Tab := [(116, [.int 5, .int 0, .int 7, .fn 137], .list [.int 1]),
    (116, [.int 5, .int 1, .int 7, .fn 137], .list [.int 5]),
    (116, [.int 5, .int 2, .int 7, .fn 137], .list [.int 10]),
    (116, [.int 6, .int 1, .int 7, .fn 137], .list [.int 6]),
    (116, [.int 6, .int 2, .int 7, .fn 137], .list [.int 15]),
    (116, [.int 6, .int 3, .int 7, .fn 137], .list [.int 20]),
    (116, [.int 6, .int 4, .int 7, .fn 137], .list [.int 15]),
    (116, [.int 7, .int 2, .int 7, .fn 137], .list [.int 21]),
    (116, [.int 7, .int 3, .int 7, .fn 137], .list [.int 35]),
    (116, [.int 8, .int 4, .int 7, .fn 137], .list [.int 70]),
    (116, [.int 8, .int 5, .int 7, .fn 137], .list [.int 56]),
    (116, [.int 10, .int 5, .int 7, .fn 137], .list [.int 124, .int 1])]
theorem tB7b_ok : chk ih0 tB7b = true := by decide +kernel
noncomputable def tB7c : Tab := [(116, [.int 10, .int 6, .int 7, .fn 137], .list [.int 82, .int 1])]
theorem tB7c_ok : chk ih0 tB7c = true := by decide +kernel
theorem t_7_2 : isT (lawRun (tR2 ++ (tB7a ++ (tB7b ++ (tB7c ++ (tC))))) 7 2) = true := by decide +kernel
theorem t_7_3 : isT (lawRun (tR3 ++ (tB7a ++ (tB7b ++ (tB7c ++ (tC))))) 7 3) = true := by decide +kernel
theorem t_7_4 : isT (lawRun (tR4 ++ (tB7a ++ (tB7b ++ (tB7c ++ (tC))))) 7 4) = true := by decide +kernel
noncomputable def tB8a : Tab := [(116, [.int 0, .int 0, .int 8, .fn 137], .list [.int 1]),
    (116, [.int 0, .int 1, .int 8, .fn 137], .list []),
    (116, [.int 1, .int 0, .int 8, .fn 137], .list [.int 1]),
    (116, [.int 2, .int 0, .int 8, .fn 137], .list [.int 1]),
    (116, [.int 2, .int 1, .int 8, .fn 137], .list [.int 2]),
    (116, [.int 2, .int 2, .int 8, .fn 137], .list [.int 1]),
    (116, [.int 3, .int 0, .int 8, .fn 137], .list [.int 1]),
    (116, [.int 3, .int 1, .int 8, .fn 137], .list [.int 3]),
    (116, [.int 4, .int 0, .int 8, .fn 137], .list [.int 1]),
    (116, [.int 4, .int 1, .int 8, .fn 137], .list [.int 4]),
    (116, [.int 4, .int 2, .int 8, .fn 137], .list [.int 6]),
    (116, [.int 4, .int 3, .int 8, .fn 137], .list [.int 4])]
theorem tB8a_ok : chk ih0 tB8a = true := by decide +kernel
noncomputable def tB8b : Tab := [(116, [.int 5, .int 0, .int 8, .fn 137], .list [.int 1]),
    (116, [.int 5, .int 1, .int 8, .fn 137], .list [.int 5]),
    (116, [.int 5, .int 2, .int 8, .fn 137], .list [.int 10]),
    (116, [.int 6, .int 1, .int 8, .fn 137], .list [.int 6]),
    (116, [.int 6, .int 2, .int 8, .fn 137], .list [.int 15]),
    (116, [.int 6, .int 3, .int 8, .fn 137], .list [.int 20]),
    (116, [.int 6, .int 4, .int 8, .fn 137], .list [.int 15]),
    (116, [.int 7, .int 2, .int 8, .fn 137], .list [.int 21]),
    (116, [.int 7, .int 3, .int 8, .fn 137], .list [.int 35]),
    (116, [.int 8, .int 4, .int 8, .fn 137], .list [.int 70]),
    (116, [.int 8, .int 5, .int 8, .fn 137], .list [.int 56]),
    (116, [.int 10, .int 5, .int 8, .fn 137], .list [.int 252])]
theorem tB8b_ok : chk ih0 tB8b = true := by decide +kernel
noncomputable def tB8c : Tab := [(116, [.int 10, .int 6, .int 8, .fn 137], .list [.int 210])]
theorem tB8c_ok : chk ih0 tB8c = true := by decide +kernel
theorem t_8_2 : isT (lawRun (tR2 ++ (tB8a ++ (tB8b ++ (tB8c ++ (tC))))) 8 2) = true := by decide +kernel
theorem t_8_3 : isT (lawRun (tR3 ++ (tB8a ++ (tB8b ++ (tB8c ++ (tC))))) 8 3) = true := by decide +kernel
theorem t_8_4 : isT (lawRun (tR4 ++ (tB8a ++ (tB8b ++ (tB8c ++ (tC))))) 8 4) = true := by decide +kernel
theorem ways {w p : Int} (h1 : 3 ≤ w) (h2 : w < 9) (h3 : 2 ≤ p) (h4 : p < 5) : LawOk w p := by
  have hw : w = 3 ∨ w = 4 ∨ w = 5 ∨ w = 6 ∨ w = 7 ∨ w = 8 := by omega
  have hp : p = 2 ∨ p = 3 ∨ p = 4 := by omega
  rcases hw with rfl | rfl | rfl | rfl | rfl | rfl <;> rcases hp with rfl | rfl | rfl
  · exact ⟨_, chk_app (chk_app (chk_app (chk_app tC_ok tB3c_ok) tB3b_ok) tB3a_ok) tR2_ok, t_3_2⟩
  · exact ⟨_, chk_app (chk_app (chk_app (chk_app tC_ok tB3c_ok) tB3b_ok) tB3a_ok) tR3_ok, t_3_3⟩
  · exact ⟨_, chk_app (chk_app (chk_app (chk_app tC_ok tB3c_ok) tB3b_ok) tB3a_ok) tR4_ok, t_3_4⟩
  · exact ⟨_, chk_app (chk_app (chk_app (chk_app tC_ok tB4c_ok) tB4b_ok) tB4a_ok) tR2_ok, t_4_2⟩
  · exact ⟨_, chk_app (chk_app (chk_app (chk_app tC_ok tB4c_ok) tB4b_ok) tB4a_ok) tR3_ok, t_4_3⟩
  · exact ⟨_, chk_app (chk_app (chk_app (chk_app tC_ok tB4c_ok) tB4b_ok) tB4a_ok) tR4_ok, t_4_4⟩
  · exact ⟨_, chk_app (chk_app (chk_app (chk_app tC_ok tB5c_ok) tB5b_ok) tB5a_ok) tR2_ok, t_5_2⟩
  · exact ⟨_, chk_app (chk_app (chk_app (chk_app tC_ok tB5c_ok) tB5b_ok) tB5a_ok) tR3_ok, t_5_3⟩
  · exact ⟨_, chk_app (chk_app (chk_app (chk_app tC_ok tB5c_ok) tB5b_ok) tB5a_ok) tR4_ok, t_5_4⟩
  · exact ⟨_, chk_app (chk_app (chk_app (chk_app tC_ok tB6c_ok) tB6b_ok) tB6a_ok) tR2_ok, t_6_2⟩
  · exact ⟨_, chk_app (chk_app (chk_app (chk_app tC_ok tB6c_ok) tB6b_ok) tB6a_ok) tR3_ok, t_6_3⟩
  · exact ⟨_, chk_app (chk_app (chk_app (chk_app tC_ok tB6c_ok) tB6b_ok) tB6a_ok) tR4_ok, t_6_4⟩
  · exact ⟨_, chk_app (chk_app (chk_app (chk_app tC_ok tB7c_ok) tB7b_ok) tB7a_ok) tR2_ok, t_7_2⟩
  · exact ⟨_, chk_app (chk_app (chk_app (chk_app tC_ok tB7c_ok) tB7b_ok) tB7a_ok) tR3_ok, t_7_3⟩
  · exact ⟨_, chk_app (chk_app (chk_app (chk_app tC_ok tB7c_ok) tB7b_ok) tB7a_ok) tR4_ok, t_7_4⟩
  · exact ⟨_, chk_app (chk_app (chk_app (chk_app tC_ok tB8c_ok) tB8b_ok) tB8a_ok) tR2_ok, t_8_2⟩
  · exact ⟨_, chk_app (chk_app (chk_app (chk_app tC_ok tB8c_ok) tB8b_ok) tB8a_ok) tR3_ok, t_8_3⟩
  · exact ⟨_, chk_app (chk_app (chk_app (chk_app tC_ok tB8c_ok) tB8b_ok) tB8a_ok) tR4_ok, t_8_4⟩
theorem all_ways (x y : Int) : LawOk (3 + x.fmod 6) (2 + y.fmod 3) := by
  have a1 := Int.fmod_nonneg_of_pos x (show (0 : Int) < 6 by decide)
  have a2 := Int.fmod_lt_of_pos x (show (0 : Int) < 6 by decide)
  have b1 := Int.fmod_nonneg_of_pos y (show (0 : Int) < 3 by decide)
  have b2 := Int.fmod_lt_of_pos y (show (0 : Int) < 3 by decide)
  exact ways (by omega) (by omega) (by omega) (by omega)
end Cat
open PySem PySem.W PyProof.Rows
namespace Cat
theorem newDict_L {prog : Program} {w : World} {A : Around} {E : Value → Shared → Prop} {s : Shared} {h₀ : Heap} {L a : Addr} {m : Str → Option Value} {cn : Str} {cs : Scope} {ccd : Value} {p : Pos} {Q : Value → Shared → Prop} {news : List (Addr × Obj)} (F : Fr h₀ L s.heap m) (N : News h₀ L s.heap news) (hl : h₀.NoLimit)
    (k : ∀ d h' o, Fr h₀ L h' m → News h₀ L h' ((d, o) :: news) → (∀ p ∈ news, p.1 < d) → (d == sysModules) = false → o.IsDictOf (strKind prog w) [] → PyProof.V.FlatPairs PyData.str [] [] → o.IsDictOf (intKind prog w) [] → PyProof.V.FlatPairs PyData.int [] [] → Q (.ref d) { s with heap := h' }) :
    wpAny (model prog w) A (eval (.Dict [] [] p) (envOfC cn cs L a ccd)) Q E s := newDict_K F N hl k
noncomputable def Stop (P : Prop) : Prop := P
theorem stop_of {P : Prop} (h : Stop P) : P := h
theorem to_stop {P : Prop} (h : P) : Stop P := h
end Cat
local macro_rules | `(tactic| walk_at "eval Dict nil nil") => `(tactic| (k_here; k_dflt (refine' Cat.newDict_L ?k1 ?k2 ?k3 ?_; (case k1 => k_asm); (case k2 => k_asm); (case k3 => exact TopRead.nolimit (by k_asm)); k_whole); intro d' h' o' F' N' l1 lo' hs' fs' hi' fi'; (try k_lt l1); (try k_sweep)))
local macro_rules | `(tactic| walk_at "execs cons") => `(tactic| (k_here; (with_reducible show wpAny _ _ (execs (Stmt.For _ _ _ _ _ :: _) _) _ _ _); refine Cat.stop_of ?_))
theorem PySem.Challenge.cw_xm0399_01_holds : PySem.Challenge.rw_xm0399_01.Holds :=
  hd (by
  k_go0; (all_goals try k_fold); k_steps
  all_goals
    refine Cat.to_stop ?_
    refine' Cat.law_end ?B ?X ?T ?F ?N rfl (fun _ => rfl) ?M ?m1 ?m2 ?m3 ?m4 ?mD ?d1 ?d2 ?d3 ?d4 ?v4 ?hD ?sy ?hrun ?hQ
    case F => k_asm
    case N => k_asm
    case B => k_asm
    case X => k_asm
    case T => k_asm
    case m1 => k_mem
    case m2 => k_mem
    case m3 => k_mem
    case m4 => k_mem
    case d1 => assumption
    case d2 => assumption
    case d3 => assumption
    case d4 => assumption
    case v4 => rfl
    case mD => k_mem
    case hD => assumption
    case sy => assumption
    case M => exact Cat.law_text _
    case hrun => exact Cat.all_ways _ _
    case hQ => (intro h9 tk9 m9 F9; k_unfold; (try dsimp only); wrow_close))
