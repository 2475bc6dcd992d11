import PyProof.Rows.All
import Wide.All
import OpenK.AllK
import Wide.FinOn
import Lean
import PySem.Challenge.RW_nt0606_01
set_option Elab.async false
set_option maxRecDepth 100000
set_option linter.all false
set_option genSizeOf false
set_option genInjectivity false
section
open PySem PySem.W PyProof.Rows
namespace Mine
set_option genSizeOf false

set_option genInjectivity true
inductive D where
  | none | bool (b : Bool) | int (i : Int) | str (s : List Nat) | ref (a : Addr)
  deriving DecidableEq

set_option genInjectivity false
inductive AO where
  | list (xs : List D) | tuple (xs : List D) | dict (kvs : List (List Nat × D)) | attrs (fs : List (Nat × D)) | inst (C dx : Addr)
  | range (lo hi : Int) | cell (d : Option D)
    | givn (o : PySem.Obj) (xs : List D)

noncomputable abbrev Hp := Addr → Option AO
noncomputable def Hp.set (H : Hp) (a : Addr) (o : AO) : Hp := fun b => if b = a then some o else H b
structure Ev where
  v : Nat → Option D
  c : Nat → Option Addr
noncomputable def Ev.put (ρ : Ev) (n : Nat) (d : D) : Ev := { ρ with v := fun k => bif k == n then some d else ρ.v k }
noncomputable def Ev.cel (ρ : Ev) (n : Nat) (a : Addr) : Ev := { ρ with c := fun k => bif k == n then some a else ρ.c k }

private theorem cond_beq {α : Type} {k n : Nat} {a b : α} : (bif k == n then a else b) = if k = n then a else b := by
  by_cases h : k = n
  · rw [if_pos h,beq_iff_eq.mpr h]; rfl
  · rw [if_neg h,beq_eq_false_iff_ne.mpr h]; rfl

inductive Op where | add | sub | mod | fdiv
inductive Cm where | eq | ne | lt | le | gt | ge | is_ | isnot
inductive Tg where | one (n : Nat) | two (a b : Nat)

mutual
inductive X where
  | none | bool (b : Bool) | int (i : Int) | str (s : List Nat)
  | loc (n : Nat) | cel (n : Nat) | glo (n : Nat)
  | attr (e : X) (f : Nat)
  | call (f : X) (as : Xs)
  | mcall (o : X) (f : Nat) (as : Xs)
  | len (e : X) | chr (e : X) | ord (e : X) | sorted (e : X) | listOf (e : X) | tupleOf (e : X) | range1 (e : X) | range2 (a b : X)
  | append (o e : X) | join (o e : X) | update (o e : X)
  | cmp (op : Cm) (l r : X) | chain (op₁ op₂ : Cm) (l m r : X) | isin (neg : Bool) (l r : X)
  | bop (conj : Bool) (es : Xs) | not (e : X) | neg (e : X)
  | bin (op : Op) (l r : X) | ite (t a b : X)
  | sub (e i : X) | slice (e lo hi : X)
  | list (es : Xs) | tuple (es : Xs) | dict (ks : List (List Nat)) (es : Xs)
  | comp (elt : X) (t : Tg) (cs : List Nat) (it : X)
inductive Xs where | nil | cons (x : X) (r : Xs)
end
mutual
inductive S where
  | expr (e : X) | assign (n : Nat) (e : X) | assignC (n : Nat) (e : X) | unpack (ts : List (Bool × Nat)) (e : X)
  | setattr (o : X) (f : Nat) (e : X) | decattr (o : X) (f : Nat) (e : X)
  | ret (e : X) | ite (t : X) (b o : Ss) | while_ (t : X) (b : Ss) | for_ (n : Nat) (it : X) (b : Ss) | cont | fail | special
inductive Ss where | nil | cons (s : S) (r : Ss)
end

structure FD where
  params : List Nat
  cells : List Nat
  body : Ss
structure Tbl where
  glo : Nat → Option D
  meth : Addr → Nat → Option Addr
  field : Addr → Nat → Bool
  fn : Addr → Option FD
  init : Addr → Option Addr

noncomputable abbrev K1 := D → Hp → Prop
noncomputable abbrev CallT := Addr → List D → K1 → Hp → Prop
noncomputable abbrev big : Nat := 1000000

noncomputable def nodesOf : List D → Option (List (List Nat))
  | [] => some []
  | .str s :: r => (nodesOf r).map (s :: ·)
  | _ => none
noncomputable def intsOf : List D → Option (List Int)
  | [] => some []
  | .int i :: r => (intsOf r).map (i :: ·)
  | _ => none

noncomputable def opI (op : Op) (a b : Int) : Option D := match op with
  | .add => some (.int (a + b))
  | .sub => some (.int (a - b))
  | .mod => if 0 < b ∧ b.toNat < 2000000 then some (.int (a.fmod b)) else none
  | .fdiv => if 0 < b ∧ b.toNat < 2000000 then some (.int (a.fdiv b)) else none
noncomputable def opS (op : Op) (s t : List Nat) : Option D := match op with
  | .add => if s.length + t.length ≤ big then some (.str (s ++ t)) else none
  | .sub => none
  | .mod => none
  | .fdiv => none
noncomputable def two {α : Type} (d d' : D) (I : Int → Int → Option α) (S : List Nat → List Nat → Option α) (B : Bool → Bool → Option α) : Option α := match d with
  | .int a => (match d' with | .int b => I a b | _ => none)
  | .str s => (match d' with | .str t => S s t | _ => none)
  | .bool a => (match d' with | .bool b => B a b | _ => none)
  | _ => none
private theorem two_i {α : Type} {d d' : D} {I : Int → Int → Option α} {S : List Nat → List Nat → Option α} {B : Bool → Bool → Option α} {r : α} (h : two d d' I S B = some r) :
    (∃ a b,d = .int a ∧ d' = .int b ∧ I a b = some r) ∨ (∃ s t,d = .str s ∧ d' = .str t ∧ S s t = some r) ∨ (∃ a b,d = .bool a ∧ d' = .bool b ∧ B a b = some r) := by
  cases d with
  | int a => cases d' with
    | int b => exact .inl ⟨_,_,rfl,rfl,h⟩
    | _ => cases h
  | str s => cases d' with
    | str t => exact .inr (.inl ⟨_,_,rfl,rfl,h⟩)
    | _ => cases h
  | bool s => cases d' with
    | bool t => exact .inr (.inr ⟨_,_,rfl,rfl,h⟩)
    | _ => cases h
  | _ => cases h
noncomputable def binop (op : Op) (d d' : D) : Option D := two d d' (opI op) (opS op) (fun u_ u_ => none)
noncomputable def oneN {α : Type} (d : D) (r : Option α) : Option α := match d with | .none => r | _ => none
private theorem oneN_i {α : Type} {d : D} {r : Option α} {x : α} (h : oneN d r = some x) : d = .none ∧ r = some x := by
  cases d with
  | none => exact ⟨rfl,h⟩
  | _ => cases h

noncomputable def cmpop (op : Cm) (d d' : D) : Option Bool := match op with
  | .eq => two d d' (fun a b => some (decide (a = b))) (fun s t => some (decide (s = t))) (fun u_ u_ => none)
  | .ne => two d d' (fun a b => some (!decide (a = b))) (fun s t => some (!decide (s = t))) (fun a b => some (!decide (a = b)))
  | .lt => two d d' (fun a b => some (decide (a < b))) (fun s t => some (decide (s < t))) (fun u_ u_ => none)
  | .le => two d d' (fun a b => some (decide (a ≤ b))) (fun s t => some (!decide (t < s))) (fun u_ u_ => none)
  | .gt => two d d' (fun a b => some (decide (b < a))) (fun u_ u_ => none) (fun u_ u_ => none)
  | .ge => two d d' (fun a b => some (decide (b ≤ a))) (fun u_ u_ => none) (fun u_ u_ => none)
  | .is_ => oneN d' (some (decide (d = .none)))
  | .isnot => oneN d' (some (!decide (d = .none)))

set_option genInjectivity true
inductive Tr where
  | none | bool (b : Bool) | int (i : Int) | str (s : List Nat) | tuple (l : List Tr) | list (l : List Tr)
set_option genInjectivity false
noncomputable def okT : Nat → Tr → Bool
  | _,.none => true
  | _,.bool _ => true
  | _,.int _ => true
  | _,.str s => s.all fun c => decide (c < 1114112)
  | n + 1,.tuple l => l.all (okT n)
  | n + 1,.list l => l.all (okT n)
  | _,_ => false
mutual
noncomputable def Rd (H : Hp) : Tr → D → Prop
  | .none,d => d = .none
  | .bool b,d => d = .bool b
  | .int i,d => d = .int i
  | .str s,d => d = .str s
  | .tuple l,d => ∃ a xs,d = .ref a ∧ H a = some (.tuple xs) ∧ Rds H l xs
  | .list l,d => ∃ a xs,d = .ref a ∧ H a = some (.list xs) ∧ Rds H l xs
noncomputable def Rds (H : Hp) : List Tr → List D → Prop
  | [],xs => xs = []
  | t :: ts,xs => ∃ x r,xs = x :: r ∧ Rd H t x ∧ Rds H ts r
end

noncomputable def attrsOf (H : Hp) : D → Option (Addr × Addr × List (Nat × D))
  | .ref a => match H a with
    | some (.inst C dx) => match H dx with
      | some (.attrs fs) => some (C,dx,fs)
      | _ => none
    | _ => none
  | _ => none
noncomputable def putA (f : Nat) (d : D) : List (Nat × D) → List (Nat × D)
  | [] => [(f,d)]
  | p :: r => bif p.1 == f then (f,d) :: r else p :: putA f d r
noncomputable def lookA (f : Nat) : List (Nat × D) → Option D
  | [] => none
  | p :: r => bif p.1 == f then some p.2 else lookA f r
noncomputable def lookS (s : List Nat) : List (List Nat × D) → Option D
  | [] => none
  | p :: r => if p.1 = s then some p.2 else lookS s r

noncomputable def subs (H : Hp) : D → D → Option D
  | .ref a,.int i => match H a with
    | some (.list xs) => if 0 ≤ i ∧ i.toNat < big then xs[i.toNat]? else none
    | some (.tuple xs) => if 0 ≤ i ∧ i.toNat < big then xs[i.toNat]? else none
    | some (.givn _ xs) => if 0 ≤ i ∧ i.toNat < big then xs[i.toNat]? else none
    | _ => none
  | .str s,.int i => if 0 ≤ i ∧ i.toNat < big then (s[i.toNat]?).map fun c => .str [c] else none
  | .ref a,.str s => match H a with
    | some (.dict kvs) => lookS s kvs
    | _ => none
  | _,_ => none

noncomputable def clampI (n : Nat) (i : Int) : Nat := if i < 0 then (i + n).toNat else min i.toNat n
noncomputable def sliceS (s : List Nat) (lo hi : D) : Option (List Nat) :=
  match lo,hi with
  | .none,.none => some s
  | .none,.int h => some (s.take (clampI s.length h))
  | .int l,.none => some (s.drop (clampI s.length l))
  | .int l,.int h => some ((s.take (clampI s.length h)).drop (clampI s.length l))
  | _,_ => none

noncomputable def isinA (d : D) (o : Option AO) : Option Bool := match o with
  | some (.list xs) => (match d with | .str s => (nodesOf xs).map fun l => decide (s ∈ l) | _ => none)
  | some (.tuple xs) => (match d with
    | .str s => (nodesOf xs).map fun l => decide (s ∈ l)
    | .int i => (intsOf xs).map fun l => decide (i ∈ l)
    | _ => none)
  | some (.dict kvs) => (match d with | .str s => some (lookS s kvs).isSome | _ => none)
  | _ => none
noncomputable def isinD (H : Hp) (d d' : D) : Option Bool := match d' with
  | .str t => (match d with | .str s => (match s with | [c] => some (t.contains c) | _ => none) | _ => none)
  | .ref a => isinA d (H a)
  | _ => none

noncomputable def intsR (lo : Int) : Nat → List D
  | 0 => []
  | n + 1 => .int lo :: intsR (lo + 1) n

noncomputable def itemsOf (H : Hp) : D → Option (List D)
  | .str s => if s.length ≤ big then some (s.map fun c => .str [c]) else none
  | .ref a => match H a with
    | some (.list xs) => if xs.length ≤ big then some xs else none
    | some (.range lo hi) => if 0 ≤ lo ∧ lo.toNat ≤ big ∧ 0 ≤ hi ∧ hi.toNat ≤ big then some (intsR lo (hi - lo).toNat) else none
    | _ => none
  | _ => none
noncomputable def stays (H : Hp) (d : D) (H' : Hp) : Prop := match d with
  | .ref a => H' a = H a
  | _ => True

noncomputable def joinS : List (List Nat) → List Nat
  | [] => []
  | s :: r => s ++ joinS r

noncomputable def bindTg : Tg → Hp → D → Ev → Option Ev
  | .one n,_,d,ρ => some (ρ.put n d)
  | .two a b,H,.ref t,ρ => match H t with
    | some (.tuple [x,y]) => some ((ρ.put a x).put b y)
    | _ => none
  | _,_,_,_ => none

noncomputable def Ev.onlyC (ρ : Ev) (cs : List Nat) : Ev := ⟨fun u_ => none,fun n => if n ∈ cs then ρ.c n else none⟩
noncomputable def compItems (elt : Ev → K1 → Hp → Prop) (t : Tg) (ρ : Ev) (stand : Hp → Prop) (Q : List D → Hp → Prop) : List D → List D → Hp → Prop
  | [],acc,H => stand H ∧ Q acc H
  | x :: r,acc,H => stand H ∧ match bindTg t H x ρ with
    | some ρ' => elt ρ' (fun d H => compItems elt t ρ stand Q r (acc ++ [d]) H) H
    | none => False

open Classical in
mutual
noncomputable def X.wp (T : Tbl) (C : CallT) (ρ : Ev) : X → K1 → Hp → Prop
  | .none,Q,H => Q .none H
  | .bool b,Q,H => Q (.bool b) H
  | .int i,Q,H => Q (.int i) H
  | .str s,Q,H => Q (.str s) H
  | .loc n,Q,H => match ρ.v n with | some d => Q d H | none => False
  | .cel n,Q,H => match ρ.c n with
    | some c => match H c with | some (.cell (some d)) => Q d H | _ => False
    | none => False
  | .glo n,Q,H => match T.glo n with | some d => Q d H | none => False
  | .attr e f,Q,H => e.wp T C ρ (fun d H => match attrsOf H d with
      | some (K,_,fs) => match T.field K f,lookA f fs with | true,some r => Q r H | _,_ => False
      | none => False) H
  | .call f as,Q,H => f.wp T C ρ (fun d H => match d with
      | .ref a => match T.fn a with
        | some _ => as.wp T C ρ (fun ds H => C a ds Q H) H
        | none => match T.init a with
          | some fi => as.wp T C ρ (fun ds H => ∀ dx x,H dx = none → H x = none → dx ≠ x → C fi (.ref x :: ds) (fun d H => d = .none ∧ Q (.ref x) H) ((H.set dx (.attrs [])).set x (.inst a dx))) H
          | none => False
      | _ => False) H
  | .mcall o f as,Q,H => o.wp T C ρ (fun d H => match d with
      | .ref a => match attrsOf H (.ref a) with
        | some (K,_,fs) => match T.meth K f,lookA f fs with
          | some g,none => as.wp T C ρ (fun ds H => C g (.ref a :: ds) Q H) H
          | _,_ => False
        | none => False
      | _ => False) H
  | .len e,Q,H => e.wp T C ρ (fun d H => match d with
      | .str s => s.length ≤ big ∧ Q (.int s.length) H
      | .ref a => match H a with
        | some (.list xs) => xs.length ≤ big ∧ Q (.int xs.length) H
        | some (.givn _ xs) => xs.length ≤ big ∧ Q (.int xs.length) H
        | _ => False
      | _ => False) H
  | .chr e,Q,H => e.wp T C ρ (fun d H => match d with
      | .int i => (0 ≤ i ∧ i < 1114112) ∧ Q (.str [i.toNat]) H
      | _ => False) H
  | .ord e,Q,H => e.wp T C ρ (fun d H => match d with
      | .str [c] => Q (.int c) H
      | _ => False) H
  | .sorted e,Q,H => e.wp T C ρ (fun d H => match d with
      | .ref a => match H a with
        | some (.list xs) => match intsOf xs with
          | some is => xs.length < 64 ∧ ∀ a (ns : List Int),H a = none → ns.Perm is → ns.Pairwise (· ≤ ·) → Q (.ref a) (H.set a (.list (ns.map .int)))
          | none => False
        | _ => False
      | _ => False) H
  | .listOf e,Q,H => e.wp T C ρ (fun d H => match d with
      | .str s => s.length ≤ big ∧ ∀ a,H a = none → Q (.ref a) (H.set a (.list (s.map fun c => .str [c])))
      | .ref b => match H b with
        | some (.range lo hi) => (0 ≤ lo ∧ lo ≤ big ∧ 0 ≤ hi ∧ hi ≤ big) ∧ ∀ a,H a = none → Q (.ref a) (H.set a (.list (intsR lo (hi - lo).toNat)))
        | _ => False
      | _ => False) H
  | .tupleOf e,Q,H => e.wp T C ρ (fun d H => match d with
      | .ref b => match H b with
        | some (.list xs) => xs.length ≤ big ∧ ∀ a,H a = none → Q (.ref a) (H.set a (.tuple xs))
        | _ => False
      | _ => False) H
  | .range1 e,Q,H => e.wp T C ρ (fun d H => match d with
      | .int n => (0 ≤ n ∧ n ≤ big) ∧ ∀ a,H a = none → Q (.ref a) (H.set a (.range 0 n))
      | _ => False) H
  | .range2 e e',Q,H => e.wp T C ρ (fun d H => e'.wp T C ρ (fun d' H => match d,d' with
      | .int m,.int n => (0 ≤ m ∧ m ≤ n ∧ n ≤ big) ∧ ∀ a,H a = none → Q (.ref a) (H.set a (.range m n))
      | _,_ => False) H) H
  | .append o e,Q,H => o.wp T C ρ (fun d H => match d with
      | .ref a => match H a with
        | some (.list _) => e.wp T C ρ (fun d' H => match H a with
          | some (.list xs) => xs.length < big ∧ Q .none (H.set a (.list (xs ++ [d'])))
          | _ => False) H
        | _ => False
      | _ => False) H
  | .join o e,Q,H => o.wp T C ρ (fun d H => match d with
      | .str [] => e.wp T C ρ (fun d' H => match d' with
        | .ref a => match H a with
          | some (.list xs) => match nodesOf xs with
            | some l => (xs.length ≤ 10000 ∧ (joinS l).length ≤ big) ∧ Q (.str (joinS l)) H
            | none => False
          | _ => False
        | _ => False) H
      | _ => False) H
  | .update o e,Q,H => o.wp T C ρ (fun d H => match d with
      | .ref a => match H a with
        | some (.dict _) => e.wp T C ρ (fun d' H => match d' with
          | .ref b => match H a,H b with
            | some (.dict l),some (.dict r) => (a ≠ b ∧ (l ++ r).length ≤ 1000 ∧ ((l ++ r).map (·.1)).Nodup) ∧ Q .none (H.set a (.dict (l ++ r)))
            | _,_ => False
          | _ => False) H
        | _ => False
      | _ => False) H
  | .cmp op l r,Q,H => l.wp T C ρ (fun d H => r.wp T C ρ (fun d' H => match op,d,d' with
      | .ne,.ref a,.ref b => ∃ t,okT 9 t = true ∧ Rd H t (.ref a) ∧ Rd H t (.ref b) ∧ Q (.bool false) H
      | op,d,d' => match cmpop op d d' with
        | some b => Q (.bool b) H
        | none => False) H) H
  | .chain op₁ op₂ l m r,Q,H => l.wp T C ρ (fun d H => m.wp T C ρ (fun d' H => match cmpop op₁ d d' with
      | some true => r.wp T C ρ (fun d'' H => match cmpop op₂ d' d'' with
        | some b => Q (.bool b) H
        | none => False) H
      | some false => Q (.bool false) H
      | none => False) H) H
  | .isin neg l r,Q,H => l.wp T C ρ (fun d H => r.wp T C ρ (fun d' H => match isinD H d d' with
      | some b => Q (.bool (b != neg)) H
      | none => False) H) H
  | .bop conj es,Q,H => es.bop T C ρ conj (fun b H => Q (.bool b) H) H
  | .not e,Q,H => e.wp T C ρ (fun d H => match d with
      | .bool b => Q (.bool (!b)) H
      | _ => False) H
  | .neg e,Q,H => e.wp T C ρ (fun d H => match d with
      | .int i => Q (.int (-i)) H
      | _ => False) H
  | .bin op l r,Q,H => l.wp T C ρ (fun d H => r.wp T C ρ (fun d' H => match binop op d d' with
      | some x => Q x H
      | none => match op,d,d' with
        | .add,.ref a,.ref b => match H a,H b with
          | some (.list xs),some (.list ys) => xs.length + ys.length ≤ big ∧ ∀ a,H a = none → Q (.ref a) (H.set a (.list (xs ++ ys)))
          | _,_ => False
        | _,_,_ => False) H) H
  | .ite t a b,Q,H => t.wp T C ρ (fun d H => match d with
      | .bool true => a.wp T C ρ Q H
      | .bool false => b.wp T C ρ Q H
      | _ => False) H
  | .sub e i,Q,H => e.wp T C ρ (fun d H => i.wp T C ρ (fun d' H => match subs H d d' with
      | some r => Q r H
      | none => False) H) H
  | .slice e lo hi,Q,H => e.wp T C ρ (fun d H => lo.wp T C ρ (fun l H => hi.wp T C ρ (fun h H => match d with
      | .str s => match sliceS s l h with
        | some r => s.length ≤ big ∧ Q (.str r) H
        | none => False
      | _ => False) H) H) H
  | .list es,Q,H => es.wp T C ρ (fun ds H => ds.length ≤ big ∧ ∀ a,H a = none → Q (.ref a) (H.set a (.list ds))) H
  | .tuple es,Q,H => es.wp T C ρ (fun ds H => ds.length ≤ big ∧ ∀ a,H a = none → Q (.ref a) (H.set a (.tuple ds))) H
  | .dict ks es,Q,H => es.wp T C ρ (fun ds H => (ds.length = ks.length ∧ ks ≠ [] ∧ ks.length ≤ 15 ∧ ks.Nodup) ∧ ∀ a,H a = none → Q (.ref a) (H.set a (.dict (ks.zip ds)))) H
  | .comp elt t cs it,Q,H => (∀ n ∈ cs,(ρ.c n).isSome = true) ∧ it.wp T C ρ (fun d H => match itemsOf H d with
      | some xs => xs.length ≤ big ∧
          compItems (fun ρ' K H => elt.wp T C ρ' K H) t (ρ.onlyC cs) (stays H d) (fun acc H => ∀ a,H a = none → Q (.ref a) (H.set a (.list acc))) xs [] H
      | none => False) H
noncomputable def Xs.wp (T : Tbl) (C : CallT) (ρ : Ev) : Xs → (List D → Hp → Prop) → Hp → Prop
  | .nil,Q,H => Q [] H
  | .cons x r,Q,H => x.wp T C ρ (fun d H => r.wp T C ρ (fun ds H => Q (d :: ds) H) H) H
noncomputable def Xs.bop (T : Tbl) (C : CallT) (ρ : Ev) (conj : Bool) : Xs → (Bool → Hp → Prop) → Hp → Prop
  | .nil,Q,H => Q conj H
  | .cons x r,Q,H => x.wp T C ρ (fun d H => match d with
      | .bool b => if b = conj then r.bop T C ρ conj Q H else Q b H
      | _ => False) H
end

noncomputable abbrev noSuch : List Nat := [110,111,32,115,117,99,104,32,115,116,97,116,101]
inductive Fl where | next | cont | ret (d : D)
noncomputable abbrev K2 := Fl → Ev → Hp → Prop

noncomputable def unpackTo : List (Bool × Nat) → List D → Ev → Hp → Option (Ev × Hp)
  | [],[],ρ,H => some (ρ,H)
  | (false,n) :: ts,d :: ds,ρ,H => unpackTo ts ds (ρ.put n d) H
  | (true,n) :: ts,d :: ds,ρ,H => match ρ.c n with
    | some c => match H c with
      | some (.cell _) => unpackTo ts ds ρ (H.set c (.cell (some d)))
      | _ => none
    | none => none
  | _,_,_,_ => none

noncomputable def turns (test : Ev → (Bool → Hp → Prop) → Hp → Prop) (body : Ev → K2 → Hp → Prop) (Q : K2) : Nat → Ev → Hp → Prop
  | 0,_,_ => False
  | n + 1,ρ,H => test ρ (fun b H => match b with
      | true => body ρ (fun fl ρ H => match fl with
        | .ret d => Q (.ret d) ρ H
        | _ => turns test body Q n ρ H) H
      | false => Q .next ρ H) H
noncomputable def overItems (body : Ev → K2 → Hp → Prop) (n : Nat) (stand : Hp → Prop) (Q : K2) : List D → Ev → Hp → Prop
  | [],ρ,H => stand H ∧ Q .next ρ H
  | x :: r,ρ,H => stand H ∧ body (ρ.put n x) (fun fl ρ H => match fl with
      | .ret d => Q (.ret d) ρ H
      | _ => overItems body n stand Q r ρ H) H

private theorem tuS {test : Ev → (Bool → Hp → Prop) → Hp → Prop} {body : Ev → K2 → Hp → Prop} {Q : K2} {n : Nat} {ρ : Ev} {H : Hp} : turns test body Q (n + 1) ρ H = test ρ (fun b H => match b with
      | true => body ρ (fun fl ρ H => match fl with
        | .ret d => Q (.ret d) ρ H
        | _ => turns test body Q n ρ H) H
      | false => Q .next ρ H) H := rfl
private theorem ovN {body : Ev → K2 → Hp → Prop} {n : Nat} {stand : Hp → Prop} {Q : K2} {ρ : Ev} {H : Hp} : overItems body n stand Q [] ρ H = (stand H ∧ Q .next ρ H) := rfl

mutual
noncomputable def S.wp (T : Tbl) (C : CallT) : S → Ev → K2 → Hp → Prop
  | .expr e,ρ,Q,H => e.wp T C ρ (fun u_ H => Q .next ρ H) H
  | .assign n e,ρ,Q,H => e.wp T C ρ (fun d H => Q .next (ρ.put n d) H) H
  | .assignC n e,ρ,Q,H => e.wp T C ρ (fun d H => match ρ.c n with
      | some c => match H c with
        | some (.cell _) => Q .next ρ (H.set c (.cell (some d)))
        | _ => False
      | none => False) H
  | .unpack ts e,ρ,Q,H => e.wp T C ρ (fun d H => match d with
      | .ref a => match H a with
        | some (.tuple xs) => match unpackTo ts xs ρ H with
          | some (ρ',H') => (ts.length = xs.length ∧ xs.length ≤ 9) ∧ Q .next ρ' H'
          | none => False
        | _ => False
      | _ => False) H
  | .setattr o f e,ρ,Q,H => e.wp T C ρ (fun d H => o.wp T C ρ (fun x H => match attrsOf H x with
      | some (K,dx,fs) => (T.field K f = true ∧ (putA f d fs).length ≤ 1000) ∧ Q .next ρ (H.set dx (.attrs (putA f d fs)))
      | none => False) H) H
  | .decattr o f e,ρ,Q,H => o.wp T C ρ (fun x H => match attrsOf H x with
      | some (K,_,fs) => match T.field K f,lookA f fs with
        | true,some (.int i) => e.wp T C ρ (fun d H => match d,attrsOf H x with
          | .int j,some (K',dx,fs') => (T.field K' f = true ∧ (putA f (.int (i - j)) fs').length ≤ 1000) ∧ Q .next ρ (H.set dx (.attrs (putA f (.int (i - j)) fs')))
          | _,_ => False) H
        | _,_ => False
      | none => False) H
  | .ret e,ρ,Q,H => e.wp T C ρ (fun d H => Q (.ret d) ρ H) H
  | .ite t b o,ρ,Q,H => t.wp T C ρ (fun d H => match d with
      | .bool true => b.wp T C ρ Q H
      | .bool false => o.wp T C ρ Q H
      | _ => False) H
  | .while_ t b,ρ,Q,H => ∃ n,turns (fun ρ Q H => t.wp T C ρ (fun d H => match d with
      | .bool c => Q c H
      | _ => False) H) (fun ρ Q H => b.wp T C ρ Q H) Q n ρ H
  | .for_ n it b,ρ,Q,H => it.wp T C ρ (fun d H => match itemsOf H d with
      | some xs => overItems (fun ρ Q H => b.wp T C ρ Q H) n (stays H d) Q xs ρ H
      | none => False) H
  | .cont,ρ,Q,H => Q .cont ρ H
  | .fail,_,_,_ => False
  | .special,ρ,Q,H => match ρ.v 46 with
    | some x => match attrsOf H x with
      | some (K,_,fs) => match lookA 15 fs,lookA 14 fs with
        | some (.str st),some (.ref dd) => match H dd with
          | some (.dict kvs) => (K = 310 ∧ lookS st kvs = none ∧ lookA 40 fs = none) ∧ Q .next (ρ.put 107 (.str noSuch)) H
          | _ => False
        | _,_ => False
      | none => False
    | none => False
noncomputable def Ss.wp (T : Tbl) (C : CallT) : Ss → Ev → K2 → Hp → Prop
  | .nil,ρ,Q,H => Q .next ρ H
  | .cons s r,ρ,Q,H => s.wp T C ρ (fun fl ρ H => match fl with
      | .next => r.wp T C ρ Q H
      | fl => Q fl ρ H) H
end

noncomputable def enter : List Nat → Ev → Hp → (Ev → Hp → Prop) → Prop
  | [],ρ,H,k => k ρ H
  | n :: r,ρ,H,k => ∀ c,H c = none → enter r (ρ.cel n c) (H.set c (.cell none)) k
noncomputable def bindP : List Nat → List D → Ev → Option Ev
  | [],[],ρ => some ρ
  | n :: ns,d :: ds,ρ => bindP ns ds (ρ.put n d)
  | _,_,_ => none
noncomputable def Ev.empty : Ev := ⟨fun u_ => none,fun u_ => none⟩

noncomputable def callP (T : Tbl) : Nat → CallT
  | 0,_,_,_,_ => False
  | n + 1,f,ds,Q,H => match T.fn f with
    | some fd => match bindP fd.params ds Ev.empty with
      | some ρ => enter fd.cells ρ H (fun ρ H => fd.body.wp T (callP T n) ρ (fun fl u_ H => match fl with
          | .ret d => Q d H
          | .next => Q .none H
          | .cont => False) H)
      | none => False
    | none => False
end Mine
end
section
open PySem PySem.W PyProof.Rows
namespace Mine
noncomputable def f1 (T : Tbl) (f : Nat) (Q : K1) : K1 := fun d H => match attrsOf H d with
      | some (K,_,fs) => match T.field K f,lookA f fs with | true,some r => Q r H | _,_ => False
      | none => False
noncomputable def f2 (C : CallT) (Q : K1) (a : Addr) : List D → Hp → Prop := fun ds H => C a ds Q H
noncomputable def f3 (Q : K1) (x : Addr) : K1 := fun d H => d = .none ∧ Q (.ref x) H
noncomputable def f4 (C : CallT) (Q : K1) (a : Addr) (fi : Addr) : List D → Hp → Prop := fun ds H => ∀ dx x,H dx = none → H x = none → dx ≠ x → C fi (.ref x :: ds) (f3 Q x) ((H.set dx (.attrs [])).set x (.inst a dx))
noncomputable def f5 (T : Tbl) (C : CallT) (ρ : Ev) (as : Xs) (Q : K1) : K1 := fun d H => match d with
      | .ref a => match T.fn a with
        | some _ => as.wp T C ρ (f2 C Q a) H
        | none => match T.init a with
          | some fi => as.wp T C ρ (f4 C Q a fi) H
          | none => False
      | _ => False
noncomputable def f6 (C : CallT) (Q : K1) (a : Addr) (g : Addr) : List D → Hp → Prop := fun ds H => C g (.ref a :: ds) Q H
noncomputable def f7 (T : Tbl) (C : CallT) (ρ : Ev) (f : Nat) (as : Xs) (Q : K1) : K1 := fun d H => match d with
      | .ref a => match attrsOf H (.ref a) with
        | some (K,_,fs) => match T.meth K f,lookA f fs with
          | some g,none => as.wp T C ρ (f6 C Q a g) H
          | _,_ => False
        | none => False
      | _ => False
noncomputable def f8 (Q : K1) : K1 := fun d H => match d with
      | .str s => s.length ≤ big ∧ Q (.int s.length) H
      | .ref a => match H a with
        | some (.list xs) => xs.length ≤ big ∧ Q (.int xs.length) H
        | some (.givn _ xs) => xs.length ≤ big ∧ Q (.int xs.length) H
        | _ => False
      | _ => False
noncomputable def f9 (Q : K1) : K1 := fun d H => match d with
      | .int i => (0 ≤ i ∧ i < 1114112) ∧ Q (.str [i.toNat]) H
      | _ => False
noncomputable def f10 (Q : K1) : K1 := fun d H => match d with
      | .str [c] => Q (.int c) H
      | _ => False
noncomputable def f11 (Q : K1) : K1 := fun d H => match d with
      | .ref a => match H a with
        | some (.list xs) => match intsOf xs with
          | some is => xs.length < 64 ∧ ∀ a (ns : List Int),H a = none → ns.Perm is → ns.Pairwise (· ≤ ·) → Q (.ref a) (H.set a (.list (ns.map .int)))
          | none => False
        | _ => False
      | _ => False
noncomputable def f12 (Q : K1) : K1 := fun d H => match d with
      | .str s => s.length ≤ big ∧ ∀ a,H a = none → Q (.ref a) (H.set a (.list (s.map fun c => .str [c])))
      | .ref b => match H b with
        | some (.range lo hi) => (0 ≤ lo ∧ lo ≤ big ∧ 0 ≤ hi ∧ hi ≤ big) ∧ ∀ a,H a = none → Q (.ref a) (H.set a (.list (intsR lo (hi - lo).toNat)))
        | _ => False
      | _ => False
noncomputable def f13 (Q : K1) : K1 := fun d H => match d with
      | .ref b => match H b with
        | some (.list xs) => xs.length ≤ big ∧ ∀ a,H a = none → Q (.ref a) (H.set a (.tuple xs))
        | _ => False
      | _ => False
noncomputable def f14 (Q : K1) : K1 := fun d H => match d with
      | .int n => (0 ≤ n ∧ n ≤ big) ∧ ∀ a,H a = none → Q (.ref a) (H.set a (.range 0 n))
      | _ => False
noncomputable def f15 (Q : K1) (d : D) : K1 := fun d' H => match d,d' with
      | .int m,.int n => (0 ≤ m ∧ m ≤ n ∧ n ≤ big) ∧ ∀ a,H a = none → Q (.ref a) (H.set a (.range m n))
      | _,_ => False
noncomputable def f16 (T : Tbl) (C : CallT) (ρ : Ev) (e' : X) (Q : K1) : K1 := fun d H => e'.wp T C ρ (f15 Q d) H
noncomputable def f17 (Q : K1) (a : Addr) : K1 := fun d' H => match H a with
          | some (.list xs) => xs.length < big ∧ Q .none (H.set a (.list (xs ++ [d'])))
          | _ => False
noncomputable def f18 (T : Tbl) (C : CallT) (ρ : Ev) (e : X) (Q : K1) : K1 := fun d H => match d with
      | .ref a => match H a with
        | some (.list _) => e.wp T C ρ (f17 Q a) H
        | _ => False
      | _ => False
noncomputable def f19 (Q : K1) : K1 := fun d' H => match d' with
        | .ref a => match H a with
          | some (.list xs) => match nodesOf xs with
            | some l => (xs.length ≤ 10000 ∧ (joinS l).length ≤ big) ∧ Q (.str (joinS l)) H
            | none => False
          | _ => False
        | _ => False
noncomputable def f20 (T : Tbl) (C : CallT) (ρ : Ev) (e : X) (Q : K1) : K1 := fun d H => match d with
      | .str [] => e.wp T C ρ (f19 Q) H
      | _ => False
noncomputable def f21 (Q : K1) (a : Addr) : K1 := fun d' H => match d' with
          | .ref b => match H a,H b with
            | some (.dict l),some (.dict r) => (a ≠ b ∧ (l ++ r).length ≤ 1000 ∧ ((l ++ r).map (·.1)).Nodup) ∧ Q .none (H.set a (.dict (l ++ r)))
            | _,_ => False
          | _ => False
noncomputable def f22 (T : Tbl) (C : CallT) (ρ : Ev) (e : X) (Q : K1) : K1 := fun d H => match d with
      | .ref a => match H a with
        | some (.dict _) => e.wp T C ρ (f21 Q a) H
        | _ => False
      | _ => False
noncomputable def f23 (op : Cm) (Q : K1) (d : D) : K1 := fun d' H => match op,d,d' with
      | .ne,.ref a,.ref b => ∃ t,okT 9 t = true ∧ Rd H t (.ref a) ∧ Rd H t (.ref b) ∧ Q (.bool false) H
      | op,d,d' => match cmpop op d d' with
        | some b => Q (.bool b) H
        | none => False
noncomputable def f24 (T : Tbl) (C : CallT) (ρ : Ev) (op : Cm) (r : X) (Q : K1) : K1 := fun d H => r.wp T C ρ (f23 op Q d) H
noncomputable def f25 (op₂ : Cm) (Q : K1) (d' : D) : K1 := fun d'' H => match cmpop op₂ d' d'' with
        | some b => Q (.bool b) H
        | none => False
noncomputable def f26 (T : Tbl) (C : CallT) (ρ : Ev) (op₁ : Cm) (op₂ : Cm) (r : X) (Q : K1) (d : D) : K1 := fun d' H => match cmpop op₁ d d' with
      | some true => r.wp T C ρ (f25 op₂ Q d') H
      | some false => Q (.bool false) H
      | none => False
noncomputable def f27 (T : Tbl) (C : CallT) (ρ : Ev) (op₁ : Cm) (op₂ : Cm) (m : X) (r : X) (Q : K1) : K1 := fun d H => m.wp T C ρ (f26 T C ρ op₁ op₂ r Q d) H
noncomputable def f28 (neg : Bool) (Q : K1) (d : D) : K1 := fun d' H => match isinD H d d' with
      | some b => Q (.bool (b != neg)) H
      | none => False
noncomputable def f29 (T : Tbl) (C : CallT) (ρ : Ev) (neg : Bool) (r : X) (Q : K1) : K1 := fun d H => r.wp T C ρ (f28 neg Q d) H
noncomputable def f30 (Q : K1) : Bool → Hp → Prop := fun b H => Q (.bool b) H
noncomputable def f31 (Q : K1) : K1 := fun d H => match d with
      | .bool b => Q (.bool (!b)) H
      | _ => False
noncomputable def f32 (Q : K1) : K1 := fun d H => match d with
      | .int i => Q (.int (-i)) H
      | _ => False
noncomputable def f33 (op : Op) (Q : K1) (d : D) : K1 := fun d' H => match binop op d d' with
      | some x => Q x H
      | none => match op,d,d' with
        | .add,.ref a,.ref b => match H a,H b with
          | some (.list xs),some (.list ys) => xs.length + ys.length ≤ big ∧ ∀ a,H a = none → Q (.ref a) (H.set a (.list (xs ++ ys)))
          | _,_ => False
        | _,_,_ => False
noncomputable def f34 (T : Tbl) (C : CallT) (ρ : Ev) (op : Op) (r : X) (Q : K1) : K1 := fun d H => r.wp T C ρ (f33 op Q d) H
noncomputable def f35 (T : Tbl) (C : CallT) (ρ : Ev) (a : X) (b : X) (Q : K1) : K1 := fun d H => match d with
      | .bool true => a.wp T C ρ Q H
      | .bool false => b.wp T C ρ Q H
      | _ => False
noncomputable def f36 (Q : K1) (d : D) : K1 := fun d' H => match subs H d d' with
      | some r => Q r H
      | none => False
noncomputable def f37 (T : Tbl) (C : CallT) (ρ : Ev) (i : X) (Q : K1) : K1 := fun d H => i.wp T C ρ (f36 Q d) H
noncomputable def f38 (Q : K1) (d : D) (l : D) : K1 := fun h H => match d with
      | .str s => match sliceS s l h with
        | some r => s.length ≤ big ∧ Q (.str r) H
        | none => False
      | _ => False
noncomputable def f39 (T : Tbl) (C : CallT) (ρ : Ev) (hi : X) (Q : K1) (d : D) : K1 := fun l H => hi.wp T C ρ (f38 Q d l) H
noncomputable def f40 (T : Tbl) (C : CallT) (ρ : Ev) (lo : X) (hi : X) (Q : K1) : K1 := fun d H => lo.wp T C ρ (f39 T C ρ hi Q d) H
noncomputable def f41 (Q : K1) : List D → Hp → Prop := fun ds H => ds.length ≤ big ∧ ∀ a,H a = none → Q (.ref a) (H.set a (.list ds))
noncomputable def f42 (Q : K1) : List D → Hp → Prop := fun ds H => ds.length ≤ big ∧ ∀ a,H a = none → Q (.ref a) (H.set a (.tuple ds))
noncomputable def f43 (ks : List (List Nat)) (Q : K1) : List D → Hp → Prop := fun ds H => (ds.length = ks.length ∧ ks ≠ [] ∧ ks.length ≤ 15 ∧ ks.Nodup) ∧ ∀ a,H a = none → Q (.ref a) (H.set a (.dict (ks.zip ds)))
noncomputable def f44 (T : Tbl) (C : CallT) (ρ : Ev) (elt : X) (t : Tg) (cs : List Nat) (Q : K1) : K1 := fun d H => match itemsOf H d with
      | some xs => xs.length ≤ big ∧
          compItems (fun ρ' K H => elt.wp T C ρ' K H) t (ρ.onlyC cs) (stays H d) (fun acc H => ∀ a,H a = none → Q (.ref a) (H.set a (.list acc))) xs [] H
      | none => False
noncomputable def f45 (Q : List D → Hp → Prop) (d : D) : List D → Hp → Prop := fun ds H => Q (d :: ds) H
noncomputable def f46 (T : Tbl) (C : CallT) (ρ : Ev) (r : Xs) (Q : List D → Hp → Prop) : K1 := fun d H => r.wp T C ρ (f45 Q d) H
noncomputable def f47 (T : Tbl) (C : CallT) (ρ : Ev) (conj : Bool) (r : Xs) (Q : Bool → Hp → Prop) : K1 := fun d H => match d with
      | .bool b => if b = conj then r.bop T C ρ conj Q H else Q b H
      | _ => False
noncomputable def f48 (ρ : Ev) (Q : K2) : K1 := fun u_ H => Q .next ρ H
noncomputable def f49 (n : Nat) (ρ : Ev) (Q : K2) : K1 := fun d H => Q .next (ρ.put n d) H
noncomputable def f50 (n : Nat) (ρ : Ev) (Q : K2) : K1 := fun d H => match ρ.c n with
      | some c => match H c with
        | some (.cell _) => Q .next ρ (H.set c (.cell (some d)))
        | _ => False
      | none => False
noncomputable def f51 (ts : List (Bool × Nat)) (ρ : Ev) (Q : K2) : K1 := fun d H => match d with
      | .ref a => match H a with
        | some (.tuple xs) => match unpackTo ts xs ρ H with
          | some (ρ',H') => (ts.length = xs.length ∧ xs.length ≤ 9) ∧ Q .next ρ' H'
          | none => False
        | _ => False
      | _ => False
noncomputable def f52 (T : Tbl) (f : Nat) (ρ : Ev) (Q : K2) (d : D) : K1 := fun x H => match attrsOf H x with
      | some (K,dx,fs) => (T.field K f = true ∧ (putA f d fs).length ≤ 1000) ∧ Q .next ρ (H.set dx (.attrs (putA f d fs)))
      | none => False
noncomputable def f53 (T : Tbl) (C : CallT) (o : X) (f : Nat) (ρ : Ev) (Q : K2) : K1 := fun d H => o.wp T C ρ (f52 T f ρ Q d) H
noncomputable def f54 (T : Tbl) (f : Nat) (ρ : Ev) (Q : K2) (x : D) (i : Int) : K1 := fun d H => match d,attrsOf H x with
          | .int j,some (K',dx,fs') => (T.field K' f = true ∧ (putA f (.int (i - j)) fs').length ≤ 1000) ∧ Q .next ρ (H.set dx (.attrs (putA f (.int (i - j)) fs')))
          | _,_ => False
noncomputable def f55 (T : Tbl) (C : CallT) (f : Nat) (e : X) (ρ : Ev) (Q : K2) : K1 := fun x H => match attrsOf H x with
      | some (K,_,fs) => match T.field K f,lookA f fs with
        | true,some (.int i) => e.wp T C ρ (f54 T f ρ Q x i) H
        | _,_ => False
      | none => False
noncomputable def f56 (ρ : Ev) (Q : K2) : K1 := fun d H => Q (.ret d) ρ H
noncomputable def f57 (T : Tbl) (C : CallT) (b : Ss) (o : Ss) (ρ : Ev) (Q : K2) : K1 := fun d H => match d with
      | .bool true => b.wp T C ρ Q H
      | .bool false => o.wp T C ρ Q H
      | _ => False
noncomputable def f58 (T : Tbl) (C : CallT) (n : Nat) (b : Ss) (ρ : Ev) (Q : K2) : K1 := fun d H => match itemsOf H d with
      | some xs => overItems (fun ρ Q H => b.wp T C ρ Q H) n (stays H d) Q xs ρ H
      | none => False
noncomputable def f59 (T : Tbl) (C : CallT) (r : Ss) (Q : K2) : K2 := fun fl ρ H => match fl with
      | .next => r.wp T C ρ Q H
      | fl => Q fl ρ H
noncomputable def kO (Q : K1) (H : Hp) (o : Option D) : Prop := match o with | some d => Q d H | none => False
noncomputable def kB (Q : K1) (H : Hp) (o : Option Bool) : Prop := match o with | some b => Q (.bool b) H | none => False
noncomputable def kc2 (Q : K1) (H : Hp) (o : Option AO) : Prop := match o with | some (.cell (some d)) => Q d H | _ => False
noncomputable def kc1 (Q : K1) (H : Hp) (o : Option Addr) : Prop := match o with | some c => kc2 Q H (H c) | none => False
noncomputable def k1b (Q : K1) (H : Hp) (b : Bool) (o : Option D) : Prop := match b,o with | true,some r => Q r H | _,_ => False
noncomputable def k1 (T : Tbl) (f : Nat) (Q : K1) (H : Hp) (o : Option (Addr × Addr × List (Nat × D))) : Prop := match o with | some (K,_,fs) => k1b Q H (T.field K f) (lookA f fs) | none => False
noncomputable def k5b (T : Tbl) (C : CallT) (ρ : Ev) (as : Xs) (Q : K1) (a : Addr) (H : Hp) (o : Option Addr) : Prop := match o with | some fi => as.wp T C ρ (f4 C Q a fi) H | none => False
noncomputable def k5 (T : Tbl) (C : CallT) (ρ : Ev) (as : Xs) (Q : K1) (a : Addr) (H : Hp) (o : Option FD) : Prop := match o with | some _ => as.wp T C ρ (f2 C Q a) H | none => k5b T C ρ as Q a H (T.init a)
noncomputable def k7b (T : Tbl) (C : CallT) (ρ : Ev) (as : Xs) (Q : K1) (a : Addr) (H : Hp) (o : Option Addr) (p : Option D) : Prop := match o,p with | some g,none => as.wp T C ρ (f6 C Q a g) H | _,_ => False
noncomputable def k7 (T : Tbl) (C : CallT) (ρ : Ev) (f : Nat) (as : Xs) (Q : K1) (a : Addr) (H : Hp) (o : Option (Addr × Addr × List (Nat × D))) : Prop := match o with | some (K,_,fs) => k7b T C ρ as Q a H (T.meth K f) (lookA f fs) | none => False
noncomputable def k8 (Q : K1) (H : Hp) (o : Option AO) : Prop := match o with | some (.list xs) => xs.length ≤ big ∧ Q (.int xs.length) H | some (.givn _ xs) => xs.length ≤ big ∧ Q (.int xs.length) H | _ => False
noncomputable def k11b (Q : K1) (H : Hp) (xs : List D) (o : Option (List Int)) : Prop := match o with | some is => xs.length < 64 ∧ ∀ a (ns : List Int),H a = none → ns.Perm is → ns.Pairwise (· ≤ ·) → Q (.ref a) (H.set a (.list (ns.map .int))) | none => False
noncomputable def k11 (Q : K1) (H : Hp) (o : Option AO) : Prop := match o with | some (.list xs) => k11b Q H xs (intsOf xs) | _ => False
noncomputable def k12 (Q : K1) (H : Hp) (o : Option AO) : Prop := match o with | some (.range lo hi) => (0 ≤ lo ∧ lo ≤ big ∧ 0 ≤ hi ∧ hi ≤ big) ∧ ∀ a,H a = none → Q (.ref a) (H.set a (.list (intsR lo (hi - lo).toNat))) | _ => False
noncomputable def k13 (Q : K1) (H : Hp) (o : Option AO) : Prop := match o with | some (.list xs) => xs.length ≤ big ∧ ∀ a,H a = none → Q (.ref a) (H.set a (.tuple xs)) | _ => False
noncomputable def k17 (Q : K1) (a : Addr) (d' : D) (H : Hp) (o : Option AO) : Prop := match o with | some (.list xs) => xs.length < big ∧ Q .none (H.set a (.list (xs ++ [d']))) | _ => False
noncomputable def k18 (T : Tbl) (C : CallT) (ρ : Ev) (e : X) (Q : K1) (a : Addr) (H : Hp) (o : Option AO) : Prop := match o with | some (.list _) => e.wp T C ρ (f17 Q a) H | _ => False
noncomputable def k19b (Q : K1) (H : Hp) (xs : List D) (o : Option (List (List Nat))) : Prop := match o with | some l => (xs.length ≤ 10000 ∧ (joinS l).length ≤ big) ∧ Q (.str (joinS l)) H | none => False
noncomputable def k19 (Q : K1) (H : Hp) (o : Option AO) : Prop := match o with | some (.list xs) => k19b Q H xs (nodesOf xs) | _ => False
noncomputable def k21 (Q : K1) (a b : Addr) (H : Hp) (o p : Option AO) : Prop := match o,p with | some (.dict l),some (.dict r) => (a ≠ b ∧ (l ++ r).length ≤ 1000 ∧ ((l ++ r).map (·.1)).Nodup) ∧ Q .none (H.set a (.dict (l ++ r))) | _,_ => False
noncomputable def k22 (T : Tbl) (C : CallT) (ρ : Ev) (e : X) (Q : K1) (a : Addr) (H : Hp) (o : Option AO) : Prop := match o with | some (.dict _) => e.wp T C ρ (f21 Q a) H | _ => False
noncomputable def k26 (T : Tbl) (C : CallT) (ρ : Ev) (op₂ : Cm) (r : X) (Q : K1) (d' : D) (H : Hp) (o : Option Bool) : Prop := match o with | some true => r.wp T C ρ (f25 op₂ Q d') H | some false => Q (.bool false) H | none => False
noncomputable def k28 (neg : Bool) (Q : K1) (H : Hp) (o : Option Bool) : Prop := match o with | some b => Q (.bool (b != neg)) H | none => False
noncomputable def k33b (Q : K1) (H : Hp) (o p : Option AO) : Prop := match o,p with | some (.list xs),some (.list ys) => xs.length + ys.length ≤ big ∧ ∀ a,H a = none → Q (.ref a) (H.set a (.list (xs ++ ys))) | _,_ => False
noncomputable def k33 (op : Op) (Q : K1) (d d' : D) (H : Hp) (o : Option D) : Prop := match o with | some x => Q x H | none => match op,d,d' with | .add,.ref a,.ref b => k33b Q H (H a) (H b) | _,_,_ => False
noncomputable def k35 (T : Tbl) (C : CallT) (ρ : Ev) (a b : X) (Q : K1) (H : Hp) (q : Bool) : Prop := match q with | true => a.wp T C ρ Q H | false => b.wp T C ρ Q H
noncomputable def k38 (Q : K1) (s : List Nat) (H : Hp) (o : Option (List Nat)) : Prop := match o with | some r => s.length ≤ big ∧ Q (.str r) H | none => False
noncomputable def k44 (T : Tbl) (C : CallT) (ρ : Ev) (elt : X) (t : Tg) (cs : List Nat) (Q : K1) (d : D) (H : Hp) (o : Option (List D)) : Prop := match o with | some xs => (xs.length ≤ big ∧ compItems (fun ρ' K H => elt.wp T C ρ' K H) t (ρ.onlyC cs) (stays H d) (fun acc H => ∀ a,H a = none → Q (.ref a) (H.set a (.list acc))) xs [] H) | none => False
noncomputable def k47 (T : Tbl) (C : CallT) (ρ : Ev) (conj : Bool) (r : Xs) (Q : Bool → Hp → Prop) (H : Hp) (b : Bool) : Prop := if b = conj then r.bop T C ρ conj Q H else Q b H
noncomputable def k50b (ρ : Ev) (Q : K2) (d : D) (c : Addr) (H : Hp) (o : Option AO) : Prop := match o with | some (.cell _) => Q .next ρ (H.set c (.cell (some d))) | _ => False
noncomputable def k50 (ρ : Ev) (Q : K2) (d : D) (H : Hp) (o : Option Addr) : Prop := match o with | some c => k50b ρ Q d c H (H c) | none => False
noncomputable def k51b (ts : List (Bool × Nat)) (Q : K2) (xs : List D) (o : Option (Ev × Hp)) : Prop := match o with | some (ρ',H') => (ts.length = xs.length ∧ xs.length ≤ 9) ∧ Q .next ρ' H' | none => False
noncomputable def k51 (ts : List (Bool × Nat)) (ρ : Ev) (Q : K2) (H : Hp) (o : Option AO) : Prop := match o with | some (.tuple xs) => k51b ts Q xs (unpackTo ts xs ρ H) | _ => False
noncomputable def k52 (T : Tbl) (f : Nat) (ρ : Ev) (Q : K2) (d : D) (H : Hp) (o : Option (Addr × Addr × List (Nat × D))) : Prop := match o with | some (K,dx,fs) => ((T.field K f = true ∧ (putA f d fs).length ≤ 1000) ∧ Q .next ρ (H.set dx (.attrs (putA f d fs)))) | none => False
noncomputable def k54 (T : Tbl) (f : Nat) (ρ : Ev) (Q : K2) (i j : Int) (H : Hp) (o : Option (Addr × Addr × List (Nat × D))) : Prop := match o with | some (K',dx,fs') => ((T.field K' f = true ∧ (putA f (.int (i - j)) fs').length ≤ 1000) ∧ Q .next ρ (H.set dx (.attrs (putA f (.int (i - j)) fs')))) | none => False
noncomputable def k55b (T : Tbl) (C : CallT) (f : Nat) (e : X) (ρ : Ev) (Q : K2) (x : D) (H : Hp) (b : Bool) (o : Option D) : Prop := match b,o with | true,some (.int i) => e.wp T C ρ (f54 T f ρ Q x i) H | _,_ => False
noncomputable def k55 (T : Tbl) (C : CallT) (f : Nat) (e : X) (ρ : Ev) (Q : K2) (x : D) (H : Hp) (o : Option (Addr × Addr × List (Nat × D))) : Prop := match o with | some (K,_,fs) => k55b T C f e ρ Q x H (T.field K f) (lookA f fs) | none => False
noncomputable def k57 (T : Tbl) (C : CallT) (b o : Ss) (ρ : Ev) (Q : K2) (H : Hp) (q : Bool) : Prop := match q with | true => b.wp T C ρ Q H | false => o.wp T C ρ Q H
noncomputable def k58 (T : Tbl) (C : CallT) (n : Nat) (b : Ss) (ρ : Ev) (Q : K2) (d : D) (H : Hp) (o : Option (List D)) : Prop := match o with | some xs => overItems (fun ρ Q H => b.wp T C ρ Q H) n (stays H d) Q xs ρ H | none => False
noncomputable def fC (Q : K1) : K2 := fun fl u_ H => match fl with | .ret d => Q d H | .next => Q .none H | .cont => False
noncomputable def fW (T : Tbl) (C : CallT) (b : Ss) (Q : K1) : Ev → Hp → Prop := fun ρ H => b.wp T C ρ (fC Q) H
noncomputable def kP (T : Tbl) (C : CallT) (cs : List Nat) (b : Ss) (Q : K1) (H : Hp) (o : Option Ev) : Prop := match o with | some ρ => enter cs ρ H (fW T C b Q) | none => False
section
variable {T : Tbl} {C : CallT} {ρ : Ev} {H : Hp} {Q : K1} {d : D} {d' : D} {d'' : D} {a : Addr} {b : Addr} {xs : List D} {f : Nat} {n : Nat} {e : X} {r : Xs} {as : Xs} {K : Addr} {dx : Addr} {fs : List (Nat × D)} {ds : List D} {l : X} {x : D} {s : List Nat} {i : Int} {o : X} {t : Tg} {c : Addr} {k : Nat} {cs : List Nat} {op : Cm} {conj : Bool} {q : Bool}
private theorem x_none : X.wp T C ρ .none Q H = (Q .none H) := rfl
private theorem x_bool {b : Bool} : X.wp T C ρ (.bool b) Q H = (Q (.bool b) H) := rfl
private theorem x_int : X.wp T C ρ (.int i) Q H = (Q (.int i) H) := rfl
private theorem x_str : X.wp T C ρ (.str s) Q H = (Q (.str s) H) := rfl
private theorem x_attr : X.wp T C ρ (.attr e f) Q H = (e.wp T C ρ (f1 T f Q) H) := rfl
private theorem f2e : f2 C Q a ds H = (C a ds Q H) := rfl
private theorem f4e {fi : Addr} : f4 C Q a fi ds H = (∀ dx x,H dx = none → H x = none → dx ≠ x → C fi (.ref x :: ds) (f3 Q x) ((H.set dx (.attrs [])).set x (.inst a dx))) := rfl
private theorem x_call {f : X} : X.wp T C ρ (.call f as) Q H = (f.wp T C ρ (f5 T C ρ as Q) H) := rfl
private theorem f6e {g : Addr} : f6 C Q a g ds H = (C g (.ref a :: ds) Q H) := rfl
private theorem x_mcall : X.wp T C ρ (.mcall o f as) Q H = (o.wp T C ρ (f7 T C ρ f as Q) H) := rfl
private theorem x_len : X.wp T C ρ (.len e) Q H = (e.wp T C ρ (f8 Q) H) := rfl
private theorem x_chr : X.wp T C ρ (.chr e) Q H = (e.wp T C ρ (f9 Q) H) := rfl
private theorem x_ord : X.wp T C ρ (.ord e) Q H = (e.wp T C ρ (f10 Q) H) := rfl
private theorem x_sorted : X.wp T C ρ (.sorted e) Q H = (e.wp T C ρ (f11 Q) H) := rfl
private theorem x_listOf : X.wp T C ρ (.listOf e) Q H = (e.wp T C ρ (f12 Q) H) := rfl
private theorem x_tupleOf : X.wp T C ρ (.tupleOf e) Q H = (e.wp T C ρ (f13 Q) H) := rfl
private theorem x_range1 : X.wp T C ρ (.range1 e) Q H = (e.wp T C ρ (f14 Q) H) := rfl
private theorem f16e {e' : X} : f16 T C ρ e' Q d H = (e'.wp T C ρ (f15 Q d) H) := rfl
private theorem x_range2 {e' : X} : X.wp T C ρ (.range2 e e') Q H = (e.wp T C ρ (f16 T C ρ e' Q) H) := rfl
private theorem x_append : X.wp T C ρ (.append o e) Q H = (o.wp T C ρ (f18 T C ρ e Q) H) := rfl
private theorem x_join : X.wp T C ρ (.join o e) Q H = (o.wp T C ρ (f20 T C ρ e Q) H) := rfl
private theorem x_update : X.wp T C ρ (.update o e) Q H = (o.wp T C ρ (f22 T C ρ e Q) H) := rfl
private theorem f24e {r : X} : f24 T C ρ op r Q d H = (r.wp T C ρ (f23 op Q d) H) := rfl
private theorem x_cmp {r : X} : X.wp T C ρ (.cmp op l r) Q H = (l.wp T C ρ (f24 T C ρ op r Q) H) := rfl
private theorem f27e {op₁ : Cm} {op₂ : Cm} {m : X} {r : X} : f27 T C ρ op₁ op₂ m r Q d H = (m.wp T C ρ (f26 T C ρ op₁ op₂ r Q d) H) := rfl
private theorem x_chain {op₁ : Cm} {op₂ : Cm} {m : X} {r : X} : X.wp T C ρ (.chain op₁ op₂ l m r) Q H = (l.wp T C ρ (f27 T C ρ op₁ op₂ m r Q) H) := rfl
private theorem f29e {neg : Bool} {r : X} : f29 T C ρ neg r Q d H = (r.wp T C ρ (f28 neg Q d) H) := rfl
private theorem x_isin {neg : Bool} {r : X} : X.wp T C ρ (.isin neg l r) Q H = (l.wp T C ρ (f29 T C ρ neg r Q) H) := rfl
private theorem f30e {b : Bool} : f30 Q b H = (Q (.bool b) H) := rfl
private theorem x_bop {es : Xs} : X.wp T C ρ (.bop conj es) Q H = (es.bop T C ρ conj (f30 Q) H) := rfl
private theorem x_not : X.wp T C ρ (.not e) Q H = (e.wp T C ρ (f31 Q) H) := rfl
private theorem x_neg : X.wp T C ρ (.neg e) Q H = (e.wp T C ρ (f32 Q) H) := rfl
private theorem f34e {op : Op} {r : X} : f34 T C ρ op r Q d H = (r.wp T C ρ (f33 op Q d) H) := rfl
private theorem x_bin {op : Op} {r : X} : X.wp T C ρ (.bin op l r) Q H = (l.wp T C ρ (f34 T C ρ op r Q) H) := rfl
private theorem x_ite {t : X} {a : X} {b : X} : X.wp T C ρ (.ite t a b) Q H = (t.wp T C ρ (f35 T C ρ a b Q) H) := rfl
private theorem f37e {i : X} : f37 T C ρ i Q d H = (i.wp T C ρ (f36 Q d) H) := rfl
private theorem x_sub {i : X} : X.wp T C ρ (.sub e i) Q H = (e.wp T C ρ (f37 T C ρ i Q) H) := rfl
private theorem f39e {hi : X} {l : D} : f39 T C ρ hi Q d l H = (hi.wp T C ρ (f38 Q d l) H) := rfl
private theorem f40e {lo : X} {hi : X} : f40 T C ρ lo hi Q d H = (lo.wp T C ρ (f39 T C ρ hi Q d) H) := rfl
private theorem x_slice {lo : X} {hi : X} : X.wp T C ρ (.slice e lo hi) Q H = (e.wp T C ρ (f40 T C ρ lo hi Q) H) := rfl
private theorem f41e : f41 Q ds H = (ds.length ≤ big ∧ ∀ a,H a = none → Q (.ref a) (H.set a (.list ds))) := rfl
private theorem x_list {es : Xs} : X.wp T C ρ (.list es) Q H = (es.wp T C ρ (f41 Q) H) := rfl
private theorem f42e : f42 Q ds H = (ds.length ≤ big ∧ ∀ a,H a = none → Q (.ref a) (H.set a (.tuple ds))) := rfl
private theorem x_tuple {es : Xs} : X.wp T C ρ (.tuple es) Q H = (es.wp T C ρ (f42 Q) H) := rfl
private theorem f43e {ks : List (List Nat)} : f43 ks Q ds H = ((ds.length = ks.length ∧ ks ≠ [] ∧ ks.length ≤ 15 ∧ ks.Nodup) ∧ ∀ a,H a = none → Q (.ref a) (H.set a (.dict (ks.zip ds)))) := rfl
private theorem x_dict {ks : List (List Nat)} {es : Xs} : X.wp T C ρ (.dict ks es) Q H = (es.wp T C ρ (f43 ks Q) H) := rfl
private theorem x_comp {elt : X} {it : X} : X.wp T C ρ (.comp elt t cs it) Q H = ((∀ n ∈ cs,(ρ.c n).isSome = true) ∧ it.wp T C ρ (f44 T C ρ elt t cs Q) H) := rfl
private theorem xs_nil {Q : List D → Hp → Prop} : Xs.wp T C ρ .nil Q H = (Q [] H) := rfl
private theorem f45e {Q : List D → Hp → Prop} : f45 Q d ds H = (Q (d :: ds) H) := rfl
private theorem f46e {Q : List D → Hp → Prop} : f46 T C ρ r Q d H = (r.wp T C ρ (f45 Q d) H) := rfl
private theorem xs_cons {x : X} {Q : List D → Hp → Prop} : Xs.wp T C ρ (.cons x r) Q H = (x.wp T C ρ (f46 T C ρ r Q) H) := rfl
private theorem xb_nil {Q : Bool → Hp → Prop} : Xs.bop T C ρ conj .nil Q H = (Q conj H) := rfl
private theorem xb_cons {x : X} {Q : Bool → Hp → Prop} : Xs.bop T C ρ conj (.cons x r) Q H = (x.wp T C ρ (f47 T C ρ conj r Q) H) := rfl
private theorem f48e {Q : K2} {y : D} : f48 ρ Q y H = (Q .next ρ H) := rfl
private theorem s_expr {Q : K2} : S.wp T C (.expr e) ρ Q H = (e.wp T C ρ (f48 ρ Q) H) := rfl
private theorem f49e {Q : K2} : f49 n ρ Q d H = (Q .next (ρ.put n d) H) := rfl
private theorem s_assign {Q : K2} : S.wp T C (.assign n e) ρ Q H = (e.wp T C ρ (f49 n ρ Q) H) := rfl
private theorem s_assignC {Q : K2} : S.wp T C (.assignC n e) ρ Q H = (e.wp T C ρ (f50 n ρ Q) H) := rfl
private theorem s_unpack {ts : List (Bool × Nat)} {Q : K2} : S.wp T C (.unpack ts e) ρ Q H = (e.wp T C ρ (f51 ts ρ Q) H) := rfl
private theorem f53e {Q : K2} : f53 T C o f ρ Q d H = (o.wp T C ρ (f52 T f ρ Q d) H) := rfl
private theorem s_setattr {Q : K2} : S.wp T C (.setattr o f e) ρ Q H = (e.wp T C ρ (f53 T C o f ρ Q) H) := rfl
private theorem s_decattr {Q : K2} : S.wp T C (.decattr o f e) ρ Q H = (o.wp T C ρ (f55 T C f e ρ Q) H) := rfl
private theorem f56e {Q : K2} : f56 ρ Q d H = (Q (.ret d) ρ H) := rfl
private theorem s_ret {Q : K2} : S.wp T C (.ret e) ρ Q H = (e.wp T C ρ (f56 ρ Q) H) := rfl
private theorem s_ite {t : X} {b : Ss} {o : Ss} {Q : K2} : S.wp T C (.ite t b o) ρ Q H = (t.wp T C ρ (f57 T C b o ρ Q) H) := rfl
private theorem s_while_ {t : X} {b : Ss} {Q : K2} : S.wp T C (.while_ t b) ρ Q H = (∃ n,turns (fun ρ Q H => t.wp T C ρ (fun d H => match d with
      | .bool c => Q c H
      | _ => False) H) (fun ρ Q H => b.wp T C ρ Q H) Q n ρ H) := rfl
private theorem s_for_ {it : X} {b : Ss} {Q : K2} : S.wp T C (.for_ n it b) ρ Q H = (it.wp T C ρ (f58 T C n b ρ Q) H) := rfl
private theorem s_cont {Q : K2} : S.wp T C .cont ρ Q H = (Q .cont ρ H) := rfl
private theorem s_special {Q : K2} : S.wp T C .special ρ Q H = (match ρ.v 46 with
    | some x => match attrsOf H x with
      | some (K,_,fs) => match lookA 15 fs,lookA 14 fs with
        | some (.str st),some (.ref dd) => match H dd with
          | some (.dict kvs) => (K = 310 ∧ lookS st kvs = none ∧ lookA 40 fs = none) ∧ Q .next (ρ.put 107 (.str noSuch)) H
          | _ => False
        | _,_ => False
      | none => False
    | none => False) := rfl
private theorem ss_nil {Q : K2} : Ss.wp T C .nil ρ Q H = (Q .next ρ H) := rfl
private theorem ss_cons {s : S} {r : Ss} {Q : K2} : Ss.wp T C (.cons s r) ρ Q H = (s.wp T C ρ (f59 T C r Q) H) := rfl
private theorem slNN : sliceS s .none .none = some s := rfl
private theorem slNI : sliceS s .none (.int i) = some (s.take (clampI s.length i)) := rfl
private theorem slIN : sliceS s (.int i) .none = some (s.drop (clampI s.length i)) := rfl
private theorem slII {j : Int} : sliceS s (.int i) (.int j) = some ((s.take (clampI s.length j)).drop (clampI s.length i)) := rfl
private theorem callP_s {ds : List D} : callP T (n + 1) f ds Q H = (match T.fn f with | some fd => kP T (callP T n) fd.cells fd.body Q H (bindP fd.params ds Ev.empty) | none => False) := rfl
private theorem un0 {ρ : Ev} {H : Hp} : unpackTo [] [] ρ H = some (ρ,H) := rfl
private theorem unF {n : Nat} {ts : List (Bool × Nat)} {d : D} {ds : List D} {ρ : Ev} {H : Hp} : unpackTo ((false,n) :: ts) (d :: ds) ρ H = unpackTo ts ds (ρ.put n d) H := rfl
private theorem unT {n : Nat} {ts : List (Bool × Nat)} {d : D} {ds : List D} {ρ : Ev} {H : Hp} : unpackTo ((true,n) :: ts) (d :: ds) ρ H = (match ρ.c n with | some c => (match H c with | some (.cell _) => unpackTo ts ds ρ (H.set c (.cell (some d))) | _ => none) | none => none) := rfl
private theorem bT {α : Type} {x y : α} : cond true x y = x := rfl
private theorem bF {α : Type} {x y : α} : cond false x y = y := rfl
private theorem kOe : kO Q H (some d) = Q d H := rfl
private theorem kBe {b : Bool} : kB Q H (some b) = Q (.bool b) H := rfl
private theorem kc1e : kc1 Q H (some c) = kc2 Q H (H c) := rfl
private theorem kc2e : kc2 Q H (some (.cell (some d))) = Q d H := rfl
private theorem f1e : f1 T f Q d H = k1 T f Q H (attrsOf H d) := rfl
private theorem k1e : k1 T f Q H (some (K,dx,fs)) = k1b Q H (T.field K f) (lookA f fs) := rfl
private theorem k1be {r : D} : k1b Q H true (some r) = Q r H := rfl
private theorem f5e : f5 T C ρ as Q (.ref a) H = k5 T C ρ as Q a H (T.fn a) := rfl
private theorem k5e {fd : FD} : k5 T C ρ as Q a H (some fd) = as.wp T C ρ (f2 C Q a) H := rfl
private theorem k5n : k5 T C ρ as Q a H none = k5b T C ρ as Q a H (T.init a) := rfl
private theorem k5be {fi : Addr} : k5b T C ρ as Q a H (some fi) = as.wp T C ρ (f4 C Q a fi) H := rfl
private theorem f7e : f7 T C ρ f as Q (.ref a) H = k7 T C ρ f as Q a H (attrsOf H (.ref a)) := rfl
private theorem k7e : k7 T C ρ f as Q a H (some (K,dx,fs)) = k7b T C ρ as Q a H (T.meth K f) (lookA f fs) := rfl
private theorem k7be {g : Addr} : k7b T C ρ as Q a H (some g) none = as.wp T C ρ (f6 C Q a g) H := rfl
private theorem f8e : f8 Q (.str s) H = (s.length ≤ big ∧ Q (.int s.length) H) := rfl
private theorem f8r : f8 Q (.ref a) H = k8 Q H (H a) := rfl
private theorem k8e : k8 Q H (some (.list xs)) = (xs.length ≤ big ∧ Q (.int xs.length) H) := rfl
private theorem k8g {o : PySem.Obj} : k8 Q H (some (.givn o xs)) = (xs.length ≤ big ∧ Q (.int xs.length) H) := rfl
private theorem f9e : f9 Q (.int i) H = ((0 ≤ i ∧ i < 1114112) ∧ Q (.str [i.toNat]) H) := rfl
private theorem f10e {c : Nat} : f10 Q (.str [c]) H = Q (.int c) H := rfl
private theorem f11e : f11 Q (.ref a) H = k11 Q H (H a) := rfl
private theorem k11e : k11 Q H (some (.list xs)) = k11b Q H xs (intsOf xs) := rfl
private theorem k11be {is : List Int} : k11b Q H xs (some is) = (xs.length < 64 ∧ ∀ a (ns : List Int),H a = none → ns.Perm is → ns.Pairwise (· ≤ ·) → Q (.ref a) (H.set a (.list (ns.map .int)))) := rfl
private theorem f12e : f12 Q (.str s) H = (s.length ≤ big ∧ ∀ a,H a = none → Q (.ref a) (H.set a (.list (s.map fun c => .str [c])))) := rfl
private theorem f12r : f12 Q (.ref a) H = k12 Q H (H a) := rfl
private theorem k12e {lo hi : Int} : k12 Q H (some (.range lo hi)) = ((0 ≤ lo ∧ lo ≤ big ∧ 0 ≤ hi ∧ hi ≤ big) ∧ ∀ a,H a = none → Q (.ref a) (H.set a (.list (intsR lo (hi - lo).toNat)))) := rfl
private theorem f13e : f13 Q (.ref a) H = k13 Q H (H a) := rfl
private theorem k13e : k13 Q H (some (.list xs)) = (xs.length ≤ big ∧ ∀ a,H a = none → Q (.ref a) (H.set a (.tuple xs))) := rfl
private theorem f14e {n : Int} : f14 Q (.int n) H = ((0 ≤ n ∧ n ≤ big) ∧ ∀ a,H a = none → Q (.ref a) (H.set a (.range 0 n))) := rfl
private theorem f15e {m n : Int} : f15 Q (.int m) (.int n) H = ((0 ≤ m ∧ m ≤ n ∧ n ≤ big) ∧ ∀ a,H a = none → Q (.ref a) (H.set a (.range m n))) := rfl
private theorem f17e : f17 Q a d' H = k17 Q a d' H (H a) := rfl
private theorem k17e : k17 Q a d' H (some (.list xs)) = (xs.length < big ∧ Q .none (H.set a (.list (xs ++ [d'])))) := rfl
private theorem f18e : f18 T C ρ e Q (.ref a) H = k18 T C ρ e Q a H (H a) := rfl
private theorem k18e : k18 T C ρ e Q a H (some (.list xs)) = e.wp T C ρ (f17 Q a) H := rfl
private theorem f19e : f19 Q (.ref a) H = k19 Q H (H a) := rfl
private theorem f20e : f20 T C ρ e Q (.str []) H = e.wp T C ρ (f19 Q) H := rfl
private theorem f21e : f21 Q a (.ref b) H = k21 Q a b H (H a) (H b) := rfl
private theorem k21e {l r : List (List Nat × D)} : k21 Q a b H (some (.dict l)) (some (.dict r)) = ((a ≠ b ∧ (l ++ r).length ≤ 1000 ∧ ((l ++ r).map (·.1)).Nodup) ∧ Q .none (H.set a (.dict (l ++ r)))) := rfl
private theorem f22e : f22 T C ρ e Q (.ref a) H = k22 T C ρ e Q a H (H a) := rfl
private theorem k22e {l : List (List Nat × D)} : k22 T C ρ e Q a H (some (.dict l)) = e.wp T C ρ (f21 Q a) H := rfl
private theorem f23e : f23 .eq Q d d' H = kB Q H (cmpop .eq d d') := rfl
private theorem f23lt : f23 .lt Q d d' H = kB Q H (cmpop .lt d d') := rfl
private theorem f23gt : f23 .gt Q d d' H = kB Q H (cmpop .gt d d') := rfl
private theorem f23ge : f23 .ge Q d d' H = kB Q H (cmpop .ge d d') := rfl
private theorem f23is_ : f23 .is_ Q d d' H = kB Q H (cmpop .is_ d d') := rfl
private theorem f23isnot : f23 .isnot Q d d' H = kB Q H (cmpop .isnot d d') := rfl
private theorem f23s : f23 .ne Q (.str s) d' H = kB Q H (cmpop .ne (.str s) d') := rfl
private theorem f23b {s : Bool} : f23 .ne Q (.bool s) d' H = kB Q H (cmpop .ne (.bool s) d') := rfl
private theorem f23r : f23 .ne Q (.ref a) (.ref b) H = (∃ t,okT 9 t = true ∧ Rd H t (.ref a) ∧ Rd H t (.ref b) ∧ Q (.bool false) H) := rfl
private theorem f25e {op₂ : Cm} : f25 op₂ Q d' d'' H = kB Q H (cmpop op₂ d' d'') := rfl
private theorem f26e {op₁ op₂ : Cm} {r : X} : f26 T C ρ op₁ op₂ r Q d d' H = k26 T C ρ op₂ r Q d' H (cmpop op₁ d d') := rfl
private theorem k26t {op₂ : Cm} {r : X} : k26 T C ρ op₂ r Q d' H (some true) = r.wp T C ρ (f25 op₂ Q d') H := rfl
private theorem k26f {op₂ : Cm} {r : X} : k26 T C ρ op₂ r Q d' H (some false) = Q (.bool false) H := rfl
private theorem f28e {neg : Bool} : f28 neg Q d d' H = k28 neg Q H (isinD H d d') := rfl
private theorem k28e {neg b : Bool} : k28 neg Q H (some b) = Q (.bool (b != neg)) H := rfl
private theorem f31e {b : Bool} : f31 Q (.bool b) H = Q (.bool (!b)) H := rfl
private theorem f32e : f32 Q (.int i) H = Q (.int (-i)) H := rfl
private theorem f33e {op : Op} : f33 op Q d d' H = k33 op Q d d' H (binop op d d') := rfl
private theorem k33e {op : Op} : k33 op Q d d' H (some x) = Q x H := rfl
private theorem k33n : k33 .add Q (.ref a) (.ref b) H none = k33b Q H (H a) (H b) := rfl
private theorem k33be {ys : List D} : k33b Q H (some (.list xs)) (some (.list ys)) = (xs.length + ys.length ≤ big ∧ ∀ a,H a = none → Q (.ref a) (H.set a (.list (xs ++ ys)))) := rfl
private theorem f35e {a b : X} : f35 T C ρ a b Q (.bool q) H = k35 T C ρ a b Q H q := by cases q <;> rfl
private theorem k35t {a b : X} : k35 T C ρ a b Q H true = a.wp T C ρ Q H := rfl
private theorem k35f {a b : X} : k35 T C ρ a b Q H false = b.wp T C ρ Q H := rfl
private theorem f36e : f36 Q d d' H = kO Q H (subs H d d') := rfl
private theorem f38e {l h : D} : f38 Q (.str s) l h H = k38 Q s H (sliceS s l h) := rfl
private theorem k38e {r : List Nat} : k38 Q s H (some r) = (s.length ≤ big ∧ Q (.str r) H) := rfl
private theorem f44e {elt : X} : f44 T C ρ elt t cs Q d H = k44 T C ρ elt t cs Q d H (itemsOf H d) := rfl
private theorem k44e {elt : X} : k44 T C ρ elt t cs Q d H (some xs) = (xs.length ≤ big ∧ compItems (fun ρ' K H => elt.wp T C ρ' K H) t (ρ.onlyC cs) (stays H d) (fun acc H => ∀ a,H a = none → Q (.ref a) (H.set a (.list acc))) xs [] H) := rfl
private theorem f47e {Q : Bool → Hp → Prop} {b : Bool} : f47 T C ρ conj r Q (.bool b) H = k47 T C ρ conj r Q H b := rfl
private theorem k47tt {Q : Bool → Hp → Prop} : k47 T C ρ true r Q H true = r.bop T C ρ true Q H := rfl
private theorem k47tf {Q : Bool → Hp → Prop} : k47 T C ρ true r Q H false = Q false H := rfl
private theorem k47ff {Q : Bool → Hp → Prop} : k47 T C ρ false r Q H false = r.bop T C ρ false Q H := rfl
private theorem k47ft {Q : Bool → Hp → Prop} : k47 T C ρ false r Q H true = Q true H := rfl
private theorem f50e {Q : K2} : f50 n ρ Q d H = k50 ρ Q d H (ρ.c n) := rfl
private theorem k50e {Q : K2} : k50 ρ Q d H (some c) = k50b ρ Q d c H (H c) := rfl
private theorem k50be {Q : K2} {x : Option D} : k50b ρ Q d c H (some (.cell x)) = Q .next ρ (H.set c (.cell (some d))) := rfl
private theorem f51e {ts : List (Bool × Nat)} {Q : K2} : f51 ts ρ Q (.ref a) H = k51 ts ρ Q H (H a) := rfl
private theorem k51e {ts : List (Bool × Nat)} {Q : K2} : k51 ts ρ Q H (some (.tuple xs)) = k51b ts Q xs (unpackTo ts xs ρ H) := rfl
private theorem k51be {ts : List (Bool × Nat)} {ρ' : Ev} {Q : K2} {H' : Hp} : k51b ts Q xs (some (ρ',H')) = ((ts.length = xs.length ∧ xs.length ≤ 9) ∧ Q .next ρ' H') := rfl
private theorem f52e {Q : K2} : f52 T f ρ Q d x H = k52 T f ρ Q d H (attrsOf H x) := rfl
private theorem k52e {Q : K2} : k52 T f ρ Q d H (some (K,dx,fs)) = ((T.field K f = true ∧ (putA f d fs).length ≤ 1000) ∧ Q .next ρ (H.set dx (.attrs (putA f d fs)))) := rfl
private theorem f54e {Q : K2} {j : Int} : f54 T f ρ Q x i (.int j) H = k54 T f ρ Q i j H (attrsOf H x) := by show (match D.int j,attrsOf H x with | .int j,some (K',dx,fs') => _ | _,_ => False) = _; cases attrsOf H x <;> rfl
private theorem k54e {Q : K2} {j : Int} {K' : Addr} {fs' : List (Nat × D)} : k54 T f ρ Q i j H (some (K',dx,fs')) = ((T.field K' f = true ∧ (putA f (.int (i - j)) fs').length ≤ 1000) ∧ Q .next ρ (H.set dx (.attrs (putA f (.int (i - j)) fs')))) := rfl
private theorem f55e {Q : K2} : f55 T C f e ρ Q x H = k55 T C f e ρ Q x H (attrsOf H x) := rfl
private theorem k55e {Q : K2} : k55 T C f e ρ Q x H (some (K,dx,fs)) = k55b T C f e ρ Q x H (T.field K f) (lookA f fs) := rfl
private theorem k55be {Q : K2} : k55b T C f e ρ Q x H true (some (.int i)) = e.wp T C ρ (f54 T f ρ Q x i) H := rfl
private theorem f57e {b o : Ss} {Q : K2} : f57 T C b o ρ Q (.bool q) H = k57 T C b o ρ Q H q := by cases q <;> rfl
private theorem k57t {b o : Ss} {Q : K2} : k57 T C b o ρ Q H true = b.wp T C ρ Q H := rfl
private theorem k57f {b o : Ss} {Q : K2} : k57 T C b o ρ Q H false = o.wp T C ρ Q H := rfl
private theorem f58e {b : Ss} {Q : K2} : f58 T C n b ρ Q d H = k58 T C n b ρ Q d H (itemsOf H d) := rfl
private theorem k58e {b : Ss} {Q : K2} : k58 T C n b ρ Q d H (some xs) = overItems (fun ρ Q H => b.wp T C ρ Q H) n (stays H d) Q xs ρ H := rfl
private theorem f59e {r : Ss} {Q : K2} : f59 T C r Q .next ρ H = r.wp T C ρ Q H := rfl
private theorem f59c {r : Ss} {Q : K2} : f59 T C r Q .cont ρ H = Q .cont ρ H := rfl
private theorem f59r {r : Ss} {Q : K2} : f59 T C r Q (.ret d) ρ H = Q (.ret d) ρ H := rfl
private theorem fCr : fC Q (.ret d) ρ H = Q d H := rfl
private theorem fCn : fC Q .next ρ H = Q .none H := rfl
private theorem fWe {b : Ss} : fW T C b Q ρ H = b.wp T C ρ (fC Q) H := rfl
private theorem kPe {b : Ss} : kP T C cs b Q H (some ρ) = enter cs ρ H (fW T C b Q) := rfl
private theorem bP0 : bindP [] [] ρ = some ρ := rfl
private theorem bP1 {ns : List Nat} : bindP (n :: ns) (d :: ds) ρ = bindP ns ds (ρ.put n d) := rfl
private theorem en0 {k : Ev → Hp → Prop} : enter [] ρ H k = k ρ H := rfl
private theorem en1 {r : List Nat} {k : Ev → Hp → Prop} : enter (n :: r) ρ H k = ∀ c,H c = none → enter r (ρ.cel n c) (H.set c (.cell none)) k := rfl
@[simp] private theorem put_v : (ρ.put n d).v k = bif k == n then some d else ρ.v k := rfl
@[simp] private theorem put_c : (ρ.put n d).c k = ρ.c k := rfl
@[simp] private theorem cel_c : (ρ.cel n a).c k = bif k == n then some a else ρ.c k := rfl
@[simp] private theorem cel_v : (ρ.cel n a).v k = ρ.v k := rfl
@[simp] private theorem emp_v : Ev.empty.v k = none := rfl
@[simp] private theorem emp_c : Ev.empty.c k = none := rfl
@[simp] private theorem putA0 : putA f d [] = [(f,d)] := rfl
@[simp] private theorem putA1 {g : Nat} {r : List (Nat × D)} : putA f d ((g,x) :: r) = bif g == f then (f,d) :: r else (g,x) :: putA f d r := rfl
@[simp] private theorem lookA0 : lookA f [] = none := rfl
@[simp] private theorem lookA1 {g : Nat} {r : List (Nat × D)} : lookA f ((g,x) :: r) = bif g == f then some x else lookA f r := rfl
private theorem x_loc : X.wp T C ρ (.loc n) Q H = kO Q H (ρ.v n) := rfl
private theorem x_cel : X.wp T C ρ (.cel n) Q H = kc1 Q H (ρ.c n) := rfl
private theorem x_glo : X.wp T C ρ (.glo n) Q H = kO Q H (T.glo n) := rfl
end
end Mine
end
section
open PySem PySem.W PyProof.Rows
namespace Mine
private theorem wx_none {T : Tbl} {C : CallT} {ρ : Ev} {Q : K1} {H : Hp} : X.wp T C ρ .none Q H = (Q .none H) := rfl
private theorem wx_loc {T : Tbl} {C : CallT} {ρ : Ev} {n : Nat} {Q : K1} {H : Hp} : X.wp T C ρ (.loc n) Q H = (match ρ.v n with | some d => Q d H | none => False) := rfl
private theorem wx_cel {T : Tbl} {C : CallT} {ρ : Ev} {n : Nat} {Q : K1} {H : Hp} : X.wp T C ρ (.cel n) Q H = (match ρ.c n with
    | some c => match H c with | some (.cell (some d)) => Q d H | _ => False
    | none => False) := rfl
private theorem wx_glo {T : Tbl} {C : CallT} {ρ : Ev} {n : Nat} {Q : K1} {H : Hp} : X.wp T C ρ (.glo n) Q H = (match T.glo n with | some d => Q d H | none => False) := rfl
private theorem wx_attr {T : Tbl} {C : CallT} {ρ : Ev} {e : X} {f : Nat} {Q : K1} {H : Hp} : X.wp T C ρ (.attr e f) Q H = (e.wp T C ρ (fun d H => match attrsOf H d with
      | some (K,_,fs) => match T.field K f,lookA f fs with | true,some r => Q r H | _,_ => False
      | none => False) H) := rfl
private theorem wx_call {T : Tbl} {C : CallT} {ρ : Ev} {f : X} {as : Xs} {Q : K1} {H : Hp} : X.wp T C ρ (.call f as) Q H = (f.wp T C ρ (fun d H => match d with
      | .ref a => match T.fn a with
        | some _ => as.wp T C ρ (fun ds H => C a ds Q H) H
        | none => match T.init a with
          | some fi => as.wp T C ρ (fun ds H => ∀ dx x,H dx = none → H x = none → dx ≠ x → C fi (.ref x :: ds) (fun d H => d = .none ∧ Q (.ref x) H) ((H.set dx (.attrs [])).set x (.inst a dx))) H
          | none => False
      | _ => False) H) := rfl
private theorem wx_mcall {T : Tbl} {C : CallT} {ρ : Ev} {o : X} {f : Nat} {as : Xs} {Q : K1} {H : Hp} : X.wp T C ρ (.mcall o f as) Q H = (o.wp T C ρ (fun d H => match d with
      | .ref a => match attrsOf H (.ref a) with
        | some (K,_,fs) => match T.meth K f,lookA f fs with
          | some g,none => as.wp T C ρ (fun ds H => C g (.ref a :: ds) Q H) H
          | _,_ => False
        | none => False
      | _ => False) H) := rfl
private theorem wx_len {T : Tbl} {C : CallT} {ρ : Ev} {e : X} {Q : K1} {H : Hp} : X.wp T C ρ (.len e) Q H = (e.wp T C ρ (fun d H => match d with
      | .str s => s.length ≤ big ∧ Q (.int s.length) H
      | .ref a => match H a with
        | some (.list xs) => xs.length ≤ big ∧ Q (.int xs.length) H
        | some (.givn _ xs) => xs.length ≤ big ∧ Q (.int xs.length) H
        | _ => False
      | _ => False) H) := rfl
private theorem wx_chr {T : Tbl} {C : CallT} {ρ : Ev} {e : X} {Q : K1} {H : Hp} : X.wp T C ρ (.chr e) Q H = (e.wp T C ρ (fun d H => match d with
      | .int i => (0 ≤ i ∧ i < 1114112) ∧ Q (.str [i.toNat]) H
      | _ => False) H) := rfl
private theorem wx_ord {T : Tbl} {C : CallT} {ρ : Ev} {e : X} {Q : K1} {H : Hp} : X.wp T C ρ (.ord e) Q H = (e.wp T C ρ (fun d H => match d with
      | .str [c] => Q (.int c) H
      | _ => False) H) := rfl
private theorem wx_sorted {T : Tbl} {C : CallT} {ρ : Ev} {e : X} {Q : K1} {H : Hp} : X.wp T C ρ (.sorted e) Q H = (e.wp T C ρ (fun d H => match d with
      | .ref a => match H a with
        | some (.list xs) => match intsOf xs with
          | some is => xs.length < 64 ∧ ∀ a (ns : List Int),H a = none → ns.Perm is → ns.Pairwise (· ≤ ·) → Q (.ref a) (H.set a (.list (ns.map .int)))
          | none => False
        | _ => False
      | _ => False) H) := rfl
private theorem wx_listOf {T : Tbl} {C : CallT} {ρ : Ev} {e : X} {Q : K1} {H : Hp} : X.wp T C ρ (.listOf e) Q H = (e.wp T C ρ (fun d H => match d with
      | .str s => s.length ≤ big ∧ ∀ a,H a = none → Q (.ref a) (H.set a (.list (s.map fun c => .str [c])))
      | .ref b => match H b with
        | some (.range lo hi) => (0 ≤ lo ∧ lo ≤ big ∧ 0 ≤ hi ∧ hi ≤ big) ∧ ∀ a,H a = none → Q (.ref a) (H.set a (.list (intsR lo (hi - lo).toNat)))
        | _ => False
      | _ => False) H) := rfl
private theorem wx_tupleOf {T : Tbl} {C : CallT} {ρ : Ev} {e : X} {Q : K1} {H : Hp} : X.wp T C ρ (.tupleOf e) Q H = (e.wp T C ρ (fun d H => match d with
      | .ref b => match H b with
        | some (.list xs) => xs.length ≤ big ∧ ∀ a,H a = none → Q (.ref a) (H.set a (.tuple xs))
        | _ => False
      | _ => False) H) := rfl
private theorem wx_range1 {T : Tbl} {C : CallT} {ρ : Ev} {e : X} {Q : K1} {H : Hp} : X.wp T C ρ (.range1 e) Q H = (e.wp T C ρ (fun d H => match d with
      | .int n => (0 ≤ n ∧ n ≤ big) ∧ ∀ a,H a = none → Q (.ref a) (H.set a (.range 0 n))
      | _ => False) H) := rfl
private theorem wx_range2 {T : Tbl} {C : CallT} {ρ : Ev} {e : X} {e' : X} {Q : K1} {H : Hp} : X.wp T C ρ (.range2 e e') Q H = (e.wp T C ρ (fun d H => e'.wp T C ρ (fun d' H => match d,d' with
      | .int m,.int n => (0 ≤ m ∧ m ≤ n ∧ n ≤ big) ∧ ∀ a,H a = none → Q (.ref a) (H.set a (.range m n))
      | _,_ => False) H) H) := rfl
private theorem wx_append {T : Tbl} {C : CallT} {ρ : Ev} {o : X} {e : X} {Q : K1} {H : Hp} : X.wp T C ρ (.append o e) Q H = (o.wp T C ρ (fun d H => match d with
      | .ref a => match H a with
        | some (.list _) => e.wp T C ρ (fun d' H => match H a with
          | some (.list xs) => xs.length < big ∧ Q .none (H.set a (.list (xs ++ [d'])))
          | _ => False) H
        | _ => False
      | _ => False) H) := rfl
private theorem wx_join {T : Tbl} {C : CallT} {ρ : Ev} {o : X} {e : X} {Q : K1} {H : Hp} : X.wp T C ρ (.join o e) Q H = (o.wp T C ρ (fun d H => match d with
      | .str [] => e.wp T C ρ (fun d' H => match d' with
        | .ref a => match H a with
          | some (.list xs) => match nodesOf xs with
            | some l => (xs.length ≤ 10000 ∧ (joinS l).length ≤ big) ∧ Q (.str (joinS l)) H
            | none => False
          | _ => False
        | _ => False) H
      | _ => False) H) := rfl
private theorem wx_update {T : Tbl} {C : CallT} {ρ : Ev} {o : X} {e : X} {Q : K1} {H : Hp} : X.wp T C ρ (.update o e) Q H = (o.wp T C ρ (fun d H => match d with
      | .ref a => match H a with
        | some (.dict _) => e.wp T C ρ (fun d' H => match d' with
          | .ref b => match H a,H b with
            | some (.dict l),some (.dict r) => (a ≠ b ∧ (l ++ r).length ≤ 1000 ∧ ((l ++ r).map (·.1)).Nodup) ∧ Q .none (H.set a (.dict (l ++ r)))
            | _,_ => False
          | _ => False) H
        | _ => False
      | _ => False) H) := rfl
private theorem wx_cmp {T : Tbl} {C : CallT} {ρ : Ev} {op : Cm} {l : X} {r : X} {Q : K1} {H : Hp} : X.wp T C ρ (.cmp op l r) Q H = (l.wp T C ρ (fun d H => r.wp T C ρ (fun d' H => match op,d,d' with
      | .ne,.ref a,.ref b => ∃ t,okT 9 t = true ∧ Rd H t (.ref a) ∧ Rd H t (.ref b) ∧ Q (.bool false) H
      | op,d,d' => match cmpop op d d' with
        | some b => Q (.bool b) H
        | none => False) H) H) := rfl
private theorem wx_chain {T : Tbl} {C : CallT} {ρ : Ev} {op₁ : Cm} {op₂ : Cm} {l : X} {m : X} {r : X} {Q : K1} {H : Hp} : X.wp T C ρ (.chain op₁ op₂ l m r) Q H = (l.wp T C ρ (fun d H => m.wp T C ρ (fun d' H => match cmpop op₁ d d' with
      | some true => r.wp T C ρ (fun d'' H => match cmpop op₂ d' d'' with
        | some b => Q (.bool b) H
        | none => False) H
      | some false => Q (.bool false) H
      | none => False) H) H) := rfl
private theorem wx_isin {T : Tbl} {C : CallT} {ρ : Ev} {neg : Bool} {l : X} {r : X} {Q : K1} {H : Hp} : X.wp T C ρ (.isin neg l r) Q H = (l.wp T C ρ (fun d H => r.wp T C ρ (fun d' H => match isinD H d d' with
      | some b => Q (.bool (b != neg)) H
      | none => False) H) H) := rfl
private theorem wx_bop {T : Tbl} {C : CallT} {ρ : Ev} {conj : Bool} {es : Xs} {Q : K1} {H : Hp} : X.wp T C ρ (.bop conj es) Q H = (es.bop T C ρ conj (fun b H => Q (.bool b) H) H) := rfl
private theorem wx_not {T : Tbl} {C : CallT} {ρ : Ev} {e : X} {Q : K1} {H : Hp} : X.wp T C ρ (.not e) Q H = (e.wp T C ρ (fun d H => match d with
      | .bool b => Q (.bool (!b)) H
      | _ => False) H) := rfl
private theorem wx_neg {T : Tbl} {C : CallT} {ρ : Ev} {e : X} {Q : K1} {H : Hp} : X.wp T C ρ (.neg e) Q H = (e.wp T C ρ (fun d H => match d with
      | .int i => Q (.int (-i)) H
      | _ => False) H) := rfl
private theorem wx_bin {T : Tbl} {C : CallT} {ρ : Ev} {op : Op} {l : X} {r : X} {Q : K1} {H : Hp} : X.wp T C ρ (.bin op l r) Q H = (l.wp T C ρ (fun d H => r.wp T C ρ (fun d' H => match binop op d d' with
      | some x => Q x H
      | none => match op,d,d' with
        | .add,.ref a,.ref b => match H a,H b with
          | some (.list xs),some (.list ys) => xs.length + ys.length ≤ big ∧ ∀ a,H a = none → Q (.ref a) (H.set a (.list (xs ++ ys)))
          | _,_ => False
        | _,_,_ => False) H) H) := rfl
private theorem wx_ite {T : Tbl} {C : CallT} {ρ : Ev} {t : X} {a : X} {b : X} {Q : K1} {H : Hp} : X.wp T C ρ (.ite t a b) Q H = (t.wp T C ρ (fun d H => match d with
      | .bool true => a.wp T C ρ Q H
      | .bool false => b.wp T C ρ Q H
      | _ => False) H) := rfl
private theorem wx_sub {T : Tbl} {C : CallT} {ρ : Ev} {e : X} {i : X} {Q : K1} {H : Hp} : X.wp T C ρ (.sub e i) Q H = (e.wp T C ρ (fun d H => i.wp T C ρ (fun d' H => match subs H d d' with
      | some r => Q r H
      | none => False) H) H) := rfl
private theorem wx_slice {T : Tbl} {C : CallT} {ρ : Ev} {e : X} {lo : X} {hi : X} {Q : K1} {H : Hp} : X.wp T C ρ (.slice e lo hi) Q H = (e.wp T C ρ (fun d H => lo.wp T C ρ (fun l H => hi.wp T C ρ (fun h H => match d with
      | .str s => match sliceS s l h with
        | some r => s.length ≤ big ∧ Q (.str r) H
        | none => False
      | _ => False) H) H) H) := rfl
private theorem wx_list {T : Tbl} {C : CallT} {ρ : Ev} {es : Xs} {Q : K1} {H : Hp} : X.wp T C ρ (.list es) Q H = (es.wp T C ρ (fun ds H => ds.length ≤ big ∧ ∀ a,H a = none → Q (.ref a) (H.set a (.list ds))) H) := rfl
private theorem wx_tuple {T : Tbl} {C : CallT} {ρ : Ev} {es : Xs} {Q : K1} {H : Hp} : X.wp T C ρ (.tuple es) Q H = (es.wp T C ρ (fun ds H => ds.length ≤ big ∧ ∀ a,H a = none → Q (.ref a) (H.set a (.tuple ds))) H) := rfl
private theorem wx_dict {T : Tbl} {C : CallT} {ρ : Ev} {ks : List (List Nat)} {es : Xs} {Q : K1} {H : Hp} : X.wp T C ρ (.dict ks es) Q H = (es.wp T C ρ (fun ds H => (ds.length = ks.length ∧ ks ≠ [] ∧ ks.length ≤ 15 ∧ ks.Nodup) ∧ ∀ a,H a = none → Q (.ref a) (H.set a (.dict (ks.zip ds)))) H) := rfl
private theorem wx_comp {T : Tbl} {C : CallT} {ρ : Ev} {elt : X} {t : Tg} {cs : List Nat} {it : X} {Q : K1} {H : Hp} : X.wp T C ρ (.comp elt t cs it) Q H = ((∀ n ∈ cs,(ρ.c n).isSome = true) ∧ it.wp T C ρ (fun d H => match itemsOf H d with
      | some xs => xs.length ≤ big ∧
          compItems (fun ρ' K H => elt.wp T C ρ' K H) t (ρ.onlyC cs) (stays H d) (fun acc H => ∀ a,H a = none → Q (.ref a) (H.set a (.list acc))) xs [] H
      | none => False) H) := rfl
private theorem wxs_nil {T : Tbl} {C : CallT} {ρ : Ev} {Q : (List D → Hp → Prop)} {H : Hp} : Xs.wp T C ρ .nil Q H = (Q [] H) := rfl
private theorem wxs_cons {T : Tbl} {C : CallT} {ρ : Ev} {x : X} {r : Xs} {Q : (List D → Hp → Prop)} {H : Hp} : Xs.wp T C ρ (.cons x r) Q H = (x.wp T C ρ (fun d H => r.wp T C ρ (fun ds H => Q (d :: ds) H) H) H) := rfl
private theorem wxb_nil {T : Tbl} {C : CallT} {ρ : Ev} {conj : Bool} {Q : (Bool → Hp → Prop)} {H : Hp} : Xs.bop T C ρ conj .nil Q H = (Q conj H) := rfl
private theorem wxb_cons {T : Tbl} {C : CallT} {ρ : Ev} {conj : Bool} {x : X} {r : Xs} {Q : (Bool → Hp → Prop)} {H : Hp} : Xs.bop T C ρ conj (.cons x r) Q H = (x.wp T C ρ (fun d H => match d with
      | .bool b => if b = conj then r.bop T C ρ conj Q H else Q b H
      | _ => False) H) := rfl
private theorem ws_expr {T : Tbl} {C : CallT} {e : X} {ρ : Ev} {Q : K2} {H : Hp} : S.wp T C (.expr e) ρ Q H = (e.wp T C ρ (fun u_ H => Q .next ρ H) H) := rfl
private theorem ws_assign {T : Tbl} {C : CallT} {n : Nat} {e : X} {ρ : Ev} {Q : K2} {H : Hp} : S.wp T C (.assign n e) ρ Q H = (e.wp T C ρ (fun d H => Q .next (ρ.put n d) H) H) := rfl
private theorem ws_assignC {T : Tbl} {C : CallT} {n : Nat} {e : X} {ρ : Ev} {Q : K2} {H : Hp} : S.wp T C (.assignC n e) ρ Q H = (e.wp T C ρ (fun d H => match ρ.c n with
      | some c => match H c with
        | some (.cell _) => Q .next ρ (H.set c (.cell (some d)))
        | _ => False
      | none => False) H) := rfl
private theorem ws_unpack {T : Tbl} {C : CallT} {ts : List (Bool × Nat)} {e : X} {ρ : Ev} {Q : K2} {H : Hp} : S.wp T C (.unpack ts e) ρ Q H = (e.wp T C ρ (fun d H => match d with
      | .ref a => match H a with
        | some (.tuple xs) => match unpackTo ts xs ρ H with
          | some (ρ',H') => (ts.length = xs.length ∧ xs.length ≤ 9) ∧ Q .next ρ' H'
          | none => False
        | _ => False
      | _ => False) H) := rfl
private theorem ws_setattr {T : Tbl} {C : CallT} {o : X} {f : Nat} {e : X} {ρ : Ev} {Q : K2} {H : Hp} : S.wp T C (.setattr o f e) ρ Q H = (e.wp T C ρ (fun d H => o.wp T C ρ (fun x H => match attrsOf H x with
      | some (K,dx,fs) => (T.field K f = true ∧ (putA f d fs).length ≤ 1000) ∧ Q .next ρ (H.set dx (.attrs (putA f d fs)))
      | none => False) H) H) := rfl
private theorem ws_decattr {T : Tbl} {C : CallT} {o : X} {f : Nat} {e : X} {ρ : Ev} {Q : K2} {H : Hp} : S.wp T C (.decattr o f e) ρ Q H = (o.wp T C ρ (fun x H => match attrsOf H x with
      | some (K,_,fs) => match T.field K f,lookA f fs with
        | true,some (.int i) => e.wp T C ρ (fun d H => match d,attrsOf H x with
          | .int j,some (K',dx,fs') => (T.field K' f = true ∧ (putA f (.int (i - j)) fs').length ≤ 1000) ∧ Q .next ρ (H.set dx (.attrs (putA f (.int (i - j)) fs')))
          | _,_ => False) H
        | _,_ => False
      | none => False) H) := rfl
private theorem ws_ret {T : Tbl} {C : CallT} {e : X} {ρ : Ev} {Q : K2} {H : Hp} : S.wp T C (.ret e) ρ Q H = (e.wp T C ρ (fun d H => Q (.ret d) ρ H) H) := rfl
private theorem ws_ite {T : Tbl} {C : CallT} {t : X} {b : Ss} {o : Ss} {ρ : Ev} {Q : K2} {H : Hp} : S.wp T C (.ite t b o) ρ Q H = (t.wp T C ρ (fun d H => match d with
      | .bool true => b.wp T C ρ Q H
      | .bool false => o.wp T C ρ Q H
      | _ => False) H) := rfl
private theorem ws_while_ {T : Tbl} {C : CallT} {t : X} {b : Ss} {ρ : Ev} {Q : K2} {H : Hp} : S.wp T C (.while_ t b) ρ Q H = (∃ n,turns (fun ρ Q H => t.wp T C ρ (fun d H => match d with
      | .bool c => Q c H
      | _ => False) H) (fun ρ Q H => b.wp T C ρ Q H) Q n ρ H) := rfl
private theorem ws_for_ {T : Tbl} {C : CallT} {n : Nat} {it : X} {b : Ss} {ρ : Ev} {Q : K2} {H : Hp} : S.wp T C (.for_ n it b) ρ Q H = (it.wp T C ρ (fun d H => match itemsOf H d with
      | some xs => overItems (fun ρ Q H => b.wp T C ρ Q H) n (stays H d) Q xs ρ H
      | none => False) H) := rfl
private theorem ws_cont {T : Tbl} {C : CallT} {ρ : Ev} {Q : K2} {H : Hp} : S.wp T C .cont ρ Q H = (Q .cont ρ H) := rfl
private theorem ws_fail {T : Tbl} {C : CallT} {Z0 : Ev} {Z1 : K2} {Z2 : Hp} : S.wp T C .fail Z0 Z1 Z2 = (False) := rfl
private theorem ws_special {T : Tbl} {C : CallT} {ρ : Ev} {Q : K2} {H : Hp} : S.wp T C .special ρ Q H = (match ρ.v 46 with
    | some x => match attrsOf H x with
      | some (K,_,fs) => match lookA 15 fs,lookA 14 fs with
        | some (.str st),some (.ref dd) => match H dd with
          | some (.dict kvs) => (K = 310 ∧ lookS st kvs = none ∧ lookA 40 fs = none) ∧ Q .next (ρ.put 107 (.str noSuch)) H
          | _ => False
        | _,_ => False
      | none => False
    | none => False) := rfl
private theorem wss_nil {T : Tbl} {C : CallT} {ρ : Ev} {Q : K2} {H : Hp} : Ss.wp T C .nil ρ Q H = (Q .next ρ H) := rfl
private theorem wss_cons {T : Tbl} {C : CallT} {s : S} {r : Ss} {ρ : Ev} {Q : K2} {H : Hp} : Ss.wp T C (.cons s r) ρ Q H = (s.wp T C ρ (fun fl ρ H => match fl with
      | .next => r.wp T C ρ Q H
      | fl => Q fl ρ H) H) := rfl
end Mine
end
section
open PySem PySem.W PyProof.Rows
namespace Mine

noncomputable def er : Value → Option D
  | .none => some .none
  | .bool b => some (.bool b)
  | .int i _ => some (.int i)
  | .str s _ => some (.str s.cps.toList)
  | .ref a => some (.ref a)
  | _ => Option.none
noncomputable abbrev VR (v : Value) (d : D) : Prop := er v = some d
noncomputable abbrev VRs (vs : List Value) (ds : List D) : Prop := vs.map er = ds.map some

private theorem VR.none {v} (h : VR v .none) : v = .none := by cases v <;> cases h <;> rfl
private theorem VR.bool {v b} (h : VR v (.bool b)) : v = .bool b := by cases v <;> cases h <;> rfl
private theorem VR.int {v i} (h : VR v (.int i)) : ∃ t,v = .int i t := by cases v <;> cases h <;> exact ⟨_,rfl⟩
private theorem VR.ref {v a} (h : VR v (.ref a)) : v = .ref a := by cases v <;> cases h <;> rfl
private theorem VR.str {v l} (h : VR v (.str l)) : ∃ t,v = .str ⟨l.toArray⟩ t := by
  cases v with
  | str s t =>
    cases h
    exact ⟨t,by cases s; simp⟩
  | _ => cases h
private theorem VR.mk_str {l t} : VR (.str ⟨List.toArray l⟩ t) (.str l) := rfl
private theorem VR.handed {v d} (h : VR v d) : handedIn v = true := by cases v <;> first | rfl | cases h
private theorem VRs.length {vs ds} (h : VRs vs ds) : vs.length = ds.length := by simpa using congrArg List.length h
private theorem VRs.nil {vs} (h : VRs vs []) : vs = [] := by simpa [VRs] using h
private theorem VRs.cons {vs d ds} (h : VRs vs (d :: ds)) : ∃ v r,vs = v :: r ∧ VR v d ∧ VRs r ds := by
  cases vs with
  | nil => simp [VRs] at h
  | cons v r => simp only [VRs,List.map_cons,List.cons.injEq] at h; exact ⟨v,r,rfl,h.1,h.2⟩
private theorem VRs.mk {v d vs ds} (h : VR v d) (k : VRs vs ds) : VRs (v :: vs) (d :: ds) := by simp only [VRs,List.map_cons]; rw [h,k]
private theorem VRs.app {vs ds us es} (h : VRs vs ds) (k : VRs us es) : VRs (vs ++ us) (ds ++ es) := by simp only [VRs,List.map_append]; rw [h,k]
private theorem VRs.get {vs ds} (h : VRs vs ds) {i : Nat} {d : D} (e : ds[i]? = some d) : ∃ v,vs[i]? = some v ∧ VR v d := by
  have : (vs.map er)[i]? = (ds.map some)[i]? := by rw [h]
  rw [List.getElem?_map,List.getElem?_map,e] at this
  cases q : vs[i]? with
  | none => rw [q] at this; simp at this
  | some v => rw [q] at this; exact ⟨v,rfl,by simpa using this⟩

noncomputable abbrev rangeObj (lo hi : Int) (t u v : Tok) : Obj := { cls := .type "range",dict := none,data := .fields #[.int lo t,.int hi u,.int 1 v],slots := #[] }
noncomputable abbrev seqObj (T : String) (vs : List Value) (n : Nat) : Obj := { cls := .type T,data := .seq vs.toArray n }

set_option genInjectivity true
structure Cx where
  prog : Program
  w : World
  K : Frag
  T : Tbl
  nm : Nat → Str
  h₀ : Heap
  mg : Str → Option Value
  mb : Str → Option Value
  os : OsState
  gens : Array GenState
  inj : ∀ a b,nm a = nm b → a = b

set_option genInjectivity false
noncomputable def DP : List (Str × Value) → List (List Nat × D) → Prop
  | [],[] => True
  | e :: es,(s,d) :: r => (e.1 = ⟨s.toArray⟩ ∧ VR e.2 d) ∧ DP es r
  | _,_ => False
noncomputable def AR (nm : Nat → Str) : List DictEntry → List (Nat × D) → Prop
  | [],[] => True
  | e :: es,(f,d) :: r => ((∃ t,e.key = .str (nm f) t) ∧ VR e.val d) ∧ AR nm es r
  | _,_ => False
noncomputable def CR : Option Value → Option D → Prop
  | none,none => True
  | some v,some d => VR v d
  | _,_ => False

noncomputable def OR (c : Cx) (o : Obj) : AO → Prop
  | .list xs => ∃ vs n,o = seqObj "list" vs n ∧ VRs vs xs
  | .tuple xs => ∃ vs n,o = seqObj "tuple" vs n ∧ VRs vs xs
  | .dict kvs => ∃ ps,o.IsDictOf (strKind c.prog c.w) ps ∧ DP ps kvs
  | .attrs fs => ∃ es n,o = dictOf es n ∧ AR c.nm es fs
  | .inst C dx => o = instObj C dx
  | .range lo hi => ∃ t u v,o = rangeObj lo hi t u v
  | .cell d => ∃ v,o.data = .cell v ∧ CR v d
  | .givn o' xs => o = o' ∧ o.cls = .type "list" ∧ ∃ vs n,o.data = .seq (List.toArray vs) n ∧ VRs vs xs
private theorem OR.live {c o O} (h : OR c o O) : o.isFreed = false := by
  cases O with
  | list => obtain ⟨_,_,rfl,_⟩ := h; rfl
  | tuple => obtain ⟨_,_,rfl,_⟩ := h; rfl
  | dict => obtain ⟨_,⟨_,_,_,h,_⟩,_⟩ := h; exact Obj.isFreed_of_dict h
  | attrs => obtain ⟨_,_,rfl,_⟩ := h; rfl
  | inst => cases h; rfl
  | range => obtain ⟨_,_,_,rfl⟩ := h; rfl
  | cell => obtain ⟨_,h,_⟩ := h; obtain ⟨_,_,dt,_⟩ := o; subst h; rfl
  | givn => obtain ⟨_,_,_,_,h,_⟩ := h; obtain ⟨_,_,dt,_⟩ := o; subst h; rfl

noncomputable abbrev Fz := Addr → Option Obj
structure R (c : Cx) (B : Fz) (env : Env) (ρ : Ev) (H : Hp) (s : Shared) : Prop where
  fz : ∀ b o,B b = some o → s.heap.get? b = some o ∧ H b = none
  ob : ∀ a O,H a = some O → ∃ o,s.heap.get? a = some o ∧ OR c o O
  base : ∀ b o,c.h₀.get? b = some o → B b = some o
  loc : ∃ m,s.heap.Ns env.locals m ∧ ∀ n d,ρ.v n = some d → ∃ v,m (c.nm n) = some v ∧ VR v d
  LB : B env.locals = none
  LH : H env.locals = none
  cel : ∀ n a,ρ.c n = some a → env.cells.lookup (c.nm n) = some a
  os : s.os = c.os
  gens : s.gens = c.gens

section
variable {c : Cx} {B : Fz} {env : Env} {ρ : Ev} {H : Hp} {s : Shared}
private theorem R.keep (r : R c B env ρ H s) {b o} (e : c.h₀.get? b = some o) : s.heap.get? b = some o := (r.fz b o (r.base b o e)).1
private theorem R.tok (r : R c B env ρ H s) (t : Nat) : R c B env ρ H { s with toks := t } := ⟨r.fz,r.ob,r.base,r.loc,r.LB,r.LH,r.cel,r.os,r.gens⟩
private theorem R.lt (r : R c B env ρ H s) {a O} (e : H a = some O) : a < s.heap.objs.size := by
  obtain ⟨o,h,_⟩ := r.ob a O e
  exact Heap.lt_size h
private theorem R.fresh (r : R c B env ρ H s) : H s.heap.objs.size = none := by
  cases q : H s.heap.objs.size with
  | none => rfl
  | some O => exact absurd (r.lt q) (Nat.lt_irrefl _)
private theorem R.freshB (r : R c B env ρ H s) : B s.heap.objs.size = none := by
  cases q : B s.heap.objs.size with
  | none => rfl
  | some o => exact absurd (Heap.lt_size (r.fz _ _ q).1) (Nat.lt_irrefl _)
private theorem R.neL (r : R c B env ρ H s) {a O} (e : H a = some O) : a ≠ env.locals := fun q => by rw [q,r.LH] at e; cases e
private theorem R.push (r : R c B env ρ H s) (o : Obj) : R c B env ρ H { s with heap := s.heap.push o } := by
  refine ⟨fun b o' e => ⟨Heap.get?_push_of_some _ (r.fz b o' e).1,(r.fz b o' e).2⟩,fun a O e => ?_,r.base,?_,r.LB,r.LH,r.cel,r.os,r.gens⟩
  · obtain ⟨o',h,k⟩ := r.ob a O e
    exact ⟨o',Heap.get?_push_of_some _ h,k⟩
  · obtain ⟨m,h,k⟩ := r.loc
    exact ⟨m,h.push _,k⟩
private theorem R.alloc (r : R c B env ρ H s) {o : Obj} {O : AO} (h : OR c o O) : R c B env ρ (H.set s.heap.objs.size O) { s with heap := s.heap.push o } := by
  have r' := r.push o
  refine ⟨fun b o' e => ⟨(r'.fz b o' e).1,?_⟩,fun a O' e => ?_,r.base,r'.loc,r.LB,?_,r.cel,r.os,r.gens⟩
  · unfold Hp.set
    rw [if_neg]
    · exact (r.fz b o' e).2
    · rintro rfl
      rw [r.freshB] at e; cases e
  · unfold Hp.set at e
    split at e
    · rename_i q; subst q; cases e
      exact ⟨o,Heap.get?_push_size _ h.live,h⟩
    · exact r'.ob a O' e
  · unfold Hp.set
    rw [if_neg]
    · exact r.LH
    · obtain ⟨m,hm,_⟩ := r.loc
      exact Nat.ne_of_lt hm.lt
private theorem R.upd (r : R c B env ρ H s) {h' : Heap} {a : Addr} {O O' : AO} {o' : Obj} (ha : H a = some O) (hs : Heap.SameBut a s.heap h') (hg : h'.get? a = some o') (h : OR c o' O') {t : Nat} :
    R c B env ρ (H.set a O') { s with heap := h',toks := t } := by
  refine ⟨fun b o e => ?_,fun b O₁ e => ?_,r.base,?_,r.LB,?_,r.cel,r.os,r.gens⟩
  · have hn : b ≠ a := fun q => by have := (r.fz b o e).2; rw [q,ha] at this; cases this
    exact ⟨(hs.2 b hn).trans (r.fz b o e).1,by unfold Hp.set; rw [if_neg hn]; exact (r.fz b o e).2⟩
  · unfold Hp.set at e
    split at e
    · rename_i q; subst q; cases e
      exact ⟨o',hg,h⟩
    · rename_i q
      obtain ⟨o,h1,h2⟩ := r.ob b O₁ e
      exact ⟨o,(hs.2 b q).trans h1,h2⟩
  · obtain ⟨m,hm,k⟩ := r.loc
    exact ⟨m,hm.sameBut hs (Ne.symm (r.neL ha)),k⟩
  · unfold Hp.set
    rw [if_neg (Ne.symm (r.neL ha))]
    exact r.LH
private theorem R.store (r : R c B env ρ H s) {h' : Heap} {n : Nat} {v : Value} {d : D} {m : Str → Option Value} (hm : s.heap.Ns env.locals m) (hl : ∀ n d,ρ.v n = some d → ∃ v,m (c.nm n) = some v ∧ VR v d)
    (hs : Heap.SameBut env.locals s.heap h') (hn : h'.Ns env.locals (fun x => if x = c.nm n then some v else m x)) (hv : VR v d) {t : Nat} : R c B env (ρ.put n d) H { s with heap := h',toks := t } := by
  refine ⟨fun b o e => ?_,fun b O e => ?_,r.base,⟨_,hn,fun k d' e => ?_⟩,r.LB,r.LH,r.cel,r.os,r.gens⟩
  · have hn : b ≠ env.locals := fun q => by rw [q,r.LB] at e; cases e
    exact ⟨(hs.2 b hn).trans (r.fz b o e).1,(r.fz b o e).2⟩
  · obtain ⟨o,h1,h2⟩ := r.ob b O e
    exact ⟨o,(hs.2 b (r.neL e)).trans h1,h2⟩
  · unfold Ev.put at e
    dsimp only at e
    rw [cond_beq] at e
    split at e
    · rename_i q; subst q; cases e
      exact ⟨v,if_pos rfl,hv⟩
    · rename_i q
      obtain ⟨v',h1,h2⟩ := hl k d' e
      refine ⟨v',?_,h2⟩
      rw [if_neg fun z => q (c.inj _ _ z)]
      exact h1
private theorem R.more (r : R c B env ρ H s) {h' : Heap} (hk : ∀ b o,s.heap.get? b = some o → h'.get? b = some o) {t : Nat} : R c B env ρ H { s with heap := h',toks := t } := by
  refine ⟨fun b o' e => ⟨hk _ _ (r.fz b o' e).1,(r.fz b o' e).2⟩,fun a O e => ?_,r.base,?_,r.LB,r.LH,r.cel,r.os,r.gens⟩
  · obtain ⟨o',h,k⟩ := r.ob a O e
    exact ⟨o',hk _ _ h,k⟩
  · obtain ⟨m,h,k⟩ := r.loc
    exact ⟨m,h.keeps hk,k⟩
private theorem R.noneH (r : R c B env ρ H s) {a : Addr} (ha : s.heap.objs.size ≤ a) : H a = none := by
  cases q : H a with
  | none => rfl
  | some O => exact absurd (r.lt q) (Nat.not_lt.mpr ha)
private theorem R.noneB (r : R c B env ρ H s) {a : Addr} (ha : s.heap.objs.size ≤ a) : B a = none := by
  cases q : B a with
  | none => rfl
  | some o => exact absurd (Heap.lt_size (r.fz _ _ q).1) (Nat.not_lt.mpr ha)
private theorem R.grow (r : R c B env ρ H s) {h' : Heap} (hk : ∀ b o,s.heap.get? b = some o → h'.get? b = some o) {a : Addr} {o : Obj} {O : AO} (ha : s.heap.objs.size ≤ a) (hg : h'.get? a = some o) (h : OR c o O) {t : Nat} :
    R c B env ρ (H.set a O) { s with heap := h',toks := t } := by
  have r' := r.more hk (t := t)
  have hn := r.noneH ha
  have hb := r.noneB ha
  refine ⟨fun b o' e => ⟨(r'.fz b o' e).1,?_⟩,fun b O' e => ?_,r.base,r'.loc,r.LB,?_,r.cel,r.os,r.gens⟩
  · unfold Hp.set
    rw [if_neg]
    · exact (r.fz b o' e).2
    · rintro rfl; rw [hb] at e; cases e
  · unfold Hp.set at e
    split at e
    · rename_i q; subst q; cases e
      exact ⟨o,hg,h⟩
    · exact r'.ob b O' e
  · unfold Hp.set
    rw [if_neg]
    · exact r.LH
    · obtain ⟨m,hm,_⟩ := r.loc
      exact Nat.ne_of_lt (Nat.lt_of_lt_of_le hm.lt ha)
noncomputable def Fz.put (B : Fz) (a : Addr) (o : Obj) : Fz := fun b => if b = a then some o else B b
private theorem R.freeze (r : R c B env ρ H s) {a : Addr} {o : Obj} (ha : s.heap.get? a = some o) (hH : H a = none) (hL : a ≠ env.locals) (hB : B a = none) : R c (B.put a o) env ρ H s := by
  refine ⟨fun b o' e => ?_,r.ob,fun b o' e => ?_,r.loc,?_,r.LH,r.cel,r.os,r.gens⟩
  · unfold Fz.put at e
    split at e
    · rename_i q; subst q; cases e; exact ⟨ha,hH⟩
    · exact r.fz b o' e
  · unfold Fz.put
    rw [if_neg]
    · exact r.base b o' e
    · rintro rfl
      rw [r.base _ _ e] at hB; cases hB
  · unfold Fz.put; rw [if_neg (Ne.symm hL)]; exact r.LB
end
end Mine
end
section
open PySem PySem.W PyProof.Rows
namespace Mine
section
variable {prog : Program} {w : World} {A : Around} {E : Value → Shared → Prop} {s : Shared} {Q : Value → Shared → Prop}

noncomputable def opOf : Op → Operator
  | .add => .Add | .sub => .Sub | .mod => .Mod | .fdiv => .FloorDiv
noncomputable def cmOf : Cm → CmpOp
  | .eq => .Eq | .ne => .NotEq | .lt => .Lt | .le => .LtE | .gt => .Gt | .ge => .GtE | .is_ => .Is | .isnot => .IsNot

private theorem beq_dec {α : Type} [BEq α] [LawfulBEq α] [DecidableEq α] (a b : α) : (a == b) = decide (a = b) := by by_cases h : a = b <;> simp [h]
private theorem bin_snd {op : Op} {d d' r : D} {v v' : Value} (h : binop op d d' = some r) (hv : VR v d) (hv' : VR v' d') (k : ∀ u tk,VR u r → Q u { s with toks := tk }) : wpAny (model prog w) A (binaryOp (opOf op) v v') Q E s := by
  rcases two_i h with ⟨a,b,rfl,rfl,h⟩ | ⟨a,b,rfl,rfl,h⟩ | ⟨a,b,rfl,rfl,h⟩
  · obtain ⟨t,rfl⟩ := hv.int
    obtain ⟨u,rfl⟩ := hv'.int
    cases op with
    | add => cases h; exact P.add_int (k _ _ rfl)
    | sub => cases h; exact P.sub_int (k _ _ rfl)
    | mod =>
      replace h : (if 0 < b ∧ b.toNat < 2000000 then some (D.int (a.fmod b)) else none) = some r := h
      split at h
      · rename_i hb; cases h
        exact PyProof.Rows.mod_int (by omega) (k _ _ rfl)
      · cases h
    | fdiv =>
      replace h : (if 0 < b ∧ b.toNat < 2000000 then some (D.int (a.fdiv b)) else none) = some r := h
      split at h
      · rename_i hb; cases h
        exact PyProof.Rows.floordiv_int (by omega) (k _ _ rfl) (.inl (PyProof.noPylong_small (by omega)))
      · cases h
  · obtain ⟨t,rfl⟩ := hv.str
    obtain ⟨u,rfl⟩ := hv'.str
    cases op with
    | add =>
      replace h : (if a.length + b.length ≤ big then some (D.str (a ++ b)) else none) = some r := h
      split at h
      · rename_i hb; cases h
        refine PyProof.Rows.add_str (fun t' tk => k _ _ ?_) ?_
        · show some (D.str ((Str.append _ _).cps.toList)) = _
          simp [Str.append]
        · unfold Str.length sizeLine
          simp only [List.size_toArray]
          unfold big at hb
          omega
      · cases h
    | _ => cases h
  · cases h

private theorem none_eq {v : Value} {d : D} (hv : VR v d) : (v == Value.none) = decide (d = .none) := by
  cases v <;> cases hv <;> first | rfl | (simp; done)
private theorem cmp_snd {op : Cm} {d d' : D} {b : Bool} {v v' : Value} (h : cmpop op d d' = some b) (hv : VR v d) (hv' : VR v' d') (k : Q (.bool b) s) : wpAny (model prog w) A (compareOp (cmOf op) v v') Q E s := by
  cases op with
  | eq =>
    rcases two_i h with ⟨x,y,rfl,rfl,h⟩ | ⟨x,y,rfl,rfl,h⟩ | ⟨x,y,rfl,rfl,h⟩
    · cases h
      obtain ⟨t,rfl⟩ := hv.int
      obtain ⟨u,rfl⟩ := hv'.int
      refine P.eq_int ?_
      rw [beq_dec]
      exact k
    · cases h
      obtain ⟨t,rfl⟩ := hv.str
      obtain ⟨u,rfl⟩ := hv'.str
      refine P.eq_str ?_
      dsimp only
      rw [beq_dec]
      exact k
    · cases h
  | ne =>
    rcases two_i h with ⟨x,y,rfl,rfl,h⟩ | ⟨x,y,rfl,rfl,h⟩ | ⟨x,y,rfl,rfl,h⟩
    · cases h
      obtain ⟨t,rfl⟩ := hv.int
      obtain ⟨u,rfl⟩ := hv'.int
      refine P.ne_int ?_
      rw [bne,beq_dec]
      exact k
    · cases h
      obtain ⟨t,rfl⟩ := hv.str
      obtain ⟨u,rfl⟩ := hv'.str
      refine P.ne_str ?_
      dsimp only
      rw [bne,beq_dec]
      exact k
    · cases h
      cases hv.bool
      cases hv'.bool
      refine PyProof.Rows.ne_bool ?_
      have : (x != y) = !decide (x = y) := by cases x <;> cases y <;> rfl
      rw [this]; exact k
  | lt =>
    rcases two_i h with ⟨x,y,rfl,rfl,h⟩ | ⟨x,y,rfl,rfl,h⟩ | ⟨x,y,rfl,rfl,h⟩
    · cases h
      obtain ⟨t,rfl⟩ := hv.int
      obtain ⟨u,rfl⟩ := hv'.int
      exact P.lt_int k
    · cases h
      obtain ⟨t,rfl⟩ := hv.str
      obtain ⟨u,rfl⟩ := hv'.str
      exact P.lt_str k
    · cases h
  | le =>
    rcases two_i h with ⟨x,y,rfl,rfl,h⟩ | ⟨x,y,rfl,rfl,h⟩ | ⟨x,y,rfl,rfl,h⟩
    · cases h
      obtain ⟨t,rfl⟩ := hv.int
      obtain ⟨u,rfl⟩ := hv'.int
      exact P.le_int k
    · cases h
      obtain ⟨t,rfl⟩ := hv.str
      obtain ⟨u,rfl⟩ := hv'.str
      exact P.le_str k
    · cases h
  | gt =>
    rcases two_i h with ⟨x,y,rfl,rfl,h⟩ | ⟨x,y,rfl,rfl,h⟩ | ⟨x,y,rfl,rfl,h⟩
    · cases h
      obtain ⟨t,rfl⟩ := hv.int
      obtain ⟨u,rfl⟩ := hv'.int
      exact P.gt_int k
    · cases h
    · cases h
  | ge =>
    rcases two_i h with ⟨x,y,rfl,rfl,h⟩ | ⟨x,y,rfl,rfl,h⟩ | ⟨x,y,rfl,rfl,h⟩
    · cases h
      obtain ⟨t,rfl⟩ := hv.int
      obtain ⟨u,rfl⟩ := hv'.int
      exact P.ge_int k
    · cases h
    · cases h
  | is_ =>
    obtain ⟨rfl,h⟩ := oneN_i h
    cases h
    cases hv'.none
    refine wpAny_is_plain (by cases v <;> first | rfl | cases hv) ?_
    rw [none_eq hv]; exact k
  | isnot =>
    obtain ⟨rfl,h⟩ := oneN_i h
    cases h
    cases hv'.none
    refine wpAny_isNot_plain (by cases v <;> first | rfl | cases hv) ?_
    rw [none_eq hv]; exact k

private theorem truthy_snd {b : Bool} {v : Value} {Q : Bool → Shared → Prop} (hv : VR v (.bool b)) (k : Q b s) : wpAny (model prog w) A (truthy v) Q E s := by
  cases hv.bool
  exact wpAny_truthy_bool k
end
end Mine
end
section
open PySem PySem.W PyProof.Rows
namespace Mine
section
variable {α : Type}
noncomputable def o1 (l : List α) (F : α → Bool) : Bool := match l with | [x] => F x | _ => false
private theorem o1_i {l : List α} {F : α → Bool} (h : o1 l F = true) : ∃ x,l = [x] ∧ F x = true := by
  match l,h with | [x],h => exact ⟨x,rfl,h⟩
noncomputable def o2 (l : List α) (F : α → α → Bool) : Bool := match l with | [x,y] => F x y | _ => false
private theorem o2_i {l : List α} {F : α → α → Bool} (h : o2 l F = true) : ∃ x y,l = [x,y] ∧ F x y = true := by
  match l,h with | [x,y],h => exact ⟨x,y,rfl,h⟩
noncomputable def oC (l : List α) (F : α → List α → Bool) : Bool := match l with | x :: r => F x r | [] => false
private theorem oC_i {l : List α} {F : α → List α → Bool} (h : oC l F = true) : ∃ x r,l = x :: r ∧ F x r = true := by
  match l,h with | x :: r,h => exact ⟨x,r,rfl,h⟩
noncomputable def o0 (l : List α) : Bool := match l with | [] => true | _ :: _ => false
private theorem o0_i {l : List α} (h : o0 l = true) : l = [] := by
  match l,h with | [],h => rfl
noncomputable def oS (o : Option α) (F : α → Bool) : Bool := match o with | some x => F x | none => false
private theorem oS_i {o : Option α} {F : α → Bool} (h : oS o F = true) : ∃ x,o = some x ∧ F x = true := by
  match o,h with | some x,h => exact ⟨x,rfl,h⟩
noncomputable def oN (o : Option α) : Bool := match o with | some _ => false | none => true
private theorem oN_i {o : Option α} (h : oN o = true) : o = none := by
  match o,h with | none,h => rfl
end
noncomputable def k_none (e : Const) (F : Bool) : Bool := Nat.beq e.ctorIdx 0 && PySem.Const.casesOn (motive := fun u_ => Bool) e F (fun u_ => false) (fun u_ => false) (fun u_ => false) (fun u_ u_ => false) (fun u_ => false) (fun u_ => false) false
noncomputable def k_noneR (e : Const) (F : Bool) : Prop := e = .none ∧ F = true
private theorem k_none_i {e : Const} {F : Bool} (h : k_none e F = true) : k_noneR e F :=
  PySem.Const.none.elim (motive := fun e => k_none e F = true → k_noneR e F) e (Nat.eq_of_beq_eq_true (Bool.and_eq_true_iff.mp h).1) (fun h => ⟨rfl,(Bool.and_eq_true_iff.mp h).2⟩) h
noncomputable def k_bool (e : Const) (F : Bool → Bool) : Bool := Nat.beq e.ctorIdx 1 && PySem.Const.casesOn (motive := fun u_ => Bool) e false (F) (fun u_ => false) (fun u_ => false) (fun u_ u_ => false) (fun u_ => false) (fun u_ => false) false
noncomputable def k_boolR (e : Const) (F : Bool → Bool) : Prop := ∃ x0,e = .bool x0 ∧ F x0 = true
private theorem k_bool_i {e : Const} {F : Bool → Bool} (h : k_bool e F = true) : k_boolR e F :=
  PySem.Const.bool.elim (motive := fun e => k_bool e F = true → k_boolR e F) e (Nat.eq_of_beq_eq_true (Bool.and_eq_true_iff.mp h).1) (fun x0 h => ⟨x0,rfl,(Bool.and_eq_true_iff.mp h).2⟩) h
noncomputable def k_int (e : Const) (F : Int → Bool) : Bool := Nat.beq e.ctorIdx 2 && PySem.Const.casesOn (motive := fun u_ => Bool) e false (fun u_ => false) (F) (fun u_ => false) (fun u_ u_ => false) (fun u_ => false) (fun u_ => false) false
noncomputable def k_intR (e : Const) (F : Int → Bool) : Prop := ∃ x0,e = .int x0 ∧ F x0 = true
private theorem k_int_i {e : Const} {F : Int → Bool} (h : k_int e F = true) : k_intR e F :=
  PySem.Const.int.elim (motive := fun e => k_int e F = true → k_intR e F) e (Nat.eq_of_beq_eq_true (Bool.and_eq_true_iff.mp h).1) (fun x0 h => ⟨x0,rfl,(Bool.and_eq_true_iff.mp h).2⟩) h
noncomputable def k_str (e : Const) (F : Str → Bool) : Bool := Nat.beq e.ctorIdx 5 && PySem.Const.casesOn (motive := fun u_ => Bool) e false (fun u_ => false) (fun u_ => false) (fun u_ => false) (fun u_ u_ => false) (F) (fun u_ => false) false
noncomputable def k_strR (e : Const) (F : Str → Bool) : Prop := ∃ x0,e = .str x0 ∧ F x0 = true
private theorem k_str_i {e : Const} {F : Str → Bool} (h : k_str e F = true) : k_strR e F :=
  PySem.Const.str.elim (motive := fun e => k_str e F = true → k_strR e F) e (Nat.eq_of_beq_eq_true (Bool.and_eq_true_iff.mp h).1) (fun x0 h => ⟨x0,rfl,(Bool.and_eq_true_iff.mp h).2⟩) h
noncomputable def e_BoolOp (e : PySem.Expr) (F : BoolOp → List PySem.Expr → Pos → Bool) : Bool := Nat.beq e.ctorIdx 0 && PySem.Expr.casesOn (motive_1 := fun u_ => Bool) e (F) (fun u_ u_ u_ => false) (fun u_ u_ u_ u_ => false) (fun u_ u_ u_ => false) (fun u_ u_ u_ u_ => false) (fun u_ u_ u_ u_ => false) (fun u_ u_ u_ => false) (fun u_ u_ u_ => false) (fun u_ u_ u_ u_ => false) (fun u_ u_ u_ u_ => false) (fun u_ u_ u_ u_ u_ => false) (fun u_ u_ u_ u_ => false) (fun u_ u_ => false) (fun u_ u_ => false) (fun u_ u_ => false) (fun u_ u_ u_ u_ => false) (fun u_ u_ u_ u_ => false) (fun u_ u_ u_ u_ => false) (fun u_ u_ => false) (fun u_ u_ u_ => false) (fun u_ u_ u_ => false) (fun u_ u_ u_ => false) (fun u_ u_ => false) (fun u_ u_ => false) (fun u_ u_ => false) (fun u_ u_ u_ => false) (fun u_ u_ u_ u_ => false)
noncomputable def e_BoolOpR (e : PySem.Expr) (F : BoolOp → List PySem.Expr → Pos → Bool) : Prop := ∃ x0 x1 x2,e = .BoolOp x0 x1 x2 ∧ F x0 x1 x2 = true
private theorem e_BoolOp_i {e : PySem.Expr} {F : BoolOp → List PySem.Expr → Pos → Bool} (h : e_BoolOp e F = true) : e_BoolOpR e F :=
  PySem.Expr.BoolOp.elim (motive_1 := fun e => e_BoolOp e F = true → e_BoolOpR e F) e (Nat.eq_of_beq_eq_true (Bool.and_eq_true_iff.mp h).1) (fun x0 x1 x2 h => ⟨x0,x1,x2,rfl,(Bool.and_eq_true_iff.mp h).2⟩) h
noncomputable def e_BinOp (e : PySem.Expr) (F : PySem.Expr → Operator → PySem.Expr → Pos → Bool) : Bool := Nat.beq e.ctorIdx 2 && PySem.Expr.casesOn (motive_1 := fun u_ => Bool) e (fun u_ u_ u_ => false) (fun u_ u_ u_ => false) (F) (fun u_ u_ u_ => false) (fun u_ u_ u_ u_ => false) (fun u_ u_ u_ u_ => false) (fun u_ u_ u_ => false) (fun u_ u_ u_ => false) (fun u_ u_ u_ u_ => false) (fun u_ u_ u_ u_ => false) (fun u_ u_ u_ u_ u_ => false) (fun u_ u_ u_ u_ => false) (fun u_ u_ => false) (fun u_ u_ => false) (fun u_ u_ => false) (fun u_ u_ u_ u_ => false) (fun u_ u_ u_ u_ => false) (fun u_ u_ u_ u_ => false) (fun u_ u_ => false) (fun u_ u_ u_ => false) (fun u_ u_ u_ => false) (fun u_ u_ u_ => false) (fun u_ u_ => false) (fun u_ u_ => false) (fun u_ u_ => false) (fun u_ u_ u_ => false) (fun u_ u_ u_ u_ => false)
noncomputable def e_BinOpR (e : PySem.Expr) (F : PySem.Expr → Operator → PySem.Expr → Pos → Bool) : Prop := ∃ x0 x1 x2 x3,e = .BinOp x0 x1 x2 x3 ∧ F x0 x1 x2 x3 = true
private theorem e_BinOp_i {e : PySem.Expr} {F : PySem.Expr → Operator → PySem.Expr → Pos → Bool} (h : e_BinOp e F = true) : e_BinOpR e F :=
  PySem.Expr.BinOp.elim (motive_1 := fun e => e_BinOp e F = true → e_BinOpR e F) e (Nat.eq_of_beq_eq_true (Bool.and_eq_true_iff.mp h).1) (fun x0 x1 x2 x3 h => ⟨x0,x1,x2,x3,rfl,(Bool.and_eq_true_iff.mp h).2⟩) h
noncomputable def e_UnaryOp (e : PySem.Expr) (F : UnaryOp → PySem.Expr → Pos → Bool) : Bool := Nat.beq e.ctorIdx 3 && PySem.Expr.casesOn (motive_1 := fun u_ => Bool) e (fun u_ u_ u_ => false) (fun u_ u_ u_ => false) (fun u_ u_ u_ u_ => false) (F) (fun u_ u_ u_ u_ => false) (fun u_ u_ u_ u_ => false) (fun u_ u_ u_ => false) (fun u_ u_ u_ => false) (fun u_ u_ u_ u_ => false) (fun u_ u_ u_ u_ => false) (fun u_ u_ u_ u_ u_ => false) (fun u_ u_ u_ u_ => false) (fun u_ u_ => false) (fun u_ u_ => false) (fun u_ u_ => false) (fun u_ u_ u_ u_ => false) (fun u_ u_ u_ u_ => false) (fun u_ u_ u_ u_ => false) (fun u_ u_ => false) (fun u_ u_ u_ => false) (fun u_ u_ u_ => false) (fun u_ u_ u_ => false) (fun u_ u_ => false) (fun u_ u_ => false) (fun u_ u_ => false) (fun u_ u_ u_ => false) (fun u_ u_ u_ u_ => false)
noncomputable def e_UnaryOpR (e : PySem.Expr) (F : UnaryOp → PySem.Expr → Pos → Bool) : Prop := ∃ x0 x1 x2,e = .UnaryOp x0 x1 x2 ∧ F x0 x1 x2 = true
private theorem e_UnaryOp_i {e : PySem.Expr} {F : UnaryOp → PySem.Expr → Pos → Bool} (h : e_UnaryOp e F = true) : e_UnaryOpR e F :=
  PySem.Expr.UnaryOp.elim (motive_1 := fun e => e_UnaryOp e F = true → e_UnaryOpR e F) e (Nat.eq_of_beq_eq_true (Bool.and_eq_true_iff.mp h).1) (fun x0 x1 x2 h => ⟨x0,x1,x2,rfl,(Bool.and_eq_true_iff.mp h).2⟩) h
noncomputable def e_IfExp (e : PySem.Expr) (F : PySem.Expr → PySem.Expr → PySem.Expr → Pos → Bool) : Bool := Nat.beq e.ctorIdx 5 && PySem.Expr.casesOn (motive_1 := fun u_ => Bool) e (fun u_ u_ u_ => false) (fun u_ u_ u_ => false) (fun u_ u_ u_ u_ => false) (fun u_ u_ u_ => false) (fun u_ u_ u_ u_ => false) (F) (fun u_ u_ u_ => false) (fun u_ u_ u_ => false) (fun u_ u_ u_ u_ => false) (fun u_ u_ u_ u_ => false) (fun u_ u_ u_ u_ u_ => false) (fun u_ u_ u_ u_ => false) (fun u_ u_ => false) (fun u_ u_ => false) (fun u_ u_ => false) (fun u_ u_ u_ u_ => false) (fun u_ u_ u_ u_ => false) (fun u_ u_ u_ u_ => false) (fun u_ u_ => false) (fun u_ u_ u_ => false) (fun u_ u_ u_ => false) (fun u_ u_ u_ => false) (fun u_ u_ => false) (fun u_ u_ => false) (fun u_ u_ => false) (fun u_ u_ u_ => false) (fun u_ u_ u_ u_ => false)
noncomputable def e_IfExpR (e : PySem.Expr) (F : PySem.Expr → PySem.Expr → PySem.Expr → Pos → Bool) : Prop := ∃ x0 x1 x2 x3,e = .IfExp x0 x1 x2 x3 ∧ F x0 x1 x2 x3 = true
private theorem e_IfExp_i {e : PySem.Expr} {F : PySem.Expr → PySem.Expr → PySem.Expr → Pos → Bool} (h : e_IfExp e F = true) : e_IfExpR e F :=
  PySem.Expr.IfExp.elim (motive_1 := fun e => e_IfExp e F = true → e_IfExpR e F) e (Nat.eq_of_beq_eq_true (Bool.and_eq_true_iff.mp h).1) (fun x0 x1 x2 x3 h => ⟨x0,x1,x2,x3,rfl,(Bool.and_eq_true_iff.mp h).2⟩) h
noncomputable def e_Dict (e : PySem.Expr) (F : List (Option PySem.Expr) → List PySem.Expr → Pos → Bool) : Bool := Nat.beq e.ctorIdx 6 && PySem.Expr.casesOn (motive_1 := fun u_ => Bool) e (fun u_ u_ u_ => false) (fun u_ u_ u_ => false) (fun u_ u_ u_ u_ => false) (fun u_ u_ u_ => false) (fun u_ u_ u_ u_ => false) (fun u_ u_ u_ u_ => false) (F) (fun u_ u_ u_ => false) (fun u_ u_ u_ u_ => false) (fun u_ u_ u_ u_ => false) (fun u_ u_ u_ u_ u_ => false) (fun u_ u_ u_ u_ => false) (fun u_ u_ => false) (fun u_ u_ => false) (fun u_ u_ => false) (fun u_ u_ u_ u_ => false) (fun u_ u_ u_ u_ => false) (fun u_ u_ u_ u_ => false) (fun u_ u_ => false) (fun u_ u_ u_ => false) (fun u_ u_ u_ => false) (fun u_ u_ u_ => false) (fun u_ u_ => false) (fun u_ u_ => false) (fun u_ u_ => false) (fun u_ u_ u_ => false) (fun u_ u_ u_ u_ => false)
noncomputable def e_DictR (e : PySem.Expr) (F : List (Option PySem.Expr) → List PySem.Expr → Pos → Bool) : Prop := ∃ x0 x1 x2,e = .Dict x0 x1 x2 ∧ F x0 x1 x2 = true
private theorem e_Dict_i {e : PySem.Expr} {F : List (Option PySem.Expr) → List PySem.Expr → Pos → Bool} (h : e_Dict e F = true) : e_DictR e F :=
  PySem.Expr.Dict.elim (motive_1 := fun e => e_Dict e F = true → e_DictR e F) e (Nat.eq_of_beq_eq_true (Bool.and_eq_true_iff.mp h).1) (fun x0 x1 x2 h => ⟨x0,x1,x2,rfl,(Bool.and_eq_true_iff.mp h).2⟩) h
noncomputable def e_ListComp (e : PySem.Expr) (F : PySem.Expr → List Comprehension → Scope → Pos → Bool) : Bool := Nat.beq e.ctorIdx 8 && PySem.Expr.casesOn (motive_1 := fun u_ => Bool) e (fun u_ u_ u_ => false) (fun u_ u_ u_ => false) (fun u_ u_ u_ u_ => false) (fun u_ u_ u_ => false) (fun u_ u_ u_ u_ => false) (fun u_ u_ u_ u_ => false) (fun u_ u_ u_ => false) (fun u_ u_ u_ => false) (F) (fun u_ u_ u_ u_ => false) (fun u_ u_ u_ u_ u_ => false) (fun u_ u_ u_ u_ => false) (fun u_ u_ => false) (fun u_ u_ => false) (fun u_ u_ => false) (fun u_ u_ u_ u_ => false) (fun u_ u_ u_ u_ => false) (fun u_ u_ u_ u_ => false) (fun u_ u_ => false) (fun u_ u_ u_ => false) (fun u_ u_ u_ => false) (fun u_ u_ u_ => false) (fun u_ u_ => false) (fun u_ u_ => false) (fun u_ u_ => false) (fun u_ u_ u_ => false) (fun u_ u_ u_ u_ => false)
noncomputable def e_ListCompR (e : PySem.Expr) (F : PySem.Expr → List Comprehension → Scope → Pos → Bool) : Prop := ∃ x0 x1 x2 x3,e = .ListComp x0 x1 x2 x3 ∧ F x0 x1 x2 x3 = true
private theorem e_ListComp_i {e : PySem.Expr} {F : PySem.Expr → List Comprehension → Scope → Pos → Bool} (h : e_ListComp e F = true) : e_ListCompR e F :=
  PySem.Expr.ListComp.elim (motive_1 := fun e => e_ListComp e F = true → e_ListCompR e F) e (Nat.eq_of_beq_eq_true (Bool.and_eq_true_iff.mp h).1) (fun x0 x1 x2 x3 h => ⟨x0,x1,x2,x3,rfl,(Bool.and_eq_true_iff.mp h).2⟩) h
noncomputable def e_Compare (e : PySem.Expr) (F : PySem.Expr → List CmpOp → List PySem.Expr → Pos → Bool) : Bool := Nat.beq e.ctorIdx 15 && PySem.Expr.casesOn (motive_1 := fun u_ => Bool) e (fun u_ u_ u_ => false) (fun u_ u_ u_ => false) (fun u_ u_ u_ u_ => false) (fun u_ u_ u_ => false) (fun u_ u_ u_ u_ => false) (fun u_ u_ u_ u_ => false) (fun u_ u_ u_ => false) (fun u_ u_ u_ => false) (fun u_ u_ u_ u_ => false) (fun u_ u_ u_ u_ => false) (fun u_ u_ u_ u_ u_ => false) (fun u_ u_ u_ u_ => false) (fun u_ u_ => false) (fun u_ u_ => false) (fun u_ u_ => false) (F) (fun u_ u_ u_ u_ => false) (fun u_ u_ u_ u_ => false) (fun u_ u_ => false) (fun u_ u_ u_ => false) (fun u_ u_ u_ => false) (fun u_ u_ u_ => false) (fun u_ u_ => false) (fun u_ u_ => false) (fun u_ u_ => false) (fun u_ u_ u_ => false) (fun u_ u_ u_ u_ => false)
noncomputable def e_CompareR (e : PySem.Expr) (F : PySem.Expr → List CmpOp → List PySem.Expr → Pos → Bool) : Prop := ∃ x0 x1 x2 x3,e = .Compare x0 x1 x2 x3 ∧ F x0 x1 x2 x3 = true
private theorem e_Compare_i {e : PySem.Expr} {F : PySem.Expr → List CmpOp → List PySem.Expr → Pos → Bool} (h : e_Compare e F = true) : e_CompareR e F :=
  PySem.Expr.Compare.elim (motive_1 := fun e => e_Compare e F = true → e_CompareR e F) e (Nat.eq_of_beq_eq_true (Bool.and_eq_true_iff.mp h).1) (fun x0 x1 x2 x3 h => ⟨x0,x1,x2,x3,rfl,(Bool.and_eq_true_iff.mp h).2⟩) h
noncomputable def e_Call (e : PySem.Expr) (F : PySem.Expr → List PySem.Expr → List Keyword → Pos → Bool) : Bool := Nat.beq e.ctorIdx 16 && PySem.Expr.casesOn (motive_1 := fun u_ => Bool) e (fun u_ u_ u_ => false) (fun u_ u_ u_ => false) (fun u_ u_ u_ u_ => false) (fun u_ u_ u_ => false) (fun u_ u_ u_ u_ => false) (fun u_ u_ u_ u_ => false) (fun u_ u_ u_ => false) (fun u_ u_ u_ => false) (fun u_ u_ u_ u_ => false) (fun u_ u_ u_ u_ => false) (fun u_ u_ u_ u_ u_ => false) (fun u_ u_ u_ u_ => false) (fun u_ u_ => false) (fun u_ u_ => false) (fun u_ u_ => false) (fun u_ u_ u_ u_ => false) (F) (fun u_ u_ u_ u_ => false) (fun u_ u_ => false) (fun u_ u_ u_ => false) (fun u_ u_ u_ => false) (fun u_ u_ u_ => false) (fun u_ u_ => false) (fun u_ u_ => false) (fun u_ u_ => false) (fun u_ u_ u_ => false) (fun u_ u_ u_ u_ => false)
noncomputable def e_CallR (e : PySem.Expr) (F : PySem.Expr → List PySem.Expr → List Keyword → Pos → Bool) : Prop := ∃ x0 x1 x2 x3,e = .Call x0 x1 x2 x3 ∧ F x0 x1 x2 x3 = true
private theorem e_Call_i {e : PySem.Expr} {F : PySem.Expr → List PySem.Expr → List Keyword → Pos → Bool} (h : e_Call e F = true) : e_CallR e F :=
  PySem.Expr.Call.elim (motive_1 := fun e => e_Call e F = true → e_CallR e F) e (Nat.eq_of_beq_eq_true (Bool.and_eq_true_iff.mp h).1) (fun x0 x1 x2 x3 h => ⟨x0,x1,x2,x3,rfl,(Bool.and_eq_true_iff.mp h).2⟩) h
noncomputable def e_Constant (e : PySem.Expr) (F : Const → Nat → Pos → Bool) : Bool := Nat.beq e.ctorIdx 19 && PySem.Expr.casesOn (motive_1 := fun u_ => Bool) e (fun u_ u_ u_ => false) (fun u_ u_ u_ => false) (fun u_ u_ u_ u_ => false) (fun u_ u_ u_ => false) (fun u_ u_ u_ u_ => false) (fun u_ u_ u_ u_ => false) (fun u_ u_ u_ => false) (fun u_ u_ u_ => false) (fun u_ u_ u_ u_ => false) (fun u_ u_ u_ u_ => false) (fun u_ u_ u_ u_ u_ => false) (fun u_ u_ u_ u_ => false) (fun u_ u_ => false) (fun u_ u_ => false) (fun u_ u_ => false) (fun u_ u_ u_ u_ => false) (fun u_ u_ u_ u_ => false) (fun u_ u_ u_ u_ => false) (fun u_ u_ => false) (F) (fun u_ u_ u_ => false) (fun u_ u_ u_ => false) (fun u_ u_ => false) (fun u_ u_ => false) (fun u_ u_ => false) (fun u_ u_ u_ => false) (fun u_ u_ u_ u_ => false)
noncomputable def e_ConstantR (e : PySem.Expr) (F : Const → Nat → Pos → Bool) : Prop := ∃ x0 x1 x2,e = .Constant x0 x1 x2 ∧ F x0 x1 x2 = true
private theorem e_Constant_i {e : PySem.Expr} {F : Const → Nat → Pos → Bool} (h : e_Constant e F = true) : e_ConstantR e F :=
  PySem.Expr.Constant.elim (motive_1 := fun e => e_Constant e F = true → e_ConstantR e F) e (Nat.eq_of_beq_eq_true (Bool.and_eq_true_iff.mp h).1) (fun x0 x1 x2 h => ⟨x0,x1,x2,rfl,(Bool.and_eq_true_iff.mp h).2⟩) h
noncomputable def e_Attribute (e : PySem.Expr) (F : PySem.Expr → Str → Pos → Bool) : Bool := Nat.beq e.ctorIdx 20 && PySem.Expr.casesOn (motive_1 := fun u_ => Bool) e (fun u_ u_ u_ => false) (fun u_ u_ u_ => false) (fun u_ u_ u_ u_ => false) (fun u_ u_ u_ => false) (fun u_ u_ u_ u_ => false) (fun u_ u_ u_ u_ => false) (fun u_ u_ u_ => false) (fun u_ u_ u_ => false) (fun u_ u_ u_ u_ => false) (fun u_ u_ u_ u_ => false) (fun u_ u_ u_ u_ u_ => false) (fun u_ u_ u_ u_ => false) (fun u_ u_ => false) (fun u_ u_ => false) (fun u_ u_ => false) (fun u_ u_ u_ u_ => false) (fun u_ u_ u_ u_ => false) (fun u_ u_ u_ u_ => false) (fun u_ u_ => false) (fun u_ u_ u_ => false) (F) (fun u_ u_ u_ => false) (fun u_ u_ => false) (fun u_ u_ => false) (fun u_ u_ => false) (fun u_ u_ u_ => false) (fun u_ u_ u_ u_ => false)
noncomputable def e_AttributeR (e : PySem.Expr) (F : PySem.Expr → Str → Pos → Bool) : Prop := ∃ x0 x1 x2,e = .Attribute x0 x1 x2 ∧ F x0 x1 x2 = true
private theorem e_Attribute_i {e : PySem.Expr} {F : PySem.Expr → Str → Pos → Bool} (h : e_Attribute e F = true) : e_AttributeR e F :=
  PySem.Expr.Attribute.elim (motive_1 := fun e => e_Attribute e F = true → e_AttributeR e F) e (Nat.eq_of_beq_eq_true (Bool.and_eq_true_iff.mp h).1) (fun x0 x1 x2 h => ⟨x0,x1,x2,rfl,(Bool.and_eq_true_iff.mp h).2⟩) h
noncomputable def e_Subscript (e : PySem.Expr) (F : PySem.Expr → PySem.Expr → Pos → Bool) : Bool := Nat.beq e.ctorIdx 21 && PySem.Expr.casesOn (motive_1 := fun u_ => Bool) e (fun u_ u_ u_ => false) (fun u_ u_ u_ => false) (fun u_ u_ u_ u_ => false) (fun u_ u_ u_ => false) (fun u_ u_ u_ u_ => false) (fun u_ u_ u_ u_ => false) (fun u_ u_ u_ => false) (fun u_ u_ u_ => false) (fun u_ u_ u_ u_ => false) (fun u_ u_ u_ u_ => false) (fun u_ u_ u_ u_ u_ => false) (fun u_ u_ u_ u_ => false) (fun u_ u_ => false) (fun u_ u_ => false) (fun u_ u_ => false) (fun u_ u_ u_ u_ => false) (fun u_ u_ u_ u_ => false) (fun u_ u_ u_ u_ => false) (fun u_ u_ => false) (fun u_ u_ u_ => false) (fun u_ u_ u_ => false) (F) (fun u_ u_ => false) (fun u_ u_ => false) (fun u_ u_ => false) (fun u_ u_ u_ => false) (fun u_ u_ u_ u_ => false)
noncomputable def e_SubscriptR (e : PySem.Expr) (F : PySem.Expr → PySem.Expr → Pos → Bool) : Prop := ∃ x0 x1 x2,e = .Subscript x0 x1 x2 ∧ F x0 x1 x2 = true
private theorem e_Subscript_i {e : PySem.Expr} {F : PySem.Expr → PySem.Expr → Pos → Bool} (h : e_Subscript e F = true) : e_SubscriptR e F :=
  PySem.Expr.Subscript.elim (motive_1 := fun e => e_Subscript e F = true → e_SubscriptR e F) e (Nat.eq_of_beq_eq_true (Bool.and_eq_true_iff.mp h).1) (fun x0 x1 x2 h => ⟨x0,x1,x2,rfl,(Bool.and_eq_true_iff.mp h).2⟩) h
noncomputable def e_Name (e : PySem.Expr) (F : Str → Pos → Bool) : Bool := Nat.beq e.ctorIdx 23 && PySem.Expr.casesOn (motive_1 := fun u_ => Bool) e (fun u_ u_ u_ => false) (fun u_ u_ u_ => false) (fun u_ u_ u_ u_ => false) (fun u_ u_ u_ => false) (fun u_ u_ u_ u_ => false) (fun u_ u_ u_ u_ => false) (fun u_ u_ u_ => false) (fun u_ u_ u_ => false) (fun u_ u_ u_ u_ => false) (fun u_ u_ u_ u_ => false) (fun u_ u_ u_ u_ u_ => false) (fun u_ u_ u_ u_ => false) (fun u_ u_ => false) (fun u_ u_ => false) (fun u_ u_ => false) (fun u_ u_ u_ u_ => false) (fun u_ u_ u_ u_ => false) (fun u_ u_ u_ u_ => false) (fun u_ u_ => false) (fun u_ u_ u_ => false) (fun u_ u_ u_ => false) (fun u_ u_ u_ => false) (fun u_ u_ => false) (F) (fun u_ u_ => false) (fun u_ u_ u_ => false) (fun u_ u_ u_ u_ => false)
noncomputable def e_NameR (e : PySem.Expr) (F : Str → Pos → Bool) : Prop := ∃ x0 x1,e = .Name x0 x1 ∧ F x0 x1 = true
private theorem e_Name_i {e : PySem.Expr} {F : Str → Pos → Bool} (h : e_Name e F = true) : e_NameR e F :=
  PySem.Expr.Name.elim (motive_1 := fun e => e_Name e F = true → e_NameR e F) e (Nat.eq_of_beq_eq_true (Bool.and_eq_true_iff.mp h).1) (fun x0 x1 h => ⟨x0,x1,rfl,(Bool.and_eq_true_iff.mp h).2⟩) h
noncomputable def e_List (e : PySem.Expr) (F : List PySem.Expr → Pos → Bool) : Bool := Nat.beq e.ctorIdx 24 && PySem.Expr.casesOn (motive_1 := fun u_ => Bool) e (fun u_ u_ u_ => false) (fun u_ u_ u_ => false) (fun u_ u_ u_ u_ => false) (fun u_ u_ u_ => false) (fun u_ u_ u_ u_ => false) (fun u_ u_ u_ u_ => false) (fun u_ u_ u_ => false) (fun u_ u_ u_ => false) (fun u_ u_ u_ u_ => false) (fun u_ u_ u_ u_ => false) (fun u_ u_ u_ u_ u_ => false) (fun u_ u_ u_ u_ => false) (fun u_ u_ => false) (fun u_ u_ => false) (fun u_ u_ => false) (fun u_ u_ u_ u_ => false) (fun u_ u_ u_ u_ => false) (fun u_ u_ u_ u_ => false) (fun u_ u_ => false) (fun u_ u_ u_ => false) (fun u_ u_ u_ => false) (fun u_ u_ u_ => false) (fun u_ u_ => false) (fun u_ u_ => false) (F) (fun u_ u_ u_ => false) (fun u_ u_ u_ u_ => false)
noncomputable def e_ListR (e : PySem.Expr) (F : List PySem.Expr → Pos → Bool) : Prop := ∃ x0 x1,e = .List x0 x1 ∧ F x0 x1 = true
private theorem e_List_i {e : PySem.Expr} {F : List PySem.Expr → Pos → Bool} (h : e_List e F = true) : e_ListR e F :=
  PySem.Expr.List.elim (motive_1 := fun e => e_List e F = true → e_ListR e F) e (Nat.eq_of_beq_eq_true (Bool.and_eq_true_iff.mp h).1) (fun x0 x1 h => ⟨x0,x1,rfl,(Bool.and_eq_true_iff.mp h).2⟩) h
noncomputable def e_Tuple (e : PySem.Expr) (F : List PySem.Expr → Nat → Pos → Bool) : Bool := Nat.beq e.ctorIdx 25 && PySem.Expr.casesOn (motive_1 := fun u_ => Bool) e (fun u_ u_ u_ => false) (fun u_ u_ u_ => false) (fun u_ u_ u_ u_ => false) (fun u_ u_ u_ => false) (fun u_ u_ u_ u_ => false) (fun u_ u_ u_ u_ => false) (fun u_ u_ u_ => false) (fun u_ u_ u_ => false) (fun u_ u_ u_ u_ => false) (fun u_ u_ u_ u_ => false) (fun u_ u_ u_ u_ u_ => false) (fun u_ u_ u_ u_ => false) (fun u_ u_ => false) (fun u_ u_ => false) (fun u_ u_ => false) (fun u_ u_ u_ u_ => false) (fun u_ u_ u_ u_ => false) (fun u_ u_ u_ u_ => false) (fun u_ u_ => false) (fun u_ u_ u_ => false) (fun u_ u_ u_ => false) (fun u_ u_ u_ => false) (fun u_ u_ => false) (fun u_ u_ => false) (fun u_ u_ => false) (F) (fun u_ u_ u_ u_ => false)
noncomputable def e_TupleR (e : PySem.Expr) (F : List PySem.Expr → Nat → Pos → Bool) : Prop := ∃ x0 x1 x2,e = .Tuple x0 x1 x2 ∧ F x0 x1 x2 = true
private theorem e_Tuple_i {e : PySem.Expr} {F : List PySem.Expr → Nat → Pos → Bool} (h : e_Tuple e F = true) : e_TupleR e F :=
  PySem.Expr.Tuple.elim (motive_1 := fun e => e_Tuple e F = true → e_TupleR e F) e (Nat.eq_of_beq_eq_true (Bool.and_eq_true_iff.mp h).1) (fun x0 x1 x2 h => ⟨x0,x1,x2,rfl,(Bool.and_eq_true_iff.mp h).2⟩) h
noncomputable def e_Slice (e : PySem.Expr) (F : Option PySem.Expr → Option PySem.Expr → Option PySem.Expr → Pos → Bool) : Bool := Nat.beq e.ctorIdx 26 && PySem.Expr.casesOn (motive_1 := fun u_ => Bool) e (fun u_ u_ u_ => false) (fun u_ u_ u_ => false) (fun u_ u_ u_ u_ => false) (fun u_ u_ u_ => false) (fun u_ u_ u_ u_ => false) (fun u_ u_ u_ u_ => false) (fun u_ u_ u_ => false) (fun u_ u_ u_ => false) (fun u_ u_ u_ u_ => false) (fun u_ u_ u_ u_ => false) (fun u_ u_ u_ u_ u_ => false) (fun u_ u_ u_ u_ => false) (fun u_ u_ => false) (fun u_ u_ => false) (fun u_ u_ => false) (fun u_ u_ u_ u_ => false) (fun u_ u_ u_ u_ => false) (fun u_ u_ u_ u_ => false) (fun u_ u_ => false) (fun u_ u_ u_ => false) (fun u_ u_ u_ => false) (fun u_ u_ u_ => false) (fun u_ u_ => false) (fun u_ u_ => false) (fun u_ u_ => false) (fun u_ u_ u_ => false) (F)
noncomputable def e_SliceR (e : PySem.Expr) (F : Option PySem.Expr → Option PySem.Expr → Option PySem.Expr → Pos → Bool) : Prop := ∃ x0 x1 x2 x3,e = .Slice x0 x1 x2 x3 ∧ F x0 x1 x2 x3 = true
private theorem e_Slice_i {e : PySem.Expr} {F : Option PySem.Expr → Option PySem.Expr → Option PySem.Expr → Pos → Bool} (h : e_Slice e F = true) : e_SliceR e F :=
  PySem.Expr.Slice.elim (motive_1 := fun e => e_Slice e F = true → e_SliceR e F) e (Nat.eq_of_beq_eq_true (Bool.and_eq_true_iff.mp h).1) (fun x0 x1 x2 x3 h => ⟨x0,x1,x2,x3,rfl,(Bool.and_eq_true_iff.mp h).2⟩) h
noncomputable def st_Return (e : PySem.Stmt) (F : Option PySem.Expr → Pos → Bool) : Bool := Nat.beq e.ctorIdx 3 && PySem.Stmt.casesOn (motive_2 := fun u_ => Bool) e (fun u_ u_ u_ u_ u_ u_ u_ u_ u_ u_ => false) (fun u_ u_ u_ u_ u_ u_ u_ u_ u_ u_ => false) (fun u_ u_ u_ u_ u_ u_ u_ u_ u_ u_ u_ => false) (F) (fun u_ u_ => false) (fun u_ u_ u_ => false) (fun u_ u_ u_ u_ u_ u_ u_ => false) (fun u_ u_ u_ u_ => false) (fun u_ u_ u_ u_ u_ => false) (fun u_ u_ u_ u_ u_ => false) (fun u_ u_ u_ u_ u_ => false) (fun u_ u_ u_ u_ => false) (fun u_ u_ u_ u_ => false) (fun u_ u_ u_ => false) (fun u_ u_ u_ => false) (fun u_ u_ u_ => false) (fun u_ u_ u_ => false) (fun u_ u_ u_ u_ u_ => false) (fun u_ u_ u_ u_ u_ => false) (fun u_ u_ u_ => false) (fun u_ u_ => false) (fun u_ u_ u_ u_ => false) (fun u_ u_ => false) (fun u_ u_ => false) (fun u_ u_ => false) (fun u_ => false) (fun u_ => false) (fun u_ => false)
noncomputable def st_ReturnR (e : PySem.Stmt) (F : Option PySem.Expr → Pos → Bool) : Prop := ∃ x0 x1,e = .Return x0 x1 ∧ F x0 x1 = true
private theorem st_Return_i {e : PySem.Stmt} {F : Option PySem.Expr → Pos → Bool} (h : st_Return e F = true) : st_ReturnR e F :=
  PySem.Stmt.Return.elim (motive_2 := fun e => st_Return e F = true → st_ReturnR e F) e (Nat.eq_of_beq_eq_true (Bool.and_eq_true_iff.mp h).1) (fun x0 x1 h => ⟨x0,x1,rfl,(Bool.and_eq_true_iff.mp h).2⟩) h
noncomputable def st_Assign (e : PySem.Stmt) (F : List PySem.Expr → PySem.Expr → Pos → Bool) : Bool := Nat.beq e.ctorIdx 5 && PySem.Stmt.casesOn (motive_2 := fun u_ => Bool) e (fun u_ u_ u_ u_ u_ u_ u_ u_ u_ u_ => false) (fun u_ u_ u_ u_ u_ u_ u_ u_ u_ u_ => false) (fun u_ u_ u_ u_ u_ u_ u_ u_ u_ u_ u_ => false) (fun u_ u_ => false) (fun u_ u_ => false) (F) (fun u_ u_ u_ u_ u_ u_ u_ => false) (fun u_ u_ u_ u_ => false) (fun u_ u_ u_ u_ u_ => false) (fun u_ u_ u_ u_ u_ => false) (fun u_ u_ u_ u_ u_ => false) (fun u_ u_ u_ u_ => false) (fun u_ u_ u_ u_ => false) (fun u_ u_ u_ => false) (fun u_ u_ u_ => false) (fun u_ u_ u_ => false) (fun u_ u_ u_ => false) (fun u_ u_ u_ u_ u_ => false) (fun u_ u_ u_ u_ u_ => false) (fun u_ u_ u_ => false) (fun u_ u_ => false) (fun u_ u_ u_ u_ => false) (fun u_ u_ => false) (fun u_ u_ => false) (fun u_ u_ => false) (fun u_ => false) (fun u_ => false) (fun u_ => false)
noncomputable def st_AssignR (e : PySem.Stmt) (F : List PySem.Expr → PySem.Expr → Pos → Bool) : Prop := ∃ x0 x1 x2,e = .Assign x0 x1 x2 ∧ F x0 x1 x2 = true
private theorem st_Assign_i {e : PySem.Stmt} {F : List PySem.Expr → PySem.Expr → Pos → Bool} (h : st_Assign e F = true) : st_AssignR e F :=
  PySem.Stmt.Assign.elim (motive_2 := fun e => st_Assign e F = true → st_AssignR e F) e (Nat.eq_of_beq_eq_true (Bool.and_eq_true_iff.mp h).1) (fun x0 x1 x2 h => ⟨x0,x1,x2,rfl,(Bool.and_eq_true_iff.mp h).2⟩) h
noncomputable def st_AugAssign (e : PySem.Stmt) (F : PySem.Expr → Operator → PySem.Expr → Pos → Bool) : Bool := Nat.beq e.ctorIdx 7 && PySem.Stmt.casesOn (motive_2 := fun u_ => Bool) e (fun u_ u_ u_ u_ u_ u_ u_ u_ u_ u_ => false) (fun u_ u_ u_ u_ u_ u_ u_ u_ u_ u_ => false) (fun u_ u_ u_ u_ u_ u_ u_ u_ u_ u_ u_ => false) (fun u_ u_ => false) (fun u_ u_ => false) (fun u_ u_ u_ => false) (fun u_ u_ u_ u_ u_ u_ u_ => false) (F) (fun u_ u_ u_ u_ u_ => false) (fun u_ u_ u_ u_ u_ => false) (fun u_ u_ u_ u_ u_ => false) (fun u_ u_ u_ u_ => false) (fun u_ u_ u_ u_ => false) (fun u_ u_ u_ => false) (fun u_ u_ u_ => false) (fun u_ u_ u_ => false) (fun u_ u_ u_ => false) (fun u_ u_ u_ u_ u_ => false) (fun u_ u_ u_ u_ u_ => false) (fun u_ u_ u_ => false) (fun u_ u_ => false) (fun u_ u_ u_ u_ => false) (fun u_ u_ => false) (fun u_ u_ => false) (fun u_ u_ => false) (fun u_ => false) (fun u_ => false) (fun u_ => false)
noncomputable def st_AugAssignR (e : PySem.Stmt) (F : PySem.Expr → Operator → PySem.Expr → Pos → Bool) : Prop := ∃ x0 x1 x2 x3,e = .AugAssign x0 x1 x2 x3 ∧ F x0 x1 x2 x3 = true
private theorem st_AugAssign_i {e : PySem.Stmt} {F : PySem.Expr → Operator → PySem.Expr → Pos → Bool} (h : st_AugAssign e F = true) : st_AugAssignR e F :=
  PySem.Stmt.AugAssign.elim (motive_2 := fun e => st_AugAssign e F = true → st_AugAssignR e F) e (Nat.eq_of_beq_eq_true (Bool.and_eq_true_iff.mp h).1) (fun x0 x1 x2 x3 h => ⟨x0,x1,x2,x3,rfl,(Bool.and_eq_true_iff.mp h).2⟩) h
noncomputable def st_For (e : PySem.Stmt) (F : PySem.Expr → PySem.Expr → List PySem.Stmt → List PySem.Stmt → Pos → Bool) : Bool := Nat.beq e.ctorIdx 9 && PySem.Stmt.casesOn (motive_2 := fun u_ => Bool) e (fun u_ u_ u_ u_ u_ u_ u_ u_ u_ u_ => false) (fun u_ u_ u_ u_ u_ u_ u_ u_ u_ u_ => false) (fun u_ u_ u_ u_ u_ u_ u_ u_ u_ u_ u_ => false) (fun u_ u_ => false) (fun u_ u_ => false) (fun u_ u_ u_ => false) (fun u_ u_ u_ u_ u_ u_ u_ => false) (fun u_ u_ u_ u_ => false) (fun u_ u_ u_ u_ u_ => false) (F) (fun u_ u_ u_ u_ u_ => false) (fun u_ u_ u_ u_ => false) (fun u_ u_ u_ u_ => false) (fun u_ u_ u_ => false) (fun u_ u_ u_ => false) (fun u_ u_ u_ => false) (fun u_ u_ u_ => false) (fun u_ u_ u_ u_ u_ => false) (fun u_ u_ u_ u_ u_ => false) (fun u_ u_ u_ => false) (fun u_ u_ => false) (fun u_ u_ u_ u_ => false) (fun u_ u_ => false) (fun u_ u_ => false) (fun u_ u_ => false) (fun u_ => false) (fun u_ => false) (fun u_ => false)
noncomputable def st_ForR (e : PySem.Stmt) (F : PySem.Expr → PySem.Expr → List PySem.Stmt → List PySem.Stmt → Pos → Bool) : Prop := ∃ x0 x1 x2 x3 x4,e = .For x0 x1 x2 x3 x4 ∧ F x0 x1 x2 x3 x4 = true
private theorem st_For_i {e : PySem.Stmt} {F : PySem.Expr → PySem.Expr → List PySem.Stmt → List PySem.Stmt → Pos → Bool} (h : st_For e F = true) : st_ForR e F :=
  PySem.Stmt.For.elim (motive_2 := fun e => st_For e F = true → st_ForR e F) e (Nat.eq_of_beq_eq_true (Bool.and_eq_true_iff.mp h).1) (fun x0 x1 x2 x3 x4 h => ⟨x0,x1,x2,x3,x4,rfl,(Bool.and_eq_true_iff.mp h).2⟩) h
noncomputable def st_While (e : PySem.Stmt) (F : PySem.Expr → List PySem.Stmt → List PySem.Stmt → Pos → Bool) : Bool := Nat.beq e.ctorIdx 11 && PySem.Stmt.casesOn (motive_2 := fun u_ => Bool) e (fun u_ u_ u_ u_ u_ u_ u_ u_ u_ u_ => false) (fun u_ u_ u_ u_ u_ u_ u_ u_ u_ u_ => false) (fun u_ u_ u_ u_ u_ u_ u_ u_ u_ u_ u_ => false) (fun u_ u_ => false) (fun u_ u_ => false) (fun u_ u_ u_ => false) (fun u_ u_ u_ u_ u_ u_ u_ => false) (fun u_ u_ u_ u_ => false) (fun u_ u_ u_ u_ u_ => false) (fun u_ u_ u_ u_ u_ => false) (fun u_ u_ u_ u_ u_ => false) (F) (fun u_ u_ u_ u_ => false) (fun u_ u_ u_ => false) (fun u_ u_ u_ => false) (fun u_ u_ u_ => false) (fun u_ u_ u_ => false) (fun u_ u_ u_ u_ u_ => false) (fun u_ u_ u_ u_ u_ => false) (fun u_ u_ u_ => false) (fun u_ u_ => false) (fun u_ u_ u_ u_ => false) (fun u_ u_ => false) (fun u_ u_ => false) (fun u_ u_ => false) (fun u_ => false) (fun u_ => false) (fun u_ => false)
noncomputable def st_WhileR (e : PySem.Stmt) (F : PySem.Expr → List PySem.Stmt → List PySem.Stmt → Pos → Bool) : Prop := ∃ x0 x1 x2 x3,e = .While x0 x1 x2 x3 ∧ F x0 x1 x2 x3 = true
private theorem st_While_i {e : PySem.Stmt} {F : PySem.Expr → List PySem.Stmt → List PySem.Stmt → Pos → Bool} (h : st_While e F = true) : st_WhileR e F :=
  PySem.Stmt.While.elim (motive_2 := fun e => st_While e F = true → st_WhileR e F) e (Nat.eq_of_beq_eq_true (Bool.and_eq_true_iff.mp h).1) (fun x0 x1 x2 x3 h => ⟨x0,x1,x2,x3,rfl,(Bool.and_eq_true_iff.mp h).2⟩) h
noncomputable def st_If (e : PySem.Stmt) (F : PySem.Expr → List PySem.Stmt → List PySem.Stmt → Pos → Bool) : Bool := Nat.beq e.ctorIdx 12 && PySem.Stmt.casesOn (motive_2 := fun u_ => Bool) e (fun u_ u_ u_ u_ u_ u_ u_ u_ u_ u_ => false) (fun u_ u_ u_ u_ u_ u_ u_ u_ u_ u_ => false) (fun u_ u_ u_ u_ u_ u_ u_ u_ u_ u_ u_ => false) (fun u_ u_ => false) (fun u_ u_ => false) (fun u_ u_ u_ => false) (fun u_ u_ u_ u_ u_ u_ u_ => false) (fun u_ u_ u_ u_ => false) (fun u_ u_ u_ u_ u_ => false) (fun u_ u_ u_ u_ u_ => false) (fun u_ u_ u_ u_ u_ => false) (fun u_ u_ u_ u_ => false) (F) (fun u_ u_ u_ => false) (fun u_ u_ u_ => false) (fun u_ u_ u_ => false) (fun u_ u_ u_ => false) (fun u_ u_ u_ u_ u_ => false) (fun u_ u_ u_ u_ u_ => false) (fun u_ u_ u_ => false) (fun u_ u_ => false) (fun u_ u_ u_ u_ => false) (fun u_ u_ => false) (fun u_ u_ => false) (fun u_ u_ => false) (fun u_ => false) (fun u_ => false) (fun u_ => false)
noncomputable def st_IfR (e : PySem.Stmt) (F : PySem.Expr → List PySem.Stmt → List PySem.Stmt → Pos → Bool) : Prop := ∃ x0 x1 x2 x3,e = .If x0 x1 x2 x3 ∧ F x0 x1 x2 x3 = true
private theorem st_If_i {e : PySem.Stmt} {F : PySem.Expr → List PySem.Stmt → List PySem.Stmt → Pos → Bool} (h : st_If e F = true) : st_IfR e F :=
  PySem.Stmt.If.elim (motive_2 := fun e => st_If e F = true → st_IfR e F) e (Nat.eq_of_beq_eq_true (Bool.and_eq_true_iff.mp h).1) (fun x0 x1 x2 x3 h => ⟨x0,x1,x2,x3,rfl,(Bool.and_eq_true_iff.mp h).2⟩) h
noncomputable def st_Raise (e : PySem.Stmt) (F : Option PySem.Expr → Option PySem.Expr → Pos → Bool) : Bool := Nat.beq e.ctorIdx 16 && PySem.Stmt.casesOn (motive_2 := fun u_ => Bool) e (fun u_ u_ u_ u_ u_ u_ u_ u_ u_ u_ => false) (fun u_ u_ u_ u_ u_ u_ u_ u_ u_ u_ => false) (fun u_ u_ u_ u_ u_ u_ u_ u_ u_ u_ u_ => false) (fun u_ u_ => false) (fun u_ u_ => false) (fun u_ u_ u_ => false) (fun u_ u_ u_ u_ u_ u_ u_ => false) (fun u_ u_ u_ u_ => false) (fun u_ u_ u_ u_ u_ => false) (fun u_ u_ u_ u_ u_ => false) (fun u_ u_ u_ u_ u_ => false) (fun u_ u_ u_ u_ => false) (fun u_ u_ u_ u_ => false) (fun u_ u_ u_ => false) (fun u_ u_ u_ => false) (fun u_ u_ u_ => false) (F) (fun u_ u_ u_ u_ u_ => false) (fun u_ u_ u_ u_ u_ => false) (fun u_ u_ u_ => false) (fun u_ u_ => false) (fun u_ u_ u_ u_ => false) (fun u_ u_ => false) (fun u_ u_ => false) (fun u_ u_ => false) (fun u_ => false) (fun u_ => false) (fun u_ => false)
noncomputable def st_RaiseR (e : PySem.Stmt) (F : Option PySem.Expr → Option PySem.Expr → Pos → Bool) : Prop := ∃ x0 x1 x2,e = .Raise x0 x1 x2 ∧ F x0 x1 x2 = true
private theorem st_Raise_i {e : PySem.Stmt} {F : Option PySem.Expr → Option PySem.Expr → Pos → Bool} (h : st_Raise e F = true) : st_RaiseR e F :=
  PySem.Stmt.Raise.elim (motive_2 := fun e => st_Raise e F = true → st_RaiseR e F) e (Nat.eq_of_beq_eq_true (Bool.and_eq_true_iff.mp h).1) (fun x0 x1 x2 h => ⟨x0,x1,x2,rfl,(Bool.and_eq_true_iff.mp h).2⟩) h
noncomputable def st_Try (e : PySem.Stmt) (F : List PySem.Stmt → List ExceptHandler → List PySem.Stmt → List PySem.Stmt → Pos → Bool) : Bool := Nat.beq e.ctorIdx 17 && PySem.Stmt.casesOn (motive_2 := fun u_ => Bool) e (fun u_ u_ u_ u_ u_ u_ u_ u_ u_ u_ => false) (fun u_ u_ u_ u_ u_ u_ u_ u_ u_ u_ => false) (fun u_ u_ u_ u_ u_ u_ u_ u_ u_ u_ u_ => false) (fun u_ u_ => false) (fun u_ u_ => false) (fun u_ u_ u_ => false) (fun u_ u_ u_ u_ u_ u_ u_ => false) (fun u_ u_ u_ u_ => false) (fun u_ u_ u_ u_ u_ => false) (fun u_ u_ u_ u_ u_ => false) (fun u_ u_ u_ u_ u_ => false) (fun u_ u_ u_ u_ => false) (fun u_ u_ u_ u_ => false) (fun u_ u_ u_ => false) (fun u_ u_ u_ => false) (fun u_ u_ u_ => false) (fun u_ u_ u_ => false) (F) (fun u_ u_ u_ u_ u_ => false) (fun u_ u_ u_ => false) (fun u_ u_ => false) (fun u_ u_ u_ u_ => false) (fun u_ u_ => false) (fun u_ u_ => false) (fun u_ u_ => false) (fun u_ => false) (fun u_ => false) (fun u_ => false)
noncomputable def st_TryR (e : PySem.Stmt) (F : List PySem.Stmt → List ExceptHandler → List PySem.Stmt → List PySem.Stmt → Pos → Bool) : Prop := ∃ x0 x1 x2 x3 x4,e = .Try x0 x1 x2 x3 x4 ∧ F x0 x1 x2 x3 x4 = true
private theorem st_Try_i {e : PySem.Stmt} {F : List PySem.Stmt → List ExceptHandler → List PySem.Stmt → List PySem.Stmt → Pos → Bool} (h : st_Try e F = true) : st_TryR e F :=
  PySem.Stmt.Try.elim (motive_2 := fun e => st_Try e F = true → st_TryR e F) e (Nat.eq_of_beq_eq_true (Bool.and_eq_true_iff.mp h).1) (fun x0 x1 x2 x3 x4 h => ⟨x0,x1,x2,x3,x4,rfl,(Bool.and_eq_true_iff.mp h).2⟩) h
noncomputable def st_Expr (e : PySem.Stmt) (F : PySem.Expr → Pos → Bool) : Bool := Nat.beq e.ctorIdx 24 && PySem.Stmt.casesOn (motive_2 := fun u_ => Bool) e (fun u_ u_ u_ u_ u_ u_ u_ u_ u_ u_ => false) (fun u_ u_ u_ u_ u_ u_ u_ u_ u_ u_ => false) (fun u_ u_ u_ u_ u_ u_ u_ u_ u_ u_ u_ => false) (fun u_ u_ => false) (fun u_ u_ => false) (fun u_ u_ u_ => false) (fun u_ u_ u_ u_ u_ u_ u_ => false) (fun u_ u_ u_ u_ => false) (fun u_ u_ u_ u_ u_ => false) (fun u_ u_ u_ u_ u_ => false) (fun u_ u_ u_ u_ u_ => false) (fun u_ u_ u_ u_ => false) (fun u_ u_ u_ u_ => false) (fun u_ u_ u_ => false) (fun u_ u_ u_ => false) (fun u_ u_ u_ => false) (fun u_ u_ u_ => false) (fun u_ u_ u_ u_ u_ => false) (fun u_ u_ u_ u_ u_ => false) (fun u_ u_ u_ => false) (fun u_ u_ => false) (fun u_ u_ u_ u_ => false) (fun u_ u_ => false) (fun u_ u_ => false) (F) (fun u_ => false) (fun u_ => false) (fun u_ => false)
noncomputable def st_ExprR (e : PySem.Stmt) (F : PySem.Expr → Pos → Bool) : Prop := ∃ x0 x1,e = .Expr x0 x1 ∧ F x0 x1 = true
private theorem st_Expr_i {e : PySem.Stmt} {F : PySem.Expr → Pos → Bool} (h : st_Expr e F = true) : st_ExprR e F :=
  PySem.Stmt.Expr.elim (motive_2 := fun e => st_Expr e F = true → st_ExprR e F) e (Nat.eq_of_beq_eq_true (Bool.and_eq_true_iff.mp h).1) (fun x0 x1 h => ⟨x0,x1,rfl,(Bool.and_eq_true_iff.mp h).2⟩) h
noncomputable def st_Continue (e : PySem.Stmt) (F : Pos → Bool) : Bool := Nat.beq e.ctorIdx 27 && PySem.Stmt.casesOn (motive_2 := fun u_ => Bool) e (fun u_ u_ u_ u_ u_ u_ u_ u_ u_ u_ => false) (fun u_ u_ u_ u_ u_ u_ u_ u_ u_ u_ => false) (fun u_ u_ u_ u_ u_ u_ u_ u_ u_ u_ u_ => false) (fun u_ u_ => false) (fun u_ u_ => false) (fun u_ u_ u_ => false) (fun u_ u_ u_ u_ u_ u_ u_ => false) (fun u_ u_ u_ u_ => false) (fun u_ u_ u_ u_ u_ => false) (fun u_ u_ u_ u_ u_ => false) (fun u_ u_ u_ u_ u_ => false) (fun u_ u_ u_ u_ => false) (fun u_ u_ u_ u_ => false) (fun u_ u_ u_ => false) (fun u_ u_ u_ => false) (fun u_ u_ u_ => false) (fun u_ u_ u_ => false) (fun u_ u_ u_ u_ u_ => false) (fun u_ u_ u_ u_ u_ => false) (fun u_ u_ u_ => false) (fun u_ u_ => false) (fun u_ u_ u_ u_ => false) (fun u_ u_ => false) (fun u_ u_ => false) (fun u_ u_ => false) (fun u_ => false) (fun u_ => false) (F)
noncomputable def st_ContinueR (e : PySem.Stmt) (F : Pos → Bool) : Prop := ∃ x0,e = .Continue x0 ∧ F x0 = true
private theorem st_Continue_i {e : PySem.Stmt} {F : Pos → Bool} (h : st_Continue e F = true) : st_ContinueR e F :=
  PySem.Stmt.Continue.elim (motive_2 := fun e => st_Continue e F = true → st_ContinueR e F) e (Nat.eq_of_beq_eq_true (Bool.and_eq_true_iff.mp h).1) (fun x0 h => ⟨x0,rfl,(Bool.and_eq_true_iff.mp h).2⟩) h
noncomputable def oHand (e : ExceptHandler) (F : Option PySem.Expr → Option Str → List PySem.Stmt → Pos → Bool) : Bool := match e with | .ExceptHandler x0 x1 x2 x3 => F x0 x1 x2 x3
private theorem oHand_i {e : ExceptHandler} {F : Option PySem.Expr → Option Str → List PySem.Stmt → Pos → Bool} (h : oHand e F = true) : ∃ x0 x1 x2 x3,e = .ExceptHandler x0 x1 x2 x3 ∧ F x0 x1 x2 x3 = true := by
  cases e; exact ⟨_,_,_,_,rfl,h⟩
end Mine
end
section
open PySem PySem.W PyProof.Rows
namespace Mine

noncomputable def isLocal (sc : Scope) (x : Str) : Bool := decide (sc.names.lookup x = some .local) && !(x == ("__debug__" : Str))
noncomputable def isCell (sc : Scope) (x : Str) : Bool := (decide (sc.names.lookup x = some .cell) || decide (sc.names.lookup x = some .free)) && !(x == ("__debug__" : Str)) && !(x == ("__classdict__" : Str))
noncomputable def isGlob (sc : Scope) (x : Str) : Bool := decide (sc.names.lookup x = some .globalImplicit) && !(x == ("__debug__" : Str))
noncomputable def notStar (e : PySem.Expr) : Bool := !(Nat.beq e.ctorIdx 22)
noncomputable def notSup (e : PySem.Expr) : Bool := !(Nat.beq e.ctorIdx 16)
noncomputable def notSet (e : PySem.Expr) : Bool := !(Nat.beq e.ctorIdx 7)
noncomputable def bcall1 (sc : Scope) (b : Str) (ag : PySem.Expr → Bool) (e' : PySem.Expr) : Bool :=
  e_Call e' fun g as ks u_ => o0 ks && e_Name g fun x u_ => o1 as fun e => x == b && isGlob sc x && notStar e && ag e
private theorem bcall1_i {sc : Scope} {b : Str} {ag : PySem.Expr → Bool} {e' : PySem.Expr} (h : bcall1 sc b ag e' = true) : ∃ x q e p,e' = .Call (.Name x q) [e] [] p ∧ (x == b && isGlob sc x && notStar e && ag e) = true := by
  replace h := e_Call_i h
  obtain ⟨g,as,ks,p,rfl,h⟩ := h
  replace h := Bool.and_eq_true_iff.mp h
  obtain ⟨h0,h⟩ := h
  replace h := e_Name_i h
  obtain ⟨x,q,rfl,h⟩ := h
  replace h := o1_i h
  obtain ⟨e,rfl,h⟩ := h
  rw [o0_i h0]
  exact ⟨_,_,_,_,rfl,h⟩
noncomputable def bcall2 (sc : Scope) (b : Str) (ag ag' : PySem.Expr → Bool) (e' : PySem.Expr) : Bool :=
  e_Call e' fun g as ks u_ => o0 ks && e_Name g fun x u_ => o2 as fun e e' => x == b && isGlob sc x && notStar e && notStar e' && ag e && ag' e'
private theorem bcall2_i {sc : Scope} {b : Str} {ag ag' : PySem.Expr → Bool} {e' : PySem.Expr} (h : bcall2 sc b ag ag' e' = true) : ∃ x q e e2 p,e' = .Call (.Name x q) [e,e2] [] p ∧ (x == b && isGlob sc x && notStar e && notStar e2 && ag e && ag' e2) = true := by
  replace h := e_Call_i h
  obtain ⟨g,as,ks,p,rfl,h⟩ := h
  replace h := Bool.and_eq_true_iff.mp h
  obtain ⟨h0,h⟩ := h
  replace h := e_Name_i h
  obtain ⟨x,q,rfl,h⟩ := h
  replace h := o2_i h
  obtain ⟨e,e2,rfl,h⟩ := h
  rw [o0_i h0]
  exact ⟨_,_,_,_,_,rfl,h⟩
noncomputable def mcall1 (b : Str) (ag ag' : PySem.Expr → Bool) (e' : PySem.Expr) : Bool :=
  e_Call e' fun g as ks p => o0 ks && e_Attribute g fun o x ap => o1 as fun e => x == b && notSup o && notStar e && decide (ap.endLine = p.line) && ag o && ag' e
private theorem mcall1_i {b : Str} {ag ag' : PySem.Expr → Bool} {e' : PySem.Expr} (h : mcall1 b ag ag' e' = true) : ∃ o x ap e p,e' = .Call (.Attribute o x ap) [e] [] p ∧ (x == b && notSup o && notStar e && decide (ap.endLine = p.line) && ag o && ag' e) = true := by
  replace h := e_Call_i h
  obtain ⟨g,as,ks,p,rfl,h⟩ := h
  replace h := Bool.and_eq_true_iff.mp h
  obtain ⟨h0,h⟩ := h
  replace h := e_Attribute_i h
  obtain ⟨o,x,q,rfl,h⟩ := h
  replace h := o1_i h
  obtain ⟨e,rfl,h⟩ := h
  rw [o0_i h0]
  exact ⟨_,_,_,_,_,rfl,h⟩
noncomputable def tgOk (nm : Nat → Str) (sc : Scope) (t : Tg) (e : PySem.Expr) : Bool := match t with
  | .one n => e_Name e fun x u_ => x == nm n && isLocal sc x
  | .two a b => e_Tuple e fun es u_ u_ => o2 es fun p q => e_Name p fun x u_ => e_Name q fun y u_ => x == nm a && isLocal sc x && y == nm b && isLocal sc y
noncomputable def relab (sc : Scope) : Scope := { sc with names := sc.names.map fun p => if p.2 = .free then (p.1,.cell) else p }
noncomputable def compOk (nm : Nat → Str) (sc sc' : Scope) (cs : List Nat) : Bool :=
  (sc'.names.all fun p => decide (p.2 ≠ .cell) && (decide (p.2 ≠ .free) || (decide (sc.names.lookup p.1 = some .cell) && cs.any fun n => decide (nm n = p.1))) && (decide (p.2 ≠ .local) || decide (sc'.names.lookup p.1 = some .local))) &&
  cs.all fun n => sc'.names.any fun p => decide (p.1 = nm n) && decide (p.2 = .free)
noncomputable def dictKey (s : List Nat) (o : Option PySem.Expr) : Bool := oS o fun e => e_Constant e fun k u_ u_ => k_str k fun x => x == ⟨s.toArray⟩
private theorem dictKey_i {s : List Nat} {o : Option PySem.Expr} (h : dictKey s o = true) : ∃ n p,o = some (.Constant (.str ⟨s.toArray⟩) n p) := by
  replace h := oS_i h
  obtain ⟨e,rfl,h⟩ := h
  replace h := e_Constant_i h
  obtain ⟨k,n,p,rfl,h⟩ := h
  replace h := k_str_i h
  obtain ⟨x,rfl,h⟩ := h
  cases eq_of_beq h
  exact ⟨_,_,rfl⟩
noncomputable def dictKeys : List (List Nat) → List (Option PySem.Expr) → Bool
  | [],l => o0 l
  | s :: r,l => oC l fun e es => dictKey s e && dictKeys r es
private theorem dictKeys_cc {s : List Nat} {r : List (List Nat)} {e : Option PySem.Expr} {es : List (Option PySem.Expr)} : dictKeys (s :: r) (e :: es) = (dictKey s e && dictKeys r es) := rfl

noncomputable def isNameE (e : PySem.Expr) : Bool := Nat.beq e.ctorIdx 23
noncomputable def isSliceE (e : PySem.Expr) : Bool := Nat.beq e.ctorIdx 26
noncomputable def isNoneX (x : X) : Bool := Nat.beq x.ctorIdx 0
private theorem isNoneX_i {x : X} (h : isNoneX x = true) : x = .none := X.none.elim (motive_1 := fun x => x = .none) x (Nat.eq_of_beq_eq_true h) rfl
mutual
noncomputable def agX (nm : Nat → Str) (sc : Scope) : X → PySem.Expr → Bool
  | .none,e' => e_Constant e' fun k u_ u_ => k_none k true
  | .bool b,e' => e_Constant e' fun k u_ u_ => k_bool k fun b' => b == b'
  | .int i,e' => e_Constant e' fun k u_ u_ => k_int k fun j => decide (i = j)
  | .str s,e' => e_Constant e' fun k u_ u_ => k_str k fun x => x == ⟨s.toArray⟩
  | .loc n,e' => e_Name e' fun x u_ => x == nm n && isLocal sc x
  | .cel n,e' => e_Name e' fun x u_ => x == nm n && isCell sc x
  | .glo n,e' => e_Name e' fun x u_ => x == nm n && isGlob sc x
  | .attr e f,e' => e_Attribute e' fun v a u_ => a == nm f && notSup v && agX nm sc e v
  | .call f as,e' => e_Call e' fun f' as' ks u_ => o0 ks && (isNameE f' && agX nm sc f f' && agXs nm sc as as' && decide (as'.length < 29))
  | .mcall o f as,e' => e_Call e' fun g as' ks p => o0 ks && e_Attribute g fun o' x ap => x == nm f && notSup o' && decide (ap.endLine = p.line) && agX nm sc o o' && agXs nm sc as as' && decide (as'.length < 29)
  | .len e,e' => bcall1 sc "len" (agX nm sc e) e'
  | .chr e,e' => bcall1 sc "chr" (agX nm sc e) e'
  | .ord e,e' => bcall1 sc "ord" (agX nm sc e) e'
  | .sorted e,e' => bcall1 sc "sorted" (agX nm sc e) e'
  | .listOf e,e' => bcall1 sc "list" (agX nm sc e) e'
  | .tupleOf e,e' => bcall1 sc "tuple" (agX nm sc e) e'
  | .range1 e,e' => bcall1 sc "range" (agX nm sc e) e'
  | .range2 a b,e' => bcall2 sc "range" (agX nm sc a) (agX nm sc b) e'
  | .append o e,e' => mcall1 "append" (agX nm sc o) (agX nm sc e) e'
  | .join o e,e' => mcall1 "join" (agX nm sc o) (agX nm sc e) e'
  | .update o e,e' => mcall1 "update" (agX nm sc o) (agX nm sc e) e'
  | .cmp op l r,e' => e_Compare e' fun l' os rs u_ => o1 os fun o => o1 rs fun r' => decide (o = cmOf op) && notSet r' && agX nm sc l l' && agX nm sc r r'
  | .chain p q l m r,e' => e_Compare e' fun l' os rs u_ => o2 os fun p' q' => o2 rs fun m' r' => decide (p' = cmOf p) && decide (q' = cmOf q) && notSet m' && notSet r' && agX nm sc l l' && agX nm sc m m' && agX nm sc r r'
  | .isin neg l r,e' => e_Compare e' fun l' os rs u_ => o1 os fun o => o1 rs fun r' => decide (o = if neg then .NotIn else .In) && notSet r' && agX nm sc l l' && agX nm sc r r'
  | .bop conj es,e' => e_BoolOp e' fun o es' u_ => decide (o = if conj then .And else .Or) && decide (2 ≤ es'.length) && agXs nm sc es es'
  | .not e,e' => e_UnaryOp e' fun o v u_ => decide (o = .Not) && agX nm sc e v
  | .neg e,e' => e_UnaryOp e' fun o v u_ => decide (o = .USub) && agX nm sc e v
  | .bin op l r,e' => e_BinOp e' fun l' o r' u_ => decide (o = opOf op) && agX nm sc l l' && agX nm sc r r'
  | .ite t a b,e' => e_IfExp e' fun t' a' b' u_ => agX nm sc t t' && agX nm sc a a' && agX nm sc b b'
  | .sub e i,e' => e_Subscript e' fun v k u_ => !(isSliceE k) && agX nm sc e v && agX nm sc i k
  | .slice e lo hi,e' => e_Subscript e' fun v k u_ => e_Slice k fun l h st u_ => oN st && (agX nm sc e v && (match l with | some l => agX nm sc lo l | none => isNoneX lo) && (match h with | some h => agX nm sc hi h | none => isNoneX hi))
  | .list es,e' => e_List e' fun es' u_ => agXs nm sc es es'
  | .tuple es,e' => e_Tuple e' fun es' u_ u_ => agXs nm sc es es'
  | .dict ks es,e' => e_Dict e' fun ks' es' u_ => dictKeys ks ks' && decide (ks.length = es'.length) && (decide (0 < ks.length) && decide (ks.length ≤ 15)) && agXs nm sc es es'
  | .comp elt t cs it,e' => e_ListComp e' fun elt' gs sc' u_ => o1 gs fun g => o0 g.ifs && decide (g.is_async = 0) && (tgOk nm (relab sc') t g.target && agX nm (relab sc') elt elt' && notSet g.iter && agX nm sc it g.iter && decide (sc'.kind = .function) && compOk nm sc sc' cs)
noncomputable def agXs (nm : Nat → Str) (sc : Scope) : Xs → List PySem.Expr → Bool
  | .nil,l => o0 l
  | .cons x r,l => oC l fun e es => notStar e && agX nm sc x e && agXs nm sc r es
end
section
variable {nm : Nat → Str} {sc : Scope} {e' : PySem.Expr} {es : List PySem.Expr}
private theorem ag_none (h : agX nm sc .none e' = true) : ∃ n p,e' = .Constant .none n p ∧ True := by
  replace h := e_Constant_i (F := fun k u_ u_ => k_none k true) h
  obtain ⟨k,n,p,rfl,h⟩ := h
  replace h := k_none_i h
  obtain ⟨rfl,h⟩ := h
  exact ⟨_,_,rfl,trivial⟩
private theorem ag_bool {b : Bool} (h : agX nm sc (.bool b) e' = true) : ∃ b' n p,e' = .Constant (.bool b') n p ∧ (b == b') = true := by
  replace h := e_Constant_i (F := fun k u_ u_ => k_bool k fun b' => b == b') h
  obtain ⟨k,n,p,rfl,h⟩ := h
  replace h := k_bool_i h
  obtain ⟨x,rfl,h⟩ := h
  exact ⟨_,_,_,rfl,h⟩
private theorem ag_int {i : Int} (h : agX nm sc (.int i) e' = true) : ∃ j n p,e' = .Constant (.int j) n p ∧ (decide (i = j)) = true := by
  replace h := e_Constant_i (F := fun k u_ u_ => k_int k fun j => decide (i = j)) h
  obtain ⟨k,n,p,rfl,h⟩ := h
  replace h := k_int_i h
  obtain ⟨x,rfl,h⟩ := h
  exact ⟨_,_,_,rfl,h⟩
private theorem ag_str {s : List Nat} (h : agX nm sc (.str s) e' = true) : ∃ x n p,e' = .Constant (.str x) n p ∧ (x == ⟨s.toArray⟩) = true := by
  replace h := e_Constant_i (F := fun k u_ u_ => k_str k fun x => x == ⟨s.toArray⟩) h
  obtain ⟨k,n,p,rfl,h⟩ := h
  replace h := k_str_i h
  obtain ⟨x,rfl,h⟩ := h
  exact ⟨_,_,_,rfl,h⟩
private theorem ag_loc {n : Nat} (h : agX nm sc (.loc n) e' = true) : ∃ x p,e' = .Name x p ∧ (x == nm n && isLocal sc x) = true :=
  e_Name_i (F := fun x p => x == nm n && isLocal sc x) h
private theorem ag_cel {n : Nat} (h : agX nm sc (.cel n) e' = true) : ∃ x p,e' = .Name x p ∧ (x == nm n && isCell sc x) = true :=
  e_Name_i (F := fun x p => x == nm n && isCell sc x) h
private theorem ag_glo {n : Nat} (h : agX nm sc (.glo n) e' = true) : ∃ x p,e' = .Name x p ∧ (x == nm n && isGlob sc x) = true :=
  e_Name_i (F := fun x p => x == nm n && isGlob sc x) h
private theorem ag_attr {e : X} {f : Nat} (h : agX nm sc (.attr e f) e' = true) : ∃ v a p,e' = .Attribute v a p ∧ (a == nm f && notSup v && agX nm sc e v) = true :=
  e_Attribute_i (F := fun v a p => a == nm f && notSup v && agX nm sc e v) h
private theorem ag_call {f : X} {as : Xs} (h : agX nm sc (.call f as) e' = true) : ∃ f' as' p,e' = .Call f' as' [] p ∧ (isNameE f' && agX nm sc f f' && agXs nm sc as as' && decide (as'.length < 29)) = true := by
  replace h := e_Call_i (F := fun f' as' ks u_ => o0 ks && (isNameE f' && agX nm sc f f' && agXs nm sc as as' && decide (as'.length < 29))) h
  obtain ⟨f',as',ks,p,rfl,h⟩ := h
  replace h := Bool.and_eq_true_iff.mp h
  obtain ⟨h0,h⟩ := h
  rw [o0_i h0]
  exact ⟨_,_,_,rfl,h⟩
private theorem ag_mcall {o : X} {f : Nat} {as : Xs} (h : agX nm sc (.mcall o f as) e' = true) : ∃ o' x ap as' p,e' = .Call (.Attribute o' x ap) as' [] p ∧ (x == nm f && notSup o' && decide (ap.endLine = p.line) && agX nm sc o o' && agXs nm sc as as' && decide (as'.length < 29)) = true := by
  replace h := e_Call_i (F := fun g as' ks p => o0 ks && e_Attribute g fun o' x ap => x == nm f && notSup o' && decide (ap.endLine = p.line) && agX nm sc o o' && agXs nm sc as as' && decide (as'.length < 29)) h
  obtain ⟨g,as',ks,p,rfl,h⟩ := h
  replace h := Bool.and_eq_true_iff.mp h
  obtain ⟨h0,h⟩ := h
  replace h := e_Attribute_i h
  obtain ⟨o',x,ap,rfl,h⟩ := h
  rw [o0_i h0]
  exact ⟨_,_,_,_,_,rfl,h⟩
private theorem ag_cmp {op : Cm} {l r : X} (h : agX nm sc (.cmp op l r) e' = true) : ∃ l' o r' p,e' = .Compare l' [o] [r'] p ∧ (decide (o = cmOf op) && notSet r' && agX nm sc l l' && agX nm sc r r') = true := by
  replace h := e_Compare_i (F := fun l' os rs u_ => o1 os fun o => o1 rs fun r' => decide (o = cmOf op) && notSet r' && agX nm sc l l' && agX nm sc r r') h
  obtain ⟨l',os,rs,p,rfl,h⟩ := h
  replace h := o1_i h
  obtain ⟨o,rfl,h⟩ := h
  replace h := o1_i h
  obtain ⟨r',rfl,h⟩ := h
  exact ⟨_,_,_,_,rfl,h⟩
private theorem ag_isin {neg : Bool} {l r : X} (h : agX nm sc (.isin neg l r) e' = true) : ∃ l' o r' p,e' = .Compare l' [o] [r'] p ∧ (decide (o = if neg then .NotIn else .In) && notSet r' && agX nm sc l l' && agX nm sc r r') = true := by
  replace h := e_Compare_i (F := fun l' os rs u_ => o1 os fun o => o1 rs fun r' => decide (o = if neg then .NotIn else .In) && notSet r' && agX nm sc l l' && agX nm sc r r') h
  obtain ⟨l',os,rs,p,rfl,h⟩ := h
  replace h := o1_i h
  obtain ⟨o,rfl,h⟩ := h
  replace h := o1_i h
  obtain ⟨r',rfl,h⟩ := h
  exact ⟨_,_,_,_,rfl,h⟩
private theorem ag_chain {p q : Cm} {l m r : X} (h : agX nm sc (.chain p q l m r) e' = true) : ∃ l' p' q' m' r' pp,e' = .Compare l' [p',q'] [m',r'] pp ∧ (decide (p' = cmOf p) && decide (q' = cmOf q) && notSet m' && notSet r' && agX nm sc l l' && agX nm sc m m' && agX nm sc r r') = true := by
  replace h := e_Compare_i (F := fun l' os rs u_ => o2 os fun p' q' => o2 rs fun m' r' => decide (p' = cmOf p) && decide (q' = cmOf q) && notSet m' && notSet r' && agX nm sc l l' && agX nm sc m m' && agX nm sc r r') h
  obtain ⟨l',os,rs,pp,rfl,h⟩ := h
  replace h := o2_i h
  obtain ⟨p',q',rfl,h⟩ := h
  replace h := o2_i h
  obtain ⟨m',r',rfl,h⟩ := h
  exact ⟨_,_,_,_,_,_,rfl,h⟩
private theorem ag_bop {conj : Bool} {es : Xs} (h : agX nm sc (.bop conj es) e' = true) : ∃ o es' p,e' = .BoolOp o es' p ∧ (decide (o = if conj then .And else .Or) && decide (2 ≤ es'.length) && agXs nm sc es es') = true :=
  e_BoolOp_i (F := fun o es' p => decide (o = if conj then .And else .Or) && decide (2 ≤ es'.length) && agXs nm sc es es') h
private theorem ag_not {e : X} (h : agX nm sc (.not e) e' = true) : ∃ v p,e' = .UnaryOp .Not v p ∧ agX nm sc e v = true := by
  replace h := e_UnaryOp_i (F := fun o v u_ => decide (o = .Not) && agX nm sc e v) h
  obtain ⟨o,v,p,rfl,h⟩ := h
  replace h := Bool.and_eq_true_iff.mp h
  obtain ⟨h0,h⟩ := h
  cases of_decide_eq_true h0
  exact ⟨_,_,rfl,h⟩
private theorem ag_neg {e : X} (h : agX nm sc (.neg e) e' = true) : ∃ v p,e' = .UnaryOp .USub v p ∧ agX nm sc e v = true := by
  replace h := e_UnaryOp_i (F := fun o v u_ => decide (o = .USub) && agX nm sc e v) h
  obtain ⟨o,v,p,rfl,h⟩ := h
  replace h := Bool.and_eq_true_iff.mp h
  obtain ⟨h0,h⟩ := h
  cases of_decide_eq_true h0
  exact ⟨_,_,rfl,h⟩
private theorem ag_bin {op : Op} {l r : X} (h : agX nm sc (.bin op l r) e' = true) : ∃ l' o r' p,e' = .BinOp l' o r' p ∧ (decide (o = opOf op) && agX nm sc l l' && agX nm sc r r') = true :=
  e_BinOp_i (F := fun l' o r' p => decide (o = opOf op) && agX nm sc l l' && agX nm sc r r') h
private theorem ag_ite {t a b : X} (h : agX nm sc (.ite t a b) e' = true) : ∃ t' a' b' p,e' = .IfExp t' a' b' p ∧ (agX nm sc t t' && agX nm sc a a' && agX nm sc b b') = true :=
  e_IfExp_i (F := fun t' a' b' p => agX nm sc t t' && agX nm sc a a' && agX nm sc b b') h
private theorem ag_sub {e i : X} (h : agX nm sc (.sub e i) e' = true) : ∃ v k p,e' = .Subscript v k p ∧ (!(isSliceE k) && agX nm sc e v && agX nm sc i k) = true :=
  e_Subscript_i (F := fun v k p => !(isSliceE k) && agX nm sc e v && agX nm sc i k) h
private theorem ag_slice {e lo hi : X} (hh : agX nm sc (.slice e lo hi) e' = true) : ∃ v l h p1 p2,e' = .Subscript v (.Slice l h none p1) p2 ∧ (agX nm sc e v && (match l with | some l => agX nm sc lo l | none => isNoneX lo) && (match h with | some h => agX nm sc hi h | none => isNoneX hi)) = true := by
  replace hh := e_Subscript_i (F := fun v k u_ => e_Slice k fun l h st u_ => oN st && (agX nm sc e v && (match l with | some l => agX nm sc lo l | none => isNoneX lo) && (match h with | some h => agX nm sc hi h | none => isNoneX hi))) hh
  obtain ⟨v,k,p2,rfl,hh⟩ := hh
  replace hh := e_Slice_i hh
  obtain ⟨l,h,st,p1,rfl,hh⟩ := hh
  replace hh := Bool.and_eq_true_iff.mp hh
  obtain ⟨h0,hh⟩ := hh
  rw [oN_i h0]
  exact ⟨_,_,_,_,_,rfl,hh⟩
private theorem ag_list {xs : Xs} (h : agX nm sc (.list xs) e' = true) : ∃ es' p,e' = .List es' p ∧ (agXs nm sc xs es') = true :=
  e_List_i (F := fun es' p => agXs nm sc xs es') h
private theorem ag_tuple {xs : Xs} (h : agX nm sc (.tuple xs) e' = true) : ∃ es' k p,e' = .Tuple es' k p ∧ (agXs nm sc xs es') = true :=
  e_Tuple_i (F := fun es' k p => agXs nm sc xs es') h
private theorem ag_dict {ks : List (List Nat)} {xs : Xs} (h : agX nm sc (.dict ks xs) e' = true) : ∃ ks' es' p,e' = .Dict ks' es' p ∧ (dictKeys ks ks' && decide (ks.length = es'.length) && (decide (0 < ks.length) && decide (ks.length ≤ 15)) && agXs nm sc xs es') = true :=
  e_Dict_i (F := fun ks' es' p => dictKeys ks ks' && decide (ks.length = es'.length) && (decide (0 < ks.length) && decide (ks.length ≤ 15)) && agXs nm sc xs es') h
private theorem ag_comp {elt it : X} {t : Tg} {cs : List Nat} (h : agX nm sc (.comp elt t cs it) e' = true) : ∃ elt' t' it' sc' p,e' = .ListComp elt' [⟨t',it',[],0⟩] sc' p ∧ (tgOk nm (relab sc') t t' && agX nm (relab sc') elt elt' && notSet it' && agX nm sc it it' && decide (sc'.kind = .function) && compOk nm sc sc' cs) = true := by
  replace h := e_ListComp_i (F := fun elt' gs sc' u_ => o1 gs fun g => o0 g.ifs && decide (g.is_async = 0) && (tgOk nm (relab sc') t g.target && agX nm (relab sc') elt elt' && notSet g.iter && agX nm sc it g.iter && decide (sc'.kind = .function) && compOk nm sc sc' cs)) h
  obtain ⟨elt',gs,sc',p,rfl,h⟩ := h
  replace h := o1_i h
  obtain ⟨⟨t',it',ifs,asy⟩,rfl,h⟩ := h
  replace h := Bool.and_eq_true_iff.mp h
  obtain ⟨h0,h⟩ := h
  replace h0 := Bool.and_eq_true_iff.mp h0
  obtain ⟨h0,h1⟩ := h0
  cases o0_i h0
  cases of_decide_eq_true h1
  exact ⟨_,_,_,_,_,rfl,h⟩
private theorem ag_nil (h : agXs nm sc .nil es = true) : es = [] := o0_i h
private theorem ag_cons {x : X} {r : Xs} (h : agXs nm sc (.cons x r) es = true) : ∃ e es',es = e :: es' ∧ (notStar e && agX nm sc x e && agXs nm sc r es') = true :=
  oC_i (F := fun e es' => notStar e && agX nm sc x e && agXs nm sc r es') h
end

private theorem agX_comp {nm : Nat → Str} {sc sc' : Scope} {elt it : X} {t : Tg} {cs : List Nat} {elt' t' it' : PySem.Expr} {p : Pos} : agX nm sc (.comp elt t cs it) (.ListComp elt' [⟨t',it',[],0⟩] sc' p) = (tgOk nm (relab sc') t t' && agX nm (relab sc') elt elt' && notSet it' && agX nm sc it it' && decide (sc'.kind = .function) && compOk nm sc sc' cs) := rfl
private theorem agXs_cc {nm : Nat → Str} {sc : Scope} {x : X} {r : Xs} {e : PySem.Expr} {es : List PySem.Expr} : agXs nm sc (.cons x r) (e :: es) = (notStar e && agX nm sc x e && agXs nm sc r es) := rfl
structure EnvS (sc : Scope) (env : Env) : Prop where
  sc : env.scope.names = sc.names
  kind : env.scope.kind = .function
  glob : env.globals = mainGlobals
  blt : env.builtins = builtinsNs
private theorem EnvS.kindOf {sc env} (h : EnvS sc env) (x : Str) : env.kindOf x = sc.names.lookup x := by unfold Env.kindOf; rw [h.sc]

structure AX (n : Nat) (A : Around) : Prop where
  handled : A.handled = none
  depth : A.depth + 2 * n + 3 ≤ 990
  units : A.units + 20 * n + 200 ≤ 9800
structure AC (n : Nat) (A : Around) : Prop where
  handled : A.handled = none
  depth : A.depth + 2 * n + 2 ≤ 990
  units : A.units + 20 * n + 185 ≤ 9800

structure St (c : Cx) : Prop where
  K : c.K.In c.h₀
  g : c.h₀.Ns mainGlobals c.mg
  b : c.h₀.Ns builtinsNs c.mb
  lim : c.h₀.NoLimit
  sys : ∃ o,c.h₀.get? sysModules = some o
  boot : ∀ x : Str,x ≠ "__name__" → c.mb x = bootBuiltins x
  glo : ∀ n d,c.T.glo n = some d → ∃ a,d = .ref a ∧ nsIn c.K mainGlobals (c.nm n) = some (some (.ref a))
  noB : ∀ x ∈ (["len","chr","ord","sorted","list","tuple","range"] : List Str),nsIn c.K mainGlobals x = some none
  meth : ∀ C f g,c.T.meth C f = some g → (findIn c.K (.ref C) (c.nm f) = some (some (.ref g)) ∧ isFn c.K (.ref g) = true) ∧ plainGet c.K C "" = true ∧ keepIn c.K (.ref g) = true
  field : ∀ C f,c.T.field C f = true → (findIn c.K (.ref C) (c.nm f) = some none ∧ takerIn c.K C (c.nm f) = some none) ∧ (plainGet c.K C "" = true ∧ hasDictIn c.K C = true) ∧ findIn c.K (.ref C) "__setattr__" = some (some (.builtin "object.__setattr__")) ∧ plainOver c.K C = true
  fnK : ∀ a fd,c.T.fn a = some fd → keepIn c.K (.ref a) = true
  init : ∀ C g,c.T.init C = some g → makesIn c.K C = true ∧ findIn c.K (.ref C) "__init__" = some (some (.ref g)) ∧ isFn c.K (.ref g) = true ∧ keepIn c.K (.ref C) = true

noncomputable def CallS (c : Cx) (n : Nat) (C : CallT) : Prop :=
  ∀ (A : Around) (f : Addr) (ds : List D) (vs : List Value) (K : K1) (H : Hp) (B : Fz) (env : Env) (ρ : Ev) (s : Shared) (RR : Result → Shared → Prop),
    AC n A → C f ds K H → R c B env ρ H s → VRs vs ds → (∀ d H' v s',K d H' → VR v d → R c B env ρ H' s' → RR (.ok (.ret v)) s') →
    codeAny (model c.prog c.w) A (.call (.ref f) ⟨vs,[]⟩) RR s

noncomputable abbrev noE : Value → Shared → Prop := fun u_ u_ => False
noncomputable def XS (c : Cx) (n : Nat) (C : CallT) (x : X) : Prop :=
  ∀ (A : Around) (sc : Scope) (env : Env) (B : Fz) (ρ : Ev) (e' : PySem.Expr) (K : K1) (H : Hp) (s : Shared) (Q : Value → Shared → Prop),
    AX n A → EnvS sc env → agX c.nm sc x e' = true → x.wp c.T C ρ K H → R c B env ρ H s → (∀ d H' v s',K d H' → VR v d → R c B env ρ H' s' → Q v s') →
    wpAny (model c.prog c.w) A (eval e' env) Q noE s
noncomputable def XsS (c : Cx) (n : Nat) (C : CallT) (x : Xs) : Prop :=
  ∀ (A : Around) (sc : Scope) (env : Env) (B : Fz) (ρ : Ev) (es : List PySem.Expr) (pos : Pos) (K : List D → Hp → Prop) (H : Hp) (s : Shared) (Q : List Value → Shared → Prop),
    AX n A → EnvS sc env → agXs c.nm sc x es = true → x.wp c.T C ρ K H → R c B env ρ H s → (∀ ds H' vs s',K ds H' → VRs vs ds → R c B env ρ H' s' → Q vs s') →
    wpAny (model c.prog c.w) A (spliced (backTo pos (starEach es env))) Q noE s
end Mine
end
section
open PySem PySem.W PyProof.Rows
namespace Mine
section
variable {c : Cx} {n : Nat} {C : CallT}

private theorem none_snd : XS c n C .none := by
  intro A sc env B ρ e' K H s Q hA hE h hw r k
  replace h := ag_none h
  rcases h with ⟨_,_,rfl,h⟩
  · exact PyProof.Rows.Constant_none (k _ _ _ _ hw rfl r)
private theorem bool_snd {b : Bool} : XS c n C (.bool b) := by
  intro A sc env B ρ e' K H s Q hA hE h hw r k
  replace h := ag_bool h
  rcases h with ⟨_,_,_,rfl,h⟩
  · have := eq_of_beq h; subst this
    exact PyProof.Rows.Constant_bool (k _ _ _ _ hw rfl r)
private theorem int_snd {i : Int} : XS c n C (.int i) := by
  intro A sc env B ρ e' K H s Q hA hE h hw r k
  replace h := ag_int h
  rcases h with ⟨_,_,_,rfl,h⟩
  · have := of_decide_eq_true h; subst this
    exact wpAny_Constant_int (k _ _ _ _ hw rfl (r.tok _))
private theorem str_snd {l : List Nat} : XS c n C (.str l) := by
  intro A sc env B ρ e' K H s Q hA hE h hw r k
  replace h := ag_str h
  rcases h with ⟨_,_,_,rfl,h⟩
  · have := eq_of_beq h; subst this
    exact wpAny_Constant_str (k _ _ _ _ hw VR.mk_str (r.tok _))
private theorem loc_snd {x : Nat} : XS c n C (.loc x) := by
  intro A sc env B ρ e' K H s Q hA hE h hw r k
  replace h := ag_loc h
  rcases h with ⟨_,_,rfl,h⟩
  · simp only [Bool.and_eq_true,isLocal,decide_eq_true_eq,Bool.not_eq_true',beq_iff_eq] at h
    obtain ⟨rfl,hl,hd⟩ := h
    simp only [wx_loc] at hw
    split at hw
    · rename_i d hd'
      obtain ⟨m,hm,hl'⟩ := r.loc
      obtain ⟨v,hv,hr⟩ := hl' _ _ hd'
      exact wpAny_Name (wpAny_loadName_local hE.kind (by rw [hE.kindOf]; exact hl) hm hv (k _ _ _ _ hw hr r)) hd
    · exact hw.elim
private theorem cel_snd {x : Nat} : XS c n C (.cel x) := by
  intro A sc env B ρ e' K H s Q hA hE h hw r k
  replace h := ag_cel h
  rcases h with ⟨_,_,rfl,h⟩
  · simp only [Bool.and_eq_true,isCell,decide_eq_true_eq,Bool.not_eq_true',beq_iff_eq,Bool.or_eq_true] at h
    obtain ⟨rfl,⟨hl,hd⟩,hc⟩ := h
    simp only [wx_cel] at hw
    split at hw
    · rename_i a ha
      split at hw
      · rename_i d hd'
        obtain ⟨o,ho,hr⟩ := r.ob _ _ hd'
        obtain ⟨v,hr,hv⟩ := hr
        cases v with
        | none => exact hv.elim
        | some v =>
          rcases hl with hl | hl
          · exact wpAny_Name (wpAny_loadName_cell hE.kind (by rw [hE.kindOf]; exact hl) (r.cel _ _ ha) ⟨_,ho,hr⟩ (k _ _ _ _ hw hv r)) hd
          · exact wpAny_Name (wpAny_loadName_free hE.kind (by rw [hE.kindOf]; exact hl) (r.cel _ _ ha) ⟨_,ho,hr⟩ (k _ _ _ _ hw hv r) hc) hd
      · exact hw.elim
    · exact hw.elim

private theorem glob_at {A : Around} {sc env} {B : Fz} {ρ H s} {x : Str} {v : Value} {p : Pos} {Q : Value → Shared → Prop} {E} (S : St c) (hE : EnvS sc env) (r : R c B env ρ H s) (hg : isGlob sc x = true) (hn : nsIn c.K mainGlobals x = some (some v)) (h : Q v s) :
    wpAny (model c.prog c.w) A (eval (.Name x p) env) Q E s := by
  simp only [Bool.and_eq_true,isGlob,decide_eq_true_eq,Bool.not_eq_true'] at hg
  exact Calls.Name_function_global hE.kind (by rw [hE.kindOf]; exact hg.1) (Calls.loadGlobal_global (by rw [hE.glob]; exact S.g.keeps fun b o e => r.keep e) (mg_of S.K S.g hn) h) hg.2
private theorem bglob_at {A : Around} {sc env} {B : Fz} {ρ H s} {x : Str} {v : Value} {p : Pos} {Q : Value → Shared → Prop} {E} (S : St c) (hE : EnvS sc env) (r : R c B env ρ H s) (hg : isGlob sc x = true) (hn : nsIn c.K mainGlobals x = some none)
    (hb : bootBuiltins x = some v) (hx : x ≠ "__name__") (h : Q v s) :
    wpAny (model c.prog c.w) A (eval (.Name x p) env) Q E s := by
  simp only [Bool.and_eq_true,isGlob,decide_eq_true_eq,Bool.not_eq_true'] at hg
  exact Calls.Name_function_global hE.kind (by rw [hE.kindOf]; exact hg.1) (Calls.loadGlobal_builtin (by rw [hE.glob]; exact S.g.keeps fun b o e => r.keep e) (mg_none_of S.K S.g hn) (by rw [hE.blt]; exact S.b.keeps fun b o e => r.keep e) ((S.boot _ hx).trans hb) h) hg.2
private theorem glo_snd (S : St c) {x : Nat} : XS c n C (.glo x) := by
  intro A sc env B ρ e' K H s Q hA hE h hw r k
  replace h := ag_glo h
  rcases h with ⟨_,_,rfl,h⟩
  · simp only [Bool.and_eq_true,beq_iff_eq] at h
    obtain ⟨rfl,hl⟩ := h
    simp only [wx_glo] at hw
    split at hw
    · rename_i d hd'
      obtain ⟨a,rfl,hn⟩ := S.glo _ _ hd'
      exact glob_at S hE r hl hn (k _ _ _ _ hw rfl r)
    · exact hw.elim

private theorem attrBase {v : PySem.Expr} {a : Str} {env : Env} (h : notSup v = true) : attributeBase v a env (eval v env) = eval v env := by
  cases v <;> first | rfl | (exact (Bool.false_ne_true h).elim)
private theorem eval_attr {v : PySem.Expr} {a : Str} {p : Pos} {env : Env} (h : notSup v = true) : eval (.Attribute v a p) env = (do
      let o ← eval v env
      standAt p.atName
      let r ← holding [o] (getAttr o a true)
      letTemporaryGo v o r
      pure r) := by
  show (do
      let o ← attributeBase v a env (eval v env)
      standAt p.atName
      let r ← holding [o] (getAttr o a true)
      letTemporaryGo v o r
      pure r) = _
  rw [attrBase h]

private theorem AR.get {nm : Nat → Str} (inj : ∀ a b,nm a = nm b → a = b) {f : Nat} : ∀ {es : List DictEntry} {fs : List (Nat × D)},AR nm es fs →
    (match lookA f fs with | some d => ∃ v,getL (nm f) es = some (some v) ∧ VR v d | none => getL (nm f) es = some none)
  | [],[],_ => by simp [lookA,getL]
  | e :: es,(g,d) :: r,h => by
    obtain ⟨⟨⟨t,hk⟩,hv⟩,hr⟩ := h
    have ih := AR.get inj (f := f) hr
    unfold lookA
    simp only [cond_beq]
    by_cases q : g = f
    · subst q
      simp only [if_true]
      refine ⟨e.val,?_,hv⟩
      unfold getL
      simp [hk,Value.isStr]
    · have q' : (nm g == nm f) = false := by simp; exact fun z => q (inj _ _ z)
      simp only [if_neg q]
      have e1 : e.key.isStr (nm f) = false := by rw [hk]; exact q'
      have e2 : e.refKey = false := by unfold DictEntry.refKey; rw [hk]
      have e3 : getL (nm f) (e :: es) = getL (nm f) es := by
        unfold getL
        simp [e1,e2]
      rw [e3]
      exact ih
  | [],_ :: _,h => h.elim
  | _ :: _,[],h => h.elim

private theorem inst_of {B : Fz} {env ρ H s} (r : R c B env ρ H s) {d : D} {C' dx : Addr} {fs : List (Nat × D)} (h : attrsOf H d = some (C',dx,fs)) :
    ∃ a es k,d = .ref a ∧ H a = some (.inst C' dx) ∧ H dx = some (.attrs fs) ∧ AR c.nm es fs ∧ s.heap.get? a = some (instObj C' dx) ∧ s.heap.get? dx = some (dictOf es k) ∧ InstAt s.heap a (instObj C' dx) C' (some (dictOf es k)) := by
  unfold attrsOf at h
  split at h
  · rename_i a
    split at h
    · rename_i C₁ dx₁ h1
      split at h
      · rename_i fs₁ h2
        cases h
        obtain ⟨o,ho,hi⟩ := r.ob _ _ h1
        obtain ⟨o',ho',es,k,rfl,har⟩ := r.ob _ _ h2
        cases hi
        exact ⟨a,es,k,rfl,h1,h2,har,ho,ho',⟨ho,rfl,rfl,ho'⟩⟩
      · cases h
    · cases h
  · cases h

private theorem get_snd {A : Around} {B : Fz} {env ρ H s} (S : St c) (r : R c B env ρ H s) {d x : D} {C' dx : Addr} {fs : List (Nat × D)} {f : Nat} {v : Value} {ex : Bool} {Q : Value → Shared → Prop} {E} (h : attrsOf H d = some (C',dx,fs)) (hf : c.T.field C' f = true) (hl : lookA f fs = some x)
    (hv : VR v d) (k : ∀ u s',VR u x → R c B env ρ H s' → Q u s') : wpAny (model c.prog c.w) A (getAttr v (c.nm f) ex) Q E s := by
  obtain ⟨a,es,m,rfl,h1,h2,har,g1,g2,I⟩ := inst_of r h
  cases hv.ref
  obtain ⟨⟨f1,_⟩,⟨f2,f3⟩,_,_⟩ := S.field _ _ hf
  have hg := AR.get c.inj (f := f) har
  rw [hl] at hg
  obtain ⟨u,hu,hr⟩ := hg
  exact get_value (S.K.keeps fun b o e => r.keep e) I (plainGet_of f2).1 (findObj_own f3 f1 (by rfl) hu) hr.handed (k _ _ hr (r.tok _))

private theorem attr_snd (S : St c) {e : X} {f : Nat} (ih : XS c n C e) : XS c n C (.attr e f) := by
  intro A sc env B ρ e' K H s Q hA hE h hw r k
  replace h := ag_attr h
  rcases h with ⟨_,_,_,rfl,h⟩
  · simp only [Bool.and_eq_true,beq_iff_eq] at h
    obtain ⟨⟨rfl,hs⟩,he⟩ := h
    simp only [wx_attr] at hw
    refine PyProof.Rows.Attribute_any_ (ih A sc env B ρ _ _ H s _ hA hE he hw r fun d H' v s' hd hv r' => ?_) (eval_attr hs)
    split at hd
    · rename_i C' dx fs ha
      split at hd
      · rename_i x hf hl
        exact get_snd S r' ha hf hl hv fun u s'' hu r'' => k _ _ _ _ hd hu r''
      · exact hd.elim
    · exact hd.elim

private theorem star_cons {e : PySem.Expr} {es : List PySem.Expr} {env : Env} (h : notStar e = true) : starEach (e :: es) env = (false,eval e env) :: starEach es env := by
  cases e <;> first | rfl | (exact (Bool.false_ne_true h).elim)
private theorem xs0_nil : XsS c n C .nil := by
  intro A sc env B ρ es pos K H s Q hA hE h hw r k
  rcases ag_nil h with rfl
  · exact Calls.spliced_nil (k _ _ _ _ hw rfl r)
private theorem xs0_cons {x : X} {xs : Xs} (ih : XS c n C x) (ihs : XsS c n C xs) : XsS c n C (.cons x xs) := by
  intro A sc env B ρ es pos K H s Q hA hE h hw r k
  replace h := ag_cons h
  rcases h with ⟨_,_,rfl,h⟩
  · simp only [Bool.and_eq_true] at h
    obtain ⟨⟨hs,he⟩,hes⟩ := h
    simp only [wxs_cons] at hw
    refine PyProof.Rows.spliced_more (ih A sc env B ρ _ _ H s _ hA hE he hw r fun d H' v s' hd hv r' => ?_) (star_cons hs)
    exact ihs A sc env B ρ _ _ _ H' s' _ hA hE hes hd r' fun ds H'' vs s'' hds hvs r'' => k _ _ _ _ hds (VRs.mk hv hvs) r''
end
end Mine
end
section
open PySem PySem.W PyProof.Rows
namespace Mine
section
variable {c : Cx} {n : Nat} {C : CallT}
private theorem AX.ac {A : Around} (h : AX n A) : AC n A := ⟨h.handled,by have := h.depth; lia,by have := h.units; lia⟩

private theorem make_weight {C' : Addr} {vs : List Value} : (Code.builtin "type.__call__" ⟨.ref C' :: vs,[]⟩).weight = 1 := by rfl
private theorem make_units {C' : Addr} {vs : List Value} : (Code.builtin "type.__call__" ⟨.ref C' :: vs,[]⟩).cUnits = 1 := by rfl
private theorem AX.under {A : Around} (h : AX n A) {C' : Addr} {vs : List Value} : AC n (A.under (.builtin "type.__call__" ⟨.ref C' :: vs,[]⟩)) := by
  refine ⟨h.handled,?_,?_⟩
  · show A.depth + _ + 2 * n + 2 ≤ 990
    rw [make_weight]; have := h.depth; lia
  · show A.units + _ + 20 * n + 185 ≤ 9800
    rw [make_units]; have := h.units; lia

private theorem args_snd {A : Around} {sc env} {B : Fz} {ρ : Ev} {f : Value} {xs : Xs} {es : List PySem.Expr} {pos : Pos} {K : List D → Hp → Prop} {H : Hp} {s : Shared} {first : List Value} {Q : Value → Shared → Prop}
    (S : St c) (ihs : XsS c n C xs) (hA : AX n A) (hE : EnvS sc env) (h : agXs c.nm sc xs es = true) (hw : xs.wp c.T C ρ K H) (r : R c B env ρ H s) (hk : keepIn c.K f = true)
    (k : ∀ ds H' vs s',K ds H' → VRs vs ds → R c B env ρ H' s' → wpAny (model c.prog c.w) A (call f (first ++ vs)) Q noE s') :
    wpAny (model c.prog c.w) A (callWith pos f first (backTo pos (starEach es env)) []) Q noE s := by
  have main := ihs A sc env B ρ es pos K H s (fun vs s' => c.K.In s'.heap ∧ wpAny (model c.prog c.w) A (call f (first ++ vs)) Q noE s') hA hE h hw r
    (fun ds H' vs s' hd hv r' => ⟨S.K.keeps fun b o e => r'.keep e,k _ _ _ _ hd hv r'⟩)
  cases es with
  | nil =>
    refine callWith_of rfl (P := fun h => c.K.In h) (keeps_K hk) (evalArgs_nil3 ?_)
    cases xs with
    | nil => exact ⟨S.K.keeps fun b o e => r.keep e,k _ _ _ _ hw rfl r⟩
    | cons => exact (Bool.false_ne_true h).elim
  | cons e es =>
    have hs : notStar e = true := by
      cases xs with
      | nil => exact (Bool.false_ne_true h).elim
      | cons => simp only [agXs_cc,Bool.and_eq_true] at h; exact h.1.1
    rw [star_cons hs] at main ⊢
    refine callWith_of ?_ (P := fun h => c.K.In h) (keeps_K hk) (Calls.evalArgs_plain main)
    have : ∀ {xs : Xs} {es : List PySem.Expr},agXs c.nm sc xs es = true → (backTo pos (starEach es env)).any (·.1) = false := by
      intro xs es
      induction es generalizing xs with
      | nil => intro _; rfl
      | cons e es ih =>
        intro h
        cases xs with
        | nil => exact (Bool.false_ne_true h).elim
        | cons x xs =>
          simp only [agXs_cc,Bool.and_eq_true] at h
          rw [star_cons h.1.1]
          show (false || (backTo pos (starEach es env)).any (·.1)) = false
          rw [ih h.2]; rfl
    cases xs with
    | nil => exact (Bool.false_ne_true h).elim
    | cons x xs =>
      simp only [agXs_cc,Bool.and_eq_true] at h
      show ((false || (backTo pos (starEach es env)).any (·.1)) || false) = false
      rw [this h.2]; rfl

private theorem call_fn {A : Around} {env} {B : Fz} {ρ : Ev} {f : Addr} {ds vs K H s} {Q : Value → Shared → Prop} (hC : CallS c n C) (hA : AC n A) (h : C f ds K H) (r : R c B env ρ H s) (hv : VRs vs ds)
    (k : ∀ d H' v s',K d H' → VR v d → R c B env ρ H' s' → Q v s') : wpAny (model c.prog c.w) A (call (.ref f) vs) Q noE s :=
  wpAny_call (hC A f ds vs K H B env ρ s _ hA h r hv fun d H' v s' hd hr r' => k _ _ _ _ hd hr r')

private theorem call_snd (S : St c) (hC : CallS c n C) {f : X} {as : Xs} (ih : XS c n C f) (ihs : XsS c n C as) : XS c n C (.call f as) := by
  intro A sc env B ρ e' K H s Q hA hE h hw r k
  replace h := ag_call h
  rcases h with ⟨_,_,_,rfl,h⟩
  · rename_i f' as' p
    simp only [Bool.and_eq_true] at h
    obtain ⟨⟨⟨hf,h1⟩,h2⟩,h3⟩ := h
    simp only [wx_call] at hw
    refine PyProof.Rows.Call_ (ih A sc env B ρ _ _ H s _ hA hE h1 hw r fun d H' v s' hd hv r' => ?_) (by cases f' <;> first | rfl | (exact (Bool.false_ne_true hf).elim))
    split at hd
    · rename_i a
      cases hv.ref
      split at hd
      · rename_i fd hfd
        exact args_snd S ihs hA hE h2 hd r' (S.fnK _ _ hfd) fun ds H'' vs s'' hds hvs r'' => call_fn hC hA.ac hds r'' hvs k
      · split at hd
        · rename_i fi hfi
          obtain ⟨i1,i2,i3,i4⟩ := S.init _ _ hfi
          refine args_snd S ihs hA hE h2 hd r' i4 fun ds H'' vs s'' hds hvs r'' => wpAny_call ?_
          obtain ⟨hh,g,dd,t,os⟩ := s''
          have X := S.K.keeps fun b o e => r''.keep e
          refine make_core (makes_of X i1) (looks_findIn X i2) (fun self => bind_fn X self (beq_iff_eq.mp i3)) (.inl rfl) ?_
          have r1 := r''.alloc (o := emptyDict) (O := .attrs []) ⟨[],0,rfl,trivial⟩
          have r2 := r1.alloc (o := instObj a hh.objs.size) (O := .inst a hh.objs.size) rfl
          have f1 := r''.fresh
          have f2 := r''.push emptyDict |>.fresh
          have e1 : ({ heap := hh.push emptyDict,gens := g,drawn := dd,toks := t,os := os } : Shared).heap.objs.size = hh.objs.size + 1 := Heap.size_push ..
          dsimp only at f2 r2
          rw [e1] at f2 r2
          refine hC _ fi (.ref (hh.objs.size + 1) :: ds) (.ref (hh.objs.size + 1) :: vs) _ _ B env ρ _ _ hA.under (hds hh.objs.size (hh.objs.size + 1) f1 f2 (Nat.ne_of_lt (Nat.lt_succ_self _))) r2 (VRs.mk rfl hvs) fun d H3 v s3 hd3 hv3 r3 => ?_
          obtain ⟨rfl,hq⟩ := hd3
          cases hv3.none
          exact ⟨rfl,k _ _ _ _ hq rfl r3⟩
        · exact hd.elim
    · exact hd.elim

private theorem eval_mcall {o : PySem.Expr} {x : Str} {ap p : Pos} {args : List PySem.Expr} {env : Env} (h : notSup o = true) (hl : ap.endLine = p.line) (hn : args.length < 29) (hs : ∀ q ∈ starEach args env,q.1 = false) :
    eval (.Call (.Attribute o x ap) args [] p) env = (do
      let ov ← eval o env
      standAt ap.atName
      let (f,first) ← holding [ov] (getMethod ov x (do return (← importBound o env).getD true))
      callWith p f first (backTo p (starEach args env)) []) := by
  rw [arm_eval_Call,attrBase h]
  have hf : methodCallForm (args.length + ([] : List Keyword).length) (backTo p (starEach args env)) (backToKw p (keywordEach [] env)) = true := by
    unfold methodCallForm
    simp only [Bool.and_eq_true,List.all_eq_true,decide_eq_true_eq]
    refine ⟨⟨fun q hq => ?_,fun q hq => (nomatch hq)⟩,by have kz : keywordEach [] env = [] := rfl; simp [kz,backToKw]; lia⟩
    unfold backTo at hq
    obtain ⟨q',hq',rfl⟩ := List.mem_map.mp hq
    simp [hs q' hq']
  have hp : methodCallPos true o env ap p = pure p := by unfold methodCallPos; simp [hl]
  refine congrArg (Sem.bind (eval o env)) (funext fun ov => congrArg (Sem.bind (standAt ap.atName)) (funext fun u_ => ?_))
  unfold methodCall
  rw [hf,hp]
  rfl

private theorem stars_of {sc : Scope} {env : Env} : ∀ {xs : Xs} {es : List PySem.Expr},agXs c.nm sc xs es = true → ∀ q ∈ starEach es env,q.1 = false := by
  intro xs es
  induction es generalizing xs with
  | nil => intro _ q hq; nomatch hq
  | cons e es ih =>
    intro h
    cases xs with
    | nil => exact (Bool.false_ne_true h).elim
    | cons x xs =>
      simp only [agXs_cc,Bool.and_eq_true] at h
      rw [star_cons h.1.1]
      intro q hq
      rcases List.mem_cons.mp hq with rfl | hq
      · rfl
      · exact ih h.2 q hq

private theorem mcall_snd (S : St c) (hC : CallS c n C) {o : X} {f : Nat} {as : Xs} (ih : XS c n C o) (ihs : XsS c n C as) : XS c n C (.mcall o f as) := by
  intro A sc env B ρ e' K H s Q hA hE h hw r k
  replace h := ag_mcall h
  rcases h with ⟨_,_,_,_,_,rfl,h⟩
  · rename_i o' x ap as' p
    simp only [Bool.and_eq_true,beq_iff_eq,decide_eq_true_eq] at h
    obtain ⟨⟨⟨⟨⟨rfl,hs⟩,hl⟩,h1⟩,h2⟩,h3⟩ := h
    simp only [wx_mcall] at hw
    rw [eval_mcall hs hl h3 (stars_of h2)]
    refine wpAny_bind (ih A sc env B ρ _ _ H s _ hA hE h1 hw r fun d H' v s' hd hv r' => ?_)
    · refine wpAny_bind (wpAny_standAt (wpAny_bind (wpAny_holding ?_)))
      split at hd
      · rename_i a
        cases hv.ref
        split at hd
        · rename_i C' dx fs ha
          split at hd
          · rename_i g hg hl
            obtain ⟨a',es,m,e1,h1',h2',har,g1,g2,I⟩ := inst_of r' ha
            cases e1
            obtain ⟨⟨m1,m2⟩,m3,m4⟩ := S.meth _ _ _ hg
            have hh := AR.get c.inj (f := f) har
            rw [hl] at hh
            refine method_fn (S.K.keeps fun b o e => r'.keep e) I (plainGet_of m3).1 (plainGet_of m3).2 m1 (beq_iff_eq.mp m2) (by show (lookIn _ (dictOf es m)).map _ = _; rw [lookIn_dict,hh]; rfl) ?_
            exact args_snd S ihs hA hE h2 hd r' m4 fun ds H'' vs s'' hds hvs r'' => call_fn hC hA.ac hds r'' (VRs.mk rfl hvs) k
          · exact hd.elim
        · exact hd.elim
      · exact hd.elim
end
end Mine
end
section
open PySem PySem.W PyProof.Rows
namespace Mine
section
variable {c : Cx} {n : Nat} {C : CallT}

private theorem boot1 : bootBuiltins "len" = some (.builtin "len") ∧ bootBuiltins "chr" = some (.builtin "chr") ∧ bootBuiltins "ord" = some (.builtin "ord") ∧ bootBuiltins "sorted" = some (.builtin "sorted") ∧
    bootBuiltins "list" = some (.type "list") ∧ bootBuiltins "tuple" = some (.type "tuple") ∧ bootBuiltins "range" = some (.type "range") := by
  refine ⟨?_,?_,?_,?_,?_,?_,?_⟩ <;> decide +kernel

private theorem keeps_blt {M : Model} {f : Value} (hf : (∃ i,f = .builtin i) ∨ ∃ T,f = .type T) (h : Heap) (_ : True) : ∃ k,(k = Keeper.frame ∨ k = Keeper.machine ∨ k = Keeper.boundFrame) ∧ Looks M h (keeperOf f) k := by
  rcases hf with ⟨i,rfl⟩ | ⟨T,rfl⟩ <;> exact ⟨.machine,.inr (.inl rfl),Looks.of_pure rfl⟩

private theorem bcall1_snd {A : Around} {sc env} {B : Fz} {ρ : Ev} {b : Str} {bv : Value} {x : X} {e' : PySem.Expr} {K : K1} {H : Hp} {s : Shared} {Q : Value → Shared → Prop}
    (S : St c) (ih : XS c n C x) (hb : b ∈ (["len","chr","ord","sorted","list","tuple","range"] : List Str)) (hbv : bootBuiltins b = some bv) (hf : (∃ i,bv = .builtin i) ∨ ∃ T,bv = .type T)
    (hA : AX n A) (hE : EnvS sc env) (h : bcall1 sc b (agX c.nm sc x) e' = true) (hw : x.wp c.T C ρ K H) (r : R c B env ρ H s)
    (k : ∀ d H' v s',K d H' → VR v d → R c B env ρ H' s' → wpAny (model c.prog c.w) A (call bv [v]) Q noE s') :
    wpAny (model c.prog c.w) A (eval e' env) Q noE s := by
  replace h := bcall1_i h
  rcases h with ⟨_,_,_,_,rfl,h⟩
  · simp only [Bool.and_eq_true,beq_iff_eq] at h
    obtain ⟨⟨⟨rfl,hg⟩,hs⟩,hx⟩ := h
    refine PyProof.Rows.Call_ (bglob_at S hE r hg (S.noB _ hb) hbv ?_ ?_) rfl
    · rintro rfl
      simp at hb
      revert hb; decide
    · rw [star_cons hs]
      refine callWith_of rfl (P := fun u_ => True) (keeps_blt hf) (Calls.evalArgs_plain (Calls.spliced_cons (ih A sc env B ρ _ K H s _ hA hE hx hw r fun d H' v s' hd hv r' => ?_)))
      exact Calls.spliced_nil ⟨trivial,k _ _ _ _ hd hv r'⟩

private theorem bcall2_snd {A : Around} {sc env} {B : Fz} {ρ : Ev} {b : Str} {bv : Value} {x y : X} {e' : PySem.Expr} {K : D → D → Hp → Prop} {H : Hp} {s : Shared} {Q : Value → Shared → Prop}
    (S : St c) (ih : XS c n C x) (ih2 : XS c n C y) (hb : b ∈ (["len","chr","ord","sorted","list","tuple","range"] : List Str)) (hbv : bootBuiltins b = some bv) (hf : (∃ i,bv = .builtin i) ∨ ∃ T,bv = .type T)
    (hA : AX n A) (hE : EnvS sc env) (h : bcall2 sc b (agX c.nm sc x) (agX c.nm sc y) e' = true) (hw : x.wp c.T C ρ (fun d H => y.wp c.T C ρ (fun d' H => K d d' H) H) H) (r : R c B env ρ H s)
    (k : ∀ d d' H' v v' s',K d d' H' → VR v d → VR v' d' → R c B env ρ H' s' → wpAny (model c.prog c.w) A (call bv [v,v']) Q noE s') :
    wpAny (model c.prog c.w) A (eval e' env) Q noE s := by
  replace h := bcall2_i h
  rcases h with ⟨_,_,_,_,_,rfl,h⟩
  · simp only [Bool.and_eq_true,beq_iff_eq] at h
    obtain ⟨⟨⟨⟨⟨rfl,hg⟩,hs⟩,hs'⟩,hx⟩,hy⟩ := h
    refine PyProof.Rows.Call_ (bglob_at S hE r hg (S.noB _ hb) hbv ?_ ?_) rfl
    · rintro rfl
      simp at hb
      revert hb; decide
    · rw [star_cons hs,star_cons hs']
      refine callWith_of rfl (P := fun u_ => True) (keeps_blt hf) (Calls.evalArgs_plain (Calls.spliced_cons (ih A sc env B ρ _ _ H s _ hA hE hx hw r fun d H' v s' hd hv r' => ?_)))
      refine Calls.spliced_cons (ih2 A sc env B ρ _ _ H' s' _ hA hE hy hd r' fun d2 H2 v2 s2 hd2 hv2 r2 => ?_)
      exact Calls.spliced_nil ⟨trivial,k _ _ _ _ _ _ hd2 hv hv2 r2⟩

private theorem isList_of {B : Fz} {env ρ H s} (r : R c B env ρ H s) {a : Addr} {xs : List D} (h : H a = some (.list xs)) : ∃ vs k,s.heap.get? a = some (seqObj "list" vs k) ∧ s.heap.IsList a vs.toArray ∧ VRs vs xs := by
  obtain ⟨o,ho,vs,k,rfl,hv⟩ := r.ob _ _ h
  exact ⟨vs,k,ho,⟨_,ho,rfl,k,rfl⟩,hv⟩

private theorem isInts_of {B : Fz} {env ρ H s} (r : R c B env ρ H s) {a : Addr} {o : PySem.Obj} {xs : List D} (h : H a = some (.givn o xs)) : ∃ vs : List Value,s.heap.IsList a vs.toArray ∧ VRs vs xs := by
  obtain ⟨o',ho,hoo,hc,vs,k,hd,hv⟩ := r.ob _ _ h
  exact ⟨vs,⟨_,ho,hc,k,hd⟩,hv⟩
private theorem len_snd (S : St c) {e : X} (ih : XS c n C e) : XS c n C (.len e) := by
  intro A sc env B ρ e' K H s Q hA hE h hw r k
  have h : bcall1 sc "len" (agX c.nm sc _) e' = true := h
  simp only [wx_len] at hw
  refine bcall1_snd S ih (by simp) boot1.1 (.inl ⟨_,rfl⟩) hA hE h hw r fun d H' v s' hd hv r' => ?_
  split at hd
  · rename_i l
    obtain ⟨t,rfl⟩ := hv.str
    refine P.len_str ?_ (k _ _ _ _ hd.2 ?_ (r'.tok _))
    · have := hd.1; unfold Str.length; simp only [List.size_toArray]; unfold big at this; lia
    · show some (D.int ((Str.length _ : Nat) : Int)) = _
      simp [Str.length]
  · rename_i a
    cases hv.ref
    split at hd
    · rename_i xs hx
      obtain ⟨vs,m,h1,h2,h3⟩ := isList_of r' hx
      refine Calls.call_len_list h2 ?_ (k _ _ _ _ hd.2 ?_ (r'.tok _))
      · have := hd.1; rw [List.size_toArray,h3.length]; unfold big at this; lia
      · show some (D.int ((_ : Nat) : Int)) = _
        rw [List.size_toArray,h3.length]
    · rename_i xs hx
      obtain ⟨vs,h2,h3⟩ := isInts_of r' hx
      refine Calls.call_len_list h2 ?_ (k _ _ _ _ hd.2 ?_ (r'.tok _))
      · have := hd.1; rw [List.size_toArray,h3.length]; unfold big at this; lia
      · show some (D.int ((_ : Nat) : Int)) = _
        rw [List.size_toArray,h3.length]
    · exact hd.elim
  · exact hd.elim

private theorem chr_snd (S : St c) {e : X} (ih : XS c n C e) : XS c n C (.chr e) := by
  intro A sc env B ρ e' K H s Q hA hE h hw r k
  have h : bcall1 sc "chr" (agX c.nm sc _) e' = true := h
  simp only [wx_chr] at hw
  refine bcall1_snd S ih (by simp) boot1.2.1 (.inl ⟨_,rfl⟩) hA hE h hw r fun d H' v s' hd hv r' => ?_
  split at hd
  · rename_i i
    obtain ⟨t,rfl⟩ := hv.int
    exact PyProof.Rows.chr_of_range hd.1.1 (by have := hd.1.2; lia) (k _ _ _ _ hd.2 rfl (r'.tok _))
  · exact hd.elim

private theorem ord_snd (S : St c) {e : X} (ih : XS c n C e) : XS c n C (.ord e) := by
  intro A sc env B ρ e' K H s Q hA hE h hw r k
  have h : bcall1 sc "ord" (agX c.nm sc _) e' = true := h
  simp only [wx_ord] at hw
  refine bcall1_snd S ih (by simp) boot1.2.2.1 (.inl ⟨_,rfl⟩) hA hE h hw r fun d H' v s' hd hv r' => ?_
  split at hd
  · rename_i i
    obtain ⟨t,rfl⟩ := hv.str
    exact PyProof.Rows.ord_of_one rfl (k _ _ _ _ hd rfl (r'.tok _))
  · exact hd.elim

private theorem intsAre_of : ∀ {vs : List Value} {xs : List D} {is : List Int},VRs vs xs → intsOf xs = some is → IntsAre vs is
  | vs,[],is,h,e => by
    rw [h.nil]
    simp only [intsOf,Option.some.injEq] at e
    subst e
    exact .nil
  | vs,x :: xs,is,h,e => by
    obtain ⟨v,r,rfl,hv,hr⟩ := h.cons
    cases x <;> simp only [intsOf] at e <;> try (cases e; done)
    obtain ⟨js,hj,rfl⟩ := Option.map_eq_some_iff.mp e
    obtain ⟨t,rfl⟩ := hv.int
    exact .cons _ _ (intsAre_of hr hj)
private theorem vrs_of_ints : ∀ {vs : List Value} {is : List Int},IntsAre vs is → VRs vs (is.map .int)
  | _,_,.nil => rfl
  | _,_,.cons _ _ h => VRs.mk rfl (vrs_of_ints h)
private theorem strsAre_of : ∀ {vs : List Value} {xs : List D} {is : List (List Nat)},VRs vs xs → nodesOf xs = some is → StrsAre vs (is.map fun l => ⟨l.toArray⟩)
  | vs,[],is,h,e => by
    rw [h.nil]
    simp only [nodesOf,Option.some.injEq] at e
    subst e
    exact .nil
  | vs,x :: xs,is,h,e => by
    obtain ⟨v,r,rfl,hv,hr⟩ := h.cons
    cases x <;> simp only [nodesOf] at e <;> try (cases e; done)
    obtain ⟨js,hj,rfl⟩ := Option.map_eq_some_iff.mp e
    obtain ⟨t,rfl⟩ := hv.str
    exact .cons _ _ (strsAre_of hr hj)

private theorem sorted_snd (S : St c) {e : X} (ih : XS c n C e) : XS c n C (.sorted e) := by
  intro A sc env B ρ e' K H s Q hA hE h hw r k
  have h : bcall1 sc "sorted" (agX c.nm sc _) e' = true := h
  simp only [wx_sorted] at hw
  refine bcall1_snd S ih (by simp) boot1.2.2.2.1 (.inl ⟨_,rfl⟩) hA hE h hw r fun d H' v s' hd hv r' => ?_
  split at hd
  · rename_i a
    cases hv.ref
    split at hd
    · rename_i xs hx
      split at hd
      · rename_i is hi
        obtain ⟨vs,m,h1,h2,h3⟩ := isList_of r' hx
        refine sorted_ints h2 (intsAre_of h3 hi) (by rw [h3.length]; exact hd.1) fun out ns' a1 a2 a3 => ?_
        obtain ⟨ep,he⟩ := sortedAll_at s'.heap vs out
        have e1 : PyProof.Rows.seqObj "list" out ep = seqObj "list" out.toList ep := by simp [seqObj,PyProof.Rows.seqObj]
        rw [e1] at he
        exact k _ _ _ _ (hd.2 _ ns' (r'.noneH (Nat.le_succ _)) a2 a3) rfl (r'.grow (O := .list (ns'.map .int)) (fun b o e => sortedAll_old e) (Nat.le_succ _) he ⟨_,_,rfl,vrs_of_ints a1⟩)
      · exact hd.elim
    · exact hd.elim
  · exact hd.elim

private theorem rangeSz {lo hi : Int} : Builtin.Range.rangeSize lo hi 1 = ((hi - lo).toNat : Int) := by
  unfold Builtin.Range.rangeSize
  simp only [show (1 : Int) > 0 by decide,if_true,Int.ediv_one]
  split <;> lia
private theorem rangeSmall {lo hi : Int} (h1 : 0 ≤ lo) (h2 : hi ≤ 2000000) (h3 : lo ≤ 2000000) (h4 : -10 ≤ hi) : Builtin.Range.small lo hi 1 = true := small_one (by lia) (by lia) (by lia) (by lia)

private theorem range1_snd (S : St c) {e : X} (ih : XS c n C e) : XS c n C (.range1 e) := by
  intro A sc env B ρ e' K H s Q hA hE h hw r k
  have h : bcall1 sc "range" (agX c.nm sc _) e' = true := h
  simp only [wx_range1] at hw
  refine bcall1_snd S ih (by simp) boot1.2.2.2.2.2.2 (.inr ⟨_,rfl⟩) hA hE h hw r fun d H' v s' hd hv r' => ?_
  split at hd
  · rename_i i
    obtain ⟨t,rfl⟩ := hv.int
    exact call_range_1 (k _ _ _ _ (hd.2 _ r'.fresh) rfl ((r'.alloc (o := rangeObj 0 i s'.toks t (s'.toks + 1)) (O := .range 0 i) ⟨_,_,_,rfl⟩).tok _))
  · exact hd.elim
private theorem range2_snd (S : St c) {e e₂ : X} (ih : XS c n C e) (ih2 : XS c n C e₂) : XS c n C (.range2 e e₂) := by
  intro A sc env B ρ e' K H s Q hA hE h hw r k
  have h : bcall2 sc "range" (agX c.nm sc _) (agX c.nm sc _) e' = true := h
  simp only [wx_range2] at hw
  refine bcall2_snd S ih ih2 (by simp) boot1.2.2.2.2.2.2 (.inr ⟨_,rfl⟩) hA hE h hw r fun d d' H' v v' s' hd hv hv' r' => ?_
  split at hd
  · rename_i i j
    obtain ⟨t,rfl⟩ := hv.int
    obtain ⟨u,rfl⟩ := hv'.int
    exact call_range_2 (k _ _ _ _ (hd.2 _ r'.fresh) rfl ((r'.alloc (o := rangeObj i j t u s'.toks) (O := .range i j) ⟨_,_,_,rfl⟩).tok _))
  · exact hd.elim

private theorem items_map {P : Nat → Value → Prop} {f : Nat → D} : ∀ {acc : List Value} {i m : Nat},acc.length = m → (∀ j v,acc[j]? = some v → P (i + j) v) → (∀ j v,P j v → VR v (f j)) → VRs acc ((List.range' i m).map f)
  | [],i,m,h,_,_ => by subst h; rfl
  | a :: acc,i,m,h,h1,h2 => by
    subst h
    rw [List.length_cons,List.range'_succ,List.map_cons]
    refine VRs.mk (h2 _ _ (h1 0 a rfl)) (items_map rfl (fun j v e => ?_) h2)
    have := h1 (j + 1) v (by simpa using e)
    rwa [Nat.add_assoc,Nat.add_comm 1]

private theorem intsR_eq (lo : Int) : ∀ (m : Nat) (i : Nat),(List.range' i m).map (fun (j : Nat) => D.int (lo + j * 1)) = intsR (lo + i) m
  | 0,_ => rfl
  | m + 1,i => by
    rw [List.range'_succ,List.map_cons,intsR_eq lo m (i + 1)]
    show _ :: _ = _ :: _
    rw [Int.mul_one,show lo + ((i + 1 : Nat) : Int) = lo + i + 1 by lia]
private theorem signs_eq (l : List Nat) : (List.range' 0 l.length).map (fun j => D.str [l.getD j 0]) = l.map fun x => D.str [x] := by
  apply List.ext_getElem
  · simp
  · intro i h1 h2
    simp at h1 h2
    simp [h1]

private theorem listOf_snd (S : St c) {e : X} (ih : XS c n C e) : XS c n C (.listOf e) := by
  intro A sc env B ρ e' K H s Q hA hE h hw r k
  have h : bcall1 sc "list" (agX c.nm sc _) e' = true := h
  simp only [wx_listOf] at hw
  refine bcall1_snd S ih (by simp) boot1.2.2.2.2.1 (.inr ⟨_,rfl⟩) hA hE h hw r fun d H' v s' hd hv r' => ?_
  split at hd
  · rename_i l
    obtain ⟨t,rfl⟩ := hv.str
    refine call_list_str hA.handled ⟨l.toArray⟩ t (fun h' tk acc' c' hk hS hI => ?_) (by simp only [List.size_toArray]; have := hd.1; unfold big at this; unfold sizeLine; lia)
    have hV : VRs acc'.toList (l.map fun x => D.str [x]) := by
      rw [← signs_eq]
      refine items_map (P := SignAt ⟨l.toArray⟩) (i := 0) (by simpa using hI.1) (fun j v e => by rw [Nat.zero_add]; exact hI.2 j v (by simpa using e)) fun j v hp => ?_
      obtain ⟨x,u,h1,rfl⟩ := hp
      simp at h1
      show some _ = some _
      simp [List.getD_eq_getElem?_getD,h1]
    exact k _ _ _ _ (hd.2 _ r'.fresh) rfl (r'.grow hk (Nat.le_refl _) (o := seqObj "list" acc'.toList c') (O := .list (l.map fun x => D.str [x])) (by rw [hS]) ⟨_,_,rfl,hV⟩)
  · rename_i b
    cases hv.ref
    split at hd
    · rename_i lo hi hx
      obtain ⟨o,ho,t1,t2,t3,rfl⟩ := r'.ob _ _ hx
      refine call_list_range hA.handled ho ?_ rangeSz ?_ fun h' tk acc' c' hk hS hI => ?_
      · have := hd.1; unfold big at this; exact rangeSmall (by lia) (by lia) (by lia) (by lia)
      · have := hd.1; unfold big at this; lia
      · have hV : VRs acc'.toList (intsR lo (hi - lo).toNat) := by
          have e := intsR_eq lo (hi - lo).toNat 0
          rw [show lo + ((0 : Nat) : Int) = lo by lia] at e
          rw [← e]
          refine items_map (P := fun i v => ∃ t,v = .int (lo + i * 1) t) (i := 0) (by rw [Array.length_toList]; exact hI.1) (fun j v e => by rw [Nat.zero_add]; exact hI.2 j v (by simpa using e)) fun j v hp => ?_
          obtain ⟨t,rfl⟩ := hp
          rfl
        exact k _ _ _ _ (hd.2 _ r'.fresh) rfl (r'.grow hk (Nat.le_refl _) (o := seqObj "list" acc'.toList c') (O := .list (intsR lo (hi - lo).toNat)) (by rw [hS]) ⟨_,_,rfl,hV⟩)
    · exact hd.elim
  · exact hd.elim

private theorem tupleOf_snd (S : St c) {e : X} (ih : XS c n C e) : XS c n C (.tupleOf e) := by
  intro A sc env B ρ e' K H s Q hA hE h hw r k
  have h : bcall1 sc "tuple" (agX c.nm sc _) e' = true := h
  simp only [wx_tupleOf] at hw
  refine bcall1_snd S ih (by simp) boot1.2.2.2.2.2.1 (.inr ⟨_,rfl⟩) hA hE h hw r fun d H' v s' hd hv r' => ?_
  split at hd
  · rename_i b
    cases hv.ref
    split at hd
    · rename_i xs hx
      obtain ⟨vs,m,h1,h2,h3⟩ := isList_of r' hx
      refine call_tuple_list h2 (fun h' hk => ?_) (by simp only [List.size_toArray]; rw [h3.length]; have := hd.1; unfold big at this; unfold sizeLine; lia)
      have rr : R c B env ρ H' { s' with heap := h' } := r'.more hk
      exact k _ _ _ _ (hd.2 _ rr.fresh) rfl (rr.alloc (o := seqObj "tuple" vs 0) (O := .tuple xs) ⟨_,_,rfl,h3⟩)
    · exact hd.elim
  · exact hd.elim
end
end Mine
end
section
open PySem PySem.W PyProof.Rows
namespace Mine
section
variable {c : Cx} {n : Nat} {C : CallT}

noncomputable def XT (c : Cx) (n : Nat) (C : CallT) (x : X) : Prop :=
  ∀ (A : Around) (sc : Scope) (env : Env) (B : Fz) (ρ : Ev) (e' : PySem.Expr) (K : K1) (H : Hp) (s : Shared) (Q : Bool → Shared → Prop),
    AX n A → EnvS sc env → agX c.nm sc x e' = true → (∀ d H',K d H' → ∃ b,d = .bool b) → x.wp c.T C ρ K H → R c B env ρ H s → (∀ b H' s',K (.bool b) H' → R c B env ρ H' s' → Q b s') →
    wpAny (model c.prog c.w) A (isTrue e' env (eval e' env)) Q noE s

noncomputable def plainT (e : PySem.Expr) : Bool := !(Nat.beq e.ctorIdx 0) && !(Nat.beq e.ctorIdx 5) && !(Nat.beq e.ctorIdx 15) && !(e_UnaryOp e fun o u_ u_ => decide (o = .Not))
private theorem isTrue_eq {e : PySem.Expr} {env : Env} {whole : Sem Value} (h : plainT e = true) : isTrue e env whole = (do let v ← whole; standAt e.pos; holding [v] (truthy v)) := by
  cases e with
  | UnaryOp op x p => cases op <;> first | rfl | (exact (Bool.false_ne_true h).elim)
  | BoolOp => exact (Bool.false_ne_true h).elim
  | IfExp => exact (Bool.false_ne_true h).elim
  | Compare => exact (Bool.false_ne_true h).elim
  | _ => rfl
noncomputable def plainX (x : X) : Bool := !(Nat.ble 21 x.ctorIdx && Nat.ble x.ctorIdx 25) && !(Nat.beq x.ctorIdx 28)
private theorem bcall1_plain {sc b ag e'} (h : bcall1 sc b ag e' = true) : plainT e' = true := by
  obtain ⟨_,_,_,_,rfl,_⟩ := bcall1_i h; rfl
private theorem bcall2_plain {sc b ag ag' e'} (h : bcall2 sc b ag ag' e' = true) : plainT e' = true := by
  obtain ⟨_,_,_,_,_,rfl,_⟩ := bcall2_i h; rfl
private theorem mcall1_plain {b ag ag' e'} (h : mcall1 b ag ag' e' = true) : plainT e' = true := by
  obtain ⟨_,_,_,_,_,rfl,_⟩ := mcall1_i h; rfl
private theorem plain_of {nm : Nat → Str} {sc : Scope} {x : X} {e' : PySem.Expr} (hx : plainX x = true) (h : agX nm sc x e' = true) : plainT e' = true := by
  cases x with
  | none => obtain ⟨_,_,rfl,_⟩ := ag_none h; rfl
  | bool => obtain ⟨_,_,_,rfl,_⟩ := ag_bool h; rfl
  | int => obtain ⟨_,_,_,rfl,_⟩ := ag_int h; rfl
  | str => obtain ⟨_,_,_,rfl,_⟩ := ag_str h; rfl
  | loc => obtain ⟨_,_,rfl,_⟩ := ag_loc h; rfl
  | cel => obtain ⟨_,_,rfl,_⟩ := ag_cel h; rfl
  | glo => obtain ⟨_,_,rfl,_⟩ := ag_glo h; rfl
  | attr => obtain ⟨_,_,_,rfl,_⟩ := ag_attr h; rfl
  | call => obtain ⟨_,_,_,rfl,_⟩ := ag_call h; rfl
  | mcall => obtain ⟨_,_,_,_,_,rfl,_⟩ := ag_mcall h; rfl
  | neg => obtain ⟨_,_,rfl,_⟩ := ag_neg h; rfl
  | bin => obtain ⟨_,_,_,_,rfl,_⟩ := ag_bin h; rfl
  | sub => obtain ⟨_,_,_,rfl,_⟩ := ag_sub h; rfl
  | slice => obtain ⟨_,_,_,_,_,rfl,_⟩ := ag_slice h; rfl
  | list => obtain ⟨_,_,rfl,_⟩ := ag_list h; rfl
  | tuple => obtain ⟨_,_,_,rfl,_⟩ := ag_tuple h; rfl
  | dict => obtain ⟨_,_,_,rfl,_⟩ := ag_dict h; rfl
  | comp => obtain ⟨_,_,_,_,_,rfl,_⟩ := ag_comp h; rfl
  | len => exact bcall1_plain (sc := sc) (b := "len") h
  | chr => exact bcall1_plain (sc := sc) (b := "chr") h
  | ord => exact bcall1_plain (sc := sc) (b := "ord") h
  | sorted => exact bcall1_plain (sc := sc) (b := "sorted") h
  | listOf => exact bcall1_plain (sc := sc) (b := "list") h
  | tupleOf => exact bcall1_plain (sc := sc) (b := "tuple") h
  | range1 => exact bcall1_plain (sc := sc) (b := "range") h
  | range2 => exact bcall2_plain (sc := sc) (b := "range") h
  | append => exact mcall1_plain (b := "append") h
  | join => exact mcall1_plain (b := "join") h
  | update => exact mcall1_plain (b := "update") h
  | cmp => exact (Bool.false_ne_true hx).elim
  | chain => exact (Bool.false_ne_true hx).elim
  | isin => exact (Bool.false_ne_true hx).elim
  | bop => exact (Bool.false_ne_true hx).elim
  | not => exact (Bool.false_ne_true hx).elim
  | ite => exact (Bool.false_ne_true hx).elim
private theorem plain_T {x : X} (hx : plainX x = true) (ih : XS c n C x) : XT c n C x := by
  intro A sc env B ρ e' K H s Q hA hE h hb hw r k
  refine PyProof.Rows.isTrue_plain (ih A sc env B ρ e' K H s _ hA hE h hw r fun d H' v s' hd hv r' => ?_) (isTrue_eq (plain_of hx h))
  obtain ⟨b,rfl⟩ := hb _ _ hd
  exact truthy_snd hv (k _ _ _ hd r')

private theorem inMarks {op : CmpOp} {r : PySem.Expr} (h : notSet r = true) : behindInMarks op r = false := by
  cases r <;> first | rfl | (exact (Bool.false_ne_true h).elim)

mutual
noncomputable def trP : Tr → PyData
  | .none => .none
  | .bool b => .bool b
  | .int i => .int i
  | .str s => .str ⟨s.toArray⟩
  | .tuple l => .tuple (trPs l)
  | .list l => .list (trPs l)
noncomputable def trPs : List Tr → List PyData
  | [] => []
  | t :: ts => trP t :: trPs ts
end
mutual
private theorem rd_reads {B : Fz} {env ρ H s} (r : R c B env ρ H s) : ∀ (t : Tr) (d : D) (v : Value),Rd H t d → VR v d → ∃ as,Reads s.heap v (trP t) as
  | .none,d,v,h,hv => by
    simp only [Rd] at h; subst h
    cases hv.none
    exact ⟨_,.none⟩
  | .bool b,d,v,h,hv => by
    simp only [Rd] at h; subst h
    cases hv.bool
    exact ⟨_,.bool _⟩
  | .int b,d,v,h,hv => by
    simp only [Rd] at h; subst h
    obtain ⟨t,rfl⟩ := hv.int
    exact ⟨_,.int _ _⟩
  | .str b,d,v,h,hv => by
    simp only [Rd] at h; subst h
    obtain ⟨t,rfl⟩ := hv.str
    exact ⟨_,.str _ _⟩
  | .tuple l,d,v,h,hv => by
    simp only [Rd] at h
    obtain ⟨a,xs,rfl,ha,hl⟩ := h
    cases hv.ref
    obtain ⟨o,ho,vs,m,rfl,hvs⟩ := r.ob _ _ ha
    obtain ⟨as,q⟩ := rds_reads r l xs vs hl hvs
    exact ⟨_,.tuple ho rfl rfl q⟩
  | .list l,d,v,h,hv => by
    simp only [Rd] at h
    obtain ⟨a,xs,rfl,ha,hl⟩ := h
    cases hv.ref
    obtain ⟨o,ho,vs,m,rfl,hvs⟩ := r.ob _ _ ha
    obtain ⟨as,q⟩ := rds_reads r l xs vs hl hvs
    exact ⟨_,.list ho rfl rfl q⟩
private theorem rds_reads {B : Fz} {env ρ H s} (r : R c B env ρ H s) : ∀ (t : List Tr) (d : List D) (v : List Value),Rds H t d → VRs v d → ∃ as,ReadsAll s.heap v (trPs t) as
  | [],d,v,h,hv => by
    simp only [Rds] at h; subst h
    rw [hv.nil]
    exact ⟨_,.nil⟩
  | t :: ts,d,v,h,hv => by
    simp only [Rds] at h
    obtain ⟨x,xs,rfl,h1,h2⟩ := h
    obtain ⟨u,us,rfl,hu,hus⟩ := hv.cons
    obtain ⟨as,q⟩ := rd_reads r t x u h1 hu
    obtain ⟨bs,q'⟩ := rds_reads r ts xs us h2 hus
    exact ⟨_,.cons q q'⟩
end
private theorem tr_lay : ∀ (n : Nat) (t : Tr),okT n t = true → (trP t).canLay0 = true ∧ (trP t).depth ≤ n := by
  have all : ∀ (n : Nat),(∀ d,okT n d = true → (trP d).canLay0 = true ∧ (trP d).depth ≤ n) → ∀ ds : List Tr,(∀ d ∈ ds,okT n d = true) → PyData.canLayAll0 (trPs ds) = true ∧ PyData.depthAll (trPs ds) ≤ n := by
    intro n ih ds
    induction ds with
    | nil => intro _; simp [trPs,PyData.canLayAll0,PyData.depthAll]
    | cons d ds hi =>
      intro h
      have h1 := ih d (h d (.head _))
      have h2 := hi fun e he => h e (.tail _ he)
      simp only [trPs,PyData.canLayAll0,PyData.depthAll,h1.1,h2.1,Bool.and_self,true_and]
      have a1 := h1.2
      have a2 := h2.2
      lia
  have str : ∀ (s : List Nat),(s.all fun c => decide (c < 1114112)) = true → PyData.strOk ⟨s.toArray⟩ = true := by
    intro s h
    unfold PyData.strOk
    simpa using h
  intro n
  induction n with
  | zero =>
    intro t h
    cases t with
    | str s => replace h : (s.all fun c => decide (c < 1114112)) = true := h; simp [trP,PyData.canLay0,PyData.depth,str s h]
    | tuple => exact (Bool.false_ne_true h).elim
    | list => exact (Bool.false_ne_true h).elim
    | _ => simp [trP,PyData.canLay0,PyData.depth]
  | succ n ih =>
    intro t h
    cases t with
    | none => simp [trP,PyData.canLay0,PyData.depth]
    | bool b => simp [trP,PyData.canLay0,PyData.depth]
    | int i => simp [trP,PyData.canLay0,PyData.depth]
    | str x => replace h : (x.all fun c => decide (c < 1114112)) = true := h; simp [trP,PyData.canLay0,PyData.depth,str x h]
    | tuple ds =>
      have q := all n ih ds (by simpa using (show ds.all (okT n) = true from h))
      have q2 := q.2
      simp only [trP,PyData.canLay0,PyData.depth,q.1,true_and]
      lia
    | list ds =>
      have q := all n ih ds (by simpa using (show ds.all (okT n) = true from h))
      have q2 := q.2
      simp only [trP,PyData.canLay0,PyData.depth,q.1,true_and]
      lia
private theorem ne_snd {A : Around} {B : Fz} {env ρ H s} (r : R c B env ρ H s) (hA : AX n A) {t : Tr} {a b : Addr} {Q : Value → Shared → Prop} {E} (ht : okT 9 t = true) (h1 : Rd H t (.ref a)) (h2 : Rd H t (.ref b)) (k : Q (.bool false) s) :
    wpAny (model c.prog c.w) A (compareOp .NotEq (.ref a) (.ref b)) Q E s := by
  obtain ⟨as,r1⟩ := rd_reads r t _ (.ref a) h1 rfl
  obtain ⟨bs,r2⟩ := rd_reads r t _ (.ref b) h2 rfl
  obtain ⟨l1,l2⟩ := tr_lay 9 t ht
  have hs : SeqAt.shaped (trP t) = true := by unfold SeqAt.shaped; rw [l1,Bool.true_and]; exact decide_eq_true (Nat.le_trans l2 (by decide))
  refine ne_dataH r1 r2 hs hs ?_ ?_
  · have := hA.units; unfold cLine; lia
  · rw [SeqAt.eqv_refl _ l1]; exact k

private theorem cmpmid {A : Around} {B : Fz} {env ρ H s} (r : R c B env ρ H s) (hA : AX n A) {op : Cm} {d d' : D} {v v' : Value} {K : K1} {Q : Value → Shared → Prop} {E}
    (h : match op,d,d' with
      | .ne,.ref a,.ref b => ∃ t,okT 9 t = true ∧ Rd H t (.ref a) ∧ Rd H t (.ref b) ∧ K (.bool false) H
      | op,d,d' => match cmpop op d d' with
        | some b => K (.bool b) H
        | none => False) (hv : VR v d) (hv' : VR v' d') (k : ∀ b,K (.bool b) H → Q (.bool b) s) : wpAny (model c.prog c.w) A (compareOp (cmOf op) v v') Q E s := by
  split at h
  · obtain ⟨t,h1,h2,h3,h4⟩ := h
    cases hv.ref
    cases hv'.ref
    exact ne_snd r hA h1 h2 h3 (k _ h4)
  · split at h
    · rename_i b hb
      exact cmp_snd hb hv hv' (k _ h)
    · exact h.elim
private theorem cmp_s {op : Cm} {l r : X} (ihl : XS c n C l) (ihr : XS c n C r) : XS c n C (.cmp op l r) ∧ XT c n C (.cmp op l r) := by
  constructor
  · intro A sc env B ρ e' K H s Q hA hE h hw r k
    replace h := ag_cmp h
    rcases h with ⟨_,_,_,_,rfl,h⟩
    · simp only [Bool.and_eq_true,decide_eq_true_eq] at h
      obtain ⟨⟨⟨rfl,hs⟩,hl⟩,hr⟩ := h
      simp only [wx_cmp] at hw
      refine wpAny_Compare1 (ihl A sc env B ρ _ _ H s _ hA hE hl hw r fun d H' v s' hd hv r' => ?_) (inMarks hs)
      refine ihr A sc env B ρ _ _ H' s' _ hA hE hr hd r' fun d2 H2 v2 s2 hd2 hv2 r2 => ?_
      exact cmpmid r2 hA hd2 hv hv2 fun b hk => k _ _ _ _ hk rfl r2
  · intro A sc env B ρ e' K H s Q hA hE h hb hw r k
    replace h := ag_cmp h
    rcases h with ⟨_,_,_,_,rfl,h⟩
    · simp only [Bool.and_eq_true,decide_eq_true_eq] at h
      obtain ⟨⟨⟨rfl,hs⟩,hl⟩,hr⟩ := h
      simp only [wx_cmp] at hw
      refine wpAny_isTrue_Compare1 (ihl A sc env B ρ _ _ H s _ hA hE hl hw r fun d H' v s' hd hv r' => ?_) (inMarks hs)
      refine ihr A sc env B ρ _ _ H' s' _ hA hE hr hd r' fun d2 H2 v2 s2 hd2 hv2 r2 => ?_
      exact cmpmid r2 hA hd2 hv hv2 fun b hk => truthy_snd rfl (k _ _ _ hk r2)

private theorem chain_s {o₁ o₂ : Cm} {l m r : X} (ihl : XS c n C l) (ihm : XS c n C m) (ihr : XS c n C r) : XS c n C (.chain o₁ o₂ l m r) ∧ XT c n C (.chain o₁ o₂ l m r) := by
  constructor
  · intro A sc env B ρ e' K H s Q hA hE h hw r k
    replace h := ag_chain h
    rcases h with ⟨_,_,_,_,_,_,rfl,h⟩
    · simp only [Bool.and_eq_true,decide_eq_true_eq] at h
      obtain ⟨⟨⟨⟨⟨⟨rfl,rfl⟩,hs⟩,hs'⟩,hl⟩,hm⟩,hr⟩ := h
      simp only [wx_chain] at hw
      refine Compare_chain (ihl A sc env B ρ _ _ H s _ hA hE hl hw r fun d H' v s' hd hv r' => ?_) (by show behindInMarks _ _ = false; exact inMarks hs')
      refine chain_link (ihm A sc env B ρ _ _ H' s' _ hA hE hm hd r' fun d2 H2 v2 s2 hd2 hv2 r2 => ?_)
      split at hd2
      · rename_i hb
        refine cmp_snd hb hv hv2 (truthy_snd rfl ?_)
        rw [if_pos rfl]
        refine chain_last (ihr A sc env B ρ _ _ H2 s2 _ hA hE hr hd2 r2 fun d3 H3 v3 s3 hd3 hv3 r3 => ?_)
        split at hd3
        · rename_i b hb
          exact cmp_snd hb hv2 hv3 (k _ _ _ _ hd3 rfl r3)
        · exact hd3.elim
      · rename_i hb
        refine cmp_snd hb hv hv2 (truthy_snd rfl ?_)
        rw [if_neg (by simp)]
        exact k _ _ _ _ hd2 rfl r2
      · exact hd2.elim
  · intro A sc env B ρ e' K H s Q hA hE h hb hw r k
    replace h := ag_chain h
    rcases h with ⟨_,_,_,_,_,_,rfl,h⟩
    · simp only [Bool.and_eq_true,decide_eq_true_eq] at h
      obtain ⟨⟨⟨⟨⟨⟨rfl,rfl⟩,hs⟩,hs'⟩,hl⟩,hm⟩,hr⟩ := h
      simp only [wx_chain] at hw
      refine isTrue_chain (ihl A sc env B ρ _ _ H s _ hA hE hl hw r fun d H' v s' hd hv r' => ?_) (by show behindInMarks _ _ = false; exact inMarks hs')
      refine test_link (ihm A sc env B ρ _ _ H' s' _ hA hE hm hd r' fun d2 H2 v2 s2 hd2 hv2 r2 => ?_)
      split at hd2
      · rename_i hb
        refine cmp_snd hb hv hv2 (truthy_snd rfl ?_)
        rw [if_pos rfl]
        refine test_last (ihr A sc env B ρ _ _ H2 s2 _ hA hE hr hd2 r2 fun d3 H3 v3 s3 hd3 hv3 r3 => ?_)
        split at hd3
        · rename_i b hb
          exact cmp_snd hb hv2 hv3 (truthy_snd rfl (k _ _ _ hd3 r3))
        · exact hd3.elim
      · rename_i hb
        refine cmp_snd hb hv hv2 (truthy_snd rfl ?_)
        rw [if_neg (by simp)]
        exact k _ _ _ hd2 r2
      · exact hd2.elim

private theorem not_s {x : X} (ih : XS c n C x) (iht : XT c n C x) : XS c n C (.not x) ∧ XT c n C (.not x) := by
  constructor
  · intro A sc env B ρ e' K H s Q hA hE h hw r k
    replace h := ag_not h
    rcases h with ⟨_,_,rfl,h⟩
    · simp only [wx_not] at hw
      refine UnaryOp_ (ih A sc env B ρ _ _ H s _ hA hE h hw r fun d H' v s' hd hv r' => ?_)
      split at hd
      · exact not_of (truthy_snd hv (k _ _ _ _ hd rfl r'))
      · exact hd.elim
  · intro A sc env B ρ e' K H s Q hA hE h hb hw r k
    replace h := ag_not h
    rcases h with ⟨_,_,rfl,h⟩
    · simp only [wx_not] at hw
      refine isTrue_not (iht A sc env B ρ _ _ H s _ hA hE h (fun d H' hd => ?_) hw r fun b H' s' hd r' => k _ _ _ hd r')
      split at hd
      · exact ⟨_,rfl⟩
      · exact hd.elim
private theorem neg_snd {x : X} (ih : XS c n C x) : XS c n C (.neg x) := by
  intro A sc env B ρ e' K H s Q hA hE h hw r k
  replace h := ag_neg h
  rcases h with ⟨_,_,rfl,h⟩
  · simp only [wx_neg] at hw
    refine UnaryOp_ (ih A sc env B ρ _ _ H s _ hA hE h hw r fun d H' v s' hd hv r' => ?_)
    split at hd
    · obtain ⟨t,rfl⟩ := hv.int
      exact neg_int (k _ _ _ _ hd rfl (r'.tok _))
    · exact hd.elim
private theorem ite_s {t a b : X} (iht : XT c n C t) (iha : XS c n C a) (ihb : XS c n C b) (iha' : XT c n C a) (ihb' : XT c n C b) : XS c n C (.ite t a b) ∧ XT c n C (.ite t a b) := by
  constructor
  · intro A sc env B ρ e' K H s Q hA hE h hw r k
    replace h := ag_ite h
    rcases h with ⟨_,_,_,_,rfl,h⟩
    · simp only [Bool.and_eq_true] at h
      obtain ⟨⟨ht,ha⟩,hb⟩ := h
      simp only [wx_ite] at hw
      refine IfExp_ (iht A sc env B ρ _ _ H s _ hA hE ht (fun d H' hd => ?_) hw r fun q H' s' hd r' => ?_)
      · split at hd
        · exact ⟨_,rfl⟩
        · exact ⟨_,rfl⟩
        · exact hd.elim
      · cases q with
        | true => rw [if_pos rfl]; exact iha A sc env B ρ _ _ H' s' _ hA hE ha hd r' k
        | false => rw [if_neg (by simp)]; exact ihb A sc env B ρ _ _ H' s' _ hA hE hb hd r' k
  · intro A sc env B ρ e' K H s Q hA hE h hbl hw r k
    replace h := ag_ite h
    rcases h with ⟨_,_,_,_,rfl,h⟩
    · simp only [Bool.and_eq_true] at h
      obtain ⟨⟨ht,ha⟩,hb⟩ := h
      simp only [wx_ite] at hw
      refine isTrue_IfExp (iht A sc env B ρ _ _ H s _ hA hE ht (fun d H' hd => ?_) hw r fun q H' s' hd r' => ?_)
      · split at hd
        · exact ⟨_,rfl⟩
        · exact ⟨_,rfl⟩
        · exact hd.elim
      · cases q with
        | true => rw [if_pos rfl]; exact iha' A sc env B ρ _ _ H' s' _ hA hE ha hbl hd r' k
        | false => rw [if_neg (by simp)]; exact ihb' A sc env B ρ _ _ H' s' _ hA hE hb hbl hd r' k
end
end Mine
end
section
open PySem PySem.W PyProof.Rows
namespace Mine
section
variable {c : Cx} {n : Nat} {C : CallT}

private theorem isTup_of {B : Fz} {env ρ H s} (r : R c B env ρ H s) {a : Addr} {xs : List D} (h : H a = some (.tuple xs)) : ∃ vs,IsTup s.heap a vs.toArray ∧ VRs vs xs := by
  obtain ⟨o,ho,vs,k,rfl,hv⟩ := r.ob _ _ h
  exact ⟨vs,⟨_,ho,rfl,k,rfl⟩,hv⟩
private theorem dpa : ∀ {ps : List (Str × Value)} {kvs : List (List Nat × D)},DP ps kvs → ∀ (l : List Nat),
    match lookS l kvs with | some d => ∃ v,valueAt ps ⟨l.toArray⟩ = some v ∧ VR v d | none => valueAt ps ⟨l.toArray⟩ = none
  | [],[],_,l => by simp [lookS,valueAt]
  | e :: es,(k,d) :: r,h,l => by
    obtain ⟨⟨h1,h2⟩,h3⟩ := h
    have ih := dpa h3 l
    unfold lookS
    by_cases q : k = l
    · subst q
      simp only [if_true]
      exact ⟨e.2,by simp [valueAt,h1],h2⟩
    · simp only [if_neg q]
      have e1 : valueAt (e :: es) ⟨l.toArray⟩ = valueAt es ⟨l.toArray⟩ := by
        unfold valueAt
        have : ¬ (e.1 = ⟨l.toArray⟩) := by
          rw [h1]; intro z; apply q; injection z with z; simpa using congrArg Array.toList z
        simp [this]
      rw [e1]; exact ih
  | [],_ :: _,h,_ => h.elim
  | _ :: _,[],h,_ => h.elim
private theorem dict_of {B : Fz} {env ρ H s} (S : St c) (r : R c B env ρ H s) {a : Addr} {kvs : List (List Nat × D)} (h : H a = some (.dict kvs)) :
    ∃ ps,s.heap.DictOf (strKind c.prog c.w) a ps ∧ DP ps kvs ∧ (a == sysModules) = false := by
  obtain ⟨o,ho,ps,h1,h2⟩ := r.ob _ _ h
  refine ⟨ps,Heap.dictOf_iff.mpr ⟨o,ho,h1⟩,h2,?_⟩
  by_cases q : a = sysModules
  · subst q
    obtain ⟨o',h'⟩ := S.sys
    rw [(r.fz _ _ (r.base _ _ h')).2] at h; cases h
  · simpa using q

private theorem strs_any {l : List (List Nat)} {k : List Nat} : (l.map fun l => (⟨l.toArray⟩ : Str)).any (· == ⟨k.toArray⟩) = decide (k ∈ l) := by
  rw [Bool.eq_iff_iff]
  simp
private theorem ints_any {l : List Int} {k : Int} : l.any (· == k) = decide (k ∈ l) := by
  rw [Bool.eq_iff_iff]
  simp

private theorem isinA_i {d : D} {o : Option AO} {b : Bool} (h : isinA d o = some b) :
    (∃ l xs,d = .str l ∧ o = some (.list xs) ∧ (nodesOf xs).map (fun y => decide (l ∈ y)) = some b) ∨ (∃ l xs,d = .str l ∧ o = some (.tuple xs) ∧ (nodesOf xs).map (fun y => decide (l ∈ y)) = some b) ∨
    (∃ i xs,d = .int i ∧ o = some (.tuple xs) ∧ (intsOf xs).map (fun y => decide (i ∈ y)) = some b) ∨ (∃ l kvs,d = .str l ∧ o = some (.dict kvs) ∧ some (lookS l kvs).isSome = some b) := by
  cases o with
  | none => cases h
  | some o => cases o with
    | list xs => cases d with
      | str l => exact .inl ⟨_,_,rfl,rfl,h⟩
      | _ => cases h
    | tuple xs => cases d with
      | str l => exact .inr (.inl ⟨_,_,rfl,rfl,h⟩)
      | int l => exact .inr (.inr (.inl ⟨_,_,rfl,rfl,h⟩))
      | _ => cases h
    | dict xs => cases d with
      | str l => exact .inr (.inr (.inr ⟨_,_,rfl,rfl,h⟩))
      | _ => cases h
    | _ => cases h
private theorem in_snd {A : Around} {B : Fz} {env ρ H s} (S : St c) (r : R c B env ρ H s) {neg : Bool} {d d' : D} {v v' : Value} {b : Bool} {Q : Value → Shared → Prop} {E} (h : isinD H d d' = some b) (hv : VR v d) (hv' : VR v' d')
    (k : ∀ s',R c B env ρ H s' → Q (.bool (b != neg)) s') : wpAny (model c.prog c.w) A (compareOp (if neg then .NotIn else .In) v v') Q E s := by
  cases d' with
  | str t =>
    cases d with
    | str q =>
      match q,h with
      | [x],h =>
        cases h
        obtain ⟨u,rfl⟩ := hv.str
        obtain ⟨u',rfl⟩ := hv'.str
        have e : (!(Builtin.Str.occurrences ⟨t.toArray⟩ ⟨#[x]⟩ 0 (Str.length ⟨t.toArray⟩) 1).isEmpty) = t.contains x := by
          rw [StrLaws.found_one]
          rw [Bool.eq_iff_iff]; simp
        cases neg with
        | false => refine P.in_str ?_; rw [show (⟨[x].toArray⟩ : Str) = ⟨#[x]⟩ by rfl,e]; simpa using k s r
        | true => refine P.notIn_str ?_; rw [show (⟨[x].toArray⟩ : Str) = ⟨#[x]⟩ by rfl,e]; simpa using k s r
    | _ => cases h
  | ref a =>
    cases hv'.ref
    replace h : isinA d (H a) = some b := h
    rcases isinA_i h with ⟨l,xs,rfl,hx,h⟩ | ⟨l,xs,rfl,hx,h⟩ | ⟨l,xs,rfl,hx,h⟩ | ⟨l,kvs,rfl,hx,h⟩
    · obtain ⟨ys,hy,rfl⟩ := Option.map_eq_some_iff.mp h
      obtain ⟨vs,m,h1,h2,h3⟩ := isList_of r hx
      obtain ⟨u,rfl⟩ := hv.str
      cases neg with
      | false => refine in_list_strs h2 (strsAre_of h3 hy) ?_; rw [strs_any]; simpa using k s r
      | true => refine notin_list_strs h2 (strsAre_of h3 hy) ?_; rw [strs_any]; simpa using k s r
    · obtain ⟨ys,hy,rfl⟩ := Option.map_eq_some_iff.mp h
      obtain ⟨vs,h2,h3⟩ := isTup_of r hx
      obtain ⟨u,rfl⟩ := hv.str
      cases neg with
      | false => refine in_tuple_strs h2 (strsAre_of h3 hy) ?_; rw [strs_any]; simpa using k s r
      | true => refine notin_tuple_strs h2 (strsAre_of h3 hy) ?_; rw [strs_any]; simpa using k s r
    · obtain ⟨ys,hy,rfl⟩ := Option.map_eq_some_iff.mp h
      obtain ⟨vs,h2,h3⟩ := isTup_of r hx
      obtain ⟨u,rfl⟩ := hv.int
      cases neg with
      | false => refine in_tuple_ints h2 (intsAre_of h3 hy) ?_; rw [ints_any]; simpa using k s r
      | true => refine notin_tuple_ints h2 (intsAre_of h3 hy) ?_; rw [ints_any]; simpa using k s r
    · cases h
      obtain ⟨ps,h1,h2,h3⟩ := dict_of S r hx
      obtain ⟨u,rfl⟩ := hv.str
      have e : (valueAt ps ⟨l.toArray⟩).isSome = (lookS l kvs).isSome := by
        have := dpa h2 l
        split at this
        · rename_i hl; obtain ⟨v,e,_⟩ := this; rw [e,hl]; rfl
        · rename_i hl; rw [this,hl]; rfl
      cases neg with
      | false => refine wpAny_in_of (strKind_is _ _ _ _) h3 h1.mapOf ?_; rw [e]; simpa using k _ (r.tok _)
      | true => refine wpAny_notIn_of (strKind_is _ _ _ _) h3 h1.mapOf ?_; rw [e]; simpa using k _ (r.tok _)
  | _ => cases h

private theorem isin_s (S : St c) {neg : Bool} {l r : X} (ihl : XS c n C l) (ihr : XS c n C r) : XS c n C (.isin neg l r) ∧ XT c n C (.isin neg l r) := by
  constructor
  · intro A sc env B ρ e' K H s Q hA hE h hw r k
    replace h := ag_isin h
    rcases h with ⟨_,_,_,_,rfl,h⟩
    · simp only [Bool.and_eq_true,decide_eq_true_eq] at h
      obtain ⟨⟨⟨rfl,hs⟩,hl⟩,hr⟩ := h
      simp only [wx_isin] at hw
      refine wpAny_Compare1 (ihl A sc env B ρ _ _ H s _ hA hE hl hw r fun d H' v s' hd hv r' => ?_) (inMarks hs)
      refine ihr A sc env B ρ _ _ H' s' _ hA hE hr hd r' fun d2 H2 v2 s2 hd2 hv2 r2 => ?_
      split at hd2
      · rename_i b hb
        exact in_snd S r2 hb hv hv2 fun s' r' => k _ _ _ _ hd2 rfl r'
      · exact hd2.elim
  · intro A sc env B ρ e' K H s Q hA hE h hb hw r k
    replace h := ag_isin h
    rcases h with ⟨_,_,_,_,rfl,h⟩
    · simp only [Bool.and_eq_true,decide_eq_true_eq] at h
      obtain ⟨⟨⟨rfl,hs⟩,hl⟩,hr⟩ := h
      simp only [wx_isin] at hw
      refine wpAny_isTrue_Compare1 (ihl A sc env B ρ _ _ H s _ hA hE hl hw r fun d H' v s' hd hv r' => ?_) (inMarks hs)
      refine ihr A sc env B ρ _ _ H' s' _ hA hE hr hd r' fun d2 H2 v2 s2 hd2 hv2 r2 => ?_
      split at hd2
      · rename_i b hb
        exact in_snd S r2 hb hv hv2 fun s' r' => truthy_snd rfl (k _ _ _ hd2 r')
      · exact hd2.elim

noncomputable def XsB (c : Cx) (n : Nat) (C : CallT) (x : Xs) : Prop :=
  ∀ (conj : Bool) (A : Around) (sc : Scope) (env : Env) (B : Fz) (ρ : Ev) (es : List PySem.Expr) (pos : Pos) (K : Bool → Hp → Prop) (H : Hp) (s : Shared) (Q : Value → Shared → Prop),
    AX n A → EnvS sc env → agXs c.nm sc x es = true → es ≠ [] → x.bop c.T C ρ conj K H → R c B env ρ H s → (∀ b H' s',K b H' → R c B env ρ H' s' → Q (.bool b) s') →
    wpAny (model c.prog c.w) A (eval (.BoolOp (if conj then .And else .Or) es pos) env) Q noE s
noncomputable def XsT (c : Cx) (n : Nat) (C : CallT) (x : Xs) : Prop :=
  ∀ (conj : Bool) (A : Around) (sc : Scope) (env : Env) (B : Fz) (ρ : Ev) (es : List PySem.Expr) (pos : Pos) (whole : Sem Value) (K : Bool → Hp → Prop) (H : Hp) (s : Shared) (Q : Bool → Shared → Prop),
    AX n A → EnvS sc env → agXs c.nm sc x es = true → x.bop c.T C ρ conj K H → R c B env ρ H s → (∀ b H' s',K b H' → R c B env ρ H' s' → Q b s') →
    wpAny (model c.prog c.w) A (isTrue (.BoolOp (if conj then .And else .Or) es pos) env whole) Q noE s
private theorem xsb_nil : XsB c n C .nil := by
  intro conj A sc env B ρ es pos K H s Q hA hE h hn hw r k
  cases es with
  | nil => exact (hn rfl).elim
  | cons => exact (Bool.false_ne_true h).elim
private theorem xst_nil : XsT c n C .nil := by
  intro conj A sc env B ρ es pos whole K H s Q hA hE h hw r k
  simp only [wxb_nil] at hw
  rcases ag_nil h with rfl
  · cases conj with
    | true => exact isTrue_and_nil (k _ _ _ hw r)
    | false => exact isTrue_or_nil (k _ _ _ hw r)
private theorem xsb_cons {x : X} {xs : Xs} (ih : XS c n C x) (ihs : XsB c n C xs) : XsB c n C (.cons x xs) := by
  intro conj A sc env B ρ es pos K H s Q hA hE h hn hw r k
  replace h := ag_cons h
  rcases h with ⟨_,_,rfl,h⟩
  · rename_i e es
    simp only [Bool.and_eq_true] at h
    obtain ⟨⟨hs,he⟩,hes⟩ := h
    simp only [wxb_cons] at hw
    cases es with
    | nil =>
      refine BoolOp_one (ih A sc env B ρ _ _ H s _ hA hE he hw r fun d H' v s' hd hv r' => ?_)
      split at hd
      · cases hv.bool
        split at hd
        · rename_i hb
          subst hb
          cases xs with
          | nil => simp only [wxb_nil] at hd; exact k _ _ _ hd r'
          | cons => exact (Bool.false_ne_true hes).elim
        · exact k _ _ _ hd r'
      · exact hd.elim
    | cons e₂ es =>
      cases conj with
      | true =>
        refine BoolOp_and (ih A sc env B ρ _ _ H s _ hA hE he hw r fun d H' v s' hd hv r' => ?_)
        split at hd
        · rename_i b
          refine truthy_snd hv ?_
          cases b with
          | true =>
            rw [if_pos rfl] at hd ⊢
            exact ihs true A sc env B ρ _ pos K H' s' Q hA hE hes (by simp) hd r' k
          | false =>
            rw [if_neg (by simp)] at hd ⊢
            cases hv.bool
            exact k _ _ _ hd r'
        · exact hd.elim
      | false =>
        refine BoolOp_or (ih A sc env B ρ _ _ H s _ hA hE he hw r fun d H' v s' hd hv r' => ?_)
        split at hd
        · rename_i b
          refine truthy_snd hv ?_
          cases b with
          | false =>
            rw [if_pos rfl] at hd
            rw [if_neg (by simp)]
            exact ihs false A sc env B ρ _ pos K H' s' Q hA hE hes (by simp) hd r' k
          | true =>
            rw [if_neg (by simp)] at hd
            rw [if_pos rfl]
            cases hv.bool
            exact k _ _ _ hd r'
        · exact hd.elim
private theorem xst_cons {x : X} {xs : Xs} (ih : XT c n C x) (ihs : XsT c n C xs) : XsT c n C (.cons x xs) := by
  intro conj A sc env B ρ es pos whole K H s Q hA hE h hw r k
  replace h := ag_cons h
  rcases h with ⟨_,_,rfl,h⟩
  · rename_i e es
    simp only [Bool.and_eq_true] at h
    obtain ⟨⟨hs,he⟩,hes⟩ := h
    simp only [wxb_cons] at hw
    have hb : ∀ (d : D) (H' : Hp),(match d with | .bool b => if b = conj then xs.bop c.T C ρ conj K H' else K b H' | _ => False) → ∃ b,d = .bool b := by
      intro d H' hd
      split at hd
      · exact ⟨_,rfl⟩
      · exact hd.elim
    cases conj with
    | true =>
      refine isTrue_and (ih A sc env B ρ _ _ H s _ hA hE he hb hw r fun b H' s' hd r' => ?_)
      cases b with
      | true =>
        simp only [if_true] at hd ⊢
        exact ihs true A sc env B ρ _ pos _ K H' s' Q hA hE hes hd r' k
      | false =>
        simp only [Bool.false_eq_true,if_false] at hd ⊢
        exact k _ _ _ hd r'
    | false =>
      refine isTrue_or (ih A sc env B ρ _ _ H s _ hA hE he hb hw r fun b H' s' hd r' => ?_)
      cases b with
      | false =>
        simp only [if_true,Bool.false_eq_true,if_false] at hd ⊢
        exact ihs false A sc env B ρ _ pos _ K H' s' Q hA hE hes hd r' k
      | true =>
        simp only [Bool.true_eq_false,if_false,if_true] at hd ⊢
        exact k _ _ _ hd r'
private theorem bop_s {conj : Bool} {es : Xs} (ih : XsB c n C es) (iht : XsT c n C es) : XS c n C (.bop conj es) ∧ XT c n C (.bop conj es) := by
  constructor
  · intro A sc env B ρ e' K H s Q hA hE h hw r k
    replace h := ag_bop h
    rcases h with ⟨_,_,_,rfl,h⟩
    · simp only [Bool.and_eq_true,decide_eq_true_eq] at h
      obtain ⟨⟨rfl,hl⟩,he⟩ := h
      simp only [wx_bop] at hw
      exact ih conj A sc env B ρ _ _ _ H s Q hA hE he (by intro z; subst z; simp at hl) hw r fun b H' s' hb r' => k _ _ _ _ hb rfl r'
  · intro A sc env B ρ e' K H s Q hA hE h hb hw r k
    replace h := ag_bop h
    rcases h with ⟨_,_,_,rfl,h⟩
    · simp only [Bool.and_eq_true,decide_eq_true_eq] at h
      obtain ⟨⟨rfl,hl⟩,he⟩ := h
      simp only [wx_bop] at hw
      exact iht conj A sc env B ρ _ _ _ _ H s Q hA hE he hw r k
end
end Mine
end
section
open PySem PySem.W PyProof.Rows
namespace Mine
section
variable {c : Cx} {n : Nat} {C : CallT}

private theorem list_snd {es : Xs} (ihs : XsS c n C es) : XS c n C (.list es) := by
  intro A sc env B ρ e' K H s Q hA hE h hw r k
  replace h := ag_list h
  rcases h with ⟨_,_,rfl,h⟩
  · simp only [wx_list] at hw
    refine List_ (ihs A sc env B ρ _ _ _ H s _ hA hE h hw r fun ds H' vs s' hd hv r' => ?_)
    refine wpAny_newList (k _ _ _ _ (hd.2 _ r'.fresh) rfl (r'.alloc (o := seqObj "list" vs 0) (O := .list ds) ⟨_,_,rfl,hv⟩)) ?_
    have := hd.1; rw [hv.length]; unfold big at this; unfold sizeLine; lia
private theorem tuple_snd {es : Xs} (ihs : XsS c n C es) : XS c n C (.tuple es) := by
  intro A sc env B ρ e' K H s Q hA hE h hw r k
  replace h := ag_tuple h
  rcases h with ⟨_,_,_,rfl,h⟩
  · simp only [wx_tuple] at hw
    refine Tuple_ (ihs A sc env B ρ _ _ _ H s _ hA hE h hw r fun ds H' vs s' hd hv r' => ?_)
    refine wpAny_newTuple (k _ _ _ _ (hd.2 _ r'.fresh) rfl (r'.alloc (o := seqObj "tuple" vs 0) (O := .tuple ds) ⟨_,_,rfl,hv⟩)) ?_
    have := hd.1; rw [hv.length]; unfold big at this; unfold sizeLine; lia

private theorem addl_snd {A : Around} {B : Fz} {env ρ H s} (r : R c B env ρ H s) {a b : Addr} {xs ys : List D} {Q : Value → Shared → Prop} {E} (h1 : H a = some (.list xs)) (h2 : H b = some (.list ys)) (hl : xs.length + ys.length ≤ big)
    (k : ∀ a s',H a = none → R c B env ρ (H.set a (.list (xs ++ ys))) s' → Q (.ref a) s') : wpAny (model c.prog c.w) A (binaryOp .Add (.ref a) (.ref b)) Q E s := by
  obtain ⟨vs,m,g1,g2,g3⟩ := isList_of r h1
  obtain ⟨ws,m',g1',g2',g3'⟩ := isList_of r h2
  have e : vs.toArray ++ ws.toArray = (vs ++ ws).toArray := by simp
  refine concat_meets ⟨_,g1,rfl⟩ ⟨_,g1',rfl⟩ noFill_list_add seq_list_add PySem.F.slot_list_add PySem.F.entry_list_add (PySem.F.args_list_add_2 _ _)
    (list_addW a b vs.toArray ws.toArray m m' none none #[] #[] ?_) ⟨g1,g1',?_⟩
  · simp only [List.size_toArray]; rw [g3.length,g3'.length]; unfold big at hl; unfold sizeLine; lia
  · rw [e]
    exact k _ _ r.fresh (r.alloc (o := seqObj "list" (vs ++ ws) 0) (O := .list (xs ++ ys)) ⟨_,_,rfl,g3.app g3'⟩)

private theorem bin_s {op : Op} {l r : X} (ihl : XS c n C l) (ihr : XS c n C r) : XS c n C (.bin op l r) := by
  intro A sc env B ρ e' K H s Q hA hE h hw r k
  replace h := ag_bin h
  rcases h with ⟨_,_,_,_,rfl,h⟩
  · simp only [Bool.and_eq_true,decide_eq_true_eq] at h
    obtain ⟨⟨rfl,hl⟩,hr⟩ := h
    simp only [wx_bin] at hw
    refine wpAny_BinOp (ihl A sc env B ρ _ _ H s _ hA hE hl hw r fun d H' v s' hd hv r' => ?_)
    refine ihr A sc env B ρ _ _ H' s' _ hA hE hr hd r' fun d2 H2 v2 s2 hd2 hv2 r2 => ?_
    split at hd2
    · rename_i x hx
      exact bin_snd hx hv hv2 fun u tk hu => k _ _ _ _ hd2 hu (r2.tok _)
    · split at hd2
      · rename_i a b _
        cases hv.ref
        cases hv2.ref
        split at hd2
        · rename_i xs ys h1 h2
          exact addl_snd r2 h1 h2 hd2.1 fun a s' ha r' => k _ _ _ _ (hd2.2 _ ha) rfl r'
        · exact hd2.elim
      · exact hd2.elim

private theorem seqIx {i : Int} {m : Nat} {α : Type} {l : List α} {x : α} (h0 : 0 ≤ i) (hx : l[i.toNat]? = some x) (hm : l.length = m) : seqIndex? i m = some i.toNat := by
  refine StrLaws.seqIndex_nonneg h0 ?_
  have := (List.getElem?_eq_some_iff.mp hx).1
  lia
private theorem subs_snd {A : Around} {B : Fz} {env ρ H s} (S : St c) (r : R c B env ρ H s) {d d' x : D} {v v' : Value} {value slice : PySem.Expr} {Q : Value → Shared → Prop} {E} (h : subs H d d' = some x) (hv : VR v d) (hv' : VR v' d')
    (hs : ∀ o i,subscripted slice false o i = operate [o,i] (getItem o i))
    (k : ∀ u s',VR u x → R c B env ρ H s' → Q u s') : wpAny (model c.prog c.w) A (subscriptTail value slice v v') Q E s := by
  unfold subs at h
  split at h
  · rename_i a i
    cases hv.ref
    obtain ⟨u,rfl⟩ := hv'.int
    split at h
    · rename_i xs hx
      split at h
      · rename_i hb
        obtain ⟨vs,m,g1,g2,g3⟩ := isList_of r hx
        obtain ⟨y,hy,hr⟩ := g3.get h
        exact tail_any g2.typeIs PySem.slot_list_getitem.lookup (wpAny_getItem_list (x := y) g2 hb.1 (by have := hb.2; have := hb.1; unfold big at *; lia) (by simpa using hy) (k _ _ hr r)) (hs _ _)
      · cases h
    · rename_i xs hx
      split at h
      · rename_i hb
        obtain ⟨vs,g2,g3⟩ := isTup_of r hx
        obtain ⟨y,hy,hr⟩ := g3.get h
        exact tail_any g2.typeIs PyProof.Rows.slot_tuple_getitem.lookup (PyProof.Rows.getItem_tuple g2 (by have := hb.1; lia) (by have := hb.2; have := hb.1; unfold big at *; lia) (seqIx (l := vs) hb.1 hy (by simp)) (by simpa using hy) (k _ _ hr r)) (hs _ _)
      · cases h
    · rename_i xs hx
      split at h
      · rename_i hb
        obtain ⟨vs,g2,g3⟩ := isInts_of r hx
        obtain ⟨y,hy,hr⟩ := g3.get h
        exact tail_any g2.typeIs PySem.slot_list_getitem.lookup (wpAny_getItem_list (x := y) g2 hb.1 (by have := hb.2; have := hb.1; unfold big at *; lia) (by simpa using hy) (k _ _ hr r)) (hs _ _)
      · cases h
    · cases h
  · rename_i l i
    obtain ⟨t,rfl⟩ := hv.str
    obtain ⟨u,rfl⟩ := hv'.int
    split at h
    · rename_i hb
      obtain ⟨y,hy,rfl⟩ := Option.map_eq_some_iff.mp h
      refine tail_any (typeIs_str _ _ _) F.slot_str_getitem.lookup (P.getItem_str (c := y) ?_ ?_ (k _ _ (VR.mk_str (l := [y])) (r.tok _))) (hs _ _)
      · have := hb.2; have := hb.1; unfold big at *
        have h1 : ¬ i < -(2 ^ 63 : Int) := by lia
        have h2 : ¬ i ≥ 2 ^ 63 := by lia
        simp only [Bool.or_eq_false_iff,decide_eq_false_iff_not]
        exact ⟨h1,h2⟩
      · exact StrLaws.at_nonneg hb.1 (by simpa using hy)
    · cases h
  · rename_i a l
    cases hv.ref
    obtain ⟨u,rfl⟩ := hv'.str
    split at h
    · rename_i kvs hx
      obtain ⟨ps,g1,g2,g3⟩ := dict_of S r hx
      have := dpa g2 l
      rw [h] at this
      obtain ⟨y,hy,hr⟩ := this
      exact tail_any g1.typeIs PySem.slot_dict_getitem.lookup (wpAny_getItem_of (strKind_is _ _ _ _) g1.mapOf hy (k _ _ hr (r.tok _))) (hs _ _)
    · cases h
  · cases h
private theorem sub_snd (S : St c) {e i : X} (ihe : XS c n C e) (ihi : XS c n C i) : XS c n C (.sub e i) := by
  intro A sc env B ρ e' K H s Q hA hE h hw r k
  replace h := ag_sub h
  rcases h with ⟨_,_,_,rfl,h⟩
  · rename_i v kx p
    simp only [Bool.and_eq_true] at h
    obtain ⟨⟨hs,he⟩,hi⟩ := h
    simp only [wx_sub] at hw
    refine Subscript_ (ihe A sc env B ρ _ _ H s _ hA hE he hw r fun d H' v s' hd hv r' => ?_)
    refine ihi A sc env B ρ _ _ H' s' _ hA hE hi hd r' fun d2 H2 v2 s2 hd2 hv2 r2 => ?_
    split at hd2
    · rename_i x hx
      refine subs_snd S r2 hx hv hv2 (fun o i => ?_) fun u s' hu r' => k _ _ _ _ hd2 hu r'
      cases kx <;> first | rfl | (exact (Bool.false_ne_true hs).elim)
    · exact hd2.elim

private theorem slice_ab (l : List Nat) {a b : Nat} (ha : a ≤ l.length) (hb : b ≤ l.length) : StrLaws.sliceText ⟨l.toArray⟩ (some (a : Int)) (some (b : Int)) = ⟨((l.take b).drop a).toArray⟩ := by
  by_cases hab : a ≤ b
  · rw [StrLaws.sliceText_nat _ hab (by simpa [Str.length] using hb)]
    show (⟨((l.drop a).take (b - a)).toArray⟩ : Str) = _
    rw [List.drop_take]
  · have e : Builtin.Str.strSliceIndices (some (a : Int)) (some (b : Int)) 1 (Str.length ⟨l.toArray⟩) = [] := by
      have h1 : ¬ ((a : Int) < 0) := by lia
      have h2 : ¬ ((b : Int) < 0) := by lia
      have hl : Str.length ⟨l.toArray⟩ = l.length := by simp [Str.length]
      have e1 : max (0 : Int) (min (a : Int) (l.length : Int)) = a := by lia
      have e2 : max (0 : Int) (min (b : Int) (l.length : Int)) = b := by lia
      simp only [Builtin.Str.strSliceIndices,sliceRange,h1,h2,if_false,hl,e1,e2,show ((1 : Int) > 0) = True from by simp,if_true]
      rw [if_neg (by lia)]
      rfl
    unfold StrLaws.sliceText
    rw [e]
    have hd : (l.take b).drop a = [] := by
      rw [List.drop_eq_nil_iff]; rw [List.length_take]; lia
    rw [hd]
    split
    · rename_i hz
      have : l = [] := by have := hz.symm; simp [Str.length] at this; exact List.length_eq_zero_iff.mp this.symm
      subst this; rfl
    · rfl
private theorem idx_clamp_lo (i : Int) (u : Option Int) (m : Nat) : Builtin.Str.strSliceIndices (some i) u 1 m = Builtin.Str.strSliceIndices (some ((clampI m i : Nat) : Int)) u 1 m := by
  unfold Builtin.Str.strSliceIndices
  have h2 : ¬ (((clampI m i : Nat) : Int) < 0) := by lia
  have e : max (0 : Int) (min (if i < 0 then i + m else i) m) = max (0 : Int) (min ((clampI m i : Nat) : Int) m) := by
    unfold clampI
    split <;> lia
  simp only [show ((1 : Int) > 0) = True from by simp,if_true,h2,if_false,e]
private theorem idx_clamp_hi (l : Option Int) (i : Int) (m : Nat) : Builtin.Str.strSliceIndices l (some i) 1 m = Builtin.Str.strSliceIndices l (some ((clampI m i : Nat) : Int)) 1 m := by
  unfold Builtin.Str.strSliceIndices
  have h2 : ¬ (((clampI m i : Nat) : Int) < 0) := by lia
  have e : max (0 : Int) (min (if i < 0 then i + m else i) m) = max (0 : Int) (min ((clampI m i : Nat) : Int) m) := by
    unfold clampI
    split <;> lia
  simp only [show ((1 : Int) > 0) = True from by simp,if_true,h2,if_false,e]
private theorem text_congr {x : Str} {l u l' u' : Option Int} (h : Builtin.Str.strSliceIndices l u 1 x.length = Builtin.Str.strSliceIndices l' u' 1 x.length) : Txt.slice x l u = StrLaws.sliceText x l' u' := by
  unfold Txt.slice StrLaws.sliceText
  rw [h]
noncomputable def optI : D → Option Int
  | .int i => some i
  | _ => none
private theorem clamp_le (m : Nat) (i : Int) : clampI m i ≤ m := by unfold clampI; split <;> lia
private theorem slice_eq {s r : List Nat} {lo hi : D} (h : sliceS s lo hi = some r) : Txt.slice ⟨s.toArray⟩ (optI lo) (optI hi) = ⟨r.toArray⟩ ∧ (lo = .none ∨ ∃ i,lo = .int i) ∧ (hi = .none ∨ ∃ i,hi = .int i) := by
  have hl : Str.length ⟨s.toArray⟩ = s.length := by simp [Str.length]
  cases lo with
  | none => cases hi with
    | none =>
      replace h : some (s) = some r := h
      cases h
      refine ⟨?_,.inl rfl,.inl rfl⟩
      rw [text_congr (l' := some ((0 : Nat) : Int)) (u' := some ((s.length : Nat) : Int)),slice_ab _ (Nat.zero_le _) (Nat.le_refl _)]
      · simp
      · show Builtin.Str.strSliceIndices none none 1 _ = _
        rw [StrLaws.sliceIdx_none_lo,StrLaws.sliceIdx_none_hi,hl]; rfl
    | int i =>
      replace h : some (s.take (clampI s.length i)) = some r := h
      cases h
      refine ⟨?_,.inl rfl,.inr ⟨_,rfl⟩⟩
      rw [text_congr (l' := some ((0 : Nat) : Int)) (u' := some ((clampI s.length i : Nat) : Int)),slice_ab _ (Nat.zero_le _) (clamp_le _ _)]
      · simp
      · show Builtin.Str.strSliceIndices none (some i) 1 _ = _
        rw [StrLaws.sliceIdx_none_lo,idx_clamp_hi,hl]; rfl
    | _ => cases h
  | int i => cases hi with
    | none =>
      replace h : some (s.drop (clampI s.length i)) = some r := h
      cases h
      refine ⟨?_,.inr ⟨_,rfl⟩,.inl rfl⟩
      rw [text_congr (l' := some ((clampI s.length i : Nat) : Int)) (u' := some ((s.length : Nat) : Int)),slice_ab _ (clamp_le _ _) (Nat.le_refl _)]
      · simp
      · show Builtin.Str.strSliceIndices (some i) none 1 _ = _
        rw [idx_clamp_lo,StrLaws.sliceIdx_none_hi,hl]
    | int j =>
      replace h : some ((s.take (clampI s.length j)).drop (clampI s.length i)) = some r := h
      cases h
      refine ⟨?_,.inr ⟨_,rfl⟩,.inr ⟨_,rfl⟩⟩
      rw [text_congr (l' := some ((clampI s.length i : Nat) : Int)) (u' := some ((clampI s.length j : Nat) : Int)),slice_ab _ (clamp_le _ _) (clamp_le _ _)]
      · show Builtin.Str.strSliceIndices (some i) (some j) 1 _ = _
        rw [idx_clamp_lo,idx_clamp_hi,hl]
    | _ => cases h
  | _ => cases h
private theorem part_of {v : Value} {d : D} (hv : VR v d) (h : d = .none ∨ ∃ i,d = .int i) : ∃ p : Option (Int × Tok),v = partValue p ∧ p.map (·.1) = optI d := by
  rcases h with rfl | ⟨i,rfl⟩
  · cases hv.none
    exact ⟨none,rfl,rfl⟩
  · obtain ⟨t,rfl⟩ := hv.int
    exact ⟨some (i,t),rfl,rfl⟩
private theorem part_snd {A : Around} {sc env} {B : Fz} {ρ : Ev} {x : X} {e' : Option PySem.Expr} {K : K1} {H : Hp} {s : Shared} {Q : Value → Shared → Prop} 
    (h : (match e' with | some l => agX c.nm sc x l | none => isNoneX x) = true) (ih : XS c n C x) (hA : AX n A) (hE : EnvS sc env) (hw : x.wp c.T C ρ K H) (r : R c B env ρ H s)
    (k : ∀ d H' v s',K d H' → VR v d → R c B env ρ H' s' → Q v s') : wpAny (model c.prog c.w) A (valueOrNone (evalOpt e' env)) Q noE s := by
  cases e' with
  | some e => exact ih A sc env B ρ e K H s Q hA hE h hw r k
  | none =>
    obtain rfl := isNoneX_i h
    simp only [wx_none] at hw
    exact wpAny_pure (k _ _ _ _ hw rfl r)
private theorem slice_snd {e lo hi : X} (ihe : XS c n C e) (ihl : XS c n C lo) (ihh : XS c n C hi) : XS c n C (.slice e lo hi) := by
  intro A sc env B ρ e' K H s Q hA hE h hw r k
  replace h := ag_slice h
  rcases h with ⟨_,_,_,_,_,rfl,h⟩
  · rename_i v l u p1 p2
    rw [Bool.and_eq_true,Bool.and_eq_true] at h
    obtain ⟨⟨he,hl⟩,hu⟩ := h
    simp only [wx_slice] at hw
    refine Subscript_ (ihe A sc env B ρ _ _ H s _ hA hE he hw r fun d H' v s' hd hv r' => ?_)
    rw [arm_eval_Slice]
    refine wpAny_bind (part_snd hl ihl hA hE hd r' fun d1 H1 v1 s1 hd1 hv1 r1 => ?_)
    refine wpAny_bind (wpAny_holding (part_snd hu ihh hA hE hd1 r1 fun d2 H2 v2 s2 hd2 hv2 r2 => ?_))
    refine wpAny_bind (wpAny_holding (wpAny_pure ?_))
    split at hd2
    · rename_i t
      split at hd2
      · rename_i x hx
        obtain ⟨hlen,hq⟩ := hd2
        obtain ⟨e1,e2,e3⟩ := slice_eq hx
        obtain ⟨pl,rfl,hpl⟩ := part_of hv1 e2
        obtain ⟨pu,rfl,hpu⟩ := part_of hv2 e3
        obtain ⟨tk,rfl⟩ := hv.str
        refine wpAny_newObj_type ?_ (by show (3 : Nat) ≤ sizeLine + 2; unfold sizeLine; lia)
        refine tail_any (ops := [.ref s2.heap.objs.size,.str ⟨t.toArray⟩ tk]) (typeIs_str _ _ _) F.slot_str_getitem.lookup ?_ rfl
        refine wpAny_getItem_str_slice (l := pl) (u := pu) (st := none) ⟨_,Heap.get?_push_size _ rfl,rfl,rfl⟩ rfl (post_val_or_str ⟨?_,fun t' kk => ?_⟩)
        · refine Nat.le_trans (Txt.slice_le _ _ _) ?_
          show Array.size _ ≤ _
          rw [List.size_toArray]; unfold big at hlen; unfold sizeLine; lia
        · have e4 : (if ((Option.map (·.1) (none : Option (Int × Tok))).getD 1 == 1 && (slicePicked ⟨t.toArray⟩ pl pu none).length == Str.length ⟨t.toArray⟩) = true then (⟨t.toArray⟩ : Str) else ⟨((slicePicked ⟨t.toArray⟩ pl pu none).filterMap ((Str.cps ⟨t.toArray⟩)[·]?)).toArray⟩) = ⟨x.toArray⟩ := by
            rw [← e1,← hpl,← hpu]; rfl
          rw [e4]
          exact k _ _ _ _ hq VR.mk_str ((r2.push _).tok _)
      · exact hd2.elim
    · exact hd2.elim
end
end Mine
end
section
open PySem PySem.W PyProof.Rows
namespace Mine
section
variable {c : Cx} {n : Nat} {C : CallT}

private theorem R.ext {B : Fz} {env ρ H s} (r : R c B env ρ H s) {h' : Heap} {I : Addr} {t : Nat} (hk : ∀ b o,b ≠ I → s.heap.get? b = some o → h'.get? b = some o) (hB : B I = none) (hH : H I = none) (hL : I ≠ env.locals) :
    R c B env ρ H { s with heap := h',toks := t } := by
  refine ⟨fun b o e => ⟨hk b o ?_ (r.fz b o e).1,(r.fz b o e).2⟩,fun a O e => ?_,r.base,?_,r.LB,r.LH,r.cel,r.os,r.gens⟩
  · rintro rfl; rw [hB] at e; cases e
  · obtain ⟨o,h1,h2⟩ := r.ob a O e
    exact ⟨o,hk a o (by rintro rfl; rw [hH] at e; cases e) h1,h2⟩
  · obtain ⟨m,hm,k⟩ := r.loc
    exact ⟨m,hm.at' fun o e => hk _ o (Ne.symm hL) e,k⟩
private theorem R.swap {B : Fz} {env ρ H s} (r : R c B env ρ H s) {h' : Heap} {I : Addr} {oI oI' : Obj} {t : Nat} (hI : B I = some oI) (hk : ∀ b o,b ≠ I → s.heap.get? b = some o → h'.get? b = some o) (hg : h'.get? I = some oI') (h0 : c.h₀.get? I = none) :
    R c (B.put I oI') env ρ H { s with heap := h',toks := t } := by
  have hH := (r.fz _ _ hI).2
  have hL : env.locals ≠ I := by intro e; have := r.LB; rw [e,hI] at this; cases this
  refine ⟨fun b o e => ?_,fun a O e => ?_,fun b o e => ?_,?_,?_,r.LH,r.cel,r.os,r.gens⟩
  · unfold Fz.put at e
    split at e
    · rename_i q; subst q; cases e; exact ⟨hg,hH⟩
    · rename_i q; exact ⟨hk b o q (r.fz b o e).1,(r.fz b o e).2⟩
  · obtain ⟨o,h1,h2⟩ := r.ob a O e
    exact ⟨o,hk a o (by rintro rfl; rw [hH] at e; cases e) h1,h2⟩
  · unfold Fz.put
    rw [if_neg]
    · exact r.base b o e
    · rintro rfl; rw [h0] at e; cases e
  · obtain ⟨m,hm,k⟩ := r.loc
    exact ⟨m,hm.at' fun o e => hk _ o hL e,k⟩
  · unfold Fz.put; rw [if_neg hL]; exact r.LB
private theorem R.adopt {B : Fz} {env ρ H s} (r : R c (B.put a o₁) env ρ H s) {h' : Heap} {o : Obj} {O : AO} {t : Nat} (hk : ∀ b o,b ≠ a → s.heap.get? b = some o → h'.get? b = some o) (hg : h'.get? a = some o) (h : OR c o O) (hB : B a = none)
    (hb : ∀ b o,c.h₀.get? b = some o → B b = some o) : R c B env ρ (H.set a O) { s with heap := h',toks := t } := by
  have pa : (B.put a o₁) a = some o₁ := by unfold Fz.put; rw [if_pos rfl]
  have hH := (r.fz _ _ pa).2
  have hL : env.locals ≠ a := by intro e; have := r.LB; rw [e,pa] at this; cases this
  have pb : ∀ b,b ≠ a → (B.put a o₁) b = B b := fun b e => by unfold Fz.put; rw [if_neg e]
  refine ⟨fun b o e => ?_,fun b O' e => ?_,hb,?_,?_,?_,r.cel,r.os,r.gens⟩
  · have q : b ≠ a := by rintro rfl; rw [hB] at e; cases e
    have e' := r.fz b o ((pb b q).trans e)
    exact ⟨hk b o q e'.1,by unfold Hp.set; rw [if_neg q]; exact e'.2⟩
  · unfold Hp.set at e
    split at e
    · rename_i q; subst q; cases e; exact ⟨o,hg,h⟩
    · rename_i q
      obtain ⟨o',h1,h2⟩ := r.ob b O' e
      exact ⟨o',hk b o' q h1,h2⟩
  · obtain ⟨m,hm,k⟩ := r.loc
    exact ⟨m,hm.at' fun o e => hk _ o hL e,k⟩
  · have := r.LB; rwa [pb _ hL] at this
  · unfold Hp.set; rw [if_neg hL]; exact r.LH
private theorem R.weak {B : Fz} {env ρ ρ' H s} (r : R c B env ρ' H s) (hv : ∀ n d,ρ.v n = some d → ρ'.v n = some d) (hc : ∀ n a,ρ.c n = some a → ρ'.c n = some a) : R c B env ρ H s := by
  refine ⟨r.fz,r.ob,r.base,?_,r.LB,r.LH,fun n a e => r.cel n a (hc n a e),r.os,r.gens⟩
  obtain ⟨m,hm,k⟩ := r.loc
  exact ⟨m,hm,fun n d e => k n d (hv n d e)⟩
private theorem R.storeX {B : Fz} {env ρ ρ' H s} (r : R c B env ρ H s) {h' : Heap} {m' : Str → Option Value} {t : Nat} (hk : ∀ b o,b ≠ env.locals → s.heap.get? b = some o → h'.get? b = some o) (hn : h'.Ns env.locals m')
    (hl : ∀ n d,ρ'.v n = some d → ∃ v,m' (c.nm n) = some v ∧ VR v d) (hc : ∀ n a,ρ'.c n = some a → ρ.c n = some a) : R c B env ρ' H { s with heap := h',toks := t } := by
  refine ⟨fun b o e => ⟨hk b o ?_ (r.fz b o e).1,(r.fz b o e).2⟩,fun b O e => ?_,r.base,⟨m',hn,hl⟩,r.LB,r.LH,fun n a e => r.cel n a (hc n a e),r.os,r.gens⟩
  · rintro rfl; rw [r.LB] at e; cases e
  · obtain ⟨o,h1,h2⟩ := r.ob b O e
    exact ⟨o,hk b o (r.neL e) h1,h2⟩

private theorem noE_mono {M : Model} {A : Around} {α : Type} {m : Sem α} {Q : α → Shared → Prop} {E : Value → Shared → Prop} {s : Shared} (h : wpAny M A m Q noE s) : wpAny M A m Q E s :=
  wpAny_mono h (fun u_ u_ q => q) fun u_ u_ f => f.elim

private theorem mcall1_snd {A : Around} {sc env} {B : Fz} {ρ : Ev} {b : Str} {x y : X} {e' : PySem.Expr} {K : K1} {H : Hp} {s : Shared} {Q : Value → Shared → Prop}
    (ih : XS c n C x) (ih2 : XS c n C y) (hA : AX n A) (hE : EnvS sc env) (h : mcall1 b (agX c.nm sc x) (agX c.nm sc y) e' = true) (hw : x.wp c.T C ρ K H) (r : R c B env ρ H s)
    (k : ∀ d H' v s',K d H' → VR v d → R c B env ρ H' s' → ∃ id K2,(∀ pl Q',Q' (.builtin id,[v]) s' → wpAny (model c.prog c.w) A (getMethod v b pl) Q' noE s') ∧ y.wp c.T C ρ K2 H' ∧
      (∀ d2 H2 v2 s2,K2 d2 H2 → VR v2 d2 → R c B env ρ H2 s2 → wpAny (model c.prog c.w) A (call (.builtin id) [v,v2]) Q noE s2)) :
    wpAny (model c.prog c.w) A (eval e' env) Q noE s := by
  replace h := mcall1_i h
  rcases h with ⟨_,_,_,_,_,rfl,h⟩
  · simp only [Bool.and_eq_true,beq_iff_eq,decide_eq_true_eq] at h
    obtain ⟨⟨⟨⟨⟨rfl,hs⟩,hst⟩,hl⟩,hx⟩,hy⟩ := h
    rw [eval_mcall hs hl (by simp) (by rw [star_cons hst]; intro q hq; rcases List.mem_cons.mp hq with rfl | hq; rfl; nomatch hq)]
    refine wpAny_bind (ih A sc env B ρ _ _ H s _ hA hE hx hw r fun d H' v s' hd hv r' => ?_)
    obtain ⟨id,K2,g1,g2,g3⟩ := k _ _ _ _ hd hv r'
    refine wpAny_bind (wpAny_standAt (wpAny_bind (wpAny_holding (g1 _ _ ?_))))
    rw [star_cons hst]
    refine callWith_of rfl (P := fun u_ => True) (keeps_blt (.inl ⟨_,rfl⟩)) (Calls.evalArgs_plain (Calls.spliced_cons (ih2 A sc env B ρ _ _ H' s' _ hA hE hy g2 r' fun d2 H2 v2 s2 hd2 hv2 r2 => ?_)))
    exact Calls.spliced_nil ⟨trivial,g3 _ _ _ _ hd2 hv2 r2⟩

private theorem append_call {A : Around} {B : Fz} {env ρ H s} (r : R c B env ρ H s) {a : Addr} {vs : List Value} {m : Nat} {v : Value} {Q : Value → Shared → Prop} {E} (h1 : s.heap.get? a = some (seqObj "list" vs m)) (hl : vs.length ≤ big)
    (k : ∀ h' m',h'.get? a = some (seqObj "list" (vs ++ [v]) m') → Heap.SameBut a s.heap h' → Q .none { s with heap := h' }) : wpAny (model c.prog c.w) A (call (.builtin "list.append") [.ref a,v]) Q E s := by
  have hl' : vs.toArray.size ≤ sizeLine := by rw [List.size_toArray]; unfold big at hl; unfold sizeLine; lia
  refine wpAny_call_entry slot_list_append ⟨_,h1,rfl⟩ entry_list_append ?_ (args_list_append _ _)
  show wpAny _ _ (updateSeq a (·.push v) >>= fun u_ => ret .none) _ _ s
  refine wpAny_bind ?_
  refine wpAny_updateSeq (hz := hl') h1 rfl (wpAny_pure ⟨.none,rfl,k _ (m + 1) ?_ (Heap.SameBut.update ..)⟩) (by rw [Array.size_push]; lia)
  rw [Heap.get?_update_self _ h1 rfl]
  simp [Obj.mapSeq,seqObj]

private theorem append_snd {o e : X} (ih : XS c n C o) (ih2 : XS c n C e) : XS c n C (.append o e) := by
  intro A sc env B ρ e' K H s Q hA hE h hw r k
  have h : mcall1 "append" (agX c.nm sc _) (agX c.nm sc _) e' = true := h
  simp only [wx_append] at hw
  refine mcall1_snd ih ih2 hA hE h hw r fun d H' v s' hd hv r' => ?_
  split at hd
  · rename_i a
    cases hv.ref
    split at hd
    · rename_i ys hy
      obtain ⟨vs,m,h1,h2,h3⟩ := isList_of r' hy
      refine ⟨"list.append",_,fun pl Q' hq => Calls.getMethod_list_append h1 rfl rfl hq,hd,fun d2 H2 v2 s2 hd2 hv2 r2 => ?_⟩
      split at hd2
      · rename_i xs hx
        obtain ⟨vs,m,h1,h2,h3⟩ := isList_of r2 hx
        refine append_call r2 h1 (by rw [h3.length]; exact Nat.le_of_lt hd2.1) fun h' m' g1 hs => ?_
        exact k _ _ _ _ hd2.2 rfl (r2.upd hx hs g1 (O' := .list (xs ++ [d2])) ⟨vs ++ [v2],m',rfl,h3.app (VRs.mk hv2 rfl)⟩ (t := s2.toks))
      · exact hd2.elim
    · exact hd.elim
  · exact hd.elim

private theorem joinS_eq : ∀ (l : List (List Nat)),Str.join ⟨#[]⟩ (l.map fun x => ⟨x.toArray⟩) = ⟨(joinS l).toArray⟩
  | [] => rfl
  | [x] => by
    show (⟨x.toArray⟩ : Str) = _
    simp [joinS]
  | x :: y :: r => by
    have ih := joinS_eq (y :: r)
    show (⟨x.toArray⟩ : Str) ++ ⟨#[]⟩ ++ Str.join ⟨#[]⟩ ((y :: r).map fun x => ⟨x.toArray⟩) = _
    rw [ih]
    show (⟨(x.toArray ++ #[]) ++ (joinS (y :: r)).toArray⟩ : Str) = _
    simp [joinS]
private theorem joinS_len : ∀ (l : List (List Nat)),((l.map fun x => (⟨x.toArray⟩ : Str)).map (·.length)).sum = (joinS l).length
  | [] => rfl
  | x :: r => by
    have := joinS_len r
    simp only [List.map_cons,List.sum_cons,joinS,List.length_append] at this ⊢
    rw [this]; simp [Str.length]
private theorem nodes_len : ∀ {xs : List D} {l : List (List Nat)},nodesOf xs = some l → l.length = xs.length
  | [],l,h => by simp [nodesOf] at h; subst h; rfl
  | d :: xs,l,h => by
    cases d <;> simp only [nodesOf] at h <;> try (cases h; done)
    obtain ⟨l',h',rfl⟩ := Option.map_eq_some_iff.mp h
    simp [nodes_len h']
private theorem join_snd {o e : X} (ih : XS c n C o) (ih2 : XS c n C e) : XS c n C (.join o e) := by
  intro A sc env B ρ e' K H s Q hA hE h hw r k
  have h : mcall1 "join" (agX c.nm sc _) (agX c.nm sc _) e' = true := h
  simp only [wx_join] at hw
  refine mcall1_snd ih ih2 hA hE h hw r fun d H' v s' hd hv r' => ?_
  split at hd
  · obtain ⟨t,rfl⟩ := hv.str
    refine ⟨"str.join",_,fun pl Q' hq => GM.join hq,hd,fun d2 H2 v2 s2 hd2 hv2 r2 => ?_⟩
    split at hd2
    · rename_i a
      cases hv2.ref
      split at hd2
      · rename_i xs hx
        split at hd2
        · rename_i l hl
          obtain ⟨vs,m,h1,h2,h3⟩ := isList_of r2 hx
          refine join_listW h2 (by simpa using strsAre_of h3 hl) (by simp [Str.length]) ?_ fun t' kk => ?_
          · rw [joinS_len,List.length_map,nodes_len hl]; have := hd2.1; unfold big at this; lia
          · have e1 : Txt.join ⟨[].toArray⟩ (l.map fun x => ⟨x.toArray⟩) = ⟨(joinS l).toArray⟩ := by
              show Builtin.Str.glued _ _ = _
              rw [StrLaws.glued_eq_join]; exact joinS_eq l
            rw [e1]
            exact k _ _ _ _ hd2.2 VR.mk_str (r2.tok _)
        · exact hd2.elim
      · exact hd2.elim
    · exact hd2.elim
  · exact hd.elim

private theorem DP.app : ∀ {p q : List (Str × Value)} {k l : List (List Nat × D)},DP p k → DP q l → DP (p ++ q) (k ++ l)
  | [],_,[],_,_,h => h
  | _ :: _,_,_ :: _,_,h,h' => ⟨h.1,h.2.app h'⟩
  | [],_,_ :: _,_,h,_ => h.elim
  | _ :: _,_,[],_,h,_ => h.elim
private theorem DP.keys : ∀ {p : List (Str × Value)} {k : List (List Nat × D)},DP p k → p.map (·.1) = (k.map (·.1)).map fun l => ⟨l.toArray⟩
  | [],[],_ => rfl
  | e :: es,(x,d) :: r,h => by
    simp only [List.map_cons]; rw [h.1.1,DP.keys h.2]
  | [],_ :: _,h => h.elim
  | _ :: _,[],h => h.elim
private theorem DP.len {p : List (Str × Value)} {k : List (List Nat × D)} (h : DP p k) : p.length = k.length := by simpa using congrArg List.length h.keys
private theorem nodup_str {l : List (List Nat)} (h : l.Nodup) : (l.map fun x => (⟨x.toArray⟩ : Str)).Nodup := by
  refine List.pairwise_map.mpr (h.imp fun {a b} hne e => hne ?_)
  injection e with e
  simpa using congrArg Array.toList e
private theorem update_snd (S : St c) {o e : X} (ih : XS c n C o) (ih2 : XS c n C e) : XS c n C (.update o e) := by
  intro A sc env B ρ e' K H s Q hA hE h hw r k
  have h : mcall1 "update" (agX c.nm sc _) (agX c.nm sc _) e' = true := h
  simp only [wx_update] at hw
  refine mcall1_snd ih ih2 hA hE h hw r fun d H' v s' hd hv r' => ?_
  split at hd
  · rename_i a
    cases hv.ref
    split at hd
    · rename_i ys hy
      obtain ⟨ps,g1,g2,g3⟩ := dict_of S r' hy
      refine ⟨"dict.update",_,fun pl Q' hq => getMethod_builtin g1.typeIs PySem.F.plainAttrs_dict PySem.F.slot_dict_update PySem.F.type_dict_update g1.mapOf.noDict hq,hd,fun d2 H2 v2 s2 hd2 hv2 r2 => ?_⟩
      split at hd2
      · rename_i b
        cases hv2.ref
        split at hd2
        · rename_i l rr hl hr
          obtain ⟨ps,a1,a2,a3⟩ := dict_of S r2 hl
          obtain ⟨qs,b1,b2,b3⟩ := dict_of S r2 hr
          obtain ⟨⟨hne,hlen,hnd⟩,hq⟩ := hd2
          have hD := a2.app b2
          have hN : ((ps ++ qs).map (·.1)).Nodup := by rw [hD.keys]; exact nodup_str hnd
          refine call_meetsIn PySem.F.slot_dict_update a1.typeIs PySem.F.entry_dict_update (PySem.F.args_dict_update_2 _ _) (meets_dict_update (strKind c.prog c.w) a b hne b3) ⟨ps,qs,a1,b1,?_,fun h' k1 k2 k3 => ?_⟩
          · have := hD.len; rw [List.length_append,List.length_append] at this; rw [List.length_append] at hlen; unfold sizeLine; lia
          · rw [merged_append_of_fresh _ _ hN] at k1
            obtain ⟨o,ho,hoo⟩ := Heap.dictOf_iff.mp k1
            exact k _ _ _ _ hq rfl (r2.upd hl k3 ho (O' := .dict (l ++ rr)) ⟨_,hoo,hD⟩ (t := s2.toks))
        · exact hd2.elim
      · exact hd2.elim
    · exact hd.elim
  · exact hd.elim
end
end Mine
end
section
open PySem PySem.W PyProof.Rows
namespace Mine
section
variable {c : Cx} {n : Nat} {C : CallT}

noncomputable def prs (ks : List (Option PySem.Expr)) (es : List PySem.Expr) (pos : Pos) (env : Env) : List (Sem Value × Sem Value) :=
  match ks,es with
  | some k :: ks,e :: es => (eval k env,(do let x ← eval e env; standAt pos; pure x)) :: prs ks es pos env
  | _,_ => []
noncomputable def XsP (c : Cx) (n : Nat) (C : CallT) (x : Xs) : Prop :=
  ∀ (A : Around) (sc : Scope) (env : Env) (B : Fz) (ρ : Ev) (ks : List (List Nat)) (ks' : List (Option PySem.Expr)) (es : List PySem.Expr) (pos : Pos) (K : List D → Hp → Prop) (H : Hp) (s : Shared) (Q : List (Value × Value) → Shared → Prop),
    AX n A → EnvS sc env → agXs c.nm sc x es = true → dictKeys ks ks' = true → ks.length = es.length → x.wp c.T C ρ K H → R c B env ρ H s →
    (∀ ds H' vs s',K ds H' → (∃ ps,Carries (strKind c.prog c.w) vs ps ∧ DP ps (ks.zip ds)) → R c B env ρ H' s' → Q vs s') →
    wpAny (model c.prog c.w) A (evalPairs (prs ks' es pos env)) Q noE s
private theorem xsp_nil : XsP c n C .nil := by
  intro A sc env B ρ ks ks' es pos K H s Q hA hE h hk hl hw r k
  cases es with
  | cons => exact (Bool.false_ne_true h).elim
  | nil =>
    simp only [wxs_nil] at hw
    have : ks = [] := List.length_eq_zero_iff.mp hl
    subst this
    have : prs ks' [] pos env = [] := by unfold prs; split <;> first | rfl | (rename_i h1 h2; cases h2)
    rw [this]
    exact evalPairs_nil (k _ _ _ _ hw ⟨[],trivial,trivial⟩ r)
private theorem xsp_cons {x : X} {xs : Xs} (ih : XS c n C x) (ihs : XsP c n C xs) : XsP c n C (.cons x xs) := by
  intro A sc env B ρ ks ks' es pos K H s Q hA hE h hk hl hw r k
  cases es with
  | nil => exact (Bool.false_ne_true h).elim
  | cons e es =>
    simp only [agXs_cc,Bool.and_eq_true] at h
    simp only [wxs_cons] at hw
    obtain ⟨⟨hs,he⟩,hes⟩ := h
    cases ks with
    | nil => cases hl
    | cons l ks =>
      cases ks' with
      | nil => exact (Bool.false_ne_true hk).elim
      | cons q ks' =>
        simp only [dictKeys_cc,Bool.and_eq_true] at hk
        obtain ⟨hq,hk⟩ := hk
        rcases dictKey_i hq with ⟨_,_,rfl⟩
        · unfold prs
          refine evalPairs_cons (wpAny_Constant_str ?_)
          refine wpAny_bind (ih A sc env B ρ _ _ H _ _ hA hE he hw (r.tok _) fun d H' v s' hd hv r' => wpAny_bind (wpAny_standAt (wpAny_pure ?_)))
          refine ihs A sc env B ρ ks ks' es pos _ H' s' _ hA hE hes hk (by simpa using hl) hd r' fun ds H2 vs s2 hds hps r2 => ?_
          obtain ⟨ps,h1,h2⟩ := hps
          exact k _ _ _ _ hds ⟨(⟨l.toArray⟩,v) :: ps,⟨strKind_is _ _ _ _,rfl,h1⟩,⟨⟨rfl,hv⟩,h2⟩⟩ r2
private theorem eeo {k : PySem.Expr} {ks : List (Option PySem.Expr)} {env : Env} : evalEachOpt (some k :: ks) env = some (eval k env) :: evalEachOpt ks env := rfl
private theorem ee {e : PySem.Expr} {es : List PySem.Expr} {env : Env} : evalEach (e :: es) env = eval e env :: evalEach es env := rfl
private theorem prs_zip {pos : Pos} {env : Env} : ∀ {ks : List (List Nat)} {ks' : List (Option PySem.Expr)} {es : List PySem.Expr},dictKeys ks ks' = true → ks.length = es.length →
    (evalEachOpt ks' env).zip ((evalEach es env).map fun v => do let x ← v; standAt pos; pure x) = (prs ks' es pos env).map (fun p => (some p.1,p.2)) ∧ (prs ks' es pos env).length = ks.length
  | [],[],[],_,_ => ⟨rfl,rfl⟩
  | [],_ :: _,_,h,_ => (Bool.false_ne_true h).elim
  | _ :: _,[],_,h,_ => (Bool.false_ne_true h).elim
  | [],_,_ :: _,_,h => by cases h
  | _ :: _,_,[],_,h => by cases h
  | l :: ks,q :: ks',e :: es,h,hl => by
    simp only [dictKeys_cc,Bool.and_eq_true] at h
    obtain ⟨h1,h2⟩ := h
    obtain ⟨e1,e2⟩ := prs_zip (pos := pos) (env := env) h2 (by simpa using hl)
    rcases dictKey_i h1 with ⟨_,_,rfl⟩
    · unfold prs
      simp only [eeo,ee,List.map_cons,List.zip_cons_cons,e1,List.length_cons,e2]
      exact ⟨trivial,trivial⟩
private theorem zip_keys {l : List (List Nat)} {ds : List D} (h : ds.length = l.length) : (l.zip ds).map (·.1) = l := by
  rw [List.map_fst_zip]; lia
private theorem dict_snd {ks : List (List Nat)} {es : Xs} (ihs : XsP c n C es) : XS c n C (.dict ks es) := by
  intro A sc env B ρ e' K H s Q hA hE h hw r k
  replace h := ag_dict h
  rcases h with ⟨_,_,_,rfl,h⟩
  · rename_i ks' es' pos
    simp only [Bool.and_eq_true,decide_eq_true_eq] at h
    obtain ⟨⟨⟨hk,hl⟩,hk0,hk15⟩,he⟩ := h
    simp only [wx_dict] at hw
    obtain ⟨z1,z2⟩ := prs_zip (pos := pos) (env := env) hk hl
    have r1 := r.push emptyDict
    have g1 : (s.heap.push emptyDict).get? s.heap.objs.size = some emptyDict := Heap.get?_push_size _ rfl
    obtain ⟨m,hm,_⟩ := r.loc
    have r2 : R c (B.put s.heap.objs.size emptyDict) env ρ H { s with heap := s.heap.push emptyDict } := r1.freeze g1 r.fresh (Ne.symm (Nat.ne_of_lt hm.lt)) r.freshB
    have hks' : ks ≠ [] ∧ ks.length ≤ 15 := ⟨fun e => by rw [e] at hk0; simp at hk0,hk15⟩
    refine wpAny_Dict_pairs (knd := strKind c.prog c.w) z1 (fun e => hks'.1 (List.length_eq_zero_iff.mp (by rw [← z2,e]; rfl))) (by rw [z2]; exact hks'.2) ?_
    refine ihs A sc env _ ρ ks ks' es' pos _ H _ _ hA hE he hk hl hw r2 fun ds H' vs s' hd hps r' => ?_
    obtain ⟨ps,h1,h2⟩ := hps
    have hf := r'.fz s.heap.objs.size emptyDict (by unfold Fz.put; rw [if_pos rfl])
    have hN : (ps.map (·.1)).Nodup := by rw [h2.keys,zip_keys hd.1.1]; exact nodup_str hd.1.2.2.2
    refine ⟨ps,h1,⟨_,#[],0,hf.1,⟨rfl,rfl,rfl⟩,rfl,by intro e he; simp at he,.nil,by simp⟩,fun h' k1 k2 => ?_⟩
    rw [merged_nil_of_nodup _ hN] at k1
    obtain ⟨o,ho,hoo⟩ := Heap.dictOf_iff.mp k1
    exact k _ _ _ _ (hd.2 _ hf.2) rfl (r'.adopt k2.extBut ho (O := .dict (ks.zip ds)) ⟨_,hoo,h2⟩ r.freshB r.base)
end
end Mine
end
section
open PySem PySem.W PyProof.Rows
namespace Mine
section
variable {c : Cx} {n : Nat} {C : CallT}

structure It (c : Cx) (A : Around) (I : Addr) (xs : List D) (ok : Hp → Prop) (St : Nat → Heap → Prop) : Prop where
  frame : ∀ i h h',St i h → (∀ o,h.get? I = some o → h'.get? I = some o) → St i h'
  has : ∀ i h,St i h → ∃ o,h.get? I = some o
  item : ∀ i x s (Q : Option Value → Shared → Prop) (E : Value → Shared → Prop) B env ρ H,xs[i]? = some x → ok H → R c B env ρ H s → H I = none → St i s.heap →
    (∀ v h' tk,VR v x → St (i + 1) h' → (∀ b o,b ≠ I → s.heap.get? b = some o → h'.get? b = some o) → Q (some v) { s with heap := h',toks := tk }) → wpAny (model c.prog c.w) A (pyNext (.ref I)) Q E s
  done : ∀ s (Q : Option Value → Shared → Prop) (E : Value → Shared → Prop) B env ρ H,ok H → R c B env ρ H s → H I = none → St xs.length s.heap →
    (∀ h' tk,(∀ b o,b ≠ I → s.heap.get? b = some o → h'.get? b = some o) → Q none { s with heap := h',toks := tk }) → wpAny (model c.prog c.w) A (pyNext (.ref I)) Q E s
  self : ∀ i s (Q : Value → Shared → Prop) (E : Value → Shared → Prop),St i s.heap → Q (.ref I) s → wpAny (model c.prog c.w) A (pyIter (.ref I)) Q E s
  go : ∀ i t v x s (Q : Unit → Shared → Prop) (E : Value → Shared → Prop),x ∈ xs → VR v x → St i s.heap → Q () s → wpAny (model c.prog c.w) A (letOwnedTupleGo t (.ref I) v) Q E s

private theorem lot (t : PySem.Expr) (it v : Value) : letOwnedTupleGo t it v = pure () ∨ ∃ p,letOwnedTupleGo t it v = letOwnedTupleGo (.Tuple [] 0 p) it v := by
  cases t <;> first | exact .inl rfl | exact .inr ⟨‹Pos›,rfl⟩
private theorem go_pure {A : Around} {t : PySem.Expr} {I : Addr} {v : Value} {s : Shared} {Q : Unit → Shared → Prop} {E} (hv : ∀ a,v ≠ .ref a) (h : Q () s) : wpAny (model c.prog c.w) A (letOwnedTupleGo t (.ref I) v) Q E s := by
  rcases lot t (.ref I) v with q | ⟨p,q⟩
  · rw [q]; exact wpAny_pure h
  · rw [q]; cases v <;> first | exact wpAny_pure h | exact (hv _ rfl).elim
private theorem go_list {A : Around} {t : PySem.Expr} {I l : Addr} {i : Nat} {v : Value} {s : Shared} {Q : Unit → Shared → Prop} {E} (hI : s.heap.IsListIter I l i) (h : Q () s) : wpAny (model c.prog c.w) A (letOwnedTupleGo t (.ref I) v) Q E s := by
  obtain ⟨o,ho,hc,hd⟩ := hI
  have e : ∀ a,wpAny (model c.prog c.w) A (do
    let o ← load I
    match o.cls,o.data with
    | .type n,.fields vs =>
      if ["enumerate","zip","dict_itemiterator","dict_reverseitemiterator","odict_iterator","itertools.zip_longest","itertools.pairwise"].contains n && vs[0]? == some (rawInt a) then
        rule "for.unpacks-the-owned-tuple"
        updateField I 0 .none
    | _,_ => pure () : Sem Unit) Q E s := by
    intro a
    refine wpAny_bind (wpAny_load ho ?_)
    rw [hc,hd]
    dsimp only
    rw [if_neg (by simp)]
    exact wpAny_pure h
  rcases lot t (.ref I) v with q | ⟨p,q⟩
  · rw [q]; exact wpAny_pure h
  · rw [q]; cases v <;> first | exact wpAny_pure h | exact e _

private theorem It.ofWalks {A : Around} {I : Addr} {xs : List D} {ok : Hp → Prop} {P : Nat → Value → Prop} {St : Nat → Heap → Prop} (W : Walks c.prog c.w A I [I] [I] xs.length P St) (hP : ∀ i x v,xs[i]? = some x → P i v → VR v x)
    (hs : ∀ i h,St i h → ∃ o,h.get? I = some o) (hr : ∀ x ∈ xs,∀ a,x ≠ .ref a) : It c A I xs ok St where
  frame := fun i h h' st hk => W.frame i h h' st fun b hb o e => by simp at hb; subst hb; exact hk o e
  has := hs
  item := fun i x s Q E B env ρ H hx u_ u_ u_ st hQ => W.item i s Q E (List.getElem?_eq_some_iff.mp hx).1 st fun v h' tk hv st' hk => hQ v h' tk (hP i x v hx hv) st' fun b o hb e => hk b o (by simpa using hb) e
  done := fun s Q E B env ρ H u_ u_ u_ st hQ => W.done s Q E st fun h' tk hk => hQ h' tk fun b o hb e => hk b o (by simpa using hb) e
  self := fun i s Q E st h => W.self i s Q E st h
  go := fun i t v x s Q E hx hv st h => go_pure (fun a e => by subst e; have : x = .ref a := by (cases hv; rfl)
                                                               exact hr x hx a this) h
private theorem It.list {A : Around} (hh : A.handled = none) {I ax : Addr} {xs : List D} {ok : Hp → Prop} (hok : ∀ H,ok H → H ax = some (.list xs)) : It c A I xs ok (fun i h => h.IsListIter I ax i) where
  frame := fun i h h' st hk => st.at hk
  has := fun i h st => let ⟨o,ho,_⟩ := st; ⟨o,ho⟩
  item := fun i x s Q E B env ρ H hx hH r hI st hQ => by
    obtain ⟨vs,m,h1,h2,h3⟩ := isList_of r (hok H hH)
    obtain ⟨v,hv,hr⟩ := h3.get hx
    exact wpAny_pyNext_list_item st h2 (by simpa using hv) fun h' st' hs => hQ v h' s.toks hr st' hs.extBut
  done := fun s Q E B env ρ H hH r hI st hQ => by
    obtain ⟨vs,m,h1,h2,h3⟩ := isList_of r (hok H hH)
    exact wpAny_pyNext_list_end hh st h2 (by simp [h3.length]) fun h' hs => hQ h' s.toks hs
  self := fun i s Q E st h => wpAny_pyIter_listiter st h
  go := fun i t v x s Q E hx hv st h => go_list st h

private theorem iter_snd {A : Around} {B : Fz} {env ρ H s} (r : R c B env ρ H s) (hA : A.handled = none) {d : D} {v : Value} {xs : List D} {Q : Value → Shared → Prop} {E} (hd : itemsOf H d = some xs) (hv : VR v d)
    (k : ∀ St o,It c A s.heap.objs.size xs (stays H d) St → St 0 (s.heap.push o) → (s.heap.push o).get? s.heap.objs.size = some o → Q (.ref s.heap.objs.size) { s with heap := s.heap.push o }) :
    wpAny (model c.prog c.w) A (pyIter v) Q E s := by
  unfold itemsOf at hd
  split at hd
  · rename_i l
    split at hd
    · cases hd
      obtain ⟨t,rfl⟩ := hv.str
      have hP : ∀ (i : Nat) (x : D) (v : Value),(l.map fun c => D.str [c])[i]? = some x → SignAt ⟨l.toArray⟩ i v → VR v x := by
        intro i x v hx hp
        obtain ⟨y,u,h1,rfl⟩ := hp
        simp at h1 hx
        obtain ⟨z,hz,rfl⟩ := hx
        rw [h1] at hz; cases hz
        rfl
      have hR : ∀ x ∈ (l.map fun c => D.str [c]),∀ a,x ≠ .ref a := fun x hx a => by simp at hx; obtain ⟨_,_,rfl⟩ := hx; simp
      cases ha : (Str.cps ⟨l.toArray⟩).all (· < 128)
      · refine wpAny_pyIter_wide ha (k (fun i h => h.IsStrIter s.heap.objs.size "str_iterator" ⟨l.toArray⟩ t i) _ (It.ofWalks (P := SignAt ⟨l.toArray⟩) ?_ hP (fun i h st => let ⟨o,ho,_⟩ := st; ⟨o,ho⟩) hR) ⟨_,Heap.get?_push_size _ rfl,rfl,rfl⟩ (Heap.get?_push_size _ rfl))
        have := Walks.strWide (prog := c.prog) (w := c.w) hA s.heap.objs.size ⟨l.toArray⟩ t
        simpa using this
      · refine wpAny_pyIter_ascii ha (k (fun i h => h.IsStrIter s.heap.objs.size "str_ascii_iterator" ⟨l.toArray⟩ t i) _ (It.ofWalks (P := SignAt ⟨l.toArray⟩) ?_ hP (fun i h st => let ⟨o,ho,_⟩ := st; ⟨o,ho⟩) hR) ⟨_,Heap.get?_push_size _ rfl,rfl,rfl⟩ (Heap.get?_push_size _ rfl))
        have := Walks.strAscii (prog := c.prog) (w := c.w) hA s.heap.objs.size ⟨l.toArray⟩ t
        simpa using this
    · cases hd
  · rename_i a
    cases hv.ref
    split at hd
    · rename_i ys hy
      split at hd
      · cases hd
        rename_i hb
        obtain ⟨vs,m,h1,h2,h3⟩ := isList_of r hy
        refine wpAny_pyIter_list h2 (k _ _ (It.list hA fun H hH => ?_) ⟨_,Heap.get?_push_size _ rfl,rfl,rfl⟩ (Heap.get?_push_size _ rfl))
        exact hH.trans hy
      · cases hd
    · rename_i lo hi hx
      split at hd
      · cases hd
        rename_i hb
        obtain ⟨o,ho,t1,t2,t3,rfl⟩ := r.ob _ _ hx
        have hsm : Builtin.Range.small lo hi 1 = true := by unfold big at hb; exact rangeSmall (by lia) (by lia) (by lia) (by lia)
        refine wpAny_pyIter_range ho hsm ?_
        have hlen : ∀ (lo : Int) (n : Nat),(intsR lo n).length = n := by
          intro lo n; induction n generalizing lo with
          | zero => rfl
          | succ n ih => simp [intsR,ih]
        have hget : ∀ (n : Nat) (lo : Int) (i : Nat) x,(intsR lo n)[i]? = some x → x = .int (lo + i) := by
          intro n; induction n with
          | zero => intro lo i x h; simp [intsR] at h
          | succ n ih =>
            intro lo i x h
            cases i with
            | zero => simp [intsR] at h; subst h; simp
            | succ i =>
              simp only [intsR,List.getElem?_cons_succ] at h
              rw [ih _ _ _ h]; congr 1; lia
        refine k _ _ (It.ofWalks (P := fun i v => ∃ t,v = .int (lo + i * 1) t) (St := fun i h => IsRangeIter h s.heap.objs.size (lo + (i : Nat) * 1) (((hi - lo).toNat : Int) - (i : Nat)) 1) (by rw [hlen]; exact Walks.range hA _ lo 1 _) (fun i x v hx hp => ?_) (fun i h st => ⟨_,st⟩) (fun x hx a => ?_)) ?_ (Heap.get?_push_size _ rfl)
        · obtain ⟨t,rfl⟩ := hp
          rw [hget _ _ _ _ hx]
          show some (D.int _) = some (D.int _)
          rw [Int.mul_one]
        · obtain ⟨i,hi',rfl⟩ := List.mem_iff_getElem.mp hx
          rw [hget _ _ i _ (List.getElem?_eq_getElem hi')]; simp
        · show Heap.get? _ _ = _
          rw [Heap.get?_push_size _ rfl,rangeSz]
          simp
      · cases hd
    · cases hd
  · cases hd
end
end Mine
end
section
open PySem PySem.W PyProof.Rows
namespace Mine
section
variable {c : Cx} {n : Nat} {C : CallT}

private theorem R.take {B : Fz} {env ρ H s} (r : R c B env ρ H s) {a : Addr} {o : Obj} {O : AO} (hg : s.heap.get? a = some o) (h : OR c o O) (hB : B a = none) (hL : a ≠ env.locals) : R c B env ρ (H.set a O) s := by
  refine ⟨fun b o e => ?_,fun b O' e => ?_,r.base,r.loc,r.LB,?_,r.cel,r.os,r.gens⟩
  · have q : b ≠ a := by rintro rfl; rw [hB] at e; cases e
    exact ⟨(r.fz b o e).1,by unfold Hp.set; rw [if_neg q]; exact (r.fz b o e).2⟩
  · unfold Hp.set at e
    split at e
    · rename_i q; subst q; cases e; exact ⟨o,hg,h⟩
    · exact r.ob b O' e
  · unfold Hp.set; rw [if_neg (Ne.symm hL)]; exact r.LH
private theorem R.into {B : Fz} {env cenv : Env} {ρ H s} (r : R c B env ρ H s) {oL : Obj} {m : Str → Option Value} {ρ' : Ev} (hg : s.heap.get? env.locals = some oL) (hn : s.heap.Ns cenv.locals m) (hB : B cenv.locals = none) (hH : H cenv.locals = none) (hne : cenv.locals ≠ env.locals)
    (hv : ∀ n,ρ'.v n = none) (hc : ∀ n a,ρ'.c n = some a → cenv.cells.lookup (c.nm n) = some a) : R c (B.put env.locals oL) cenv ρ' H s := by
  refine ⟨fun b o e => ?_,r.ob,fun b o e => ?_,⟨m,hn,fun n d e => by rw [hv] at e; cases e⟩,?_,hH,hc,r.os,r.gens⟩
  · unfold Fz.put at e
    split at e
    · rename_i q; subst q; cases e; exact ⟨hg,r.LH⟩
    · exact r.fz b o e
  · unfold Fz.put
    rw [if_neg]
    · exact r.base b o e
    · rintro rfl; have := r.base _ _ e; rw [r.LB] at this; cases this
  · unfold Fz.put; rw [if_neg hne]; exact hB
private theorem R.back {B B₁ : Fz} {env cenv : Env} {ρ ρ' H s} (r : R c B₁ cenv ρ' H s) {oL : Obj} {m : Str → Option Value} (hL : B₁ env.locals = some oL) (hm : ∀ h : Heap,h.get? env.locals = some oL → h.Ns env.locals m) (hl : ∀ n d,ρ.v n = some d → ∃ v,m (c.nm n) = some v ∧ VR v d)
    (hc : ∀ n a,ρ.c n = some a → env.cells.lookup (c.nm n) = some a) (hb : ∀ b o,c.h₀.get? b = some o → B b = some o) (hs : ∀ b o,B b = some o → B₁ b = some o) (hB : B env.locals = none) : R c B env ρ H s :=
  ⟨fun b o e => r.fz b o (hs b o e),r.ob,hb,⟨m,hm _ (r.fz _ _ hL).1,hl⟩,hB,(r.fz _ _ hL).2,hc,r.os,r.gens⟩

private theorem tg_snd {A : Around} {sc env} {B : Fz} {ρ ρ' H s} (r : R c B env ρ H s) (hA : AX n A) (hE : EnvS sc env) {t : Tg} {t' : PySem.Expr} {d : D} {v : Value} {Q : Unit → Shared → Prop} {E} (h : tgOk c.nm sc t t' = true) (hb : bindTg t H d ρ = some ρ') (hv : VR v d)
    (k : ∀ h' tk,R c B env ρ' H { s with heap := h',toks := tk } → (∀ b o,b ≠ env.locals → s.heap.get? b = some o → h'.get? b = some o) → Q () { s with heap := h',toks := tk }) :
    wpAny (model c.prog c.w) A (assign t' env v) Q E s := by
  have hp : (env.scope.kind == .class || (env.scope.kind == .module && env.locals != env.globals)) = false := by rw [hE.kind]; rfl
  obtain ⟨m,hm,hl⟩ := r.loc
  cases t with
  | one z =>
    replace h := e_Name_i (F := fun x u_ => x == c.nm z && isLocal sc x) h
    rcases h with ⟨_,_,rfl,h⟩
    simp only [Bool.and_eq_true,beq_iff_eq,isLocal,decide_eq_true_eq] at h
    obtain ⟨rfl,h1,h2⟩ := h
    replace hb : some (ρ.put z d) = some ρ' := hb
    simp only [Option.some.injEq] at hb
    subst hb
    refine wpAny_assign_Name (wpAny_storeName_local (by rw [hE.kindOf]; exact h1) hm (fun h' hn hs => ?_) hp)
    exact k _ _ (r.store hm hl hs hn hv) hs.extBut
  | two a b =>
    replace h := e_Tuple_i (F := fun es u_ u_ => o2 es fun p q => e_Name p fun x u_ => e_Name q fun y u_ => x == c.nm a && isLocal sc x && y == c.nm b && isLocal sc y) h
    rcases h with ⟨_,_,_,rfl,h⟩
    replace h := o2_i h
    rcases h with ⟨_,_,rfl,h⟩
    replace h := e_Name_i h
    rcases h with ⟨_,_,rfl,h⟩
    replace h := e_Name_i h
    rcases h with ⟨_,_,rfl,h⟩
    simp only [Bool.and_eq_true,beq_iff_eq,isLocal,decide_eq_true_eq] at h
    obtain ⟨⟨⟨rfl,h1,h2⟩,rfl⟩,h3,h4⟩ := h
    cases d with
    | ref t =>
      replace hb : (match H t with | some (.tuple [x,y]) => some ((ρ.put a x).put b y) | _ => none) = some ρ' := hb
      split at hb
      · rename_i x y ht
        cases hb
        cases hv.ref
        obtain ⟨o,ho,vs,kk,rfl,hvs⟩ := r.ob _ _ ht
        obtain ⟨u,us,rfl,hu,hus⟩ := hvs.cons
        obtain ⟨w',ws,rfl,hw',hws⟩ := hus.cons
        rw [hws.nil] at ho
        refine kcp_assign hA.handled ⟨_,ho,rfl,kk,rfl⟩ (by rw [hE.kindOf]; exact h1) (by rw [hE.kindOf]; exact h3) hp hm fun h' tk hn hk => ?_
        refine k _ _ (r.storeX hk hn (fun q d e => ?_) fun u_ u_ e => e) hk
        unfold Ev.put at e
        dsimp only at e
        rw [cond_beq] at e
        split at e
        · rename_i q; subst q; cases e
          exact ⟨_,if_pos rfl,hw'⟩
        · rename_i q
          rw [cond_beq] at e
          split at e
          · rename_i q'; subst q'; cases e
            exact ⟨_,by rw [if_neg fun z => q (c.inj _ _ z),if_pos rfl],hu⟩
          · rename_i q'
            obtain ⟨v',h1,h2⟩ := hl _ d e
            exact ⟨v',by rw [if_neg fun z => q (c.inj _ _ z),if_neg fun z => q' (c.inj _ _ z)]; exact h1,h2⟩
      · cases hb
    | _ => cases hb

private theorem clos_of {env : Env} : ∀ (names : List (Str × NameKind)),(∀ p ∈ names,p.2 = .free → ∃ a,env.cells.lookup p.1 = some a) → ∀ (init : List (Str × Addr)),(∀ x a,init.lookup x = some a → env.cells.lookup x = some a) →
    ∃ cl : List (Str × Addr),(forIn names init (fun (p : Str × NameKind) (r : List (Str × Addr)) => (if (p.2 == NameKind.free) = true then (do let a ← cellOf env p.1; pure (ForInStep.yield ((p.1,a) :: r))) else pure (ForInStep.yield r) : Sem (ForInStep (List (Str × Addr))))) : Sem (List (Str × Addr))) = pure cl ∧
      (∀ x a,cl.lookup x = some a → env.cells.lookup x = some a) ∧ (∀ x,(∃ a,init.lookup x = some a) → ∃ a,cl.lookup x = some a) ∧ (∀ x,(x,NameKind.free) ∈ names → ∃ a,cl.lookup x = some a)
  | [],_,init,hi => ⟨init,rfl,hi,fun u_ h => h,fun u_ h => nomatch h⟩
  | (x,k) :: r,h,init,hi => by
    by_cases hk : k = .free
    · subst hk
      obtain ⟨a,ha⟩ := h (x,.free) (.head _) rfl
      obtain ⟨cl,h1,h2,h3,h4⟩ := clos_of r (fun p hp => h p (.tail _ hp)) ((x,a) :: init) (fun y b hb => by
        simp only [List.lookup_cons] at hb
        split at hb
        · rename_i q; cases hb; rw [eq_of_beq q]; exact ha
        · exact hi y b hb)
      refine ⟨cl,?_,h2,fun y hy => h3 y ?_,fun y hy => ?_⟩
      · rw [List.forIn_cons]
        simp only [beq_self_eq_true,if_true]
        have e : cellOf env x = pure a := by unfold cellOf; rw [ha]
        rw [e]
        exact h1
      · obtain ⟨b,hb⟩ := hy
        simp only [List.lookup_cons]
        split
        · exact ⟨_,rfl⟩
        · exact ⟨b,hb⟩
      · rcases List.mem_cons.mp hy with q | q
        · cases q
          exact h3 x ⟨a,by simp [List.lookup_cons]⟩
        · exact h4 y q
    · obtain ⟨cl,h1,h2,h3,h4⟩ := clos_of r (fun p hp => h p (.tail _ hp)) init hi
      refine ⟨cl,?_,h2,h3,fun y hy => ?_⟩
      · rw [List.forIn_cons]
        have : (k == NameKind.free) = false := by simpa using hk
        simp only [this,Bool.false_eq_true,if_false]
        exact h1
      · rcases List.mem_cons.mp hy with q | q
        · cases q; exact (hk rfl).elim
        · exact h4 y q
private theorem closureFor_of {env : Env} {scope : Scope} (h : ∀ p ∈ scope.names,p.2 = .free → ∃ a,env.cells.lookup p.1 = some a) :
    ∃ cl,closureFor scope env = pure cl ∧ (∀ x a,cl.lookup x = some a → env.cells.lookup x = some a) ∧ (∀ x,(x,NameKind.free) ∈ scope.names → ∃ a,cl.lookup x = some a) := by
  obtain ⟨cl,h1,h2,h3,h4⟩ := clos_of scope.names h [] (fun x a e => by simp at e)
  refine ⟨cl,?_,h2,h4⟩
  unfold closureFor
  show (do let r ← forIn scope.names ([] : List (Str × Addr)) _; pure r) = _
  refine Eq.trans ?_ (bind_pure _ |>.trans h1)
  congr
end
end Mine
end
section
open PySem PySem.W PyProof.Rows
namespace Mine
section
variable {c : Cx} {n : Nat} {C : CallT}

private theorem relab_eq {sc sc' : Scope} {env : Env} {cs : List Nat} {nm : Nat → Str} (hE : EnvS sc env) (h : compOk nm sc sc' cs = true) : (relabel sc' env).names = (relab sc').names := by
  unfold compOk at h
  simp only [Bool.and_eq_true,List.all_eq_true] at h
  unfold relabel relab
  refine List.map_congr_left fun p hp => ?_
  obtain ⟨x,k⟩ := p
  have := (h.1 _ hp).1.2
  by_cases hk : k = .free
  · subst hk
    simp at this
    have e : (env.kindOf x == some NameKind.cell) = true := by rw [hE.kindOf,this.1]; rfl
    simp [hE.kind,e]
  · have hk' : (k == NameKind.free) = false := by simpa using hk
    simp [hk,hk']

private theorem bindTg_c {t : Tg} {H : Hp} {d : D} {ρ ρ' : Ev} (h : bindTg t H d ρ = some ρ') : ρ'.c = ρ.c := by
  cases t with
  | one n => cases h; rfl
  | two a b => cases d with
    | ref t =>
      replace h : (match H t with | some (.tuple [x,y]) => some ((ρ.put a x).put b y) | _ => none) = some ρ' := h
      split at h
      · cases h; rfl
      · cases h
    | _ => cases h

private theorem comp_block {A : Around} {sc env} {B B₀ : Fz} {ρ : Ev} {elt : X} {t : Tg} {cs : List Nat} {elt' t' it' : PySem.Expr} {sc' : Scope} {pos : Pos} {K : K1} {H H0 : Hp} {s : Shared} {Q : Value → Shared → Prop} {use : Option (Value → Sem Unit)}
    {I D : Addr} {d : Mine.D} {xs : List Mine.D} {St : Nat → Heap → Prop} {oI : Obj} {cl : List (Str × Addr)} {E : Value → Shared → Prop}
    (ihE : XS c n C elt) (hA : AX n A) (hE : EnvS sc env) (htg : tgOk c.nm (relab sc') t t' = true) (helt : agX c.nm (relab sc') elt elt' = true) (hnames : (relabel sc' env).names = (relab sc').names) (hkind : sc'.kind = .function) (hcell : ∀ x ∈ sc'.names,x.2 ≠ .cell)
    (hclk : ∀ q a,(ρ.onlyC cs).c q = some a → cl.lookup (c.nm q) = some a) (W : It c A I xs (stays H0 d) St) (hlen : xs.length ≤ big)
    (hci : compItems (fun ρ' K H => elt.wp c.T C ρ' K H) t (ρ.onlyC cs) (stays H0 d) (fun acc H => ∀ a,H a = none → K (.ref a) (H.set a (.list acc))) xs [] H)
    (r : R c B₀ env ρ H s) (hb : ∀ b o,c.h₀.get? b = some o → B b = some o) (hs : ∀ b o,B b = some o → B₀ b = some o) (hI : B₀ I = some oI) (hD : B₀ D = some (seqObj "list" [] 0)) (st : St 0 s.heap) (hDI : D ≠ I) (BI : B I = none) (BD : B D = none) (BL : B env.locals = none)
    (fin : ∀ a C' mC H' s',K (.ref a) H' → R c B env ρ H' s' → s'.heap.Ns C' mC → C' ≠ env.locals → B C' = none → H' C' = none → compPost (model c.prog c.w) A E use Q (.ref a) C' (.ok .next) s') :
    wpAny (model c.prog c.w) A (newFunctionEnv sc' env.globals cl [] env.qual none .none (some env)) (fun cenv s₄ =>
      codeAny (model c.prog c.w) A (.compStart (.ListComp elt' [⟨t',it',[],0⟩] sc' pos) 0 (.ref I) (.ref D) { cenv with scope := relabel sc' env }) (compPost (model c.prog c.w) A E use Q (.ref D) cenv.locals) s₄) E s := by
  refine wpAny_newFunctionEnv hcell (by intro y hy; simp at hy) (fun h₁ hns₁ hsb₁ => ?_) hkind
  have hC0 : H s.heap.objs.size = none := r.fresh
  have hC1 : B₀ s.heap.objs.size = none := r.freshB
  obtain ⟨mL,hmL,hlL⟩ := r.loc
  have hCL : s.heap.objs.size ≠ env.locals := Ne.symm (Nat.ne_of_lt hmL.lt)
  have hlt : ∀ b o,s.heap.get? b = some o → b ≠ s.heap.objs.size := fun b o e q => absurd (Heap.lt_size e) (by rw [q]; exact Nat.lt_irrefl _)
  have up : ∀ b o,s.heap.get? b = some o → h₁.get? b = some o := fun b o e => hsb₁.extBut b o (hlt b o e) (Heap.get?_push_of_some _ e)
  have r1 : R c B₀ env ρ H { s with heap := h₁,toks := s.toks + ([] : List (Str × Value)).length } := r.more up
  have st1 : St 0 h₁ := W.frame _ _ _ st fun o e => up _ _ e
  generalize hC' : s.heap.objs.size = C' at hns₁ hC0 hC1 hCL ⊢
  have hCI : C' ≠ I := by rintro rfl; rw [hC1] at hI; cases hI
  have hCD : C' ≠ D := by rintro rfl; rw [hC1] at hD; cases hD
  have hBC : B C' = none := by
    cases q : B C' with
    | none => rfl
    | some o => rw [hs _ _ q] at hC1; cases hC1
  obtain ⟨oL,esL,epL,hoL,hdL,hkL,hmL'⟩ := r1.loc.choose_spec.1
  obtain ⟨mL1,⟨hmL1,hlL1⟩⟩ : ∃ m,h₁.Ns env.locals m ∧ ∀ n d,ρ.v n = some d → ∃ v,m (c.nm n) = some v ∧ VR v d := r1.loc
  have hoL1 : ∀ h : Heap,h.get? env.locals = some oL → h.Ns env.locals mL1 := by
    obtain ⟨o2,es2,ep2,h2,h3⟩ := hmL1
    intro h e
    have : h₁.get? env.locals = some oL := hoL
    rw [this] at h2; cases h2
    exact ⟨oL,es2,ep2,e,h3⟩
  have hBL0 : B₀ env.locals = none := r.LB
  have hIL : I ≠ env.locals := by rintro rfl; rw [hBL0] at hI; cases hI
  have hDL : D ≠ env.locals := by rintro rfl; rw [hBL0] at hD; cases hD
  have hEC : EnvS (relab sc') (compEnvC sc' cl C' env) := ⟨hnames,hkind,hE.glob,hE.blt⟩
  have r2 : R c (B₀.put env.locals oL) (compEnvC sc' cl C' env) (ρ.onlyC cs) H { s with heap := h₁,toks := s.toks + ([] : List (Str × Value)).length } :=
    r1.into hoL (cenv := compEnvC sc' cl C' env) hns₁ hC1 hC0 hCL (fun u_ => rfl) hclk
  have loop : codeAny (model c.prog c.w) A (.compLoop (.ListComp elt' [⟨t',it',[],0⟩] sc' pos) 0 (.ref I) (.ref D) (compEnvC sc' cl C' env)) (compPost (model c.prog c.w) A E use Q (.ref D) C')
      { s with heap := h₁,toks := s.toks + ([] : List (Str × Value)).length } := by
    refine kcp_loop (fun k s' => ∃ (B₁ : Fz) (H' : Hp) (rem acc : List Mine.D) (vs : List Value) (ep : Nat) (oI : Obj) (i : Nat),k = rem.length + 1 ∧ i + rem.length = xs.length ∧ xs.drop i = rem ∧
      compItems (fun ρ' K H => elt.wp c.T C ρ' K H) t (ρ.onlyC cs) (stays H0 d) (fun acc H => ∀ a,H a = none → K (.ref a) (H.set a (.list acc))) rem acc H' ∧
      R c B₁ (compEnvC sc' cl C' env) (ρ.onlyC cs) H' s' ∧ St i s'.heap ∧ B₁ I = some oI ∧ B₁ D = some (seqObj "list" vs ep) ∧ VRs vs acc ∧ acc.length = i ∧ B₁ env.locals = some oL ∧ (∀ b o,B b = some o → B₁ b = some o)) ?_ (xs.length + 1)
      ⟨B₀.put env.locals oL,H,xs,[],[],0,oI,0,rfl,by simp,rfl,hci,r2,st1,by unfold Fz.put; rw [if_neg hIL]; exact hI,by unfold Fz.put; rw [if_neg hDL]; exact hD,rfl,rfl,by unfold Fz.put; rw [if_pos rfl],
        fun b o e => by unfold Fz.put; rw [if_neg (by rintro rfl; rw [BL] at e; cases e)]; exact hs b o e⟩
    rintro k s' ⟨B₁,H',rem,acc,vs,ep,oI,i,rfl,hi,hrem,hc,r',st',bI,bD,hvs,hacc,bL,bs⟩
    cases rem with
    | nil =>
      have hix : i = xs.length := by simpa using hi
      subst hix
      obtain ⟨hstay,hq⟩ := hc
      have hHI := (r'.fz _ _ bI).2
      have hHD := (r'.fz _ _ bD).2
      refine W.done s' _ _ _ _ _ _ hstay r' hHI st' fun h' tk hk => ?_
      obtain ⟨mC,hmC,_⟩ := r'.loc
      have rB : R c B env ρ H' s' := r'.back bL hoL1 hlL1 r.cel hb bs BL
      have rE := rB.ext (t := tk) hk BI hHI hIL
      have gD : h'.get? D = some (seqObj "list" vs ep) := hk _ _ hDI (r'.fz _ _ bD).1
      have rT := rE.take gD (O := .list acc) ⟨_,_,rfl,hvs⟩ BD hDL
      refine fin D C' mC _ _ (hq D hHD) rT (hmC.at' fun o e => hk _ o hCI e) hCL hBC ?_
      unfold Hp.set; rw [if_neg hCD]; exact r'.LH
    | cons x rem =>
      have hx : xs[i]? = some x := by
        have := congrArg List.head? hrem
        rw [List.head?_drop] at this
        exact this
      have hrem' : xs.drop (i + 1) = rem := by
        have := congrArg List.tail hrem
        rwa [List.tail_drop] at this
      obtain ⟨hstay,hc⟩ := hc
      split at hc
      · rename_i ρ' hbt
        have hHI := (r'.fz _ _ bI).2
        have h0I : c.h₀.get? I = none := by
          cases q : c.h₀.get? I with
          | none => rfl
          | some o => rw [hb _ _ q] at BI; cases BI
        have h0D : c.h₀.get? D = none := by
          cases q : c.h₀.get? D with
          | none => rfl
          | some o => rw [hb _ _ q] at BD; cases BD
        refine W.item i x s' _ _ _ _ _ _ hx hstay r' hHI st' fun v h' tk hv st2 hk => ?_
        obtain ⟨oI',hoI'⟩ := W.has _ _ st2
        have r3 := r'.swap bI hk hoI' h0I (t := tk)
        dsimp only
        refine W.go _ _ v x _ _ _ (List.mem_of_getElem? hx) hv st2 ?_
        have bD' : (B₁.put I oI') D = some (seqObj "list" vs ep) := by unfold Fz.put; rw [if_neg hDI]; exact bD
        have bI' : (B₁.put I oI') I = some oI' := by unfold Fz.put; rw [if_pos rfl]
        refine tg_snd r3 hA hEC htg hbt hv fun h4 tk4 r4 hk4 => ?_
        refine noE_mono (ihE A (relab sc') _ _ ρ' elt' _ H' _ _ hA hEC helt hc r4 fun d5 H5 v5 s5 hd5 hv5 r5 => ?_)
        obtain ⟨gD,hHD⟩ := r5.fz _ _ bD'
        obtain ⟨gI,_⟩ := r5.fz _ _ bI'
        refine noE_mono (append_call r5 gD (by rw [hvs.length]; lia) fun h6 m6 g6 hs6 => ?_)
        have r6 := r5.swap bD' hs6.extBut g6 h0D (t := s5.toks)
        refine ⟨rem.length + 1,by simp,_,H5,rem,acc ++ [d5],vs ++ [v5],m6,oI',i + 1,rfl,by simp at hi ⊢; lia,hrem',hd5,r6.weak (fun n d e => by cases e) (fun n a e => by rw [bindTg_c hbt]; exact e),?_,?_,?_,hvs.app (VRs.mk hv5 rfl),by simp [hacc],?_,fun b o e => ?_⟩
        · refine W.frame _ h' _ st2 fun o e => ?_
          rw [hoI'] at e; cases e
          exact hs6.extBut _ _ (Ne.symm hDI) gI
        · unfold Fz.put; rw [if_neg (Ne.symm hDI),if_pos rfl]
        · unfold Fz.put; rw [if_pos rfl]
        · unfold Fz.put; rw [if_neg (Ne.symm hDL),if_neg (Ne.symm hIL)]; exact bL
        · unfold Fz.put
          rw [if_neg (by rintro rfl; rw [BD] at e; cases e),if_neg (by rintro rfl; rw [BI] at e; cases e)]
          exact bs b o e
      · exact hc.elim
  exact codeAny_compStart_list loop (W.self 0 _ _ _ st1 loop)

private theorem comp_core {A : Around} {sc env} {B : Fz} {ρ : Ev} {elt it : X} {t : Tg} {cs : List Nat} {elt' t' it' : PySem.Expr} {sc' : Scope} {pos p1 : Pos} {K : K1} {H : Hp} {s : Shared} {Q : Value → Shared → Prop} {use : Option (Value → Sem Unit)}
    (ihE : XS c n C elt) (ihI : XS c n C it) (hA : AX n A) (hE : EnvS sc env) (h : agX c.nm sc (.comp elt t cs it) (.ListComp elt' [⟨t',it',[],0⟩] sc' pos) = true)
    (hw : (X.comp elt t cs it).wp c.T C ρ K H) (r : R c B env ρ H s)
    (fin : ∀ a C' mC H' s',K (.ref a) H' → R c B env ρ H' s' → s'.heap.Ns C' mC → C' ≠ env.locals → B C' = none → H' C' = none → compPost (model c.prog c.w) A noE use Q (.ref a) C' (.ok .next) s') :
    wpAny (model c.prog c.w) A (comprehension (.ListComp elt' [⟨t',it',[],0⟩] sc' pos) sc' env p1 (newList []) false (eval it' env) use) Q noE s := by
  rw [agX_comp] at h
  simp only [Bool.and_eq_true,decide_eq_true_eq] at h
  obtain ⟨⟨⟨⟨⟨htg,helt⟩,hset⟩,hit⟩,hkind⟩,hok⟩ := h
  have hnames := relab_eq hE hok
  have hok' := hok
  unfold compOk at hok'
  simp only [Bool.and_eq_true,List.all_eq_true,List.any_eq_true,Bool.or_eq_true,decide_eq_true_eq] at hok'
  obtain ⟨hok1,hok2⟩ := hok'
  simp only [wx_comp] at hw
  obtain ⟨hcs,hw⟩ := hw
  obtain ⟨cl,hclos,h2,h3⟩ := closureFor_of (env := env) (scope := sc') fun p hp hf => by
    obtain ⟨⟨_,h⟩,_⟩ := hok1 p hp
    rcases h with h | ⟨_,q,hq,hn⟩
    · exact (h hf).elim
    · obtain ⟨a,ha⟩ := Option.isSome_iff_exists.mp (hcs q hq)
      exact ⟨a,by rw [← hn]; exact r.cel q a ha⟩
  have hclk : ∀ q a,(ρ.onlyC cs).c q = some a → cl.lookup (c.nm q) = some a := by
    intro q a e
    unfold Ev.onlyC at e
    dsimp only at e
    split at e
    · rename_i hq
      obtain ⟨p,hp,hpn,hpf⟩ := hok2 q hq
      obtain ⟨b,hb⟩ := h3 (c.nm q) (by obtain ⟨x,k⟩ := p; simp only at hpn hpf; subst hpn hpf; exact hp)
      have := h2 _ _ hb
      rw [r.cel q a e] at this
      cases this
      exact hb
    · cases e
  refine wpAny_comprehension_free (g := ⟨t',it',[],0⟩) (gs := []) rfl (fun x => by cases it' <;> first | rfl | (exact (Bool.false_ne_true hset).elim)) hclos hkind (fun x hx hl => by
    have := (hok1 x hx).2
    rcases this with h | h
    · exact (h hl).elim
    · exact h) ?_
  refine ihI A sc env B ρ _ _ H s _ hA hE hit hw r fun d H1 v s1 hd hv r1 => ?_
  split at hd
  · rename_i xs hxs
    obtain ⟨hlen,hci⟩ := hd
    refine iter_snd r1 hA.handled hxs hv fun St o W st0 hI => ?_
    obtain ⟨mL,hmL,hlL⟩ := r1.loc
    have hLI : s1.heap.objs.size ≠ env.locals := Ne.symm (Nat.ne_of_lt hmL.lt)
    have r2 := (r1.push o).freeze hI r1.fresh hLI r1.freshB
    refine wpAny_newObj_type ?_ (by show (0 : Nat) ≤ sizeLine; lia)
    have gD : ((s1.heap.push o).push (seqObj "list" [] 0)).get? (s1.heap.push o).objs.size = some (seqObj "list" [] 0) := Heap.get?_push_size _ rfl
    obtain ⟨m2,hm2,_⟩ := r2.loc
    have hm2' : (s1.heap.push o).Ns env.locals m2 := hm2
    have hLD : (s1.heap.push o).objs.size ≠ env.locals := Ne.symm (Nat.ne_of_lt hm2'.lt)
    have r3 := (r2.push (seqObj "list" [] 0)).freeze gD r2.fresh hLD r2.freshB
    have hDI : (s1.heap.push o).objs.size ≠ s1.heap.objs.size := by rw [Heap.size_push]; exact Nat.succ_ne_self _
    have bD := r2.freshB
    dsimp only at bD
    unfold Fz.put at bD
    rw [if_neg hDI] at bD
    refine comp_block ihE hA hE htg helt hnames hkind (fun x hx => (hok1 x hx).1.1) hclk W hlen hci r3 r.base (fun b o' e => ?_) (oI := o) ?_ ?_ (W.frame _ _ _ st0 fun o e => Heap.get?_push_of_some _ e) hDI r1.freshB bD r.LB fin
    · unfold Fz.put
      rw [if_neg (by rintro rfl; rw [bD] at e; cases e),if_neg (by rintro rfl; rw [r1.freshB] at e; cases e)]
      exact e
    · unfold Fz.put; rw [if_neg (Ne.symm hDI),if_pos rfl]
    · unfold Fz.put; rw [if_pos rfl]
  · exact hd.elim
end
end Mine
end
section
open PySem PySem.W PyProof.Rows
namespace Mine
section
variable {c : Cx} {n : Nat} {C : CallT}

private theorem comp_fin {A : Around} {B : Fz} {env ρ H s} (r : R c B env ρ H s) {C' : Addr} {mC : Str → Option Value} {Q : Value → Shared → Prop} {a : Addr} (hn : s.heap.Ns C' mC) (hne : C' ≠ env.locals) (hB : B C' = none) (hH : H C' = none)
    (k : ∀ s',R c B env ρ H s' → Q (.ref a) s') : compPost (model c.prog c.w) A noE none Q (.ref a) C' (.ok .next) s :=
  ⟨mC,hn,fun h' hs => k _ (r.ext (t := s.toks) hs.extBut hB hH hne)⟩
private theorem comp_snd {elt it : X} {t : Tg} {cs : List Nat} (ihE : XS c n C elt) (ihI : XS c n C it) : XS c n C (.comp elt t cs it) := by
  intro A sc env B ρ e' K H s Q hA hE h hw r k
  rcases ag_comp h with ⟨_,_,_,_,_,rfl,_⟩
  · rw [eval_ListComp]
    exact comp_core (use := none) ihE ihI hA hE h hw r fun a C' mC H' s' hk r' hn h1 h2 h3 => comp_fin r' hn h1 h2 h3 fun s'' r'' => k _ _ _ _ hk rfl r''

mutual
private theorem X_all (S : St c) (hC : CallS c n C) : (x : X) → XS c n C x ∧ XT c n C x
  | .none => ⟨none_snd,plain_T rfl none_snd⟩
  | .bool _ => ⟨bool_snd,plain_T rfl bool_snd⟩
  | .int _ => ⟨int_snd,plain_T rfl int_snd⟩
  | .str _ => ⟨str_snd,plain_T rfl str_snd⟩
  | .loc _ => ⟨loc_snd,plain_T rfl loc_snd⟩
  | .cel _ => ⟨cel_snd,plain_T rfl cel_snd⟩
  | .glo _ => ⟨glo_snd S,plain_T rfl (glo_snd S)⟩
  | .attr e _ => ⟨attr_snd S (X_all S hC e).1,plain_T rfl (attr_snd S (X_all S hC e).1)⟩
  | .call f as => ⟨call_snd S hC (X_all S hC f).1 (Xs_all S hC as).1,plain_T rfl (call_snd S hC (X_all S hC f).1 (Xs_all S hC as).1)⟩
  | .mcall o _ as => ⟨mcall_snd S hC (X_all S hC o).1 (Xs_all S hC as).1,plain_T rfl (mcall_snd S hC (X_all S hC o).1 (Xs_all S hC as).1)⟩
  | .len e => ⟨len_snd S (X_all S hC e).1,plain_T rfl (len_snd S (X_all S hC e).1)⟩
  | .chr e => ⟨chr_snd S (X_all S hC e).1,plain_T rfl (chr_snd S (X_all S hC e).1)⟩
  | .ord e => ⟨ord_snd S (X_all S hC e).1,plain_T rfl (ord_snd S (X_all S hC e).1)⟩
  | .sorted e => ⟨sorted_snd S (X_all S hC e).1,plain_T rfl (sorted_snd S (X_all S hC e).1)⟩
  | .listOf e => ⟨listOf_snd S (X_all S hC e).1,plain_T rfl (listOf_snd S (X_all S hC e).1)⟩
  | .tupleOf e => ⟨tupleOf_snd S (X_all S hC e).1,plain_T rfl (tupleOf_snd S (X_all S hC e).1)⟩
  | .range1 e => ⟨range1_snd S (X_all S hC e).1,plain_T rfl (range1_snd S (X_all S hC e).1)⟩
  | .range2 a b => ⟨range2_snd S (X_all S hC a).1 (X_all S hC b).1,plain_T rfl (range2_snd S (X_all S hC a).1 (X_all S hC b).1)⟩
  | .append o e => ⟨append_snd (X_all S hC o).1 (X_all S hC e).1,plain_T rfl (append_snd (X_all S hC o).1 (X_all S hC e).1)⟩
  | .join o e => ⟨join_snd (X_all S hC o).1 (X_all S hC e).1,plain_T rfl (join_snd (X_all S hC o).1 (X_all S hC e).1)⟩
  | .update o e => ⟨update_snd S (X_all S hC o).1 (X_all S hC e).1,plain_T rfl (update_snd S (X_all S hC o).1 (X_all S hC e).1)⟩
  | .cmp _ l r => cmp_s (X_all S hC l).1 (X_all S hC r).1
  | .chain _ _ l m r => chain_s (X_all S hC l).1 (X_all S hC m).1 (X_all S hC r).1
  | .isin _ l r => isin_s S (X_all S hC l).1 (X_all S hC r).1
  | .bop _ es => bop_s (Xs_all S hC es).2.1 (Xs_all S hC es).2.2.1
  | .not e => not_s (X_all S hC e).1 (X_all S hC e).2
  | .neg e => ⟨neg_snd (X_all S hC e).1,plain_T rfl (neg_snd (X_all S hC e).1)⟩
  | .bin _ l r => ⟨bin_s (X_all S hC l).1 (X_all S hC r).1,plain_T rfl (bin_s (X_all S hC l).1 (X_all S hC r).1)⟩
  | .ite t a b => ite_s (X_all S hC t).2 (X_all S hC a).1 (X_all S hC b).1 (X_all S hC a).2 (X_all S hC b).2
  | .sub e i => ⟨sub_snd S (X_all S hC e).1 (X_all S hC i).1,plain_T rfl (sub_snd S (X_all S hC e).1 (X_all S hC i).1)⟩
  | .slice e l h => ⟨slice_snd (X_all S hC e).1 (X_all S hC l).1 (X_all S hC h).1,plain_T rfl (slice_snd (X_all S hC e).1 (X_all S hC l).1 (X_all S hC h).1)⟩
  | .list es => ⟨list_snd (Xs_all S hC es).1,plain_T rfl (list_snd (Xs_all S hC es).1)⟩
  | .tuple es => ⟨tuple_snd (Xs_all S hC es).1,plain_T rfl (tuple_snd (Xs_all S hC es).1)⟩
  | .dict _ es => ⟨dict_snd (Xs_all S hC es).2.2.2,plain_T rfl (dict_snd (Xs_all S hC es).2.2.2)⟩
  | .comp elt _ _ it => ⟨comp_snd (X_all S hC elt).1 (X_all S hC it).1,plain_T rfl (comp_snd (X_all S hC elt).1 (X_all S hC it).1)⟩
private theorem Xs_all (S : St c) (hC : CallS c n C) : (x : Xs) → XsS c n C x ∧ XsB c n C x ∧ XsT c n C x ∧ XsP c n C x
  | .nil => ⟨xs0_nil,xsb_nil,xst_nil,xsp_nil⟩
  | .cons x r => ⟨xs0_cons (X_all S hC x).1 (Xs_all S hC r).1,xsb_cons (X_all S hC x).1 (Xs_all S hC r).2.1,xst_cons (X_all S hC x).2 (Xs_all S hC r).2.2.1,xsp_cons (X_all S hC x).1 (Xs_all S hC r).2.2.2⟩
end

private theorem AR.noRef {nm : Nat → Str} : ∀ {es : List DictEntry} {fs : List (Nat × D)},AR nm es fs → es.any (·.refKey) = false
  | [],[],_ => rfl
  | e :: es,(f,d) :: r,h => by
    obtain ⟨⟨⟨t,hk⟩,_⟩,hr⟩ := h
    rw [List.any_cons,AR.noRef hr]
    have : e.refKey = false := by unfold DictEntry.refKey; rw [hk]
    rw [this]; rfl
  | [],_ :: _,h => h.elim
  | _ :: _,[],h => h.elim
private theorem AR.put {nm : Nat → Str} (inj : ∀ a b,nm a = nm b → a = b) {f : Nat} {x : D} {v : Value} {hsh : Int} {t : Tok} (hv : VR v x) : ∀ {es : List DictEntry} {fs : List (Nat × D)},AR nm es fs → AR nm (putL (nm f) hsh (.str (nm f) t) v es) (putA f x fs)
  | [],[],_ => ⟨⟨⟨_,rfl⟩,hv⟩,trivial⟩
  | e :: es,(g,d) :: r,h => by
    obtain ⟨⟨⟨t',hk⟩,hd⟩,hr⟩ := h
    unfold putL putA
    simp only [cond_beq]
    by_cases q : g = f
    · subst q
      have : e.key.isStr (nm g) = true := by rw [hk]; simp [Value.isStr]
      rw [if_pos this,if_pos rfl]
      exact ⟨⟨⟨t',hk⟩,hv⟩,hr⟩
    · have : ¬ e.key.isStr (nm f) = true := by
        rw [hk]; simp [Value.isStr]; exact fun z => q (inj _ _ z)
      rw [if_neg this,if_neg q]
      exact ⟨⟨⟨t',hk⟩,hd⟩,AR.put inj hv hr⟩
  | [],_ :: _,h => h.elim
  | _ :: _,[],h => h.elim
private theorem AR.len {nm : Nat → Str} : ∀ {es : List DictEntry} {fs : List (Nat × D)},AR nm es fs → es.length = fs.length
  | [],[],_ => rfl
  | _ :: _,_ :: _,h => by simp [AR.len h.2]
  | [],_ :: _,h => h.elim
  | _ :: _,[],h => h.elim

private theorem set_snd {A : Around} {B : Fz} {env ρ H s} (S : St c) (r : R c B env ρ H s) {d x : D} {C' dx : Addr} {fs : List (Nat × D)} {f : Nat} {v vv : Value} {Q : Unit → Shared → Prop} {E} (h : attrsOf H d = some (C',dx,fs)) (hf : c.T.field C' f = true)
    (hv : VR v d) (hx : VR vv x) (hz : (putA f x fs).length ≤ 1000) (k : ∀ s',R c B env ρ (H.set dx (.attrs (putA f x fs))) s' → Q () s') : wpAny (model c.prog c.w) A (setAttr v (c.nm f) vv) Q E s := by
  obtain ⟨a,es,m,rfl,h1,h2,har,g1,g2,I⟩ := inst_of r h
  cases hv.ref
  obtain ⟨⟨f1,f2⟩,⟨f3,f4⟩,f5,f6⟩ := S.field _ _ hf
  have X : c.K.In s.heap := S.K.keeps fun b o e => r.keep e
  refine set_plain X I f5 ?_
  refine osa_open (s := { s with toks := s.toks + 1 }) X I f6 f2 fun b => ?_
  have r1 := r.tok (s.toks + 1)
  obtain ⟨cd,hc,hd'⟩ := any_some f4
  have g2' : ({ s with toks := s.toks + 1 } : Shared).heap.get? dx = some (dictOf es m) := g2
  refine wpAny_bind (wpAny_pure (wpAny_bind (wpAny_bind (wpAny_loadPart I.at_ (wpAny_bind (Looks.here (s := { s with toks := s.toks + 1 }) (looks_clsIn X hc) ?_))))))
  rw [hd']
  refine wpAny_pure (a := some dx) (wpAny_bind (wpAny_pure (wpAny_bind ?_)))
  unfold nsSet
  refine wpAny_bind (wpAny_bind (wpAny_askSetting (wpAny_pure (wpAny_bind (wpAny_mkText (wpAny_bind (wpAny_loadPart g2 ?_)))))))
  have c1 : (!es.toArray.any (·.key.isStr (c.nm f)) && es.toArray.any (·.refKey)) = false := by
    rw [← Array.any_toList,← Array.any_toList]
    show (_ && es.any (·.refKey)) = false
    rw [har.noRef,Bool.and_false]
  dsimp only
  rw [aRefKeyMayBeTheName_at,c1]
  refine wpAny_updatePart g2 ?_
  have e1 := putName_dict (c.nm f) (PyData.keyHash c.w.params (c.nm f)) (.str (c.nm f) (s.toks + 1)) vv es m
  have g3 : (s.heap.update dx (Obj.putName (c.nm f) (PyData.keyHash c.w.params (c.nm f)) (.str (c.nm f) (s.toks + 1)) vv)).get? dx = some (dictOf (putL (c.nm f) (PyData.keyHash c.w.params (c.nm f)) (.str (c.nm f) (s.toks + 1)) vv es) (putN (c.nm f) es m)) := by
    rw [← e1]; exact Heap.get?_update_self _ g2 (by rw [e1]; rfl)
  have hA := AR.put (nm := c.nm) c.inj (f := f) (hsh := PyData.keyHash c.w.params (c.nm f)) (t := s.toks + 1) hx har
  refine wpAny_bind (wpAny_lookBehind g3 (pastItsLine_dict (by rw [List.size_toArray,hA.len,sizeLine_eq]; lia)) ?_)
  exact wpAny_pure (k _ (r.upd h2 (Heap.SameBut.update ..) g3 (O' := .attrs (putA f x fs)) ⟨_,_,rfl,hA⟩ (t := s.toks + 2)))
end
end Mine
end
section
open PySem PySem.W PyProof.Rows
namespace Mine

noncomputable def notLC (e : PySem.Expr) : Bool := !(Nat.ble 8 e.ctorIdx && Nat.ble e.ctorIdx 10)
noncomputable def isCallE (e : PySem.Expr) : Bool := Nat.beq e.ctorIdx 16
noncomputable def tgsOk (nm : Nat → Str) (sc : Scope) : List (Bool × Nat) → List PySem.Expr → Bool
  | [],l => o0 l
  | p :: ts,l => oC l fun e es => e_Name e fun x u_ => (x == nm p.2 && (if p.1 then decide (sc.names.lookup x = some .cell) else isLocal sc x)) && tgsOk nm sc ts es
noncomputable def swapOk (x : Str) (px : Pos) (e : PySem.Expr) : Bool := e_ListComp e fun u_ u_ sc' p => px.line == p.line && !(sc'.names.any fun q => q.1 == x && (q.2 == .local || q.2 == .cell))
noncomputable def oCalb (F : Str → Str → Pos → Pos → Bool) (g : PySem.Expr) (p : Pos) : Bool := e_Attribute g fun v b ap => e_Name v fun a u_ => F a b ap p
noncomputable def oCala (F : Str → Str → Pos → Pos → Bool) (e1 : PySem.Expr) : Bool := e_Call e1 fun g as ks p => o0 as && o0 ks && oCalb F g p
noncomputable def oCal (s : PySem.Stmt) (F : Str → Str → Pos → Pos → Bool) : Bool := st_Expr s fun e1 u_ => oCala F e1
noncomputable def oCalR (s : PySem.Stmt) (F : Str → Str → Pos → Pos → Bool) : Prop := ∃ a q1 b ap p q2,s = .Expr (.Call (.Attribute (.Name a q1) b ap) [] [] p) q2 ∧ F a b ap p = true
private theorem oCal_i {s : PySem.Stmt} {F : Str → Str → Pos → Pos → Bool} (h : oCal s F = true) : oCalR s F := by
  replace h := st_Expr_i h
  obtain ⟨e1,q2,rfl,h1⟩ := h
  replace h1 := e_Call_i h1
  obtain ⟨g,as,ks,p,rfl,h2⟩ := h1
  replace h2 := Bool.and_eq_true_iff.mp h2
  obtain ⟨h0,h3⟩ := h2
  replace h0 := Bool.and_eq_true_iff.mp h0
  obtain ⟨h0,h4⟩ := h0
  cases o0_i h0
  cases o0_i h4
  replace h3 := e_Attribute_i h3
  obtain ⟨v,b,ap,rfl,h5⟩ := h3
  replace h5 := e_Name_i h5
  obtain ⟨a,q1,rfl,h6⟩ := h5
  exact ⟨_,_,_,_,_,_,rfl,h6⟩
noncomputable def oAss (s : PySem.Stmt) (F : Str → Str → Str → Bool) : Bool := st_Assign s fun ts val u_ => o1 ts fun t0 => e_Name t0 fun t u_ => e_Attribute val fun v2 w u_ => e_Name v2 fun f' u_ => F t f' w
noncomputable def oAssR (s : PySem.Stmt) (F : Str → Str → Str → Bool) : Prop := ∃ t q4 f' q5 w q6 q7,s = .Assign [.Name t q4] (.Attribute (.Name f' q5) w q6) q7 ∧ F t f' w = true
private theorem oAss_i {s : PySem.Stmt} {F : Str → Str → Str → Bool} (h : oAss s F = true) : oAssR s F := by
  replace h := st_Assign_i h
  obtain ⟨ts,val,q7,rfl,h⟩ := h
  replace h := o1_i h
  obtain ⟨t0,rfl,h⟩ := h
  replace h := e_Name_i h
  obtain ⟨t,q4,rfl,h⟩ := h
  replace h := e_Attribute_i h
  obtain ⟨v2,w,q6,rfl,h⟩ := h
  replace h := e_Name_i h
  obtain ⟨f',q5,rfl,h⟩ := h
  exact ⟨_,_,_,_,_,_,_,rfl,h⟩
noncomputable def oExc (h : ExceptHandler) (F : Str → Str → PySem.Stmt → Bool) : Bool := oHand h fun ty fn hb u_ => oS ty fun ty => e_Name ty fun m u_ => oS fn fun f => o1 hb fun s2 => F m f s2
noncomputable def oExcR (h : ExceptHandler) (F : Str → Str → PySem.Stmt → Bool) : Prop := ∃ m q3 f s2 q8,h = .ExceptHandler (some (.Name m q3)) (some f) [s2] q8 ∧ F m f s2 = true
private theorem oExc_i {x : ExceptHandler} {F : Str → Str → PySem.Stmt → Bool} (h : oExc x F = true) : oExcR x F := by
  replace h := oHand_i h
  obtain ⟨ty,fn,hb,q8,rfl,h⟩ := h
  replace h := oS_i h
  obtain ⟨ty,rfl,h⟩ := h
  replace h := e_Name_i h
  obtain ⟨m,q3,rfl,h⟩ := h
  replace h := oS_i h
  obtain ⟨f,rfl,h⟩ := h
  replace h := o1_i h
  obtain ⟨s2,rfl,h⟩ := h
  exact ⟨_,_,_,_,_,rfl,h⟩
noncomputable def oTry (s : PySem.Stmt) (F : PySem.Stmt → ExceptHandler → Bool) : Bool := st_Try s fun bd hs oe fb u_ => o0 oe && o0 fb && o1 bd fun s1 => o1 hs fun h => F s1 h
noncomputable def oTryR (s : PySem.Stmt) (F : PySem.Stmt → ExceptHandler → Bool) : Prop := ∃ s1 x q9,s = .Try [s1] [x] [] [] q9 ∧ F s1 x = true
private theorem oTry_i {s : PySem.Stmt} {F : PySem.Stmt → ExceptHandler → Bool} (h : oTry s F = true) : oTryR s F := by
  replace h := st_Try_i h
  obtain ⟨bd,hs,oe,fb,q9,rfl,h⟩ := h
  replace h := Bool.and_eq_true_iff.mp h
  obtain ⟨h0,h⟩ := h
  replace h0 := Bool.and_eq_true_iff.mp h0
  obtain ⟨h0,h1⟩ := h0
  cases o0_i h0
  cases o0_i h1
  replace h := o1_i h
  obtain ⟨s1,rfl,h⟩ := h
  replace h := o1_i h
  obtain ⟨x,rfl,h⟩ := h
  exact ⟨_,_,_,rfl,h⟩
noncomputable def specA (nm : Nat → Str) (sc : Scope) (a b : Str) (ap p : Pos) : Bool := a == nm 46 && isLocal sc a && b == nm 40 && decide (ap.endLine = p.line)
noncomputable def specB (sc : Scope) (m f : Str) : Bool := m == ("Misused" : Str) && isGlob sc m && f == ("fault" : Str) && decide (sc.names.lookup f = some .local)
noncomputable def specD (nm : Nat → Str) (sc : Scope) (t f w : Str) : Bool := t == nm 107 && isLocal sc t && f == ("fault" : Str) && w == ("why" : Str)
noncomputable def specOk (nm : Nat → Str) (sc : Scope) (st : PySem.Stmt) : Bool :=
  oTry st fun s1 x => (oCal s1 fun a b ap p => specA nm sc a b ap p) && oExc x fun m f s2 => specB sc m f && oAss s2 fun t f' w => specD nm sc t f' w
mutual
noncomputable def agS (nm : Nat → Str) (sc : Scope) : S → PySem.Stmt → Bool
  | .expr e,st => st_Expr st fun v u_ => notLC v && agX nm sc e v
  | .assign n e,st => st_Assign st fun ts v u_ => o1 ts fun t => e_Name t fun x px => x == nm n && isLocal sc x && (notLC v || swapOk x px v) && agX nm sc e v
  | .assignC n e,st => st_Assign st fun ts v u_ => o1 ts fun t => e_Name t fun x u_ => x == nm n && decide (sc.names.lookup x = some .cell) && notLC v && agX nm sc e v
  | .unpack us e,st => st_Assign st fun ts v u_ => o1 ts fun t => e_Tuple t fun es u_ u_ => tgsOk nm sc us es && isCallE v && agX nm sc e v
  | .setattr o f e,st => st_Assign st fun ts v u_ => o1 ts fun t => e_Attribute t fun o' a u_ => a == nm f && notLC v && agX nm sc o o' && agX nm sc e v
  | .decattr o f e,st => st_AugAssign st fun t op v u_ => decide (op = .Sub) && e_Attribute t fun o' a u_ => a == nm f && agX nm sc o o' && agX nm sc e v
  | .ret e,st => st_Return st fun o u_ => match o with | some v => agX nm sc e v | none => isNoneX e
  | .ite t b o,st => st_If st fun t' b' o' u_ => agX nm sc t t' && agSs nm sc b b' && agSs nm sc o o'
  | .while_ t b,st => st_While st fun t' b' o' u_ => o0 o' && (agX nm sc t t' && agSs nm sc b b')
  | .for_ n it b,st => st_For st fun t it' b' o' u_ => o0 o' && e_Name t fun x u_ => x == nm n && isLocal sc x && notSet it' && agX nm sc it it' && agSs nm sc b b'
  | .cont,st => st_Continue st fun u_ => true
  | .fail,_ => true
  | .special,st => specOk nm sc st
noncomputable def agSs (nm : Nat → Str) (sc : Scope) : Ss → List PySem.Stmt → Bool
  | .nil,l => o0 l
  | .cons s r,l => oC l fun st l => agS nm sc s st && agSs nm sc r l
end
section
variable {nm : Nat → Str} {sc : Scope} {st : PySem.Stmt}
private theorem ags_expr {e : X} (h : agS nm sc (.expr e) st = true) : ∃ v p,st = .Expr v p ∧ (notLC v && agX nm sc e v) = true := st_Expr_i (F := fun v u_ => notLC v && agX nm sc e v) h
private theorem ags_assign {n : Nat} {e : X} (h : agS nm sc (.assign n e) st = true) : ∃ x px v p,st = .Assign [.Name x px] v p ∧ (x == nm n && isLocal sc x && (notLC v || swapOk x px v) && agX nm sc e v) = true := by
  replace h := st_Assign_i (F := fun ts v u_ => o1 ts fun t => e_Name t fun x px => x == nm n && isLocal sc x && (notLC v || swapOk x px v) && agX nm sc e v) h
  obtain ⟨ts,v,p,rfl,h⟩ := h
  replace h := o1_i h
  obtain ⟨t,rfl,h⟩ := h
  replace h := e_Name_i h
  obtain ⟨x,px,rfl,h⟩ := h
  exact ⟨_,_,_,_,rfl,h⟩
private theorem ags_assignC {n : Nat} {e : X} (h : agS nm sc (.assignC n e) st = true) : ∃ x px v p,st = .Assign [.Name x px] v p ∧ (x == nm n && decide (sc.names.lookup x = some .cell) && notLC v && agX nm sc e v) = true := by
  replace h := st_Assign_i (F := fun ts v u_ => o1 ts fun t => e_Name t fun x px => x == nm n && decide (sc.names.lookup x = some .cell) && notLC v && agX nm sc e v) h
  obtain ⟨ts,v,p,rfl,h⟩ := h
  replace h := o1_i h
  obtain ⟨t,rfl,h⟩ := h
  replace h := e_Name_i h
  obtain ⟨x,px,rfl,h⟩ := h
  exact ⟨_,_,_,_,rfl,h⟩
private theorem ags_unpack {us : List (Bool × Nat)} {e : X} (h : agS nm sc (.unpack us e) st = true) : ∃ es kk tp v p,st = .Assign [.Tuple es kk tp] v p ∧ (tgsOk nm sc us es && isCallE v && agX nm sc e v) = true := by
  replace h := st_Assign_i (F := fun ts v u_ => o1 ts fun t => e_Tuple t fun es kk tp => tgsOk nm sc us es && isCallE v && agX nm sc e v) h
  obtain ⟨ts,v,p,rfl,h⟩ := h
  replace h := o1_i h
  obtain ⟨t,rfl,h⟩ := h
  replace h := e_Tuple_i h
  obtain ⟨es,kk,tp,rfl,h⟩ := h
  exact ⟨_,_,_,_,_,rfl,h⟩
private theorem ags_setattr {o : X} {f : Nat} {e : X} (h : agS nm sc (.setattr o f e) st = true) : ∃ o' a px v p,st = .Assign [.Attribute o' a px] v p ∧ (a == nm f && notLC v && agX nm sc o o' && agX nm sc e v) = true := by
  replace h := st_Assign_i (F := fun ts v u_ => o1 ts fun t => e_Attribute t fun o' a px => a == nm f && notLC v && agX nm sc o o' && agX nm sc e v) h
  obtain ⟨ts,v,p,rfl,h⟩ := h
  replace h := o1_i h
  obtain ⟨t,rfl,h⟩ := h
  replace h := e_Attribute_i h
  obtain ⟨o',a,px,rfl,h⟩ := h
  exact ⟨_,_,_,_,_,rfl,h⟩
private theorem ags_decattr {o : X} {f : Nat} {e : X} (h : agS nm sc (.decattr o f e) st = true) : ∃ o' a px v p,st = .AugAssign (.Attribute o' a px) .Sub v p ∧ (a == nm f && agX nm sc o o' && agX nm sc e v) = true := by
  replace h := st_AugAssign_i (F := fun t op v u_ => decide (op = .Sub) && e_Attribute t fun o' a u_ => a == nm f && agX nm sc o o' && agX nm sc e v) h
  obtain ⟨t,op,v,p,rfl,h⟩ := h
  replace h := Bool.and_eq_true_iff.mp h
  obtain ⟨h0,h⟩ := h
  cases of_decide_eq_true h0
  replace h := e_Attribute_i h
  obtain ⟨o',a,px,rfl,h⟩ := h
  exact ⟨_,_,_,_,_,rfl,h⟩
private theorem ags_ret {e : X} (h : agS nm sc (.ret e) st = true) : ∃ o p,st = .Return o p ∧ (match o with | some v => agX nm sc e v | none => isNoneX e) = true := st_Return_i (F := fun o u_ => match o with | some v => agX nm sc e v | none => isNoneX e) h
private theorem ags_ite {t : X} {b o : Ss} (h : agS nm sc (.ite t b o) st = true) : ∃ t' b' o' p,st = .If t' b' o' p ∧ (agX nm sc t t' && agSs nm sc b b' && agSs nm sc o o') = true := st_If_i (F := fun t' b' o' u_ => agX nm sc t t' && agSs nm sc b b' && agSs nm sc o o') h
private theorem ags_while {t : X} {b : Ss} (h : agS nm sc (.while_ t b) st = true) : ∃ t' b' p,st = .While t' b' [] p ∧ (agX nm sc t t' && agSs nm sc b b') = true := by
  replace h := st_While_i (F := fun t' b' o' u_ => o0 o' && (agX nm sc t t' && agSs nm sc b b')) h
  obtain ⟨t',b',o',p,rfl,h⟩ := h
  replace h := Bool.and_eq_true_iff.mp h
  obtain ⟨h0,h⟩ := h
  cases o0_i h0
  exact ⟨_,_,_,rfl,h⟩
private theorem ags_for {n : Nat} {it : X} {b : Ss} (h : agS nm sc (.for_ n it b) st = true) : ∃ x px it' b' p,st = .For (.Name x px) it' b' [] p ∧ (x == nm n && isLocal sc x && notSet it' && agX nm sc it it' && agSs nm sc b b') = true := by
  replace h := st_For_i (F := fun t it' b' o' u_ => o0 o' && e_Name t fun x u_ => x == nm n && isLocal sc x && notSet it' && agX nm sc it it' && agSs nm sc b b') h
  obtain ⟨t,it',b',o',p,rfl,h⟩ := h
  replace h := Bool.and_eq_true_iff.mp h
  obtain ⟨h0,h⟩ := h
  cases o0_i h0
  replace h := e_Name_i h
  obtain ⟨x,px,rfl,h⟩ := h
  exact ⟨_,_,_,_,_,rfl,h⟩
private theorem ags_cont (h : agS nm sc .cont st = true) : ∃ p,st = .Continue p ∧ True := by
  replace h := st_Continue_i (F := fun u_ => true) h
  obtain ⟨p,rfl,_⟩ := h
  exact ⟨_,rfl,trivial⟩
private theorem agSs_cc {x : S} {r : Ss} {l : List PySem.Stmt} : agSs nm sc (.cons x r) (st :: l) = (agS nm sc x st && agSs nm sc r l) := rfl
private theorem ag_isComp {e : X} {elt : PySem.Expr} {gs : List Comprehension} {sc' : Scope} {p : Pos} (h : agX nm sc e (.ListComp elt gs sc' p) = true) : ∃ elt t cs it,e = .comp elt t cs it := by
  cases e <;> first | exact ⟨_,_,_,_,rfl⟩ | exact (Bool.false_ne_true h).elim
end
mutual
noncomputable def S.sp : S → Bool
  | .ite _ b o => b.sp || o.sp
  | .while_ _ b => b.sp
  | .for_ _ _ b => b.sp
  | .special => true
  | _ => false
noncomputable def Ss.sp : Ss → Bool
  | .nil => false
  | .cons x r => x.sp || r.sp
end
private theorem sp_ite {t : X} {b o : Ss} : (S.ite t b o).sp = (b.sp || o.sp) := rfl
private theorem sp_while {t : X} {b : Ss} : (S.while_ t b).sp = b.sp := rfl
private theorem sp_for {n : Nat} {t : X} {b : Ss} : (S.for_ n t b).sp = b.sp := rfl
private theorem sp_cons {x : S} {r : Ss} : (Ss.cons x r).sp = (x.sp || r.sp) := rfl
structure FrOk (A : Around) (env : Env) : Prop where
  fr : A.frames = some [env]
  at_ : env.frame = some env.locals
  dep : A.depth + 10 ≤ 990
  un : A.units + 300 ≤ 9800
noncomputable def FR : Fl → Flow → Prop
  | .next,.next => True
  | .cont,.cont => True
  | .ret d,.ret v => VR v d
  | _,_ => False
noncomputable def SS (c : Cx) (n : Nat) (C : CallT) (x : S) : Prop :=
  ∀ (A : Around) (sc : Scope) (env : Env) (B : Fz) (ρ : Ev) (st : PySem.Stmt) (K : K2) (H : Hp) (s : Shared) (Q : Flow → Shared → Prop),
    AX n A → EnvS sc env → (x.sp = true → FrOk A env) → agS c.nm sc x st = true → x.wp c.T C ρ K H → R c B env ρ H s → (∀ fl ρ' H' f s',K fl ρ' H' → FR fl f → R c B env ρ' H' s' → Q f s') →
    wpAny (model c.prog c.w) A (exec st env) Q noE s
noncomputable def SsS (c : Cx) (n : Nat) (C : CallT) (x : Ss) : Prop :=
  ∀ (A : Around) (sc : Scope) (env : Env) (B : Fz) (ρ : Ev) (st : List PySem.Stmt) (K : K2) (H : Hp) (s : Shared) (Q : Flow → Shared → Prop),
    AX n A → EnvS sc env → (x.sp = true → FrOk A env) → agSs c.nm sc x st = true → x.wp c.T C ρ K H → R c B env ρ H s → (∀ fl ρ' H' f s',K fl ρ' H' → FR fl f → R c B env ρ' H' s' → Q f s') →
    wpAny (model c.prog c.w) A (execs st env) Q noE s

section
variable {c : Cx} {n : Nat} {C : CallT}
private theorem FR.next {f} (h : FR .next f) : f = .next := by cases f <;> first | rfl | exact h.elim
private theorem FR.cont {f} (h : FR .cont f) : f = .cont := by cases f <;> first | rfl | exact h.elim
private theorem FR.ret {f d} (h : FR (.ret d) f) : ∃ v,f = .ret v ∧ VR v d := by cases f <;> first | exact h.elim | exact ⟨_,rfl,h⟩
private theorem hpE {sc : Scope} {env : Env} (hE : EnvS sc env) : (env.scope.kind == .class || (env.scope.kind == .module && env.locals != env.globals)) = false := by rw [hE.kind]; rfl
private theorem swaps_lc {v : PySem.Expr} {t : Option PySem.Expr} {l : Nat} {env : Env} (h : notLC v = true) : swapsWith v t l env = pure false := by
  cases v <;> first | rfl | (exact (Bool.false_ne_true h).elim)

private theorem exprS (ih : XS c n C e) : SS c n C (.expr e) := by
  intro A sc env B ρ st K H s Q hA hE hsp h hw r k
  replace h := ags_expr h
  rcases h with ⟨_,_,rfl,h⟩
  · simp only [Bool.and_eq_true] at h
    simp only [ws_expr] at hw
    refine wpAny_Expr_any (ih A sc env B ρ _ _ H s _ hA hE h.2 hw r fun d H' v s' hd hv r' => k _ _ _ _ _ hd trivial r') ?_ (swaps_lc h.1)
    unfold interactive; rw [hE.kind]; rfl
private theorem assignS (ih : XS c n C e) (hcomp : ∀ elt t cs it,e = .comp elt t cs it → XS c n C elt ∧ XS c n C it) : SS c n C (.assign x e) := by
  intro A sc env B ρ st K H s Q hA hE hsp h hw r k
  replace h := ags_assign h
  rcases h with ⟨_,_,_,_,rfl,h⟩
  · rename_i y px v p
    simp only [Bool.and_eq_true,beq_iff_eq,isLocal,decide_eq_true_eq] at h
    obtain ⟨⟨⟨rfl,hl,hd⟩,hsw⟩,he⟩ := h
    simp only [ws_assign] at hw
    by_cases hlc : notLC v = true
    · refine wpAny_Assign_Name (ih A sc env B ρ _ _ H s _ hA hE he hw r fun d H' v s' hd hv r' => ?_) (swaps_lc hlc)
      obtain ⟨m,hm,hl'⟩ := r'.loc
      exact wpAny_storeName_local (by rw [hE.kindOf]; exact hl) hm (fun h' hn hs => k _ _ _ _ _ hd trivial (r'.store hm hl' hs hn hv)) (hpE hE)
    · rw [Bool.or_eq_true] at hsw
      rcases hsw with hsw | hsw
      · exact (hlc hsw).elim
      · replace hsw := e_ListComp_i (F := fun u_ u_ sc' p => px.line == p.line && !(sc'.names.any fun q => q.1 == c.nm x && (q.2 == .local || q.2 == .cell))) hsw
        rcases hsw with ⟨elt',gens,sc',pc,rfl,hsw⟩
        · have he' := he
          obtain ⟨elt,t,cs,it,rfl⟩ := ag_isComp he'
          obtain ⟨i1,i2⟩ := hcomp _ _ _ _ rfl
          rcases ag_comp he' with ⟨_,t',it',_,_,heq,_⟩
          · cases heq
            simp only [Bool.and_eq_true,Bool.not_eq_true'] at hsw
            have hs : swapsWith (.ListComp elt' [⟨t',it',[],0⟩] sc' pc) (some (.Name (c.nm x) px)) p.line env = pure true := by
              unfold swapsWith
              have hb : env.blockKind = .function := by
                unfold Env.blockKind
                rw [hE.kind]; rfl
              show (pure (env.blockKind == .function && env.kindOf (c.nm x) == some .local && px.line == pc.line && !(sc'.names.any _)) : Sem Bool) = _
              rw [hb,hE.kindOf,hl,hsw.1,hsw.2]; rfl
            rw [exec_Assign_Name_used _ _ _ _ hs]
            refine wpAny_bind (wpAny_standAt (wpAny_bind ?_))
            show wpAny _ A (do let _ ← comprehension (.ListComp elt' [⟨t',it',[],0⟩] sc' pc) sc' env _ (newList []) false (eval it' env) (some (assign (.Name (c.nm x) px) env))) _ _ s
            refine wpAny_bind (wpAny_mono (comp_core (Q := fun u_ s' => Q .next s') (use := some (assign (.Name (c.nm x) px) env)) i1 i2 hA hE he hw r fun a C' mC H' s' hk r' hn h1 h2 h3 => ?_)
              (fun u_ s' hq => wpAny_pure (wpAny_pure hq)) fun u_ u_ e => e)
            show wpAny _ A (assign (.Name (c.nm x) px) env (.ref a)) _ _ _
            obtain ⟨m,hm,hl'⟩ := r'.loc
            refine wpAny_assign_Name (wpAny_storeName_local (by rw [hE.kindOf]; exact hl) hm (fun h' hn' hs => ?_) (hpE hE))
            have r2 := r'.store hm hl' hs hn' (v := .ref a) (d := .ref a) rfl (t := s'.toks + 1)
            exact ⟨mC,hn.sameBut hs h1,fun h3' hs3 => k _ _ _ _ _ hk trivial (r2.ext (t := s'.toks + 1) hs3.extBut h2 h3 h1)⟩
private theorem storeC {A : Around} {sc env} {B : Fz} {ρ H s} (r : R c B env ρ H s) (hE : EnvS sc env) {x : Nat} {a : Addr} {d : D} {v : Value} {d₀ : Option D} {Q : Unit → Shared → Prop} {E} (hl : sc.names.lookup (c.nm x) = some .cell) (hc : ρ.c x = some a) (ha : H a = some (.cell d₀)) (hv : VR v d)
    (k : ∀ s',R c B env ρ (H.set a (.cell (some d))) s' → Q () s') : wpAny (model c.prog c.w) A (storeName env (c.nm x) v) Q E s := by
  obtain ⟨o,ho,v₀,hd,_⟩ := r.ob _ _ ha
  refine wpAny_storeName_cell hE.kind (by rw [hE.kindOf]; exact hl) (r.cel _ _ hc) ⟨o,ho,hd⟩ fun h' hc' hs => ?_
  obtain ⟨o',ho',hd'⟩ := hc'
  exact k _ (r.upd ha hs ho' (O' := .cell (some d)) ⟨_,hd',hv⟩ (t := s.toks))
private theorem assignCS (ih : XS c n C e) : SS c n C (.assignC x e) := by
  intro A sc env B ρ st K H s Q hA hE hsp h hw r k
  replace h := ags_assignC h
  rcases h with ⟨_,_,_,_,rfl,h⟩
  · rename_i y px v p
    simp only [Bool.and_eq_true,beq_iff_eq,decide_eq_true_eq] at h
    obtain ⟨⟨⟨rfl,hl⟩,hlc⟩,he⟩ := h
    simp only [ws_assignC] at hw
    refine wpAny_Assign_Name (ih A sc env B ρ _ _ H s _ hA hE he hw r fun d H' v s' hd hv r' => ?_) (swaps_lc hlc)
    split at hd
    · rename_i a hc
      split at hd
      · rename_i d₀ ha
        exact storeC r' hE hl hc ha hv fun s'' r'' => k _ _ _ _ _ hd trivial r''
      · exact hd.elim
    · exact hd.elim
private theorem setattrS (ST : St c) (iho : XS c n C o) (ih : XS c n C e) : SS c n C (.setattr o f e) := by
  intro A sc env B ρ st K H s Q hA hE hsp h hw r k
  replace h := ags_setattr h
  rcases h with ⟨_,_,_,_,_,rfl,h⟩
  · rename_i o' y px v p
    simp only [Bool.and_eq_true,beq_iff_eq] at h
    obtain ⟨⟨⟨rfl,hlc⟩,ho⟩,he⟩ := h
    simp only [ws_setattr] at hw
    refine plainObj_wpAny_Assign_Attribute (ih A sc env B ρ _ _ H s _ hA hE he hw r fun d H' v s' hd hv r' => ?_) (swaps_lc hlc)
    refine iho A sc env B ρ _ _ H' s' _ hA hE ho hd r' fun x H2 v2 s2 hx hv2 r2 => ?_
    split at hx
    · rename_i K' dx fs ha
      exact set_snd ST r2 ha hx.1.1 hv2 hv hx.1.2 fun s3 r3 => k _ _ _ _ _ hx.2 trivial r3
    · exact hx.elim
private theorem decattrS (ST : St c) (iho : XS c n C o) (ih : XS c n C e) : SS c n C (.decattr o f e) := by
  intro A sc env B ρ st K H s Q hA hE hsp h hw r k
  replace h := ags_decattr h
  rcases h with ⟨_,_,_,_,_,rfl,h⟩
  · rename_i o' y px v p
    simp only [Bool.and_eq_true,beq_iff_eq] at h
    obtain ⟨⟨rfl,ho⟩,he⟩ := h
    simp only [ws_decattr] at hw
    refine wpAny_AugAssign_AttributeAny (iho A sc env B ρ _ _ H s _ hA hE ho hw r fun x H' v s' hx hv r' => ?_)
    split at hx
    · rename_i K' dx fs ha
      split at hx
      · rename_i i hf hl
        refine get_snd ST r' ha hf hl hv fun u s2 hu r2 => ?_
        obtain ⟨t,rfl⟩ := hu.int
        refine ih A sc env B ρ _ _ H' s2 _ hA hE he hx r2 fun d H3 v3 s3 hd hv3 r3 => ?_
        split at hd
        · rename_i j K3 dx3 fs3 ha3
          obtain ⟨t3,rfl⟩ := hv3.int
          refine P.isub_int ?_
          exact set_snd ST (r3.tok _) ha3 hd.1.1 hv (x := .int (i - j)) rfl hd.1.2 fun s4 r4 => k _ _ _ _ _ hd.2 trivial r4
        · exact hd.elim
      · exact hx.elim
    · exact hx.elim
private theorem tgs_snd {A : Around} {sc env} {B : Fz} (hE : EnvS sc env) {E : Value → Shared → Prop} {ρ' : Ev} {H' : Hp} {Q : Unit → Shared → Prop} (k : ∀ s',R c B env ρ' H' s' → Q () s') : ∀ (ts : List (Bool × Nat)) (es : List PySem.Expr) (xs : List D) (vs : List Value) (ρ : Ev) (H : Hp) (s : Shared),
    tgsOk c.nm sc ts es = true → unpackTo ts xs ρ H = some (ρ',H') → VRs vs xs → R c B env ρ H s → wpAny (model c.prog c.w) A (assignInOrder ((assignEach es env).map (·.2)) vs) Q E s
  | [],[],[],vs,ρ,H,s,_,h,hv,r => by
    replace h : some (ρ,H) = some (ρ',H') := h
    simp only [Option.some.injEq,Prod.mk.injEq] at h
    obtain ⟨rfl,rfl⟩ := h
    rw [hv.nil]
    exact assignInOrder_nil (k _ r)
  | [],[],_ :: _,_,_,_,_,_,h,_,_ => by cases h
  | [],_ :: _,_,_,_,_,_,h,_,_,_ => (Bool.false_ne_true h).elim
  | _ :: _,[],_,_,_,_,_,h,_,_,_ => (Bool.false_ne_true h).elim
  | (b,x) :: ts,e :: es,xs,vs,ρ,H,s,hk,h,hv,r => by
    replace hk := e_Name_i (F := fun y u_ => (y == c.nm x && (if b then decide (sc.names.lookup y = some .cell) else isLocal sc y)) && tgsOk c.nm sc ts es) hk
    rcases hk with ⟨y,py,rfl,hk⟩
    · simp only [Bool.and_eq_true,beq_iff_eq] at hk
      obtain ⟨⟨rfl,hb⟩,hk⟩ := hk
      cases xs with
      | nil => cases b <;> cases h
      | cons d xs =>
        obtain ⟨v,r',rfl,hv1,hv2⟩ := hv.cons
        show wpAny _ _ (assignInOrder (assign (.Name (c.nm x) py) env :: (assignEach es env).map (·.2)) (v :: r')) _ _ _
        refine assignInOrder_cons (wpAny_assign_Name ?_)
        cases b with
        | false =>
          simp only [Bool.false_eq_true,if_false,isLocal,Bool.and_eq_true,decide_eq_true_eq] at hb
          replace h : unpackTo ts xs (ρ.put x d) H = some (ρ',H') := h
          obtain ⟨m,hm,hl'⟩ := r.loc
          refine wpAny_storeName_local (by rw [hE.kindOf]; exact hb.1) hm (fun h' hn hs => ?_) (hpE hE)
          exact tgs_snd hE k ts es xs r' _ H _ hk h hv2 (r.store hm hl' hs hn hv1)
        | true =>
          simp only [if_true,decide_eq_true_eq] at hb
          replace h : (match ρ.c x with | some c => (match H c with | some (.cell _) => unpackTo ts xs ρ (H.set c (.cell (some d))) | _ => none) | none => none) = some (ρ',H') := h
          split at h
          · rename_i a hc
            split at h
            · rename_i d₀ ha
              exact storeC r hE hb hc ha hv1 fun s' r2 => tgs_snd hE k ts es xs r' ρ _ s' hk h hv2 r2
            · cases h
          · cases h
private theorem tgs_len {nm : Nat → Str} {sc : Scope} {env : Env} : ∀ {ts : List (Bool × Nat)} {es : List PySem.Expr},tgsOk nm sc ts es = true → (assignEach es env).length = ts.length ∧ (assignEach es env).findIdx? (·.1) = none
  | [],[],_ => ⟨rfl,rfl⟩
  | [],_ :: _,h => (Bool.false_ne_true h).elim
  | _ :: _,[],h => (Bool.false_ne_true h).elim
  | (b,x) :: ts,e :: es,hk => by
    replace hk := e_Name_i (F := fun y u_ => (y == nm x && (if b then decide (sc.names.lookup y = some .cell) else isLocal sc y)) && tgsOk nm sc ts es) hk
    rcases hk with ⟨y,py,rfl,hk⟩
    · rw [Bool.and_eq_true] at hk
      obtain ⟨i1,i2⟩ := tgs_len (env := env) hk.2
      have e : assignEach (.Name y py :: es) env = (false,assign (.Name y py) env) :: assignEach es env := rfl
      rw [e]
      refine ⟨by simp [i1],?_⟩
      rw [List.findIdx?_cons,i2]; rfl
private theorem unpackS (ih : XS c n C e) : SS c n C (.unpack ts e) := by
  intro A sc env B ρ st K H s Q hA hE hsp h hw r k
  replace h := ags_unpack h
  rcases h with ⟨_,_,_,_,_,rfl,h⟩
  · rename_i es kk tp v p
    simp only [Bool.and_eq_true] at h
    obtain ⟨⟨ht,hcall⟩,he⟩ := h
    simp only [ws_unpack] at hw
    obtain ⟨l1,l2⟩ := tgs_len (env := env) ht
    refine Assign_Tuple (ih A sc env B ρ _ _ H s _ hA hE he hw r fun d H' v s' hd hv r' => ?_) ?_ ?_
    · split at hd
      · rename_i a
        cases hv.ref
        split at hd
        · rename_i xs hx
          split at hd
          · rename_i ρ' H2 hun
            obtain ⟨vs,g1,g2⟩ := isTup_of r' hx
            refine wpAny_assign_Tuple hA.handled g1 (by rw [l1,hd.1.1,List.size_toArray,g2.length]) l2 fun h' hk => ?_
            have r2 : R c B env ρ H' { s' with heap := h' } := r'.more fun b o e => hk b o (Nat.ne_of_lt (Heap.lt_size e)) e
            exact tgs_snd hE (Q := fun u_ s' => Q .next s') (fun s3 r3 => k .next _ _ .next _ hd.2 trivial r3) ts es xs vs ρ H' _ ht hun g2 r2
          · exact hd.elim
        · exact hd.elim
      · exact hd.elim
    · cases v <;> first | rfl | (exact (Bool.false_ne_true hcall).elim)
    · cases v <;> first | rfl | (exact (Bool.false_ne_true hcall).elim)
private theorem retS (ih : XS c n C e) : SS c n C (.ret e) := by
  intro A sc env B ρ st K H s Q hA hE hsp h hw r k
  simp only [ws_ret] at hw
  replace h := ags_ret h
  rcases h with ⟨o,_,rfl,h⟩
  cases o with
  | some v => exact wpAny_Return_some (ih A sc env B ρ _ _ H s _ hA hE h hw r fun d H' v s' hd hv r' => k _ _ _ _ _ hd hv r')
  | none =>
    obtain rfl := isNoneX_i h
    simp only [wx_none] at hw
    exact wpAny_Return_none (k _ _ _ _ _ hw (by exact (rfl : VR .none .none)) r)
private theorem iteS (iht : XT c n C t) (ihb : SsS c n C b) (iho : SsS c n C o) : SS c n C (.ite t b o) := by
  intro A sc env B ρ st K H s Q hA hE hsp h hw r k
  replace h := ags_ite h
  rcases h with ⟨_,_,_,_,rfl,h⟩
  · simp only [Bool.and_eq_true] at h
    obtain ⟨⟨ht,hb⟩,ho⟩ := h
    simp only [ws_ite] at hw
    refine wpAny_If (iht A sc env B ρ _ _ H s _ hA hE ht (fun d H' hd => ?_) hw r fun q H' s' hd r' => ?_)
    · split at hd
      · exact ⟨_,rfl⟩
      · exact ⟨_,rfl⟩
      · exact hd.elim
    · cases q with
      | true => rw [if_pos rfl]; exact ihb A sc env B ρ _ _ H' s' _ hA hE (fun q => hsp (by simp [sp_ite,sp_while,sp_for,q])) hb hd r' k
      | false => rw [if_neg (by simp)]; exact iho A sc env B ρ _ _ H' s' _ hA hE (fun q => hsp (by simp [sp_ite,sp_while,sp_for,q])) ho hd r' k
private theorem contS : SS c n C .cont := by
  intro A sc env B ρ st K H s Q hA hE hsp h hw r k
  replace h := ags_cont h
  rcases h with ⟨_,rfl,h⟩
  · simp only [ws_cont] at hw
    exact wpAny_Continue (k _ _ _ _ _ hw trivial r)
private theorem nilS : SsS c n C .nil := by
  intro A sc env B ρ st K H s Q hA hE hsp h hw r k
  cases st with
  | nil =>
    simp only [wss_nil] at hw
    exact wpAny_execs_nil (k _ _ _ _ _ hw trivial r)
  | cons => exact (Bool.false_ne_true h).elim
private theorem consS (ih : SS c n C x) (ihr : SsS c n C xs) : SsS c n C (.cons x xs) := by
  intro A sc env B ρ st K H s Q hA hE hsp h hw r k
  cases st with
  | nil => exact (Bool.false_ne_true h).elim
  | cons st sts =>
    simp only [agSs_cc,Bool.and_eq_true] at h
    simp only [wss_cons] at hw
    refine wpAny_execs_cons (ih A sc env B ρ st _ H s _ hA hE (fun q => hsp (by simp [sp_cons,q])) h.1 hw r fun fl ρ' H' f s' hf hF r' => ?_)
    cases fl with
    | next => rw [hF.next]; exact ihr A sc env B ρ' sts K H' s' Q hA hE (fun q => hsp (by simp [sp_cons,q])) h.2 hf r' k
    | cont => rw [hF.cont]; exact k _ _ _ _ _ hf trivial r'
    | ret d => obtain ⟨v,rfl,hv⟩ := hF.ret; exact k _ _ _ _ _ hf hv r'
private theorem whileS (iht : XT c n C t) (ihb : SsS c n C b) : SS c n C (.while_ t b) := by
  intro A sc env B ρ st K H s Q hA hE hsp h hw r k
  replace h := ags_while h
  rcases h with ⟨_,_,_,rfl,h⟩
  · simp only [Bool.and_eq_true] at h
    obtain ⟨ht,hb⟩ := h
    simp only [ws_while_] at hw
    obtain ⟨N,hw⟩ := hw
    refine wpAny_While (codeAny_whileLoop (fun k s' => ∃ ρ' H',turns (fun ρ Q H => t.wp c.T C ρ (fun d H => match d with | .bool c => Q c H | _ => False) H) (fun ρ Q H => b.wp c.T C ρ Q H) K k ρ' H' ∧ R c B env ρ' H' s') ?_ N ⟨ρ,H,hw,r⟩)
    rintro m s' ⟨ρ',H',hw',r'⟩
    cases m with
    | zero => exact hw'.elim
    | succ m =>
      rw [tuS] at hw'
      refine noE_mono (iht A sc env B ρ' _ _ H' s' _ hA hE ht (fun d H2 hd => ?_) hw' r' fun q H2 s2 hd r2 => ?_)
      · split at hd
        · exact ⟨_,rfl⟩
        · exact hd.elim
      · cases q with
        | true =>
          rw [if_pos rfl]
          refine noE_mono (ihb A sc env B ρ' _ _ H2 s2 _ hA hE (fun q => hsp (by simp [sp_ite,sp_while,sp_for,q])) hb hd r2 fun fl ρ3 H3 f s3 hf hF r3 => ?_)
          cases fl with
          | next => rw [hF.next]; exact ⟨m,Nat.lt_succ_self _,ρ3,H3,hf,r3⟩
          | cont => rw [hF.cont]; exact ⟨m,Nat.lt_succ_self _,ρ3,H3,hf,r3⟩
          | ret d => obtain ⟨v,rfl,hv⟩ := hF.ret; exact k _ _ _ _ _ hf hv r3
        | false =>
          rw [if_neg (by simp)]
          exact wpAny_execs_nil (k _ _ _ _ _ hd trivial r2)
private theorem forS (ihi : XS c n C it) (ihb : SsS c n C b) : SS c n C (.for_ x it b) := by
  intro A sc env B ρ st K H s Q hA hE hsp h hw r k
  replace h := ags_for h
  rcases h with ⟨_,_,_,_,_,rfl,h⟩
  · rename_i y px it' b' p
    simp only [Bool.and_eq_true,beq_iff_eq,isLocal,decide_eq_true_eq] at h
    obtain ⟨⟨⟨⟨rfl,hl,hdb⟩,hset⟩,hi⟩,hb⟩ := h
    simp only [ws_for_] at hw
    refine wpAny_For (ihi A sc env B ρ _ _ H s _ hA hE hi hw r fun d H1 v s1 hd hv r1 => ?_) (fun q => by cases it' <;> first | rfl | (exact (Bool.false_ne_true hset).elim))
    split at hd
    · rename_i xs hxs
      refine iter_snd r1 hA.handled hxs hv fun St o W st0 hI => ?_
      obtain ⟨mL,hmL,hlL⟩ := r1.loc
      have hLI : s1.heap.objs.size ≠ env.locals := Ne.symm (Nat.ne_of_lt hmL.lt)
      have r2 := (r1.push o).freeze hI r1.fresh hLI r1.freshB
      have BI := r1.freshB
      have h0I : c.h₀.get? s1.heap.objs.size = none := by
        cases q : c.h₀.get? s1.heap.objs.size with
        | none => rfl
        | some o => rw [r1.base _ _ q] at BI; cases BI
      generalize s1.heap.objs.size = I at W st0 hI hLI r2 BI h0I ⊢
      refine codeAny_forLoop (fun kk s' => ∃ (B₁ : Fz) (H' : Hp) (ρ' : Ev) (rem : List D) (oI : Obj) (i : Nat),kk = rem.length + 1 ∧ i + rem.length = xs.length ∧ xs.drop i = rem ∧
        overItems (fun ρ Q H => b.wp c.T C ρ Q H) x (stays H1 d) K rem ρ' H' ∧ R c B₁ env ρ' H' s' ∧ St i s'.heap ∧ B₁ I = some oI ∧ (∀ b o,B b = some o → B₁ b = some o)) ?_ (xs.length + 1)
        ⟨_,H1,ρ,xs,o,0,rfl,by simp,rfl,hd,r2,st0,by unfold Fz.put; rw [if_pos rfl],fun b o e => by unfold Fz.put; rw [if_neg (by rintro rfl; rw [BI] at e; cases e)]; exact e⟩
      rintro kk s' ⟨B₁,H',ρ',rem,oI,i,rfl,hi,hrem,hc,r',st',bI,bs⟩
      have back : ∀ {ρ H s},R c B₁ env ρ H s → R c B env ρ H s := fun q => ⟨fun b o e => q.fz b o (bs b o e),q.ob,r.base,q.loc,r.LB,q.LH,q.cel,q.os,q.gens⟩
      have hHI := (r'.fz _ _ bI).2
      cases rem with
      | nil =>
        have hix : i = xs.length := by simpa using hi
        subst hix
        obtain ⟨hstay,hq⟩ := hc
        refine W.done s' _ _ _ _ _ _ hstay r' hHI st' fun h' tk hk => ?_
        exact wpAny_execs_nil (k _ _ _ _ _ hq trivial ((back r').ext hk BI hHI hLI))
      | cons y rem =>
        have hx : xs[i]? = some y := by
          have := congrArg List.head? hrem
          rw [List.head?_drop] at this
          exact this
        have hrem' : xs.drop (i + 1) = rem := by
          have := congrArg List.tail hrem
          rwa [List.tail_drop] at this
        obtain ⟨hstay,hc⟩ := hc
        refine W.item i y s' _ _ _ _ _ _ hx hstay r' hHI st' fun v h' tk hv st2 hk => ?_
        obtain ⟨oI',hoI'⟩ := W.has _ _ st2
        have r3 := r'.swap bI hk hoI' h0I (t := tk)
        have bI' : (B₁.put I oI') I = some oI' := by unfold Fz.put; rw [if_pos rfl]
        have bs' : ∀ b o,B b = some o → (B₁.put I oI') b = some o := fun b o e => by unfold Fz.put; rw [if_neg (by rintro rfl; rw [BI] at e; cases e)]; exact bs b o e
        have back' : ∀ {ρ H s},R c (B₁.put I oI') env ρ H s → R c B env ρ H s := fun q => ⟨fun b o e => q.fz b o (bs' b o e),q.ob,r.base,q.loc,r.LB,q.LH,q.cel,q.os,q.gens⟩
        dsimp only
        obtain ⟨m3,hm3,hl3⟩ := r3.loc
        refine wpAny_assign_Name (wpAny_storeName_local (by rw [hE.kindOf]; exact hl) hm3 (fun h4 hn4 hs4 => ?_) (hpE hE))
        have r4 := r3.store hm3 hl3 hs4 hn4 hv (t := tk + 1)
        refine noE_mono (ihb A sc env _ _ _ _ H' _ _ hA hE (fun q => hsp (by simp [sp_ite,sp_while,sp_for,q])) hb hc r4 fun fl ρ5 H5 f s5 hf hF r5 => ?_)
        have st5 : St (i + 1) s5.heap := W.frame _ h' _ st2 fun o e => by
          rw [hoI'] at e; cases e
          exact (r5.fz _ _ bI').1
        have next : overItems (fun ρ Q H => b.wp c.T C ρ Q H) x (stays H1 d) K rem ρ5 H5 → ∃ m,m < rem.length + 1 + 1 ∧ ∃ (B₁ : Fz) (H' : Hp) (ρ' : Ev) (rem : List D) (oI : Obj) (i : Nat),m = rem.length + 1 ∧ i + rem.length = xs.length ∧ xs.drop i = rem ∧
          overItems (fun ρ Q H => b.wp c.T C ρ Q H) x (stays H1 d) K rem ρ' H' ∧ R c B₁ env ρ' H' s5 ∧ St i s5.heap ∧ B₁ I = some oI ∧ (∀ b o,B b = some o → B₁ b = some o) := fun hq =>
            ⟨rem.length + 1,Nat.lt_succ_self _,_,H5,ρ5,rem,oI',i + 1,rfl,by simp at hi ⊢; lia,hrem',hq,r5,st5,bI',bs'⟩
        cases fl with
        | next => rw [hF.next]; exact next hf
        | cont => rw [hF.cont]; exact next hf
        | ret d => obtain ⟨v,rfl,hv⟩ := hF.ret; exact k _ _ _ _ _ hf hv (back' r5)
    · exact hd.elim
end
end Mine
end
section
open PySem PySem.W PyProof.Rows
namespace Mine

noncomputable def upL : List (Str × Value) → (Str → Option Value) → Str → Option Value
  | [],m => m
  | p :: r,m => upL r fun y => if y = p.1 then some p.2 else m y
private theorem upL_look : ∀ (l : List (Str × Value)) (m : Str → Option Value) (x : Str),upL l m x = (l.reverse.lookup x).or (m x)
  | [],m,x => by simp [upL]
  | p :: r,m,x => by
    unfold upL
    rw [upL_look r,List.reverse_cons,List.lookup_append]
    obtain ⟨k,v⟩ := p
    by_cases h : x = k
    · subst h; simp [List.lookup_cons,Option.or_assoc]
    · have h' : (x == k) = false := by simpa using h
      simp [List.lookup_cons,h,h',Option.or_assoc]
private theorem bindL_up {kindOf : Str → Option NameKind} : ∀ (l : List (Str × Value)) (m : Str → Option Value),(∀ p ∈ l,kindOf p.1 = some .local) → bindL kindOf l m = upL l m
  | [],m,_ => rfl
  | p :: r,m,h => by
    obtain ⟨k,v⟩ := p
    unfold bindL upL
    rw [if_pos (h _ (.head _))]
    exact bindL_up r _ fun q hq => h q (.tail _ hq)
private theorem bindC_up {kindOf : Str → Option NameKind} : ∀ (l : List (Str × Value)) (m : Str → Option Value),(∀ p ∈ l,kindOf p.1 = some .local) → bindC kindOf l m = m
  | [],m,_ => rfl
  | p :: r,m,h => by
    obtain ⟨k,v⟩ := p
    unfold bindC
    rw [if_pos (h _ (.head _))]
    exact bindC_up r _ fun q hq => h q (.tail _ hq)

structure FnOk (c : Cx) (fd : FD) (a : Addr) (fdata : FuncData) (o : Obj) (body : List PySem.Stmt) : Prop where
  at_ : c.h₀.get? a = some o
  data : o.data = .func fdata
  bodyEq : fdata.body = .stmts body
  code : c.h₀.CodeRec fdata.code fdata.qualname
  bind : ∀ (s : Shared) (vs : List Value),(∀ b o,c.h₀.get? b = some o → s.heap.get? b = some o) → vs.length = fd.params.length → BindsTo s fdata ⟨vs,[]⟩ ((fd.params.map c.nm).zip vs)
  co : fdata.scope.isCoroutine = false
  gen : fdata.scope.isGenerator = false
  kind : fdata.scope.kind = .function
  glob : fdata.globals = mainGlobals
  blt : fdata.builtins = builtinsNs
  pars : ∀ n ∈ fd.params,fdata.scope.names.lookup (c.nm n) = some .local
  ag : agSs c.nm fdata.scope fd.body body = true
  cells : (fd.cells = [] ∧ ∀ x ∈ fdata.scope.names,x.2 ≠ .cell) ∨
    ((∀ vs : List Value,vs.length = fd.params.length → bindArgs fdata ⟨vs,[]⟩ = pure ((fd.params.map c.nm).zip vs)) ∧ fdata.closure = [] ∧ fd.cells.Nodup ∧ ∀ n ∈ fd.cells,fdata.scope.names.lookup (c.nm n) = some .cell)

section
variable {c : Cx} {n : Nat} {C : CallT}

private theorem bind_up {nm : Nat → Str} (inj : ∀ a b,nm a = nm b → a = b) : ∀ (ns : List Nat) (ds : List D) (vs : List Value) (ρ₀ ρ : Ev) (m : Str → Option Value),bindP ns ds ρ₀ = some ρ → VRs vs ds →
    (∀ n d,ρ₀.v n = some d → ∃ v,m (nm n) = some v ∧ VR v d) → (∀ n d,ρ.v n = some d → ∃ v,upL ((ns.map nm).zip vs) m (nm n) = some v ∧ VR v d) ∧ ρ.c = ρ₀.c ∧ ns.length = ds.length
  | [],[],vs,ρ₀,ρ,m,h,hv,hm => by
    replace h : some ρ₀ = some ρ := h
    cases h
    rw [hv.nil]
    exact ⟨hm,rfl,rfl⟩
  | [],_ :: _,_,_,_,_,h,_,_ => by cases h
  | _ :: _,[],_,_,_,_,h,_,_ => by cases h
  | k :: ns,d :: ds,vs,ρ₀,ρ,m,h,hv,hm => by
    obtain ⟨v,r,rfl,hv1,hv2⟩ := hv.cons
    replace h : bindP ns ds (ρ₀.put k d) = some ρ := h
    obtain ⟨h1,h2,h3⟩ := bind_up inj ns ds r (ρ₀.put k d) ρ (fun y => if y = nm k then some v else m y) h hv2 fun q d' e => by
      unfold Ev.put at e
      dsimp only at e
      rw [cond_beq] at e
      split at e
      · rename_i z; subst z; cases e; exact ⟨v,if_pos rfl,hv1⟩
      · rename_i z
        obtain ⟨v',a1,a2⟩ := hm q d' e
        exact ⟨v',by rw [if_neg fun w => z (inj _ _ w)]; exact a1,a2⟩
    exact ⟨h1,h2,by simp [h3]⟩

private theorem R.call {B : Fz} {env env₁ : Env} {ρ ρ' : Ev} {H s} (r : R c B env ρ H s) {oL : Obj} {m : Str → Option Value} (hg : s.heap.get? env.locals = some oL) (hn : s.heap.Ns env₁.locals m) (hB : B env₁.locals = none) (hH : H env₁.locals = none) (hne : env₁.locals ≠ env.locals)
    (hv : ∀ n d,ρ'.v n = some d → ∃ v,m (c.nm n) = some v ∧ VR v d) (hc : ∀ n,ρ'.c n = none) : R c (B.put env.locals oL) env₁ ρ' H s := by
  refine ⟨fun b o e => ?_,r.ob,fun b o e => ?_,⟨m,hn,hv⟩,?_,hH,fun n a e => (by rw [hc] at e; cases e),r.os,r.gens⟩
  · unfold Fz.put at e
    split at e
    · rename_i q; subst q; cases e; exact ⟨hg,r.LH⟩
    · exact r.fz b o e
  · unfold Fz.put
    rw [if_neg]
    · exact r.base b o e
    · rintro rfl; have := r.base _ _ e; rw [r.LB] at this; cases this
  · unfold Fz.put; rw [if_neg hne]; exact hB

private theorem R.celAdd {B : Fz} {env : Env} {ρ : Ev} {H s} (r : R c B env ρ H s) {x : Nat} {a : Addr} {o : Obj} (hl : env.cells.lookup (c.nm x) = some a) (hg : s.heap.get? a = some o) (hd : o.data = .cell none) (hB : B a = none) (hL : a ≠ env.locals) :
    R c B env (ρ.cel x a) (H.set a (.cell none)) s := by
  have r1 := r.take hg (O := .cell none) ⟨none,hd,trivial⟩ hB hL
  refine ⟨r1.fz,r1.ob,r1.base,r1.loc,r1.LB,r1.LH,fun n b e => ?_,r1.os,r1.gens⟩
  unfold Ev.cel at e
  dsimp only at e
  rw [cond_beq] at e
  split at e
  · rename_i q; subst q; cases e; exact hl
  · exact r1.cel n b e
private theorem enter_snd {B : Fz} {env : Env} {s : Shared} {k : Ev → Hp → Prop} : ∀ (cells : List Nat) (ρ : Ev) (H : Hp),enter cells ρ H k → R c B env ρ H s → cells.Nodup →
    (∀ x ∈ cells,∃ a,env.cells.lookup (c.nm x) = some a ∧ s.heap.IsCell a none ∧ B a = none ∧ H a = none ∧ a ≠ env.locals) →
    (∀ x y a,x ≠ y → env.cells.lookup (c.nm x) = some a → env.cells.lookup (c.nm y) = some a → False) → ∃ ρ' H',k ρ' H' ∧ R c B env ρ' H' s
  | [],ρ,H,h,r,_,_,_ => ⟨ρ,H,h,r⟩
  | x :: xs,ρ,H,h,r,hnd,hc,hap => by
    obtain ⟨a,h1,⟨o,ho,hd⟩,h3,h4,h5⟩ := hc x (.head _)
    obtain ⟨hx,hnd'⟩ := List.nodup_cons.mp hnd
    refine enter_snd xs (ρ.cel x a) (H.set a (.cell none)) (h a h4) (r.celAdd h1 ho hd h3 h5) hnd' (fun y hy => ?_) hap
    obtain ⟨b,b1,b2,b3,b4,b5⟩ := hc y (.tail _ hy)
    refine ⟨b,b1,b2,b3,?_,b5⟩
    unfold Hp.set
    rw [if_neg]
    · exact b4
    · rintro rfl
      exact hap x y b (by rintro rfl; exact hx hy) h1 b1

private theorem call_ok {fd : FD} {a : Addr} {fdata : FuncData} {o : Obj} {body : List PySem.Stmt} (S : St c) (F : FnOk c fd a fdata o body) (hsp0 : fd.body.sp = false) (hb : SsS c n C fd.body) {A : Around} {ds : List D} {vs : List Value} {K : K1} {H : Hp} {B : Fz} {env : Env} {ρ ρ₁ : Ev} {s : Shared} {RR : Result → Shared → Prop}
    (hA : AC (n + 1) A) (hp : bindP fd.params ds Ev.empty = some ρ₁)
    (hw : enter fd.cells ρ₁ H (fun ρ H => fd.body.wp c.T C ρ (fun fl u_ H => match fl with | .ret d => K d H | .next => K .none H | .cont => False) H)) (r : R c B env ρ H s) (hv : VRs vs ds)
    (k : ∀ d H' v s',K d H' → VR v d → R c B env ρ H' s' → RR (.ok (.ret v)) s') : codeAny (model c.prog c.w) A (.call (.ref a) ⟨vs,[]⟩) RR s := by
  obtain ⟨hup,hρc,hlen⟩ := bind_up c.inj fd.params ds vs Ev.empty ρ₁ (fun u_ => none) hp hv (fun n d e => by cases e)
  have hlv : vs.length = fd.params.length := by rw [hv.length,hlen]
  have hroom : A.depth < recursionLimit := by have := hA.depth; unfold recursionLimit; lia
  have keep : ∀ b o,c.h₀.get? b = some o → s.heap.get? b = some o := fun b o e => r.keep e
  have hlim : s.heap.NoLimit := S.lim.keeps keep
  have hcd : s.heap.CodeRec fdata.code fdata.qualname := F.code.keeps keep
  have hbl : ∀ x ∈ (fd.params.map c.nm).zip vs,fdata.scope.names.lookup x.1 = some .local := fun x hx => by
    obtain ⟨m,hm,e⟩ := List.mem_map.mp (List.of_mem_zip (a := x.1) (b := x.2) hx).1
    rw [← e]; exact F.pars m hm
  obtain ⟨mL,hmL,hlL⟩ := r.loc
  obtain ⟨oL,esL,epL,hoL,hrest⟩ := id hmL
  have hns : ∀ h : Heap,h.get? env.locals = some oL → h.Ns env.locals mL := fun h e => ⟨oL,esL,epL,e,hrest⟩
  have hLs : env.locals ≠ s.heap.objs.size := Nat.ne_of_lt hmL.lt
  have hBsub : ∀ b o,B b = some o → (B.put env.locals oL) b = some o := fun b o e => by unfold Fz.put; rw [if_neg (by rintro rfl; rw [r.LB] at e; cases e)]; exact e
  have hBL : (B.put env.locals oL) env.locals = some oL := by unfold Fz.put; rw [if_pos rfl]
  have fin : ∀ (env₁ : Env) (ρ₂ : Ev) (H' : Hp) (fl : Fl) (f : Flow) (s' : Shared),(match fl with | .ret d => K d H' | .next => K .none H' | .cont => False) → FR fl f → R c (B.put env.locals oL) env₁ ρ₂ H' s' → RR (.ok (.ret (match f with | .ret v => v | _ => .none))) s' := by
    intro env₁ ρ₂ H' fl f s' hk hF r'
    have rb : R c B env ρ H' s' := r'.back hBL hns hlL r.cel r.base hBsub r.LB
    cases fl with
    | next => rw [hF.next]; exact k _ _ _ _ hk rfl rb
    | cont => exact hk.elim
    | ret d => obtain ⟨v,rfl,hv⟩ := hF.ret; exact k _ _ _ _ hk hv rb
  rcases F.cells with ⟨hc0,hcell⟩ | ⟨hbd,hclo,hnd,hcs⟩
  · refine codeAny_call_def hroom (keep _ _ F.at_) F.data hlim hcd F.bodyEq (F.bind s vs keep hlv) hcell hbl (fun h₁ hn hk => ?_) F.co F.gen F.kind
    have r1 : R c B env ρ H { s with heap := h₁,toks := s.toks + ((fd.params.map c.nm).zip vs).length } := r.more hk
    have r2 := r1.call (env₁ := callEnv fdata s.heap.objs.size a) (ρ' := ρ₁) (hk _ _ hoL) hn r.freshB r.fresh (Ne.symm hLs) (fun q d e => by
      obtain ⟨v,h1,h2⟩ := hup q d e
      refine ⟨v,?_,h2⟩
      rw [upL_look] at h1
      simpa using h1) (fun q => by rw [hρc]; rfl)
    rw [hc0] at hw
    refine noE_mono (hb _ fdata.scope _ _ ρ₁ body _ H _ _ ⟨hA.handled,?_,?_⟩ ⟨rfl,F.kind,F.glob,F.blt⟩ (fun q => by rw [hsp0] at q; cases q) F.ag hw r2 fun fl ρ2 H2 f s2 hf hF r2 => fin _ ρ2 H2 fl f s2 hf hF r2)
    · show A.depth + 1 + 2 * n + 3 ≤ 990; have := hA.depth; lia
    · show A.units + 3 + 20 * n + 200 ≤ 9800; have := hA.units; lia
  · refine codeAny_call_cells hroom (keep _ _ F.at_) F.data hlim hcd F.bodyEq (hbd vs hlv) hclo (fun x hx => .inl (hbl x hx)) (fun s₁ x₁ => ?_) F.co F.gen F.kind
    obtain ⟨h₁,tk,rfl⟩ := x₁.toInCall.same
    have hk := x₁.toInCall.keep
    have r1 : R c B env ρ H { s with heap := h₁,toks := tk } := r.more hk
    have hkl : ∀ p ∈ (fd.params.map c.nm).zip vs,(callEnvC fdata s.heap.objs.size a).kindOf p.1 = some .local := hbl
    have hn := x₁.toInCall.ns
    rw [bindL_up _ _ hkl] at hn
    have r2 := r1.call (env₁ := callEnvC fdata s.heap.objs.size a) (ρ' := ρ₁) (hk _ _ hoL) hn r.freshB r.fresh (Ne.symm hLs) hup (fun q => by rw [hρc]; rfl)
    have hcell := x₁.cell
    rw [bindC_up _ _ hkl] at hcell
    obtain ⟨ρ2,H2,hw2,r3⟩ := enter_snd fd.cells ρ₁ H hw r2 hnd (fun x hx => by
      have hs : ∃ b,(callEnvC fdata s.heap.objs.size a).cells.lookup (c.nm x) = some b := by
        exact Option.isSome_iff_exists.mp (cellsFrom_some fdata.scope.names _ [] (.inl (hcs x hx)))
      obtain ⟨b,hb⟩ := hs
      have hab := x₁.above _ _ (mem_of_lookup hb)
      have hab' : s.heap.objs.size < b := hab
      refine ⟨b,hb,hcell _ _ hb,?_,r.noneH (Nat.le_of_lt hab'),Ne.symm (Nat.ne_of_lt hab)⟩
      unfold Fz.put
      rw [if_neg (by rintro rfl; exact absurd hmL.lt (Nat.not_lt.mpr (Nat.le_of_lt hab')))]
      exact r.noneB (Nat.le_of_lt hab')) (fun x y b hxy h1 h2 => hxy (c.inj _ _ (name_of_addr x₁.apart (mem_of_lookup h1) (mem_of_lookup h2))))
    refine noE_mono (hb _ fdata.scope _ _ ρ2 body _ H2 _ _ ⟨hA.handled,?_,?_⟩ ⟨rfl,F.kind,F.glob,F.blt⟩ (fun q => by rw [hsp0] at q; cases q) F.ag hw2 r3 fun fl ρ2 H2 f s2 hf hF r2 => fin _ ρ2 H2 fl f s2 hf hF r2)
    · show A.depth + 1 + 2 * n + 3 ≤ 990; have := hA.depth; lia
    · show A.units + 3 + 20 * n + 200 ≤ 9800; have := hA.units; lia
end
end Mine
end
section
open PySem PySem.W PyProof.Rows
namespace Mine
noncomputable def noH : Heap := {}
structure Fl0 (B₁ : Fz) (L : Addr) (m : Str → Option Value) (C e dx : Addr) (l : List Env) (h : Heap) : Prop where
  keep : ∀ b o,B₁ b = some o → h.get? b = some o
  ns : h.Ns L m
  fr : h.FunFrames noH l
  off : ∀ b ∈ l.filterMap (·.frame),B₁ b = none
  en : B₁ e = none
  exc : ∃ oe vs,h.get? e = some oe ∧ (oe.cls = .ref C ∧ oe.dict = some dx) ∧ oe.data = .fields vs ∧ 1 < vs.size
structure Fly (B₁ : Fz) (L : Addr) (m : Str → Option Value) (C e dx : Addr) (l : List Env) (fl : Value) (h : Heap) : Prop extends Fl0 B₁ L m C e dx l h where
  tr : ∃ oe vs T oT ts,h.get? e = some oe ∧ oe.data = .fields vs ∧ vs[1]? = some (.ref T) ∧ (T ≠ e ∧ B₁ T = none) ∧ h.get? T = some oT ∧ oT.data = .fields ts ∧ ts[3]? = some fl
section
variable {M : Model} {A : Around} {E : Value → Shared → Prop} {s : Shared} {B₁ : Fz} {L : Addr} {m : Str → Option Value} {C e dx : Addr} {env : Env} {outer l : List Env}
private theorem Fl0.to {h h' : Heap} (F : Fl0 B₁ L m C e dx l h) (hB : ∀ b o,B₁ b = some o → h'.get? b = some o) (hs : h.UpToSlots h') (he : ∃ oe vs,h'.get? e = some oe ∧ (oe.cls = .ref C ∧ oe.dict = some dx) ∧ oe.data = .fields vs ∧ 1 < vs.size) :
    Fl0 B₁ L m C e dx l h' :=
  ⟨hB,hs.ns F.ns,F.fr.of_keeps fun b o hb hn => let ⟨_,q⟩ := hs b o hb hn; ⟨_,q,rfl⟩,F.off,F.en,he⟩
private theorem dict_mapFields (o : Obj) (f : Array Value → Array Value) : (o.mapFields f).dict = o.dict := by
  unfold Obj.mapFields; split <;> rfl
private theorem entryF {head : Value} {hadNext : Bool} {Lf : Addr} {Q : Unit → Shared → Prop} (hfr : A.frames = some (env :: outer)) (hf : env.frame = some Lf) (F : Fl0 B₁ L m C e dx (env :: outer) s.heap)
    (k : ∀ h',Fly B₁ L m C e dx (env :: outer) (rawInt Lf) h' → Q () { s with heap := h' }) :
    wpAny M A (do let a ← frameOf env; let pl ← entryPlaceOf Lf hadNext; let b ← EntryCells.newEntry head a .none (rawInt Lf) .none pl; setField (.ref e) 1 b) Q E s := by
  obtain ⟨oe,vs,he,⟨hc,hdx⟩,hd,hsz⟩ := F.exc
  have hene : e ∉ (env :: outer).filterMap (·.frame) := fun hm => by
    obtain ⟨_,o,ho,hnf⟩ := F.fr.mem hm
    rw [he] at ho; cases ho; exact hnf vs hd
  refine wpAny_bind (wpAny_frameOf_fun hfr F.fr hf fun h₁ hs₁ => ?_)
  refine wpAny_bind (wpAny_entryPlaceOf fun pl hpl => ?_)
  unfold EntryCells.newEntry newFields
  refine wpAny_bind (wpAny_newObj_type ?_ (hpl.sizeOk5 _ _ _ _ _))
  generalize hT : ({ cls := .type "traceback",dict := none,data := .fields ([head,.ref Lf,.none,rawInt Lf,.none] ++ (if pl.isEmpty then List.replicate 6 Value.none else pl)).toArray } : Obj) = oT
  have hTf : oT.isFreed = false := by subst hT; rfl
  have he₁ : h₁.get? e = some oe := (hs₁.2.1 e hene).trans he
  have kb : ∀ b o,B₁ b = some o → h₁.get? b = some o := fun b o hb => (hs₁.2.1 b fun hm => by rw [F.off b hm] at hb; cases hb).trans (F.keep b o hb)
  have he₂ : (h₁.push oT).get? e = some oe := Heap.get?_push_of_some _ he₁
  refine wpAny_setField he₂ hd hsz (k _ ?_)
  have hd₃ := Obj.data_mapFields hd (·.setIfInBounds 1 (Value.ref h₁.objs.size))
  have he₃ := Heap.get?_update_self (Obj.mapFields (·.setIfInBounds 1 (Value.ref h₁.objs.size))) he₂ (Obj.isFreed_of_fields hd₃)
  have hTe : h₁.objs.size ≠ e := Nat.ne_of_gt (Heap.lt_size he₁)
  have hT₃ := (Heap.get?_update_other (h₁.push oT) (Obj.mapFields (·.setIfInBounds 1 (Value.ref h₁.objs.size))) (Ne.symm hTe)).trans (Heap.get?_push_size h₁ hTf)
  have keep : ∀ b o,b ≠ e → h₁.get? b = some o → ((h₁.push oT).update e (Obj.mapFields (·.setIfInBounds 1 (Value.ref h₁.objs.size)))).get? b = some o := fun b o hbe hb => by
    rw [Heap.get?_update_other _ _ (Ne.symm hbe)]
    exact Heap.get?_push_of_some _ hb
  refine ⟨F.to (fun b o hb => keep b o (fun q => by rw [q,F.en] at hb; cases hb) (kb b o hb)) (fun b o hb hnf => ?_) ⟨_,_,he₃,⟨(Obj.cls_mapFields _ _).trans hc,(dict_mapFields _ _).trans hdx⟩,hd₃,by simp [hsz]⟩,
    ⟨_,_,h₁.objs.size,oT,_,he₃,hd₃,by simp [hsz],⟨hTe,?_⟩,hT₃,by subst hT; rfl,by rcases hpl with rfl | ⟨_,_,_,_,_,_,_,rfl⟩ <;> simp⟩⟩
  · obtain ⟨sl,hq⟩ := hs₁.2.2 b o hb
    refine ⟨sl,keep b _ (fun q => ?_) hq⟩
    rw [q,he] at hb; cases hb; exact hnf vs hd
  · cases q : B₁ h₁.objs.size with
    | none => rfl
    | some o => exact absurd (Heap.lt_size (kb _ _ q)) (Nat.lt_irrefl _)
private theorem noteF0 {Lf : Addr} {Q : Unit → Shared → Prop} (hfr : A.frames = some (env :: outer)) (hf : env.frame = some Lf) (F : Fl0 B₁ L m C e dx (env :: outer) s.heap) {oe : Obj} {vs : Array Value} (he : s.heap.get? e = some oe) (hd : oe.data = .fields vs) (h1 : vs[1]? = some .none)
    (k : ∀ h',Fly B₁ L m C e dx (env :: outer) (rawInt Lf) h' → Q () { s with heap := h' }) : wpAny M A (noteFrame (.ref e) env) Q E s := by
  unfold noteFrame
  simp only [hf]
  refine wpAny_bind (wpAny_field he hd h1 ?_)
  rw [if_neg (by decide)]
  exact entryF hfr hf F k
private theorem flagF {fl : Value} {T : Addr} {oe oT : Obj} {vs ts : Array Value} {h : Heap} (v : Value) (F : Fl0 B₁ L m C e dx l h) (he : h.get? e = some oe) (hd : oe.data = .fields vs) (h1 : vs[1]? = some (.ref T)) (hT : T ≠ e ∧ B₁ T = none) (hg : h.get? T = some oT) (hdT : oT.data = .fields ts) (h3 : ts[3]? = some fl) :
    Fly B₁ L m C e dx l v (h.update T (Obj.mapFields (·.setIfInBounds 3 v))) := by
  have hsz : 3 < ts.size := (Array.getElem?_eq_some_iff.mp h3).1
  have other : ∀ b,b ≠ T → (h.update T (Obj.mapFields (·.setIfInBounds 3 v))).get? b = h.get? b := fun b hb => Heap.get?_update_other _ _ (Ne.symm hb)
  have he' := (other e (Ne.symm hT.1)).trans he
  obtain ⟨oe',vs',q1,q2,q3,q4⟩ := F.exc
  refine ⟨F.to (fun b o hb => (other b fun q => by rw [q,hT.2] at hb; cases hb).trans (F.keep b o hb)) (fun b o hb hnf => ⟨o.slots,(other b fun q => ?_).trans hb⟩) ⟨oe',vs',(other e (Ne.symm hT.1)).trans q1,q2,q3,q4⟩,
    ⟨oe,vs,T,_,_,he',hd,h1,hT,Heap.get?_update_self _ hg (Obj.isFreed_of_fields (Obj.data_mapFields hdT _)),Obj.data_mapFields hdT _,by simp [hsz]⟩⟩
  rw [q,hg] at hb; cases hb; exact hnf ts hdT
private theorem noteF {Lf : Addr} {Q : Unit → Shared → Prop} (hfr : A.frames = some (env :: outer)) (hf : env.frame = some Lf) (F : Fly B₁ L m C e dx (env :: outer) .none s.heap)
    (k : ∀ h',Fly B₁ L m C e dx (env :: outer) (rawInt Lf) h' → Q () { s with heap := h' }) : wpAny M A (noteFrame (.ref e) env) Q E s := by
  obtain ⟨oe,vs,T,oT,ts,he,hd,h1,hT,hg,hdT,h3⟩ := F.tr
  unfold noteFrame
  simp only [hf]
  refine wpAny_bind (wpAny_field he hd h1 ?_)
  rw [if_pos (show (Value.ref T != Value.none) = true from by simp)]
  refine wpAny_bind (wpAny_field hg hdT h3 ?_)
  rw [if_neg (show ¬ ((Value.none == rawInt Lf) = true) from by simp [rawInt])]
  refine wpAny_bind (wpAny_setField hg hdT (Array.getElem?_eq_some_iff.mp h3).1 ?_)
  exact entryF hfr hf (flagF .none F.toFl0 he hd h1 hT hg hdT h3).toFl0 k
private theorem landF {fl : Value} {Q : Unit → Shared → Prop} (F : Fly B₁ L m C e dx l fl s.heap) (k : ∀ h',Fly B₁ L m C e dx l .none h' → Q () { s with heap := h' }) : wpAny M A (setFlight (.ref e) none) Q E s := by
  obtain ⟨oe,vs,T,oT,ts,he,hd,h1,hT,hg,hdT,h3⟩ := F.tr
  unfold setFlight
  refine wpAny_bind (wpAny_field he hd h1 ?_)
  rw [if_pos (show (Value.ref T != Value.none) = true from by simp)]
  exact wpAny_setField hg hdT (Array.getElem?_eq_some_iff.mp h3).1 (k _ (flagF .none F.toFl0 he hd h1 hT hg hdT h3))
private theorem Fly.pop {fl : Value} {h : Heap} (F : Fly B₁ L m C e dx (env :: l) fl h) : Fly B₁ L m C e dx l fl h :=
  ⟨⟨F.keep,F.ns,F.fr.2.2,fun b hb => F.off b (by
    rw [List.filterMap_cons]
    split
    · exact hb
    · exact .tail _ hb),F.en,F.exc⟩,F.tr⟩
private theorem leaveF {Lf : Addr} {Q : Unit → Shared → Prop} (hfr : A.frames = some (env :: outer)) (hf : env.frame = some Lf) (F : Fl0 B₁ L m C e dx (env :: outer) s.heap) {oe : Obj} {vs : Array Value} (he : s.heap.get? e = some oe) (hd : oe.data = .fields vs) (h1 : vs[1]? = some .none)
    (k : ∀ h',Fly B₁ L m C e dx outer .none h' → Q () { s with heap := h' }) : wpAny M A (leaving env (.ref e)) Q E s := by
  unfold leaving
  refine wpAny_bind (noteF0 hfr hf F he hd h1 fun h' F' => ?_)
  exact landF F' fun h'' F'' => k _ F''.pop
end
end Mine
end
section
open PySem PySem.W PyProof.Rows
namespace Mine
noncomputable abbrev bmE : List Value := [.type "Exception",.type "BaseException",.type "object"]
noncomputable abbrev excObj (C t : Addr) (dx : Option Addr) : PySem.Obj := { cls := .ref C,dict := dx,data := .fields #[.ref t,.none,.none,.none,.bool false,.none] }
noncomputable abbrev tupObj (vs : List Value) : PySem.Obj := { cls := .type "tuple",data := .seq vs.toArray }
section
variable {prog : Program} {w : World} {A : Around} {R : Result → Shared → Prop} {h : Heap} {g : Array GenState} {d : Drawn} {t : Nat} {os : OsState}
variable {nm q : Str} {C N P fi : Addr} {bs : List Value} {hdct : Bool} {sn : List Str} {sub : List Value} {ab : Bool} {col : Option Bool} {dd : Option Addr} {k0 k1 k2 k3 k5 : Option Value}
private theorem exc_new {rest : List Value} (hC : h.get? C = some (excClassObj nm q C N bs (.ref P :: bmE) hdct sn sub ab col dd k0 k1 k2 k3 k5 "Exception.__new__"))
    (hq : R (.ok (.ret (.ref (h.objs.size + 1)))) ⟨(h.push (tupObj rest)).push (excObj C h.objs.size none),g,d,t,os⟩) (hrest : rest.length ≤ sizeLine) :
    codeAny (model prog w) A (.call (.builtin "Exception.__new__") ⟨.ref C :: rest,[]⟩) R ⟨h,g,d,t,os⟩ := by
  have F := PySem.F.excBase_Exception
  have hB : (Value.ref C :: .ref P :: bmE).contains (.type "Exception") = true := by rw [List.contains_cons,List.contains_cons,show bmE.contains (.type "Exception") = true by decide +kernel,Bool.or_true,Bool.or_true]
  have hA : (Value.ref C :: .ref P :: bmE).contains (.type "AttributeError") = false := by rw [List.contains_cons,List.contains_cons]; rfl
  have hN : (Value.ref C :: .ref P :: bmE).contains (.type "NameError") = false := by rw [List.contains_cons,List.contains_cons]; rfl
  have hstar := F.noStar
  have hends := F.ends
  have chk : ∀ {A : Around} {E : Value → Shared → Prop} {Q : Unit → Shared → Prop},Q () ⟨h,g,d,t,os⟩ → wpAny (model prog w) A (checkBuiltinCall "Exception.__new__" ⟨.ref C :: rest,[]⟩) Q E ⟨h,g,d,t,os⟩ := by
    intro A E Q hq
    simp only [checkBuiltinCall,F.newKind,F.newSplit,F.newRow]
    repeat (first | refine wpAny_loadPart_at hC ?_ | (refine wpAny_isSubtype_exc hC ?_; rw [hB]) | refine wpAny_staticBase_exc hC ?_ | refine wpAny_madeBy_exc hC ?_ | simp only [bne_self_eq_false,Bool.false_eq_true,if_false] | wp_step)
    exact hq
  refine codeAny_call_builtin_code (Code.quiet_builtin _ F.quiet) (chk ?_)
  refine codeAny_builtinAt F.entry ?_
  unfold Builtin.«BaseException.__new__»
  refine PySem.wpAt_bind ?_
  show PySem.wpAt _ _ _ (stack >>= _) _ _ _
  refine PySem.wpAt_bind (PySem.wpAt_stack fun p below => PySem.wpAt_of_wpAny ?_)
  wp_walk
  refine PySem.wpAt_of_wpAny ?_
  rw [F.owner]
  repeat (first | with_reducible refine wpAny_madeHere_exc F.canon hC ?_ | with_reducible refine wpAny_loadPart_at hC ?_ | (with_reducible refine wpAny_isSubtype_exc hC ?_; first | rw [hB] | rw [hA] | rw [hN]) | wp_step)
  show R _ _
  rw [Heap.size_push]
  exact hq
private theorem exc_core {rest : List Value} (hC : h.get? C = some (excClassObj nm q C N bs (.ref P :: bmE) hdct sn sub ab col dd k0 k1 k2 k3 k5 "Exception.__new__"))
    (hi : Looks (model prog w) h (typeLookup (.ref C) "__init__") (some (.ref fi))) (hb : ∀ self,Looks (model prog w) h (bindSpecial (.ref fi) self) (.ref fi,[self]))
    (hq : codeAny (model prog w) (A.under (.builtin "type.__call__" ⟨.ref C :: rest,[]⟩)) (.call (.ref fi) ⟨.ref (h.objs.size + 1) :: rest,[]⟩) (InitBack (h.objs.size + 1) R) ⟨(h.push (tupObj rest)).push (excObj C h.objs.size none),g,d,t,os⟩) (hrest : rest.length ≤ sizeLine) :
    codeAny (model prog w) A (.call (.ref C) ⟨rest,[]⟩) R ⟨h,g,d,t,os⟩ := by
  have f1 := tc_lookup
  have f2 := tc_bind (.ref C)
  have hT : (⟨h,g,d,t,os⟩ : Shared).TypeIs (.ref C) "type" := ⟨_,hC,rfl⟩
  refine codeAny_of_tree ?_
  show wpAny _ _ (callAny (.ref C) _) _ _ _
  repeat (any_goals (first | assumption | with_reducible refine wpAny_loadPart_at hC ?_ | wp_step))
  refine ⟨rfl,?_⟩
  refine codeAny_call_builtin_at (Code.quiet_builtin _ (by decide +kernel)) entry_typeCall (wpAny_check_type_call_sub hC ?_)
  repeat (first | with_reducible refine wpAny_loadPart_at hC ?_ | with_reducible refine wpAny_madeBy_exc hC ?_ | wp_step)
  refine exc_new hC ?_ hrest
  have k : ∀ b o,h.get? b = some o → ((h.push (tupObj rest)).push (excObj C h.objs.size none)).get? b = some o := fun b o e => Heap.get?_push_of_some _ (Heap.get?_push_of_some _ e)
  have hx : ((h.push (tupObj rest)).push (excObj C h.objs.size none)).get? (h.objs.size + 1) = some (excObj C h.objs.size none) := by heap_get
  have hC₁ := k _ _ hC
  have hcC : (Value.ref C :: .ref P :: bmE).contains (.ref C) = true := by simp
  have i1 := hi.keeps k
  have b1 := (hb (.ref (h.objs.size + 1))).keeps k
  unfold isInstance
  repeat (first | with_reducible refine wpAny_loadPart_at hx ?_ | (with_reducible refine wpAny_isSubtype_exc hC₁ ?_; rw [hcC]) | wp_step)
  show wpAny _ _ (isSubtype (.ref C) (.ref C)) _ _ ⟨(h.push (tupObj rest)).push (excObj C h.objs.size none),g,d,t,os⟩
  refine wpAny_isSubtype_exc hC₁ ?_
  rw [hcC]
  have t1 : Looks (model prog w) ((h.push (tupObj rest)).push (excObj C h.objs.size none)) (typeOf (.ref (h.objs.size + 1))) (.ref C) := (Looks.ld hx).andThen .now
  unfold callSpecial? specialOf
  repeat (first | with_reducible refine wpAny_call ?_ | lk)
  refine codeAny_mono hq fun r s' z => ?_
  rcases r with e | (v | _ | _ | _) <;> first | exact z | exact z.elim | skip
  obtain ⟨rfl,z⟩ := z
  exact wpAny_pure (wpAny_pure z)
end
end Mine
end
section
open PySem PySem.W PyProof.Rows
namespace Mine
open Builtin Builtin.ObjectAttr
private theorem passesE (self : Value) : refuseLoop self "__setattr__" bmE = pure () := by kernel_rfl
section
variable {prog : Program} {w : World} {A : Around} {E : Value → Shared → Prop} {s : Shared} {K : Frag} {C e t : Addr} {cd : ClassData} {N P : Addr}
private theorem exc_set {name : Str} {v : Value} {vs : Array Value} {sl : Array (Option Value)} {Q : Unit → Shared → Prop} (X : K.In s.heap) (hc : clsIn K C = some cd) (hm : cd.mro = .ref C :: .ref P :: bmE) (hdi : cd.hasDict = true) (he : s.heap.get? e = some ⟨.ref C,none,.fields vs,sl⟩)
    (hs : findIn K (.ref C) "__setattr__" = some (some (.builtin "object.__setattr__"))) (hn : findIn K (.ref C) name = some none)
    (k : ∀ h' tk dx od,(∀ b o,b ≠ e → s.heap.get? b = some o → h'.get? b = some o) → h'.get? e = some ⟨.ref C,some dx,.fields vs,sl⟩ → h'.get? dx = some od → lookIn name od = some (some v) → (∀ ws,od.data ≠ .fields ws) → dx = s.heap.objs.size → Q () { s with heap := h',toks := tk }) :
    wpAny (model prog w) A (setAttr (.ref e) name v) Q E s := by
  have I : InstAt s.heap e ⟨.ref C,none,.fields vs,sl⟩ C none := ⟨he,rfl,rfl,trivial⟩
  refine set_plain X I hs ?_
  have SF := PySem.F.store_object
  have hm' : Looks (model prog w) s.heap (mroOf (.ref C)) cd.mro := (looks_clsIn X hc).andThen .now
  have sub : Looks (model prog w) s.heap (isInstance (.ref e) (.type "object")) true := I.type.andThen (looks_mroIn X (by
    unfold mroIn; rw [hc,Option.bind_some,hm]; rfl))
  refine codeAny_call_builtin SF.slot.plain SF.entry (@check_slot (model prog w) _ _ { s with toks := s.toks + 1 } "object.__setattr__" "object" "__setattr__" (.ref e) [.str name s.toks,v] [] _ SF.kind SF.split sub (SF.args (.ref e) (.str name s.toks) v) ?_)
  rw [osa_eq,refuse_eq]
  refine wpAny_bind (wpAny_bind (I.type.here (s := { s with toks := s.toks + 1 }) (wpAny_bind (hm'.here (s := { s with toks := s.toks + 1 }) ?_))))
  rw [hm,refuseLoop_ref,refuseLoop_ref,passesE]
  refine wpAny_pure (wpAny_bind (I.type.here (s := { s with toks := s.toks + 1 }) (wpAny_bind ((looks_findIn X hn).here (s := { s with toks := s.toks + 1 }) (wpAny_bind (wpAny_pure ?_))))))
  show wpAny _ _ (storeInOwnDict (.ref e) (.ref C) (.str name s.toks) name v false) _ _ _
  unfold storeInOwnDict
  refine wpAny_bind (wpAny_pure (wpAny_bind ?_))
  unfold ownDictForStores instanceDict
  have hne : e ≠ s.heap.objs.size := Nat.ne_of_lt (Heap.lt_size he)
  refine wpAny_bind (wpAny_loadPart (s := { s with toks := s.toks + 1 }) he ?_)
  dsimp only
  refine wpAny_bind ((looks_clsIn X hc).here (s := { s with toks := s.toks + 1 }) ?_)
  rw [hdi]
  have h1 : (s.heap.push emptyDict).get? e = some ⟨.ref C,none,.fields vs,sl⟩ := Heap.get?_push_of_some _ he
  refine wpAny_bind (wpAny_alloc (wpAny_bind (wpAny_update h1 (wpAny_pure ?_))))
  generalize hh : (s.heap.push emptyDict).update e (fun o => { cls := o.cls,dict := some s.heap.objs.size,data := o.data,slots := o.slots }) = h2
  have ge : h2.get? e = some ⟨.ref C,some s.heap.objs.size,.fields vs,sl⟩ := by rw [← hh]; exact Heap.get?_update_self _ h1 rfl
  have gd : h2.get? s.heap.objs.size = some (dictOf [] 0) := by rw [← hh,Heap.get?_update_other _ _ hne]; exact Heap.get?_push_size _ rfl
  have gk : ∀ b o,b ≠ e → s.heap.get? b = some o → h2.get? b = some o := fun b o q e' => by rw [← hh,Heap.get?_update_other _ _ (Ne.symm q)]; exact Heap.get?_push_of_some _ e'
  show wpAny _ _ (storeInDict s.heap.objs.size (.str name s.toks) name v) _ _ { s with heap := h2,toks := s.toks + 1 }
  unfold storeInDict newKeyGuard
  refine wpAny_bind (wpAny_pure (wpAny_bind ?_))
  unfold nsSet
  refine wpAny_bind (wpAny_bind (wpAny_askSetting (wpAny_pure (wpAny_bind (wpAny_mkText (wpAny_bind (wpAny_loadPart gd ?_)))))))
  have c1 : (!([] : List DictEntry).toArray.any (·.key.isStr name) && ([] : List DictEntry).toArray.any (·.refKey)) = false := by simp
  dsimp only
  rw [aRefKeyMayBeTheName_at,c1]
  refine wpAny_updatePart gd ?_
  have e1 := putName_dict name (PyData.keyHash w.params name) (.str name (s.toks + 1)) v [] 0
  have g3 : (h2.update s.heap.objs.size (Obj.putName name (PyData.keyHash w.params name) (.str name (s.toks + 1)) v)).get? s.heap.objs.size = some (dictOf [⟨PyData.keyHash w.params name,.str name (s.toks + 1),v⟩] 1) := by
    have e2 : dictOf (putL name (PyData.keyHash w.params name) (.str name (s.toks + 1)) v []) (putN name [] 0) = dictOf [⟨PyData.keyHash w.params name,.str name (s.toks + 1),v⟩] 1 := rfl
    rw [← e2,← e1]; exact Heap.get?_update_self _ gd (by rw [e1]; rfl)
  refine wpAny_bind (wpAny_lookBehind g3 (pastItsLine_dict (by rw [sizeLine_eq]; show 1 ≤ 16777216 + 1; lia)) ?_)
  refine wpAny_pure (k _ _ _ _ (fun b o q e' => ?_) ?_ g3 ?_ (fun ws q => by cases q) rfl)
  · rw [Heap.get?_update_other _ _ (Nat.ne_of_gt (Heap.lt_size e'))]
    exact gk b o q e'
  · rw [Heap.get?_update_other _ _ (Ne.symm hne)]
    exact ge
  · rw [lookIn_dict]
    unfold getL
    simp [Value.isStr]
end
end Mine
end
section
open PySem PySem.W PyProof.Rows
namespace Mine
open Builtin Builtin.ObjectAttr
private theorem findE : findCls [] (.type "Exception") (.type "type") "__init__" = some (.val (.builtin "Exception.__init__")) := by kernel_rfl
private theorem inNil (h : Heap) : Frag.In [] h := fun u_ u_ e => by cases e
section
variable {prog : Program} {w : World} {A : Around} {E : Value → Shared → Prop} {s : Shared} {K : Frag} {C e t : Addr} {cd : ClassData} {N P : Addr}
private theorem mro_has {T : String} (X : K.In s.heap) (hc : clsIn K C = some cd) (hm : cd.mro = .ref C :: .ref P :: bmE) (hT : bmE.contains (.type T) = true) {oe : PySem.Obj} {od : Option PySem.Obj} (I : InstAt s.heap e oe C od) : Looks (model prog w) s.heap (isInstance (.ref e) (.type T)) true :=
  I.type.andThen (looks_mroIn X (by
    unfold mroIn
    rw [hc,Option.bind_some,hm,if_neg (by simp),List.contains_cons,List.contains_cons,hT,Bool.or_true,Bool.or_true]))
private theorem exc_base {v : Value} {vs : Array Value} {sl : Array (Option Value)} {Q : Value → Shared → Prop} (X : K.In s.heap) (hc : clsIn K C = some cd) (hm : cd.mro = .ref C :: .ref P :: bmE) (he : s.heap.get? e = some ⟨.ref C,none,.fields vs,sl⟩) (h0 : vs[0]? = some (.ref t))
    (k : ∀ h' t',(∀ b o,b ≠ e → s.heap.get? b = some o → h'.get? b = some o) → h'.get? e = some ⟨.ref C,none,.fields (vs.setIfInBounds 0 (.ref t')),sl⟩ → Q .none { s with heap := h' }) :
    wpAny (model prog w) A (call (.builtin "Exception.__init__") [.ref e,v]) Q E s := by
  have I : InstAt s.heap e ⟨.ref C,none,.fields vs,sl⟩ C none := ⟨he,rfl,rfl,trivial⟩
  have F := PySem.F.excBase_Exception
  have hshort := F.noStar
  have chk : ∀ {A : Around} {E : Value → Shared → Prop} {Q : Unit → Shared → Prop},Q () s → wpAny (model prog w) A (checkBuiltinCall "Exception.__init__" ⟨[.ref e,v],[]⟩) Q E s := by
    intro A E Q hq
    have L := mro_has (prog := prog) (w := w) X hc hm (T := "Exception") (by decide +kernel) I
    simp only [checkBuiltinCall,F.initKind,F.initSplit,F.initRow]
    refine wpAny_bind (L.here ?_)
    obtain ⟨oC,dC,slC,hC⟩ : ∃ oC dC slC,s.heap.get? C = some ⟨oC,dC,.cls cd,slC⟩ := by
      unfold clsIn at hc
      split at hc
      · rename_i ho; cases hc; exact ⟨_,_,_,X _ _ ho⟩
      · cases hc
    obtain ⟨hh,g,d,tk,os⟩ := s
    repeat (first | with_reducible refine wpAny_loadPart_at he ?_ | with_reducible refine wpAny_loadPart_at hC ?_ | wp_step)
    exact hq
  refine wpAny_call (codeAny_call_builtin F.init.plain F.initEntry (chk ?_))
  unfold Builtin.«BaseException.__init__»
  dsimp only
  rw [if_neg (by decide)]
  refine wpAny_bind (wpAny_newTuple ?_ (by rw [sizeLine_eq]; show 1 ≤ 16777216; lia))
  unfold BaseException.bexcPut
  have h1 : (s.heap.push (tupObj [v])).get? e = some ⟨.ref C,none,.fields vs,sl⟩ := Heap.get?_push_of_some _ he
  have hsz : 0 < vs.size := (Array.getElem?_eq_some_iff.mp h0).1
  refine wpAny_bind (wpAny_bind (wpAny_field (s := { s with heap := s.heap.push (tupObj [v]) }) h1 rfl h0 (wpAny_bind (wpAny_setField (s := { s with heap := s.heap.push (tupObj [v]) }) h1 rfl hsz (wpAny_letGo (wpAny_pure ?_))))))
  refine k _ s.heap.objs.size (fun b o q e' => ?_) (Heap.get?_update_self _ h1 rfl)
  rw [Heap.get?_update_other _ _ (Ne.symm q)]
  exact Heap.get?_push_of_some _ e'
private theorem getm_exc {pl : Sem Bool} {Q : Value × List Value → Shared → Prop} (h : Q (.builtin "Exception.__init__",[]) { s with toks := s.toks + 1 }) : wpAny (model prog w) A (getMethod (.type "Exception") "__init__" pl) Q E s := by
  have X := inNil s.heap
  have hstub : opaqueClassAbove (.type "Exception") = pure none := by unfold opaqueClassAbove; dsimp only; rw [show Manifest.isStub "Exception" = false by decide +kernel]; rfl
  have ht : typeOf (.type "Exception") = pure (.type "type") := by first | rfl | kernel_rfl
  have L0 : Looks (model prog w) s.heap (typeOf (.type "Exception")) (.type "type") := Looks.of_pure ht
  have hg : findIn [] (.type "type") "__getattribute__" = some (some (.builtin "type.__getattribute__")) := type_tga
  unfold getMethod specialOf
  refine wpAny_bind (wpAny_bind (L0.here ((looks_findIn X hg).here ?_)))
  dsimp only
  rw [if_pos canon_tga]
  refine wpAny_bind (wpAny_mono (Q := fun v => Q (v,[])) (E := E) ?_ (fun u_ u_ z => wpAny_pure z) fun u_ u_ z => z)
  have LO : Looks (model prog w) s.heap (opaqueClassAbove (.type "Exception")) none := Looks.of_pure hstub
  refine cls_open X LO L0 hg (looks_hook X (r := none) (by rfl)) (by show subIn [] _ _ = _; rfl) findE
    (wpAny_pure (by show wpAny _ _ (handedOut _) _ _ _; rw [handedOut_of (by rfl)]; exact wpAny_pure h))
private theorem exc_get {name : Str} {expr : Bool} {v : Value} {oe od : PySem.Obj} {Q : Value → Shared → Prop} (X : K.In s.heap) (hc : clsIn K C = some cd) (hm : cd.mro = .ref C :: .ref P :: bmE) (hdi : hasDictIn K C = true) (I : InstAt s.heap e oe C (some od))
    (hg : findIn K (.ref C) "__getattribute__" = some (some (.builtin "BaseException.__getattribute__"))) (hgg : findIn K (.ref C) "__getattr__" = some none) (hn : findIn K (.ref C) name = some none) (hl : lookIn name od = some (some v)) (hh : handedIn v = true)
    (k : ∀ tk,Q v { s with toks := tk }) : wpAny (model prog w) A (getAttr (.ref e) name expr) Q E s := by
  have FB := PySem.F.attrBase_Exception
  unfold getAttr getAttrBy
  refine wpAny_bind (wpAny_mkText (wpAny_holding (wpAny_bind (I.type.here (s := { s with toks := s.toks + 1 }) (wpAny_bind ((looks_findIn X hg).here (s := { s with toks := s.toks + 1 }) ?_))))))
  dsimp only
  have hx2 : (Value.builtin "BaseException.__getattribute__" == Value.builtin "object.__getattribute__") = false := by decide +kernel
  rw [hx2,Bool.and_false,if_neg (by decide)]
  unfold getAttrByItsOwn
  have hb : Looks (model prog w) s.heap (hookBefore (.ref C)) none := looks_hook X (by show (if true = true then _ else _) = _; rw [if_pos rfl]; exact hgg)
  refine wpAny_bind (hb.here (s := { s with toks := s.toks + 1 }) (wpAny_bind (wpAny_attempt (wpAny_holding ?_))))
  unfold callGetattribute
  rw [show (expr && onTheHeap (Value.builtin "BaseException.__getattribute__")) = false from Bool.and_false _,if_neg (by decide)]
  unfold boundAndCalled
  rw [FB.ga.bind]
  refine wpAny_bind (wpAny_pure ?_)
  show wpAny _ _ (call (.builtin "BaseException.__getattribute__") [.ref e,.str name s.toks]) _ _ _
  refine wpAny_call (codeAny_call_builtin FB.ga.plain PySem.F.entry_bexc_ga (@check_slot (model prog w) _ _ { s with toks := s.toks + 1 } "BaseException.__getattribute__" "BaseException" "__getattribute__" (.ref e) [.str name s.toks] [] _ (by decide +kernel) (by decide +kernel) (mro_has X hc hm (by decide +kernel) I) (PySem.F.args_bexc_ga _ _) ?_))
  unfold Builtin.«object.__getattribute__»
  have L1 := looks_find (M := model prog w) X I (findObj_own hdi hn (by rfl) hl)
  refine wpAny_bind (wpAny_pure (wpAny_bind (wpAny_pure (wpAny_bind (I.type.here (s := { s with toks := s.toks + 1 }) (wpAny_bind (L1.here (s := { s with toks := s.toks + 1 }) ?_)))))))
  refine wpAny_pure ?_
  show wpAny _ _ (handedOut v) _ _ _
  rw [handedOut_of hh]
  exact wpAny_pure (k _)
end
end Mine
end
section
open PySem PySem.W PyProof.Rows
namespace Mine
noncomputable def oCal2c (F : Str → Str → Pos → Pos → Str → Str → Bool) (g : PySem.Expr) (p : Pos) (x y : Str) : Bool := e_Attribute g fun v b ap => e_Name v fun a u_ => F a b ap p x y
noncomputable def oCal2b (F : Str → Str → Pos → Pos → Str → Str → Bool) (g x y : PySem.Expr) (p : Pos) : Bool := e_Name x fun x u_ => e_Name y fun y u_ => oCal2c F g p x y
noncomputable def oCal2a (F : Str → Str → Pos → Pos → Str → Str → Bool) (e1 : PySem.Expr) : Bool := e_Call e1 fun g as ks p => o0 ks && o2 as fun x y => oCal2b F g x y p
noncomputable def oCal2 (s : PySem.Stmt) (F : Str → Str → Pos → Pos → Str → Str → Bool) : Bool := st_Expr s fun e1 u_ => oCal2a F e1
noncomputable def oCal2R (s : PySem.Stmt) (F : Str → Str → Pos → Pos → Str → Str → Bool) : Prop := ∃ a q1 b ap x q3 y q4 p q2,s = .Expr (.Call (.Attribute (.Name a q1) b ap) [.Name x q3,.Name y q4] [] p) q2 ∧ F a b ap p x y = true
private theorem oCal2_i {s : PySem.Stmt} {F : Str → Str → Pos → Pos → Str → Str → Bool} (h : oCal2 s F = true) : oCal2R s F := by
  obtain ⟨e1,q2,rfl,h1⟩ := st_Expr_i h
  clear h
  obtain ⟨g,as,ks,p,rfl,h2⟩ := e_Call_i h1
  clear h1
  obtain ⟨h0,h3⟩ := Bool.and_eq_true_iff.mp h2
  clear h2
  cases o0_i h0
  obtain ⟨x,y,rfl,h4⟩ := o2_i h3
  clear h3 h0
  obtain ⟨x,q3,rfl,h5⟩ := e_Name_i h4
  clear h4
  obtain ⟨y,q4,rfl,h6⟩ := e_Name_i h5
  clear h5
  obtain ⟨v,b,ap,rfl,h7⟩ := e_Attribute_i h6
  clear h6
  obtain ⟨a,q1,rfl,h8⟩ := e_Name_i h7
  exact ⟨_,_,_,_,_,_,_,_,_,_,rfl,h8⟩
noncomputable def oSet (s : PySem.Stmt) (F : Str → Str → Str → Bool) : Bool := st_Assign s fun ts val u_ => o1 ts fun t0 => e_Attribute t0 fun u f u_ => e_Name u fun u u_ => e_Name val fun v u_ => F u f v
noncomputable def oSetR (s : PySem.Stmt) (F : Str → Str → Str → Bool) : Prop := ∃ u q4 f q5 v q6 q7,s = .Assign [.Attribute (.Name u q4) f q5] (.Name v q6) q7 ∧ F u f v = true
private theorem oSet_i {s : PySem.Stmt} {F : Str → Str → Str → Bool} (h : oSet s F = true) : oSetR s F := by
  replace h := st_Assign_i h
  obtain ⟨ts,val,q7,rfl,h⟩ := h
  replace h := o1_i h
  obtain ⟨t0,rfl,h⟩ := h
  replace h := e_Attribute_i h
  obtain ⟨u,f,q5,rfl,h⟩ := h
  replace h := e_Name_i h
  obtain ⟨u,q4,rfl,h⟩ := h
  replace h := e_Name_i h
  obtain ⟨v,q6,rfl,h⟩ := h
  exact ⟨_,_,_,_,_,_,_,rfl,h⟩
noncomputable def initA (sc : Scope) (a b : Str) (q p : Pos) (x y : Str) : Bool :=
  a == ("Exception" : Str) && isGlob sc a && b == ("__init__" : Str) && decide (q.endLine = p.line) && x == ("self" : Str) && y == ("why" : Str)
noncomputable def initB (u f v : Str) : Bool := u == ("self" : Str) && f == ("why" : Str) && v == ("why" : Str)
noncomputable def initOk (sc : Scope) (l : List PySem.Stmt) : Bool :=
  o2 l fun s1 s2 => (oCal2 s1 fun a b q p x y => initA sc a b q p x y) && oSet s2 fun u f v => initB u f v
noncomputable def oRaib (F : Str → Str → Bool) (g x : PySem.Expr) : Bool := e_Name g fun m u_ => e_Constant x fun k u_ u_ => k_str k fun w => F m w
noncomputable def oRaia (F : Str → Str → Bool) (e : PySem.Expr) : Bool := e_Call e fun g as ks u_ => o0 ks && o1 as fun x => oRaib F g x
noncomputable def oRai (s : PySem.Stmt) (F : Str → Str → Bool) : Bool := st_Raise s fun e c u_ => oN c && oS e fun e => oRaia F e
noncomputable def oRaiR (s : PySem.Stmt) (F : Str → Str → Bool) : Prop := ∃ m q1 w n q2 p q3,s = .Raise (some (.Call (.Name m q1) [.Constant (.str w) n q2] [] p)) none q3 ∧ F m w = true
private theorem oRai_i {s : PySem.Stmt} {F : Str → Str → Bool} (h : oRai s F = true) : oRaiR s F := by
  obtain ⟨e,c,q3,rfl,h1⟩ := st_Raise_i h
  clear h
  obtain ⟨h0,h2⟩ := Bool.and_eq_true_iff.mp h1
  clear h1
  cases oN_i h0
  clear h0
  obtain ⟨e,rfl,h3⟩ := oS_i h2
  clear h2
  obtain ⟨g,as,ks,p,rfl,h4⟩ := e_Call_i h3
  clear h3
  obtain ⟨h0,h5⟩ := Bool.and_eq_true_iff.mp h4
  clear h4
  cases o0_i h0
  clear h0
  obtain ⟨x,rfl,h6⟩ := o1_i h5
  clear h5
  obtain ⟨m,q1,rfl,h7⟩ := e_Name_i h6
  clear h6
  obtain ⟨k,n,q2,rfl,h8⟩ := e_Constant_i h7
  clear h7
  obtain ⟨w,rfl,h9⟩ := k_str_i h8
  exact ⟨_,_,_,_,_,_,_,rfl,h9⟩
noncomputable def stepA (nm : Nat → Str) (sc : Scope) (t : PySem.Expr) : Bool := agX nm sc (.isin true (.attr (.loc 6) 15) (.attr (.loc 6) 14)) t
noncomputable def stepB (sc : Scope) (m w : Str) : Bool := m == ("Misused" : Str) && isGlob sc m && w == ⟨noSuch.toArray⟩
noncomputable def stepHead (nm : Nat → Str) (sc : Scope) (l : List PySem.Stmt) : Bool :=
  oC l fun s1 u_ => st_If s1 fun t b u_ u_ => o1 b fun s2 => stepA nm sc t && oRai s2 fun m w => stepB sc m w
structure Exk (c : Cx) : Prop where
  cls : ∃ nm q N bs sn sub ab col dd k0 k1 k2 k3 k5,c.K.lookup 51 = some (excClassObj nm q 51 N bs (.ref 38 :: bmE) true sn sub ab col dd k0 k1 k2 k3 k5 "Exception.__new__")
  mis : nsIn c.K mainGlobals "Misused" = some (some (.ref 51))
  exc : nsIn c.K mainGlobals "Exception" = some none
  sat : findIn c.K (.ref 51) "__setattr__" = some (some (.builtin "object.__setattr__"))
  gat : findIn c.K (.ref 51) "__getattribute__" = some (some (.builtin "BaseException.__getattribute__"))
  hook : findIn c.K (.ref 51) "__getattr__" = some none
  ini : findIn c.K (.ref 51) "__init__" = some (some (.ref 35))
  why : findIn c.K (.ref 51) "why" = some none
  fni : typeIn c.K (.ref 35) = some (.type "function")
  kep : keepIn c.K (.ref 51) = true
  fn35 : ∃ fd fdata o body,fd.params = [6,114] ∧ FnOk c fd 35 fdata o body ∧ (∀ x ∈ fdata.scope.names,x.2 ≠ .cell) ∧ initOk fdata.scope body = true
  step : ∃ fd fdata o body,fd.params = [6] ∧ FnOk c fd 293 fdata o body ∧ (∀ x ∈ fdata.scope.names,x.2 ≠ .cell) ∧ stepHead c.nm fdata.scope body = true
  meth : c.T.meth 310 40 = some 293
  fld : c.T.field 310 15 = true ∧ c.T.field 310 14 = true
  nms : c.nm 6 = ("self" : Str) ∧ c.nm 114 = ("why" : Str) ∧ ∀ n,c.nm n ≠ ("fault" : Str)
section
variable {c : Cx} {A : Around} {E : Value → Shared → Prop} {s : Shared} {sc : Scope} {env : Env}
private theorem loc_at {x : Str} {p : Pos} {m : Str → Option Value} {v : Value} {Q : Value → Shared → Prop} (hE : EnvS sc env) (hl : sc.names.lookup x = some .local) (hm : s.heap.Ns env.locals m) (hv : m x = some v) (hd : (x == ("__debug__" : Str)) = false) (k : Q v s) :
    wpAny (model c.prog c.w) A (eval (.Name x p) env) Q E s :=
  wpAny_Name (wpAny_loadName_local hE.kind (by rw [hE.kindOf]; exact hl) hm hv k) hd
private theorem globk_at {x : Str} {v : Value} {p : Pos} {Q : Value → Shared → Prop} (S : St c) (hE : EnvS sc env) (keep : ∀ b o,c.h₀.get? b = some o → s.heap.get? b = some o) (hg : isGlob sc x = true) (hn : nsIn c.K mainGlobals x = some (some v)) (h : Q v s) :
    wpAny (model c.prog c.w) A (eval (.Name x p) env) Q E s := by
  simp only [Bool.and_eq_true,isGlob,decide_eq_true_eq,Bool.not_eq_true'] at hg
  exact Calls.Name_function_global hE.kind (by rw [hE.kindOf]; exact hg.1) (Calls.loadGlobal_global (by rw [hE.glob]; exact S.g.keeps keep) (mg_of S.K S.g hn) h) hg.2
private theorem bglobk_at {x : Str} {v : Value} {p : Pos} {Q : Value → Shared → Prop} (S : St c) (hE : EnvS sc env) (keep : ∀ b o,c.h₀.get? b = some o → s.heap.get? b = some o) (hg : isGlob sc x = true) (hn : nsIn c.K mainGlobals x = some none)
    (hb : bootBuiltins x = some v) (hx : x ≠ "__name__") (h : Q v s) : wpAny (model c.prog c.w) A (eval (.Name x p) env) Q E s := by
  simp only [Bool.and_eq_true,isGlob,decide_eq_true_eq,Bool.not_eq_true'] at hg
  exact Calls.Name_function_global hE.kind (by rw [hE.kindOf]; exact hg.1) (Calls.loadGlobal_builtin (by rw [hE.glob]; exact S.g.keeps keep) (mg_none_of S.K S.g hn) (by rw [hE.blt]; exact S.b.keeps keep) ((S.boot _ hx).trans hb) h) hg.2
private theorem Exk.clsIn (X : Exk c) : ∃ cd : ClassData,W.clsIn c.K 51 = some cd ∧ cd.mro = .ref 51 :: .ref 38 :: bmE ∧ cd.hasDict = true := by
  obtain ⟨nm,q,N,bs,sn,sub,ab,col,dd,k0,k1,k2,k3,k5,h⟩ := X.cls
  exact ⟨_,by unfold W.clsIn; rw [h],rfl,rfl⟩
private theorem init_ok {e t : Addr} {v : Value} {RR : Result → Shared → Prop} (S : St c) (X : Exk c) (hroom : A.depth < recursionLimit) (keep : ∀ b o,c.h₀.get? b = some o → s.heap.get? b = some o) (he : s.heap.get? e = some (excObj 51 t none)) (he0 : c.h₀.get? e = none)
    (k : ∀ h' tk dx od t',(∀ b o,b ≠ e → s.heap.get? b = some o → h'.get? b = some o) → h'.get? e = some (excObj 51 t' (some dx)) → h'.get? dx = some od → lookIn "why" od = some (some v) → (∀ ws,od.data ≠ .fields ws) → s.heap.get? dx = none → RR (.ok (.ret .none)) { s with heap := h',toks := tk }) :
    codeAny (model c.prog c.w) A (.call (.ref 35) ⟨[.ref e,v],[]⟩) RR s := by
  obtain ⟨fd,fdata,o,body,hp,FO,hcell,hini⟩ := X.fn35
  obtain ⟨n6,n114,_⟩ := X.nms
  have hz : (fd.params.map c.nm).zip [.ref e,v] = [(("self" : Str),.ref e),(("why" : Str),v)] := by rw [hp]; simp only [List.map_cons,List.map_nil,n6,n114]; rfl
  have hbi := FO.bind s [.ref e,v] keep (by rw [hp]; rfl)
  rw [hz] at hbi
  have p1 : fdata.scope.names.lookup ("self" : Str) = some .local := n6 ▸ FO.pars 6 (by rw [hp]; simp)
  have p2 : fdata.scope.names.lookup ("why" : Str) = some .local := n114 ▸ FO.pars 114 (by rw [hp]; simp)
  have hne0 : ∀ b o,c.h₀.get? b = some o → b ≠ e := fun b o q => by rintro rfl; rw [he0] at q; cases q
  have heS : e < s.heap.objs.size := Heap.lt_size he
  obtain ⟨cd,hc,hm,hdi⟩ := X.clsIn
  refine codeAny_call_def hroom (keep _ _ FO.at_) FO.data (S.lim.keeps keep) (FO.code.keeps keep) FO.bodyEq hbi hcell (fun x hx => ?_) (fun h₁ hn hk => ?_) FO.co FO.gen FO.kind
  · simp only [List.mem_cons,List.not_mem_nil,or_false] at hx
    rcases hx with rfl | rfl
    · exact p1
    · exact p2
  have hE : EnvS fdata.scope (callEnv fdata s.heap.objs.size 35) := ⟨rfl,FO.kind,FO.glob,FO.blt⟩
  have hi : interactive (callEnv fdata s.heap.objs.size 35) = false := by unfold interactive; rw [hE.kind]; rfl
  replace hini := o2_i (F := fun s1 s2 => (oCal2 s1 fun a b q p x y => initA fdata.scope a b q p x y) && oSet s2 fun u f v => initB u f v) hini
  rcases hini with ⟨s1,s2,rfl,hini⟩
  obtain ⟨hin1,hset⟩ := Bool.and_eq_true_iff.mp hini
  clear hini
  replace hini := oCal2_i hin1
  clear hin1
  rcases hini with ⟨a,q1,b,q,x,q3,y,q4,p,q2,rfl,hini⟩
  unfold initA at hini
  · simp only [Bool.and_eq_true,beq_iff_eq,decide_eq_true_eq] at hini
    obtain ⟨⟨⟨⟨⟨rfl,hg⟩,rfl⟩,hpos⟩,rfl⟩,rfl⟩ := hini
    have keep₁ : ∀ b o,c.h₀.get? b = some o → h₁.get? b = some o := fun b o q => hk _ _ (keep b o q)
    refine wpAny_execs_cons (wpAny_Expr_any ?_ hi rfl)
    rw [eval_mcall rfl hpos (by show 2 < 29; lia) (by intro q hq; rcases List.mem_cons.mp hq with rfl | hq; rfl; rcases List.mem_cons.mp hq with rfl | hq; rfl; nomatch hq)]
    refine wpAny_bind (bglobk_at S hE keep₁ hg X.exc PyProof.Rows.Boot.«Exception» (by decide) ?_)
    refine wpAny_bind (wpAny_standAt (wpAny_bind (wpAny_holding (getm_exc ?_))))
    have m1 : (([(("self" : Str),Value.ref e),(("why" : Str),v)] : List (Str × Value)).reverse.lookup ("self" : Str)) = some (.ref e) := by rfl
    have m2 : (([(("self" : Str),Value.ref e),(("why" : Str),v)] : List (Str × Value)).reverse.lookup ("why" : Str)) = some v := by rfl
    refine callWith_of rfl (P := fun u_ => True) (keeps_blt (.inl ⟨_,rfl⟩)) (Calls.evalArgs_plain (Calls.spliced_cons (loc_at hE p1 hn m1 (by decide) (Calls.spliced_cons (loc_at hE p2 hn m2 (by decide) (Calls.spliced_nil ⟨trivial,?_⟩))))))
    refine exc_base (t := t) (S.K.keeps keep₁) hc hm (hk _ _ he) rfl fun h₂ t' k2 he2 => ?_
    have keep₂ : ∀ b o,c.h₀.get? b = some o → h₂.get? b = some o := fun b o q => k2 _ _ (hne0 b o q) (keep₁ b o q)
    have hn2 : h₂.Ns s.heap.objs.size (fun x => ([(("self" : Str),Value.ref e),(("why" : Str),v)] : List (Str × Value)).reverse.lookup x) := by
      obtain ⟨o,es,ep,ho,r⟩ := hn
      exact ⟨o,es,ep,k2 _ _ (Nat.ne_of_gt heS) ho,r⟩
    replace hset := oSet_i hset
    rcases hset with ⟨u,q5,f,q6,v',q7,q8,rfl,hset⟩
    unfold initB at hset
    simp only [Bool.and_eq_true,beq_iff_eq] at hset
    obtain ⟨⟨rfl,rfl⟩,rfl⟩ := hset
    refine wpAny_execs_cons (plainObj_wpAny_Assign_Attribute (loc_at hE p2 hn2 m2 (by decide) (loc_at hE p1 hn2 m1 (by decide) ?_)) rfl)
    refine exc_set (S.K.keeps keep₂) hc hm hdi he2 X.sat X.why fun h₃ tk dx od k3 he3 hd3 hl3 hnf hdx => ?_
    refine wpAny_execs_nil (k _ _ dx od t' (fun b o q e' => k3 b o q (k2 b o q (hk b o e'))) he3 hd3 hl3 hnf ?_)
    cases q : s.heap.get? dx with
    | none => rfl
    | some o =>
      have q1 := Heap.lt_size (k2 dx o (fun z => by
        have := Heap.lt_size he2
        rw [← z,hdx] at this
        exact Nat.lt_irrefl _ this) (hk _ _ q))
      rw [hdx] at q1
      exact absurd q1 (Nat.lt_irrefl _)
end
end Mine
end
section
open PySem PySem.W PyProof.Rows
namespace Mine
section
variable {c : Cx} {A : Around} {E : Value → Shared → Prop} {s : Shared} {sc : Scope} {env : Env}
private theorem raise_made {M : Model} {x : Sem Value} {nm q : Str} {C N P : Addr} {bs : List Value} {hdct : Bool} {sn : List Str} {sub : List Value} {ab : Bool} {col : Option Bool} {dd : Option Addr} {k0 k1 k2 k3 k5 : Option Value} {newId : String} {Q : Flow → Shared → Prop} (hh : A.handled = none)
    (h : wpAny M A x (fun v s₁ => ∃ e t dx,v = .ref e ∧ s₁.heap.get? C = some (excClassObj nm q C N bs (.ref P :: bmE) hdct sn sub ab col dd k0 k1 k2 k3 k5 newId) ∧ s₁.heap.get? e = some (excObj C t dx) ∧ E (.ref e) s₁) E s) :
    wpAny M A (raiseStmt env (some x) none) Q E s := by
  have hcB : (Value.ref C :: .ref P :: bmE).contains (.type "BaseException") = true := by rw [List.contains_cons,List.contains_cons,show bmE.contains (.type "BaseException") = true by decide +kernel,Bool.or_true,Bool.or_true]
  unfold raiseStmt
  refine wpAny_bind (wpAny_mono h (fun v s₁ h₁ => ?_) fun u_ u_ x => x)
  obtain ⟨e,t,dx,rfl,hC,he,hE⟩ := h₁
  obtain ⟨hp,g,d,tk,os⟩ := s₁
  repeat (first | with_reducible refine wpAny_loadPart_at he ?_ | with_reducible refine wpAny_loadPart_at hC ?_ | (with_reducible refine wpAny_isSubtype_exc hC ?_; rw [hcB]) | wp_step)
  exact wpAny_raiseNew_none hh hE
private theorem raise_ok {w : Str} {cst : Nat} {p1 p2 cp pos : Pos} {Q : Flow → Shared → Prop} (S : St c) (X : Exk c) (hE : EnvS sc env) (hh : A.handled = none) (hroom : ∀ vs,(A.under (.builtin "type.__call__" ⟨.ref 51 :: vs,[]⟩)).depth < recursionLimit) (keep : ∀ b o,c.h₀.get? b = some o → s.heap.get? b = some o)
    (hg : isGlob sc ("Misused" : Str) = true)
    (k : ∀ h' tk e dx od t' tok,(∀ b o,s.heap.get? b = some o → h'.get? b = some o) → s.heap.get? e = none → h'.get? e = some (excObj 51 t' (some dx)) → h'.get? dx = some od → lookIn "why" od = some (some (.str w tok)) → (∀ ws,od.data ≠ .fields ws) → dx ≠ e → s.heap.get? dx = none → E (.ref e) { s with heap := h',toks := tk }) :
    wpAny (model c.prog c.w) A (exec (.Raise (some (.Call (.Name ("Misused" : Str) p1) [.Constant (.str w) cst p2] [] cp)) none pos) env) Q E s := by
  rw [arm_exec_Raise]
  obtain ⟨nm,q,N,bs,sn,sub,ab,col,dd,k0,k1,k2,k3,k5,hC⟩ := X.cls
  refine wpAny_bind (wpAny_standAt ?_)
  refine raise_made (C := 51) (P := 38) (nm := nm) (q := q) (N := N) (bs := bs) (hdct := true) (sn := sn) (sub := sub) (ab := ab) (col := col) (dd := dd) (k0 := k0) (k1 := k1) (k2 := k2) (k3 := k3) (k5 := k5) (newId := "Exception.__new__") hh ?_
  refine wpAny_bind ?_
  refine PyProof.Rows.Call_ (globk_at S hE keep hg X.mis ?_) rfl
  refine callWith_of rfl (P := fun h => c.K.In h) (keeps_K X.kep) (Calls.evalArgs_plain (x := eval (.Constant (.str w) cst p2) env) (rest := []) ?_)
  refine Calls.spliced_cons (wpAny_Constant_str (k := cst) (pos := p2) ?_)
  refine Calls.spliced_nil ⟨S.K.keeps keep,wpAny_call ?_⟩
  have XK := S.K.keeps keep
  obtain ⟨hh',g,d,tk,os⟩ := s
  have XH : c.h₀.get? (hh'.objs.size + 1) = none := by
    cases z : c.h₀.get? (hh'.objs.size + 1) with
    | none => rfl
    | some o => exact absurd (Heap.lt_size (keep _ _ z)) (Nat.not_lt.mpr (Nat.le_succ _))
  refine exc_core (XK _ _ hC) (looks_findIn XK X.ini) (fun self => bind_fn XK self X.fni) ?_ (by rw [sizeLine_eq]; show 1 ≤ 16777216; lia)
  have kk : ∀ b o,hh'.get? b = some o → ((hh'.push (tupObj [.str w tk])).push (excObj 51 hh'.objs.size none)).get? b = some o := fun b o e => Heap.get?_push_of_some _ (Heap.get?_push_of_some _ e)
  refine init_ok (t := hh'.objs.size) S X (hroom _) (fun b o e => kk _ _ (keep b o e)) (by heap_get) XH fun h' tk' dx od t' k3 he hd hl hnf hdx => ⟨rfl,?_⟩
  refine wpAny_bind (wpAny_standAt (wpAny_pure ⟨_,_,_,rfl,?_,he,?_⟩))
  · have z := XK _ _ hC
    exact k3 _ _ (Nat.ne_of_lt (Nat.lt_succ_of_lt (Heap.lt_size z))) (kk _ _ z)
  · refine k h' tk' _ dx od t' tk (fun b o e => k3 _ _ (Nat.ne_of_lt (Nat.lt_succ_of_lt (Heap.lt_size e))) (kk _ _ e)) ?_ he hd hl hnf ?_ ?_
    · cases z : hh'.get? (hh'.objs.size + 1) with
      | none => rfl
      | some o => exact absurd (Heap.lt_size z) (Nat.not_lt.mpr (Nat.le_succ _))
    · rintro rfl
      have : ((hh'.push (tupObj [.str w tk])).push (excObj 51 hh'.objs.size none)).get? (hh'.objs.size + 1) = some (excObj 51 hh'.objs.size none) := by heap_get
      cases hdx.symm.trans this
    · cases z : hh'.get? dx with
      | none => rfl
      | some o => cases hdx.symm.trans (kk _ _ z)
end
end Mine
end
section
open PySem PySem.W PyProof.Rows
namespace Mine
section
variable {c : Cx} {A : Around} {s : Shared} {env : Env}
private theorem step_ok {B : Fz} {ρ : Ev} {H : Hp} {a d0 dd : Addr} {fs : List (Nat × D)} {st : List Nat} {kvs : List (List Nat × D)} {RR : Result → Shared → Prop} (S : St c) (EX : Exk c) (hk : env.scope.kind = .function) (hh : A.handled = none) (hdp : A.depth + 10 ≤ 990) (hun : A.units + 300 ≤ 9800)
    (hfr : A.frames = some [env]) (hf : env.frame = some env.locals) (r : R c B env ρ H s) (ha : attrsOf H (.ref a) = some (310,d0,fs)) (h15 : lookA 15 fs = some (.str st)) (h14 : lookA 14 fs = some (.ref dd)) (hdd : H dd = some (.dict kvs)) (hst : lookS st kvs = none)
    (k : ∀ (s₂ : Shared) h' tk e dx od tok B₁ m,R c B env ρ H s₂ → s₂.heap.Ns env.locals m → (∀ n d,ρ.v n = some d → ∃ v,m (c.nm n) = some v ∧ VR v d) → (∀ b o,(B b = some o ∨ ∃ O,H b = some O) → s₂.heap.get? b = some o → B₁ b = some o) →
      B₁ dx = some od → B₁ env.locals = none → lookIn "why" od = some (some (.str ⟨noSuch.toArray⟩ tok)) → Fly B₁ env.locals m 51 e dx [env] .none h' → RR (.error (.ref e)) { s₂ with heap := h',toks := tk }) :
    codeAny (model c.prog c.w) A (.call (.ref 293) ⟨[.ref a],[]⟩) RR s := by
  obtain ⟨fd,fdata,o,body,hp,FO,hcell,hini⟩ := EX.step
  obtain ⟨n6,_,_⟩ := EX.nms
  have keep : ∀ b o,c.h₀.get? b = some o → s.heap.get? b = some o := fun b o e => r.keep e
  have hz : (fd.params.map c.nm).zip [.ref a] = [(c.nm 6,Value.ref a)] := by rw [hp]; rfl
  have hbi := FO.bind s [.ref a] keep (by rw [hp]; rfl)
  rw [hz] at hbi
  have p1 : fdata.scope.names.lookup (c.nm 6) = some .local := FO.pars 6 (by rw [hp]; simp)
  obtain ⟨mL,hmL,hlL⟩ := r.loc
  obtain ⟨oL,esL,epL,hoL,hrest⟩ := id hmL
  have hns : ∀ h : Heap,h.get? env.locals = some oL → h.Ns env.locals mL := fun h e => ⟨oL,esL,epL,e,hrest⟩
  have hLs : env.locals ≠ s.heap.objs.size := Nat.ne_of_lt hmL.lt
  have hBsub : ∀ b o,B b = some o → (B.put env.locals oL) b = some o := fun b o e => by unfold Fz.put; rw [if_neg (by rintro rfl; rw [r.LB] at e; cases e)]; exact e
  have hBL : (B.put env.locals oL) env.locals = some oL := by unfold Fz.put; rw [if_pos rfl]
  refine codeAny_call_def (by unfold recursionLimit; lia) (keep _ _ FO.at_) FO.data (S.lim.keeps keep) (FO.code.keeps keep) FO.bodyEq hbi hcell (fun x hx => ?_) (fun h₁ hn hk₁ => ?_) FO.co FO.gen FO.kind
  · simp only [List.mem_singleton] at hx; subst hx; exact p1
  have hE : EnvS fdata.scope (callEnv fdata s.heap.objs.size 293) := ⟨rfl,FO.kind,FO.glob,FO.blt⟩
  have r1 : R c B env ρ H { s with heap := h₁,toks := s.toks + [(c.nm 6,Value.ref a)].length } := r.more hk₁
  have r2 := r1.call (env₁ := callEnv fdata s.heap.objs.size 293) (ρ' := Ev.empty.put 6 (.ref a)) (hk₁ _ _ hoL) hn r.freshB r.fresh (Ne.symm hLs) (fun q d e => by
    unfold Ev.put at e
    dsimp only at e
    rw [cond_beq] at e
    split at e
    · rename_i z; subst z; cases e
      exact ⟨.ref a,by simp,rfl⟩
    · cases e) (fun q => rfl)
  replace hini := oC_i (F := fun s1 u_ => st_If s1 fun t b u_ u_ => o1 b fun s2 => stepA c.nm fdata.scope t && oRai s2 fun m w => stepB fdata.scope m w) hini
  rcases hini with ⟨s1,rest,rfl,hini⟩
  replace hini := st_If_i hini
  rcases hini with ⟨t,b,oe,q9,rfl,hini⟩
  replace hini := o1_i hini
  rcases hini with ⟨s2,rfl,hini⟩
  obtain ⟨hag,hini2⟩ := Bool.and_eq_true_iff.mp hini
  clear hini
  · unfold stepA at hag
    have hAX : AX 0 (A.deeper (callEnv fdata s.heap.objs.size 293)) := ⟨hh,by show A.depth + 1 + 2 * 0 + 3 ≤ 990; lia,by show A.units + 3 + 20 * 0 + 200 ≤ 9800; lia⟩
    refine wpAny_execs_cons (wpAny_If (noE_mono ((isin_s (n := 0) (C := fun u_ u_ u_ u_ => False) S (attr_snd S loc_snd) (attr_snd S loc_snd)).2 _ fdata.scope _ _ _ _ (fun d H' => d = .bool true ∧ H' = H) H _ _ hAX hE hag (fun d H' z => ⟨_,z.1⟩) ?_ r2 fun b H' s₂ z r3 => ?_)))
    · simp only [wx_loc,wx_attr,wx_isin,Ev.put,BEq.rfl,cond_true,ha,EX.fld.1,EX.fld.2,h15,h14,isinD,isinA,hdd,hst]
      constructor <;> first | rfl | trivial | simp
    · obtain ⟨zb,rfl⟩ := z
      cases zb
      rw [if_pos rfl]
      have LN : ∀ {b : Addr},b = s.heap.objs.size → B b = none ∧ H' b = none := fun q => by subst q; exact ⟨r.freshB,r.fresh⟩
      have rb : R c B env ρ H' s₂ := r3.back hBL hns hlL r.cel r.base hBsub r.LB
      have hL2 : s₂.heap.get? env.locals = some oL := (r3.fz _ _ hBL).1
      have keep₂ : ∀ b o,c.h₀.get? b = some o → s₂.heap.get? b = some o := fun b o e => rb.keep e
      obtain ⟨m₁,hm₁,_⟩ := r3.loc
      have hini := oRai_i hini2
      clear hini2
      rcases hini with ⟨m,q1,w,n,q2,p,q3,rfl,hini⟩
      unfold stepB at hini
      simp only [Bool.and_eq_true,beq_iff_eq] at hini
      obtain ⟨⟨rfl,hg⟩,rfl⟩ := hini
      refine wpAny_execs_cons (raise_ok S EX hE hh (fun vs => by
        show A.depth + 1 + _ < recursionLimit
        rw [make_weight]; unfold recursionLimit; lia) keep₂ hg fun h' tk e dx od t' tok kk hen he hd hl hnf hde hdx => ?_)
      have hLe : env.locals ≠ e := fun q => by rw [← q,hL2] at hen; cases hen
      have hLdx : env.locals ≠ dx := fun q => by rw [← q,hL2] at hdx; cases hdx
      obtain ⟨o₁,es₁,ep₁,ho₁,hr₁⟩ := id hm₁
      have h1e : s.heap.objs.size ≠ e := fun q => by rw [← q] at hen; cases hen.symm.trans ho₁
      have h1dx : s.heap.objs.size ≠ dx := fun q => by rw [← q] at hdx; cases hdx.symm.trans ho₁
      let B₁ : Fz := fun b => if b = env.locals ∨ b = s.heap.objs.size ∨ b = e then none else h'.get? b
      have hB₁ : ∀ b,¬ (b = env.locals ∨ b = s.heap.objs.size ∨ b = e) → B₁ b = h'.get? b := fun b q => if_neg q
      have hN : h'.Ns env.locals mL := hns _ (kk _ _ hL2)
      have hN₁ : h'.Ns s.heap.objs.size m₁ := ⟨o₁,es₁,ep₁,kk _ _ ho₁,hr₁⟩
      have F0 : Fl0 B₁ env.locals mL 51 e dx [callEnv fdata s.heap.objs.size 293,env] h' := by
        refine ⟨fun b o q => ?_,hN,?_,fun b hb => ?_,if_pos (.inr (.inr rfl)),⟨_,_,he,⟨rfl,rfl⟩,rfl,by show 1 < 6; lia⟩⟩
        · by_cases z : b = env.locals ∨ b = s.heap.objs.size ∨ b = e
          · rw [show B₁ b = none from if_pos z] at q; cases q
          · rw [hB₁ b z] at q; exact q
        · exact Heap.FunFrames.cons (by show fdata.scope.kind ≠ _; rw [FO.kind]; decide) rfl hN₁ rfl (Heap.FunFrames.cons (by rw [hk]; decide) hf hN rfl trivial)
        · have hb' : b = s.heap.objs.size ∨ b = env.locals := by
            have e1 : (callEnv fdata s.heap.objs.size 293).frame = some s.heap.objs.size := rfl
            simpa [List.filterMap_cons,hf,e1] using hb
          rcases hb' with rfl | rfl
          · exact if_pos (.inr (.inl rfl))
          · exact if_pos (.inl rfl)
      refine leaveF (Around.frames_deeper hfr) rfl F0 he rfl rfl fun h'' F' => ?_
      refine k s₂ h'' tk e dx od tok B₁ mL rb (hns _ hL2) hlL (fun b o q q2 => ?_) ((hB₁ dx fun q => ?_).trans hd) (if_pos (.inl rfl)) hl F'
      · rw [hB₁ b fun z => ?_]
        · exact kk _ _ q2
        · rcases z with rfl | rfl | rfl
          · rcases q with q | ⟨O,q⟩
            · rw [r.LB] at q; cases q
            · rw [rb.LH] at q; cases q
          · rcases q with q | ⟨O,q⟩
            · rw [(LN rfl).1] at q; cases q
            · rw [(LN rfl).2] at q; cases q
          · rw [hen] at q2; cases q2
      · rcases q with q | q | q
        · exact hLdx q.symm
        · exact h1dx q.symm
        · exact hde q
end
end Mine
end
section
open PySem PySem.W PyProof.Rows
namespace Mine
section
variable {c : Cx} {n : Nat} {C : CallT}
private theorem R.landed {B : Fz} {env : Env} {ρ ρ' : Ev} {H : Hp} {s : Shared} (r : R c B env ρ H s) {h' : Heap} {m' : Str → Option Value} {t : Nat} (hk : ∀ b o,(B b = some o ∨ ∃ O,H b = some O) → s.heap.get? b = some o → h'.get? b = some o) (hm : h'.Ns env.locals m')
    (hv : ∀ n d,ρ'.v n = some d → ∃ v,m' (c.nm n) = some v ∧ VR v d) (hc : ρ'.c = ρ.c) : R c B env ρ' H { s with heap := h',toks := t } :=
  ⟨fun b o e => ⟨hk b o (.inl e) (r.fz b o e).1,(r.fz b o e).2⟩,fun a O e => let ⟨o,h1,h2⟩ := r.ob a O e; ⟨o,hk a o (.inr ⟨O,e⟩) h1,h2⟩,r.base,⟨m',hm,hv⟩,r.LB,r.LH,fun n a e => r.cel n a (by rw [← hc]; exact e),r.os,r.gens⟩
private theorem specialS (ST : St c) (EX : Exk c) : SS c n C .special := by
  intro A sc env B ρ st K H s Q hA hE hsp h hw r k
  obtain ⟨hfr,hat,hdp,hun⟩ := hsp rfl
  replace h := oTry_i (F := fun s1 x => (oCal s1 fun a b ap p => specA c.nm sc a b ap p) && oExc x fun m f s2 => specB sc m f && oAss s2 fun t f' w => specD c.nm sc t f' w) h
  rcases h with ⟨s1,x,q9,rfl,h⟩
  obtain ⟨hZ,hX⟩ := Bool.and_eq_true_iff.mp h
  clear h
  have h := oCal_i hZ
  clear hZ
  rcases h with ⟨a,q1,b,ap,p,q2,rfl,h⟩
  unfold specA at h
  · simp only [Bool.and_eq_true,beq_iff_eq,decide_eq_true_eq,isLocal,Bool.not_eq_true'] at h
    obtain ⟨⟨⟨rfl,ht1,ht2⟩,rfl⟩,hl⟩ := h
    simp only [ws_special] at hw
    split at hw
    · rename_i x hx
      split at hw
      · rename_i K' d0 fs ha
        split at hw
        · rename_i st' dd h15 h14
          split at hw
          · rename_i kvs hdd
            obtain ⟨⟨rfl,hlk,h40⟩,hq⟩ := hw
            have hi : interactive env = false := by unfold interactive; rw [hE.kind]; rfl
            refine wpAny_Try_except (wpAny_execs_cons (wpAny_Expr_any ?_ hi rfl))
            rw [eval_mcall rfl hl (by show 0 < 29; lia) (fun q hq => by cases hq)]
            refine wpAny_bind (noE_mono (loc_snd (c := c) (n := n) (C := C) (x := 46) A sc env B ρ _ (fun d H' => d = x ∧ H' = H) H s _ hA hE (by show (_ == _ && isLocal sc _) = true; simp [isLocal,ht1,ht2]) (by simp [wx_loc,hx]) r fun d H' v s' z hv r' => ?_))
            obtain ⟨rfl,rfl⟩ := z
            refine wpAny_bind (wpAny_standAt (wpAny_bind (wpAny_holding ?_)))
            obtain ⟨a,es,m0,rfl,h1,h2,har,g1,g2,I⟩ := inst_of r' ha
            cases hv.ref
            obtain ⟨⟨m1,m2⟩,m3,m4⟩ := ST.meth _ _ _ EX.meth
            have hh := AR.get c.inj (f := 40) har
            rw [h40] at hh
            refine method_fn (ST.K.keeps fun b o e => r'.keep e) I (plainGet_of m3).1 (plainGet_of m3).2 m1 (beq_iff_eq.mp m2) (by show (lookIn _ (dictOf es m0)).map _ = _; rw [lookIn_dict,hh]; rfl) ?_
            refine callWith_of rfl (P := fun h => c.K.In h) (keeps_K m4) (evalArgs_nil3 ⟨ST.K.keeps fun b o e => r'.keep e,wpAny_call ?_⟩)
            refine step_ok ST EX hE.kind hA.handled hdp hun hfr hat r' ha h15 h14 hdd hlk fun s₂ h' tk e dx od tok B₁ m rb hmN hlN hB hod hBL hlw F => ?_
            refine noteF hfr hat F fun h3 F3 => landF F3 fun h4 F4 => ?_
            have keepB : ∀ b o,c.h₀.get? b = some o → B₁ b = some o := fun b o e => hB b o (.inl (rb.base b o e)) (rb.keep e)
            have keep4 : ∀ b o,c.h₀.get? b = some o → h4.get? b = some o := fun b o e => F4.keep _ _ (keepB b o e)
            replace hX := oExc_i hX
            rcases hX with ⟨mz,q3,f,s2,q8,rfl,hX⟩
            obtain ⟨hZ,hY⟩ := Bool.and_eq_true_iff.mp hX
            clear hX
            have hX := hZ
            clear hZ
            unfold specB at hX
            simp only [Bool.and_eq_true,beq_iff_eq,decide_eq_true_eq] at hX
            obtain ⟨⟨⟨rfl,hg⟩,rfl⟩,hfl⟩ := hX
            refine wpAny_handleBy_cons (codeAny_handlers_test (globk_at ST hE keep4 hg EX.mis ?_)) (by intro q; cases q)
            obtain ⟨cnm,cq,cN,cbs,csn,csub,cab,ccol,cdd,k0,k1,k2,k3,k5,hC⟩ := EX.cls
            obtain ⟨oe,vs,he,⟨hcl,_⟩,_,_⟩ := F4.exc
            refine wpAny_excMatches_sub_self (keep4 _ _ (ST.K _ _ hC)) he hcl (by rw [List.contains_cons]; decide +kernel) (codeAny_handlers_suite_as ?_)
            refine landF F4 fun h5 F5 => ?_
            have keep5 : ∀ b o,c.h₀.get? b = some o → h5.get? b = some o := fun b o e => F5.keep _ _ (keepB b o e)
            refine wpAny_storeName_local (by rw [hE.kindOf]; exact hfl) F5.ns (fun h6 hn6 hs6 => ?_) (hpE hE)
            obtain ⟨oe5,vs5,he5,⟨hcl5,hdx5⟩,hd5,_⟩ := F5.exc
            have offL : ∀ b o,B₁ b = some o → b ≠ env.locals := fun b o q => by rintro rfl; rw [hBL] at q; cases q
            have heL : e ≠ env.locals := by
              rintro rfl
              obtain ⟨o1,es1,ep1,ho1,hd1,_⟩ := F5.ns
              rw [he5] at ho1; cases ho1; rw [hd5] at hd1; cases hd1
            have he6 : h6.get? e = some oe5 := (hs6.2 e heL).trans he5
            have keep6 : ∀ b o,B₁ b = some o → h6.get? b = some o := fun b o q => (hs6.2 b (offL b o q)).trans (F5.keep b o q)
            obtain ⟨cd,hc,hm,hdi⟩ := EX.clsIn
            have I6 : InstAt h6 e oe5 51 (some od) := ⟨he6,hcl5,by unfold notCls; rw [hd5],by rw [hdx5]; exact keep6 _ _ hod⟩
            replace hY := oAss_i hY
            rcases hY with ⟨t,q4,f',q5,w,q6,q7,rfl,hY⟩
            unfold specD at hY
            simp only [Bool.and_eq_true,beq_iff_eq,decide_eq_true_eq,isLocal,Bool.not_eq_true'] at hY
            obtain ⟨⟨⟨rfl,htl,htd⟩,rfl⟩,rfl⟩ := hY
            refine wpAny_execs_cons (wpAny_Assign_Name (PyProof.Rows.Attribute_any_ (loc_at hE hfl hn6 (if_pos rfl) (by decide) ?_) (eval_attr rfl)) rfl)
            refine exc_get (ST.K.keeps fun b o q => keep6 b o (keepB b o q)) hc hm (by unfold hasDictIn; rw [hc]; exact hdi) I6 EX.gat EX.hook EX.why hlw rfl fun tk2 => ?_
            refine wpAny_storeName_local (by rw [hE.kindOf]; exact htl) hn6 (fun h7 hn7 hs7 => ?_) (hpE hE)
            refine wpAny_execs_nil ?_
            show wpAny _ A (do bindName env _ .none; unbindBehindTheSuite env _ _) _ _ _
            refine wpAny_nameGoes_keeps (by rw [hE.kindOf]; exact hfl) hn7 (hpE hE) fun h8 v8 hn8 hs8 => ?_
            refine k _ _ _ _ _ hq trivial (rb.landed (fun b o q q2 => ?_) hn8 (fun n' d' q => ?_) rfl)
            · have qB := hB b o q q2
              exact (hs8.2 b (offL b o qB)).trans ((hs7.2 b (offL b o qB)).trans (keep6 b o qB))
            · rw [if_neg (EX.nms.2.2 n')]
              unfold Ev.put at q
              dsimp only at q
              rw [cond_beq] at q
              split at q
              · rename_i z; subst z; cases q
                exact ⟨_,if_pos rfl,VR.mk_str⟩
              · rename_i z
                rw [if_neg fun w => z (c.inj _ _ w),if_neg (EX.nms.2.2 n')]
                exact hlN _ _ q
          · exact hw.elim
        · exact hw.elim
      · exact hw.elim
    · exact hw.elim
end
end Mine
end
section
open PySem PySem.W PyProof.Rows
namespace Mine
section
variable {c : Cx} {n : Nat} {C : CallT}
private theorem failS : SS c n C .fail := by
  intro A sc env B ρ st K H s Q hA hE hsp h hw r k
  simp only [ws_expr,ws_assign,ws_assignC,ws_unpack,ws_setattr,ws_decattr,ws_ret,ws_ite,ws_while_,ws_for_,ws_cont,ws_fail,ws_special] at hw
mutual
private theorem S_all (ST : St c) (EX : Exk c) (hC : CallS c n C) : (x : S) → SS c n C x
  | .expr e => exprS (X_all ST hC e).1
  | .assign _ e => assignS (X_all ST hC e).1 fun elt t cs it u_ => ⟨(X_all ST hC elt).1,(X_all ST hC it).1⟩
  | .assignC _ e => assignCS (X_all ST hC e).1
  | .unpack _ e => unpackS (X_all ST hC e).1
  | .setattr o _ e => setattrS ST (X_all ST hC o).1 (X_all ST hC e).1
  | .decattr o _ e => decattrS ST (X_all ST hC o).1 (X_all ST hC e).1
  | .ret e => retS (X_all ST hC e).1
  | .ite t b o => iteS (X_all ST hC t).2 (Ss_all ST EX hC b) (Ss_all ST EX hC o)
  | .while_ t b => whileS (X_all ST hC t).2 (Ss_all ST EX hC b)
  | .for_ _ it b => forS (X_all ST hC it).1 (Ss_all ST EX hC b)
  | .cont => contS
  | .fail => failS
  | .special => specialS ST EX
private theorem Ss_all (ST : St c) (EX : Exk c) (hC : CallS c n C) : (x : Ss) → SsS c n C x
  | .nil => nilS
  | .cons s r => consS (S_all ST EX hC s) (Ss_all ST EX hC r)
end
noncomputable def Fns (c : Cx) : Prop := ∀ a fd,c.T.fn a = some fd → fd.body.sp = false ∧ ∃ fdata o body,FnOk c fd a fdata o body
private theorem callP_snd (ST : St c) (EX : Exk c) (F : Fns c) : ∀ n,CallS c n (callP c.T n)
  | 0 => by
    intro A f ds vs K H B env ρ s RR hA h r hv k
    simp only [callP] at h
  | n + 1 => by
    intro A f ds vs K H B env ρ s RR hA h r hv k
    simp only [callP] at h
    split at h
    · rename_i fd hfd
      split at h
      · rename_i ρ₁ hp
        obtain ⟨hsp,fdata,o,body,FO⟩ := F _ _ hfd
        exact call_ok ST FO hsp (Ss_all ST EX (callP_snd ST EX F n) fd.body) hA hp h r hv k
      · exact h.elim
    · exact h.elim
end
end Mine
end
section
namespace Mine
open PySem
noncomputable def b_is_blank : Ss := (.cons (.ret (.isin false (.loc 0) (.tuple (.cons (.str [9]) (.cons (.str [10]) (.cons (.str [12]) (.cons (.str [32]) (.nil)))))))) .nil)
noncomputable def fd_is_blank : FD := ⟨[0],[],b_is_blank⟩
noncomputable def b_is_upper : Ss := (.cons (.ret (.chain .le .le (.str [65]) (.loc 0) (.str [90]))) .nil)
noncomputable def fd_is_upper : FD := ⟨[0],[],b_is_upper⟩
noncomputable def b_is_letter : Ss := (.cons (.ret (.bop false (.cons (.chain .le .le (.str [97]) (.loc 0) (.str [122])) (.cons (.chain .le .le (.str [65]) (.loc 0) (.str [90])) (.nil))))) .nil)
noncomputable def fd_is_letter : FD := ⟨[0],[],b_is_letter⟩
noncomputable def b_lower : Ss := (.cons (.ite (.call (.glo 1) (.cons (.loc 0) (.nil))) (.cons (.ret (.chr (.bin .add (.ord (.loc 0)) (.int 32)))) .nil) .nil) (.cons (.ret (.loc 0)) .nil))
noncomputable def fd_lower : FD := ⟨[0],[],b_lower⟩
noncomputable def b_is_surrogate : Ss := (.cons (.ret (.chain .le .le (.int 55296) (.loc 2) (.int 57343))) .nil)
noncomputable def fd_is_surrogate : FD := ⟨[2],[],b_is_surrogate⟩
noncomputable def b_is_noncharacter : Ss := (.cons (.ret (.bop false (.cons (.chain .le .le (.int 64976) (.loc 2) (.int 65007)) (.cons (.bop true (.cons (.chain .le .le (.int 0) (.loc 2) (.int 1114111)) (.cons (.cmp .ge (.bin .mod (.loc 2) (.int 65536)) (.int 65534)) (.nil)))) (.nil))))) .nil)
noncomputable def fd_is_noncharacter : FD := ⟨[2],[],b_is_noncharacter⟩
noncomputable def b_is_control : Ss := (.cons (.ret (.bop false (.cons (.chain .le .le (.int 0) (.loc 2) (.int 31)) (.cons (.chain .le .le (.int 127) (.loc 2) (.int 159)) (.nil))))) .nil)
noncomputable def fd_is_control : FD := ⟨[2],[],b_is_control⟩
noncomputable def b_input_error : Ss := (.cons (.ite (.call (.glo 5) (.cons (.loc 2) (.nil))) (.cons (.ret (.str [115,117,114,114,111,103,97,116,101,45,105,110,45,105,110,112,117,116,45,115,116,114,101,97,109])) .nil) .nil) (.cons (.ite (.call (.glo 4) (.cons (.loc 2) (.nil))) (.cons (.ret (.str [110,111,110,99,104,97,114,97,99,116,101,114,45,105,110,45,105,110,112,117,116,45,115,116,114,101,97,109])) .nil) .nil) (.cons (.ite (.bop true (.cons (.call (.glo 3) (.cons (.loc 2) (.nil))) (.cons (.isin true (.loc 2) (.tuple (.cons (.int 0) (.cons (.int 9) (.cons (.int 10) (.cons (.int 12) (.cons (.int 13) (.nil)))))))) (.nil)))) (.cons (.ret (.str [99,111,110,116,114,111,108,45,99,104,97,114,97,99,116,101,114,45,105,110,45,105,110,112,117,116,45,115,116,114,101,97,109])) .nil) .nil) (.cons (.ret (.str [])) .nil))))
noncomputable def fd_input_error : FD := ⟨[2],[],b_input_error⟩
noncomputable def b_Stream_init : Ss := (.cons (.setattr (.loc 6) 10 (.list (.nil))) (.cons (.setattr (.loc 6) 9 (.bool false)) (.cons (.setattr (.loc 6) 8 (.bool false)) (.cons (.setattr (.loc 6) 7 (.list (.nil))) .nil))))
noncomputable def fd_Stream_init : FD := ⟨[6],[],b_Stream_init⟩
noncomputable def lp_Stream_feed_0 : Ss := (.cons (.ite (.cmp .eq (.loc 0) (.str [13])) (.cons (.expr (.append (.attr (.loc 6) 10) (.str [10]))) .nil) (.cons (.ite (.bop false (.cons (.cmp .ne (.loc 0) (.str [10])) (.cons (.not (.attr (.loc 6) 8)) (.nil)))) (.cons (.assign 12 (.call (.glo 13) (.cons (.ord (.loc 0)) (.nil)))) (.cons (.ite (.cmp .ne (.loc 12) (.str [])) (.cons (.expr (.append (.attr (.loc 6) 7) (.tuple (.cons (.loc 12) (.cons (.len (.attr (.loc 6) 10)) (.nil)))))) .nil) .nil) (.cons (.expr (.append (.attr (.loc 6) 10) (.loc 0))) .nil))) .nil) .nil)) (.cons (.setattr (.loc 6) 8 (.cmp .eq (.loc 0) (.str [13]))) .nil))
noncomputable def b_Stream_feed : Ss := (.cons (.ite (.attr (.loc 6) 9) (.cons .fail .nil) .nil) (.cons (.for_ 0 (.loc 11) lp_Stream_feed_0) .nil))
noncomputable def fd_Stream_feed : FD := ⟨[6,11],[],b_Stream_feed⟩
noncomputable def b_Stream_end : Ss := (.cons (.setattr (.loc 6) 9 (.bool true)) .nil)
noncomputable def fd_Stream_end : FD := ⟨[6],[],b_Stream_end⟩
noncomputable def b_Tokenizer_init : Ss := (.cons (.setattr (.loc 6) 14 (.loc 14)) (.cons (.setattr (.loc 6) 25 (.call (.glo 26) (.nil))) (.cons (.setattr (.loc 6) 24 (.int 0)) (.cons (.setattr (.loc 6) 15 (.loc 15)) (.cons (.setattr (.loc 6) 23 (.str [100,97,116,97])) (.cons (.setattr (.loc 6) 22 (.list (.nil))) (.cons (.setattr (.loc 6) 7 (.list (.nil))) (.cons (.setattr (.loc 6) 21 .none) (.cons (.setattr (.loc 6) 20 (.str [])) (.cons (.setattr (.loc 6) 12 (.int 0)) (.cons (.setattr (.loc 6) 16 (.loc 16)) (.cons (.setattr (.loc 6) 19 (.bool false)) (.cons (.setattr (.loc 6) 18 (.bool false)) (.cons (.setattr (.loc 6) 17 (.bool false)) .nil))))))))))))))
noncomputable def fd_Tokenizer_init : FD := ⟨[6,14,15,16],[],b_Tokenizer_init⟩
noncomputable def b_Tokenizer_feed : Ss := (.cons (.expr (.mcall (.attr (.loc 6) 25) 27 (.cons (.loc 11) (.nil)))) (.cons (.setattr (.loc 6) 18 (.bool false)) .nil))
noncomputable def fd_Tokenizer_feed : FD := ⟨[6,11],[],b_Tokenizer_feed⟩
noncomputable def b_Tokenizer_end : Ss := (.cons (.expr (.mcall (.attr (.loc 6) 25) 28 (.nil))) (.cons (.setattr (.loc 6) 18 (.bool false)) .nil))
noncomputable def fd_Tokenizer_end : FD := ⟨[6],[],b_Tokenizer_end⟩
noncomputable def b_Tokenizer_next : Ss := (.cons (.assign 24 (.attr (.loc 6) 24)) (.cons (.setattr (.loc 6) 24 (.bin .add (.loc 24) (.int 1))) (.cons (.ite (.cmp .lt (.loc 24) (.len (.attr (.attr (.loc 6) 25) 10))) (.cons (.ret (.sub (.attr (.attr (.loc 6) 25) 10) (.loc 24))) .nil) .nil) (.cons (.ret (.str [])) .nil))))
noncomputable def fd_Tokenizer_next : FD := ⟨[6],[],b_Tokenizer_next⟩
noncomputable def b_Tokenizer_to : Ss := (.cons (.setattr (.loc 6) 15 (.loc 15)) .nil)
noncomputable def fd_Tokenizer_to : FD := ⟨[6,15],[],b_Tokenizer_to⟩
noncomputable def b_Tokenizer_again : Ss := (.cons (.decattr (.loc 6) 24 (.int 1)) (.cons (.setattr (.loc 6) 15 (.loc 15)) .nil))
noncomputable def fd_Tokenizer_again : FD := ⟨[6,15],[],b_Tokenizer_again⟩
noncomputable def b_Tokenizer_error : Ss := (.cons (.expr (.append (.attr (.loc 6) 7) (.tuple (.cons (.loc 12) (.cons (.bin .sub (.attr (.loc 6) 24) (.int 1)) (.nil)))))) .nil)
noncomputable def fd_Tokenizer_error : FD := ⟨[6,12],[],b_Tokenizer_error⟩
noncomputable def b_Tokenizer_emit : Ss := (.cons (.ite (.cmp .eq (.sub (.loc 29) (.int 0)) (.str [115,116,97,114,116])) (.cons (.setattr (.loc 6) 16 (.sub (.loc 29) (.int 1))) .nil) .nil) (.cons (.expr (.append (.attr (.loc 6) 22) (.loc 29))) .nil))
noncomputable def fd_Tokenizer_emit : FD := ⟨[6,29],[],b_Tokenizer_emit⟩
noncomputable def b_Tokenizer_emit_sign : Ss := (.cons (.expr (.append (.attr (.loc 6) 22) (.tuple (.cons (.str [99,104,97,114]) (.cons (.loc 30) (.nil)))))) .nil)
noncomputable def fd_Tokenizer_emit_sign : FD := ⟨[6,30],[],b_Tokenizer_emit_sign⟩
noncomputable def lp_Tokenizer_emit_text_0 : Ss := (.cons (.expr (.append (.attr (.loc 6) 22) (.tuple (.cons (.str [99,104,97,114]) (.cons (.loc 30) (.nil)))))) .nil)
noncomputable def b_Tokenizer_emit_text : Ss := (.cons (.for_ 30 (.loc 11) lp_Tokenizer_emit_text_0) .nil)
noncomputable def fd_Tokenizer_emit_text : FD := ⟨[6,11],[],b_Tokenizer_emit_text⟩
noncomputable def b_Tokenizer_emit_draft : Ss := (.cons (.assign 21 (.attr (.loc 6) 21)) (.cons (.ite (.cmp .eq (.attr (.loc 21) 32) (.str [101,110,100])) (.cons (.ite (.cmp .gt (.len (.attr (.loc 21) 35)) (.int 0)) (.cons (.expr (.mcall (.loc 6) 34 (.cons (.str [101,110,100,45,116,97,103,45,119,105,116,104,45,97,116,116,114,105,98,117,116,101,115]) (.nil)))) .nil) .nil) (.cons (.ite (.attr (.loc 21) 33) (.cons (.expr (.mcall (.loc 6) 34 (.cons (.str [101,110,100,45,116,97,103,45,119,105,116,104,45,116,114,97,105,108,105,110,103,45,115,111,108,105,100,117,115]) (.nil)))) .nil) .nil) .nil)) .nil) (.cons (.setattr (.loc 6) 21 .none) (.cons (.expr (.mcall (.loc 6) 31 (.cons (.mcall (.loc 21) 29 (.nil)) (.nil)))) .nil))))
noncomputable def fd_Tokenizer_emit_draft : FD := ⟨[6],[],b_Tokenizer_emit_draft⟩
noncomputable def b_Tokenizer_emit_eof : Ss := (.cons (.expr (.append (.attr (.loc 6) 22) (.tuple (.cons (.str [101,111,102]) (.nil))))) (.cons (.setattr (.loc 6) 17 (.bool true)) .nil))
noncomputable def fd_Tokenizer_emit_eof : FD := ⟨[6],[],b_Tokenizer_emit_eof⟩
noncomputable def b_Tokenizer_is_apt : Ss := (.cons (.assign 21 (.attr (.loc 6) 21)) (.cons (.ite (.bop false (.cons (.cmp .is_ (.loc 21) .none) (.cons (.cmp .ne (.attr (.loc 21) 32) (.str [101,110,100])) (.nil)))) (.cons (.ret (.bool false)) .nil) .nil) (.cons (.ret (.bop true (.cons (.cmp .ne (.attr (.loc 6) 16) (.str [])) (.cons (.cmp .eq (.attr (.loc 21) 36) (.attr (.loc 6) 16)) (.nil))))) .nil)))
noncomputable def fd_Tokenizer_is_apt : FD := ⟨[6],[],b_Tokenizer_is_apt⟩
noncomputable def b_Tokenizer_step : Ss := (.cons (.ite (.isin true (.attr (.loc 6) 15) (.attr (.loc 6) 14)) (.cons .fail .nil) .nil) (.cons (.setattr (.loc 6) 18 (.bool false)) (.cons (.assign 37 (.attr (.loc 6) 24)) (.cons (.assign 38 (.sub (.attr (.loc 6) 14) (.attr (.loc 6) 15))) (.cons (.expr (.call (.loc 38) (.cons (.loc 6) (.nil)))) (.cons (.ite (.attr (.loc 6) 18) (.cons (.setattr (.loc 6) 24 (.loc 37)) .nil) .nil) .nil))))))
noncomputable def fd_Tokenizer_step : FD := ⟨[6],[],b_Tokenizer_step⟩
noncomputable def b_Tokenizer_is_ready : Ss := (.cons (.ite (.bop false (.cons (.attr (.loc 6) 17) (.cons (.attr (.loc 6) 18) (.cons (.isin true (.attr (.loc 6) 15) (.attr (.loc 6) 14)) (.nil))))) (.cons (.ret (.bool false)) .nil) .nil) (.cons (.ret (.bop false (.cons (.attr (.attr (.loc 6) 25) 9) (.cons (.cmp .lt (.attr (.loc 6) 24) (.len (.attr (.attr (.loc 6) 25) 10))) (.nil))))) .nil))
noncomputable def fd_Tokenizer_is_ready : FD := ⟨[6],[],b_Tokenizer_is_ready⟩
noncomputable def lt_Tokenizer_run_0 : X := (.mcall (.loc 6) 39 (.nil))
noncomputable def lp_Tokenizer_run_1 : Ss := (.cons (.expr (.mcall (.loc 6) 40 (.nil))) .nil)
noncomputable def b_Tokenizer_run : Ss := (.cons (.while_ lt_Tokenizer_run_0 lp_Tokenizer_run_1) (.cons (.ret (.attr (.loc 6) 17)) .nil))
noncomputable def fd_Tokenizer_run : FD := ⟨[6],[],b_Tokenizer_run⟩
noncomputable def b_Draft_init : Ss := (.cons (.setattr (.loc 6) 32 (.loc 32)) (.cons (.setattr (.loc 6) 36 (.loc 36)) (.cons (.setattr (.loc 6) 11 (.str [])) (.cons (.setattr (.loc 6) 43 .none) (.cons (.setattr (.loc 6) 42 .none) (.cons (.setattr (.loc 6) 41 (.bool false)) (.cons (.setattr (.loc 6) 33 (.bool false)) (.cons (.setattr (.loc 6) 35 (.list (.nil))) .nil))))))))
noncomputable def fd_Draft_init : FD := ⟨[6,32,36],[],b_Draft_init⟩
noncomputable def lp_Draft_token_0 : Ss := (.cons (.ite (.sub (.loc 45) (.int 2)) (.cons (.expr (.append (.loc 44) (.tuple (.cons (.sub (.loc 45) (.int 0)) (.cons (.sub (.loc 45) (.int 1)) (.nil)))))) .nil) .nil) .nil)
noncomputable def b_Draft_token : Ss := (.cons (.ite (.cmp .eq (.attr (.loc 6) 32) (.str [99,111,109,109,101,110,116])) (.cons (.ret (.tuple (.cons (.str [99,111,109,109,101,110,116]) (.cons (.attr (.loc 6) 11) (.nil))))) .nil) .nil) (.cons (.ite (.cmp .eq (.attr (.loc 6) 32) (.str [100,111,99,116,121,112,101])) (.cons (.ret (.tuple (.cons (.str [100,111,99,116,121,112,101]) (.cons (.attr (.loc 6) 36) (.cons (.attr (.loc 6) 43) (.cons (.attr (.loc 6) 42) (.cons (.attr (.loc 6) 41) (.nil)))))))) .nil) .nil) (.cons (.assign 44 (.list (.nil))) (.cons (.for_ 45 (.attr (.loc 6) 35) lp_Draft_token_0) (.cons (.ret (.tuple (.cons (.attr (.loc 6) 32) (.cons (.attr (.loc 6) 36) (.cons (.tupleOf (.loc 44)) (.cons (.attr (.loc 6) 33) (.nil))))))) .nil)))))
noncomputable def fd_Draft_token : FD := ⟨[6],[],b_Draft_token⟩
noncomputable def b_data_state : Ss := (.cons (.assign 0 (.mcall (.loc 46) 50 (.nil))) (.cons (.ite (.cmp .eq (.loc 0) (.str [])) (.cons (.expr (.mcall (.loc 46) 47 (.nil))) .nil) (.cons (.ite (.cmp .eq (.loc 0) (.str [38])) (.cons (.setattr (.loc 46) 23 (.str [100,97,116,97])) (.cons (.expr (.mcall (.loc 46) 48 (.cons (.str [99,104,97,114,97,99,116,101,114,32,114,101,102,101,114,101,110,99,101]) (.nil)))) .nil)) (.cons (.ite (.cmp .eq (.loc 0) (.str [60])) (.cons (.expr (.mcall (.loc 46) 48 (.cons (.str [116,97,103,32,111,112,101,110]) (.nil)))) .nil) (.cons (.ite (.cmp .eq (.loc 0) (.str [0])) (.cons (.expr (.mcall (.loc 46) 34 (.cons (.str [117,110,101,120,112,101,99,116,101,100,45,110,117,108,108,45,99,104,97,114,97,99,116,101,114]) (.nil)))) .nil) .nil) (.cons (.expr (.mcall (.loc 46) 49 (.cons (.loc 0) (.nil)))) .nil))) .nil)) .nil)) .nil))
noncomputable def fd_data_state : FD := ⟨[46],[],b_data_state⟩
noncomputable def b_held_text : Ss := (.cons (.assign 0 (.mcall (.loc 46) 50 (.nil))) (.cons (.ite (.cmp .eq (.loc 0) (.str [])) (.cons (.expr (.mcall (.loc 46) 47 (.nil))) .nil) (.cons (.ite (.bop true (.cons (.cmp .eq (.loc 0) (.str [38])) (.cons (.cmp .eq (.loc 32) (.str [82,67,68,65,84,65])) (.nil)))) (.cons (.setattr (.loc 46) 23 (.loc 32)) (.cons (.expr (.mcall (.loc 46) 48 (.cons (.str [99,104,97,114,97,99,116,101,114,32,114,101,102,101,114,101,110,99,101]) (.nil)))) .nil)) (.cons (.ite (.bop true (.cons (.cmp .eq (.loc 0) (.str [60])) (.cons (.cmp .ne (.loc 32) (.str [80,76,65,73,78,84,69,88,84])) (.nil)))) (.cons (.expr (.mcall (.loc 46) 48 (.cons (.bin .add (.loc 32) (.str [32,108,101,115,115,45,116,104,97,110,32,115,105,103,110])) (.nil)))) .nil) (.cons (.ite (.cmp .eq (.loc 0) (.str [0])) (.cons (.expr (.mcall (.loc 46) 34 (.cons (.str [117,110,101,120,112,101,99,116,101,100,45,110,117,108,108,45,99,104,97,114,97,99,116,101,114]) (.nil)))) (.cons (.expr (.mcall (.loc 46) 49 (.cons (.str [65533]) (.nil)))) .nil)) (.cons (.expr (.mcall (.loc 46) 49 (.cons (.loc 0) (.nil)))) .nil)) .nil)) .nil)) .nil)) .nil))
noncomputable def fd_held_text : FD := ⟨[46,32],[],b_held_text⟩
noncomputable def b_less_than : Ss := (.cons (.assign 0 (.mcall (.loc 46) 50 (.nil))) (.cons (.ite (.cmp .eq (.loc 0) (.str [47])) (.cons (.setattr (.loc 46) 20 (.str [])) (.cons (.expr (.mcall (.loc 46) 48 (.cons (.bin .add (.loc 32) (.str [32,101,110,100,32,116,97,103,32,111,112,101,110])) (.nil)))) .nil)) (.cons (.ite (.bop true (.cons (.cmp .eq (.loc 0) (.str [33])) (.cons (.cmp .eq (.loc 32) (.str [115,99,114,105,112,116,32,100,97,116,97])) (.nil)))) (.cons (.expr (.mcall (.loc 46) 48 (.cons (.str [115,99,114,105,112,116,32,100,97,116,97,32,101,115,99,97,112,101,32,115,116,97,114,116]) (.nil)))) (.cons (.expr (.mcall (.loc 46) 51 (.cons (.str [60,33]) (.nil)))) .nil)) (.cons (.expr (.mcall (.loc 46) 49 (.cons (.str [60]) (.nil)))) (.cons (.expr (.mcall (.loc 46) 52 (.cons (.loc 32) (.nil)))) .nil))) .nil)) .nil))
noncomputable def fd_less_than : FD := ⟨[46,32],[],b_less_than⟩
noncomputable def b_end_tag_open : Ss := (.cons (.assign 0 (.mcall (.loc 46) 50 (.nil))) (.cons (.ite (.call (.glo 53) (.cons (.loc 0) (.nil))) (.cons (.setattr (.loc 46) 21 (.call (.glo 54) (.cons (.str [101,110,100]) (.cons (.str []) (.nil))))) (.cons (.expr (.mcall (.loc 46) 52 (.cons (.bin .add (.loc 32) (.str [32,101,110,100,32,116,97,103,32,110,97,109,101])) (.nil)))) .nil)) (.cons (.expr (.mcall (.loc 46) 51 (.cons (.str [60,47]) (.nil)))) (.cons (.expr (.mcall (.loc 46) 52 (.cons (.loc 32) (.nil)))) .nil))) .nil))
noncomputable def fd_end_tag_open : FD := ⟨[46,32],[],b_end_tag_open⟩
noncomputable def b_end_tag_name : Ss := (.cons (.assign 0 (.mcall (.loc 46) 50 (.nil))) (.cons (.ite (.call (.glo 53) (.cons (.loc 0) (.nil))) (.cons (.setattr (.attr (.loc 46) 21) 36 (.bin .add (.attr (.attr (.loc 46) 21) 36) (.call (.glo 58) (.cons (.loc 0) (.nil))))) (.cons (.setattr (.loc 46) 20 (.bin .add (.attr (.loc 46) 20) (.loc 0))) (.cons (.ret .none) .nil))) .nil) (.cons (.ite (.mcall (.loc 46) 55 (.nil)) (.cons (.ite (.call (.glo 57) (.cons (.loc 0) (.nil))) (.cons (.expr (.mcall (.loc 46) 48 (.cons (.str [98,101,102,111,114,101,32,97,116,116,114,105,98,117,116,101,32,110,97,109,101]) (.nil)))) (.cons (.ret .none) .nil)) .nil) (.cons (.ite (.cmp .eq (.loc 0) (.str [47])) (.cons (.expr (.mcall (.loc 46) 48 (.cons (.str [115,101,108,102,45,99,108,111,115,105,110,103,32,115,116,97,114,116,32,116,97,103]) (.nil)))) (.cons (.ret .none) .nil)) .nil) (.cons (.ite (.cmp .eq (.loc 0) (.str [62])) (.cons (.expr (.mcall (.loc 46) 48 (.cons (.str [100,97,116,97]) (.nil)))) (.cons (.expr (.mcall (.loc 46) 56 (.nil))) (.cons (.ret .none) .nil))) .nil) .nil))) .nil) (.cons (.expr (.mcall (.loc 46) 51 (.cons (.bin .add (.str [60,47]) (.attr (.loc 46) 20)) (.nil)))) (.cons (.expr (.mcall (.loc 46) 52 (.cons (.loc 32) (.nil)))) .nil)))))
noncomputable def fd_end_tag_name : FD := ⟨[46,32],[],b_end_tag_name⟩
noncomputable def b_rcdata_state : Ss := (.cons (.expr (.call (.glo 59) (.cons (.loc 46) (.cons (.str [82,67,68,65,84,65]) (.nil))))) .nil)
noncomputable def fd_rcdata_state : FD := ⟨[46],[],b_rcdata_state⟩
noncomputable def b_rcdata_less_than : Ss := (.cons (.expr (.call (.glo 60) (.cons (.loc 46) (.cons (.str [82,67,68,65,84,65]) (.nil))))) .nil)
noncomputable def fd_rcdata_less_than : FD := ⟨[46],[],b_rcdata_less_than⟩
noncomputable def b_rcdata_end_tag_open : Ss := (.cons (.expr (.call (.glo 61) (.cons (.loc 46) (.cons (.str [82,67,68,65,84,65]) (.nil))))) .nil)
noncomputable def fd_rcdata_end_tag_open : FD := ⟨[46],[],b_rcdata_end_tag_open⟩
noncomputable def b_rcdata_end_tag_name : Ss := (.cons (.expr (.call (.glo 62) (.cons (.loc 46) (.cons (.str [82,67,68,65,84,65]) (.nil))))) .nil)
noncomputable def fd_rcdata_end_tag_name : FD := ⟨[46],[],b_rcdata_end_tag_name⟩
noncomputable def b_rawtext_state : Ss := (.cons (.expr (.call (.glo 59) (.cons (.loc 46) (.cons (.str [82,65,87,84,69,88,84]) (.nil))))) .nil)
noncomputable def fd_rawtext_state : FD := ⟨[46],[],b_rawtext_state⟩
noncomputable def b_rawtext_less_than : Ss := (.cons (.expr (.call (.glo 60) (.cons (.loc 46) (.cons (.str [82,65,87,84,69,88,84]) (.nil))))) .nil)
noncomputable def fd_rawtext_less_than : FD := ⟨[46],[],b_rawtext_less_than⟩
noncomputable def b_rawtext_end_tag_open : Ss := (.cons (.expr (.call (.glo 61) (.cons (.loc 46) (.cons (.str [82,65,87,84,69,88,84]) (.nil))))) .nil)
noncomputable def fd_rawtext_end_tag_open : FD := ⟨[46],[],b_rawtext_end_tag_open⟩
noncomputable def b_rawtext_end_tag_name : Ss := (.cons (.expr (.call (.glo 62) (.cons (.loc 46) (.cons (.str [82,65,87,84,69,88,84]) (.nil))))) .nil)
noncomputable def fd_rawtext_end_tag_name : FD := ⟨[46],[],b_rawtext_end_tag_name⟩
noncomputable def b_script_state : Ss := (.cons (.expr (.call (.glo 59) (.cons (.loc 46) (.cons (.str [115,99,114,105,112,116,32,100,97,116,97]) (.nil))))) .nil)
noncomputable def fd_script_state : FD := ⟨[46],[],b_script_state⟩
noncomputable def b_script_less_than : Ss := (.cons (.expr (.call (.glo 60) (.cons (.loc 46) (.cons (.str [115,99,114,105,112,116,32,100,97,116,97]) (.nil))))) .nil)
noncomputable def fd_script_less_than : FD := ⟨[46],[],b_script_less_than⟩
noncomputable def b_script_end_tag_open : Ss := (.cons (.expr (.call (.glo 61) (.cons (.loc 46) (.cons (.str [115,99,114,105,112,116,32,100,97,116,97]) (.nil))))) .nil)
noncomputable def fd_script_end_tag_open : FD := ⟨[46],[],b_script_end_tag_open⟩
noncomputable def b_script_end_tag_name : Ss := (.cons (.expr (.call (.glo 62) (.cons (.loc 46) (.cons (.str [115,99,114,105,112,116,32,100,97,116,97]) (.nil))))) .nil)
noncomputable def fd_script_end_tag_name : FD := ⟨[46],[],b_script_end_tag_name⟩
noncomputable def b_plaintext_state : Ss := (.cons (.expr (.call (.glo 59) (.cons (.loc 46) (.cons (.str [80,76,65,73,78,84,69,88,84]) (.nil))))) .nil)
noncomputable def fd_plaintext_state : FD := ⟨[46],[],b_plaintext_state⟩
noncomputable def b_rcdata_states : Ss := (.cons (.ret (.dict [[82,67,68,65,84,65],[82,67,68,65,84,65,32,108,101,115,115,45,116,104,97,110,32,115,105,103,110],[82,67,68,65,84,65,32,101,110,100,32,116,97,103,32,111,112,101,110],[82,67,68,65,84,65,32,101,110,100,32,116,97,103,32,110,97,109,101]] (.cons (.glo 63) (.cons (.glo 64) (.cons (.glo 65) (.cons (.glo 66) (.nil))))))) .nil)
noncomputable def fd_rcdata_states : FD := ⟨[],[],b_rcdata_states⟩
noncomputable def b_rawtext_states : Ss := (.cons (.ret (.dict [[82,65,87,84,69,88,84],[82,65,87,84,69,88,84,32,108,101,115,115,45,116,104,97,110,32,115,105,103,110],[82,65,87,84,69,88,84,32,101,110,100,32,116,97,103,32,111,112,101,110],[82,65,87,84,69,88,84,32,101,110,100,32,116,97,103,32,110,97,109,101]] (.cons (.glo 67) (.cons (.glo 68) (.cons (.glo 69) (.cons (.glo 70) (.nil))))))) .nil)
noncomputable def fd_rawtext_states : FD := ⟨[],[],b_rawtext_states⟩
noncomputable def b_text_states : Ss := (.cons (.assign 14 (.dict [[100,97,116,97],[115,99,114,105,112,116,32,100,97,116,97],[115,99,114,105,112,116,32,100,97,116,97,32,108,101,115,115,45,116,104,97,110,32,115,105,103,110],[115,99,114,105,112,116,32,100,97,116,97,32,101,110,100,32,116,97,103,32,111,112,101,110],[115,99,114,105,112,116,32,100,97,116,97,32,101,110,100,32,116,97,103,32,110,97,109,101],[80,76,65,73,78,84,69,88,84]] (.cons (.glo 73) (.cons (.glo 74) (.cons (.glo 75) (.cons (.glo 76) (.cons (.glo 77) (.cons (.glo 78) (.nil))))))))) (.cons (.expr (.update (.loc 14) (.call (.glo 72) (.nil)))) (.cons (.expr (.update (.loc 14) (.call (.glo 71) (.nil)))) (.cons (.ret (.loc 14)) .nil))))
noncomputable def fd_text_states : FD := ⟨[],[],b_text_states⟩
noncomputable def b_law_digit : Ss := (.cons (.ret (.ite (.cmp .lt (.loc 80) (.len (.loc 79))) (.sub (.loc 79) (.loc 80)) (.int 0))) .nil)
noncomputable def fd_law_digit : FD := ⟨[79,80],[],b_law_digit⟩
noncomputable def lp_law_text_0 : Ss := (.cons (.assign 82 (.bin .add (.call (.glo 86) (.cons (.loc 79) (.cons (.bin .add (.loc 81) (.int 2)) (.nil)))) (.sub (.loc 87) (.loc 81)))) (.cons (.ite (.cmp .lt (.bin .mod (.loc 82) (.loc 83)) (.len (.loc 84))) (.cons (.assign 11 (.bin .add (.loc 11) (.sub (.loc 84) (.bin .mod (.loc 82) (.loc 83))))) .nil) (.cons (.assign 85 (.bin .mod (.bin .fdiv (.loc 82) (.loc 83)) (.int 1114112))) (.cons (.assign 11 (.bin .add (.loc 11) (.chr (.ite (.cmp .eq (.loc 85) (.int 13)) (.int 10) (.loc 85))))) .nil))) .nil))
noncomputable def b_law_text : Ss := (.cons (.assign 84 (.list (.cons (.str [97]) (.cons (.str [60,47,84,65]) (.cons (.str [62]) (.cons (.str [60,47,116]) (.cons (.str [0]) (.cons (.str [60]) (.cons (.str [47]) (.cons (.str [33]) (.cons (.str [38]) (.cons (.str [32]) (.cons (.str [10]) (.cons (.str [12]) (.cons (.str [9]) (.cons (.str [60,47]) (.cons (.str [60,47,116,65,62]) (.nil)))))))))))))))))) (.cons (.assign 84 (.bin .add (.loc 84) (.list (.cons (.str [122]) (.cons (.str [90]) (.cons (.str [65]) (.cons (.str [84]) (.cons (.str [91]) (.cons (.str [96]) (.cons (.str [123]) (.cons (.str [64]) (.cons (.str [45]) (.cons (.str []) (.nil)))))))))))))) (.cons (.assign 87 (.list (.cons (.int 3) (.cons (.int 17) (.cons (.int 0) (.cons (.int 4) (.cons (.int 14) (.cons (.int 0) (.cons (.int 4) (.cons (.int 5) (.cons (.int 6) (.cons (.int 0) (.cons (.int 2) (.cons (.int 9) (.nil))))))))))))))) (.cons (.assign 83 (.bin .add (.len (.loc 84)) (.int 1))) (.cons (.assign 11 (.str [])) (.cons (.for_ 81 (.range1 (.int 12)) lp_law_text_0) (.cons (.ret (.slice (.loc 11) .none (.int 14))) .nil)))))))
noncomputable def fd_law_text : FD := ⟨[79],[],b_law_text⟩
noncomputable def lt_law_run_0 : X := (.bop true (.cons (.cmp .lt (.loc 28) (.len (.loc 11))) (.cons (.isin false (.sub (.loc 11) (.loc 28)) (.str [97,98,99,100,101,102,103,104,105,106,107,108,109,110,111,112,113,114,115,116,117,118,119,120,121,122,65,66,67,68,69,70,71,72,73,74,75,76,77,78,79,80,81,82,83,84,85,86,87,88,89,90])) (.nil))))
noncomputable def lp_law_run_1 : Ss := (.cons (.assign 28 (.bin .add (.loc 28) (.int 1))) .nil)
noncomputable def b_law_run : Ss := (.cons (.assign 28 (.loc 24)) (.cons (.while_ lt_law_run_0 lp_law_run_1) (.cons (.ret (.slice (.loc 11) (.loc 24) (.loc 28))) .nil)))
noncomputable def fd_law_run : FD := ⟨[11,24],[],b_law_run⟩
noncomputable def ce_law_fold_0 : X := (.ite (.cmp .lt (.loc 89) (.str [97])) (.chr (.bin .add (.ord (.loc 89)) (.int 32))) (.loc 89))
noncomputable def b_law_fold : Ss := (.cons (.ret (.join (.str []) (.comp ce_law_fold_0 (.one 89) [] (.loc 88)))) .nil)
noncomputable def fd_law_fold : FD := ⟨[88],[],b_law_fold⟩
noncomputable def b_law_behind : Ss := (.cons (.ite (.cmp .eq (.loc 30) (.str [62])) (.cons (.ret (.str [100,97,116,97])) .nil) .nil) (.cons (.ite (.cmp .eq (.loc 30) (.str [47])) (.cons (.ret (.str [115,101,108,102,45,99,108,111,115,105,110,103,32,115,116,97,114,116,32,116,97,103])) .nil) .nil) (.cons (.ret (.ite (.isin false (.loc 30) (.list (.cons (.str [32]) (.cons (.str [10]) (.cons (.str [9]) (.cons (.str [12]) (.nil))))))) (.str [98,101,102,111,114,101,32,97,116,116,114,105,98,117,116,101,32,110,97,109,101]) (.str []))) .nil)))
noncomputable def fd_law_behind : FD := ⟨[30],[],b_law_behind⟩
noncomputable def lp_law_stop_0 : Ss := (.cons (.ite (.bop true (.cons (.cmp .eq (.sub (.loc 11) (.loc 90)) (.str [38])) (.cons (.isin false (.loc 32) (.list (.cons (.str [100,97,116,97]) (.cons (.str [82,67,68,65,84,65]) (.nil))))) (.nil)))) (.cons (.ret (.tuple (.cons (.loc 90) (.cons (.bin .add (.loc 90) (.int 1)) (.cons (.str [99,104,97,114,97,99,116,101,114,32,114,101,102,101,114,101,110,99,101]) (.nil)))))) .nil) .nil) (.cons (.ite (.bop false (.cons (.cmp .ne (.sub (.loc 11) (.loc 90)) (.str [60])) (.cons (.cmp .eq (.loc 32) (.str [80,76,65,73,78,84,69,88,84])) (.nil)))) (.cons .cont .nil) .nil) (.cons (.ite (.cmp .eq (.loc 32) (.str [100,97,116,97])) (.cons (.ret (.tuple (.cons (.loc 90) (.cons (.bin .add (.loc 90) (.int 1)) (.cons (.str [116,97,103,32,111,112,101,110]) (.nil)))))) .nil) .nil) (.cons (.ite (.bop true (.cons (.cmp .eq (.loc 32) (.str [115,99,114,105,112,116,32,100,97,116,97])) (.cons (.cmp .eq (.slice (.loc 11) (.bin .add (.loc 90) (.int 1)) (.bin .add (.loc 90) (.int 2))) (.str [33])) (.nil)))) (.cons (.ret (.tuple (.cons (.bin .add (.loc 90) (.int 2)) (.cons (.bin .add (.loc 90) (.int 2)) (.cons (.str [115,99,114,105,112,116,32,100,97,116,97,32,101,115,99,97,112,101,32,115,116,97,114,116]) (.nil)))))) .nil) .nil) (.cons (.ite (.cmp .eq (.slice (.loc 11) (.bin .add (.loc 90) (.int 1)) (.bin .add (.loc 90) (.int 2))) (.str [47])) (.cons (.assign 91 (.call (.glo 94) (.cons (.loc 11) (.cons (.bin .add (.loc 90) (.int 2)) (.nil))))) (.cons (.assign 28 (.bin .add (.bin .add (.loc 90) (.int 2)) (.len (.loc 91)))) (.cons (.ite (.bop true (.cons (.cmp .ne (.loc 91) (.str [])) (.cons (.cmp .eq (.call (.glo 92) (.cons (.loc 91) (.nil))) (.loc 16)) (.cons (.cmp .ne (.call (.glo 93) (.cons (.slice (.loc 11) (.loc 28) (.bin .add (.loc 28) (.int 1))) (.nil))) (.str [])) (.nil))))) (.cons (.ret (.tuple (.cons (.loc 90) (.cons (.bin .add (.loc 28) (.int 1)) (.cons (.call (.glo 93) (.cons (.sub (.loc 11) (.loc 28)) (.nil))) (.nil)))))) .nil) .nil) .nil))) .nil) .nil)))))
noncomputable def b_law_stop : Ss := (.cons (.for_ 90 (.range1 (.len (.loc 11))) lp_law_stop_0) (.cons (.ret (.tuple (.cons (.neg (.int 1)) (.cons (.neg (.int 1)) (.cons (.str []) (.nil)))))) .nil))
noncomputable def fd_law_stop : FD := ⟨[11,32,16],[],b_law_stop⟩
noncomputable def lp_law_tail_0 : Ss := (.cons (.ite (.cmp .eq (.slice (.loc 11) (.loc 90) (.bin .add (.loc 90) (.int 2))) (.str [60,47])) (.cons (.assign 91 (.call (.glo 94) (.cons (.loc 11) (.cons (.bin .add (.loc 90) (.int 2)) (.nil))))) (.cons (.ite (.cmp .eq (.bin .add (.bin .add (.loc 90) (.int 2)) (.len (.loc 91))) (.len (.loc 11))) (.cons (.ret (.tuple (.cons (.bin .add (.int 2) (.len (.loc 91))) (.cons (.bin .add (.loc 32) (.ite (.cmp .eq (.loc 91) (.str [])) (.str [32,101,110,100,32,116,97,103,32,111,112,101,110]) (.str [32,101,110,100,32,116,97,103,32,110,97,109,101]))) (.nil))))) .nil) .nil) .nil)) .nil) .nil)
noncomputable def b_law_tail : Ss := (.cons (.ite (.isin false (.loc 32) (.list (.cons (.str [100,97,116,97]) (.cons (.str [80,76,65,73,78,84,69,88,84]) (.nil))))) (.cons (.ret (.tuple (.cons (.int 0) (.cons (.loc 32) (.nil))))) .nil) .nil) (.cons (.ite (.cmp .eq (.slice (.loc 11) (.neg (.int 1)) .none) (.str [60])) (.cons (.ret (.tuple (.cons (.int 1) (.cons (.bin .add (.loc 32) (.str [32,108,101,115,115,45,116,104,97,110,32,115,105,103,110])) (.nil))))) .nil) .nil) (.cons (.for_ 90 (.range1 (.len (.loc 11))) lp_law_tail_0) (.cons (.ret (.tuple (.cons (.int 0) (.cons (.loc 32) (.nil))))) .nil))))
noncomputable def fd_law_tail : FD := ⟨[11,32],[],b_law_tail⟩
noncomputable def lp_law_told_0 : Ss := (.cons (.ite (.cmp .eq (.sub (.loc 11) (.loc 90)) (.str [0])) (.cons (.expr (.append (.loc 7) (.tuple (.cons (.str [117,110,101,120,112,101,99,116,101,100,45,110,117,108,108,45,99,104,97,114,97,99,116,101,114]) (.cons (.loc 90) (.nil)))))) .nil) .nil) (.cons (.expr (.append (.loc 22) (.tuple (.cons (.str [99,104,97,114]) (.cons (.ite (.bop true (.cons (.cmp .eq (.sub (.loc 11) (.loc 90)) (.str [0])) (.cons (.cmp .ne (.loc 32) (.str [100,97,116,97])) (.nil)))) (.str [65533]) (.sub (.loc 11) (.loc 90))) (.nil)))))) .nil))
noncomputable def b_law_told : Ss := (.cons (.assign 22 (.list (.nil))) (.cons (.assign 7 (.list (.nil))) (.cons (.for_ 90 (.range1 (.len (.loc 11))) lp_law_told_0) (.cons (.ret (.tuple (.cons (.loc 22) (.cons (.loc 7) (.nil))))) .nil))))
noncomputable def fd_law_told : FD := ⟨[11,32],[],b_law_told⟩
noncomputable def lp_law_left_0 : Ss := (.cons (.ite (.cmp .eq (.slice (.loc 11) (.loc 90) (.bin .add (.loc 90) (.int 2))) (.str [60,47])) (.cons (.assign 20 (.call (.glo 94) (.cons (.loc 11) (.cons (.bin .add (.loc 90) (.int 2)) (.nil))))) (.cons (.ite (.cmp .ne (.loc 20) (.str [])) (.cons (.assign 21 (.tuple (.cons (.str [101,110,100]) (.cons (.call (.glo 92) (.cons (.loc 20) (.nil))) (.cons (.tuple (.nil)) (.cons (.bool false) (.nil))))))) .nil) .nil) .nil)) .nil) .nil)
noncomputable def b_law_left : Ss := (.cons (.assign 20 (.str [])) (.cons (.assign 21 .none) (.cons (.ite (.isin false (.loc 32) (.list (.cons (.str [100,97,116,97]) (.cons (.str [80,76,65,73,78,84,69,88,84]) (.nil))))) (.cons (.ret (.tuple (.cons (.loc 20) (.cons (.loc 21) (.nil))))) .nil) .nil) (.cons (.for_ 90 (.range1 (.len (.loc 11))) lp_law_left_0) (.cons (.ret (.tuple (.cons (.loc 20) (.cons (.loc 21) (.nil))))) .nil)))))
noncomputable def fd_law_left : FD := ⟨[11,32],[],b_law_left⟩
noncomputable def ce_law_due_0 : X := (.tuple (.cons (.loc 12) (.cons (.bin .add (.cel 24) (.loc 80)) (.nil))))
noncomputable def b_law_due : Ss := (.cons (.unpack [(false,83),(true,24),(false,15)] (.call (.glo 102) (.cons (.loc 11) (.cons (.loc 32) (.cons (.loc 16) (.nil)))))) (.cons (.ite (.cmp .ge (.loc 83) (.int 0)) (.cons (.unpack [(false,22),(false,7)] (.call (.glo 96) (.cons (.slice (.loc 11) .none (.loc 83)) (.cons (.loc 32) (.nil))))) (.cons (.unpack [(false,20),(false,21)] (.call (.glo 99) (.cons (.slice (.loc 11) .none (.cel 24)) (.cons (.loc 32) (.nil))))) (.cons (.ite (.cmp .eq (.loc 15) (.str [100,97,116,97])) (.cons (.expr (.append (.loc 22) (.tuple (.cons (.str [101,110,100]) (.cons (.loc 16) (.cons (.tuple (.nil)) (.cons (.bool false) (.nil)))))))) (.cons (.assign 100 (.call (.glo 101) (.cons (.slice (.loc 11) (.cel 24) .none) (.cons (.str [100,97,116,97]) (.cons (.loc 16) (.cons (.loc 95) (.nil))))))) (.cons (.assign 7 (.bin .add (.loc 7) (.comp ce_law_due_0 (.two 12 80) [24] (.sub (.loc 100) (.int 1))))) (.cons (.ret (.tuple (.cons (.bin .add (.loc 22) (.sub (.loc 100) (.int 0))) (.cons (.loc 7) (.cons (.bin .add (.cel 24) (.sub (.loc 100) (.int 2))) (.cons (.sub (.loc 100) (.int 3)) (.cons (.loc 20) (.cons (.sub (.loc 100) (.int 5)) (.cons (.sub (.loc 100) (.int 6)) (.cons .none (.cons (.bool false) (.nil)))))))))))) .nil)))) .nil) (.cons (.assign 23 (.ite (.cmp .eq (.loc 15) (.str [99,104,97,114,97,99,116,101,114,32,114,101,102,101,114,101,110,99,101])) (.loc 32) (.str [100,97,116,97]))) (.cons (.ret (.tuple (.cons (.loc 22) (.cons (.loc 7) (.cons (.cel 24) (.cons (.loc 15) (.cons (.loc 20) (.cons (.loc 23) (.cons (.bool false) (.cons (.loc 21) (.cons (.bop true (.cons (.cmp .isnot (.loc 21) .none) (.cons (.cmp .eq (.sub (.loc 21) (.int 1)) (.loc 16)) (.nil)))) (.nil)))))))))))) .nil))))) .nil) (.cons (.unpack [(false,20),(false,21)] (.call (.glo 99) (.cons (.loc 11) (.cons (.loc 32) (.nil))))) (.cons (.assign 55 (.bop true (.cons (.cmp .isnot (.loc 21) .none) (.cons (.cmp .eq (.sub (.loc 21) (.int 1)) (.loc 16)) (.nil))))) (.cons (.ite (.loc 95) (.cons (.unpack [(false,22),(false,7)] (.call (.glo 96) (.cons (.loc 11) (.cons (.loc 32) (.nil))))) (.cons (.expr (.append (.loc 22) (.tuple (.cons (.str [101,111,102]) (.nil))))) (.cons (.ret (.tuple (.cons (.loc 22) (.cons (.loc 7) (.cons (.bin .add (.len (.loc 11)) (.int 1)) (.cons (.loc 32) (.cons (.loc 20) (.cons (.str [100,97,116,97]) (.cons (.bool true) (.cons (.loc 21) (.cons (.loc 55) (.nil)))))))))))) .nil))) .nil) (.cons (.unpack [(false,97),(false,15)] (.call (.glo 98) (.cons (.loc 11) (.cons (.loc 32) (.nil))))) (.cons (.unpack [(false,22),(false,7)] (.call (.glo 96) (.cons (.slice (.loc 11) .none (.bin .sub (.len (.loc 11)) (.loc 97))) (.cons (.loc 32) (.nil))))) (.cons (.ret (.tuple (.cons (.loc 22) (.cons (.loc 7) (.cons (.len (.loc 11)) (.cons (.loc 15) (.cons (.loc 20) (.cons (.str [100,97,116,97]) (.cons (.bool false) (.cons (.loc 21) (.cons (.loc 55) (.nil)))))))))))) .nil))))))))
noncomputable def fd_law_due : FD := ⟨[11,32,16,95],[24],b_law_due⟩
noncomputable def b_law_seen : Ss := (.cons (.assign 21 (.ite (.cmp .is_ (.attr (.loc 46) 21) .none) .none (.mcall (.attr (.loc 46) 21) 29 (.nil)))) (.cons (.ret (.tuple (.cons (.attr (.loc 46) 22) (.cons (.attr (.loc 46) 7) (.cons (.attr (.loc 46) 24) (.cons (.attr (.loc 46) 15) (.cons (.attr (.loc 46) 20) (.cons (.attr (.loc 46) 23) (.cons (.attr (.loc 46) 17) (.cons (.loc 21) (.cons (.mcall (.loc 46) 55 (.nil)) (.nil)))))))))))) .nil))
noncomputable def fd_law_seen : FD := ⟨[46],[],b_law_seen⟩
noncomputable def lp_law_0 : Ss := (.cons (.expr (.mcall (.loc 46) 27 (.cons (.slice (.cel 11) (.loc 37) (.loc 80)) (.nil)))) (.cons (.assign 37 (.loc 80)) (.cons (.ite (.bop false (.cons (.mcall (.loc 46) 91 (.nil)) (.cons (.cmp .ne (.call (.glo 108) (.cons (.loc 46) (.nil))) (.sub (.loc 109) (.loc 80))) (.nil)))) (.cons (.ret (.bool false)) .nil) .nil) .nil)))
noncomputable def lp_law_1 : Ss := (.cons (.assign 46 (.call (.glo 110) (.cons (.call (.glo 111) (.nil)) (.cons (.cel 32) (.cons (.cel 16) (.nil)))))) (.cons (.ite (.cmp .ne (.call (.glo 108) (.cons (.loc 46) (.nil))) (.sub (.loc 109) (.int 0))) (.cons (.ret (.bool false)) .nil) .nil) (.cons (.assign 37 (.int 0)) (.cons (.for_ 80 (.loc 103) lp_law_0) (.cons (.expr (.mcall (.loc 46) 28 (.nil))) (.cons (.ite (.bop false (.cons (.cmp .ne (.mcall (.loc 46) 91 (.nil)) (.sub (.loc 106) (.int 6))) (.cons (.cmp .ne (.call (.glo 108) (.cons (.loc 46) (.nil))) (.loc 106)) (.cons (.cmp .ne (.attr (.attr (.loc 46) 25) 10) (.listOf (.cel 11))) (.nil))))) (.cons (.ret (.bool false)) .nil) .nil) (.cons (.ite (.not (.sub (.loc 106) (.int 6))) (.cons (.assign 107 (.str [])) (.cons .special (.cons (.ite (.bop false (.cons (.cmp .ne (.loc 107) (.str [110,111,32,115,117,99,104,32,115,116,97,116,101])) (.cons (.cmp .ne (.call (.glo 108) (.cons (.loc 46) (.nil))) (.loc 106)) (.nil)))) (.cons (.ret (.bool false)) .nil) .nil) .nil))) .nil) .nil)))))))
noncomputable def ce_law_2 : X := (.call (.glo 101) (.cons (.slice (.cel 11) .none (.loc 81)) (.cons (.cel 32) (.cons (.cel 16) (.cons (.bool false) (.nil))))))
noncomputable def b_law : Ss := (.cons (.assign 82 (.call (.glo 86) (.cons (.loc 79) (.cons (.int 0) (.nil))))) (.cons (.assignC 32 (.sub (.list (.cons (.str [100,97,116,97]) (.cons (.str [82,67,68,65,84,65]) (.cons (.str [82,65,87,84,69,88,84]) (.cons (.str [115,99,114,105,112,116,32,100,97,116,97]) (.cons (.str [80,76,65,73,78,84,69,88,84]) (.nil))))))) (.bin .mod (.bin .add (.loc 82) (.int 1)) (.int 5)))) (.cons (.assignC 16 (.sub (.list (.cons (.str [116,97]) (.cons (.str [97]) (.cons (.str [116,97,122]) (.cons (.str []) (.nil)))))) (.bin .mod (.bin .fdiv (.loc 82) (.int 5)) (.int 4)))) (.cons (.assignC 11 (.call (.glo 113) (.cons (.loc 79) (.nil)))) (.cons (.assign 104 (.len (.cel 11))) (.cons (.assign 112 (.call (.glo 86) (.cons (.loc 79) (.cons (.int 1) (.nil))))) (.cons (.assign 105 (.sorted (.list (.cons (.bin .mod (.bin .add (.loc 112) (.int 3)) (.bin .add (.loc 104) (.int 1))) (.cons (.bin .mod (.bin .add (.bin .fdiv (.loc 112) (.int 16)) (.int 7)) (.bin .add (.loc 104) (.int 1))) (.cons (.bin .mod (.bin .add (.bin .fdiv (.loc 112) (.int 256)) (.int 3)) (.bin .add (.loc 104) (.int 1))) (.nil))))))) (.cons (.assign 109 (.comp ce_law_2 (.one 81) [11,16,32] (.range1 (.bin .add (.loc 104) (.int 1))))) (.cons (.assign 106 (.call (.glo 101) (.cons (.cel 11) (.cons (.cel 32) (.cons (.cel 16) (.cons (.bool true) (.nil))))))) (.cons (.for_ 103 (.list (.cons (.list (.cons (.loc 104) (.nil))) (.cons (.bin .add (.loc 105) (.list (.cons (.loc 104) (.nil)))) (.cons (.listOf (.range2 (.int 1) (.bin .add (.loc 104) (.int 1)))) (.nil))))) lp_law_1) (.cons (.ret (.bool true)) .nil)))))))))))
noncomputable def fd_law : FD := ⟨[79],[11,16,32],b_law⟩
noncomputable def gloL : List (Nat × Addr) := [(1,67),(3,102),(4,95),(5,88),(13,109),(26,147),(53,74),(54,366),(57,60),(58,81),(59,384),(60,391),(61,398),(62,405),(63,412),(64,419),(65,426),(66,433),(67,440),(68,447),(69,454),(70,461),(71,510),(72,503),(73,377),(74,468),(75,475),(76,482),(77,489),(78,496),(86,524),(92,543),(93,550),(94,538),(96,571),(98,564),(99,578),(101,583),(102,557),(108,590),(110,310),(111,517),(113,531)]
noncomputable def fnL : List (Addr × FD) := [(60,fd_is_blank),(67,fd_is_upper),(74,fd_is_letter),(81,fd_lower),(88,fd_is_surrogate),(95,fd_is_noncharacter),(102,fd_is_control),(109,fd_input_error),(123,fd_Stream_init),(130,fd_Stream_feed),(137,fd_Stream_end),(166,fd_Tokenizer_init),(173,fd_Tokenizer_feed),(180,fd_Tokenizer_end),(187,fd_Tokenizer_next),(194,fd_Tokenizer_to),(201,fd_Tokenizer_again),(208,fd_Tokenizer_error),(215,fd_Tokenizer_emit),(222,fd_Tokenizer_emit_sign),(229,fd_Tokenizer_emit_text),(236,fd_Tokenizer_emit_draft),(243,fd_Tokenizer_emit_eof),(250,fd_Tokenizer_is_apt),(293,fd_Tokenizer_step),(300,fd_Tokenizer_is_ready),(307,fd_Tokenizer_run),(328,fd_Draft_init),(363,fd_Draft_token),(377,fd_data_state),(384,fd_held_text),(391,fd_less_than),(398,fd_end_tag_open),(405,fd_end_tag_name),(412,fd_rcdata_state),(419,fd_rcdata_less_than),(426,fd_rcdata_end_tag_open),(433,fd_rcdata_end_tag_name),(440,fd_rawtext_state),(447,fd_rawtext_less_than),(454,fd_rawtext_end_tag_open),(461,fd_rawtext_end_tag_name),(468,fd_script_state),(475,fd_script_less_than),(482,fd_script_end_tag_open),(489,fd_script_end_tag_name),(496,fd_plaintext_state),(503,fd_rcdata_states),(510,fd_rawtext_states),(517,fd_text_states),(524,fd_law_digit),(531,fd_law_text),(538,fd_law_run),(543,fd_law_fold),(550,fd_law_behind),(557,fd_law_stop),(564,fd_law_tail),(571,fd_law_told),(578,fd_law_left),(583,fd_law_due),(590,fd_law_seen)]
noncomputable def methL : List (Addr × Nat × Addr) := [(147,27,130),(147,28,137),(310,27,173),(310,28,180),(310,50,187),(310,48,194),(310,52,201),(310,34,208),(310,31,215),(310,49,222),(310,51,229),(310,56,236),(310,47,243),(310,55,250),(310,40,293),(310,39,300),(310,91,307),(366,29,363)]
noncomputable def fieldL : List (Addr × Nat) := [(147,10),(147,9),(147,8),(147,7),(310,14),(310,25),(310,24),(310,15),(310,23),(310,22),(310,7),(310,21),(310,20),(310,12),(310,16),(310,19),(310,18),(310,17),(366,32),(366,36),(366,11),(366,43),(366,42),(366,41),(366,33),(366,35)]
noncomputable def initL : List (Addr × Addr) := [(147,123),(310,166),(366,328)]
noncomputable def namesC : List (List Nat) := [[99],[105,115,95,117,112,112,101,114],[110],[105,115,95,99,111,110,116,114,111,108],[105,115,95,110,111,110,99,104,97,114,97,99,116,101,114],[105,115,95,115,117,114,114,111,103,97,116,101],[115,101,108,102],[101,114,114,111,114,115],[105,115,95,114,101,116,117,114,110],[105,115,95,99,108,111,115,101,100],[115,105,103,110,115],[116,101,120,116],[99,111,100,101],[105,110,112,117,116,95,101,114,114,111,114],[115,116,97,116,101,115],[115,116,97,116,101],[108,97,115,116],[105,115,95,100,111,110,101],[105,115,95,119,97,105,116,105,110,103],[105,115,95,102,111,114,101,105,103,110],[98,117,102,102,101,114],[100,114,97,102,116],[111,117,116],[98,97,99,107],[97,116],[115,116,114,101,97,109],[83,116,114,101,97,109],[102,101,101,100],[101,110,100],[116,111,107,101,110],[115,105,103,110],[101,109,105,116],[107,105,110,100],[105,115,95,99,108,111,115,105,110,103],[101,114,114,111,114],[97,116,116,114,115],[110,97,109,101],[98,101,103,117,110],[114,117,108,101],[105,115,95,114,101,97,100,121],[115,116,101,112],[105,115,95,113,117,105,114,107,115],[115,121,115,116,101,109],[112,117,98,108,105,99],[107,101,112,116],[97,116,116,114],[116],[101,109,105,116,95,101,111,102],[116,111],[101,109,105,116,95,115,105,103,110],[110,101,120,116],[101,109,105,116,95,116,101,120,116],[97,103,97,105,110],[105,115,95,108,101,116,116,101,114],[68,114,97,102,116],[105,115,95,97,112,116],[101,109,105,116,95,100,114,97,102,116],[105,115,95,98,108,97,110,107],[108,111,119,101,114],[104,101,108,100,95,116,101,120,116],[108,101,115,115,95,116,104,97,110],[101,110,100,95,116,97,103,95,111,112,101,110],[101,110,100,95,116,97,103,95,110,97,109,101],[114,99,100,97,116,97,95,115,116,97,116,101],[114,99,100,97,116,97,95,108,101,115,115,95,116,104,97,110],[114,99,100,97,116,97,95,101,110,100,95,116,97,103,95,111,112,101,110],[114,99,100,97,116,97,95,101,110,100,95,116,97,103,95,110,97,109,101],[114,97,119,116,101,120,116,95,115,116,97,116,101],[114,97,119,116,101,120,116,95,108,101,115,115,95,116,104,97,110],[114,97,119,116,101,120,116,95,101,110,100,95,116,97,103,95,111,112,101,110],[114,97,119,116,101,120,116,95,101,110,100,95,116,97,103,95,110,97,109,101],[114,97,119,116,101,120,116,95,115,116,97,116,101,115],[114,99,100,97,116,97,95,115,116,97,116,101,115],[100,97,116,97,95,115,116,97,116,101],[115,99,114,105,112,116,95,115,116,97,116,101],[115,99,114,105,112,116,95,108,101,115,115,95,116,104,97,110],[115,99,114,105,112,116,95,101,110,100,95,116,97,103,95,111,112,101,110],[115,99,114,105,112,116,95,101,110,100,95,116,97,103,95,110,97,109,101],[112,108,97,105,110,116,101,120,116,95,115,116,97,116,101],[115,99,114,105,112,116],[112,108,97,99,101],[107],[100,105,103,105,116],[109,97,110,121],[112,105,101,99,101,115],[112,111,105,110,116],[95,108,97,119,95,100,105,103,105,116],[102,105,114,115,116],[108,101,116,116,101,114,115],[108,101,116,116,101,114],[105],[114,117,110],[95,108,97,119,95,102,111,108,100],[95,108,97,119,95,98,101,104,105,110,100],[95,108,97,119,95,114,117,110],[105,115,95,101,110,100,101,100],[95,108,97,119,95,116,111,108,100],[104,101,108,100],[95,108,97,119,95,116,97,105,108],[95,108,97,119,95,108,101,102,116],[109,111,114,101],[95,108,97,119,95,100,117,101],[95,108,97,119,95,115,116,111,112],[119,97,121],[115,105,122,101],[99,117,116,115],[119,104,111,108,101],[116,111,108,100],[95,108,97,119,95,115,101,101,110],[100,117,101,115],[84,111,107,101,110,105,122,101,114],[116,101,120,116,95,115,116,97,116,101,115],[99,117,116],[95,108,97,119,95,116,101,120,116],[119,104,121]]
noncomputable def look2 (C : Addr) (f : Nat) : List (Addr × Nat × Addr) → Option Addr
  | [] => none
  | (a,b,c) :: r => if a = C ∧ b = f then some c else look2 C f r
noncomputable def has2 (C : Addr) (f : Nat) : List (Addr × Nat) → Bool
  | [] => false
  | (a,b) :: r => if a = C ∧ b = f then true else has2 C f r
noncomputable def look1 {α : Type} (a : Nat) : List (Nat × α) → Option α
  | [] => none
  | (b,x) :: r => if b = a then some x else look1 a r
noncomputable def tbl : Tbl where
  glo := fun n => (look1 n gloL).map .ref
  meth := fun C f => look2 C f methL
  field := fun C f => has2 C f fieldL
  fn := fun a => look1 a fnL
  init := fun C => look1 C initL
private theorem glo_1 : tbl.glo 1 = some (.ref 67) := rfl
private theorem glo_3 : tbl.glo 3 = some (.ref 102) := rfl
private theorem glo_4 : tbl.glo 4 = some (.ref 95) := rfl
private theorem glo_5 : tbl.glo 5 = some (.ref 88) := rfl
private theorem glo_13 : tbl.glo 13 = some (.ref 109) := rfl
private theorem glo_26 : tbl.glo 26 = some (.ref 147) := rfl
private theorem glo_53 : tbl.glo 53 = some (.ref 74) := rfl
private theorem glo_54 : tbl.glo 54 = some (.ref 366) := rfl
private theorem glo_57 : tbl.glo 57 = some (.ref 60) := rfl
private theorem glo_58 : tbl.glo 58 = some (.ref 81) := rfl
private theorem glo_59 : tbl.glo 59 = some (.ref 384) := rfl
private theorem glo_60 : tbl.glo 60 = some (.ref 391) := rfl
private theorem glo_61 : tbl.glo 61 = some (.ref 398) := rfl
private theorem glo_62 : tbl.glo 62 = some (.ref 405) := rfl
private theorem glo_63 : tbl.glo 63 = some (.ref 412) := rfl
private theorem glo_64 : tbl.glo 64 = some (.ref 419) := rfl
private theorem glo_65 : tbl.glo 65 = some (.ref 426) := rfl
private theorem glo_66 : tbl.glo 66 = some (.ref 433) := rfl
private theorem glo_67 : tbl.glo 67 = some (.ref 440) := rfl
private theorem glo_68 : tbl.glo 68 = some (.ref 447) := rfl
private theorem glo_69 : tbl.glo 69 = some (.ref 454) := rfl
private theorem glo_70 : tbl.glo 70 = some (.ref 461) := rfl
private theorem glo_71 : tbl.glo 71 = some (.ref 510) := rfl
private theorem glo_72 : tbl.glo 72 = some (.ref 503) := rfl
private theorem glo_73 : tbl.glo 73 = some (.ref 377) := rfl
private theorem glo_74 : tbl.glo 74 = some (.ref 468) := rfl
private theorem glo_75 : tbl.glo 75 = some (.ref 475) := rfl
private theorem glo_76 : tbl.glo 76 = some (.ref 482) := rfl
private theorem glo_77 : tbl.glo 77 = some (.ref 489) := rfl
private theorem glo_78 : tbl.glo 78 = some (.ref 496) := rfl
private theorem glo_86 : tbl.glo 86 = some (.ref 524) := rfl
private theorem glo_92 : tbl.glo 92 = some (.ref 543) := rfl
private theorem glo_93 : tbl.glo 93 = some (.ref 550) := rfl
private theorem glo_94 : tbl.glo 94 = some (.ref 538) := rfl
private theorem glo_96 : tbl.glo 96 = some (.ref 571) := rfl
private theorem glo_98 : tbl.glo 98 = some (.ref 564) := rfl
private theorem glo_99 : tbl.glo 99 = some (.ref 578) := rfl
private theorem glo_101 : tbl.glo 101 = some (.ref 583) := rfl
private theorem glo_102 : tbl.glo 102 = some (.ref 557) := rfl
private theorem glo_108 : tbl.glo 108 = some (.ref 590) := rfl
private theorem glo_110 : tbl.glo 110 = some (.ref 310) := rfl
private theorem glo_111 : tbl.glo 111 = some (.ref 517) := rfl
private theorem glo_113 : tbl.glo 113 = some (.ref 531) := rfl
private theorem fn_is_blank : tbl.fn 60 = some fd_is_blank := rfl
private theorem fn_is_upper : tbl.fn 67 = some fd_is_upper := rfl
private theorem fn_is_letter : tbl.fn 74 = some fd_is_letter := rfl
private theorem fn_lower : tbl.fn 81 = some fd_lower := rfl
private theorem fn_is_surrogate : tbl.fn 88 = some fd_is_surrogate := rfl
private theorem fn_is_noncharacter : tbl.fn 95 = some fd_is_noncharacter := rfl
private theorem fn_is_control : tbl.fn 102 = some fd_is_control := rfl
private theorem fn_input_error : tbl.fn 109 = some fd_input_error := rfl
private theorem fn_Stream_init : tbl.fn 123 = some fd_Stream_init := rfl
private theorem fn_Stream_feed : tbl.fn 130 = some fd_Stream_feed := rfl
private theorem fn_Stream_end : tbl.fn 137 = some fd_Stream_end := rfl
private theorem fn_Tokenizer_init : tbl.fn 166 = some fd_Tokenizer_init := rfl
private theorem fn_Tokenizer_feed : tbl.fn 173 = some fd_Tokenizer_feed := rfl
private theorem fn_Tokenizer_end : tbl.fn 180 = some fd_Tokenizer_end := rfl
private theorem fn_Tokenizer_next : tbl.fn 187 = some fd_Tokenizer_next := rfl
private theorem fn_Tokenizer_to : tbl.fn 194 = some fd_Tokenizer_to := rfl
private theorem fn_Tokenizer_again : tbl.fn 201 = some fd_Tokenizer_again := rfl
private theorem fn_Tokenizer_error : tbl.fn 208 = some fd_Tokenizer_error := rfl
private theorem fn_Tokenizer_emit : tbl.fn 215 = some fd_Tokenizer_emit := rfl
private theorem fn_Tokenizer_emit_sign : tbl.fn 222 = some fd_Tokenizer_emit_sign := rfl
private theorem fn_Tokenizer_emit_text : tbl.fn 229 = some fd_Tokenizer_emit_text := rfl
private theorem fn_Tokenizer_emit_draft : tbl.fn 236 = some fd_Tokenizer_emit_draft := rfl
private theorem fn_Tokenizer_emit_eof : tbl.fn 243 = some fd_Tokenizer_emit_eof := rfl
private theorem fn_Tokenizer_is_apt : tbl.fn 250 = some fd_Tokenizer_is_apt := rfl
private theorem fn_Tokenizer_step : tbl.fn 293 = some fd_Tokenizer_step := rfl
private theorem fn_Tokenizer_is_ready : tbl.fn 300 = some fd_Tokenizer_is_ready := rfl
private theorem fn_Tokenizer_run : tbl.fn 307 = some fd_Tokenizer_run := rfl
private theorem fn_Draft_init : tbl.fn 328 = some fd_Draft_init := rfl
private theorem fn_Draft_token : tbl.fn 363 = some fd_Draft_token := rfl
private theorem fn_data_state : tbl.fn 377 = some fd_data_state := rfl
private theorem fn_held_text : tbl.fn 384 = some fd_held_text := rfl
private theorem fn_less_than : tbl.fn 391 = some fd_less_than := rfl
private theorem fn_end_tag_open : tbl.fn 398 = some fd_end_tag_open := rfl
private theorem fn_end_tag_name : tbl.fn 405 = some fd_end_tag_name := rfl
private theorem fn_rcdata_state : tbl.fn 412 = some fd_rcdata_state := rfl
private theorem fn_rcdata_less_than : tbl.fn 419 = some fd_rcdata_less_than := rfl
private theorem fn_rcdata_end_tag_open : tbl.fn 426 = some fd_rcdata_end_tag_open := rfl
private theorem fn_rcdata_end_tag_name : tbl.fn 433 = some fd_rcdata_end_tag_name := rfl
private theorem fn_rawtext_state : tbl.fn 440 = some fd_rawtext_state := rfl
private theorem fn_rawtext_less_than : tbl.fn 447 = some fd_rawtext_less_than := rfl
private theorem fn_rawtext_end_tag_open : tbl.fn 454 = some fd_rawtext_end_tag_open := rfl
private theorem fn_rawtext_end_tag_name : tbl.fn 461 = some fd_rawtext_end_tag_name := rfl
private theorem fn_script_state : tbl.fn 468 = some fd_script_state := rfl
private theorem fn_script_less_than : tbl.fn 475 = some fd_script_less_than := rfl
private theorem fn_script_end_tag_open : tbl.fn 482 = some fd_script_end_tag_open := rfl
private theorem fn_script_end_tag_name : tbl.fn 489 = some fd_script_end_tag_name := rfl
private theorem fn_plaintext_state : tbl.fn 496 = some fd_plaintext_state := rfl
private theorem fn_rcdata_states : tbl.fn 503 = some fd_rcdata_states := rfl
private theorem fn_rawtext_states : tbl.fn 510 = some fd_rawtext_states := rfl
private theorem fn_text_states : tbl.fn 517 = some fd_text_states := rfl
private theorem fn_law_digit : tbl.fn 524 = some fd_law_digit := rfl
private theorem fn_law_text : tbl.fn 531 = some fd_law_text := rfl
private theorem fn_law_run : tbl.fn 538 = some fd_law_run := rfl
private theorem fn_law_fold : tbl.fn 543 = some fd_law_fold := rfl
private theorem fn_law_behind : tbl.fn 550 = some fd_law_behind := rfl
private theorem fn_law_stop : tbl.fn 557 = some fd_law_stop := rfl
private theorem fn_law_tail : tbl.fn 564 = some fd_law_tail := rfl
private theorem fn_law_told : tbl.fn 571 = some fd_law_told := rfl
private theorem fn_law_left : tbl.fn 578 = some fd_law_left := rfl
private theorem fn_law_due : tbl.fn 583 = some fd_law_due := rfl
private theorem fn_law_seen : tbl.fn 590 = some fd_law_seen := rfl
private theorem meth_147_27 : tbl.meth 147 27 = some 130 := rfl
private theorem meth_147_28 : tbl.meth 147 28 = some 137 := rfl
private theorem meth_310_27 : tbl.meth 310 27 = some 173 := rfl
private theorem meth_310_28 : tbl.meth 310 28 = some 180 := rfl
private theorem meth_310_50 : tbl.meth 310 50 = some 187 := rfl
private theorem meth_310_48 : tbl.meth 310 48 = some 194 := rfl
private theorem meth_310_52 : tbl.meth 310 52 = some 201 := rfl
private theorem meth_310_34 : tbl.meth 310 34 = some 208 := rfl
private theorem meth_310_31 : tbl.meth 310 31 = some 215 := rfl
private theorem meth_310_49 : tbl.meth 310 49 = some 222 := rfl
private theorem meth_310_51 : tbl.meth 310 51 = some 229 := rfl
private theorem meth_310_56 : tbl.meth 310 56 = some 236 := rfl
private theorem meth_310_47 : tbl.meth 310 47 = some 243 := rfl
private theorem meth_310_55 : tbl.meth 310 55 = some 250 := rfl
private theorem meth_310_40 : tbl.meth 310 40 = some 293 := rfl
private theorem meth_310_39 : tbl.meth 310 39 = some 300 := rfl
private theorem meth_310_91 : tbl.meth 310 91 = some 307 := rfl
private theorem meth_366_29 : tbl.meth 366 29 = some 363 := rfl
private theorem field_147_10 : tbl.field 147 10 = true := rfl
private theorem field_147_9 : tbl.field 147 9 = true := rfl
private theorem field_147_8 : tbl.field 147 8 = true := rfl
private theorem field_147_7 : tbl.field 147 7 = true := rfl
private theorem field_310_14 : tbl.field 310 14 = true := rfl
private theorem field_310_25 : tbl.field 310 25 = true := rfl
private theorem field_310_24 : tbl.field 310 24 = true := rfl
private theorem field_310_15 : tbl.field 310 15 = true := rfl
private theorem field_310_23 : tbl.field 310 23 = true := rfl
private theorem field_310_22 : tbl.field 310 22 = true := rfl
private theorem field_310_7 : tbl.field 310 7 = true := rfl
private theorem field_310_21 : tbl.field 310 21 = true := rfl
private theorem field_310_20 : tbl.field 310 20 = true := rfl
private theorem field_310_12 : tbl.field 310 12 = true := rfl
private theorem field_310_16 : tbl.field 310 16 = true := rfl
private theorem field_310_19 : tbl.field 310 19 = true := rfl
private theorem field_310_18 : tbl.field 310 18 = true := rfl
private theorem field_310_17 : tbl.field 310 17 = true := rfl
private theorem field_366_32 : tbl.field 366 32 = true := rfl
private theorem field_366_36 : tbl.field 366 36 = true := rfl
private theorem field_366_11 : tbl.field 366 11 = true := rfl
private theorem field_366_43 : tbl.field 366 43 = true := rfl
private theorem field_366_42 : tbl.field 366 42 = true := rfl
private theorem field_366_41 : tbl.field 366 41 = true := rfl
private theorem field_366_33 : tbl.field 366 33 = true := rfl
private theorem field_366_35 : tbl.field 366 35 = true := rfl
private theorem init_310 : tbl.init 310 = some 166 := rfl
private theorem fn_310 : tbl.fn 310 = none := rfl
private theorem init_366 : tbl.init 366 = some 328 := rfl
private theorem fn_366 : tbl.fn 366 = none := rfl
end Mine
end
section
open PySem PySem.W PyProof.Rows
namespace Mine

noncomputable def build : List Obj → Nat → BT → Option BT
  | [],_,t => some t
  | o :: r,n,t => match ((t.ins n o).get n).isSome with
    | true => build r (n + 1) (t.ins n o)
    | false => none
private theorem build_spec {life : Life} : ∀ (l : List Obj) (n : Nat) (t T : BT),build l n t = some T → absHeap T (n + l.length) life = ⟨((absHeap t n life).objs.toList ++ l).toArray,life⟩
  | [],n,t,T,h => by cases h; simp [absHeap]
  | o :: r,n,t,T,h => by
    unfold build at h
    split at h
    · rename_i q
      have := build_spec (life := life) r (n + 1) _ T h
      rw [absHeap_ins q] at this
      rw [show n + (o :: r).length = n + 1 + r.length by simp; lia,this]
      simp [Heap.push]
    · cases h
noncomputable def ofShared (s : Shared) : Option SharedT := (build s.heap.objs.toList 0 .nil).map fun T => ⟨T,s.heap.objs.toList.length,s.heap.life,s.gens,s.drawn,s.toks,s.os⟩
private theorem ofShared_spec {s : Shared} {sT : SharedT} (h : ofShared s = some sT) : sT.abs = s := by
  obtain ⟨T,h1,rfl⟩ := Option.map_eq_some_iff.mp h
  have := build_spec (life := s.heap.life) _ _ _ _ h1
  rw [Nat.zero_add] at this
  unfold SharedT.abs
  dsimp only
  rw [this]
  obtain ⟨⟨objs,life⟩,_⟩ := s
  simp [absHeap,BT.list]
noncomputable abbrev StepF := Program → World → SharedT → Thread → Option (SharedT × Thread)
noncomputable def impRunT (stp : StepF) (prog : Program) (w : World) : Nat → SharedT → Thread → Option SharedT
  | 0,_,_ => none
  | n + 1,s,t => match t.atExitBegin with
    | some [] => some s
    | some (_ :: _) => none
    | none => match stp prog w s t with
      | some (s',t') => impRunT stp prog w n s' t'
      | none => none
private theorem impRunT_spec {tb : String → Option Builtin} {prog : Program} {w : World} : ∀ {n : Nat} {s r : SharedT} {t : Thread},impRunT (stepT (denote tb)) prog w n s t = some r → importEnds tb prog w n s.abs t = some r.abs
  | 0,_,_,_,h => by cases h
  | n + 1,s,r,t,h => by
    unfold impRunT at h
    unfold importEnds
    split at h
    · rename_i q; cases h; rw [q]
    · cases h
    · rename_i q
      rw [q]
      split at h
      · rename_i s' t' q2
        dsimp only
        rw [stepT_spec q2]
        exact impRunT_spec h
      · cases h
noncomputable def topRunT (stp : StepF) (ok : Nat → Option Value → Thread → Bool) (p : Program) (w : World) (n₀ : Nat) (ann : Option Value) : Nat → SharedT → Thread → Option SharedT
  | 0,_,_ => none
  | n + 1,s,t => match through t with
    | true => some s
    | false => match ok n₀ ann t with
      | false => none
      | true => match stp p w s t with
        | some (s',t') => topRunT stp ok p w n₀ ann n s' t'
        | none => none
private theorem topRunT_spec {tb : String → Option Builtin} {p : Program} {w : World} {n₀ : Nat} {ann : Option Value} : ∀ {n : Nat} {s r : SharedT} {t : Thread},topRunT (stepT (denote tb)) stepOk p w n₀ ann n s t = some r → topRun tb p w n₀ ann n s.abs t = some r.abs
  | 0,_,_,_,h => by cases h
  | n + 1,s,r,t,h => by
    unfold topRunT at h
    unfold topRun
    split at h
    · rename_i q; cases h; rw [q]
    · rename_i q
      rw [q]
      split at h
      · cases h
      · rename_i q2
        rw [q2]
        split at h
        · rename_i s' t' q3
          dsimp only
          rw [stepT_spec q3]
          exact topRunT_spec h
        · cases h
noncomputable def topFromT (stp : StepF) (ok : Nat → Option Value → Thread → Bool) (p : Program) (w : World) (N : Nat) (s₀ : Shared) : Option SharedT :=
  match s₀.heap.isNs mainGlobals && s₀.gens.size == 0 with
  | true => (ofShared s₀).bind fun s0T => (topRunT stp ok p w s₀.heap.objs.size (s₀.heap.nsMap mainGlobals "__annotations__") N s0T (topStub p)).bind fun s1T =>
      match staticsOk (importedModules p.main.body) s₀.heap s1T.abs.heap && namesBound p s1T.abs.heap && gensDone s1T.abs && laidKept s₀.heap s1T.abs.heap with
      | true => some s1T
      | false => none
  | false => none
private theorem topFromT_spec {tb : String → Option Builtin} {p : Program} {w : World} {N : Nat} {s₀ : Shared} {r : SharedT} (h : topFromT (stepT (denote tb)) stepOk p w N s₀ = some r) : topFrom tb p w N s₀ = some r.abs := by
  unfold topFromT at h
  unfold topFrom
  split at h
  · rename_i q
    rw [q]
    obtain ⟨s0T,h1,h2⟩ := Option.bind_eq_some_iff.mp h
    obtain ⟨s1T,h3,h4⟩ := Option.bind_eq_some_iff.mp h2
    have h5 := topRunT_spec h3
    rw [ofShared_spec h1] at h5
    dsimp only
    rw [h5,Option.bind_some]
    split at h4
    · rename_i q2; cases h4; rw [q2]
    · cases h4
  · cases h
noncomputable def openEndsT (stp : StepF) (ok : Nat → Option Value → Thread → Bool) (fence : Program → Shared → Option Shared) (stt : Program → Shared × Thread) (p : Program) (w : World) (N : Nat) : Option SharedT :=
  (((ofShared (stt (opening p)).1).bind fun sT => (impRunT stp (opening p) w N sT (stt (opening p)).2)).bind fun s1 => fence p s1.abs).bind (topFromT stp ok p w N)
private theorem openEndsT_spec {tb : String → Option Builtin} {p : Program} {w : World} {N : Nat} {r : SharedT} (h : openEndsT (stepT (denote tb)) stepOk fenceModules? start p w N = some r) : openEnds tb p w N = some r.abs := by
  unfold openEndsT at h
  unfold openEnds fencedOpening
  obtain ⟨s₀,h1,h2⟩ := Option.bind_eq_some_iff.mp h
  obtain ⟨s1,h3,h4⟩ := Option.bind_eq_some_iff.mp h1
  obtain ⟨sT,h5,h6⟩ := Option.bind_eq_some_iff.mp h3
  have h7 := impRunT_spec h6
  rw [ofShared_spec h5] at h7
  rw [h7,Option.bind_some,h4,Option.bind_some]
  exact topFromT_spec h2

noncomputable def getT (s : SharedT) (a : Nat) : Option Obj := match Nat.blt a s.n with
  | true => alive ((s.tree.get a).getD default)
  | false => none
private theorem getT_spec (s : SharedT) (a : Nat) : s.abs.heap.get? a = getT s a := by
  unfold getT SharedT.abs Heap.get?
  dsimp only
  rw [absHeap_at]
  by_cases h : a < s.n
  · rw [if_pos h,show Nat.blt a s.n = true from Nat.blt_eq.mpr h]
    dsimp only
    obtain ⟨c,d,dt,sl⟩ := (s.tree.get a).getD default
    cases dt <;> rfl
  · rw [if_neg h,show Nat.blt a s.n = false from Bool.eq_false_iff.mpr fun q => h (Nat.blt_eq.mp q)]
noncomputable def fragOf (L : List Addr) (f : Addr → Option Obj) : Frag := L.filterMap fun a => (f a).map fun o => (a,o)
private theorem lookup_filterMap {f : Nat → Option Obj} {a : Nat} {o : Obj} : ∀ (l : List Nat),(l.filterMap fun b => (f b).map fun o => (b,o)).lookup a = some o → f a = some o
  | [],h => by cases h
  | b :: l,h => by
    rw [List.filterMap_cons] at h
    cases hb : f b with
    | none => rw [hb] at h; exact lookup_filterMap l h
    | some o' =>
      rw [hb] at h
      simp only [Option.map_some,List.lookup_cons] at h
      split at h
      · rename_i q; cases h; rw [beq_iff_eq.mp q]; exact hb
      · exact lookup_filterMap l h
private theorem fragOf_in (L : List Addr) (h : Heap) : (fragOf L h.get?).In h := fun u_ u_ e => lookup_filterMap (f := h.get?) _ e

private theorem LeftO_of_tree {p q : Program} {loose : List Str} {L : List Addr} {chk : Frag → Bool} {N : Nat}
    (h : ∀ w,(openEndsT (Fast.tw10156331382660048174 (Fast.tw11892475500146522536 Fast.tw14364793385576792824)) Fast.tw6613529449190102663 Fast.tw14289696077712309145 Fast.tw1435165496053646825 p w N).map (fun s => (Fast.tw4187177175401517315 q loose (importedModules p.main.body) (fun u_ => true) true s.abs,chk (fragOf L (getT s)))) = some (openGood q loose,true)) :
    LeftO p q loose (fun u_ => true) (fun s => chk (fragOf L s.heap.get?)) (fun u_ => true) N := fun w => by
  rw [← Fast.te10156331382660048174,← Fast.te11892475500146522536,← Fast.te14364793385576792824,← Fast.te6613529449190102663,← Fast.te14289696077712309145,← Fast.te1435165496053646825,← Fast.te4187177175401517315] at h
  obtain ⟨s,h1,h2⟩ := Option.map_eq_some_iff.mp (h w)
  rw [openEndsT_spec h1,Option.map_some]
  dsimp only
  rw [show s.abs.heap.get? = getT s from funext (getT_spec s)]
  exact congrArg some h2
end Mine
end
section
open PySem PySem.W PyProof.Rows
namespace Mine

noncomputable def nmL : List Str := namesC.map fun l => ⟨l.toArray⟩
noncomputable def nmOf (l : List Str) (n : Nat) : Str := match l[n]? with | some s => s | none => ⟨#[2000000 + n]⟩
noncomputable def nm (n : Nat) : Str := nmOf nmL n
private theorem nmOf_inj {l : List Str} (h : l.Nodup) (h2 : ∀ s ∈ l,∀ n,s ≠ ⟨#[2000000 + n]⟩) (a b : Nat) (e : nmOf l a = nmOf l b) : a = b := by
  unfold nmOf at e
  cases ha : l[a]? <;> cases hb : l[b]? <;> rw [ha,hb] at e <;> dsimp only at e
  · simpa using e
  · exact absurd e.symm (h2 _ (List.mem_of_getElem? hb) _)
  · exact absurd e (h2 _ (List.mem_of_getElem? ha) _)
  · subst e
    obtain ⟨h1,e1⟩ := List.getElem?_eq_some_iff.mp ha
    obtain ⟨h3,e3⟩ := List.getElem?_eq_some_iff.mp hb
    exact (List.getElem_inj h).mp (e1.trans e3.symm)
private theorem nm_inj : ∀ a b,nm a = nm b → a = b := nmOf_inj (by decide +kernel) (by
  intro s hs n e
  have : (nmL.all fun s => match s.cps.toList with | [c] => decide (c < 2000000) | _ => true) = true := by decide +kernel
  have := List.all_eq_true.mp this s hs
  subst e
  simp at this
  omega)

noncomputable def eqv (r : Option (Option Value)) (a : Addr) : Bool := match r with
  | some (some (.ref b)) => Nat.beq b a
  | _ => false
private theorem eqv_spec {r : Option (Option Value)} {a : Addr} (h : eqv r a = true) : r = some (some (.ref a)) := by
  unfold eqv at h
  split at h
  · rw [Nat.eq_of_beq_eq_true h]
  · cases h
noncomputable def eqb (r : Option (Option Value)) (a : String) : Bool := match r with
  | some (some (.builtin b)) => b == a
  | _ => false
private theorem eqb_spec {r : Option (Option Value)} {a : String} (h : eqb r a = true) : r = some (some (.builtin a)) := by
  unfold eqb at h
  split at h
  · rw [eq_of_beq h]
  · cases h
noncomputable def isNo (r : Option (Option Value)) : Bool := match r with
  | some none => true
  | _ => false
private theorem isNo_spec {r : Option (Option Value)} (h : isNo r = true) : r = some none := by
  unfold isNo at h
  split at h
  · rfl
  · cases h
noncomputable def parOk (p : PySem.Arguments) (ns : List Str) : Bool :=
  p.posonlyargs.isEmpty && p.vararg.isNone && p.kwonlyargs.isEmpty && p.kwarg.isNone && decide (p.args.map (·.arg) = ns) && decide ns.Nodup
noncomputable def dfOk (K : Frag) : Value → Bool
  | .none => true
  | .ref a => (match K.lookup a with
    | some ⟨_,_,.seq xs _,_⟩ => decide (xs.toList.length ≤ 2)
    | _ => false)
  | _ => false
noncomputable def isNone : Value → Bool
  | .none => true
  | _ => false
noncomputable def fnChk (K : Frag) (a : Addr) (fd : FD) : Bool := match K.lookup a with
  | some ⟨_,_,.func f,_⟩ => (match f.body with
    | .stmts body => codeIn K f.code f.qualname && parOk f.params (fd.params.map nm) && dfOk K f.defaults && !f.scope.isCoroutine && !f.scope.isGenerator && decide (f.scope.kind = .function) && Nat.beq f.globals 3 && Nat.beq f.builtins 0 &&
        (fd.params.all fun n => decide (f.scope.names.lookup (nm n) = some .local)) && agSs nm f.scope fd.body body &&
        ((fd.cells.isEmpty && f.scope.names.all fun x => decide (x.2 ≠ .cell)) || (isNone f.defaults && f.closure.isEmpty && decide fd.cells.Nodup && fd.cells.all fun n => decide (f.scope.names.lookup (nm n) = some .cell)))
    | _ => false)
  | _ => false
noncomputable def noBs : List Str := ["len","chr","ord","sorted","list","tuple","range"]
noncomputable def clsL : List Addr := [147,310,366]
noncomputable def chk1 (K : Frag) : Bool := (gloL.all fun p => eqv (nsIn K mainGlobals (nm p.1)) p.2) && (noBs.all fun x => isNo (nsIn K mainGlobals x))
noncomputable def chk2 (K : Frag) : Bool := (methL.all fun p => eqv (findIn K (.ref p.1) (nm p.2.1)) p.2.2 && isFn K (.ref p.2.2) && keepIn K (.ref p.2.2))
noncomputable def chk3 (K : Frag) : Bool := (clsL.all fun C => plainGet K C "" && hasDictIn K C && eqb (findIn K (.ref C) "__setattr__") "object.__setattr__" && plainOver K C)
noncomputable def chk4 (K : Frag) : Bool := (fieldL.all fun p => isNo (findIn K (.ref p.1) (nm p.2)))
noncomputable def chk5 (K : Frag) : Bool := (fnL.all fun p => keepIn K (.ref p.1) && fnChk K p.1 p.2 && !p.2.body.sp)
noncomputable def chk6 (K : Frag) : Bool := (initL.all fun p => makesIn K p.1 && eqv (findIn K (.ref p.1) "__init__") p.2 && isFn K (.ref p.2) && keepIn K (.ref p.1))
noncomputable def noList (K : Frag) : Bool := K.all fun p => match p.2.data with | .seq _ _ => (match p.2.cls with | .type n => n == "tuple" | _ => false) | _ => true
noncomputable def addrL : List Addr := [310,147,366,3,1,309,146,365,51,38,50,37,159,35,34,60,59,67,66,74,73,81,80,88,87,95,94,102,101,109,108,123,122,130,129,137,136,166,165,173,172,180,179,187,186,194,193,201,200,208,207,215,214,222,221,229,228,236,235,243,242,250,249,293,292,300,299,307,306,328,327,363,362,377,376,384,383,391,390,398,397,405,404,412,411,419,418,426,425,433,432,440,439,447,446,454,453,461,460,468,467,475,474,482,481,489,488,496,495,503,502,510,509,517,516,524,523,531,530,538,537,543,542,550,549,557,556,564,563,571,570,578,577,583,582,590,589,595,594]
noncomputable def chk0 (K : Frag) : Bool := eqv (nsIn K mainGlobals "law") 595 && (K.lookup sysModules).isSome
noncomputable def fd_exc : FD := ⟨[6,114],[],.cons .fail (.cons .fail .nil)⟩
noncomputable def o6 {α : Type} (l : List α) (F : α → α → α → α → α → α → Bool) : Bool := match l with | [a,b,c,d,e,f] => F a b c d e f | _ => false
private theorem o6_i {α : Type} {l : List α} {F : α → α → α → α → α → α → Bool} (h : o6 l F = true) : ∃ a b c d e f,l = [a,b,c,d,e,f] ∧ F a b c d e f = true := by
  match l,h with | [a,b,c,d,e,f],h => exact ⟨a,b,c,d,e,f,rfl,h⟩
noncomputable def dCls (d : PySem.Data) (F : ClassData → Bool) : Bool := match d with | .cls c => F c | _ => false
private theorem dCls_i {d : PySem.Data} {F : ClassData → Bool} (h : dCls d F = true) : ∃ c,d = .cls c ∧ F c = true := by
  cases d <;> first | exact ⟨_,rfl,h⟩ | exact absurd h Bool.false_ne_true
noncomputable def excC (cd : ClassData) (e : Option Value) : Bool := e == some (.builtin "Exception.__new__") && !cd.hasDel && cd.hasDict && cd.mro == (.ref 51 :: .ref 38 :: bmE)
noncomputable def excO (o : Obj) : Bool := o.cls == .type "type" && dCls o.data fun cd => o6 o.slots.toList fun u_ u_ u_ u_ e u_ => excC cd e
noncomputable def excChk (K : Frag) : Bool := oS (K.lookup 51) excO
noncomputable def headChk (K : Frag) (a : Addr) (p : Scope → List PySem.Stmt → Bool) : Bool := match K.lookup a with
  | some ⟨_,_,.func f,_⟩ => (match f.body with
    | .stmts body => (f.scope.names.all fun x => decide (x.2 ≠ .cell)) && p f.scope body
    | _ => false)
  | _ => false
noncomputable def chk8 (K : Frag) : Bool := excChk K && eqv (nsIn K mainGlobals "Misused") 51 && isNo (nsIn K mainGlobals "Exception") && eqb (findIn K (.ref 51) "__setattr__") "object.__setattr__" && eqb (findIn K (.ref 51) "__getattribute__") "BaseException.__getattribute__" &&
  isNo (findIn K (.ref 51) "__getattr__") && eqv (findIn K (.ref 51) "__init__") 35 && isNo (findIn K (.ref 51) "why") && isFn K (.ref 35) && keepIn K (.ref 51) && fnChk K 35 fd_exc && headChk K 35 initOk && headChk K 293 (stepHead nm) && fnChk K 595 fd_law
noncomputable def chk (K : Frag) : Bool := chk8 K && chk0 K && chk1 K && chk2 K && chk3 K && chk4 K && chk5 K && chk6 K && noList K
end Mine
end
section
open PySem PySem.W PyProof.Rows
set_option maxHeartbeats 0
namespace Mine
noncomputable def pw : Program := PySem.Challenge.pw_nt0606_01
noncomputable def qv : Program := { pw with main := { pw.main with body := pw.main.body.drop 53 } }
noncomputable def looseC : List Str := (pw.boundNames.filter fun n => !(n == ("__name__" : Str) || n == ("law" : Str)))
private theorem left0 : ∀ w,(openEndsT (Fast.tw10156331382660048174 (Fast.tw11892475500146522536 Fast.tw14364793385576792824)) Fast.tw6613529449190102663 Fast.tw14289696077712309145 Fast.tw1435165496053646825 pw w 3500).map (fun s => (Fast.tw4187177175401517315 qv looseC (importedModules pw.main.body) (fun u_ => true) true s.abs,chk (fragOf addrL (getT s)))) = some (openGood qv looseC,true) := by
  intro w
  kernel_rfl
private theorem left : LeftO pw qv looseC (fun u_ => true) (fun s => chk (fragOf addrL s.heap.get?)) (fun u_ => true) 3500 := LeftO_of_tree left0
end Mine
end
section
open PySem PySem.W PyProof.Rows
namespace Mine
private theorem lookup_zip : ∀ {ns : List Str} {vs : List Value} {n : Str},vs.length = ns.length → n ∈ ns → ((ns.zip vs).lookup n).isSome = true
  | [],_,_,_,h => by cases h
  | m :: ns,[],n,hl,h => by simp at hl
  | m :: ns,v :: vs,n,hl,h => by
    simp only [List.zip_cons_cons,List.lookup_cons]
    by_cases q : n = m
    · subst q; simp
    · rw [show (n == m) = false by simpa using q]
      exact lookup_zip (by simpa using hl) (by simpa [q] using h)
private theorem filterMap_same {α β : Type} {f g : α → Option β} : ∀ {l : List α},(∀ x ∈ l,f x = g x) → l.filterMap f = l.filterMap g
  | [],_ => rfl
  | a :: l,h => by
    rw [List.filterMap_cons,List.filterMap_cons,h a (.head _),filterMap_same fun x hx => h x (.tail _ hx)]
private theorem filterMap_zip : ∀ {ns : List Str} {vs : List Value},ns.Nodup → vs.length = ns.length → ns.filterMap (fun n => ((ns.zip vs).lookup n).map (n,·)) = ns.zip vs
  | [],_,_,_ => by simp
  | m :: ns,[],_,hl => by simp at hl
  | m :: ns,v :: vs,hn,hl => by
    obtain ⟨h1,h2⟩ := List.nodup_cons.mp hn
    have ih := filterMap_zip (vs := vs) h2 (by simpa using hl)
    rw [List.filterMap_cons]
    simp only [List.zip_cons_cons,List.lookup_cons,beq_self_eq_true,Option.map_some]
    congr 1
    refine Eq.trans (filterMap_same fun n hn' => ?_) ih
    have : (n == m) = false := by
      simp only [beq_eq_false_iff_ne]
      rintro rfl; exact h1 hn'
    rw [this]
private theorem binds_loop : ∀ (l : List (Str × Value)) (sl : List (Str × Value)),(∀ p ∈ l,(sl.lookup p.1).isSome = true) →
    (forIn l sl fun (x : Str × Value) (r : List (Str × Value)) => (if (r.lookup x.1).isNone = true then (pure (ForInStep.yield (r ++ [(x.1,x.2)])) : Sem _) else pure (ForInStep.yield r))) = pure sl
  | [],sl,_ => rfl
  | p :: l,sl,h => by
    rw [List.forIn_cons]
    have h1 := h p (.head _)
    rw [if_neg (by simpa [Option.isNone_iff_eq_none,Option.isSome_iff_ne_none] using h1)]
    exact binds_loop l sl fun q hq => h q (.tail _ hq)
private theorem bind_plain {f : FuncData} {ns : List Str} {vs : List Value} (hp : parOk f.params ns = true) (hl : vs.length = ns.length) :
    bindArgs f ⟨vs,[]⟩ = (seqItems? f.defaults >>= fun u_ => pure (ns.zip vs)) := by
  simp only [parOk,Bool.and_eq_true,List.isEmpty_iff,Option.isNone_iff_eq_none,decide_eq_true_eq] at hp
  obtain ⟨⟨⟨⟨⟨p1,p2⟩,p3⟩,p4⟩,p5⟩,p6⟩ := hp
  unfold bindArgs
  simp only [p1,p2,p3,p4,p5,List.map_nil,List.nil_append,List.append_nil,List.forIn_nil]
  refine congrArg (seqItems? f.defaults >>= ·) (funext fun d => ?_)
  dsimp only
  rw [if_neg (by simp [hl])]
  have hm : ∀ l : List Str,(∀ x ∈ l,x ∈ ns) → (l.filter fun n => ((ns.zip vs).lookup n).isNone) = [] := fun l h => by
    rw [List.filter_eq_nil_iff]
    intro x hx
    have := lookup_zip hl (h x hx)
    simpa [Option.isNone_iff_eq_none,Option.isSome_iff_ne_none] using this
  rw [if_neg (by rw [hm _ fun x hx => List.mem_of_mem_take hx]; simp)]
  rw [binds_loop _ _ fun p hp => lookup_zip hl (List.mem_of_mem_drop (List.of_mem_zip (a := p.1) (b := p.2) hp).1)]
  show (pure _ : Sem _) = _
  rw [filterMap_zip p6 hl]

private theorem binds_of {K : Frag} {f : FuncData} {ns : List Str} {vs : List Value} {s : Shared} (hK : K.In s.heap) (hd : dfOk K f.defaults = true) (hp : parOk f.params ns = true) (hl : vs.length = ns.length) : BindsTo s f ⟨vs,[]⟩ (ns.zip vs) := by
  have e := bind_plain (f := f) hp hl
  unfold dfOk at hd
  split at hd
  · rename_i q
    refine .of_eq ?_
    rw [e,q]
    rfl
  · rename_i a q
    split at hd
    · rename_i cl d xs n sl ho
      exact .of_defaults q (hK _ _ ho) rfl e rfl
    · cases hd
  · cases hd
private theorem bindArgs_of {f : FuncData} {ns : List Str} {vs : List Value} (hd : isNone f.defaults = true) (hp : parOk f.params ns = true) (hl : vs.length = ns.length) : bindArgs f ⟨vs,[]⟩ = pure (ns.zip vs) := by
  have e := bind_plain (f := f) hp hl
  have q : f.defaults = .none := by
    unfold isNone at hd
    split at hd
    · assumption
    · cases hd
  rw [e,q]
  rfl
private theorem fnOk_of {c : Cx} (hnm : c.nm = nm) (hK : c.K.In c.h₀) {a : Addr} {fd : FD} (h : fnChk c.K a fd = true) : ∃ fdata o body,FnOk c fd a fdata o body := by
  unfold fnChk at h
  split at h
  · rename_i cl d f sl ho
    split at h
    · rename_i body hb
      simp only [Bool.and_eq_true,Bool.not_eq_true',decide_eq_true_eq,List.all_eq_true,Bool.or_eq_true,List.isEmpty_iff] at h
      obtain ⟨⟨⟨⟨⟨⟨⟨⟨⟨⟨h1,h2⟩,h3⟩,h4⟩,h5⟩,h6⟩,h7⟩,h8⟩,h9⟩,h10⟩,h11⟩ := h
      refine ⟨f,⟨cl,d,.func f,sl⟩,body,?_⟩
      exact {
        at_ := hK _ _ ho
        data := rfl
        bodyEq := hb
        code := codeRec_of hK h1
        bind := fun s vs hk hl => by rw [hnm]; exact binds_of (hK.keeps hk) h3 h2 (by simpa using hl)
        co := h4
        gen := h5
        kind := h6
        glob := Nat.eq_of_beq_eq_true h7
        blt := Nat.eq_of_beq_eq_true h8
        pars := fun n hn => by rw [hnm]; exact h9 n hn
        ag := by rw [hnm]; exact h10
        cells := by
          rcases h11 with h11 | h11
          · exact .inl ⟨h11.1,h11.2⟩
          · refine .inr ⟨fun vs hl => by rw [hnm]; exact bindArgs_of h11.1.1.1 h2 (by simpa using hl),h11.1.1.2,h11.1.2,fun n hn => by rw [hnm]; exact h11.2 n hn⟩ }
    · cases h
  · cases h
private theorem look1_mem {α : Type} {a : Nat} {x : α} : ∀ {l : List (Nat × α)},look1 a l = some x → (a,x) ∈ l
  | [],h => by cases h
  | (b,y) :: r,h => by
    unfold look1 at h
    split at h
    · rename_i q; cases h; subst q; exact .head _
    · exact .tail _ (look1_mem h)
private theorem look2_mem {C f g : Nat} : ∀ {l : List (Addr × Nat × Addr)},look2 C f l = some g → (C,f,g) ∈ l
  | [],h => by cases h
  | (a,b,y) :: r,h => by
    unfold look2 at h
    split at h
    · rename_i q; cases h; obtain ⟨rfl,rfl⟩ := q; exact .head _
    · exact .tail _ (look2_mem h)
private theorem has2_mem {C f : Nat} : ∀ {l : List (Addr × Nat)},has2 C f l = true → (C,f) ∈ l
  | [],h => by cases h
  | (a,b) :: r,h => by
    unfold has2 at h
    split at h
    · rename_i q; obtain ⟨rfl,rfl⟩ := q; exact .head _
    · exact .tail _ (has2_mem h)
private theorem fns_of {c : Cx} (hnm : c.nm = nm) (hT : c.T = tbl) (hK : c.K.In c.h₀) (h : chk5 c.K = true) : Fns c := by
  intro a fd hf
  rw [hT] at hf
  have := List.all_eq_true.mp h _ (look1_mem hf)
  simp only [Bool.and_eq_true,Bool.not_eq_true'] at this
  exact ⟨this.2,fnOk_of hnm hK this.1.2⟩
private theorem fnNoCell {c : Cx} (hK : c.K.In c.h₀) {a : Addr} {p : Scope → List PySem.Stmt → Bool} (h : headChk c.K a p = true) {fd : FD} {fdata : FuncData} {o : PySem.Obj} {body : List PySem.Stmt} (F : FnOk c fd a fdata o body) : (∀ x ∈ fdata.scope.names,x.2 ≠ .cell) ∧ p fdata.scope body = true := by
  unfold headChk at h
  split at h
  · rename_i f sl ho
    have e1 := hK _ _ ho
    rw [F.at_] at e1
    cases e1
    have e2 := F.data
    cases e2
    rw [F.bodyEq] at h
    simp only [Bool.and_eq_true,List.all_eq_true,decide_eq_true_eq] at h
    exact h
  · cases h
private theorem exk_of {c : Cx} (hnm : c.nm = nm) (hT : c.T = tbl) (hK : c.K.In c.h₀) (h : chk8 c.K = true) (h5 : chk5 c.K = true) : Exk c := by
  simp only [chk8,Bool.and_eq_true] at h
  obtain ⟨⟨⟨⟨⟨⟨⟨⟨⟨⟨⟨⟨⟨h1,h2⟩,h3⟩,h4⟩,h5'⟩,h6⟩,h7⟩,h8⟩,h9⟩,h10⟩,h11⟩,h12⟩,h13⟩,_⟩ := h
  obtain ⟨f35,o35,b35,F35⟩ := fnOk_of hnm hK h11
  obtain ⟨_,f293,o293,b293,F293⟩ := fns_of hnm hT hK h5 293 fd_Tokenizer_step (by rw [hT]; rfl)
  exact {
    cls := by
      obtain ⟨⟨c0,dd,dt,sl⟩,ho,h1⟩ := oS_i (F := excO) h1
      replace h1 := Bool.and_eq_true_iff.mp h1
      obtain ⟨hcc,h1⟩ := h1
      have hc0 : c0 = .type "type" := beq_iff_eq.mp hcc
      clear hcc
      replace h1 := dCls_i h1
      obtain ⟨cd,rfl,h1⟩ := h1
      replace h1 := o6_i h1
      obtain ⟨k0,k1,k2,k3,e,k5,hs,h1⟩ := h1
      unfold excC at h1
      simp only [Bool.and_eq_true,beq_iff_eq,Bool.not_eq_true'] at h1
      obtain ⟨⟨⟨rfl,hdel⟩,hdi⟩,hm⟩ := h1
      obtain ⟨cn,bs,mro,ns,qn,hd,sn,sub,ab,col,del⟩ := cd
      dsimp only at hm hdel hdi
      subst hm hdel hdi hc0
      have hsl : sl = #[k0,k1,k2,k3,some (.builtin "Exception.__new__"),k5] := by
        obtain ⟨l⟩ := sl
        simp only at hs
        rw [hs]
      subst hsl
      exact ⟨_,_,_,_,_,_,_,_,_,_,_,_,_,_,ho⟩
    mis := eqv_spec h2
    exc := isNo_spec h3
    sat := eqb_spec h4
    gat := eqb_spec h5'
    hook := isNo_spec h6
    ini := eqv_spec h7
    why := isNo_spec h8
    fni := beq_iff_eq.mp h9
    kep := h10
    fn35 := ⟨_,f35,o35,b35,rfl,F35,(fnNoCell hK h12 F35).1,(fnNoCell hK h12 F35).2⟩
    step := ⟨_,f293,o293,b293,rfl,F293,(fnNoCell hK h13 F293).1,by rw [hnm]; exact (fnNoCell hK h13 F293).2⟩
    meth := by rw [hT]; rfl
    fld := by rw [hT]; exact ⟨rfl,rfl⟩
    nms := by
      rw [hnm]
      refine ⟨by decide +kernel,by decide +kernel,fun n => ?_⟩
      unfold nm nmOf
      split
      · rename_i s hs
        have q : nmL.all (fun s => !(s == ("fault" : Str))) = true := by decide +kernel
        have := List.all_eq_true.mp q s (List.mem_of_getElem? hs)
        rintro rfl
        simp at this
      · intro q
        have := congrArg (fun s : Str => s.cps.size) q
        exact absurd this (by show ¬ (1 = 5); decide) }
private theorem st_of {c : Cx} (hnm : c.nm = nm) (hT : c.T = tbl) (hK : c.K.In c.h₀) (g : c.h₀.Ns mainGlobals c.mg) (b : c.h₀.Ns builtinsNs c.mb) (lim : c.h₀.NoLimit) (sys : ∃ o,c.h₀.get? sysModules = some o)
    (boot : ∀ x : Str,x ≠ "__name__" → c.mb x = bootBuiltins x) (h : chk c.K = true) : St c := by
  simp only [chk,Bool.and_eq_true] at h
  obtain ⟨⟨⟨⟨⟨⟨⟨⟨_,_⟩,h1⟩,h2⟩,h3⟩,h4⟩,h5⟩,h6⟩,h7⟩ := h
  simp only [chk1,Bool.and_eq_true] at h1
  have cls : ∀ C ∈ clsL,(plainGet c.K C "" = true ∧ hasDictIn c.K C = true) ∧ findIn c.K (.ref C) "__setattr__" = some (some (.builtin "object.__setattr__")) ∧ plainOver c.K C = true := fun C hC => by
    have := List.all_eq_true.mp h3 C hC
    simp only [Bool.and_eq_true] at this
    exact ⟨this.1.1,eqb_spec this.1.2,this.2⟩
  have hm : ∀ p ∈ methL,p.1 ∈ clsL := by decide
  have hf : ∀ p ∈ fieldL,p.1 ∈ clsL := by decide
  exact {
    K := hK,g := g,b := b,lim := lim,sys := sys,boot := boot
    glo := fun n d e => by
      rw [hT] at e
      obtain ⟨a,e1,rfl⟩ := Option.map_eq_some_iff.mp e
      refine ⟨a,rfl,?_⟩
      rw [hnm]
      exact eqv_spec (List.all_eq_true.mp h1.1 _ (look1_mem e1))
    noB := fun x hx => isNo_spec (List.all_eq_true.mp h1.2 x hx)
    meth := fun C f g e => by
      rw [hT] at e
      have e := look2_mem e
      have := List.all_eq_true.mp h2 _ e
      simp only [Bool.and_eq_true] at this
      rw [hnm]
      exact ⟨⟨eqv_spec this.1.1,this.1.2⟩,(cls C (hm _ e)).1.1,this.2⟩
    field := fun C f e => by
      rw [hT] at e
      have e := has2_mem e
      have h0 := isNo_spec (List.all_eq_true.mp h4 _ e)
      rw [hnm]
      exact ⟨⟨h0,by unfold takerIn; rw [h0]; rfl⟩,cls C (hf _ e)⟩
    fnK := fun a fd e => by
      rw [hT] at e
      have := List.all_eq_true.mp h5 _ (look1_mem e)
      simp only [Bool.and_eq_true] at this
      exact this.1.1
    init := fun C g e => by
      rw [hT] at e
      have := List.all_eq_true.mp h6 _ (look1_mem e)
      simp only [Bool.and_eq_true] at this
      exact ⟨this.1.1.1,eqv_spec this.1.1.2,this.1.2,this.2⟩ }
end Mine
end
section
open PySem PySem.W PyProof.Rows
namespace Mine
section
variable {c : Cx} {n : Nat} {C : CallT}
noncomputable def Hp.one (a : Addr) (O : AO) : Hp := fun b => if b = a then some O else none
private theorem top_ok {fd : FD} {fa : Addr} {fdata : FuncData} {o : Obj} {body : List PySem.Stmt} (S : St c) (F : FnOk c fd fa fdata o body) (hcs : fd.cells ≠ []) (hb : SsS c n C fd.body) {A : Around} {a : Addr} {lo : Obj} {vs : List Value} {m : Nat} {xs : List D} {K : K1} {ρ₁ : Ev} {s : Shared} {RR : Result → Shared → Prop}
    (hA : AC (n + 1) A) (hfr : A.frames = some []) (hn : 10 ≤ n) (hp : bindP fd.params [.ref a] Ev.empty = some ρ₁)
    (hw : enter fd.cells ρ₁ (Hp.one a (.givn lo xs)) (fun ρ H => fd.body.wp c.T C ρ (fun fl u_ H => match fl with | .ret d => K d H | .next => K .none H | .cont => False) H))
    (hv : VRs vs xs) (hlc : lo.cls = .type "list") (hld : lo.data = .seq (List.toArray vs) m) (hg : s.heap.get? a = some lo) (ha : c.h₀.get? a = none) (h01 : ∀ b o,c.h₀.get? b = some o → s.heap.get? b = some o) (h10 : ∀ b o,b ≠ a → s.heap.get? b = some o → c.h₀.get? b = some o)
    (os : s.os = c.os) (gens : s.gens = c.gens) (hK : ∀ d H',K d H' → d = .bool true ∧ H' a = some (.givn lo xs))
    (k : ∀ s',(∀ b o,s.heap.get? b = some o → s'.heap.get? b = some o) → s'.os = s.os → s'.gens = s.gens → RR (.ok (.ret (.bool true))) s') : codeAny (model c.prog c.w) A (.call (.ref fa) ⟨[.ref a],[]⟩) RR s := by
  obtain ⟨hup,hρc,hlen⟩ := bind_up c.inj fd.params [.ref a] [.ref a] Ev.empty ρ₁ (fun u_ => none) hp (by simp [VRs,er]) (fun n d e => by cases e)
  have hlv : [Value.ref a].length = fd.params.length := by rw [hlen]; rfl
  have hroom : A.depth < recursionLimit := by have := hA.depth; unfold recursionLimit; lia
  have hlim : s.heap.NoLimit := S.lim.keeps h01
  have hcd : s.heap.CodeRec fdata.code fdata.qualname := F.code.keeps h01
  have hbl : ∀ x ∈ (fd.params.map c.nm).zip [Value.ref a],fdata.scope.names.lookup x.1 = some .local := fun x hx => by
    obtain ⟨m,hm,e⟩ := List.mem_map.mp (List.of_mem_zip (a := x.1) (b := x.2) hx).1
    rw [← e]; exact F.pars m hm
  have hB : c.h₀.get? s.heap.objs.size = none := by
    cases q : c.h₀.get? s.heap.objs.size with
    | none => rfl
    | some o => exact absurd (Heap.lt_size (h01 _ _ q)) (Nat.lt_irrefl _)
  have hal : a < s.heap.objs.size := Heap.lt_size hg
  have hone : ∀ b O,Hp.one a (.givn lo xs) b = some O → b = a ∧ O = .givn lo xs := fun b O e => by
    unfold Hp.one at e
    split at e
    · rename_i q; cases e; exact ⟨q,rfl⟩
    · cases e
  have hone0 : ∀ b,b ≠ a → Hp.one a (.givn lo xs) b = none := fun b hb => by unfold Hp.one; rw [if_neg hb]
  rcases F.cells with ⟨hc0,_⟩ | ⟨hbd,hclo,hnd,hcs'⟩
  · exact absurd hc0 hcs
  refine codeAny_call_cells hroom (h01 _ _ F.at_) F.data hlim hcd F.bodyEq (hbd _ hlv) hclo (fun x hx => .inl (hbl x hx)) (fun s₁ x₁ => ?_) F.co F.gen F.kind
  obtain ⟨h₁,tk,rfl⟩ := x₁.toInCall.same
  have hk := x₁.toInCall.keep
  have hkl : ∀ p ∈ (fd.params.map c.nm).zip [Value.ref a],(callEnvC fdata s.heap.objs.size fa).kindOf p.1 = some .local := hbl
  have hn := x₁.toInCall.ns
  rw [bindL_up _ _ hkl] at hn
  have r2 : R c c.h₀.get? (callEnvC fdata s.heap.objs.size fa) ρ₁ (Hp.one a (.givn lo xs)) { s with heap := h₁,toks := tk } := {
    fz := fun b o e => ⟨hk _ _ (h01 b o e),hone0 b (by rintro rfl; rw [ha] at e; cases e)⟩
    ob := fun b O e => by
      obtain ⟨rfl,rfl⟩ := hone b O e
      exact ⟨_,hk _ _ hg,rfl,hlc,vs,m,hld,hv⟩
    base := fun b o e => e
    loc := ⟨_,hn,hup⟩
    LB := hB
    LH := hone0 _ (Nat.ne_of_gt hal)
    cel := fun n a e => by rw [hρc] at e; cases e
    os := os
    gens := gens }
  have hcell := x₁.cell
  rw [bindC_up _ _ hkl] at hcell
  obtain ⟨ρ2,H2,hw2,r3⟩ := enter_snd fd.cells ρ₁ _ hw r2 hnd (fun x hx => by
    have hs : ∃ b,(callEnvC fdata s.heap.objs.size fa).cells.lookup (c.nm x) = some b := by
      exact Option.isSome_iff_exists.mp (cellsFrom_some fdata.scope.names _ [] (.inl (hcs' x hx)))
    obtain ⟨b,hb⟩ := hs
    have hab := x₁.above _ _ (mem_of_lookup hb)
    have hab' : s.heap.objs.size < b := hab
    refine ⟨b,hb,hcell _ _ hb,?_,hone0 _ (Nat.ne_of_gt (Nat.lt_trans hal hab')),Ne.symm (Nat.ne_of_lt hab)⟩
    cases q : c.h₀.get? b with
    | none => rfl
    | some o => exact absurd (Heap.lt_size (h01 _ _ q)) (Nat.not_lt.mpr (Nat.le_of_lt hab'))) (fun x y b hxy h1 h2 => hxy (c.inj _ _ (name_of_addr x₁.apart (mem_of_lookup h1) (mem_of_lookup h2))))
  have fin : ∀ (ρ₂ : Ev) (H' : Hp) (fl : Fl) (f : Flow) (s' : Shared),(match fl with | .ret d => K d H' | .next => K .none H' | .cont => False) → FR fl f → R c c.h₀.get? (callEnvC fdata s.heap.objs.size fa) ρ₂ H' s' → RR (.ok (.ret (match f with | .ret v => v | _ => .none))) s' := by
    intro ρ₂ H' fl f s' hk' hF r'
    have done : H' a = some (.givn lo xs) → RR (.ok (.ret (.bool true))) s' := fun e => by
      refine k s' (fun b o hb => ?_) (r'.os.trans os.symm) (r'.gens.trans gens.symm)
      by_cases q : b = a
      · subst q
        obtain ⟨o',h1,h2,_⟩ := r'.ob _ _ e
        subst h2
        rw [hg] at hb; cases hb; exact h1
      · exact (r'.fz b o (h10 b o q hb)).1
    cases fl with
    | next => have := (hK _ _ hk').1; cases this
    | cont => exact hk'.elim
    | ret d =>
      obtain ⟨v,rfl,hv⟩ := hF.ret
      obtain ⟨rfl,e⟩ := hK _ _ hk'
      cases hv.bool
      exact done e
  refine noE_mono (hb _ fdata.scope _ _ ρ2 body _ H2 _ _ ⟨hA.handled,?_,?_⟩ ⟨rfl,F.kind,F.glob,F.blt⟩ (fun u_ => ⟨Around.frames_deeper hfr,rfl,?_,?_⟩) F.ag hw2 r3 fun fl ρ2 H2 f s2 hf hF r2 => fin ρ2 H2 fl f s2 hf hF r2)
  · show A.depth + 1 + 2 * n + 3 ≤ 990; have := hA.depth; lia
  · show A.units + 3 + 20 * n + 200 ≤ 9800; have := hA.units; lia
  · show A.depth + 1 + 10 ≤ 990; have := hA.depth; lia
  · show A.units + 3 + 300 ≤ 9800; have := hA.units; lia
end
end Mine
end
section
open PySem
namespace Mine
section
variable {H H' H'' : Hp} {a b : Addr} {O : AO}
noncomputable def Ext (H H' : Hp) : Prop := ∀ b O,H b = some O → H' b = some O
private theorem set_self : (H.set a O) a = some O := by unfold Hp.set; exact if_pos rfl
private theorem set_ne (h : b ≠ a) : (H.set a O) b = H b := by unfold Hp.set; exact if_neg h
private theorem ne_fresh (h : H b = some O) (hb : H a = none) : b ≠ a := by rintro rfl; rw [hb] at h; cases h
private theorem Ext.refl (H : Hp) : Ext H H := fun u_ u_ h => h
private theorem Ext.trans (h : Ext H H') (k : Ext H' H'') : Ext H H'' := fun b O e => k b O (h b O e)
private theorem Ext.set (h : H a = none) : Ext H (H.set a O) := fun b O' e => (set_ne (ne_fresh e h)).trans e
noncomputable def TL (H H' : Hp) : Prop := ∀ b xs,H b = some (.tuple xs) → H' b = some (.tuple xs)
private theorem TL.set (h : ∀ xs,H a = some (.tuple xs) → False) : TL H (H.set a O) := fun b xs e => (set_ne (by rintro rfl; exact h xs e)).trans e
private theorem Ext.tl (h : Ext H H') : TL H H' := fun b xs e => h _ _ e
mutual
noncomputable def flatT : Tr → Bool
  | .tuple l => flatTs l
  | .list _ => false
  | .none => true
  | .bool _ => true
  | .int _ => true
  | .str _ => true
noncomputable def flatTs : List Tr → Bool
  | [] => true
  | t :: r => flatT t && flatTs r
end
private theorem flatTs_app {l r : List Tr} : flatTs (l ++ r) = (flatTs l && flatTs r) := by
  induction l with
  | nil => rfl
  | cons t l ih => simp [flatTs,ih,Bool.and_assoc]
private theorem Rds.nil : Rds H [] [] := by unfold Rds; rfl
private theorem Rds.cons {t : Tr} {x : D} {ts : List Tr} {xs : List D} (h : Rd H t x) (k : Rds H ts xs) : Rds H (t :: ts) (x :: xs) := by unfold Rds; exact ⟨x,xs,rfl,h,k⟩
private theorem Rds.one {t : Tr} {x : D} (h : Rd H t x) : Rds H [t] [x] := .cons h .nil
private theorem Rd.tup {ts : List Tr} {xs : List D} (h : H b = some (.tuple xs)) (k : Rds H ts xs) : Rd H (.tuple ts) (.ref b) := by unfold Rd; exact ⟨b,xs,rfl,h,k⟩
private theorem Rd.lis {ts : List Tr} {xs : List D} (h : H b = some (.list xs)) (k : Rds H ts xs) : Rd H (.list ts) (.ref b) := by unfold Rd; exact ⟨b,xs,rfl,h,k⟩
private theorem rd_str {s : List Nat} : Rd H (.str s) (.str s) := by unfold Rd; rfl
private theorem rd_int {i : Int} : Rd H (.int i) (.int i) := by unfold Rd; rfl
private theorem rd_bool {i : Bool} : Rd H (.bool i) (.bool i) := by unfold Rd; rfl
private theorem rd_none : Rd H .none .none := by unfold Rd; rfl
private theorem Rds.inv {t : Tr} {ts : List Tr} {xs : List D} (h : Rds H (t :: ts) xs) : ∃ x r,xs = x :: r ∧ Rd H t x ∧ Rds H ts r := by unfold Rds at h; exact h
private theorem Rds.inv0 {xs : List D} (h : Rds H [] xs) : xs = [] := by unfold Rds at h; exact h
private theorem Rd.invT {ts : List Tr} {d : D} (h : Rd H (.tuple ts) d) : ∃ a xs,d = .ref a ∧ H a = some (.tuple xs) ∧ Rds H ts xs := by unfold Rd at h; exact h
private theorem Rd.invL {ts : List Tr} {d : D} (h : Rd H (.list ts) d) : ∃ a xs,d = .ref a ∧ H a = some (.list xs) ∧ Rds H ts xs := by unfold Rd at h; exact h
private theorem Rd.invS {s : List Nat} {d : D} (h : Rd H (.str s) d) : d = .str s := by unfold Rd at h; exact h
private theorem Rd.invI {s : Int} {d : D} (h : Rd H (.int s) d) : d = .int s := by unfold Rd at h; exact h
private theorem Rd.invB {s : Bool} {d : D} (h : Rd H (.bool s) d) : d = .bool s := by unfold Rd at h; exact h
private theorem Rd.invN {d : D} (h : Rd H .none d) : d = .none := by unfold Rd at h; exact h
private theorem Rds.len : ∀ {ts : List Tr} {xs : List D},Rds H ts xs → xs.length = ts.length
  | [],xs,h => by simp [h.inv0]
  | t :: ts,xs,h => by
    obtain ⟨x,r,rfl,_,k⟩ := h.inv
    simp [k.len]
private theorem Rds.snoc {u : Tr} {d : D} : ∀ {ts : List Tr} {xs : List D},Rds H ts xs → Rd H u d → Rds H (ts ++ [u]) (xs ++ [d])
  | [],xs,h,k => by rw [h.inv0]; exact .one k
  | t :: ts,xs,h,k => by
    obtain ⟨x,r,rfl,h1,h2⟩ := h.inv
    exact .cons h1 (h2.snoc k)
private theorem Rds.app {us : List Tr} {ys : List D} (k : Rds H us ys) : ∀ {ts : List Tr} {xs : List D},Rds H ts xs → Rds H (ts ++ us) (xs ++ ys)
  | [],xs,h => by rw [h.inv0]; exact k
  | t :: ts,xs,h => by
    obtain ⟨x,r,rfl,h1,h2⟩ := h.inv
    exact .cons h1 (Rds.app k h2)
mutual
private theorem Rd.ext (h : Ext H H') : ∀ (t : Tr) (d : D),Rd H t d → Rd H' t d
  | .none,d,k => by rw [k.invN]; exact rd_none
  | .bool _,d,k => by rw [k.invB]; exact rd_bool
  | .int _,d,k => by rw [k.invI]; exact rd_int
  | .str _,d,k => by rw [k.invS]; exact rd_str
  | .tuple l,d,k => by
    obtain ⟨a,xs,rfl,e,q⟩ := k.invT
    exact .tup (h _ _ e) (Rds.ext h l xs q)
  | .list l,d,k => by
    obtain ⟨a,xs,rfl,e,q⟩ := k.invL
    exact .lis (h _ _ e) (Rds.ext h l xs q)
private theorem Rds.ext (h : Ext H H') : ∀ (ts : List Tr) (xs : List D),Rds H ts xs → Rds H' ts xs
  | [],xs,k => by rw [k.inv0]; exact .nil
  | t :: ts,xs,k => by
    obtain ⟨x,r,rfl,h1,h2⟩ := k.inv
    exact .cons (Rd.ext h t x h1) (Rds.ext h ts r h2)
end
mutual
private theorem Rd.tl (h : TL H H') : ∀ (t : Tr) (d : D),flatT t = true → Rd H t d → Rd H' t d
  | .none,d,_,k => by rw [k.invN]; exact rd_none
  | .bool _,d,_,k => by rw [k.invB]; exact rd_bool
  | .int _,d,_,k => by rw [k.invI]; exact rd_int
  | .str _,d,_,k => by rw [k.invS]; exact rd_str
  | .tuple l,d,f,k => by
    obtain ⟨a,xs,rfl,e,q⟩ := k.invT
    simp only [flatT] at f
    exact .tup (h _ _ e) (Rds.tl h l xs f q)
  | .list l,d,f,k => by simp [flatT] at f
private theorem Rds.tl (h : TL H H') : ∀ (ts : List Tr) (xs : List D),flatTs ts = true → Rds H ts xs → Rds H' ts xs
  | [],xs,_,k => by rw [k.inv0]; exact .nil
  | t :: ts,xs,f,k => by
    obtain ⟨x,r,rfl,h1,h2⟩ := k.inv
    simp only [flatTs,Bool.and_eq_true] at f
    exact .cons (Rd.tl h t x f.1 h1) (Rds.tl h ts r f.2 h2)
end
end
end Mine
end
section
open PySem
namespace Mine

private theorem c_eq_ss {s t : List Nat} : cmpop .eq (.str s) (.str t) = some (decide (s = t)) := rfl
private theorem c_ne_ss {s t : List Nat} : cmpop .ne (.str s) (.str t) = some (!decide (s = t)) := rfl
private theorem c_eq_ii {s t : Int} : cmpop .eq (.int s) (.int t) = some (decide (s = t)) := rfl
private theorem c_ne_bb {s t : Bool} : cmpop .ne (.bool s) (.bool t) = some (!decide (s = t)) := rfl
private theorem c_lt_ii {s t : Int} : cmpop .lt (.int s) (.int t) = some (decide (s < t)) := rfl
private theorem c_le_ii {s t : Int} : cmpop .le (.int s) (.int t) = some (decide (s ≤ t)) := rfl
private theorem c_gt_ii {s t : Int} : cmpop .gt (.int s) (.int t) = some (decide (t < s)) := rfl
private theorem c_ge_ii {s t : Int} : cmpop .ge (.int s) (.int t) = some (decide (t ≤ s)) := rfl
private theorem c_lt_ss {s t : List Nat} : cmpop .lt (.str s) (.str t) = some (decide (s < t)) := rfl
private theorem c_le_ss {s t : List Nat} : cmpop .le (.str s) (.str t) = some (!decide (t < s)) := rfl
private theorem c_is {d : D} : cmpop .is_ d .none = some (decide (d = .none)) := by cases d <;> rfl
private theorem c_isnot {d : D} : cmpop .isnot d .none = some (!decide (d = .none)) := by cases d <;> rfl
private theorem b_add_ii {s t : Int} : binop .add (.int s) (.int t) = some (.int (s + t)) := rfl
private theorem b_sub_ii {s t : Int} : binop .sub (.int s) (.int t) = some (.int (s - t)) := rfl
private theorem b_mod_ii {s t : Int} : binop .mod (.int s) (.int t) = if 0 < t ∧ t.toNat < 2000000 then some (.int (s.fmod t)) else none := rfl
private theorem b_fdiv_ii {s t : Int} : binop .fdiv (.int s) (.int t) = if 0 < t ∧ t.toNat < 2000000 then some (.int (s.fdiv t)) else none := rfl
private theorem b_add_ss {s t : List Nat} : binop .add (.str s) (.str t) = if s.length + t.length ≤ big then some (.str (s ++ t)) else none := rfl
private theorem b_add_rr {s t : Addr} : binop .add (.ref s) (.ref t) = none := rfl
noncomputable def isBlankP (s : List Nat) : Bool := decide (s ∈ [[9],[10],[12],[32]])
noncomputable def isLetterP (s : List Nat) : Bool := (!decide (s < [97]) && !decide ([122] < s)) || (!decide (s < [65]) && !decide ([90] < s))

private theorem callP_at {f : Addr} {fd : FD} {n : Nat} {ds : List D} {Q : K1} {H : Hp} (h : tbl.fn f = some fd) : callP tbl (n + 1) f ds Q H = kP tbl (callP tbl n) fd.cells fd.body Q H (bindP fd.params ds Ev.empty) := by
  rw [callP_s,h]
private theorem is_letter_c {n : Nat} {s : List Nat} {Q : K1} {H : Hp} (h : Q (.bool (isLetterP s)) H) : callP tbl (n + 1) 74 [.str s] Q H := by
  rw [callP_at fn_is_letter]; simp only [bP0,bP1,kPe,en0,↓fWe,↓ss_cons,↓s_ret,↓x_str,↓x_loc,↓x_chain,↓x_bop,↓f26e,↓f27e,↓xb_cons,put_v,bT,Nat.reduceBEq,emp_v,c_le_ss,fd_is_letter,b_is_letter,kOe]
  unfold isLetterP at h
  cases h1 : decide (s < [97]) <;> cases h2 : decide ([122] < s) <;> cases h3 : decide (s < [65]) <;> cases h4 : decide ([90] < s) <;> simp only [h1,h2,h3,h4,Bool.not_true,Bool.not_false,Bool.and_true,Bool.and_false,Bool.or_true,Bool.or_false,↓x_chain,↓x_str,↓x_loc,↓f25e,↓f26e,↓f27e,↓f30e,↓f47e,↓f56e,↓xb_nil,↓xb_cons,c_le_ss,↓f59r,↓fCr,kOe,kBe,k26t,k26f,k47ff,k47ft,put_v,bT,Nat.reduceBEq] at h ⊢ <;> exact h
private theorem is_upper_c {n : Nat} {s : List Nat} {Q : K1} {H : Hp} (h : Q (.bool (!decide (s < [65]) && !decide ([90] < s))) H) : callP tbl (n + 1) 67 [.str s] Q H := by
  rw [callP_at fn_is_upper]; simp only [bP0,bP1,kPe,en0,↓fWe,↓ss_cons,↓s_ret,↓x_str,↓x_loc,↓x_chain,↓f26e,↓f27e,put_v,bT,Nat.reduceBEq,emp_v,c_le_ss,fd_is_upper,b_is_upper,kOe]
  cases h3 : decide (s < [65]) <;> cases h4 : decide ([90] < s) <;> simp only [h3,h4,Bool.not_true,Bool.not_false,Bool.and_true,Bool.and_false,↓x_str,↓f25e,↓f56e,c_le_ss,↓f59r,↓fCr,kBe,k26t,k26f] at h ⊢ <;> exact h
private theorem is_blank_c {n : Nat} {s : List Nat} {Q : K1} {H : Hp} (h : ∀ H',Ext H H' → Q (.bool (isBlankP s)) H') : callP tbl (n + 1) 60 [.str s] Q H := by
  rw [callP_at fn_is_blank]; simp only [bP0,bP1,kPe,en0,↓fWe,↓ss_cons,↓s_ret,↓x_str,↓x_loc,↓x_isin,↓x_tuple,↓f28e,↓f29e,↓f42e,↓f45e,↓f46e,↓xs_nil,↓xs_cons,put_v,bT,Nat.reduceBEq,emp_v,fd_is_blank,b_is_blank,kOe]
  refine ⟨by decide,fun a ha => ?_⟩
  have e : isinD (H.set a (.tuple [.str [9],.str [10],.str [12],.str [32]])) (.str s) (.ref a) = some (isBlankP s) := by
    simp [isinD,isinA,set_self,nodesOf,isBlankP]
  rw [e]
  simpa [↓f56e,↓f59r,↓fCr,k28e] using h _ (Ext.set ha)
end Mine
end
section
open PySem
namespace Mine

noncomputable def statesKV : List (List Nat × D) := [([100,97,116,97],.ref 377),([115,99,114,105,112,116,32,100,97,116,97],.ref 468),([115,99,114,105,112,116,32,100,97,116,97,32,108,101,115,115,45,116,104,97,110,32,115,105,103,110],.ref 475),([115,99,114,105,112,116,32,100,97,116,97,32,101,110,100,32,116,97,103,32,111,112,101,110],.ref 482),([115,99,114,105,112,116,32,100,97,116,97,32,101,110,100,32,116,97,103,32,110,97,109,101],.ref 489),([80,76,65,73,78,84,69,88,84],.ref 496),([82,67,68,65,84,65],.ref 412),([82,67,68,65,84,65,32,108,101,115,115,45,116,104,97,110,32,115,105,103,110],.ref 419),([82,67,68,65,84,65,32,101,110,100,32,116,97,103,32,111,112,101,110],.ref 426),([82,67,68,65,84,65,32,101,110,100,32,116,97,103,32,110,97,109,101],.ref 433),([82,65,87,84,69,88,84],.ref 440),([82,65,87,84,69,88,84,32,108,101,115,115,45,116,104,97,110,32,115,105,103,110],.ref 447),([82,65,87,84,69,88,84,32,101,110,100,32,116,97,103,32,111,112,101,110],.ref 454),([82,65,87,84,69,88,84,32,101,110,100,32,116,97,103,32,110,97,109,101],.ref 461)]

structure TS where
  state : List Nat
  back : List Nat
  buffer : List Nat
  last : List Nat
  at_ : Nat
  out : List Tr
  errs : List Tr
  draft : Option (List Nat)
  done : Bool
  closed : Bool
  signs : List Nat
  seB : Nat
structure Ad where
  dx : Addr
  s : Addr
  sx : Addr
  out : Addr
  err : Addr
  sg : Addr
  se : Addr
  st : Addr
  da : Addr
  ddx : Addr
  dat : Addr
noncomputable def draftD (a : Ad) : Option (List Nat) → D
  | some _ => .ref a.da
  | none => .none
noncomputable def fsT (a : Ad) (σ : TS) : List (Nat × D) := [(14,.ref a.st),(25,.ref a.s),(24,.int σ.at_),(15,.str σ.state),(23,.str σ.back),(22,.ref a.out),(7,.ref a.err),(21,draftD a σ.draft),(20,.str σ.buffer),(12,.int 0),(16,.str σ.last),(19,.bool false),(18,.bool false),(17,.bool σ.done)]
noncomputable def fsS (a : Ad) (closed : Bool) : List (Nat × D) := [(10,.ref a.sg),(9,.bool closed),(8,.bool false),(7,.ref a.se)]
noncomputable def fsD (a : Ad) (nm : List Nat) : List (Nat × D) := [(32,.str [101,110,100]),(36,.str nm),(11,.str []),(43,.none),(42,.none),(41,.bool false),(33,.bool false),(35,.ref a.dat)]
noncomputable abbrev sgs (l : List Nat) : List D := l.map fun c => .str [c]

structure DrAt (P H : Hp) (a : Ad) (nm : List Nat) : Prop where
  inst : H a.da = some (.inst 366 a.ddx)
  fs : H a.ddx = some (.attrs (fsD a nm))
  dat : H a.dat = some (.list [])
  p : P a.ddx = none
  ndx : a.ddx ≠ a.dx
  nsx : a.ddx ≠ a.sx
  nout : a.dat ≠ a.out
  nerr : a.dat ≠ a.err
  nsg : a.dat ≠ a.sg
  nse : a.dat ≠ a.se
structure TokAt (P H : Hp) (t : Addr) (σ : TS) (a : Ad) : Prop where
  inst : H t = some (.inst 310 a.dx)
  fs : H a.dx = some (.attrs (fsT a σ))
  sinst : H a.s = some (.inst 147 a.sx)
  sfs : H a.sx = some (.attrs (fsS a σ.closed))
  out : ∃ xs,H a.out = some (.list xs) ∧ Rds H σ.out xs
  err : ∃ xs,H a.err = some (.list xs) ∧ Rds H σ.errs xs
  sg : H a.sg = some (.list (sgs σ.signs))
  se : ∃ xs,H a.se = some (.list xs) ∧ xs.length ≤ σ.seB
  st : H a.st = some (.dict statesKV)
  draft : ∀ nm,σ.draft = some nm → DrAt P H a nm
  flat : flatTs σ.out = true ∧ flatTs σ.errs = true
  sub : Ext P H
  pdx : P a.dx = none
  psx : P a.sx = none
  pout : P a.out = none
  perr : P a.err = none
  psg : P a.sg = none
  pse : P a.se = none
  n1 : a.out ≠ a.err
  n2 : a.out ≠ a.sg
  n3 : a.out ≠ a.se
  n4 : a.err ≠ a.sg
  n5 : a.err ≠ a.se
  n6 : a.sg ≠ a.se
  n7 : a.dx ≠ a.sx

private theorem ne_of_kind {H : Hp} {a b : Addr} {O O' : AO} (h : H a = some O) (k : H b = some O') (hk : O ≠ O') : a ≠ b := by
  rintro rfl; rw [h] at k; cases k; exact hk rfl
section
variable {P H : Hp} {t : Addr} {σ : TS} {a : Ad}
private theorem TokAt.attrs (T : TokAt P H t σ a) : attrsOf H (.ref t) = some (310,a.dx,fsT a σ) := by simp only [attrsOf,T.inst,T.fs]
private theorem TokAt.sattrs (T : TokAt P H t σ a) : attrsOf H (.ref a.s) = some (147,a.sx,fsS a σ.closed) := by simp only [attrsOf,T.sinst,T.sfs]
private theorem DrAt.attrs {nm} (T : DrAt P H a nm) : attrsOf H (.ref a.da) = some (366,a.ddx,fsD a nm) := by simp only [attrsOf,T.inst,T.fs]
private theorem DrAt.ext {H' : Hp} {nm} (T : DrAt P H a nm) (h : Ext H H') : DrAt P H' a nm := ⟨h _ _ T.inst,h _ _ T.fs,h _ _ T.dat,T.p,T.ndx,T.nsx,T.nout,T.nerr,T.nsg,T.nse⟩
private theorem TokAt.ext {H' : Hp} (T : TokAt P H t σ a) (h : Ext H H') : TokAt P H' t σ a where
  inst := h _ _ T.inst
  fs := h _ _ T.fs
  sinst := h _ _ T.sinst
  sfs := h _ _ T.sfs
  out := let ⟨xs,h1,h2⟩ := T.out; ⟨xs,h _ _ h1,Rds.ext h _ _ h2⟩
  err := let ⟨xs,h1,h2⟩ := T.err; ⟨xs,h _ _ h1,Rds.ext h _ _ h2⟩
  sg := h _ _ T.sg
  se := let ⟨xs,h1,h2⟩ := T.se; ⟨xs,h _ _ h1,h2⟩
  st := h _ _ T.st
  draft := fun nm e => (T.draft nm e).ext h
  flat := T.flat
  sub := T.sub.trans h
  pdx := T.pdx
  psx := T.psx
  pout := T.pout
  perr := T.perr
  psg := T.psg
  pse := T.pse
  n1 := T.n1
  n2 := T.n2
  n3 := T.n3
  n4 := T.n4
  n5 := T.n5
  n6 := T.n6
  n7 := T.n7
private theorem TokAt.fresh (T : TokAt P H t σ a) {b : Addr} {O : AO} (h : H b = none) : TokAt P (H.set b O) t σ a := T.ext (Ext.set h)
private theorem sub_set {b : Addr} {O : AO} (h : Ext P H) (hb : P b = none) : Ext P (H.set b O) := fun x O' e => by
  unfold Hp.set
  rw [if_neg]
  · exact h _ _ e
  · rintro rfl; rw [hb] at e; cases e

private theorem DrAt.set {nm : List Nat} {b : Addr} {O : AO} (D : DrAt P H a nm) (h1 : a.da ≠ b) (h2 : a.ddx ≠ b) (h3 : a.dat ≠ b) : DrAt P (H.set b O) a nm :=
  ⟨(set_ne h1).trans D.inst,(set_ne h2).trans D.fs,(set_ne h3).trans D.dat,D.p,D.ndx,D.nsx,D.nout,D.nerr,D.nsg,D.nse⟩

private theorem TokAt.setF (T : TokAt P H t σ a) {σ' : TS} (ho : σ'.out = σ.out) (he : σ'.errs = σ.errs) (hs : σ'.signs = σ.signs) (hb : σ'.seB = σ.seB) (hc : σ'.closed = σ.closed) (hd : ∀ nm,σ'.draft = some nm → σ.draft = some nm) :
    TokAt P (H.set a.dx (.attrs (fsT a σ'))) t σ' a := by
  have hT : TL H (H.set a.dx (.attrs (fsT a σ'))) := TL.set fun xs e => by rw [T.fs] at e; cases e
  have k : ∀ {b : Addr} {O : AO},H b = some O → (∀ fs,O ≠ .attrs fs) → (H.set a.dx (.attrs (fsT a σ'))) b = some O := fun e hO => (set_ne (ne_of_kind e T.fs (hO _))).trans e
  obtain ⟨xs,x1,x2⟩ := T.out
  obtain ⟨ys,y1,y2⟩ := T.err
  obtain ⟨zs,z1,z2⟩ := T.se
  exact {
    inst := k T.inst fun u_ => nofun
    fs := set_self
    sinst := k T.sinst fun u_ => nofun
    sfs := (set_ne (Ne.symm T.n7)).trans (by rw [hc]; exact T.sfs)
    out := ⟨xs,k x1 fun u_ => nofun,by rw [ho]; exact Rds.tl hT _ _ T.flat.1 x2⟩
    err := ⟨ys,k y1 fun u_ => nofun,by rw [he]; exact Rds.tl hT _ _ T.flat.2 y2⟩
    sg := by rw [hs]; exact k T.sg fun u_ => nofun
    se := ⟨zs,k z1 fun u_ => nofun,by rw [hb]; exact z2⟩
    st := k T.st fun u_ => nofun
    draft := fun nm e => by
      have D := T.draft nm (hd nm e)
      exact D.set (ne_of_kind D.inst T.fs nofun) D.ndx (ne_of_kind D.dat T.fs nofun)
    flat := by rw [ho,he]; exact T.flat
    sub := sub_set T.sub T.pdx
    pdx := T.pdx,psx := T.psx,pout := T.pout,perr := T.perr,psg := T.psg,pse := T.pse,n1 := T.n1,n2 := T.n2,n3 := T.n3,n4 := T.n4,n5 := T.n5,n6 := T.n6,n7 := T.n7 }
private theorem TokAt.pushOut (T : TokAt P H t σ a) {xs : List D} {d : D} {u : Tr} (hx : H a.out = some (.list xs)) (hu : Rd H u d) (hf : flatT u = true) :
    TokAt P (H.set a.out (.list (xs ++ [d]))) t { σ with out := σ.out ++ [u] } a := by
  have hT : TL H (H.set a.out (.list (xs ++ [d]))) := TL.set fun xs e => by rw [hx] at e; cases e
  have k : ∀ {b : Addr} {O : AO},H b = some O → (∀ fs,O ≠ .list fs) → (H.set a.out (.list (xs ++ [d]))) b = some O := fun e hO => (set_ne (ne_of_kind e hx (hO _))).trans e
  obtain ⟨xs',x1,x2⟩ := T.out
  rw [hx] at x1; cases x1
  obtain ⟨ys,y1,y2⟩ := T.err
  obtain ⟨zs,z1,z2⟩ := T.se
  exact {
    inst := k T.inst fun u_ => nofun
    fs := k T.fs fun u_ => nofun
    sinst := k T.sinst fun u_ => nofun
    sfs := k T.sfs fun u_ => nofun
    out := ⟨_,set_self,(Rds.tl hT _ _ T.flat.1 x2).snoc (Rd.tl hT _ _ hf hu)⟩
    err := ⟨ys,(set_ne (Ne.symm T.n1)).trans y1,Rds.tl hT _ _ T.flat.2 y2⟩
    sg := (set_ne (Ne.symm T.n2)).trans T.sg
    se := ⟨zs,(set_ne (Ne.symm T.n3)).trans z1,z2⟩
    st := k T.st fun u_ => nofun
    draft := fun nm e => by
      have D := T.draft nm e
      exact D.set (ne_of_kind D.inst hx nofun) (ne_of_kind D.fs hx nofun) D.nout
    flat := ⟨by rw [flatTs_app,T.flat.1]; simp [flatTs,hf],T.flat.2⟩
    sub := sub_set T.sub T.pout
    pdx := T.pdx,psx := T.psx,pout := T.pout,perr := T.perr,psg := T.psg,pse := T.pse,n1 := T.n1,n2 := T.n2,n3 := T.n3,n4 := T.n4,n5 := T.n5,n6 := T.n6,n7 := T.n7 }
private theorem TokAt.pushErr (T : TokAt P H t σ a) {xs : List D} {d : D} {u : Tr} (hx : H a.err = some (.list xs)) (hu : Rd H u d) (hf : flatT u = true) :
    TokAt P (H.set a.err (.list (xs ++ [d]))) t { σ with errs := σ.errs ++ [u] } a := by
  have hT : TL H (H.set a.err (.list (xs ++ [d]))) := TL.set fun xs e => by rw [hx] at e; cases e
  have k : ∀ {b : Addr} {O : AO},H b = some O → (∀ fs,O ≠ .list fs) → (H.set a.err (.list (xs ++ [d]))) b = some O := fun e hO => (set_ne (ne_of_kind e hx (hO _))).trans e
  obtain ⟨xs',x1,x2⟩ := T.err
  rw [hx] at x1; cases x1
  obtain ⟨ys,y1,y2⟩ := T.out
  obtain ⟨zs,z1,z2⟩ := T.se
  exact {
    inst := k T.inst fun u_ => nofun
    fs := k T.fs fun u_ => nofun
    sinst := k T.sinst fun u_ => nofun
    sfs := k T.sfs fun u_ => nofun
    err := ⟨_,set_self,(Rds.tl hT _ _ T.flat.2 x2).snoc (Rd.tl hT _ _ hf hu)⟩
    out := ⟨ys,(set_ne T.n1).trans y1,Rds.tl hT _ _ T.flat.1 y2⟩
    sg := (set_ne (Ne.symm T.n4)).trans T.sg
    se := ⟨zs,(set_ne (Ne.symm T.n5)).trans z1,z2⟩
    st := k T.st fun u_ => nofun
    draft := fun nm e => by
      have D := T.draft nm e
      exact D.set (ne_of_kind D.inst hx nofun) (ne_of_kind D.fs hx nofun) D.nerr
    flat := ⟨T.flat.1,by rw [flatTs_app,T.flat.2]; simp [flatTs,hf]⟩
    sub := sub_set T.sub T.perr
    pdx := T.pdx,psx := T.psx,pout := T.pout,perr := T.perr,psg := T.psg,pse := T.pse,n1 := T.n1,n2 := T.n2,n3 := T.n3,n4 := T.n4,n5 := T.n5,n6 := T.n6,n7 := T.n7 }
private theorem TokAt.pushSign (T : TokAt P H t σ a) {x : Nat} : TokAt P (H.set a.sg (.list (sgs (σ.signs ++ [x])))) t { σ with signs := σ.signs ++ [x] } a := by
  have hx := T.sg
  have hT : TL H (H.set a.sg (.list (sgs (σ.signs ++ [x])))) := TL.set fun xs e => by rw [hx] at e; cases e
  have k : ∀ {b : Addr} {O : AO},H b = some O → (∀ fs,O ≠ .list fs) → (H.set a.sg (.list (sgs (σ.signs ++ [x])))) b = some O := fun e hO => (set_ne (ne_of_kind e hx (hO _))).trans e
  obtain ⟨xs,x1,x2⟩ := T.out
  obtain ⟨ys,y1,y2⟩ := T.err
  obtain ⟨zs,z1,z2⟩ := T.se
  exact {
    inst := k T.inst fun u_ => nofun
    fs := k T.fs fun u_ => nofun
    sinst := k T.sinst fun u_ => nofun
    sfs := k T.sfs fun u_ => nofun
    out := ⟨xs,(set_ne T.n2).trans x1,Rds.tl hT _ _ T.flat.1 x2⟩
    err := ⟨ys,(set_ne T.n4).trans y1,Rds.tl hT _ _ T.flat.2 y2⟩
    sg := set_self
    se := ⟨zs,(set_ne (Ne.symm T.n6)).trans z1,z2⟩
    st := k T.st fun u_ => nofun
    draft := fun nm e => by
      have D := T.draft nm e
      exact D.set (ne_of_kind D.inst hx nofun) (ne_of_kind D.fs hx nofun) D.nsg
    flat := T.flat
    sub := sub_set T.sub T.psg
    pdx := T.pdx,psx := T.psx,pout := T.pout,perr := T.perr,psg := T.psg,pse := T.pse,n1 := T.n1,n2 := T.n2,n3 := T.n3,n4 := T.n4,n5 := T.n5,n6 := T.n6,n7 := T.n7 }
private theorem TokAt.pushSe (T : TokAt P H t σ a) {xs : List D} {m : Nat} (hl : xs.length ≤ m) : TokAt P (H.set a.se (.list xs)) t { σ with seB := m } a := by
  obtain ⟨zs,hx,_⟩ := T.se
  have hT : TL H (H.set a.se (.list xs)) := TL.set fun xs e => by rw [hx] at e; cases e
  have k : ∀ {b : Addr} {O : AO},H b = some O → (∀ fs,O ≠ .list fs) → (H.set a.se (.list xs)) b = some O := fun e hO => (set_ne (ne_of_kind e hx (hO _))).trans e
  obtain ⟨xs,x1,x2⟩ := T.out
  obtain ⟨ys,y1,y2⟩ := T.err
  exact {
    inst := k T.inst fun u_ => nofun
    fs := k T.fs fun u_ => nofun
    sinst := k T.sinst fun u_ => nofun
    sfs := k T.sfs fun u_ => nofun
    out := ⟨xs,(set_ne T.n3).trans x1,Rds.tl hT _ _ T.flat.1 x2⟩
    err := ⟨ys,(set_ne T.n5).trans y1,Rds.tl hT _ _ T.flat.2 y2⟩
    sg := (set_ne T.n6).trans T.sg
    se := ⟨_,set_self,hl⟩
    st := k T.st fun u_ => nofun
    draft := fun nm e => by
      have D := T.draft nm e
      exact D.set (ne_of_kind D.inst hx nofun) (ne_of_kind D.fs hx nofun) D.nse
    flat := T.flat
    sub := sub_set T.sub T.pse
    pdx := T.pdx,psx := T.psx,pout := T.pout,perr := T.perr,psg := T.psg,pse := T.pse,n1 := T.n1,n2 := T.n2,n3 := T.n3,n4 := T.n4,n5 := T.n5,n6 := T.n6,n7 := T.n7 }
private theorem TokAt.seUp (T : TokAt P H t σ a) {m : Nat} (hl : σ.seB ≤ m) : TokAt P H t { σ with seB := m } a := by
  obtain ⟨zs,z1,z2⟩ := T.se
  exact { T with se := ⟨zs,z1,Nat.le_trans z2 hl⟩ }
private theorem TokAt.setSx (T : TokAt P H t σ a) {b : Bool} : TokAt P (H.set a.sx (.attrs (fsS a b))) t { σ with closed := b } a := by
  have hT : TL H (H.set a.sx (.attrs (fsS a b))) := TL.set fun xs e => by rw [T.sfs] at e; cases e
  have k : ∀ {c : Addr} {O : AO},H c = some O → (∀ fs,O ≠ .attrs fs) → (H.set a.sx (.attrs (fsS a b))) c = some O := fun e hO => (set_ne (ne_of_kind e T.sfs (hO _))).trans e
  obtain ⟨xs,x1,x2⟩ := T.out
  obtain ⟨ys,y1,y2⟩ := T.err
  obtain ⟨zs,z1,z2⟩ := T.se
  exact {
    inst := k T.inst fun u_ => nofun
    fs := (set_ne T.n7).trans T.fs
    sinst := k T.sinst fun u_ => nofun
    sfs := set_self
    out := ⟨xs,k x1 fun u_ => nofun,Rds.tl hT _ _ T.flat.1 x2⟩
    err := ⟨ys,k y1 fun u_ => nofun,Rds.tl hT _ _ T.flat.2 y2⟩
    sg := k T.sg fun u_ => nofun
    se := ⟨zs,k z1 fun u_ => nofun,z2⟩
    st := k T.st fun u_ => nofun
    draft := fun nm e => by
      have D := T.draft nm e
      exact D.set (ne_of_kind D.inst T.sfs nofun) D.nsx (ne_of_kind D.dat T.sfs nofun)
    flat := T.flat
    sub := sub_set T.sub T.psx
    pdx := T.pdx,psx := T.psx,pout := T.pout,perr := T.perr,psg := T.psg,pse := T.pse,n1 := T.n1,n2 := T.n2,n3 := T.n3,n4 := T.n4,n5 := T.n5,n6 := T.n6,n7 := T.n7 }
private theorem TokAt.setName (T : TokAt P H t σ a) {nm nm' : List Nat} (hd : σ.draft = some nm) : TokAt P (H.set a.ddx (.attrs (fsD a nm'))) t { σ with draft := some nm' } a := by
  have D := T.draft nm hd
  have hT : TL H (H.set a.ddx (.attrs (fsD a nm'))) := TL.set fun xs e => by rw [D.fs] at e; cases e
  have k : ∀ {c : Addr} {O : AO},H c = some O → (∀ fs,O ≠ .attrs fs) → (H.set a.ddx (.attrs (fsD a nm'))) c = some O := fun e hO => (set_ne (ne_of_kind e D.fs (hO _))).trans e
  obtain ⟨xs,x1,x2⟩ := T.out
  obtain ⟨ys,y1,y2⟩ := T.err
  obtain ⟨zs,z1,z2⟩ := T.se
  exact {
    inst := k T.inst fun u_ => nofun
    fs := (set_ne (Ne.symm D.ndx)).trans (by rw [T.fs]; unfold fsT; rw [hd]; rfl)
    sinst := k T.sinst fun u_ => nofun
    sfs := (set_ne (Ne.symm D.nsx)).trans T.sfs
    out := ⟨xs,k x1 fun u_ => nofun,Rds.tl hT _ _ T.flat.1 x2⟩
    err := ⟨ys,k y1 fun u_ => nofun,Rds.tl hT _ _ T.flat.2 y2⟩
    sg := k T.sg fun u_ => nofun
    se := ⟨zs,k z1 fun u_ => nofun,z2⟩
    st := k T.st fun u_ => nofun
    draft := fun nm e => by
      cases e
      exact ⟨k D.inst fun u_ => nofun,set_self,k D.dat fun u_ => nofun,D.p,D.ndx,D.nsx,D.nout,D.nerr,D.nsg,D.nse⟩
    flat := T.flat
    sub := sub_set T.sub D.p
    pdx := T.pdx,psx := T.psx,pout := T.pout,perr := T.perr,psg := T.psg,pse := T.pse,n1 := T.n1,n2 := T.n2,n3 := T.n3,n4 := T.n4,n5 := T.n5,n6 := T.n6,n7 := T.n7 }
private theorem TokAt.newDraft (T : TokAt P H t σ a) {da ddx dat : Addr} {nm : List Nat} (h1 : H da = some (.inst 366 ddx)) (h2 : H ddx = some (.attrs (fsD { a with da := da,ddx := ddx,dat := dat } nm))) (h3 : H dat = some (.list []))
    (p : P ddx = none) (n1 : ddx ≠ a.dx) (n2 : ddx ≠ a.sx) (n3 : dat ≠ a.out) (n4 : dat ≠ a.err) (n5 : dat ≠ a.sg) (n6 : dat ≠ a.se) :
    TokAt P (H.set a.dx (.attrs (fsT { a with da := da,ddx := ddx,dat := dat } { σ with draft := some nm }))) t { σ with draft := some nm } { a with da := da,ddx := ddx,dat := dat } := by
  have hT : TL H (H.set a.dx (.attrs (fsT { a with da := da,ddx := ddx,dat := dat } { σ with draft := some nm }))) := TL.set fun xs e => by rw [T.fs] at e; cases e
  have k : ∀ {b : Addr} {O : AO},H b = some O → (∀ fs,O ≠ .attrs fs) → (H.set a.dx (.attrs (fsT { a with da := da,ddx := ddx,dat := dat } { σ with draft := some nm }))) b = some O := fun e hO => (set_ne (ne_of_kind e T.fs (hO _))).trans e
  obtain ⟨xs,x1,x2⟩ := T.out
  obtain ⟨ys,y1,y2⟩ := T.err
  obtain ⟨zs,z1,z2⟩ := T.se
  exact {
    inst := k T.inst fun u_ => nofun
    fs := set_self
    sinst := k T.sinst fun u_ => nofun
    sfs := (set_ne (Ne.symm T.n7)).trans T.sfs
    out := ⟨xs,k x1 fun u_ => nofun,Rds.tl hT _ _ T.flat.1 x2⟩
    err := ⟨ys,k y1 fun u_ => nofun,Rds.tl hT _ _ T.flat.2 y2⟩
    sg := k T.sg fun u_ => nofun
    se := ⟨zs,k z1 fun u_ => nofun,z2⟩
    st := k T.st fun u_ => nofun
    draft := fun nm e => by
      cases e
      exact ⟨k h1 fun u_ => nofun,(set_ne n1).trans h2,k h3 fun u_ => nofun,p,n1,n2,n3,n4,n5,n6⟩
    flat := T.flat
    sub := sub_set T.sub T.pdx
    pdx := T.pdx,psx := T.psx,pout := T.pout,perr := T.perr,psg := T.psg,pse := T.pse,n1 := T.n1,n2 := T.n2,n3 := T.n3,n4 := T.n4,n5 := T.n5,n6 := T.n6,n7 := T.n7 }
end
end Mine
end
section
open PySem
namespace Mine
section
variable {a : Ad} {σ : TS} {b : Bool} {nm : List Nat}
private theorem la_14 : lookA 14 (fsT a σ) = some (.ref a.st) := rfl
private theorem la_25 : lookA 25 (fsT a σ) = some (.ref a.s) := rfl
private theorem la_24 : lookA 24 (fsT a σ) = some (.int σ.at_) := rfl
private theorem la_15 : lookA 15 (fsT a σ) = some (.str σ.state) := rfl
private theorem la_23 : lookA 23 (fsT a σ) = some (.str σ.back) := rfl
private theorem la_22 : lookA 22 (fsT a σ) = some (.ref a.out) := rfl
private theorem la_7 : lookA 7 (fsT a σ) = some (.ref a.err) := rfl
private theorem la_21 : lookA 21 (fsT a σ) = some (draftD a σ.draft) := rfl
private theorem la_20 : lookA 20 (fsT a σ) = some (.str σ.buffer) := rfl
private theorem la_16 : lookA 16 (fsT a σ) = some (.str σ.last) := rfl
private theorem la_18 : lookA 18 (fsT a σ) = some (.bool false) := rfl
private theorem la_17 : lookA 17 (fsT a σ) = some (.bool σ.done) := rfl
private theorem la_27 : lookA 27 (fsT a σ) = none := rfl
private theorem la_28 : lookA 28 (fsT a σ) = none := rfl
private theorem la_50 : lookA 50 (fsT a σ) = none := rfl
private theorem la_48 : lookA 48 (fsT a σ) = none := rfl
private theorem la_52 : lookA 52 (fsT a σ) = none := rfl
private theorem la_34 : lookA 34 (fsT a σ) = none := rfl
private theorem la_31 : lookA 31 (fsT a σ) = none := rfl
private theorem la_49 : lookA 49 (fsT a σ) = none := rfl
private theorem la_51 : lookA 51 (fsT a σ) = none := rfl
private theorem la_56 : lookA 56 (fsT a σ) = none := rfl
private theorem la_47 : lookA 47 (fsT a σ) = none := rfl
private theorem la_55 : lookA 55 (fsT a σ) = none := rfl
private theorem la_40 : lookA 40 (fsT a σ) = none := rfl
private theorem la_39 : lookA 39 (fsT a σ) = none := rfl
private theorem la_91 : lookA 91 (fsT a σ) = none := rfl
private theorem ls_10 : lookA 10 (fsS a b) = some (.ref a.sg) := rfl
private theorem ls_9 : lookA 9 (fsS a b) = some (.bool b) := rfl
private theorem ls_8 : lookA 8 (fsS a b) = some (.bool false) := rfl
private theorem ls_7 : lookA 7 (fsS a b) = some (.ref a.se) := rfl
private theorem ls_27 : lookA 27 (fsS a b) = none := rfl
private theorem ls_28 : lookA 28 (fsS a b) = none := rfl
private theorem ld_32 : lookA 32 (fsD a nm) = some (.str [101,110,100]) := rfl
private theorem ld_36 : lookA 36 (fsD a nm) = some (.str nm) := rfl
private theorem ld_33 : lookA 33 (fsD a nm) = some (.bool false) := rfl
private theorem ld_35 : lookA 35 (fsD a nm) = some (.ref a.dat) := rfl
private theorem ld_29 : lookA 29 (fsD a nm) = none := rfl
private theorem pa_15 {x : List Nat} : putA 15 (.str x) (fsT a σ) = fsT a { σ with state := x } := rfl
private theorem pa_23 {x : List Nat} : putA 23 (.str x) (fsT a σ) = fsT a { σ with back := x } := rfl
private theorem pa_20 {x : List Nat} : putA 20 (.str x) (fsT a σ) = fsT a { σ with buffer := x } := rfl
private theorem pa_17 {x : Bool} : putA 17 (.bool x) (fsT a σ) = fsT a { σ with done := x } := rfl
private theorem pa_18 : putA 18 (.bool false) (fsT a σ) = fsT a σ := rfl
private theorem pa_21 : putA 21 .none (fsT a σ) = fsT a { σ with draft := none } := rfl
private theorem pa_24 {x : Nat} : putA 24 (.int x) (fsT a σ) = fsT a { σ with at_ := x } := rfl
private theorem ps_9 {x : Bool} : putA 9 (.bool x) (fsS a b) = fsS a x := rfl
private theorem ps_8 : putA 8 (.bool false) (fsS a b) = fsS a b := rfl
private theorem pd_36 {x : List Nat} : putA 36 (.str x) (fsD a nm) = fsD a x := rfl
private theorem len_T : (fsT a σ).length = 14 := rfl
private theorem len_S : (fsS a b).length = 4 := rfl
private theorem len_D : (fsD a nm).length = 8 := rfl
end

section
variable {P H : Hp} {t : Addr} {σ : TS} {a : Ad} {n : Nat} {Q : K1}
noncomputable def nextR (σ : TS) : List Nat := match σ.signs[σ.at_]? with | some c => [c] | none => []
noncomputable def nextS (σ : TS) : TS := { σ with at_ := σ.at_ + 1 }
private theorem next_c (T : TokAt P H t σ a) (hs : σ.signs.length ≤ 10000) (h : ∀ H',TokAt P H' t (nextS σ) a → Q (.str (nextR σ)) H') : callP tbl (n + 1) 187 [.ref t] Q H := by
  have e1 : ((σ.at_ : Int) + 1) = ((σ.at_ + 1 : Nat) : Int) := by lia
  rw [callP_at fn_Tokenizer_next]; simp only [bP0,bP1,kPe,en0,↓fWe,↓ss_cons,↓s_assign,↓s_setattr,↓s_ite,↓x_int,↓x_loc,↓x_attr,↓x_len,↓x_cmp,↓x_bin,↓f1e,↓f24e,↓f33e,↓f34e,↓f49e,↓f52e,↓f53e,↓f59e,put_v,bT,bF,Nat.reduceBEq,emp_v,b_add_ii,la_24,pa_24,len_T,field_310_24,fd_Tokenizer_next,b_Tokenizer_next,T.attrs,e1,kOe,k1e,k1be,k33e,k52e]
  have T1 := T.setF (σ' := { σ with at_ := σ.at_ + 1 }) rfl rfl rfl rfl rfl (fun u_ h => h)
  refine ⟨⟨trivial,by decide⟩,?_⟩
  have e2 : (sgs σ.signs).length = σ.signs.length := by simp
  simp only [la_25,ls_10,field_147_10,field_310_25,T1.attrs,T1.sattrs,T1.sg,e2,↓f1e,↓f57e,c_lt_ii,↓f8r,↓f23lt,kBe,k1e,k1be,k8e]
  refine ⟨by unfold big; lia,?_⟩
  have e3 : decide ((σ.at_ : Int) < (σ.signs.length : Int)) = decide (σ.at_ < σ.signs.length) := by simp
  rw [e3]
  by_cases hlt : σ.at_ < σ.signs.length
  · have e4 : nextR σ = [σ.signs[σ.at_]] := by unfold nextR; rw [List.getElem?_eq_getElem hlt]
    have e5 : subs (H.set a.dx (.attrs (fsT a { σ with at_ := σ.at_ + 1 }))) (.ref a.sg) (.int σ.at_) = some (.str [σ.signs[σ.at_]]) := by
      simp only [subs,T1.sg]
      rw [if_pos ⟨by lia,by unfold big; lia⟩]
      simp [hlt]
    simp only [decide_eq_true hlt,T1.attrs,T1.sattrs,↓x_loc,↓f1e,↓x_attr,↓f36e,↓f37e,↓x_sub,↓s_ret,↓ss_cons,put_v,bT,bF,Nat.reduceBEq,emp_v,la_25,ls_10,field_147_10,field_310_25,kOe,k1e,k1be,k57t]
    rw [e5]
    have := h _ T1
    rw [e4] at this
    exact this
  · have e4 : nextR σ = [] := by unfold nextR; rw [List.getElem?_eq_none (by lia)]
    simp only [decide_eq_false hlt,↓x_str,↓f56e,↓s_ret,↓ss_nil,↓f59e,↓ss_cons,↓f59r,↓fCr,k57f]
    have := h _ T1
    rw [e4] at this
    exact this
private theorem to_c (T : TokAt P H t σ a) {x : List Nat} (h : ∀ H',TokAt P H' t { σ with state := x } a → Q .none H') : callP tbl (n + 1) 194 [.ref t,.str x] Q H := by
  rw [callP_at fn_Tokenizer_to]; simp only [bP0,bP1,kPe,en0,↓fWe,↓ss_nil,↓ss_cons,↓s_setattr,↓x_loc,↓f52e,↓f53e,↓f59e,put_v,bT,bF,Nat.reduceBEq,emp_v,pa_15,len_T,field_310_15,fd_Tokenizer_to,b_Tokenizer_to,T.attrs,↓fCn,kOe,k52e]
  exact ⟨⟨trivial,by decide⟩,h _ (T.setF rfl rfl rfl rfl rfl fun u_ h => h)⟩
private theorem again_c (T : TokAt P H t σ a) {x : List Nat} {m : Nat} (hm : σ.at_ = m + 1) (h : ∀ H',TokAt P H' t { σ with at_ := m,state := x } a → Q .none H') : callP tbl (n + 1) 201 [.ref t,.str x] Q H := by
  have e1 : ((σ.at_ : Int) - 1) = (m : Int) := by lia
  rw [callP_at fn_Tokenizer_again]; simp only [bP0,bP1,kPe,en0,↓fWe,↓ss_cons,↓s_setattr,↓s_decattr,↓x_int,↓x_loc,↓f52e,↓f53e,↓f54e,↓f55e,↓f59e,put_v,bT,bF,Nat.reduceBEq,emp_v,la_24,pa_24,len_T,field_310_24,fd_Tokenizer_again,b_Tokenizer_again,T.attrs,e1,kOe,k54e,k55e,k55be]
  have T1 := T.setF (σ' := { σ with at_ := m }) rfl rfl rfl rfl rfl (fun u_ h => h)
  refine ⟨⟨trivial,by decide⟩,?_⟩
  simp only [pa_15,len_T,field_310_15,T1.attrs,↓ss_nil,↓f59e,↓fCn,k52e]
  exact ⟨⟨trivial,by decide⟩,h _ (T1.setF rfl rfl rfl rfl rfl fun u_ h => h)⟩
private theorem error_c (T : TokAt P H t σ a) {x : List Nat} {m : Nat} (hm : σ.at_ = m + 1) (hl : σ.errs.length < big) (h : ∀ H',TokAt P H' t { σ with errs := σ.errs ++ [.tuple [.str x,.int m]] } a → Q .none H') : callP tbl (n + 1) 208 [.ref t,.str x] Q H := by
  have e1 : ((σ.at_ : Int) - 1) = (m : Int) := by lia
  obtain ⟨xs,hx,hr⟩ := T.err
  rw [callP_at fn_Tokenizer_error]; simp only [bP0,bP1,kPe,en0,↓fWe,↓ss_cons,↓s_expr,↓x_int,↓x_loc,↓x_attr,↓x_append,↓x_bin,↓x_tuple,↓f1e,↓f17e,↓f18e,↓f33e,↓f34e,↓f42e,↓f45e,↓f46e,↓xs_nil,↓xs_cons,put_v,bT,bF,Nat.reduceBEq,emp_v,b_sub_ii,la_24,la_7,field_310_24,field_310_7,fd_Tokenizer_error,b_Tokenizer_error,T.attrs,e1,hx,kOe,k1e,k1be,k18e,k33e]
  refine ⟨by simp [big],fun b hb => ?_⟩
  have T1 := T.fresh hb (O := .tuple [.str x,.int m])
  have hx1 := (set_ne (O := .tuple [.str x,.int m]) (ne_fresh hx hb)).trans hx
  simp only [hx1,↓f48e,↓ss_nil,↓f59e,↓fCn,k17e]
  exact ⟨by rw [hr.len]; exact hl,h _ (T1.pushErr hx1 (Rd.tup set_self (.cons rd_str (.one rd_int))) rfl)⟩
private theorem emit_sign_c (T : TokAt P H t σ a) {x : List Nat} (hl : σ.out.length < big) (h : ∀ H',TokAt P H' t { σ with out := σ.out ++ [.tuple [.str [99,104,97,114],.str x]] } a → Q .none H') : callP tbl (n + 1) 222 [.ref t,.str x] Q H := by
  obtain ⟨xs,hx,hr⟩ := T.out
  rw [callP_at fn_Tokenizer_emit_sign]; simp only [bP0,bP1,kPe,en0,↓fWe,↓ss_cons,↓s_expr,↓x_str,↓x_loc,↓x_attr,↓x_append,↓x_tuple,↓f1e,↓f17e,↓f18e,↓f42e,↓f45e,↓f46e,↓xs_nil,↓xs_cons,put_v,bT,bF,Nat.reduceBEq,emp_v,la_22,field_310_22,fd_Tokenizer_emit_sign,b_Tokenizer_emit_sign,T.attrs,hx,kOe,k1e,k1be,k18e]
  refine ⟨by simp [big],fun b hb => ?_⟩
  have T1 := T.fresh hb (O := .tuple [.str [99,104,97,114],.str x])
  have hx1 := (set_ne (O := .tuple [.str [99,104,97,114],.str x]) (ne_fresh hx hb)).trans hx
  simp only [hx1,↓f48e,↓ss_nil,↓f59e,↓fCn,k17e]
  exact ⟨by rw [hr.len]; exact hl,h _ (T1.pushOut hx1 (Rd.tup set_self (.cons rd_str (.one rd_str))) rfl)⟩
private theorem emit_eof_c (T : TokAt P H t σ a) (hl : σ.out.length < big) (h : ∀ H',TokAt P H' t { σ with out := σ.out ++ [.tuple [.str [101,111,102]]],done := true } a → Q .none H') : callP tbl (n + 1) 243 [.ref t] Q H := by
  obtain ⟨xs,hx,hr⟩ := T.out
  rw [callP_at fn_Tokenizer_emit_eof]; simp only [bP0,bP1,kPe,en0,↓fWe,↓ss_cons,↓s_expr,↓x_str,↓x_loc,↓x_attr,↓x_append,↓x_tuple,↓f1e,↓f17e,↓f18e,↓f42e,↓f45e,↓f46e,↓xs_nil,↓xs_cons,put_v,bT,Nat.reduceBEq,emp_v,la_22,field_310_22,fd_Tokenizer_emit_eof,b_Tokenizer_emit_eof,T.attrs,hx,kOe,k1e,k1be,k18e]
  refine ⟨by simp [big],fun b hb => ?_⟩
  have T1 := T.fresh hb (O := .tuple [.str [101,111,102]])
  have hx1 := (set_ne (O := .tuple [.str [101,111,102]]) (ne_fresh hx hb)).trans hx
  simp only [hx1,↓x_bool,↓x_loc,↓f48e,↓f52e,↓f53e,↓s_setattr,↓f59e,↓ss_cons,put_v,bT,Nat.reduceBEq,emp_v,kOe,k17e]
  have T2 := T1.pushOut hx1 (Rd.tup (set_self (H := H) (a := b) (O := .tuple [.str [101,111,102]])) (.one rd_str)) rfl
  refine ⟨by rw [hr.len]; exact hl,?_⟩
  simp only [pa_17,len_T,field_310_17,T2.attrs,↓ss_nil,↓f59e,↓fCn,k52e]
  exact ⟨⟨trivial,by decide⟩,h _ (T2.setF rfl rfl rfl rfl rfl fun u_ h => h)⟩
noncomputable def charT (c : Nat) : Tr := .tuple [.str [99,104,97,114],.str [c]]
private theorem emit_text_c (T : TokAt P H t σ a) {x : List Nat} (hl : σ.out.length + x.length ≤ big) (h : ∀ H',TokAt P H' t { σ with out := σ.out ++ x.map charT } a → Q .none H') : callP tbl (n + 1) 229 [.ref t,.str x] Q H := by
  rw [callP_at fn_Tokenizer_emit_text]; simp only [bP0,bP1,kPe,en0,↓fWe,↓ss_cons,↓s_for_,↓x_loc,↓f58e,put_v,bT,bF,Nat.reduceBEq,emp_v,fd_Tokenizer_emit_text,b_Tokenizer_emit_text,itemsOf,kOe]
  rw [if_pos (by lia)]
  simp only [k58e]
  generalize hst : stays H (.str x) = st
  have hst' : ∀ H,st H := fun H => by rw [← hst]; trivial
  have loop : ∀ (l : List Nat) (ρ : Ev) (H : Hp) (σ : TS),ρ.v 6 = some (.ref t) → TokAt P H t σ a → σ.out.length + l.length ≤ big → (∀ H',TokAt P H' t { σ with out := σ.out ++ l.map charT } a → Q .none H') →
      overItems (fun ρ Q H => Ss.wp tbl (callP tbl n) lp_Tokenizer_emit_text_0 ρ Q H) 30 st
        (fun fl ρ H => match fl with | .next => Q .none H | fl => match fl with | .ret d => Q d H | .next => Q .none H | .cont => False) (l.map fun c => D.str [c]) ρ H := by
    intro l
    induction l with
    | nil =>
      intro ρ H σ hρ T hl h
      refine ⟨hst' _,h H ?_⟩
      simpa using T
    | cons c l ih =>
      intro ρ H σ hρ T hl h
      refine ⟨hst' _,?_⟩
      obtain ⟨xs,hx,hr⟩ := T.out
      simp only [↓ss_cons,↓s_expr,↓x_str,↓x_loc,↓x_attr,↓x_append,↓x_tuple,↓f1e,↓f17e,↓f18e,↓f42e,↓f45e,↓f46e,↓xs_nil,↓xs_cons,put_v,bT,bF,Nat.reduceBEq,la_22,field_310_22,lp_Tokenizer_emit_text_0,hρ,T.attrs,hx,kOe,k1e,k1be,k18e]
      refine ⟨by simp [big],fun b hb => ?_⟩
      have T1 := T.fresh hb (O := .tuple [.str [99,104,97,114],.str [c]])
      have hx1 := (set_ne (O := .tuple [.str [99,104,97,114],.str [c]]) (ne_fresh hx hb)).trans hx
      simp only [hx1,↓f48e,↓ss_nil,↓f59e,k17e]
      simp only [List.length_cons] at hl
      refine ⟨by rw [hr.len]; lia,?_⟩
      refine ih _ _ { σ with out := σ.out ++ [charT c] } ?_ (T1.pushOut hx1 (Rd.tup set_self (.cons rd_str (.one rd_str))) rfl) (by simp; lia) fun H' T' => h H' ?_
      · simpa using hρ
      · simpa using T'
  exact loop x _ H σ rfl T hl h
end
end Mine
end
section
open PySem
namespace Mine
section
variable {P H : Hp} {t : Addr} {σ : TS} {a : Ad} {n : Nat} {Q : K1}

private theorem set_set {H : Hp} {a : Addr} {O O' : AO} : (H.set a O).set a O' = H.set a O' := by
  funext b; unfold Hp.set; split <;> rfl
private theorem attrsOf_set {H : Hp} {x dx C : Addr} {fs : List (Nat × D)} (h : H x = some (.inst C dx)) (hne : x ≠ dx) : attrsOf (H.set dx (.attrs fs)) (.ref x) = some (C,dx,fs) := by
  simp only [attrsOf,set_ne hne,h,set_self]

private theorem draft_init_c {x dx : Addr} {k nm : List Nat} (h1 : H x = some (.inst 366 dx)) (h2 : H dx = some (.attrs []))
    (h : ∀ dat H',H dat = none → H' dx = some (.attrs [(32,.str k),(36,.str nm),(11,.str []),(43,.none),(42,.none),(41,.bool false),(33,.bool false),(35,.ref dat)]) → H' dat = some (.list []) → (∀ b O,b ≠ dx → H b = some O → H' b = some O) → Q .none H') :
    callP tbl (n + 1) 328 [.ref x,.str k,.str nm] Q H := by
  have hne : x ≠ dx := ne_of_kind h1 h2 nofun
  have a0 : attrsOf H (.ref x) = some (366,dx,[]) := by simp only [attrsOf,h1,h2]
  rw [callP_at fn_Draft_init]; simp only [bP0,bP1,kPe,en0,↓fWe,↓ss_cons,↓s_setattr,↓x_none,↓x_bool,↓x_str,↓x_loc,↓x_list,↓f41e,↓f52e,↓f53e,↓f59e,↓xs_nil,put_v,bT,bF,Nat.reduceBEq,emp_v,Nat.reduceAdd,field_366_32,field_366_36,field_366_11,field_366_43,field_366_42,field_366_41,field_366_33,fd_Draft_init,b_Draft_init,a0,attrsOf_set h1 hne,putA0,putA1,set_set,List.length_cons,List.length_nil,kOe,k52e]
  refine ⟨⟨trivial,by decide⟩,⟨trivial,by decide⟩,⟨trivial,by decide⟩,⟨trivial,by decide⟩,⟨trivial,by decide⟩,⟨trivial,by decide⟩,⟨trivial,by decide⟩,by unfold big; lia,fun dat hd => ?_⟩
  have hdx : dat ≠ dx := by rintro rfl; rw [set_self] at hd; cases hd
  have hd' : H dat = none := by rw [← hd,set_ne hdx]
  have hx : dat ≠ x := by rintro rfl; rw [h1] at hd'; cases hd'
  have a1 : attrsOf ((H.set dx (.attrs [(32,.str k),(36,.str nm),(11,.str []),(43,.none),(42,.none),(41,.bool false),(33,.bool false)])).set dat (.list [])) (.ref x) = some (366,dx,[(32,.str k),(36,.str nm),(11,.str []),(43,.none),(42,.none),(41,.bool false),(33,.bool false)]) := by
    simp only [attrsOf,set_ne (Ne.symm hx),set_ne hne,h1,set_ne (Ne.symm hdx),set_self]
  simp only [Nat.reduceAdd,field_366_35,a1,putA0,putA1,bF,Nat.reduceBEq,List.length_cons,List.length_nil,↓ss_nil,↓f59e,↓fCn,k52e]
  refine ⟨⟨trivial,by decide⟩,h dat _ hd' set_self ?_ fun b O hb e => ?_⟩
  · rw [set_ne hdx,set_self]
  · rw [set_ne hb,set_ne (ne_fresh e hd'),set_ne hb]; exact e

noncomputable def aptR (σ : TS) : Bool := match σ.draft with | none => false | some nm => decide (σ.last ≠ []) && decide (nm = σ.last)
private theorem is_apt_c (T : TokAt P H t σ a) (h : Q (.bool (aptR σ)) H) : callP tbl (n + 1) 250 [.ref t] Q H := by
  rw [callP_at fn_Tokenizer_is_apt]; simp only [bP0,bP1,kPe,en0,↓fWe,↓ss_cons,↓s_assign,↓s_ite,↓x_none,↓x_loc,↓x_attr,↓x_cmp,↓x_bop,↓f1e,↓f24e,↓f47e,↓f49e,↓f59e,↓xb_cons,put_v,bT,bF,Nat.reduceBEq,emp_v,c_is,la_21,field_310_21,fd_Tokenizer_is_apt,b_Tokenizer_is_apt,T.attrs,↓f23is_,kOe,kBe,k1e,k1be]
  cases hd : σ.draft with
  | none =>
    unfold aptR at h
    rw [hd] at h
    simpa [↓x_bool,↓f30e,↓f56e,↓s_ret,↓f57e,↓ss_cons,↓f59r,↓fCr,k47ft,k57t,draftD] using h
  | some nm =>
    have D := T.draft nm hd
    unfold aptR at h
    rw [hd] at h
    simp only [draftD,reduceCtorEq]
    simp only [c_ne_ss,Bool.not_true,ld_32,field_366_32,D.attrs,decide_true,decide_false,T.attrs,↓x_str,↓x_loc,↓f1e,↓x_attr,↓f24e,↓x_cmp,↓f30e,↓x_bop,↓xb_nil,↓f47e,↓xb_cons,↓s_ret,↓f57e,↓ss_nil,↓f59e,↓ss_cons,put_v,bT,bF,Nat.reduceBEq,emp_v,la_16,field_310_16,↓f23s,kOe,kBe,k1e,k1be,k47ff,k57f]
    by_cases h1 : σ.last = [] <;> by_cases h2 : nm = σ.last <;> simp_all [↓x_loc,↓f1e,↓x_attr,↓f23e,↓f24e,↓x_cmp,↓f30e,↓xb_nil,↓f47e,↓xb_cons,↓f56e,put_v,bT,bF,Nat.reduceBEq,emp_v,c_eq_ss,Bool.not_true,Bool.not_false,la_16,ld_36,field_310_16,field_366_36,↓f59r,↓fCr,kOe,kBe,k1e,k1be,k47tt,k47tf,T.attrs,D.attrs]

private theorem token_c {da ddx dat : Addr} {nm : List Nat} (h1 : H da = some (.inst 366 ddx)) (h2 : H ddx = some (.attrs [(32,.str [101,110,100]),(36,.str nm),(11,.str []),(43,.none),(42,.none),(41,.bool false),(33,.bool false),(35,.ref dat)])) (h3 : H dat = some (.list []))
    (h : ∀ b c H',Ext H H' → H' b = some (.tuple [.str [101,110,100],.str nm,.ref c,.bool false]) → H' c = some (.tuple []) → Q (.ref b) H') : callP tbl (n + 1) 363 [.ref da] Q H := by
  have a0 : attrsOf H (.ref da) = some (366,ddx,[(32,.str [101,110,100]),(36,.str nm),(11,.str []),(43,.none),(42,.none),(41,.bool false),(33,.bool false),(35,.ref dat)]) := by simp only [attrsOf,h1,h2]
  rw [callP_at fn_Draft_token]; simp only [bP0,bP1,kPe,en0,↓fWe,↓ss_cons,↓s_ite,↓x_str,↓x_loc,↓x_attr,↓x_cmp,↓f1e,↓f23e,↓f24e,↓f57e,put_v,bT,bF,Nat.reduceBEq,emp_v,c_eq_ss,field_366_32,fd_Draft_token,b_Draft_token,a0,lookA0,lookA1,kOe,kBe,k1e,k1be]
  simp only [show decide (([101,110,100] : List Nat) = [99,111,109,109,101,110,116]) = false by decide,a0,↓x_loc,↓f1e,↓x_attr,↓x_cmp,↓s_ite,↓ss_nil,↓f59e,↓ss_cons,put_v,bT,Nat.reduceBEq,emp_v,field_366_32,kOe,k1e,k57f]
  refine ⟨by simp [big],fun kp hk => ?_⟩
  have e1 := Ext.set (O := .list []) hk
  have a1 : attrsOf (H.set kp (.list [])) (.ref da) = some (366,ddx,[(32,.str [101,110,100]),(36,.str nm),(11,.str []),(43,.none),(42,.none),(41,.bool false),(33,.bool false),(35,.ref dat)]) := by simp only [attrsOf,e1 _ _ h1,e1 _ _ h2]
  simp only [field_366_35,a1,lookA0,lookA1,bT,bF,Nat.reduceBEq,itemsOf,e1 _ _ h3,List.length_nil,↓x_loc,↓f1e,↓x_attr,↓f58e,↓s_for_,↓ss_cons,put_v,emp_v,kOe,k1e,k1be]
  rw [if_pos (by unfold big; lia)]
  simp only [↓x_loc,↓f1e,↓x_attr,↓x_tuple,↓xs_cons,↓s_ret,↓f59e,↓ss_cons,put_v,bT,bF,Nat.reduceBEq,emp_v,kOe,k58e,ovN]
  refine ⟨rfl,?_⟩
  simp only [↓x_loc,↓x_attr,↓x_tupleOf,↓f1e,↓f13e,↓f46e,↓xs_cons,field_366_32,field_366_36,a1,lookA0,lookA1,bT,bF,Nat.reduceBEq,set_self,List.length_nil,kOe,k1e,k1be,k13e,put_v,emp_v]
  refine ⟨by unfold big; lia,fun c hc => ?_⟩
  have e2 := Ext.set (O := .tuple []) hc
  have a2 : attrsOf ((H.set kp (.list [])).set c (.tuple [])) (.ref da) = some (366,ddx,[(32,.str [101,110,100]),(36,.str nm),(11,.str []),(43,.none),(42,.none),(41,.bool false),(33,.bool false),(35,.ref dat)]) := by simp only [attrsOf,e2 _ _ (e1 _ _ h1),e2 _ _ (e1 _ _ h2)]
  simp only [field_366_33,a2,lookA0,lookA1,bT,bF,Nat.reduceBEq,↓f42e,↓xs_nil,↓f45e,↓f46e,↓f56e,↓f59r,↓fCr,k1e,k1be]
  refine ⟨by simp [big],fun b hb => ?_⟩
  have e3 := Ext.set (O := .tuple [.str [101,110,100],.str nm,.ref c,.bool false]) hb
  exact h b c _ ((e1.trans e2).trans e3) set_self (e3 _ _ set_self)

private theorem emit_c (T : TokAt P H t σ a) {b : Addr} {w : List Nat} {r : List D} {u : Tr} (hb : H b = some (.tuple (.str w :: r))) (hw : w ≠ [115,116,97,114,116]) (hu : Rd H u (.ref b)) (hf : flatT u = true) (hl : σ.out.length < big)
    (h : ∀ H',TokAt P H' t { σ with out := σ.out ++ [u] } a → Q .none H') : callP tbl (n + 1) 215 [.ref t,.ref b] Q H := by
  obtain ⟨xs,hx,hr⟩ := T.out
  have e1 : subs H (.ref b) (.int 0) = some (.str w) := by
    simp only [subs,hb]
    rw [if_pos ⟨by lia,by unfold big; lia⟩]; rfl
  rw [callP_at fn_Tokenizer_emit]; simp only [bP0,bP1,kPe,en0,↓fWe,↓ss_nil,↓ss_cons,↓s_expr,↓s_ite,↓x_int,↓x_str,↓x_loc,↓x_attr,↓x_append,↓x_cmp,↓x_sub,↓f1e,↓f17e,↓f18e,↓f23e,↓f24e,↓f36e,↓f37e,↓f48e,↓f57e,↓f59e,put_v,bT,bF,Nat.reduceBEq,emp_v,c_eq_ss,la_22,field_310_22,fd_Tokenizer_emit,b_Tokenizer_emit,T.attrs,hx,e1,decide_eq_false hw,↓fCn,kOe,kBe,k1e,k1be,k17e,k18e,k57f]
  exact ⟨by rw [hr.len]; exact hl,h _ (T.pushOut hx hu hf)⟩

noncomputable def endT (nm : List Nat) : Tr := .tuple [.str [101,110,100],.str nm,.tuple [],.bool false]
private theorem emit_draft_c (T : TokAt P H t σ a) {nm : List Nat} (hd : σ.draft = some nm) (hl : σ.out.length < big) (h : ∀ H',TokAt P H' t { σ with out := σ.out ++ [endT nm],draft := none } a → Q .none H') : callP tbl (n + 2) 236 [.ref t] Q H := by
  have D := T.draft nm hd
  have e1 : draftD a σ.draft = .ref a.da := by rw [hd]; rfl
  rw [callP_at fn_Tokenizer_emit_draft]; simp only [bP0,bP1,kPe,en0,↓fWe,↓ss_nil,↓ss_cons,↓s_expr,↓s_assign,↓s_setattr,↓s_ite,↓x_none,↓x_int,↓x_str,↓x_loc,↓x_attr,↓x_mcall,↓x_len,↓x_cmp,↓f1e,↓f7e,↓f23e,↓f24e,↓f49e,↓f52e,↓f53e,↓f57e,↓f59e,put_v,bT,bF,Nat.reduceBEq,emp_v,c_eq_ss,c_gt_ii,la_21,ld_32,ld_33,ld_35,pa_21,len_T,field_310_21,field_366_32,field_366_33,field_366_35,fd_Tokenizer_emit_draft,b_Tokenizer_emit_draft,T.attrs,e1,D.attrs,D.dat,List.length_nil,decide_true,show decide ((0 : Int) < ((0 : Nat) : Int)) = false by decide,↓f8r,↓f23gt,kOe,kBe,k1e,k1be,k8e,k52e,k57t,k57f]
  refine ⟨by unfold big; lia,⟨trivial,by decide⟩,?_⟩
  have T1 := T.setF (σ' := { σ with draft := none }) rfl rfl rfl rfl rfl (fun u_ h => nomatch h)
  simp only [la_31,meth_310_31,T1.attrs,↓x_loc,↓f7e,↓x_mcall,↓xs_cons,put_v,bT,bF,Nat.reduceBEq,emp_v,kOe,k7e,k7be]
  have kk : ∀ {b : Addr} {O : AO},b ≠ a.dx → H b = some O → (H.set a.dx (.attrs (fsT a { σ with draft := none }))) b = some O := fun hb e => (set_ne hb).trans e
  have hdd : a.da ≠ a.dx := ne_of_kind D.inst T.fs nofun
  have a1 : attrsOf (H.set a.dx (.attrs (fsT a { σ with draft := none }))) (.ref a.da) = some (366,a.ddx,fsD a nm) := by simp only [attrsOf,kk hdd D.inst,kk D.ndx D.fs]
  simp only [ld_29,meth_366_29,a1,↓f6e,↓xs_nil,k7e,k7be]
  refine token_c (kk hdd D.inst) (kk D.ndx D.fs) (kk (ne_of_kind D.dat T.fs nofun) D.dat) fun b c H' hE hb hc => ?_
  refine emit_c (u := endT nm) (T1.ext hE) hb (by decide) (Rd.tup hb (.cons rd_str (.cons rd_str (.cons (Rd.tup hc .nil) (.one rd_bool))))) rfl hl fun H2 T2 => ?_
  exact h H2 T2
end
end Mine
end
section
open PySem
namespace Mine
section
variable {P H : Hp} {t : Addr} {σ : TS} {a : Ad} {n : Nat} {Q : K1}

private theorem is_surrogate_c {i : Int} (h : ∀ b,Q (.bool b) H) : callP tbl (n + 1) 88 [.int i] Q H := by
  rw [callP_at fn_is_surrogate]; simp only [bP0,bP1,kPe,en0,↓fWe,↓ss_cons,↓s_ret,↓x_int,↓x_loc,↓x_chain,↓f26e,↓f27e,put_v,bT,Nat.reduceBEq,emp_v,c_le_ii,fd_is_surrogate,b_is_surrogate,kOe]
  cases decide ((55296 : Int) ≤ i) <;> exact h _
private theorem is_control_c {i : Int} (h : ∀ b,Q (.bool b) H) : callP tbl (n + 1) 102 [.int i] Q H := by
  rw [callP_at fn_is_control]; simp only [bP0,bP1,kPe,en0,↓fWe,↓ss_cons,↓s_ret,↓x_int,↓x_loc,↓x_chain,↓x_bop,↓f26e,↓f27e,↓xb_cons,put_v,bT,Nat.reduceBEq,emp_v,c_le_ii,fd_is_control,b_is_control,kOe]
  rcases Bool.eq_false_or_eq_true (decide ((0 : Int) ≤ i)) with e1 | e1 <;> rcases Bool.eq_false_or_eq_true (decide (i ≤ (31 : Int))) with e2 | e2 <;> rcases Bool.eq_false_or_eq_true (decide ((127 : Int) ≤ i)) with e3 | e3 <;> rcases Bool.eq_false_or_eq_true (decide (i ≤ (159 : Int))) with e4 | e4 <;> simp only [↓x_int,↓x_loc,↓f25e,↓f26e,↓f27e,↓x_chain,↓f30e,↓xb_nil,↓f47e,↓xb_cons,↓f56e,put_v,bT,Nat.reduceBEq,emp_v,c_le_ii,↓f59r,↓fCr,kOe,kBe,k26t,k26f,k47ff,k47ft,e1,e2,e3,e4] <;> exact h _
private theorem is_noncharacter_c {i : Int} (h : ∀ b,Q (.bool b) H) : callP tbl (n + 1) 95 [.int i] Q H := by
  rw [callP_at fn_is_noncharacter]; simp only [bP0,bP1,kPe,en0,↓fWe,↓ss_cons,↓s_ret,↓x_int,↓x_loc,↓x_chain,↓x_bop,↓f26e,↓f27e,↓xb_cons,put_v,bT,Nat.reduceBEq,emp_v,c_le_ii,fd_is_noncharacter,b_is_noncharacter,kOe]
  rcases Bool.eq_false_or_eq_true (decide ((64976 : Int) ≤ i)) with e1 | e1 <;> rcases Bool.eq_false_or_eq_true (decide (i ≤ (65007 : Int))) with e2 | e2 <;> rcases Bool.eq_false_or_eq_true (decide ((0 : Int) ≤ i)) with e3 | e3 <;> rcases Bool.eq_false_or_eq_true (decide (i ≤ (1114111 : Int))) with e4 | e4 <;> rcases Bool.eq_false_or_eq_true (decide ((65534 : Int) ≤ i.fmod 65536)) with e5 | e5 <;> simp only [↓x_int,↓x_loc,↓f24e,↓x_cmp,↓f25e,↓f26e,↓f27e,↓x_chain,↓f30e,↓x_bop,↓f33e,↓f34e,↓x_bin,↓xb_nil,↓f47e,↓xb_cons,↓f56e,put_v,bT,Nat.reduceBEq,emp_v,c_le_ii,c_ge_ii,b_mod_ii,if_true,↓f23ge,↓f59r,↓fCr,kOe,kBe,k26t,k26f,k33e,k47tt,k47tf,k47ff,k47ft,show (0 : Int) < 65536 ∧ (65536 : Int).toNat < 2000000 by decide,and_self,e1,e2,e3,e4,e5] <;> exact h _
private theorem input_error_c {i : Int} (h : ∀ r H',Ext H H' → Q (.str r) H') : callP tbl (n + 2) 109 [.int i] Q H := by
  rw [callP_at fn_input_error]; simp only [bP0,bP1,kPe,en0,↓fWe,↓ss_cons,↓s_ite,↓x_loc,↓x_glo,↓x_call,↓f2e,↓f5e,↓f45e,↓f46e,↓xs_nil,↓xs_cons,put_v,bT,Nat.reduceBEq,emp_v,glo_5,fd_input_error,b_input_error,fn_is_surrogate,kOe,k5e]
  refine is_surrogate_c fun b => ?_
  cases b with
  | true => exact h _ _ (Ext.refl _)
  | false =>
    simp only [↓x_loc,↓x_glo,↓f2e,↓f5e,↓x_call,↓xs_nil,↓f45e,↓f46e,↓xs_cons,↓f57e,↓s_ite,↓ss_nil,↓f59e,↓ss_cons,glo_4,fn_is_noncharacter,kOe,k5e,k57f,put_v,bT,Nat.reduceBEq,emp_v]
    refine is_noncharacter_c fun b => ?_
    cases b with
    | true => exact h _ _ (Ext.refl _)
    | false =>
      simp only [↓x_loc,↓x_glo,↓f2e,↓f5e,↓x_call,↓x_bop,↓xs_nil,↓f45e,↓f46e,↓xs_cons,↓xb_cons,↓f57e,↓s_ite,↓ss_nil,↓f59e,↓ss_cons,glo_3,fn_is_control,kOe,k5e,k57f,put_v,bT,Nat.reduceBEq,emp_v]
      refine is_control_c fun b => ?_
      cases b with
      | false => simp only [↓ss_nil,↓ss_cons,↓s_ret,↓x_str,↓f30e,↓f47e,↓f56e,↓f57e,↓f59e,↓f59r,↓fCr,k47tf,k57f]; exact h _ _ (Ext.refl _)
      | true =>
        simp only [↓x_int,↓x_loc,↓x_isin,↓x_tuple,↓f28e,↓f29e,↓f42e,↓f45e,↓f46e,↓f47e,↓xs_nil,↓xs_cons,↓xb_cons,kOe,k47tt,put_v,bT,Nat.reduceBEq,emp_v]
        refine ⟨by simp [big],fun x hx => ?_⟩
        have e : isinD (H.set x (.tuple [.int 0,.int 9,.int 10,.int 12,.int 13])) (.int i) (.ref x) = some (decide (i ∈ ([0,9,10,12,13] : List Int))) := by
          simp [isinD,isinA,set_self,intsOf]
        rw [e]
        cases decide (i ∈ ([0,9,10,12,13] : List Int)) <;> exact h _ _ (Ext.set hx)

private theorem stream_feed_c (T : TokAt P H t σ a) (hc : σ.closed = false) {x : List Nat} (hx : ∀ c ∈ x,c ≠ 13) (hl : σ.signs.length + x.length + (σ.seB + x.length) ≤ 10000)
    (h : ∀ H',TokAt P H' t { σ with signs := σ.signs ++ x,seB := σ.seB + x.length } a → Q .none H') : callP tbl (n + 3) 130 [.ref a.s,.str x] Q H := by
  have hT : attrsOf H (.ref a.s) = some (147,a.sx,fsS a false) := by rw [← hc]; exact T.sattrs
  rw [callP_at fn_Stream_feed]; simp only [bP0,bP1,kPe,en0,↓fWe,↓ss_nil,↓ss_cons,↓s_ite,↓s_for_,↓x_loc,↓x_attr,↓f1e,↓f57e,↓f58e,↓f59e,put_v,bT,bF,Nat.reduceBEq,emp_v,ls_9,field_147_9,fd_Stream_feed,b_Stream_feed,hT,itemsOf,kOe,k1e,k1be,k57f]
  rw [if_pos (by unfold big; lia)]
  simp only [k58e]
  generalize hst : stays H (.str x) = st
  have hst' : ∀ H,st H := fun H => by rw [← hst]; trivial
  generalize hB : (fun ρ Q H => Ss.wp tbl (callP tbl (n + 2)) lp_Stream_feed_0 ρ Q H) = body
  have loop : ∀ (l : List Nat) (ρ : Ev) (H : Hp) (σ : TS),ρ.v 6 = some (.ref a.s) → TokAt P H t σ a → σ.closed = false → (∀ c ∈ l,c ≠ 13) → σ.signs.length + l.length + (σ.seB + l.length) ≤ 10000 →
      (∀ H',TokAt P H' t { σ with signs := σ.signs ++ l,seB := σ.seB + l.length } a → Q .none H') →
      overItems body 0 st
        (fun fl ρ H => match fl with | .next => Q .none H | fl => match fl with | .ret d => Q d H | .next => Q .none H | .cont => False) (l.map fun c => D.str [c]) ρ H := by
    intro l
    induction l with
    | nil =>
      intro ρ H σ hρ T hc hx hl h
      refine ⟨hst' _,h H ?_⟩
      simpa using T
    | cons c l ih =>
      intro ρ H σ hρ T hc hx hl h
      refine ⟨hst' _,?_⟩
      have hT : attrsOf H (.ref a.s) = some (147,a.sx,fsS a false) := by rw [← hc]; exact T.sattrs
      have c13 : decide (([c] : List Nat) = [13]) = false := by have := hx c (.head _); simp [this]
      simp only [List.length_cons] at hl
      have fin : ∀ (ρ' : Ev) (H' : Hp) (m : Nat),m ≤ σ.seB + 1 → ρ'.v 6 = some (.ref a.s) → ρ'.v 0 = some (.str [c]) → TokAt P H' t { σ with signs := σ.signs ++ [c],seB := m } a →
          (match attrsOf H' (.ref a.s) with
            | some (K,dx,fs) => (tbl.field K 8 = true ∧ (putA 8 (.bool false) fs).length ≤ 1000) ∧
                overItems body 0 st
                  (fun fl ρ H => match fl with | .next => Q .none H | fl => match fl with | .ret d => Q d H | .next => Q .none H | .cont => False) (l.map fun c => D.str [c]) ρ' (H'.set dx (.attrs (putA 8 (.bool false) fs)))
            | none => False) := by
        intro ρ' H' m hm h6 h0 T'
        have hT' : attrsOf H' (.ref a.s) = some (147,a.sx,fsS a false) := by rw [← hc]; exact T'.sattrs
        simp only [ps_8,len_S,field_147_8,hT']
        refine ⟨⟨trivial,by decide⟩,?_⟩
        have T2 := T'.setSx (b := false)
        have e0 : ({ σ with signs := σ.signs ++ [c],seB := m,closed := false } : TS) = { σ with signs := σ.signs ++ [c],seB := m } := by rw [← hc]
        rw [e0] at T2
        refine ih ρ' _ { σ with signs := σ.signs ++ [c],seB := σ.seB + 1 } h6 (T2.seUp hm) hc (fun y hy => hx y (.tail _ hy)) (by simp; lia) fun H3 T3 => h H3 ?_
        have e1 : σ.seB + 1 + l.length = σ.seB + (c :: l).length := by simp; lia
        have e2 : σ.signs ++ [c] ++ l = σ.signs ++ (c :: l) := by simp
        rw [e1,e2] at T3
        exact T3
      refine Eq.mp (congrFun (congrFun (congrFun hB _) _) _) ?_
      simp only [↓ss_cons,↓s_ite,↓x_str,↓x_loc,↓x_cmp,↓x_bop,↓f23e,↓f24e,↓f47e,↓f57e,↓xb_cons,put_v,bT,Nat.reduceBEq,c_eq_ss,c_ne_ss,lp_Stream_feed_0,c13,↓f23s,kOe,kBe,k57f]
      cases h10 : decide (([c] : List Nat) = [10])
      all_goals
        simp only [Bool.not_true,Bool.not_false,hT,hρ,↓x_loc,↓x_glo,↓f1e,↓x_attr,↓f5e,↓x_call,↓f30e,↓f31e,↓x_not,↓f47e,↓xb_cons,↓s_assign,↓f57e,↓ss_cons,put_v,bF,Nat.reduceBEq,ls_8,glo_13,field_147_8,kOe,k1e,k1be,k47ff,k47ft,k57t]
        refine input_error_c fun r H1 hE => ?_
        have T1 := T.ext hE
        have hT1 : attrsOf H1 (.ref a.s) = some (147,a.sx,fsS a false) := by rw [← hc]; exact T1.sattrs
        have e1 : sgs σ.signs ++ [.str [c]] = sgs (σ.signs ++ [c]) := by simp
        by_cases hr : r = []
        · simp only [↓ss_nil,↓ss_cons,↓s_expr,↓s_setattr,↓s_ite,↓x_str,↓x_loc,↓x_attr,↓x_append,↓x_cmp,↓f1e,↓f17e,↓f18e,↓f23e,↓f24e,↓f48e,↓f49e,↓f52e,↓f53e,↓f57e,↓f59e,put_v,bT,bF,Nat.reduceBEq,c_eq_ss,c_ne_ss,Bool.not_true,ls_10,field_147_10,hρ,c13,hr,decide_true,hT1,T1.sg,e1,↓f23s,kOe,kBe,k1e,k1be,k17e,k18e,k57f]
          refine ⟨by simp [big]; lia,?_⟩
          exact fin _ _ σ.seB (by lia) (by simpa using hρ) (by simp) T1.pushSign
        · obtain ⟨zs,z1,z2⟩ := T1.se
          simp only [↓ss_cons,↓s_expr,↓s_ite,↓x_str,↓x_loc,↓x_attr,↓x_len,↓x_append,↓x_cmp,↓x_tuple,↓f1e,↓f17e,↓f18e,↓f24e,↓f42e,↓f45e,↓f46e,↓f49e,↓f57e,↓f59e,↓xs_nil,↓xs_cons,put_v,bT,bF,Nat.reduceBEq,c_ne_ss,Bool.not_false,ls_10,ls_7,field_147_10,field_147_7,hρ,hT1,T1.sg,z1,↓f8r,↓f23s,kOe,kBe,k1e,k1be,k8e,k18e,k57t,hr,decide_false]
          refine ⟨by simp [big]; lia,by simp [big],fun b hb => ?_⟩
          have hx1 := (set_ne (O := .tuple [.str r,.int (sgs σ.signs).length]) (ne_fresh z1 hb)).trans z1
          have T2 := (T1.fresh hb (O := .tuple [.str r,.int (sgs σ.signs).length])).pushSe (xs := zs ++ [.ref b]) (m := σ.seB + 1) (by simp; lia)
          have hT2 : attrsOf (((H1.set b (.tuple [.str r,.int (sgs σ.signs).length])).set a.se (.list (zs ++ [.ref b])))) (.ref a.s) = some (147,a.sx,fsS a false) := by rw [← hc]; exact T2.sattrs
          simp only [hx1,hρ,↓x_loc,↓f1e,↓x_attr,↓x_append,↓f48e,↓s_expr,↓ss_nil,↓f59e,↓ss_cons,put_v,bF,Nat.reduceBEq,kOe,k17e]
          refine ⟨by unfold big; lia,?_⟩
          have hsg := T2.sg
          simp only at hsg
          simp only [ls_10,field_147_10,c13,hT2,hsg,e1,hρ,↓x_str,↓x_loc,↓f17e,↓f18e,↓f23e,↓f24e,↓x_cmp,↓f48e,↓f52e,↓f53e,↓s_setattr,↓ss_nil,↓f59e,↓ss_cons,put_v,bT,bF,Nat.reduceBEq,c_eq_ss,kOe,kBe,k1e,k1be,k17e,k18e]
          refine ⟨by simp [big]; lia,?_⟩
          exact fin _ _ (σ.seB + 1) (by lia) (by simpa using hρ) (by simp) T2.pushSign
  exact loop x _ H σ (by simp) T hc hx hl h
end
end Mine
end
section
open PySem
namespace Mine
section
variable {P H : Hp} {t : Addr} {σ : TS} {a : Ad} {n : Nat} {Q : K1}
private theorem stream_end_c (T : TokAt P H t σ a) (h : ∀ H',TokAt P H' t { σ with closed := true } a → Q .none H') : callP tbl (n + 1) 137 [.ref a.s] Q H := by
  rw [callP_at fn_Stream_end]; simp only [bP0,bP1,kPe,en0,↓fWe,↓ss_nil,↓ss_cons,↓s_setattr,↓x_bool,↓x_loc,↓f52e,↓f53e,↓f59e,put_v,bT,Nat.reduceBEq,emp_v,ps_9,len_S,field_147_9,fd_Stream_end,b_Stream_end,T.sattrs,↓fCn,kOe,k52e]
  exact ⟨⟨trivial,by decide⟩,h _ T.setSx⟩
private theorem tok_end_c (T : TokAt P H t σ a) (h : ∀ H',TokAt P H' t { σ with closed := true } a → Q .none H') : callP tbl (n + 2) 180 [.ref t] Q H := by
  rw [callP_at fn_Tokenizer_end]; simp only [bP0,bP1,kPe,en0,↓fWe,↓ss_cons,↓s_expr,↓x_loc,↓x_attr,↓x_mcall,↓f1e,↓f6e,↓f7e,↓xs_nil,put_v,bT,Nat.reduceBEq,emp_v,la_25,ls_28,meth_147_28,field_310_25,fd_Tokenizer_end,b_Tokenizer_end,T.attrs,T.sattrs,kOe,k1e,k1be,k7e,k7be]
  refine stream_end_c T fun H1 T1 => ?_
  simp only [↓ss_nil,↓ss_cons,↓s_setattr,↓x_bool,↓x_loc,↓f48e,↓f52e,↓f53e,↓f59e,pa_18,len_T,field_310_18,T1.attrs,↓fCn,kOe,k52e,put_v,bT,Nat.reduceBEq,emp_v]
  exact ⟨⟨trivial,by decide⟩,h _ (T1.setF rfl rfl rfl rfl rfl fun u_ h => h)⟩
private theorem tok_feed_c (T : TokAt P H t σ a) (hc : σ.closed = false) {x : List Nat} (hx : ∀ c ∈ x,c ≠ 13) (hl : σ.signs.length + x.length + (σ.seB + x.length) ≤ 10000)
    (h : ∀ H',TokAt P H' t { σ with signs := σ.signs ++ x,seB := σ.seB + x.length } a → Q .none H') : callP tbl (n + 4) 173 [.ref t,.str x] Q H := by
  rw [callP_at fn_Tokenizer_feed]; simp only [bP0,bP1,kPe,en0,↓fWe,↓ss_cons,↓s_expr,↓x_loc,↓x_attr,↓x_mcall,↓f1e,↓f6e,↓f7e,↓f45e,↓f46e,↓xs_nil,↓xs_cons,put_v,bT,bF,Nat.reduceBEq,emp_v,la_25,ls_27,meth_147_27,field_310_25,fd_Tokenizer_feed,b_Tokenizer_feed,T.attrs,T.sattrs,kOe,k1e,k1be,k7e,k7be]
  refine stream_feed_c T hc hx hl fun H1 T1 => ?_
  simp only [↓ss_nil,↓ss_cons,↓s_setattr,↓x_bool,↓x_loc,↓f48e,↓f52e,↓f53e,↓f59e,pa_18,len_T,field_310_18,T1.attrs,↓fCn,kOe,k52e,put_v,bT,bF,Nat.reduceBEq,emp_v]
  exact ⟨⟨trivial,by decide⟩,h _ (T1.setF rfl rfl rfl rfl rfl fun u_ h => h)⟩
private theorem isin_dict {b : Addr} {kvs : List (List Nat × D)} {s : List Nat} (h : H b = some (.dict kvs)) : isinD H (.str s) (.ref b) = some (lookS s kvs).isSome := by
  simp [isinD,isinA,h]
noncomputable def readyR (σ : TS) : Bool := !σ.done && (lookS σ.state statesKV).isSome && (σ.closed || decide (σ.at_ < σ.signs.length))
private theorem is_ready_c (T : TokAt P H t σ a) (hs : σ.signs.length ≤ 10000) (h : Q (.bool (readyR σ)) H) : callP tbl (n + 1) 300 [.ref t] Q H := by
  have e2 : (sgs σ.signs).length = σ.signs.length := by simp
  rw [callP_at fn_Tokenizer_is_ready]; simp only [bP0,bP1,kPe,en0,↓fWe,↓ss_cons,↓s_ite,↓x_loc,↓x_attr,↓x_bop,↓f1e,↓f47e,↓xb_cons,put_v,bT,Nat.reduceBEq,emp_v,la_17,field_310_17,fd_Tokenizer_is_ready,b_Tokenizer_is_ready,T.attrs,kOe,k1e,k1be]
  unfold readyR at h
  have e3 : decide ((σ.at_ : Int) < (σ.signs.length : Int)) = decide (σ.at_ < σ.signs.length) := by simp
  have hb : σ.signs.length ≤ big := by unfold big; lia
  cases hd : σ.done <;> cases hl : (lookS σ.state statesKV).isSome <;> cases hc : σ.closed <;> cases hx : decide (σ.at_ < σ.signs.length) <;> simp only [hd,hl,hc,hx,e2,e3,T.attrs,T.sattrs,T.sg,isin_dict T.st,Bool.not_true,Bool.not_false,Bool.and_true,Bool.and_false,Bool.or_true,Bool.or_false,Bool.bne_true,bne_self_eq_false,↓x_bool,↓x_loc,↓f1e,↓x_attr,↓x_len,↓f24e,↓x_cmp,↓f28e,↓f29e,↓x_isin,↓f30e,↓x_bop,↓xb_nil,↓f47e,↓xb_cons,↓f56e,↓s_ret,↓f57e,↓ss_nil,↓f59e,↓ss_cons,put_v,bT,Nat.reduceBEq,emp_v,c_lt_ii,la_14,la_25,la_24,la_15,la_18,ls_10,ls_9,field_147_10,field_147_9,field_310_14,field_310_25,field_310_24,field_310_15,field_310_18,↓f8r,↓f23lt,↓f59r,↓fCr,kOe,kBe,k1e,k1be,k8e,k28e,k47ff,k47ft,k57t,k57f] at h ⊢ <;> first | exact h | exact ⟨hb,h⟩

private theorem stream_init_c {s sx : Addr} (h1 : H s = some (.inst 147 sx)) (h2 : H sx = some (.attrs []))
    (h : ∀ sg se H',H sg = none → H se = none → sg ≠ se → H' sx = some (.attrs [(10,.ref sg),(9,.bool false),(8,.bool false),(7,.ref se)]) → H' sg = some (.list []) → H' se = some (.list []) → (∀ b O,b ≠ sx → H b = some O → H' b = some O) → Q .none H') :
    callP tbl (n + 1) 123 [.ref s] Q H := by
  have hne : s ≠ sx := ne_of_kind h1 h2 nofun
  rw [callP_at fn_Stream_init]; simp only [bP0,bP1,kPe,en0,↓fWe,↓ss_cons,↓s_setattr,↓x_loc,↓x_list,↓f41e,↓f52e,↓f53e,↓xs_nil,put_v,bT,Nat.reduceBEq,emp_v,fd_Stream_init,b_Stream_init,List.length_nil,kOe]
  refine ⟨by unfold big; lia,fun sg hg => ?_⟩
  have gs : s ≠ sg := ne_fresh h1 hg
  have gx : sx ≠ sg := ne_fresh h2 hg
  have a1 : attrsOf (H.set sg (.list [])) (.ref s) = some (147,sx,[]) := by simp only [attrsOf,set_ne gs,h1,set_ne gx,h2]
  have h1' : (H.set sg (.list [])) s = some (.inst 147 sx) := (set_ne gs).trans h1
  simp only [Nat.reduceAdd,field_147_10,field_147_9,field_147_8,a1,attrsOf_set h1' hne,putA0,putA1,bT,bF,Nat.reduceBEq,set_set,List.length_cons,List.length_nil,↓x_bool,↓x_loc,↓f41e,↓x_list,↓xs_nil,↓f52e,↓f53e,↓s_setattr,↓f59e,↓ss_cons,put_v,emp_v,kOe,k52e]
  refine ⟨⟨trivial,by decide⟩,⟨trivial,by decide⟩,⟨trivial,by decide⟩,by unfold big; lia,fun se he => ?_⟩
  have ex : se ≠ sx := by rintro rfl; rw [set_self] at he; cases he
  rw [set_ne ex] at he
  have eg : se ≠ sg := by rintro rfl; rw [set_self] at he; cases he
  rw [set_ne eg] at he
  have es : s ≠ se := ne_fresh h1 he
  have a2 : attrsOf (((H.set sg (.list [])).set sx (.attrs [(10,.ref sg),(9,.bool false),(8,.bool false)])).set se (.list [])) (.ref s) = some (147,sx,[(10,.ref sg),(9,.bool false),(8,.bool false)]) := by
    simp only [attrsOf,set_ne es,set_ne hne,set_ne gs,h1,set_ne (Ne.symm ex),set_self]
  simp only [Nat.reduceAdd,field_147_7,a2,putA0,putA1,bF,Nat.reduceBEq,List.length_cons,List.length_nil,↓ss_nil,↓f59e,↓fCn,k52e]
  refine ⟨⟨trivial,by decide⟩,h sg se _ hg he (Ne.symm eg) set_self ?_ ?_ fun b O hb e => ?_⟩
  · rw [set_ne (Ne.symm gx),set_ne (Ne.symm eg),set_ne (Ne.symm gx),set_self]
  · rw [set_ne ex,set_self]
  · rw [set_ne hb,set_ne (ne_fresh e he),set_ne hb,set_ne (ne_fresh e hg)]; exact e

noncomputable def σ0 (kind last : List Nat) : TS := { state := kind,back := [100,97,116,97],buffer := [],last := last,at_ := 0,out := [],errs := [],draft := none,done := false,closed := false,signs := [],seB := 0 }
noncomputable def But (dx : Addr) (H H' : Hp) : Prop := ∀ b O,b ≠ dx → H b = some O → H' b = some O
private theorem But.set {dx : Addr} {O : AO} : But dx H (H.set dx O) := fun b O' hb e => (set_ne hb).trans e
private theorem But.ext {dx : Addr} {H' : Hp} (h : Ext H H') : But dx H H' := fun b O u_ e => h b O e
private theorem But.trans {dx : Addr} {H' H'' : Hp} (h : But dx H H') (k : But dx H' H'') : But dx H H'' := fun b O hb e => k b O hb (h b O hb e)
private theorem tok_init_c {x dx st : Addr} {kind last : List Nat} (h1 : H x = some (.inst 310 dx)) (h2 : H dx = some (.attrs [])) (hP : Ext P H) (px : P dx = none) (hst : H st = some (.dict statesKV))
    (h : ∀ a H',TokAt P H' x (σ0 kind last) a → Q .none H') : callP tbl (n + 2) 166 [.ref x,.ref st,.str kind,.str last] Q H := by
  have hne : x ≠ dx := ne_of_kind h1 h2 nofun
  have a0 : attrsOf H (.ref x) = some (310,dx,[]) := by simp only [attrsOf,h1,h2]
  rw [callP_at fn_Tokenizer_init]; simp only [bP0,bP1,kPe,en0,↓fWe,↓ss_cons,↓s_setattr,↓x_loc,↓x_glo,↓x_call,↓f5e,↓f52e,↓f53e,↓f59e,put_v,bT,bF,Nat.reduceBEq,emp_v,Nat.reduceAdd,glo_26,field_310_14,fd_Tokenizer_init,b_Tokenizer_init,a0,putA0,List.length_cons,List.length_nil,kOe,k52e]
  refine ⟨⟨trivial,by decide⟩,fun sx s hsx hs hss => ?_⟩
  have b1 : But dx H (((H.set dx (.attrs [(14,.ref st)])).set sx (.attrs [])).set s (.inst 147 sx)) := (But.set).trans ((But.ext (Ext.set hsx)).trans (But.ext (Ext.set (by rw [set_ne (Ne.symm hss)]; exact hs))))
  have dsx : sx ≠ dx := by rintro rfl; rw [set_self] at hsx; cases hsx
  have dss : s ≠ dx := by rintro rfl; rw [set_self] at hs; cases hs
  have hsx' : H sx = none := by rw [← hsx,set_ne dsx]
  have hs' : H s = none := by rw [← hs,set_ne dss]
  have d1 : (((H.set dx (.attrs [(14,.ref st)])).set sx (.attrs [])).set s (.inst 147 sx)) dx = some (.attrs [(14,.ref st)]) := by rw [set_ne (Ne.symm dss),set_ne (Ne.symm dsx),set_self]
  have s1 : (((H.set dx (.attrs [(14,.ref st)])).set sx (.attrs [])).set s (.inst 147 sx)) s = some (.inst 147 sx) := set_self
  have s2 : (((H.set dx (.attrs [(14,.ref st)])).set sx (.attrs [])).set s (.inst 147 sx)) sx = some (.attrs []) := by rw [set_ne hss,set_self]
  generalize hG : (((H.set dx (.attrs [(14,.ref st)])).set sx (.attrs [])).set s (.inst 147 sx)) = G at b1 d1 s1 s2 ⊢
  have hP1 : ∀ b O,P b = some O → G b = some O := fun b O e => b1 b O (by rintro rfl; rw [px] at e; cases e) (hP _ _ e)
  refine stream_init_c s1 s2 fun sg se G1 hsg hse hgg k1 k2 k3 kb => ⟨rfl,?_⟩
  have x1 : G x = some (.inst 310 dx) := b1 _ _ hne h1
  have x2 : G1 x = some (.inst 310 dx) := kb _ _ (ne_of_kind x1 s2 nofun) x1
  have d2 : G1 dx = some (.attrs [(14,.ref st)]) := kb _ _ (Ne.symm dsx) d1
  have a1 : attrsOf G1 (.ref x) = some (310,dx,[(14,.ref st)]) := by simp only [attrsOf,x2,d2]
  have hPsx : P sx = none := by
    cases q : P sx with
    | none => rfl
    | some O => rw [hP _ _ q] at hsx'; cases hsx'
  have hP2 : ∀ b O,P b = some O → G1 b = some O := fun b O e => kb b O (by rintro rfl; rw [hPsx] at e; cases e) (hP1 _ _ e)
  simp only [↓ss_cons,↓s_setattr,↓x_int,↓x_str,↓x_loc,↓x_list,↓f41e,↓f52e,↓f53e,↓f59e,↓xs_nil,Nat.reduceAdd,field_310_25,field_310_24,field_310_15,field_310_23,a1,putA0,putA1,bT,bF,Nat.reduceBEq,attrsOf_set x2 hne,set_set,List.length_cons,List.length_nil,kOe,k52e,put_v,emp_v]
  refine ⟨⟨trivial,by decide⟩,⟨trivial,by decide⟩,⟨trivial,by decide⟩,⟨trivial,by decide⟩,by unfold big; lia,fun o ho => ?_⟩
  have ox : o ≠ dx := by rintro rfl; rw [set_self] at ho; cases ho
  have ho' : G1 o = none := by rw [← ho,set_ne ox]
  have xo : x ≠ o := ne_fresh x2 ho'
  have a2 : attrsOf ((G1.set dx (.attrs [(14,.ref st),(25,.ref s),(24,.int 0),(15,.str kind),(23,.str [100,97,116,97])])).set o (.list [])) (.ref x) = some (310,dx,[(14,.ref st),(25,.ref s),(24,.int 0),(15,.str kind),(23,.str [100,97,116,97])]) := by
    simp only [attrsOf,set_ne xo,set_ne hne,x2,set_ne (Ne.symm ox),set_self]
  have x3 : ((G1.set dx (.attrs [(14,.ref st),(25,.ref s),(24,.int 0),(15,.str kind),(23,.str [100,97,116,97])])).set o (.list [])) x = some (.inst 310 dx) := by rw [set_ne xo,set_ne hne]; exact x2
  simp only [Nat.reduceAdd,field_310_22,a2,putA0,putA1,bT,bF,Nat.reduceBEq,List.length_cons,List.length_nil,↓x_loc,↓f41e,↓x_list,↓xs_nil,↓f52e,↓f53e,↓s_setattr,↓f59e,↓ss_cons,put_v,emp_v,kOe,k52e]
  refine ⟨⟨trivial,by decide⟩,by unfold big; lia,fun e he => ?_⟩
  have ex : e ≠ dx := by rintro rfl; rw [set_self] at he; cases he
  rw [set_ne ex] at he
  have eo : e ≠ o := by rintro rfl; rw [set_self] at he; cases he
  rw [set_ne eo,set_ne ex] at he
  have xe : x ≠ e := ne_fresh x2 he
  have kk : ∀ {b : Addr} {O : AO} {fs : AO},b ≠ dx → G1 b = some O → (((((G1.set dx (.attrs [(14,.ref st),(25,.ref s),(24,.int 0),(15,.str kind),(23,.str [100,97,116,97])])).set o (.list [])).set dx fs).set e (.list []))) b = some O := fun hb q => by
    rw [set_ne (ne_fresh q he),set_ne hb,set_ne (ne_fresh q ho'),set_ne hb]; exact q
  have a3 : attrsOf ((((G1.set dx (.attrs [(14,.ref st),(25,.ref s),(24,.int 0),(15,.str kind),(23,.str [100,97,116,97])])).set o (.list [])).set dx (.attrs [(14,.ref st),(25,.ref s),(24,.int 0),(15,.str kind),(23,.str [100,97,116,97]),(22,.ref o)])).set e (.list [])) (.ref x) =
      some (310,dx,[(14,.ref st),(25,.ref s),(24,.int 0),(15,.str kind),(23,.str [100,97,116,97]),(22,.ref o)]) := by
    simp only [attrsOf,kk hne x2,set_ne (Ne.symm ex),set_self]
  have x4 : ((((G1.set dx (.attrs [(14,.ref st),(25,.ref s),(24,.int 0),(15,.str kind),(23,.str [100,97,116,97])])).set o (.list [])).set dx (.attrs [(14,.ref st),(25,.ref s),(24,.int 0),(15,.str kind),(23,.str [100,97,116,97]),(22,.ref o)])).set e (.list [])) x = some (.inst 310 dx) := kk hne x2
  simp only [Nat.reduceAdd,field_310_7,field_310_21,field_310_20,field_310_12,field_310_16,field_310_19,field_310_18,field_310_17,a3,putA0,putA1,bT,bF,Nat.reduceBEq,attrsOf_set x4 hne,set_set,List.length_cons,List.length_nil,↓x_none,↓x_bool,↓x_int,↓x_str,↓x_loc,↓f52e,↓f53e,↓s_setattr,↓ss_nil,↓f59e,↓ss_cons,put_v,emp_v,↓fCn,kOe,k52e]
  refine ⟨⟨trivial,by decide⟩,⟨trivial,by decide⟩,⟨trivial,by decide⟩,⟨trivial,by decide⟩,⟨trivial,by decide⟩,⟨trivial,by decide⟩,⟨trivial,by decide⟩,⟨trivial,by decide⟩,?_⟩
  refine h { dx := dx,s := s,sx := sx,out := o,err := e,sg := sg,se := se,st := st,da := 0,ddx := 0,dat := 0 } _ ?_
  have hdd : ∀ {b : Addr} {O O' : AO},b ≠ dx → H b = some O' → G1 b = some O' := fun hb q => kb _ _ (by rintro rfl; rw [hsx'] at q; cases q) (b1 _ _ hb q)
  have Pn : ∀ b,G b = none → P b = none := fun b q => by
    cases z : P b with
    | none => rfl
    | some O => rw [hP1 _ _ z] at q; cases q
  have Pn1 : ∀ b,G1 b = none → P b = none := fun b q => by
    cases z : P b with
    | none => rfl
    | some O => rw [hP2 _ _ z] at q; cases q
  have gs : G1 s = some (.inst 147 sx) := kb _ _ hss.symm s1
  have hst1 : G1 st = some (.dict statesKV) := hdd (O := .list []) (ne_of_kind hst h2 nofun) hst
  have sgdx : sg ≠ dx := by rintro rfl; rw [hsg] at d1; cases d1
  have sedx : se ≠ dx := by rintro rfl; rw [hse] at d1; cases d1
  exact {
    inst := (set_ne hne).trans (kk hne x2)
    fs := set_self
    sinst := (set_ne dss).trans (kk dss gs)
    sfs := (set_ne dsx).trans (kk dsx k1)
    out := ⟨[],by rw [set_ne ox,set_ne (Ne.symm eo),set_ne ox,set_self],Rds.nil⟩
    err := ⟨[],by rw [set_ne ex,set_self],Rds.nil⟩
    sg := (set_ne sgdx).trans (kk sgdx k2)
    se := ⟨[],(set_ne sedx).trans (kk sedx k3),Nat.le_refl _⟩
    st := (set_ne (ne_of_kind hst h2 nofun)).trans (kk (ne_of_kind hst h2 nofun) hst1)
    draft := fun nm q => by cases q
    flat := ⟨rfl,rfl⟩
    sub := fun b O q => by
      have hb : b ≠ dx := by rintro rfl; rw [px] at q; cases q
      exact (set_ne hb).trans (kk hb (hP2 _ _ q))
    pdx := px
    psx := hPsx
    pout := Pn1 _ ho'
    perr := Pn1 _ he
    psg := Pn _ hsg
    pse := Pn _ hse
    n1 := Ne.symm eo
    n2 := Ne.symm (ne_fresh k2 ho')
    n3 := Ne.symm (ne_fresh k3 ho')
    n4 := Ne.symm (ne_fresh k2 he)
    n5 := Ne.symm (ne_fresh k3 he)
    n6 := hgg
    n7 := Ne.symm dsx }
end
end Mine
end
section
open PySem
namespace Mine
section
variable {P H : Hp} {t : Addr} {σ : TS} {a : Ad} {n : Nat} {Q : K1}
noncomputable def eofT : Tr := .tuple [.str [101,111,102]]
noncomputable def nullT (m : Nat) : Tr := .tuple [.str [117,110,101,120,112,101,99,116,101,100,45,110,117,108,108,45,99,104,97,114,97,99,116,101,114],.int m]
noncomputable def chT (s : List Nat) : Tr := .tuple [.str [99,104,97,114],.str s]
noncomputable def lowP (x : Nat) : Nat := if 65 ≤ x ∧ x ≤ 90 then x + 32 else x
private theorem lt_one {x y : Nat} : (([x] : List Nat) < [y]) ↔ x < y := by simp [List.cons_lt_cons_iff]
private theorem lower_c {x : Nat} (h : Q (.str [lowP x]) H) : callP tbl (n + 2) 81 [.str [x]] Q H := by
  rw [callP_at fn_lower]; simp only [bP0,bP1,kPe,en0,↓fWe,↓ss_cons,↓s_ite,↓x_loc,↓x_glo,↓x_call,↓f2e,↓f5e,↓f45e,↓f46e,↓xs_nil,↓xs_cons,put_v,bT,Nat.reduceBEq,emp_v,glo_1,fd_lower,b_lower,fn_is_upper,kOe,k5e]
  refine is_upper_c ?_
  unfold lowP at h
  by_cases h1 : 65 ≤ x ∧ x ≤ 90
  · rw [if_pos h1] at h
    have e : (!decide (([x] : List Nat) < [65]) && !decide (([90] : List Nat) < [x])) = true := by simp [lt_one]; lia
    rw [e]
    simp only [↓ss_cons,↓s_ret,↓x_int,↓x_loc,↓x_chr,↓x_ord,↓x_bin,↓f9e,↓f10e,↓f33e,↓f34e,↓f56e,↓f57e,b_add_ii,↓f59r,↓fCr,kOe,k33e,k57t,put_v,bT,Nat.reduceBEq,emp_v]
    refine ⟨by lia,?_⟩
    have e2 : ((x : Int) + 32).toNat = x + 32 := by lia
    rw [e2]; exact h
  · rw [if_neg h1] at h
    have e : (!decide (([x] : List Nat) < [65]) && !decide (([90] : List Nat) < [x])) = false := by simp [lt_one]; lia
    rw [e]
    simp only [↓ss_nil,↓ss_cons,↓s_ret,↓x_loc,↓f56e,↓f57e,↓f59e,↓f59r,↓fCr,kOe,k57f,put_v,bT,Nat.reduceBEq,emp_v]
    exact h

noncomputable def TS.ok (σ : TS) : Prop := σ.signs.length ≤ 10000 ∧ σ.out.length + σ.buffer.length + 100 ≤ big ∧ σ.errs.length + 100 ≤ big ∧ ∀ nm,σ.draft = some nm → nm.length + 100 ≤ big

noncomputable def dataF (σ : TS) : TS :=
  if nextR σ = [] then { nextS σ with out := σ.out ++ [eofT],done := true }
  else if nextR σ = [38] then { nextS σ with back := [100,97,116,97],state := [99,104,97,114,97,99,116,101,114,32,114,101,102,101,114,101,110,99,101] }
  else if nextR σ = [60] then { nextS σ with state := [116,97,103,32,111,112,101,110] }
  else if nextR σ = [0] then { nextS σ with errs := σ.errs ++ [nullT σ.at_],out := σ.out ++ [chT (nextR σ)] }
  else { nextS σ with out := σ.out ++ [chT (nextR σ)] }
private theorem data_c (T : TokAt P H t σ a) (ok : σ.ok) (h : ∀ a' H',TokAt P H' t (dataF σ) a' → Q .none H') : callP tbl (n + 2) 377 [.ref t] Q H := by
  obtain ⟨o1,o2,o3,o4⟩ := ok
  unfold dataF at h
  rw [callP_at fn_data_state]; simp only [bP0,bP1,kPe,en0,↓fWe,↓ss_cons,↓s_assign,↓x_loc,↓x_mcall,↓f6e,↓f7e,↓xs_nil,put_v,bT,Nat.reduceBEq,emp_v,la_50,meth_310_50,fd_data_state,b_data_state,T.attrs,kOe,k7e,k7be]
  refine next_c T o1 fun H1 T1 => ?_
  have l1 : (nextS σ).out.length < big := by show σ.out.length < big; lia
  have l2 : (nextS σ).errs.length < big := by show σ.errs.length < big; lia
  by_cases c1 : nextR σ = []
  · simp only [↓ss_cons,↓s_expr,↓s_ite,↓x_str,↓x_loc,↓x_mcall,↓x_cmp,↓f6e,↓f7e,↓f23e,↓f24e,↓f49e,↓f57e,↓f59e,↓xs_nil,put_v,bT,bF,Nat.reduceBEq,c_eq_ss,la_47,meth_310_47,decide_eq_true c1,T1.attrs,kOe,kBe,k7e,k7be,k57t,emp_v]
    rw [if_pos c1] at h
    exact emit_eof_c T1 l1 (fun H2 T2 => h a H2 T2)
  rw [if_neg c1] at h
  by_cases c2 : nextR σ = [38]
  · simp only [↓ss_cons,↓s_expr,↓s_setattr,↓s_ite,↓x_str,↓x_loc,↓x_mcall,↓x_cmp,↓f7e,↓f23e,↓f24e,↓f49e,↓f52e,↓f53e,↓f57e,↓f59e,put_v,bT,bF,Nat.reduceBEq,c_eq_ss,pa_23,len_T,field_310_23,decide_eq_false c1,decide_eq_true c2,T1.attrs,kOe,kBe,k52e,k57t,k57f,emp_v]
    rw [if_pos c2] at h
    have T2 := T1.setF (σ' := { nextS σ with back := [100,97,116,97] }) rfl rfl rfl rfl rfl (fun u_ h => h)
    refine ⟨⟨trivial,by decide⟩,?_⟩
    simp only [la_48,meth_310_48,T2.attrs,↓x_str,↓f6e,↓xs_nil,↓f45e,↓f46e,↓xs_cons,k7e,k7be]
    exact to_c T2 (fun H3 T3 => h a H3 T3)
  rw [if_neg c2] at h
  by_cases c3 : nextR σ = [60]
  · simp only [↓ss_cons,↓s_expr,↓s_ite,↓x_str,↓x_loc,↓x_mcall,↓x_cmp,↓f6e,↓f7e,↓f23e,↓f24e,↓f45e,↓f46e,↓f49e,↓f57e,↓f59e,↓xs_nil,↓xs_cons,put_v,bT,bF,Nat.reduceBEq,c_eq_ss,la_48,meth_310_48,decide_eq_false c1,decide_eq_false c2,decide_eq_true c3,T1.attrs,kOe,kBe,k7e,k7be,k57t,k57f,emp_v]
    rw [if_pos c3] at h
    exact to_c T1 (fun H3 T3 => h a H3 T3)
  rw [if_neg c3] at h
  by_cases c4 : nextR σ = [0]
  · simp only [↓ss_cons,↓s_expr,↓s_ite,↓x_str,↓x_loc,↓x_mcall,↓x_cmp,↓f6e,↓f7e,↓f23e,↓f24e,↓f45e,↓f46e,↓f49e,↓f57e,↓f59e,↓xs_nil,↓xs_cons,put_v,bT,bF,Nat.reduceBEq,c_eq_ss,la_34,meth_310_34,decide_eq_false c1,decide_eq_false c2,decide_eq_false c3,decide_eq_true c4,T1.attrs,kOe,kBe,k7e,k7be,k57t,k57f,emp_v]
    rw [if_pos c4] at h
    refine error_c T1 (m := σ.at_) rfl l2 fun H2 T2 => ?_
    simp only [↓ss_nil,↓ss_cons,↓s_expr,↓x_loc,↓x_mcall,↓f6e,↓f7e,↓f45e,↓f46e,↓f48e,↓f59e,↓xs_nil,↓xs_cons,la_49,meth_310_49,T2.attrs,kOe,k7e,k7be,put_v,bT,bF,Nat.reduceBEq,emp_v]
    exact emit_sign_c T2 l1 (fun H3 T3 => h a H3 T3)
  · simp only [↓ss_nil,↓ss_cons,↓s_expr,↓s_ite,↓x_str,↓x_loc,↓x_mcall,↓x_cmp,↓f6e,↓f7e,↓f23e,↓f24e,↓f45e,↓f46e,↓f49e,↓f57e,↓f59e,↓xs_nil,↓xs_cons,put_v,bT,bF,Nat.reduceBEq,c_eq_ss,la_49,meth_310_49,decide_eq_false c1,decide_eq_false c2,decide_eq_false c3,decide_eq_false c4,T1.attrs,kOe,kBe,k7e,k7be,k57f,emp_v]
    rw [if_neg c4] at h
    exact emit_sign_c T1 l1 (fun H3 T3 => h a H3 T3)

noncomputable def heldF (kind : List Nat) (σ : TS) : TS :=
  if nextR σ = [] then { nextS σ with out := σ.out ++ [eofT],done := true }
  else if nextR σ = [38] ∧ kind = [82,67,68,65,84,65] then { nextS σ with back := kind,state := [99,104,97,114,97,99,116,101,114,32,114,101,102,101,114,101,110,99,101] }
  else if nextR σ = [60] ∧ kind ≠ [80,76,65,73,78,84,69,88,84] then { nextS σ with state := kind ++ [32,108,101,115,115,45,116,104,97,110,32,115,105,103,110] }
  else if nextR σ = [0] then { nextS σ with errs := σ.errs ++ [nullT σ.at_],out := σ.out ++ [chT [65533]] }
  else { nextS σ with out := σ.out ++ [chT (nextR σ)] }
private theorem held_c {kind : List Nat} (T : TokAt P H t σ a) (ok : σ.ok) (hk : kind.length ≤ 100) (h : ∀ a' H',TokAt P H' t (heldF kind σ) a' → Q .none H') : callP tbl (n + 2) 384 [.ref t,.str kind] Q H := by
  obtain ⟨o1,o2,o3,o4⟩ := ok
  unfold heldF at h
  rw [callP_at fn_held_text]; simp only [bP0,bP1,kPe,en0,↓fWe,↓ss_cons,↓s_assign,↓x_loc,↓x_mcall,↓f6e,↓f7e,↓xs_nil,put_v,bT,bF,Nat.reduceBEq,emp_v,la_50,meth_310_50,fd_held_text,b_held_text,T.attrs,kOe,k7e,k7be]
  refine next_c T o1 fun H1 T1 => ?_
  have l1 : (nextS σ).out.length < big := by show σ.out.length < big; lia
  have l2 : (nextS σ).errs.length < big := by show σ.errs.length < big; lia
  by_cases c1 : nextR σ = []
  · simp only [↓ss_cons,↓s_expr,↓s_ite,↓x_str,↓x_loc,↓x_mcall,↓x_cmp,↓f6e,↓f7e,↓f23e,↓f24e,↓f49e,↓f57e,↓f59e,↓xs_nil,put_v,bT,bF,Nat.reduceBEq,c_eq_ss,la_47,meth_310_47,decide_eq_true c1,T1.attrs,kOe,kBe,k7e,k7be,k57t,emp_v]
    rw [if_pos c1] at h
    exact emit_eof_c T1 l1 (fun H2 T2 => h a H2 T2)
  rw [if_neg c1] at h
  by_cases c2 : nextR σ = [38] ∧ kind = [82,67,68,65,84,65]
  · simp only [↓ss_cons,↓s_expr,↓s_setattr,↓s_ite,↓x_str,↓x_loc,↓x_mcall,↓x_cmp,↓x_bop,↓f7e,↓f23e,↓f24e,↓f30e,↓f47e,↓f49e,↓f52e,↓f53e,↓f57e,↓f59e,↓xb_nil,↓xb_cons,put_v,bT,bF,Nat.reduceBEq,c_eq_ss,pa_23,len_T,field_310_23,decide_eq_false c1,decide_eq_true c2.1,decide_eq_true c2.2,T1.attrs,kOe,kBe,k47tt,k52e,k57t,k57f,emp_v]
    rw [if_pos c2] at h
    have T2 := T1.setF (σ' := { nextS σ with back := kind }) rfl rfl rfl rfl rfl (fun u_ h => h)
    refine ⟨⟨trivial,by decide⟩,?_⟩
    simp only [la_48,meth_310_48,T2.attrs,↓x_str,↓f6e,↓xs_nil,↓f45e,↓f46e,↓xs_cons,k7e,k7be]
    exact to_c T2 (fun H3 T3 => h a H3 T3)
  rw [if_neg c2] at h
  have e2 : (if decide (nextR σ = [38]) = true then (if decide (kind = [82,67,68,65,84,65]) = true then true else decide (kind = [82,67,68,65,84,65])) else decide (nextR σ = [38])) = false := by
    by_cases q1 : nextR σ = [38] <;> by_cases q2 : kind = [82,67,68,65,84,65] <;> simp_all [reduceIte,Nat.reduceEqDiff,Nat.reduceAdd,Bool.false_eq_true,reduceCtorEq,decide_true,decide_false]
  have rest : (∀ (ρ : Ev),ρ.v 46 = some (.ref t) → ρ.v 0 = some (.str (nextR σ)) → ρ.v 32 = some (.str kind) → S.wp tbl (callP tbl (n + 1)) (.ite (.bop true (.cons (.cmp .eq (.loc 0) (.str [60])) (.cons (.cmp .ne (.loc 32) (.str [80,76,65,73,78,84,69,88,84])) (.nil)))) (.cons (.expr (.mcall (.loc 46) 48 (.cons (.bin .add (.loc 32) (.str [32,108,101,115,115,45,116,104,97,110,32,115,105,103,110])) (.nil)))) .nil) (.cons (.ite (.cmp .eq (.loc 0) (.str [0])) (.cons (.expr (.mcall (.loc 46) 34 (.cons (.str [117,110,101,120,112,101,99,116,101,100,45,110,117,108,108,45,99,104,97,114,97,99,116,101,114]) (.nil)))) (.cons (.expr (.mcall (.loc 46) 49 (.cons (.str [65533]) (.nil)))) .nil)) (.cons (.expr (.mcall (.loc 46) 49 (.cons (.loc 0) (.nil)))) .nil)) .nil)) ρ
      (fC Q) H1) := by
    intro ρ h46 h0 h32
    by_cases c3 : nextR σ = [60] ∧ kind ≠ [80,76,65,73,78,84,69,88,84]
    · simp only [↓ss_cons,↓s_expr,↓s_ite,↓x_str,↓x_loc,↓x_mcall,↓x_cmp,↓x_bop,↓x_bin,↓f7e,↓f23e,↓f24e,↓f30e,↓f33e,↓f34e,↓f47e,↓f57e,↓xs_cons,↓xb_nil,↓xb_cons,c_eq_ss,c_ne_ss,b_add_ss,Bool.not_false,la_48,meth_310_48,h46,h0,h32,decide_eq_true c3.1,decide_eq_false c3.2,T1.attrs,↓f23s,kOe,kBe,k7e,k7be,k47tt,k57t]
      rw [if_pos c3] at h
      simp only [List.length_cons,List.length_nil,Nat.reduceAdd]
      rw [if_pos (by unfold big; lia)]
      simp only [↓f6e,↓xs_nil,↓f45e,↓f46e,k33e]
      exact to_c T1 (fun H3 T3 => h a H3 T3)
    rw [if_neg c3] at h
    have tail : S.wp tbl (callP tbl (n + 1)) (.ite (.cmp .eq (.loc 0) (.str [0])) (.cons (.expr (.mcall (.loc 46) 34 (.cons (.str [117,110,101,120,112,101,99,116,101,100,45,110,117,108,108,45,99,104,97,114,97,99,116,101,114]) (.nil)))) (.cons (.expr (.mcall (.loc 46) 49 (.cons (.str [65533]) (.nil)))) .nil)) (.cons (.expr (.mcall (.loc 46) 49 (.cons (.loc 0) (.nil)))) .nil)) ρ
      (fC Q) H1 := by
      by_cases c4 : nextR σ = [0]
      · simp only [↓ss_cons,↓s_expr,↓s_ite,↓x_str,↓x_loc,↓x_mcall,↓x_cmp,↓f6e,↓f7e,↓f23e,↓f24e,↓f45e,↓f46e,↓f57e,↓xs_nil,↓xs_cons,c_eq_ss,la_34,meth_310_34,h46,h0,decide_eq_true c4,T1.attrs,kOe,kBe,k7e,k7be,k57t]
        rw [if_pos c4] at h
        refine error_c T1 (m := σ.at_) rfl l2 fun H2 T2 => ?_
        simp only [↓x_str,↓x_loc,↓f6e,↓f7e,↓x_mcall,↓xs_nil,↓f45e,↓f46e,↓xs_cons,↓f48e,↓s_expr,↓f59e,↓ss_cons,la_49,meth_310_49,h46,T2.attrs,kOe,k7e,k7be]
        exact emit_sign_c T2 l1 (fun H3 T3 => h a H3 T3)
      · simp only [↓ss_cons,↓s_expr,↓s_ite,↓x_str,↓x_loc,↓x_mcall,↓x_cmp,↓f6e,↓f7e,↓f23e,↓f24e,↓f45e,↓f46e,↓f57e,↓xs_nil,↓xs_cons,c_eq_ss,la_49,meth_310_49,h46,h0,decide_eq_false c4,T1.attrs,kOe,kBe,k7e,k7be,k57f]
        rw [if_neg c4] at h
        exact emit_sign_c T1 l1 (fun H3 T3 => h a H3 T3)
    by_cases q1 : nextR σ = [60]
    · have q2 : kind = [80,76,65,73,78,84,69,88,84] := by
        refine Classical.byContradiction fun z => c3 ⟨q1,z⟩
      simp only [↓ss_cons,↓s_ite,↓x_str,↓x_loc,↓x_cmp,↓x_bop,↓f23e,↓f24e,↓f30e,↓f47e,↓f57e,↓xb_cons,c_eq_ss,c_ne_ss,Bool.not_true,h0,h32,decide_eq_true q1,decide_eq_true q2,↓f23s,kOe,kBe,k47tt,k47tf,k57f] at tail ⊢
      exact tail
    · simp only [↓ss_cons,↓s_ite,↓x_str,↓x_loc,↓x_cmp,↓x_bop,↓f23e,↓f24e,↓f30e,↓f47e,↓f57e,↓xb_cons,c_eq_ss,h0,decide_eq_false q1,kOe,kBe,k47tf,k57f] at tail ⊢
      exact tail
  have rest' := rest ⟨fun k => if k = 0 then some (.str (nextR σ)) else if k = 32 then some (.str kind) else if k = 46 then some (.ref t) else none,fun u_ => none⟩ (by simp) (by simp) (by simp)
  by_cases q1 : nextR σ = [38]
  · have q2 : kind ≠ [82,67,68,65,84,65] := fun z => c2 ⟨q1,z⟩
    simp only [↓ss_cons,↓s_ite,↓x_str,↓x_loc,↓x_cmp,↓x_bop,↓f23e,↓f24e,↓f30e,↓f47e,↓f49e,↓f57e,↓f59e,↓xb_cons,put_v,bT,bF,Nat.reduceBEq,c_eq_ss,if_true,if_false,reduceCtorEq,decide_eq_false c1,decide_eq_true q1,decide_eq_false q2,kOe,kBe,k47tt,k47tf,k57f] at rest' ⊢
    exact rest'
  · simp only [↓ss_cons,↓s_ite,↓x_str,↓x_loc,↓x_cmp,↓x_bop,↓f23e,↓f24e,↓f30e,↓f47e,↓f49e,↓f57e,↓f59e,↓xb_cons,put_v,bT,bF,Nat.reduceBEq,c_eq_ss,if_true,if_false,reduceCtorEq,decide_eq_false c1,decide_eq_false q1,kOe,kBe,k47tf,k57f] at rest' ⊢
    exact rest'
end
end Mine
end
section
open PySem
namespace Mine
section
variable {P H : Hp} {t : Addr} {σ : TS} {a : Ad} {n : Nat} {Q : K1}
noncomputable def lessF (kind : List Nat) (σ : TS) : TS :=
  if nextR σ = [47] then { nextS σ with buffer := [],state := kind ++ [32,101,110,100,32,116,97,103,32,111,112,101,110] }
  else if nextR σ = [33] ∧ kind = [115,99,114,105,112,116,32,100,97,116,97] then { nextS σ with state := [115,99,114,105,112,116,32,100,97,116,97,32,101,115,99,97,112,101,32,115,116,97,114,116],out := σ.out ++ [60,33].map charT }
  else { σ with out := σ.out ++ [charT 60],state := kind }
private theorem less_c {kind : List Nat} (T : TokAt P H t σ a) (ok : σ.ok) (hk : kind.length ≤ 100) (h : ∀ a' H',TokAt P H' t (lessF kind σ) a' → Q .none H') : callP tbl (n + 2) 391 [.ref t,.str kind] Q H := by
  obtain ⟨o1,o2,o3,o4⟩ := ok
  unfold lessF at h
  rw [callP_at fn_less_than]; simp only [bP0,bP1,kPe,en0,↓fWe,↓ss_cons,↓s_assign,↓x_loc,↓x_mcall,↓f6e,↓f7e,↓xs_nil,put_v,bT,bF,Nat.reduceBEq,emp_v,la_50,meth_310_50,fd_less_than,b_less_than,T.attrs,kOe,k7e,k7be]
  refine next_c T o1 fun H1 T1 => ?_
  have l1 : (nextS σ).out.length < big := by show σ.out.length < big; lia
  by_cases c1 : nextR σ = [47]
  · simp only [↓ss_cons,↓s_expr,↓s_setattr,↓s_ite,↓x_str,↓x_loc,↓x_mcall,↓x_cmp,↓f7e,↓f23e,↓f24e,↓f49e,↓f52e,↓f53e,↓f57e,↓f59e,put_v,bT,bF,Nat.reduceBEq,c_eq_ss,pa_20,len_T,field_310_20,decide_eq_true c1,T1.attrs,kOe,kBe,k52e,k57t,emp_v]
    rw [if_pos c1] at h
    have T2 := T1.setF (σ' := { nextS σ with buffer := [] }) rfl rfl rfl rfl rfl (fun u_ h => h)
    refine ⟨⟨trivial,by decide⟩,?_⟩
    simp only [Nat.reduceAdd,la_48,meth_310_48,T2.attrs,List.length_cons,List.length_nil,↓x_str,↓x_loc,↓f33e,↓f34e,↓x_bin,↓xs_cons,put_v,bT,bF,Nat.reduceBEq,emp_v,b_add_ss,kOe,k7e,k7be]
    rw [if_pos (by unfold big; lia)]
    simp only [↓f6e,↓xs_nil,↓f45e,↓f46e,k33e]
    exact to_c T2 (fun H3 T3 => h a H3 T3)
  rw [if_neg c1] at h
  by_cases c2 : nextR σ = [33] ∧ kind = [115,99,114,105,112,116,32,100,97,116,97]
  · simp only [↓ss_cons,↓s_expr,↓s_ite,↓x_str,↓x_loc,↓x_mcall,↓x_cmp,↓x_bop,↓f6e,↓f7e,↓f23e,↓f24e,↓f30e,↓f45e,↓f46e,↓f47e,↓f49e,↓f57e,↓f59e,↓xs_nil,↓xs_cons,↓xb_nil,↓xb_cons,put_v,bT,bF,Nat.reduceBEq,c_eq_ss,la_48,meth_310_48,decide_eq_false c1,decide_eq_true c2.1,decide_eq_true c2.2,T1.attrs,kOe,kBe,k7e,k7be,k47tt,k57t,k57f,emp_v]
    rw [if_pos c2] at h
    refine to_c T1 fun H2 T2 => ?_
    simp only [↓ss_cons,↓s_expr,↓x_str,↓x_loc,↓x_mcall,↓f6e,↓f7e,↓f45e,↓f46e,↓f48e,↓f59e,↓xs_nil,↓xs_cons,la_51,meth_310_51,T2.attrs,kOe,k7e,k7be,put_v,bT,bF,Nat.reduceBEq,emp_v]
    exact emit_text_c T2 (by show σ.out.length + 2 ≤ big; lia) (fun H3 T3 => h a H3 T3)
  rw [if_neg c2] at h
  have tail : ∀ ρ : Ev,ρ.v 46 = some (.ref t) → ρ.v 32 = some (.str kind) → Ss.wp tbl (callP tbl (n + 1)) (.cons (.expr (.mcall (.loc 46) 49 (.cons (.str [60]) (.nil)))) (.cons (.expr (.mcall (.loc 46) 52 (.cons (.loc 32) (.nil)))) .nil)) ρ
      (fC Q) H1 := by
    intro ρ h46 h32
    simp only [↓ss_cons,↓s_expr,↓x_str,↓x_loc,↓x_mcall,↓f6e,↓f7e,↓f45e,↓f46e,↓xs_nil,↓xs_cons,la_49,meth_310_49,h46,T1.attrs,kOe,k7e,k7be]
    refine emit_sign_c T1 l1 fun H2 T2 => ?_
    simp only [↓ss_cons,↓s_expr,↓x_loc,↓x_mcall,↓f7e,↓f48e,↓f59e,↓xs_cons,kOe,k7e,k7be,T2.attrs,h46,la_52,meth_310_52]
    simp only [h32,↓f6e,↓xs_nil,↓f45e,↓f46e,kOe]
    exact again_c T2 (m := σ.at_) rfl (fun H3 T3 => h a H3 T3)
  have tail' := tail ⟨fun k => if k = 0 then some (.str (nextR σ)) else if k = 32 then some (.str kind) else if k = 46 then some (.ref t) else none,fun u_ => none⟩ (by simp) (by simp)
  by_cases q1 : nextR σ = [33]
  · have q2 : kind ≠ [115,99,114,105,112,116,32,100,97,116,97] := fun z => c2 ⟨q1,z⟩
    simp only [↓ss_cons,↓s_expr,↓s_ite,↓x_str,↓x_loc,↓x_mcall,↓x_cmp,↓x_bop,↓f7e,↓f23e,↓f24e,↓f30e,↓f47e,↓f49e,↓f57e,↓f59e,↓xb_cons,put_v,bT,bF,Nat.reduceBEq,c_eq_ss,Nat.reduceEqDiff,if_true,if_false,reduceCtorEq,decide_eq_false c1,decide_eq_true q1,decide_eq_false q2,kOe,kBe,k47tt,k47tf,k57f] at tail' ⊢
    exact tail'
  · simp only [↓ss_cons,↓s_expr,↓s_ite,↓x_str,↓x_loc,↓x_mcall,↓x_cmp,↓x_bop,↓f7e,↓f23e,↓f24e,↓f30e,↓f47e,↓f49e,↓f57e,↓f59e,↓xb_cons,put_v,bT,bF,Nat.reduceBEq,c_eq_ss,Nat.reduceEqDiff,if_true,if_false,reduceCtorEq,decide_eq_false c1,decide_eq_false q1,kOe,kBe,k47tf,k57f] at tail' ⊢
    exact tail'

noncomputable def openF (kind : List Nat) (σ : TS) : TS :=
  if isLetterP (nextR σ) = true then { σ with draft := some [],state := kind ++ [32,101,110,100,32,116,97,103,32,110,97,109,101] }
  else { σ with out := σ.out ++ [60,47].map charT,state := kind }
private theorem open_c {kind : List Nat} (T : TokAt P H t σ a) (ok : σ.ok) (hk : kind.length ≤ 100) (h : ∀ a' H',TokAt P H' t (openF kind σ) a' → Q .none H') : callP tbl (n + 2) 398 [.ref t,.str kind] Q H := by
  obtain ⟨o1,o2,o3,o4⟩ := ok
  unfold openF at h
  rw [callP_at fn_end_tag_open]; simp only [bP0,bP1,kPe,en0,↓fWe,↓ss_cons,↓s_assign,↓x_loc,↓x_mcall,↓f6e,↓f7e,↓xs_nil,put_v,bT,bF,Nat.reduceBEq,emp_v,la_50,meth_310_50,fd_end_tag_open,b_end_tag_open,T.attrs,kOe,k7e,k7be]
  refine next_c T o1 fun H1 T1 => ?_
  simp only [↓x_loc,↓x_glo,↓f2e,↓f5e,↓x_call,↓xs_nil,↓f45e,↓f46e,↓xs_cons,↓f49e,↓s_ite,↓f59e,↓ss_cons,put_v,bT,bF,Nat.reduceBEq,glo_53,fn_is_letter,kOe,k5e,emp_v]
  refine is_letter_c ?_
  by_cases c1 : isLetterP (nextR σ) = true
  · rw [if_pos c1] at h
    simp only [↓ss_cons,↓s_setattr,↓x_str,↓x_glo,↓x_call,↓f4e,↓f5e,↓f45e,↓f46e,↓f57e,↓xs_nil,↓xs_cons,glo_54,init_366,c1,kOe,k5n,k5be,k57t,fn_366]
    intro dx x hdx hx hne
    have k1 : ((H1.set dx (.attrs [])).set x (.inst 366 dx)) x = some (.inst 366 dx) := set_self
    have k2 : ((H1.set dx (.attrs [])).set x (.inst 366 dx)) dx = some (.attrs []) := by rw [set_ne hne,set_self]
    refine draft_init_c k1 k2 fun dat H2 hd j1 j2 kb => ⟨rfl,?_⟩
    have hE : Ext H1 H2 := fun b O e => kb b O (ne_fresh e hdx) (by rw [set_ne (ne_fresh e hx),set_ne (ne_fresh e hdx)]; exact e)
    have T2 := T1.ext hE
    have hda : H2 x = some (.inst 366 dx) := kb x _ (Ne.symm hne) k1
    have hd1 : H1 dat = none := by
      cases q : H1 dat with
      | none => rfl
      | some O => rw [set_ne (ne_fresh q hx),set_ne (ne_fresh q hdx),q] at hd; cases hd
    obtain ⟨xs,x1,_⟩ := T1.out
    obtain ⟨ys,y1,_⟩ := T1.err
    obtain ⟨zs,z1,_⟩ := T1.se
    have T3 := T2.newDraft (da := x) (ddx := dx) (dat := dat) (nm := []) hda j1 j2 (by
        cases q : P dx with
        | none => rfl
        | some O => rw [T1.sub _ _ q] at hdx; cases hdx) (Ne.symm (ne_fresh T1.fs hdx)) (Ne.symm (ne_fresh T1.sfs hdx)) (Ne.symm (ne_fresh x1 hd1)) (Ne.symm (ne_fresh y1 hd1)) (Ne.symm (ne_fresh T1.sg hd1)) (Ne.symm (ne_fresh z1 hd1))
    simp only [↓ss_cons,↓s_expr,↓x_loc,↓x_mcall,↓f7e,↓f52e,↓f53e,↓f59e,field_310_21,T2.attrs,kOe,k52e,put_v,bT,bF,Nat.reduceBEq,emp_v]
    refine ⟨⟨trivial,by show (14 : Nat) ≤ 1000; decide⟩,?_⟩
    have e1 : putA 21 (.ref x) (fsT a (nextS σ)) = fsT { a with da := x,ddx := dx,dat := dat } { nextS σ with draft := some [] } := rfl
    rw [e1]
    have a3 := T3.attrs
    simp only at a3
    simp only [Nat.reduceAdd,la_52,meth_310_52,a3,List.length_cons,List.length_nil,↓x_str,↓x_loc,↓f33e,↓f34e,↓x_bin,↓xs_cons,put_v,bT,bF,Nat.reduceBEq,emp_v,b_add_ss,kOe,k7e,k7be]
    rw [if_pos (by unfold big; lia)]
    simp only [↓f6e,↓xs_nil,↓f45e,↓f46e,k33e]
    exact again_c T3 (m := σ.at_) rfl (fun H3 T3 => h _ H3 T3)
  · rw [if_neg c1] at h
    have c1' : isLetterP (nextR σ) = false := by simpa using c1
    simp only [↓ss_cons,↓s_expr,↓x_str,↓x_loc,↓x_mcall,↓f6e,↓f7e,↓f45e,↓f46e,↓f57e,↓xs_nil,↓xs_cons,la_51,meth_310_51,c1',T1.attrs,kOe,k7e,k7be,k57f,put_v,bT,bF,Nat.reduceBEq,emp_v]
    refine emit_text_c T1 (by show σ.out.length + 2 ≤ big; lia) fun H2 T2 => ?_
    simp only [↓ss_cons,↓s_expr,↓x_loc,↓x_mcall,↓f6e,↓f7e,↓f45e,↓f46e,↓f48e,↓f59e,↓xs_nil,↓xs_cons,la_52,meth_310_52,T2.attrs,kOe,k7e,k7be,put_v,bT,bF,Nat.reduceBEq,emp_v]
    exact again_c T2 (m := σ.at_) rfl (fun H3 T3 => h a H3 T3)

noncomputable def lowS (s : List Nat) : List Nat := s.map lowP
noncomputable def nameF (kind : List Nat) (σ : TS) : TS :=
  if isLetterP (nextR σ) = true then { nextS σ with draft := some ((σ.draft.getD []) ++ lowS (nextR σ)),buffer := σ.buffer ++ nextR σ }
  else if aptR σ = true ∧ isBlankP (nextR σ) = true then { nextS σ with state := [98,101,102,111,114,101,32,97,116,116,114,105,98,117,116,101,32,110,97,109,101] }
  else if aptR σ = true ∧ nextR σ = [47] then { nextS σ with state := [115,101,108,102,45,99,108,111,115,105,110,103,32,115,116,97,114,116,32,116,97,103] }
  else if aptR σ = true ∧ nextR σ = [62] then { nextS σ with state := [100,97,116,97],out := σ.out ++ [endT (σ.draft.getD [])],draft := none }
  else { σ with out := σ.out ++ ([60,47] ++ σ.buffer).map charT,state := kind }
private theorem apt_next : aptR (nextS σ) = aptR σ := rfl
private theorem name_c {kind : List Nat} {nm : List Nat} (T : TokAt P H t σ a) (ok : σ.ok) (hd : σ.draft = some nm) (h : ∀ a' H',TokAt P H' t (nameF kind σ) a' → Q .none H') : callP tbl (n + 3) 405 [.ref t,.str kind] Q H := by
  obtain ⟨o1,o2,o3,o4⟩ := ok
  have o4 := o4 nm hd
  unfold nameF at h
  rw [callP_at fn_end_tag_name]; simp only [bP0,bP1,kPe,en0,↓fWe,↓ss_cons,↓s_assign,↓x_loc,↓x_mcall,↓f6e,↓f7e,↓xs_nil,put_v,bT,bF,Nat.reduceBEq,emp_v,la_50,meth_310_50,fd_end_tag_name,b_end_tag_name,T.attrs,kOe,k7e,k7be]
  refine next_c T o1 fun H1 T1 => ?_
  have hd1 : (nextS σ).draft = some nm := hd
  simp only [↓x_loc,↓x_glo,↓f2e,↓f5e,↓x_call,↓xs_nil,↓f45e,↓f46e,↓xs_cons,↓f49e,↓s_ite,↓f59e,↓ss_cons,put_v,bT,bF,Nat.reduceBEq,glo_53,fn_is_letter,kOe,k5e,emp_v]
  refine is_letter_c ?_
  by_cases c1 : isLetterP (nextR σ) = true
  · rw [if_pos c1] at h
    obtain ⟨x,hx⟩ : ∃ x,nextR σ = [x] := by
      unfold nextR at c1 ⊢
      split
      · exact ⟨_,rfl⟩
      · rename_i q; rw [q] at c1; exact absurd c1 (by decide)
    have D := T1.draft nm hd1
    have e0 : draftD a (nextS σ).draft = .ref a.da := by rw [hd1]; rfl
    rw [hx] at h ⊢
    rw [hx] at c1
    simp only [↓ss_cons,↓s_setattr,↓x_loc,↓x_glo,↓x_attr,↓x_call,↓x_bin,↓f1e,↓f2e,↓f5e,↓f34e,↓f45e,↓f46e,↓f57e,↓xs_nil,↓xs_cons,la_21,ld_36,glo_58,field_310_21,field_366_36,c1,T1.attrs,e0,D.attrs,kOe,k1e,k1be,k5e,k57t,put_v,bT,bF,Nat.reduceBEq,emp_v,fn_lower]
    refine lower_c ?_
    simp only [↓f33e,b_add_ss,Nat.reduceAdd,List.length_cons,List.length_nil]
    rw [if_pos (by lia)]
    simp only [la_21,pd_36,len_D,field_310_21,field_366_36,T1.attrs,e0,D.attrs,↓x_loc,↓f1e,↓x_attr,↓x_bin,↓f52e,↓f53e,↓s_setattr,↓f59e,↓ss_cons,put_v,bT,bF,Nat.reduceBEq,emp_v,kOe,k1e,k1be,k33e,k52e]
    refine ⟨⟨trivial,by decide⟩,?_⟩
    have T2 := T1.setName (nm' := nm ++ [lowP x]) hd1
    have l2 : σ.buffer.length + (0 + 1) ≤ big := by lia
    simp only [b_add_ss,la_20,field_310_20,T2.attrs,↓x_loc,↓f33e,↓f34e,put_v,bT,bF,Nat.reduceBEq,emp_v,kOe,k1e,k1be]
    rw [if_pos (show (nextS σ).buffer.length + [x].length ≤ big from l2)]
    simp only [pa_20,len_T,T2.attrs,↓x_none,↓x_loc,↓f52e,↓f53e,↓f56e,↓s_ret,↓f59e,↓ss_cons,put_v,bT,bF,Nat.reduceBEq,emp_v,field_310_20,↓f59r,↓fCr,kOe,k33e,k52e]
    refine ⟨⟨trivial,by decide⟩,?_⟩
    have T3 := T2.setF (σ' := { nextS σ with draft := some (nm ++ [lowP x]),buffer := σ.buffer ++ [x] }) rfl rfl rfl rfl rfl (fun u_ h => h)
    refine h a _ ?_
    rw [hd]
    exact T3
  · rw [if_neg c1] at h
    have c1' : isLetterP (nextR σ) = false := by simpa using c1
    simp only [↓ss_nil,↓ss_cons,↓s_ite,↓x_loc,↓x_mcall,↓f6e,↓f7e,↓f57e,↓f59e,↓xs_nil,la_55,meth_310_55,c1',T1.attrs,kOe,k7e,k7be,k57f,put_v,bT,bF,Nat.reduceBEq,emp_v]
    refine is_apt_c T1 ?_
    rw [apt_next]
    have tail : (∀ (ρ : Ev) (H2 : Hp),TokAt P H2 t (nextS σ) a → (∀ a' H',TokAt P H' t { σ with out := σ.out ++ ([60,47] ++ σ.buffer).map charT,state := kind } a' → Q .none H') → ρ.v 46 = some (.ref t) → ρ.v 32 = some (.str kind) →
        Ss.wp tbl (callP tbl (n + 2)) (.cons (.expr (.mcall (.loc 46) 51 (.cons (.bin .add (.str [60,47]) (.attr (.loc 46) 20)) (.nil)))) (.cons (.expr (.mcall (.loc 46) 52 (.cons (.loc 32) (.nil)))) .nil)) ρ
        (fC Q) H2) := by
      intro ρ H2 T2 h h46 h32
      have e1 : binop .add (.str [60,47]) (.str (nextS σ).buffer) = some (.str ([60,47] ++ σ.buffer)) := by
        show (if _ then _ else _) = _
        rw [if_pos (by show 2 + σ.buffer.length ≤ big; lia)]; rfl
      simp only [↓ss_cons,↓s_expr,↓x_str,↓x_loc,↓x_attr,↓x_mcall,↓x_bin,↓f1e,↓f6e,↓f7e,↓f33e,↓f34e,↓f45e,↓f46e,↓xs_nil,↓xs_cons,h46,T2.attrs,la_51,la_20,meth_310_51,field_310_20,e1,kOe,k1e,k1be,k7e,k7be,k33e]
      refine emit_text_c T2 (by simp only [List.length_append,List.length_cons,List.length_nil]; show σ.out.length + _ ≤ big; lia) fun H3 T3 => ?_
      simp only [↓x_loc,↓f6e,↓f7e,↓x_mcall,↓xs_nil,↓f45e,↓f46e,↓xs_cons,↓f48e,↓s_expr,↓f59e,↓ss_cons,la_52,meth_310_52,h46,h32,T3.attrs,kOe,k7e,k7be]
      exact again_c T3 (m := σ.at_) rfl (fun H4 T4 => h a H4 T4)
    by_cases c2 : aptR σ = true
    · simp only [c2,true_and] at h
      simp only [↓ss_cons,↓s_ite,↓x_loc,↓x_glo,↓x_call,↓f2e,↓f5e,↓f45e,↓f46e,↓f57e,↓xs_nil,↓xs_cons,glo_57,c2,kOe,k5e,k57t,put_v,bT,bF,Nat.reduceBEq,emp_v,fn_is_blank]
      refine is_blank_c fun H2 hE => ?_
      have T2 := T1.ext hE
      by_cases c3 : isBlankP (nextR σ) = true
      · rw [if_pos c3] at h
        simp only [↓ss_cons,↓s_expr,↓x_str,↓x_loc,↓x_mcall,↓f6e,↓f7e,↓f45e,↓f46e,↓f57e,↓xs_nil,↓xs_cons,la_48,meth_310_48,c3,T2.attrs,kOe,k7e,k7be,k57t,put_v,bT,bF,Nat.reduceBEq,emp_v]
        refine to_c T2 fun H3 T3 => h a H3 T3
      rw [if_neg c3] at h
      have c3' : isBlankP (nextR σ) = false := by simpa using c3
      by_cases c4 : nextR σ = [47]
      · rw [if_pos c4] at h
        simp only [↓ss_nil,↓ss_cons,↓s_expr,↓s_ite,↓x_str,↓x_loc,↓x_mcall,↓x_cmp,↓f6e,↓f7e,↓f23e,↓f24e,↓f45e,↓f46e,↓f57e,↓f59e,↓xs_nil,↓xs_cons,c_eq_ss,la_48,meth_310_48,c3',decide_eq_true c4,T2.attrs,kOe,kBe,k7e,k7be,k57t,k57f,put_v,bT,bF,Nat.reduceBEq,emp_v]
        refine to_c T2 fun H3 T3 => h a H3 T3
      rw [if_neg c4] at h
      by_cases c5 : nextR σ = [62]
      · rw [if_pos c5] at h
        simp only [↓ss_nil,↓ss_cons,↓s_expr,↓s_ite,↓x_str,↓x_loc,↓x_mcall,↓x_cmp,↓f6e,↓f7e,↓f23e,↓f24e,↓f45e,↓f46e,↓f57e,↓f59e,↓xs_nil,↓xs_cons,c_eq_ss,la_48,meth_310_48,c3',decide_eq_false c4,decide_eq_true c5,T2.attrs,kOe,kBe,k7e,k7be,k57t,k57f,put_v,bT,bF,Nat.reduceBEq,emp_v]
        refine to_c T2 fun H3 T3 => ?_
        simp only [↓ss_cons,↓s_expr,↓x_loc,↓x_mcall,↓f6e,↓f7e,↓f48e,↓f59e,↓xs_nil,la_56,meth_310_56,T3.attrs,kOe,k7e,k7be,put_v,bT,bF,Nat.reduceBEq,emp_v]
        refine emit_draft_c T3 (nm := nm) hd (by show σ.out.length < big; lia) fun H4 T4 => h a H4 ?_
        rw [hd]; exact T4
      rw [if_neg c5] at h
      have tail' := tail ⟨fun k => if k = 0 then some (.str (nextR σ)) else if k = 32 then some (.str kind) else if k = 46 then some (.ref t) else none,fun u_ => none⟩ H2 T2 h (by simp) (by simp)
      simp only [↓ss_nil,↓ss_cons,↓s_expr,↓s_ite,↓x_str,↓x_loc,↓x_mcall,↓x_cmp,↓f7e,↓f23e,↓f24e,↓f57e,↓f59e,c_eq_ss,Nat.reduceEqDiff,if_true,if_false,reduceCtorEq,c3',decide_eq_false c4,decide_eq_false c5,kOe,kBe,k57f,put_v,bT,bF,Nat.reduceBEq] at tail' ⊢
      exact tail'
    · have c2' : aptR σ = false := by simpa using c2
      simp only [c2',false_and,Bool.false_eq_true,if_false] at h
      have tail' := tail ⟨fun k => if k = 0 then some (.str (nextR σ)) else if k = 32 then some (.str kind) else if k = 46 then some (.ref t) else none,fun u_ => none⟩ H1 T1 h (by simp) (by simp)
      simp only [↓ss_nil,↓ss_cons,↓s_expr,↓x_loc,↓x_mcall,↓f7e,↓f57e,↓f59e,Nat.reduceEqDiff,if_true,if_false,reduceCtorEq,c2',kOe,k57f,put_v,bT,bF,Nat.reduceBEq] at tail' ⊢
      exact tail'
end
end Mine
end
section
open PySem
namespace Mine
section
variable {P H : Hp} {t : Addr} {σ : TS} {a : Ad} {n : Nat} {Q : K1}
private theorem rcdata_state_c (T : TokAt P H t σ a) (ok : σ.ok) (h : ∀ a' H',TokAt P H' t (heldF [82,67,68,65,84,65] σ) a' → Q .none H') : callP tbl (n + 4) 412 [.ref t] Q H := by
  rw [callP_at fn_rcdata_state]; simp only [bP0,bP1,kPe,en0,↓fWe,↓ss_cons,↓s_expr,↓x_str,↓x_loc,↓x_glo,↓x_call,↓f2e,↓f5e,↓f45e,↓f46e,↓xs_nil,↓xs_cons,put_v,bT,Nat.reduceBEq,emp_v,glo_59,fd_rcdata_state,b_rcdata_state,fn_held_text,kOe,k5e]
  exact held_c T ok (by decide) h
private theorem rcdata_less_than_c (T : TokAt P H t σ a) (ok : σ.ok) (h : ∀ a' H',TokAt P H' t (lessF [82,67,68,65,84,65] σ) a' → Q .none H') : callP tbl (n + 4) 419 [.ref t] Q H := by
  rw [callP_at fn_rcdata_less_than]; simp only [bP0,bP1,kPe,en0,↓fWe,↓ss_cons,↓s_expr,↓x_str,↓x_loc,↓x_glo,↓x_call,↓f2e,↓f5e,↓f45e,↓f46e,↓xs_nil,↓xs_cons,put_v,bT,Nat.reduceBEq,emp_v,glo_60,fd_rcdata_less_than,b_rcdata_less_than,fn_less_than,kOe,k5e]
  exact less_c T ok (by decide) h
private theorem rcdata_end_tag_open_c (T : TokAt P H t σ a) (ok : σ.ok) (h : ∀ a' H',TokAt P H' t (openF [82,67,68,65,84,65] σ) a' → Q .none H') : callP tbl (n + 4) 426 [.ref t] Q H := by
  rw [callP_at fn_rcdata_end_tag_open]; simp only [bP0,bP1,kPe,en0,↓fWe,↓ss_cons,↓s_expr,↓x_str,↓x_loc,↓x_glo,↓x_call,↓f2e,↓f5e,↓f45e,↓f46e,↓xs_nil,↓xs_cons,put_v,bT,Nat.reduceBEq,emp_v,glo_61,fd_rcdata_end_tag_open,b_rcdata_end_tag_open,fn_end_tag_open,kOe,k5e]
  exact open_c T ok (by decide) h
private theorem rcdata_end_tag_name_c {nm : List Nat} (T : TokAt P H t σ a) (ok : σ.ok) (hd : σ.draft = some nm) (h : ∀ a' H',TokAt P H' t (nameF [82,67,68,65,84,65] σ) a' → Q .none H') : callP tbl (n + 4) 433 [.ref t] Q H := by
  rw [callP_at fn_rcdata_end_tag_name]; simp only [bP0,bP1,kPe,en0,↓fWe,↓ss_cons,↓s_expr,↓x_str,↓x_loc,↓x_glo,↓x_call,↓f2e,↓f5e,↓f45e,↓f46e,↓xs_nil,↓xs_cons,put_v,bT,Nat.reduceBEq,emp_v,glo_62,fd_rcdata_end_tag_name,b_rcdata_end_tag_name,fn_end_tag_name,kOe,k5e]
  exact name_c T ok hd h
private theorem rawtext_state_c (T : TokAt P H t σ a) (ok : σ.ok) (h : ∀ a' H',TokAt P H' t (heldF [82,65,87,84,69,88,84] σ) a' → Q .none H') : callP tbl (n + 4) 440 [.ref t] Q H := by
  rw [callP_at fn_rawtext_state]; simp only [bP0,bP1,kPe,en0,↓fWe,↓ss_cons,↓s_expr,↓x_str,↓x_loc,↓x_glo,↓x_call,↓f2e,↓f5e,↓f45e,↓f46e,↓xs_nil,↓xs_cons,put_v,bT,Nat.reduceBEq,emp_v,glo_59,fd_rawtext_state,b_rawtext_state,fn_held_text,kOe,k5e]
  exact held_c T ok (by decide) h
private theorem rawtext_less_than_c (T : TokAt P H t σ a) (ok : σ.ok) (h : ∀ a' H',TokAt P H' t (lessF [82,65,87,84,69,88,84] σ) a' → Q .none H') : callP tbl (n + 4) 447 [.ref t] Q H := by
  rw [callP_at fn_rawtext_less_than]; simp only [bP0,bP1,kPe,en0,↓fWe,↓ss_cons,↓s_expr,↓x_str,↓x_loc,↓x_glo,↓x_call,↓f2e,↓f5e,↓f45e,↓f46e,↓xs_nil,↓xs_cons,put_v,bT,Nat.reduceBEq,emp_v,glo_60,fd_rawtext_less_than,b_rawtext_less_than,fn_less_than,kOe,k5e]
  exact less_c T ok (by decide) h
private theorem rawtext_end_tag_open_c (T : TokAt P H t σ a) (ok : σ.ok) (h : ∀ a' H',TokAt P H' t (openF [82,65,87,84,69,88,84] σ) a' → Q .none H') : callP tbl (n + 4) 454 [.ref t] Q H := by
  rw [callP_at fn_rawtext_end_tag_open]; simp only [bP0,bP1,kPe,en0,↓fWe,↓ss_cons,↓s_expr,↓x_str,↓x_loc,↓x_glo,↓x_call,↓f2e,↓f5e,↓f45e,↓f46e,↓xs_nil,↓xs_cons,put_v,bT,Nat.reduceBEq,emp_v,glo_61,fd_rawtext_end_tag_open,b_rawtext_end_tag_open,fn_end_tag_open,kOe,k5e]
  exact open_c T ok (by decide) h
private theorem rawtext_end_tag_name_c {nm : List Nat} (T : TokAt P H t σ a) (ok : σ.ok) (hd : σ.draft = some nm) (h : ∀ a' H',TokAt P H' t (nameF [82,65,87,84,69,88,84] σ) a' → Q .none H') : callP tbl (n + 4) 461 [.ref t] Q H := by
  rw [callP_at fn_rawtext_end_tag_name]; simp only [bP0,bP1,kPe,en0,↓fWe,↓ss_cons,↓s_expr,↓x_str,↓x_loc,↓x_glo,↓x_call,↓f2e,↓f5e,↓f45e,↓f46e,↓xs_nil,↓xs_cons,put_v,bT,Nat.reduceBEq,emp_v,glo_62,fd_rawtext_end_tag_name,b_rawtext_end_tag_name,fn_end_tag_name,kOe,k5e]
  exact name_c T ok hd h
private theorem script_state_c (T : TokAt P H t σ a) (ok : σ.ok) (h : ∀ a' H',TokAt P H' t (heldF [115,99,114,105,112,116,32,100,97,116,97] σ) a' → Q .none H') : callP tbl (n + 4) 468 [.ref t] Q H := by
  rw [callP_at fn_script_state]; simp only [bP0,bP1,kPe,en0,↓fWe,↓ss_cons,↓s_expr,↓x_str,↓x_loc,↓x_glo,↓x_call,↓f2e,↓f5e,↓f45e,↓f46e,↓xs_nil,↓xs_cons,put_v,bT,Nat.reduceBEq,emp_v,glo_59,fd_script_state,b_script_state,fn_held_text,kOe,k5e]
  exact held_c T ok (by decide) h
private theorem script_less_than_c (T : TokAt P H t σ a) (ok : σ.ok) (h : ∀ a' H',TokAt P H' t (lessF [115,99,114,105,112,116,32,100,97,116,97] σ) a' → Q .none H') : callP tbl (n + 4) 475 [.ref t] Q H := by
  rw [callP_at fn_script_less_than]; simp only [bP0,bP1,kPe,en0,↓fWe,↓ss_cons,↓s_expr,↓x_str,↓x_loc,↓x_glo,↓x_call,↓f2e,↓f5e,↓f45e,↓f46e,↓xs_nil,↓xs_cons,put_v,bT,Nat.reduceBEq,emp_v,glo_60,fd_script_less_than,b_script_less_than,fn_less_than,kOe,k5e]
  exact less_c T ok (by decide) h
private theorem script_end_tag_open_c (T : TokAt P H t σ a) (ok : σ.ok) (h : ∀ a' H',TokAt P H' t (openF [115,99,114,105,112,116,32,100,97,116,97] σ) a' → Q .none H') : callP tbl (n + 4) 482 [.ref t] Q H := by
  rw [callP_at fn_script_end_tag_open]; simp only [bP0,bP1,kPe,en0,↓fWe,↓ss_cons,↓s_expr,↓x_str,↓x_loc,↓x_glo,↓x_call,↓f2e,↓f5e,↓f45e,↓f46e,↓xs_nil,↓xs_cons,put_v,bT,Nat.reduceBEq,emp_v,glo_61,fd_script_end_tag_open,b_script_end_tag_open,fn_end_tag_open,kOe,k5e]
  exact open_c T ok (by decide) h
private theorem script_end_tag_name_c {nm : List Nat} (T : TokAt P H t σ a) (ok : σ.ok) (hd : σ.draft = some nm) (h : ∀ a' H',TokAt P H' t (nameF [115,99,114,105,112,116,32,100,97,116,97] σ) a' → Q .none H') : callP tbl (n + 4) 489 [.ref t] Q H := by
  rw [callP_at fn_script_end_tag_name]; simp only [bP0,bP1,kPe,en0,↓fWe,↓ss_cons,↓s_expr,↓x_str,↓x_loc,↓x_glo,↓x_call,↓f2e,↓f5e,↓f45e,↓f46e,↓xs_nil,↓xs_cons,put_v,bT,Nat.reduceBEq,emp_v,glo_62,fd_script_end_tag_name,b_script_end_tag_name,fn_end_tag_name,kOe,k5e]
  exact name_c T ok hd h
private theorem plaintext_state_c (T : TokAt P H t σ a) (ok : σ.ok) (h : ∀ a' H',TokAt P H' t (heldF [80,76,65,73,78,84,69,88,84] σ) a' → Q .none H') : callP tbl (n + 4) 496 [.ref t] Q H := by
  rw [callP_at fn_plaintext_state]; simp only [bP0,bP1,kPe,en0,↓fWe,↓ss_cons,↓s_expr,↓x_str,↓x_loc,↓x_glo,↓x_call,↓f2e,↓f5e,↓f45e,↓f46e,↓xs_nil,↓xs_cons,put_v,bT,Nat.reduceBEq,emp_v,glo_59,fd_plaintext_state,b_plaintext_state,fn_held_text,kOe,k5e]
  exact held_c T ok (by decide) h
noncomputable def stateF (s : List Nat) (σ : TS) : TS :=
  if s = [100,97,116,97] then dataF σ
  else if s = [82,67,68,65,84,65] then heldF [82,67,68,65,84,65] σ
  else if s = [82,67,68,65,84,65,32,108,101,115,115,45,116,104,97,110,32,115,105,103,110] then lessF [82,67,68,65,84,65] σ
  else if s = [82,67,68,65,84,65,32,101,110,100,32,116,97,103,32,111,112,101,110] then openF [82,67,68,65,84,65] σ
  else if s = [82,67,68,65,84,65,32,101,110,100,32,116,97,103,32,110,97,109,101] then nameF [82,67,68,65,84,65] σ
  else if s = [82,65,87,84,69,88,84] then heldF [82,65,87,84,69,88,84] σ
  else if s = [82,65,87,84,69,88,84,32,108,101,115,115,45,116,104,97,110,32,115,105,103,110] then lessF [82,65,87,84,69,88,84] σ
  else if s = [82,65,87,84,69,88,84,32,101,110,100,32,116,97,103,32,111,112,101,110] then openF [82,65,87,84,69,88,84] σ
  else if s = [82,65,87,84,69,88,84,32,101,110,100,32,116,97,103,32,110,97,109,101] then nameF [82,65,87,84,69,88,84] σ
  else if s = [115,99,114,105,112,116,32,100,97,116,97] then heldF [115,99,114,105,112,116,32,100,97,116,97] σ
  else if s = [115,99,114,105,112,116,32,100,97,116,97,32,108,101,115,115,45,116,104,97,110,32,115,105,103,110] then lessF [115,99,114,105,112,116,32,100,97,116,97] σ
  else if s = [115,99,114,105,112,116,32,100,97,116,97,32,101,110,100,32,116,97,103,32,111,112,101,110] then openF [115,99,114,105,112,116,32,100,97,116,97] σ
  else if s = [115,99,114,105,112,116,32,100,97,116,97,32,101,110,100,32,116,97,103,32,110,97,109,101] then nameF [115,99,114,105,112,116,32,100,97,116,97] σ
  else if s = [80,76,65,73,78,84,69,88,84] then heldF [80,76,65,73,78,84,69,88,84] σ
  else σ
noncomputable def stepF (σ : TS) : TS := stateF σ.state σ
noncomputable def TS.drafts (σ : TS) : Prop := σ.state = [82,67,68,65,84,65,32,101,110,100,32,116,97,103,32,110,97,109,101] ∨ σ.state = [82,65,87,84,69,88,84,32,101,110,100,32,116,97,103,32,110,97,109,101] ∨ σ.state = [115,99,114,105,112,116,32,100,97,116,97,32,101,110,100,32,116,97,103,32,110,97,109,101] → ∃ nm,σ.draft = some nm
private theorem step_gen {f : Addr} {fd : FD} {σ' : TS} (T : TokAt P H t σ a) (hl : lookS σ.state statesKV = some (.ref f)) (hf : tbl.fn f = some fd)
    (hr : ∀ H1 (K : K1),TokAt P H1 t σ a → (∀ a' H',TokAt P H' t σ' a' → K .none H') → callP tbl (n + 4) f [.ref t] K H1) (h : ∀ a' H',TokAt P H' t σ' a' → Q .none H') : callP tbl (n + 5) 293 [.ref t] Q H := by
  rw [callP_at fn_Tokenizer_step]; simp only [bP0,bP1,kPe,en0,↓fWe,↓ss_nil,↓ss_cons,↓s_assign,↓s_setattr,↓s_ite,↓x_bool,↓x_loc,↓x_attr,↓x_isin,↓f1e,↓f28e,↓f29e,↓f52e,↓f53e,↓f57e,↓f59e,put_v,bT,Nat.reduceBEq,emp_v,la_14,la_15,pa_18,len_T,field_310_14,field_310_15,field_310_18,fd_Tokenizer_step,b_Tokenizer_step,T.attrs,isin_dict T.st,hl,Option.isSome_some,bne_self_eq_false,kOe,k1e,k1be,k28e,k52e,k57f]
  have T1 := T.setF (σ' := σ) rfl rfl rfl rfl rfl (fun u_ h => h)
  have e1 : subs (H.set a.dx (.attrs (fsT a σ))) (.ref a.st) (.str σ.state) = some (.ref f) := by simp only [subs,T1.st]; exact hl
  refine ⟨⟨trivial,by decide⟩,?_⟩
  simp only [la_14,la_24,la_15,field_310_14,field_310_24,field_310_15,T1.attrs,e1,hf,↓x_loc,↓f1e,↓x_attr,↓f2e,↓f5e,↓x_call,↓f36e,↓f37e,↓x_sub,↓xs_nil,↓f45e,↓f46e,↓xs_cons,↓s_expr,↓f49e,↓s_assign,↓f59e,↓ss_cons,put_v,bT,bF,Nat.reduceBEq,emp_v,kOe,k1e,k1be,k5e]
  refine hr _ _ T1 fun a' H' T' => ?_
  simp only [↓ss_nil,↓ss_cons,↓s_ite,↓x_loc,↓x_attr,↓f1e,↓f48e,↓f57e,↓f59e,la_18,field_310_18,T'.attrs,↓fCn,kOe,k1e,k1be,k57f,put_v,bT,bF,Nat.reduceBEq,emp_v]
  exact h a' H' T'
private theorem lookS_inv {s : List Nat} : ∀ {kvs : List (List Nat × D)},(lookS s kvs).isSome = true → s ∈ kvs.map (·.1)
  | [],h => by simp [lookS] at h
  | p :: r,h => by
    unfold lookS at h
    split at h
    · rename_i q; rw [← q]; exact List.mem_cons_self
    · exact List.mem_cons_of_mem _ (lookS_inv h)
private theorem states_inv {s : List Nat} (h : (lookS s statesKV).isSome = true) : s = [100,97,116,97] ∨ s = [115,99,114,105,112,116,32,100,97,116,97] ∨ s = [115,99,114,105,112,116,32,100,97,116,97,32,108,101,115,115,45,116,104,97,110,32,115,105,103,110] ∨ s = [115,99,114,105,112,116,32,100,97,116,97,32,101,110,100,32,116,97,103,32,111,112,101,110] ∨ s = [115,99,114,105,112,116,32,100,97,116,97,32,101,110,100,32,116,97,103,32,110,97,109,101] ∨ s = [80,76,65,73,78,84,69,88,84] ∨ s = [82,67,68,65,84,65] ∨ s = [82,67,68,65,84,65,32,108,101,115,115,45,116,104,97,110,32,115,105,103,110] ∨ s = [82,67,68,65,84,65,32,101,110,100,32,116,97,103,32,111,112,101,110] ∨ s = [82,67,68,65,84,65,32,101,110,100,32,116,97,103,32,110,97,109,101] ∨ s = [82,65,87,84,69,88,84] ∨ s = [82,65,87,84,69,88,84,32,108,101,115,115,45,116,104,97,110,32,115,105,103,110] ∨ s = [82,65,87,84,69,88,84,32,101,110,100,32,116,97,103,32,111,112,101,110] ∨ s = [82,65,87,84,69,88,84,32,101,110,100,32,116,97,103,32,110,97,109,101] := by
  have := lookS_inv h
  simpa [statesKV] using this
private theorem step_c (T : TokAt P H t σ a) (ok : σ.ok) (hl : (lookS σ.state statesKV).isSome = true) (hn : σ.drafts) (h : ∀ a' H',TokAt P H' t (stepF σ) a' → Q .none H') : callP tbl (n + 5) 293 [.ref t] Q H := by
  unfold stepF at h
  rcases states_inv hl with e | e | e | e | e | e | e | e | e | e | e | e | e | e
  · rw [e] at h
    exact step_gen T (f := 377) (by rw [e]; decide) fn_data_state (fun H1 K T1 hk => data_c T1 ok hk) h
  · rw [e] at h
    exact step_gen T (f := 468) (by rw [e]; decide) fn_script_state (fun H1 K T1 hk => script_state_c T1 ok hk) h
  · rw [e] at h
    exact step_gen T (f := 475) (by rw [e]; decide) fn_script_less_than (fun H1 K T1 hk => script_less_than_c T1 ok hk) h
  · rw [e] at h
    exact step_gen T (f := 482) (by rw [e]; decide) fn_script_end_tag_open (fun H1 K T1 hk => script_end_tag_open_c T1 ok hk) h
  · rw [e] at h
    obtain ⟨nm,hd⟩ := hn (by rw [e]; decide)
    exact step_gen T (f := 489) (by rw [e]; decide) fn_script_end_tag_name (fun H1 K T1 hk => script_end_tag_name_c T1 ok hd hk) h
  · rw [e] at h
    exact step_gen T (f := 496) (by rw [e]; decide) fn_plaintext_state (fun H1 K T1 hk => plaintext_state_c T1 ok hk) h
  · rw [e] at h
    exact step_gen T (f := 412) (by rw [e]; decide) fn_rcdata_state (fun H1 K T1 hk => rcdata_state_c T1 ok hk) h
  · rw [e] at h
    exact step_gen T (f := 419) (by rw [e]; decide) fn_rcdata_less_than (fun H1 K T1 hk => rcdata_less_than_c T1 ok hk) h
  · rw [e] at h
    exact step_gen T (f := 426) (by rw [e]; decide) fn_rcdata_end_tag_open (fun H1 K T1 hk => rcdata_end_tag_open_c T1 ok hk) h
  · rw [e] at h
    obtain ⟨nm,hd⟩ := hn (by rw [e]; decide)
    exact step_gen T (f := 433) (by rw [e]; decide) fn_rcdata_end_tag_name (fun H1 K T1 hk => rcdata_end_tag_name_c T1 ok hd hk) h
  · rw [e] at h
    exact step_gen T (f := 440) (by rw [e]; decide) fn_rawtext_state (fun H1 K T1 hk => rawtext_state_c T1 ok hk) h
  · rw [e] at h
    exact step_gen T (f := 447) (by rw [e]; decide) fn_rawtext_less_than (fun H1 K T1 hk => rawtext_less_than_c T1 ok hk) h
  · rw [e] at h
    exact step_gen T (f := 454) (by rw [e]; decide) fn_rawtext_end_tag_open (fun H1 K T1 hk => rawtext_end_tag_open_c T1 ok hk) h
  · rw [e] at h
    obtain ⟨nm,hd⟩ := hn (by rw [e]; decide)
    exact step_gen T (f := 461) (by rw [e]; decide) fn_rawtext_end_tag_name (fun H1 K T1 hk => rawtext_end_tag_name_c T1 ok hd hk) h

inductive Runs : Nat → TS → TS → Prop
  | stop {σ : TS} : σ.signs.length ≤ 10000 → readyR σ = false → Runs 1 σ σ
  | step {N : Nat} {σ σ' : TS} : σ.ok → σ.drafts → readyR σ = true → Runs N (stepF σ) σ' → Runs (N + 1) σ σ'
private theorem ready_look (h : readyR σ = true) : (lookS σ.state statesKV).isSome = true := by
  unfold readyR at h
  simp only [Bool.and_eq_true] at h
  exact h.1.2
private theorem run_c {σ' : TS} {N : Nat} (R : Runs N σ σ') (T : TokAt P H t σ a) (h : ∀ a' H',TokAt P H' t σ' a' → Q (.bool σ'.done) H') : callP tbl (n + 6) 307 [.ref t] Q H := by
  rw [callP_at fn_Tokenizer_run]; simp only [bP0,bP1,kPe,en0,↓fWe,↓ss_cons,↓s_while_,fd_Tokenizer_run,b_Tokenizer_run]
  generalize hB : (fun ρ Q H => Ss.wp tbl (callP tbl (n + 5)) lp_Tokenizer_run_1 ρ Q H) = body
  generalize hE : (fun (ρ : Ev) (Q : Bool → Hp → Prop) (H : Hp) => X.wp tbl (callP tbl (n + 5)) ρ lt_Tokenizer_run_0 (fun d H => match d with | .bool c => Q c H | _ => False) H) = test
  have key : ∀ {N : Nat} {σ σ' : TS} (ρ : Ev) (H : Hp) (a : Ad) (K : K2),Runs N σ σ' → TokAt P H t σ a → ρ.v 6 = some (.ref t) → (∀ a' H' ρ',ρ'.v 6 = some (.ref t) → TokAt P H' t σ' a' → K .next ρ' H') → turns test body K N ρ H := by
    intro N σ σ' ρ H a K R
    induction R generalizing ρ H a with
    | stop hs hr =>
      intro T h6 hK
      rw [tuS]
      refine Eq.mp (congrFun (congrFun (congrFun hE _) _) _) ?_
      simp only [↓x_loc,↓x_mcall,↓f6e,↓f7e,↓xs_nil,la_39,meth_310_39,lt_Tokenizer_run_0,h6,T.attrs,kOe,k7e,k7be]
      refine is_ready_c T hs ?_
      rw [hr]
      exact hK a _ ρ h6 T
    | @step N σ σ' ok hn hr R' ih =>
      intro T h6 hK
      rw [tuS]
      refine Eq.mp (congrFun (congrFun (congrFun hE _) _) _) ?_
      simp only [↓x_loc,↓x_mcall,↓f6e,↓f7e,↓xs_nil,la_39,meth_310_39,lt_Tokenizer_run_0,h6,T.attrs,kOe,k7e,k7be]
      refine is_ready_c T ok.1 ?_
      rw [hr]
      dsimp only
      refine Eq.mp (congrFun (congrFun (congrFun hB _) _) _) ?_
      simp only [↓ss_cons,↓s_expr,↓x_loc,↓x_mcall,↓f6e,↓f7e,↓xs_nil,la_40,meth_310_40,lp_Tokenizer_run_1,h6,T.attrs,kOe,k7e,k7be]
      exact step_c T ok (ready_look hr) hn fun a' H' T' => ih ρ H' a' T' h6 hK
  refine ⟨N,?_⟩
  refine key _ H a _ R T (by simp) fun a' H' ρ' h6 T' => ?_
  simp only [↓ss_cons,↓s_ret,↓x_loc,↓x_attr,↓f1e,↓f56e,↓f59e,la_17,field_310_17,h6,T'.attrs,↓f59r,↓fCr,kOe,k1e,k1be]
  exact h a' H' T'
end
end Mine
end
section
open PySem
namespace Mine
section
variable {P H : Hp} {n : Nat} {Q : K1}

noncomputable def alph : List Nat := [97,98,99,100,101,102,103,104,105,106,107,108,109,110,111,112,113,114,115,116,117,118,119,120,121,122,65,66,67,68,69,70,71,72,73,74,75,76,77,78,79,80,81,82,83,84,85,86,87,88,89,90]
noncomputable def isLet (c : Nat) : Bool := alph.contains c
noncomputable def digitP (ns : List Int) (k : Nat) : Int := match ns[k]? with | some i => i | none => 0
private theorem digit_c {a : Addr} {o : PySem.Obj} {ns : List Int} {k : Nat} (hs : H a = some (.givn o (ns.map .int))) (hl : ns.length ≤ 63) (hk : k ≤ 100) (h : Q (.int (digitP ns k)) H) : callP tbl (n + 1) 524 [.ref a,.int k] Q H := by
  have e1 : (ns.map D.int).length = ns.length := by simp
  rw [callP_at fn_law_digit]; simp only [bP0,bP1,kPe,en0,↓fWe,↓ss_cons,↓s_ret,↓x_loc,↓x_len,↓x_cmp,↓x_ite,↓f24e,↓f35e,put_v,bT,bF,Nat.reduceBEq,emp_v,c_lt_ii,fd_law_digit,b_law_digit,hs,e1,↓f8r,↓f23lt,kOe,kBe,k8g]
  refine ⟨by unfold big; lia,?_⟩
  have e2 : decide ((k : Int) < (ns.length : Int)) = decide (k < ns.length) := by simp
  rw [e2]
  unfold digitP at h
  by_cases q : k < ns.length
  · have e3 : subs H (.ref a) (.int k) = some (.int ns[k]) := by
      simp only [subs,hs]
      rw [if_pos ⟨by lia,by unfold big; lia⟩]
      simp [q]
    simp only [decide_eq_true q,e3,↓x_loc,↓f36e,↓f37e,↓x_sub,↓f56e,put_v,bT,bF,Nat.reduceBEq,emp_v,↓f59r,↓fCr,kOe,k35t]
    rw [List.getElem?_eq_getElem q] at h
    exact h
  · simp only [decide_eq_false q,↓x_int,↓f56e,↓f59r,↓fCr,k35f]
    rw [List.getElem?_eq_none (by lia)] at h
    exact h

private theorem isin_str {c : Nat} {t : List Nat} : isinD H (.str [c]) (.str t) = some (t.contains c) := rfl
private theorem isin_alph {c : Nat} : isinD H (.str [c]) (.str alph) = some (isLet c) := isin_str
private theorem lt_run : lt_law_run_0 = .bop true (.cons (.cmp .lt (.loc 28) (.len (.loc 11))) (.cons (.isin false (.sub (.loc 11) (.loc 28)) (.str alph)) .nil)) := by unfold lt_law_run_0 alph; rfl
private theorem lt_run_ex : ∃ al : List Nat,(∀ (c : Nat) (H : Hp),isinD H (.str [c]) (.str al) = some (isLet c)) ∧ lt_law_run_0 = .bop true (.cons (.cmp .lt (.loc 28) (.len (.loc 11))) (.cons (.isin false (.sub (.loc 11) (.loc 28)) (.str al)) .nil)) := ⟨alph,fun u_ u_ => isin_alph,lt_run⟩
private theorem clampI_nat {m k : Nat} (h : k ≤ m) : clampI m (k : Int) = k := by
  unfold clampI
  rw [if_neg (by lia)]
  simp; lia
private theorem lrun_c {x : List Nat} {i : Nat} (hi : i ≤ x.length) (hl : x.length ≤ 1000) (h : Q (.str ((x.drop i).takeWhile isLet)) H) : callP tbl (n + 1) 538 [.str x,.int i] Q H := by
  obtain ⟨al,isin_al,lt_al⟩ := lt_run_ex
  rw [callP_at fn_law_run]; simp only [bP0,bP1,kPe,en0,↓fWe,↓ss_cons,↓s_assign,↓s_while_,↓x_loc,↓f49e,↓f59e,put_v,bT,bF,Nat.reduceBEq,emp_v,fd_law_run,b_law_run,kOe]
  generalize hE : (fun (ρ : Ev) (Q : Bool → Hp → Prop) (H : Hp) => X.wp tbl (callP tbl n) ρ lt_law_run_0 (fun d H => match d with | .bool c => Q c H | _ => False) H) = test
  generalize hB : (fun ρ Q H => Ss.wp tbl (callP tbl n) lp_law_run_1 ρ Q H) = body
  have key : ∀ (m : Nat) (e : Nat) (ρ : Ev) (K : K2),e ≤ x.length → x.length - e ≤ m → ρ.v 11 = some (.str x) → ρ.v 28 = some (.int e) → ρ.v 24 = some (.int i) →
      (∀ ρ' : Ev,ρ'.v 11 = some (.str x) → ρ'.v 28 = some (.int (e + ((x.drop e).takeWhile isLet).length : Nat)) → ρ'.v 24 = some (.int i) → K .next ρ' H) → turns test body K (m + 1) ρ H := by
    intro m
    induction m with
    | zero =>
      intro e ρ K he hm h11 h28 h24 hK
      have e0 : e = x.length := by lia
      rw [tuS]
      refine Eq.mp (congrFun (congrFun (congrFun hE _) _) _) ?_
      simp only [↓x_loc,↓x_len,↓x_cmp,↓x_bop,↓f8e,↓f24e,↓f47e,↓xb_cons,c_lt_ii,lt_al,h11,h28,↓f23lt,kOe,kBe]
      refine ⟨by unfold big; lia,?_⟩
      rw [decide_eq_false (by lia)]
      simp only [↓f30e,k47tf]
      refine hK ρ h11 ?_ h24
      rw [h28]; simp [e0]
    | succ m ih =>
      intro e ρ K he hm h11 h28 h24 hK
      rw [tuS]
      refine Eq.mp (congrFun (congrFun (congrFun hE _) _) _) ?_
      simp only [↓x_loc,↓x_len,↓x_cmp,↓x_bop,↓f8e,↓f24e,↓f47e,↓xb_cons,c_lt_ii,lt_al,h11,h28,↓f23lt,kOe,kBe]
      refine ⟨by unfold big; lia,?_⟩
      by_cases q : e < x.length
      · have e3 : subs H (.str x) (.int e) = some (.str [x[e]]) := by
          simp only [subs]
          rw [if_pos ⟨by lia,by unfold big; lia⟩]
          simp [q]
        have e4 : isinD H (.str [x[e]]) (.str al) = some (isLet x[e]) := isin_al _ _
        have e5 : x.drop e = x[e] :: x.drop (e + 1) := List.drop_eq_getElem_cons q
        rw [decide_eq_true (by lia)]
        simp only [e3,e4,Bool.bne_false,h11,h28,↓x_str,↓x_loc,↓f28e,↓f29e,↓x_isin,↓f36e,↓f37e,↓x_sub,↓f47e,↓xb_cons,kOe,k28e,k47tt]
        cases hc : isLet x[e] with
        | false =>
          simp only [↓f30e,k47tf]
          refine hK ρ h11 ?_ h24
          rw [h28,e5,List.takeWhile_cons,hc]; rfl
        | true =>
          simp only [↓f30e,↓xb_nil,k47tt]
          refine Eq.mp (congrFun (congrFun (congrFun hB _) _) _) ?_
          simp only [↓ss_nil,↓ss_cons,↓s_assign,↓x_int,↓x_loc,↓x_bin,↓f33e,↓f34e,↓f49e,↓f59e,b_add_ii,lp_law_run_1,h28,kOe,k33e]
          have e6 : ((e : Int) + 1) = ((e + 1 : Nat) : Int) := by lia
          rw [e6]
          refine ih (e + 1) _ K q (by lia) (by simpa using h11) (by simp) (by simpa using h24) fun ρ' a1 a2 a3 => hK ρ' a1 ?_ a3
          rw [a2]
          have e7 : (x.drop e).takeWhile isLet = x[e] :: (x.drop (e + 1)).takeWhile isLet := by rw [e5,List.takeWhile_cons,hc]; rfl
          rw [e7,List.length_cons]
          rw [show e + 1 + ((x.drop (e + 1)).takeWhile isLet).length = e + (((x.drop (e + 1)).takeWhile isLet).length + 1) by lia]
      · rw [decide_eq_false (by lia)]
        simp only [↓f30e,k47tf]
        refine hK ρ h11 ?_ h24
        rw [h28]; simp [show e = x.length by lia]
  refine ⟨x.length + 1,key x.length i _ _ hi (by lia) (by simp) (by simp) (by simp) fun ρ' a1 a2 a3 => ?_⟩
  simp only [↓ss_cons,↓s_ret,↓x_loc,↓x_slice,↓f38e,↓f39e,↓f40e,↓f56e,↓f59e,a1,a2,a3,slNN,slNI,slIN,slII,↓f59r,↓fCr,kOe,k38e]
  refine ⟨by unfold big; lia,?_⟩
  have e1 : clampI x.length ((i + ((x.drop i).takeWhile isLet).length : Nat) : Int) = i + ((x.drop i).takeWhile isLet).length := by
    have : ((x.drop i).takeWhile isLet).length ≤ (x.drop i).length := (List.takeWhile_sublist _).length_le
    simp only [List.length_drop] at this
    exact clampI_nat (by lia)
  have e2 : clampI x.length (i : Int) = i := clampI_nat hi
  rw [e1,e2]
  have e3 : (x.take (i + ((x.drop i).takeWhile isLet).length)).drop i = (x.drop i).takeWhile isLet := by
    rw [List.drop_take]
    have := List.takeWhile_append_dropWhile (p := isLet) (l := x.drop i)
    rw [show i + ((x.drop i).takeWhile isLet).length - i = ((x.drop i).takeWhile isLet).length by lia]
    conv => lhs; arg 2; rw [← this]
    rw [List.take_left]
  rw [e3]
  exact h
end
end Mine
end
section
open PySem
namespace Mine
section
variable {P H : Hp} {n : Nat} {Q : K1}
noncomputable def foldC (c : Nat) : Nat := if c < 97 then c + 32 else c
noncomputable def foldP (x : List Nat) : List Nat := x.map foldC
private theorem intsR_cons {i : Int} {m : Nat} : intsR i (m + 1) = .int i :: intsR (i + 1) m := rfl
private theorem joinS_one (l : List Nat) : joinS (l.map fun c => [c]) = l := by
  induction l with
  | nil => rfl
  | cons c l ih => simp [joinS,ih]
private theorem nodes_one (l : List Nat) : nodesOf (l.map fun c => D.str [c]) = some (l.map fun c => [c]) := by
  induction l with
  | nil => rfl
  | cons c l ih => simp [nodesOf,ih]
private theorem lfold_c {x : List Nat} (hx : ∀ c ∈ x,c < 1000) (hl : x.length ≤ 1000) (h : ∀ H',Ext H H' → Q (.str (foldP x)) H') : callP tbl (n + 1) 543 [.str x] Q H := by
  rw [callP_at fn_law_fold]; simp only [bP0,bP1,kPe,en0,↓fWe,↓ss_cons,↓s_ret,↓x_str,↓x_loc,↓x_join,↓x_comp,↓f20e,↓f44e,put_v,put_c,bT,Nat.reduceBEq,emp_v,emp_c,fd_law_fold,b_law_fold,itemsOf,kOe]
  refine ⟨fun u_ h => by simp at h,?_⟩
  rw [if_pos (by unfold big; lia)]
  simp only [List.length_map,↓f19e,k44e]
  refine ⟨by unfold big; lia,?_⟩
  have loop : ∀ (l acc : List Nat),(∀ c ∈ l,c < 1000) → acc.length + l.length ≤ 1000 → (∀ H',Ext H H' → Q (.str (acc ++ foldP l)) H') →
      compItems (fun ρ' K H => X.wp tbl (callP tbl n) ρ' ce_law_fold_0 K H) (.one 89)
      ((⟨fun k => if k = 88 then some (.str x) else none,fun u_ => none⟩ : Ev).onlyC []) (fun u_ => True)
      (fun acc H => ∀ a,H a = none → match (H.set a (.list acc)) a with
        | some (.list xs) => match nodesOf xs with
          | some l => (xs.length ≤ 10000 ∧ (joinS l).length ≤ big) ∧ Q (.str (joinS l)) (H.set a (.list acc))
          | none => False
        | _ => False) (l.map fun c => .str [c]) (acc.map fun c => .str [c]) H := by
    intro l
    induction l with
    | nil =>
      intro acc hc hl h
      refine ⟨trivial,fun a ha => ?_⟩
      simp only [set_self,nodes_one,joinS_one,List.length_map]
      simp only [List.length_nil] at hl
      refine ⟨⟨by lia,by unfold big; lia⟩,?_⟩
      have := h _ (Ext.set ha (O := .list (acc.map fun c => .str [c])))
      simpa [foldP] using this
    | cons c l ih =>
      intro acc hc hl h
      refine ⟨trivial,?_⟩
      simp only [bindTg]
      have hc1 := hc c (.head _)
      have fin : compItems (fun ρ' K H => X.wp tbl (callP tbl n) ρ' ce_law_fold_0 K H) (.one 89)
          ((⟨fun k => if k = 88 then some (.str x) else none,fun u_ => none⟩ : Ev).onlyC []) (fun u_ => True)
          (fun acc H => ∀ a,H a = none → match (H.set a (.list acc)) a with
            | some (.list xs) => match nodesOf xs with
              | some l => (xs.length ≤ 10000 ∧ (joinS l).length ≤ big) ∧ Q (.str (joinS l)) (H.set a (.list acc))
              | none => False
            | _ => False) (l.map fun c => .str [c]) ((acc.map fun c => .str [c]) ++ [.str [foldC c]]) H := by
        have := ih (acc ++ [foldC c]) (fun y hy => hc y (.tail _ hy)) (by simp at hl ⊢; lia) (fun H' e => by
          have := h H' e
          simpa [foldP] using this)
        simpa using this
      simp only [↓x_str,↓x_loc,↓x_cmp,↓x_ite,↓f24e,↓f35e,put_v,bT,Nat.reduceBEq,c_lt_ss,ce_law_fold_0,↓f23lt,kOe,kBe]
      by_cases q : c < 97
      · rw [decide_eq_true (lt_one.mpr q)]
        simp only [↓x_int,↓x_loc,↓f9e,↓x_chr,↓f10e,↓x_ord,↓f33e,↓f34e,↓x_bin,put_v,bT,Nat.reduceBEq,b_add_ii,kOe,k33e,k35t]
        have e1 : ((c : Int) + 32).toNat = c + 32 := by lia
        rw [e1]
        refine ⟨by lia,?_⟩
        unfold foldC at fin
        rw [if_pos q] at fin
        exact fin
      · rw [decide_eq_false (fun z => q (lt_one.mp z))]
        simp only [↓x_loc,put_v,bT,Nat.reduceBEq,kOe,k35f]
        unfold foldC at fin
        rw [if_neg q] at fin
        exact fin
  exact loop x [] hx (by simp; lia) (fun H' e => h H' e)
noncomputable def behindP (s : List Nat) : List Nat :=
  if s = [62] then [100,97,116,97] else if s = [47] then [115,101,108,102,45,99,108,111,115,105,110,103,32,115,116,97,114,116,32,116,97,103] else if s ∈ [[32],[10],[9],[12]] then [98,101,102,111,114,101,32,97,116,116,114,105,98,117,116,101,32,110,97,109,101] else []
private theorem lbehind_c {s : List Nat} (h : ∀ H',Ext H H' → Q (.str (behindP s)) H') : callP tbl (n + 1) 550 [.str s] Q H := by
  unfold behindP at h
  rw [callP_at fn_law_behind]; simp only [bP0,bP1,kPe,en0,↓fWe,↓ss_cons,↓s_ite,↓x_str,↓x_loc,↓x_cmp,↓f23e,↓f24e,↓f57e,put_v,bT,Nat.reduceBEq,emp_v,c_eq_ss,fd_law_behind,b_law_behind,kOe,kBe]
  by_cases q1 : s = [62]
  · rw [decide_eq_true q1]
    rw [if_pos q1] at h
    exact h _ (Ext.refl _)
  rw [decide_eq_false q1]
  rw [if_neg q1] at h
  simp only [↓x_str,↓x_loc,↓f23e,↓f24e,↓x_cmp,↓f57e,↓s_ite,↓ss_nil,↓f59e,↓ss_cons,put_v,bT,Nat.reduceBEq,emp_v,c_eq_ss,kOe,kBe,k57f]
  by_cases q2 : s = [47]
  · rw [decide_eq_true q2]
    rw [if_pos q2] at h
    exact h _ (Ext.refl _)
  rw [decide_eq_false q2]
  rw [if_neg q2] at h
  simp only [↓x_str,↓x_loc,↓f28e,↓f29e,↓x_isin,↓x_ite,↓f41e,↓x_list,↓xs_nil,↓f45e,↓f46e,↓xs_cons,↓s_ret,↓ss_nil,↓f59e,↓ss_cons,put_v,bT,Nat.reduceBEq,emp_v,kOe,k57f]
  refine ⟨by simp [big],fun a ha => ?_⟩
  have e : isinD (H.set a (.list [.str [32],.str [10],.str [9],.str [12]])) (.str s) (.ref a) = some (decide (s ∈ ([[32],[10],[9],[12]] : List (List Nat)))) := by
    simp [isinD,isinA,set_self,nodesOf]
  rw [e]
  by_cases q3 : s ∈ ([[32],[10],[9],[12]] : List (List Nat))
  · rw [decide_eq_true q3]
    rw [if_pos q3] at h
    exact h _ (Ext.set ha)
  · rw [decide_eq_false q3]
    rw [if_neg q3] at h
    exact h _ (Ext.set ha)
end
end Mine
end
section
open PySem
namespace Mine
section
variable {P H : Hp} {n : Nat} {Q : K1}
noncomputable def outC (kind : List Nat) (c : Nat) : Tr := chT (if c = 0 ∧ kind ≠ [100,97,116,97] then [65533] else [c])
noncomputable def outP (kind x : List Nat) : List Tr := x.map (outC kind)
noncomputable def errP : Nat → List Nat → List Tr
  | _,[] => []
  | i,c :: r => if c = 0 then nullT i :: errP (i + 1) r else errP (i + 1) r
private theorem errP_flat : ∀ (i : Nat) (x : List Nat),flatTs (errP i x) = true
  | _,[] => rfl
  | i,c :: r => by
    unfold errP
    split
    · simp [flatTs,errP_flat (i + 1) r,nullT,flatT]
    · exact errP_flat (i + 1) r
private theorem sub_str {x : List Nat} {i : Nat} (h : i < x.length) (hl : x.length ≤ 1000) : subs H (.str x) (.int i) = some (.str [x[i]]) := by
  simp only [subs]
  rw [if_pos ⟨by lia,by unfold big; lia⟩]
  simp [h]
private theorem errP_length : ∀ (i : Nat) (x : List Nat),(errP i x).length ≤ x.length
  | _,[] => Nat.le_refl _
  | i,c :: r => by
    unfold errP
    have := errP_length (i + 1) r
    split <;> simp <;> lia
structure Two (H0 H : Hp) (o e : Addr) (ot et : List Tr) : Prop where
  sub : Ext H0 H
  ho : H0 o = none
  he : H0 e = none
  ne : o ≠ e
  out : ∃ xs,H o = some (.list xs) ∧ Rds H ot xs
  err : ∃ xs,H e = some (.list xs) ∧ Rds H et xs
  flat : flatTs ot = true ∧ flatTs et = true
section
variable {H0 : Hp} {o e : Addr} {ot et : List Tr}
private theorem Two.ext {H' : Hp} (T : Two H0 H o e ot et) (h : Ext H H') : Two H0 H' o e ot et := by
  obtain ⟨xs,x1,x2⟩ := T.out
  obtain ⟨ys,y1,y2⟩ := T.err
  exact ⟨T.sub.trans h,T.ho,T.he,T.ne,⟨xs,h _ _ x1,Rds.ext h _ _ x2⟩,⟨ys,h _ _ y1,Rds.ext h _ _ y2⟩,T.flat⟩
private theorem Two.pushO (T : Two H0 H o e ot et) {xs : List D} {d : D} {u : Tr} (hx : H o = some (.list xs)) (hu : Rd H u d) (hf : flatT u = true) : Two H0 (H.set o (.list (xs ++ [d]))) o e (ot ++ [u]) et := by
  have hT : TL H (H.set o (.list (xs ++ [d]))) := TL.set fun xs e => by rw [hx] at e; cases e
  obtain ⟨xs',x1,x2⟩ := T.out
  rw [hx] at x1; cases x1
  obtain ⟨ys,y1,y2⟩ := T.err
  exact ⟨sub_set T.sub T.ho,T.ho,T.he,T.ne,⟨_,set_self,(Rds.tl hT _ _ T.flat.1 x2).snoc (Rd.tl hT _ _ hf hu)⟩,⟨ys,(set_ne (Ne.symm T.ne)).trans y1,Rds.tl hT _ _ T.flat.2 y2⟩,by rw [flatTs_app,T.flat.1]; simp [flatTs,hf],T.flat.2⟩
private theorem Two.pushE (T : Two H0 H o e ot et) {xs : List D} {d : D} {u : Tr} (hx : H e = some (.list xs)) (hu : Rd H u d) (hf : flatT u = true) : Two H0 (H.set e (.list (xs ++ [d]))) o e ot (et ++ [u]) := by
  have hT : TL H (H.set e (.list (xs ++ [d]))) := TL.set fun xs e => by rw [hx] at e; cases e
  obtain ⟨xs',x1,x2⟩ := T.err
  rw [hx] at x1; cases x1
  obtain ⟨ys,y1,y2⟩ := T.out
  exact ⟨sub_set T.sub T.he,T.ho,T.he,T.ne,⟨ys,(set_ne T.ne).trans y1,Rds.tl hT _ _ T.flat.1 y2⟩,⟨_,set_self,(Rds.tl hT _ _ T.flat.2 x2).snoc (Rd.tl hT _ _ hf hu)⟩,T.flat.1,by rw [flatTs_app,T.flat.2]; simp [flatTs,hf]⟩
end
private theorem told_turn {C : CallT} {x kind : List Nat} {ρ : Ev} {H0 G : Hp} {o e : Addr} {ot et : List Tr} {i : Nat} {K : K2} (hi : i < x.length) (hl : x.length ≤ 1000) (h11 : ρ.v 11 = some (.str x)) (h32 : ρ.v 32 = some (.str kind)) (h22 : ρ.v 22 = some (.ref o)) (h7 : ρ.v 7 = some (.ref e)) (h90 : ρ.v 90 = some (.int i))
    (T : Two H0 G o e ot et) (hl1 : ot.length ≤ 1000) (hl2 : et.length ≤ 1000)
    (hK : ∀ G' : Hp,(∀ b O,b ≠ o → b ≠ e → G b = some O → G' b = some O) → Two H0 G' o e (ot ++ [outC kind x[i]]) (et ++ (if x[i] = 0 then [nullT i] else [])) → K .next ρ G') : Ss.wp tbl C lp_law_told_0 ρ K G := by
  have e1 : ∀ {H : Hp},subs H (.str x) (.int i) = some (.str [x[i]]) := sub_str hi hl
  have give : ∀ (G' : Hp) (et' : List Tr),(∀ b O,b ≠ o → b ≠ e → G b = some O → G' b = some O) → Two H0 G' o e ot et' → et' = et ++ (if x[i] = 0 then [nullT i] else []) →
      Ss.wp tbl C (.cons (.expr (.append (.loc 22) (.tuple (.cons (.str [99,104,97,114]) (.cons (.ite (.bop true (.cons (.cmp .eq (.sub (.loc 11) (.loc 90)) (.str [0])) (.cons (.cmp .ne (.loc 32) (.str [100,97,116,97])) (.nil)))) (.str [65533]) (.sub (.loc 11) (.loc 90))) (.nil)))))) .nil) ρ K G' := by
    intro G' et' hkp aT he
    obtain ⟨xs,hxs,hr⟩ := aT.out
    have fin : ∀ (v : List Nat),v = (if x[i] = 0 ∧ kind ≠ [100,97,116,97] then [65533] else [x[i]]) → ∀ b,G' b = none → (match (G'.set b (.tuple [.str [99,104,97,114],.str v])) o with
        | some (.list xs) => xs.length < big ∧ K .next ρ ((G'.set b (.tuple [.str [99,104,97,114],.str v])).set o (.list (xs ++ [.ref b])))
        | _ => False) := by
      intro v hv b hb
      have T2 := aT.ext (Ext.set hb (O := .tuple [.str [99,104,97,114],.str v]))
      have hx2 := (set_ne (O := .tuple [.str [99,104,97,114],.str v]) (ne_fresh hxs hb)).trans hxs
      rw [hx2]
      refine ⟨by rw [hr.len]; unfold big; lia,?_⟩
      refine hK _ (fun b' O n1 n2 q => ?_) ?_
      · have q' := hkp b' O n1 n2 q
        rw [set_ne n1,set_ne (ne_fresh q' hb)]; exact q'
      · rw [← he]
        refine T2.pushO hx2 (u := outC kind x[i]) (Rd.tup set_self (.cons rd_str (.one ?_))) ?_
        · rw [hv]; exact rd_str
        · rfl
    simp only [↓ss_cons,↓s_expr,↓x_str,↓x_loc,↓x_append,↓x_cmp,↓x_bop,↓x_ite,↓x_sub,↓x_tuple,↓f18e,↓f23e,↓f24e,↓f36e,↓f37e,↓f46e,↓f47e,↓xs_cons,↓xb_cons,c_eq_ss,h11,h22,h90,hxs,e1,kOe,kBe,k18e]
    by_cases q1 : x[i] = 0 <;> by_cases q2 : kind = [100,97,116,97]
    · simp only [q1,q2,decide_true,Bool.not_true,h11,h32,h90,e1,↓x_str,↓x_loc,↓f17e,↓f24e,↓x_cmp,↓f30e,↓f35e,↓f36e,↓f37e,↓x_sub,↓f42e,↓xs_nil,↓f45e,↓f46e,↓f47e,↓xb_cons,c_ne_ss,↓f23s,kOe,kBe,k35f,k47tt,k47tf]
      exact ⟨by simp [big],fin _ (by simp [q1,q2])⟩
    · simp only [q1,q2,decide_true,decide_false,Bool.not_false,h32,↓x_str,↓x_loc,↓f17e,↓f24e,↓x_cmp,↓f30e,↓f35e,↓f42e,↓xs_nil,↓f45e,↓f46e,↓xb_nil,↓f47e,↓xb_cons,c_ne_ss,↓f23s,kOe,kBe,k35t,k47tt]
      exact ⟨by simp [big],fin _ (by simp [q1,q2])⟩
    · have : decide (([x[i]] : List Nat) = [0]) = false := by simp [q1]
      simp only [this,h11,h90,e1,↓x_loc,↓f17e,↓f30e,↓f35e,↓f36e,↓f37e,↓x_sub,↓f42e,↓xs_nil,↓f45e,↓f46e,kOe,k35f,k47tf]
      exact ⟨by simp [big],fin _ (by simp [q1])⟩
    · have : decide (([x[i]] : List Nat) = [0]) = false := by simp [q1]
      simp only [this,h11,h90,e1,↓x_loc,↓f17e,↓f30e,↓f35e,↓f36e,↓f37e,↓x_sub,↓f42e,↓xs_nil,↓f45e,↓f46e,kOe,k35f,k47tf]
      exact ⟨by simp [big],fin _ (by simp [q1])⟩
  obtain ⟨ys,hys,hr⟩ := T.err
  by_cases q1 : x[i] = 0
  · simp only [↓ss_cons,↓s_expr,↓s_ite,↓x_str,↓x_loc,↓x_append,↓x_cmp,↓x_sub,↓x_tuple,↓f17e,↓f18e,↓f23e,↓f24e,↓f36e,↓f37e,↓f42e,↓f45e,↓f46e,↓f57e,↓xs_nil,↓xs_cons,c_eq_ss,lp_law_told_0,h11,h90,h7,e1,q1,decide_true,hys,kOe,kBe,k18e,k57t]
    refine ⟨by simp [big],fun b hb => ?_⟩
    have T2 := T.ext (Ext.set hb (O := .tuple [.str [117,110,101,120,112,101,99,116,101,100,45,110,117,108,108,45,99,104,97,114,97,99,116,101,114],.int i]))
    have hx2 := (set_ne (O := .tuple [.str [117,110,101,120,112,101,99,116,101,100,45,110,117,108,108,45,99,104,97,114,97,99,116,101,114],.int i]) (ne_fresh hys hb)).trans hys
    simp only [hx2,h22,↓x_loc,↓f18e,↓x_append,↓f48e,↓s_expr,↓ss_nil,↓f59e,↓ss_cons,kOe,k17e]
    refine ⟨by rw [hr.len]; unfold big; lia,?_⟩
    have g := give ((G.set b (.tuple [.str [117,110,101,120,112,101,99,116,101,100,45,110,117,108,108,45,99,104,97,114,97,99,116,101,114],.int i])).set e (.list (ys ++ [.ref b]))) (et ++ [nullT i]) (fun b' O n1 n2 q => (set_ne n2).trans ((set_ne (ne_fresh q hb)).trans q)) (T2.pushE hx2 (u := nullT i) (Rd.tup set_self (.cons rd_str (.one rd_int))) rfl) (by simp [q1])
    simp only [↓ss_cons,↓s_expr,↓x_loc,↓x_append,↓f18e,kOe,h22] at g
    exact g
  · have q2 : decide (([x[i]] : List Nat) = [0]) = false := by simp [q1]
    have g := give G et (fun u_ u_ u_ u_ q => q) T (by simp [q1])
    simp only [↓ss_nil,↓ss_cons,↓s_expr,↓s_ite,↓x_str,↓x_loc,↓x_append,↓x_cmp,↓x_sub,↓f18e,↓f23e,↓f24e,↓f36e,↓f37e,↓f57e,↓f59e,c_eq_ss,lp_law_told_0,h11,h90,e1,q2,kOe,kBe,k57f,h22] at g ⊢
    exact g
private theorem told_loop {C : CallT} {x kind : List Nat} {H0 : Hp} {o e r : Addr} {st : Hp → Prop} {K : K2} (hl : x.length ≤ 1000) (hro : r ≠ o) (hre : r ≠ e) {R : AO} (hst : ∀ H',H' r = some R → st H') :
    ∀ (l pre : List Nat) (ρ : Ev) (G : Hp) (ot et : List Tr),x = pre ++ l → ρ.v 11 = some (.str x) → ρ.v 32 = some (.str kind) → ρ.v 22 = some (.ref o) → ρ.v 7 = some (.ref e) → G r = some R → Two H0 G o e ot et →
      ot.length + l.length ≤ 1000 → et.length + l.length ≤ 1000 →
      (∀ ρ' H',ρ'.v 22 = some (.ref o) → ρ'.v 7 = some (.ref e) → Two H0 H' o e (ot ++ outP kind l) (et ++ errP pre.length l) → K .next ρ' H') →
      overItems (fun ρ Q H => Ss.wp tbl C lp_law_told_0 ρ Q H) 90 st K (intsR pre.length l.length) ρ G := by
  intro l
  induction l with
  | nil =>
    intro pre ρ G ot et hx h11 h32 h22 h7 hG T hl1 hl2 h
    exact ⟨hst _ hG,h _ _ h22 h7 (by simpa [outP,errP] using T)⟩
  | cons c l ih =>
    intro pre ρ G ot et hx h11 h32 h22 h7 hG T hl1 hl2 h
    rw [List.length_cons,intsR_cons]
    refine ⟨hst _ hG,?_⟩
    have hlt : pre.length < x.length := by rw [hx]; simp
    have hxc : x[pre.length] = c := by simp [hx]
    simp only [List.length_cons] at hl1 hl2
    refine told_turn (i := pre.length) hlt hl (by simpa [put_v,put_c,cel_v,cel_c,bT,bF,Nat.reduceBEq] using h11) (by simpa [put_v,put_c,cel_v,cel_c,bT,bF,Nat.reduceBEq] using h32) (by simpa [put_v,put_c,cel_v,cel_c,bT,bF,Nat.reduceBEq] using h22) (by simpa [put_v,put_c,cel_v,cel_c,bT,bF,Nat.reduceBEq] using h7) (by simp [put_v,bT]) T (by lia) (by lia) fun G' hkp T' => ?_
    rw [hxc] at T'
    have e2 : (pre ++ [c]).length = pre.length + 1 := by simp
    have e3 : (((pre ++ [c]).length : Nat) : Int) = (pre.length : Int) + 1 := by simp
    have := ih (pre ++ [c]) (ρ.put 90 (.int pre.length)) G' _ _ (by simp [hx]) (by simpa [put_v,put_c,cel_v,cel_c,bT,bF,Nat.reduceBEq] using h11) (by simpa [put_v,put_c,cel_v,cel_c,bT,bF,Nat.reduceBEq] using h32) (by simpa [put_v,put_c,cel_v,cel_c,bT,bF,Nat.reduceBEq] using h22) (by simpa [put_v,put_c,cel_v,cel_c,bT,bF,Nat.reduceBEq] using h7) (hkp _ _ hro hre hG) T' (by simp; lia) (by split <;> simp <;> lia) (fun ρ' H' a b T2 => h ρ' H' a b (by
      rw [e2] at T2
      have e4 : (ot ++ [outC kind c]) ++ outP kind l = ot ++ outP kind (c :: l) := by simp [outP]
      have e5 : (et ++ (if c = 0 then [nullT pre.length] else [])) ++ errP (pre.length + 1) l = et ++ errP pre.length (c :: l) := by
        simp only [errP]
        split <;> simp
      rw [e4,e5] at T2
      exact T2))
    rw [e3] at this
    exact this
private theorem ltold_c {x kind : List Nat} (hl : x.length ≤ 1000) (h : ∀ b o e H',Two H H' o e (outP kind x) (errP 0 x) → H' b = some (.tuple [.ref o,.ref e]) → Q (.ref b) H') : callP tbl (n + 1) 571 [.str x,.str kind] Q H := by
  rw [callP_at fn_law_told]; simp only [bP0,bP1,kPe,en0,↓fWe,↓ss_cons,↓s_assign,↓s_for_,↓x_loc,↓x_len,↓x_range1,↓x_list,↓f8e,↓f14e,↓f41e,↓f49e,↓f58e,↓f59e,↓xs_nil,put_v,bT,bF,Nat.reduceBEq,emp_v,fd_law_told,b_law_told,List.length_nil,kOe]
  refine ⟨by unfold big; lia,fun o ho => ⟨by unfold big; lia,fun e he => ⟨by unfold big; lia,⟨⟨by lia,by unfold big; lia⟩,fun r hr => ?_⟩⟩⟩⟩
  have e0 : H e = none := by
    have := he
    unfold Hp.set at this
    split at this
    · cases this
    · exact this
  have oe : o ≠ e := by rintro rfl; rw [set_self] at he; cases he
  have T0 : Two H ((H.set o (.list [])).set e (.list [])) o e [] [] := ⟨(Ext.set ho).trans (Ext.set he),ho,e0,oe,⟨[],by rw [set_ne oe,set_self],Rds.nil⟩,⟨[],set_self,Rds.nil⟩,rfl,rfl⟩
  have T1 := T0.ext (Ext.set hr (O := .range 0 x.length))
  have hro : r ≠ o := by rintro rfl; rw [set_ne oe,set_self] at hr; cases hr
  have hre : r ≠ e := by rintro rfl; rw [set_self] at hr; cases hr
  have hrr : (((H.set o (.list [])).set e (.list [])).set r (.range 0 x.length)) r = some (.range 0 x.length) := set_self
  simp only [itemsOf,set_self]
  rw [if_pos ⟨by lia,by unfold big; lia,by lia,by unfold big; lia⟩]
  simp only [k58e]
  generalize ((H.set o (.list [])).set e (.list [])).set r (.range 0 x.length) = G at T1 hrr
  rw [show ((x.length : Int) - 0).toNat = x.length by lia]
  show overItems _ _ _ _ (intsR ((([] : List Nat).length : Nat) : Int) x.length) _ _
  refine told_loop (kind := kind) (R := .range 0 x.length) hl hro hre (fun H' q => by show H' r = G r; rw [q,hrr]) x [] _ G [] [] rfl (by simp) (by simp) (by simp) (by simp) hrr T1 (by simp; lia) (by simp; lia) fun ρ' H' h22 h7 T' => ?_
  simp only [↓ss_cons,↓s_ret,↓x_loc,↓x_tuple,↓f42e,↓f45e,↓f46e,↓f56e,↓f59e,↓xs_nil,↓xs_cons,h22,h7,↓f59r,↓fCr,kOe]
  refine ⟨by simp [big],fun b hb => ?_⟩
  exact h b o e _ ((by simpa using T' : Two H H' o e (outP kind x) (errP 0 x)).ext (Ext.set hb)) set_self
end
end Mine
end
section
open PySem
namespace Mine
section
variable {P H : Hp} {n : Nat} {Q : K1}
private theorem clampI_min {m k : Nat} : clampI m (k : Int) = min k m := by
  unfold clampI
  rw [if_neg (by lia)]
  simp
private theorem slice_nn {x : List Nat} {a b : Nat} : sliceS x (.int (a : Int)) (.int (b : Int)) = some ((x.take b).drop a) := by
  simp only [slNN,slNI,slIN,slII,clampI_min]
  congr 1
  have e1 : x.take (min b x.length) = x.take b := by rw [← List.take_take,List.take_length]
  rw [e1]
  by_cases h : a ≤ x.length
  · rw [Nat.min_eq_left h]
  · rw [Nat.min_eq_right (by lia),List.drop_eq_nil_of_le (by rw [List.length_take]; lia),List.drop_eq_nil_of_le (by rw [List.length_take]; lia)]
private theorem slice_0n {x : List Nat} {b : Nat} : sliceS x .none (.int (b : Int)) = some (x.take b) := by
  simp only [slNN,slNI,slIN,slII,clampI_min]
  rw [← List.take_take,List.take_length]
private theorem slice_n0 {x : List Nat} {a : Nat} : sliceS x (.int (a : Int)) .none = some (x.drop a) := by
  simp only [slNN,slNI,slIN,slII,clampI_min]
  by_cases h : a ≤ x.length
  · rw [Nat.min_eq_left h]
  · rw [Nat.min_eq_right (by lia),List.drop_eq_nil_of_le (Nat.le_refl _),List.drop_eq_nil_of_le (by lia)]
private theorem slice_2 {x : List Nat} {i : Nat} : (x.take (i + 2)).drop i = (x.drop i).take 2 := by
  rw [List.drop_take]; congr 1; lia
private theorem isLet_lt {c : Nat} (h : isLet c = true) : c < 1000 := by
  have : ∀ c ∈ alph,c < 1000 := by decide
  exact this c (by simpa [isLet] using h)
private theorem tw_let {x : List Nat} : ∀ c ∈ x.takeWhile isLet,c < 1000 := by
  induction x with
  | nil => intro c h; simp at h
  | cons a x ih =>
    intro c h
    rw [List.takeWhile_cons] at h
    split at h
    · rename_i q
      rcases List.mem_cons.mp h with rfl | h
      · exact isLet_lt q
      · exact ih c h
    · cases h
private theorem tw_len {x : List Nat} : (x.takeWhile isLet).length ≤ x.length := (List.takeWhile_sublist _).length_le
noncomputable def drT : Option (List Nat) → Tr
  | none => .none
  | some nm => endT nm
noncomputable def leftS (r : List Nat) (bd : List Nat × Option (List Nat)) : List Nat × Option (List Nat) :=
  if r.take 2 = [60,47] then ((r.drop 2).takeWhile isLet,if (r.drop 2).takeWhile isLet = [] then bd.2 else some (foldP ((r.drop 2).takeWhile isLet))) else bd
noncomputable def leftG : List Nat → List Nat × Option (List Nat) → List Nat × Option (List Nat)
  | [],bd => bd
  | c :: r,bd => leftG r (leftS (c :: r) bd)
noncomputable def leftP (x kind : List Nat) : List Nat × Option (List Nat) := if kind ∈ [[100,97,116,97],[80,76,65,73,78,84,69,88,84]] then ([],none) else leftG x ([],none)
private theorem left_turn {m : Nat} {x : List Nat} {ρ : Ev} {G : Hp} {i : Nat} {bd : List Nat × Option (List Nat)} {dd : D} {K : K2} (hi : i < x.length) (hl : x.length ≤ 1000) (h11 : ρ.v 11 = some (.str x)) (h20 : ρ.v 20 = some (.str bd.1)) (h21 : ρ.v 21 = some dd) (hd : Rd G (drT bd.2) dd) (h90 : ρ.v 90 = some (.int i))
    (hK : ∀ (ρ' : Ev) (G' : Hp) (dd' : D),Ext G G' → ρ'.v 11 = some (.str x) → ρ'.v 20 = some (.str (leftS (x.drop i) bd).1) → ρ'.v 21 = some dd' → Rd G' (drT (leftS (x.drop i) bd).2) dd' → K .next ρ' G') : Ss.wp tbl (callP tbl (m + 1)) lp_law_left_0 ρ K G := by
  have e1 : ((i : Int) + 2) = ((i + 2 : Nat) : Int) := by lia
  simp only [↓ss_cons,↓s_ite,↓x_int,↓x_str,↓x_loc,↓x_cmp,↓x_bin,↓x_slice,↓f23e,↓f24e,↓f33e,↓f34e,↓f38e,↓f39e,↓f40e,↓f57e,c_eq_ss,b_add_ii,lp_law_left_0,h11,h90,e1,slice_nn,slice_2,kOe,kBe,k33e,k38e]
  refine ⟨by unfold big; lia,?_⟩
  unfold leftS at hK
  by_cases q : (x.drop i).take 2 = [60,47]
  · rw [decide_eq_true q]
    simp only [↓x_int,↓x_loc,↓x_glo,↓f2e,↓f5e,↓x_call,↓f33e,↓f34e,↓x_bin,↓xs_nil,↓f45e,↓f46e,↓xs_cons,↓s_assign,↓ss_cons,b_add_ii,glo_94,kOe,k5e,k33e,k57t,fn_law_run,h11,h90,e1]
    rw [if_pos q] at hK
    have hlen : i + 2 ≤ x.length := by
      have := congrArg List.length q
      rw [List.length_take,List.length_drop] at this
      simp at this; lia
    have e2 : (x.drop i).drop 2 = x.drop (i + 2) := by rw [List.drop_drop]
    rw [e2] at hK
    skip
    refine lrun_c hlen hl ?_
    generalize hb : (x.drop (i + 2)).takeWhile isLet = b at hK
    have hbl : b.length ≤ 1000 := by rw [← hb]; have := tw_len (x := x.drop (i + 2)); rw [List.length_drop] at this; lia
    have hbc : ∀ c ∈ b,c < 1000 := by rw [← hb]; exact tw_let
    by_cases q2 : b = []
    · simp only [↓ss_nil,↓ss_cons,↓s_ite,↓x_str,↓x_loc,↓x_cmp,↓f24e,↓f49e,↓f57e,↓f59e,put_v,bT,Nat.reduceBEq,c_ne_ss,Bool.not_true,decide_eq_true q2,↓f23s,kOe,kBe,k57f]
      rw [if_pos q2] at hK
      exact hK _ G dd (Ext.refl _) (by simpa [put_v,put_c,cel_v,cel_c,bT,bF,Nat.reduceBEq] using h11) (by simp []) (by simpa [put_v,put_c,cel_v,cel_c,bT,bF,Nat.reduceBEq] using h21) hd
    · simp only [↓ss_cons,↓s_assign,↓s_ite,↓x_str,↓x_loc,↓x_glo,↓x_call,↓x_cmp,↓x_tuple,↓f2e,↓f5e,↓f24e,↓f45e,↓f46e,↓f49e,↓f57e,↓f59e,↓xs_nil,↓xs_cons,put_v,bT,Nat.reduceBEq,c_ne_ss,Bool.not_false,glo_92,decide_eq_false q2,fn_law_fold,↓f23s,kOe,kBe,k5e,k57t]
      rw [if_neg q2] at hK
      refine lfold_c hbc hbl fun G1 hE => ?_
      refine ⟨by simp [big],fun t ht => ⟨by simp [big],fun b2 hb2 => ?_⟩⟩
      refine hK _ _ (.ref b2) (hE.trans ((Ext.set ht).trans (Ext.set hb2))) (by simpa [put_v,put_c,cel_v,cel_c,bT,bF,Nat.reduceBEq] using h11) (by simp [put_v,bT,bF,Nat.reduceBEq]) (by simp [put_v,bT,bF,Nat.reduceBEq]) ?_
      exact Rd.tup set_self (.cons rd_str (.cons rd_str (.cons (Rd.tup ((set_ne (ne_fresh set_self hb2)).trans set_self) .nil) (.one rd_bool))))
  · rw [decide_eq_false q]
    simp only [↓ss_nil,↓f59e,k57f]
    rw [if_neg q] at hK
    exact hK ρ G dd (Ext.refl _) h11 h20 h21 hd
private theorem left_loop {m : Nat} {x : List Nat} {H0 : Hp} {r : Addr} {st : Hp → Prop} {K : K2} (hl : x.length ≤ 1000) {R : AO} (hst : ∀ H',H' r = some R → st H') :
    ∀ (l pre : List Nat) (ρ : Ev) (G : Hp) (bd : List Nat × Option (List Nat)) (dd : D),x = pre ++ l → Ext H0 G → ρ.v 11 = some (.str x) → ρ.v 20 = some (.str bd.1) → ρ.v 21 = some dd → Rd G (drT bd.2) dd → G r = some R →
      (∀ (ρ' : Ev) (G' : Hp) (dd' : D),Ext H0 G' → ρ'.v 20 = some (.str (leftG l bd).1) → ρ'.v 21 = some dd' → Rd G' (drT (leftG l bd).2) dd' → K .next ρ' G') →
      overItems (fun ρ Q H => Ss.wp tbl (callP tbl (m + 1)) lp_law_left_0 ρ Q H) 90 st K (intsR pre.length l.length) ρ G := by
  intro l
  induction l with
  | nil =>
    intro pre ρ G bd dd hx hE h11 h20 h21 hd hG h
    exact ⟨hst _ hG,h _ _ _ hE h20 h21 hd⟩
  | cons c l ih =>
    intro pre ρ G bd dd hx hE h11 h20 h21 hd hG h
    rw [List.length_cons,intsR_cons]
    refine ⟨hst _ hG,?_⟩
    have hlt : pre.length < x.length := by rw [hx]; simp
    have hxd : x.drop pre.length = c :: l := by rw [hx]; simp
    refine left_turn (i := pre.length) hlt hl (by simpa [put_v,put_c,cel_v,cel_c,bT,bF,Nat.reduceBEq] using h11) (by simpa [put_v,put_c,cel_v,cel_c,bT,bF,Nat.reduceBEq] using h20) (by simpa [put_v,put_c,cel_v,cel_c,bT,bF,Nat.reduceBEq] using h21) hd (by simp [put_v,bT]) fun ρ' G' dd' hE' a11 a20 a21 ad => ?_
    rw [hxd] at a20 ad
    have e3 : (((pre ++ [c]).length : Nat) : Int) = (pre.length : Int) + 1 := by simp
    have := ih (pre ++ [c]) ρ' G' _ dd' (by simp [hx]) (hE.trans hE') a11 a20 a21 ad (hE' _ _ hG) h
    rw [e3] at this
    exact this
private theorem lleft_c {x kind : List Nat} (hl : x.length ≤ 1000) (h : ∀ b dd H',Ext H H' → H' b = some (.tuple [.str (leftP x kind).1,dd]) → Rd H' (drT (leftP x kind).2) dd → Q (.ref b) H') : callP tbl (n + 2) 578 [.str x,.str kind] Q H := by
  rw [callP_at fn_law_left]; simp only [bP0,bP1,kPe,en0,↓fWe,↓ss_cons,↓s_assign,↓s_ite,↓x_none,↓x_str,↓x_loc,↓x_isin,↓x_list,↓f28e,↓f29e,↓f41e,↓f45e,↓f46e,↓f49e,↓f59e,↓xs_nil,↓xs_cons,put_v,bT,bF,Nat.reduceBEq,emp_v,fd_law_left,b_law_left,kOe]
  refine ⟨by simp [big],fun a ha => ?_⟩
  have e1 : isinD (H.set a (.list [.str [100,97,116,97],.str [80,76,65,73,78,84,69,88,84]])) (.str kind) (.ref a) = some (decide (kind ∈ [[100,97,116,97],[80,76,65,73,78,84,69,88,84]])) := by
    simp [isinD,isinA,set_self,nodesOf]
  have hE := Ext.set ha (O := .list [.str [100,97,116,97],.str [80,76,65,73,78,84,69,88,84]])
  simp only [e1,Bool.bne_false,↓f57e,k28e]
  generalize H.set a (.list [.str [100,97,116,97],.str [80,76,65,73,78,84,69,88,84]]) = G at hE
  unfold leftP at h
  by_cases q : kind ∈ [[100,97,116,97],[80,76,65,73,78,84,69,88,84]]
  · simp only [decide_eq_true q,↓x_loc,↓f42e,↓x_tuple,↓xs_nil,↓f45e,↓f46e,↓xs_cons,↓f56e,↓s_ret,↓ss_cons,put_v,bT,bF,Nat.reduceBEq,emp_v,↓f59r,↓fCr,kOe,k57t]
    rw [if_pos q] at h
    refine ⟨by simp [big],fun b hb => h b .none _ (hE.trans (Ext.set hb)) set_self rd_none⟩
  · simp only [decide_eq_false q,↓x_loc,↓f8e,↓x_len,↓f14e,↓x_range1,↓f58e,↓s_for_,↓ss_nil,↓f59e,↓ss_cons,put_v,bT,bF,Nat.reduceBEq,emp_v,kOe,k57f]
    rw [if_neg q] at h
    refine ⟨by unfold big; lia,⟨⟨by lia,by unfold big; lia⟩,fun r hr => ?_⟩⟩
    simp only [itemsOf,set_self]
    rw [if_pos ⟨by lia,by unfold big; lia,by lia,by unfold big; lia⟩]
    simp only [k58e]
    have hE2 := hE.trans (Ext.set hr (O := .range 0 x.length))
    have hrr : (G.set r (.range 0 x.length)) r = some (.range 0 x.length) := set_self
    generalize G.set r (.range 0 x.length) = G2 at hE2 hrr
    rw [show ((x.length : Int) - 0).toNat = x.length by lia]
    show overItems _ _ _ _ (intsR ((([] : List Nat).length : Nat) : Int) x.length) _ _
    refine left_loop (R := .range 0 x.length) (H0 := H) hl (fun H' q => by show H' r = G2 r; rw [q,hrr]) x [] _ G2 ([],none) .none rfl hE2 (by simp) (by simp) (by simp) rd_none hrr fun ρ' G' dd' hE3 a20 a21 ad => ?_
    simp only [↓ss_cons,↓s_ret,↓x_loc,↓x_tuple,↓f42e,↓f45e,↓f46e,↓f56e,↓f59e,↓xs_nil,↓xs_cons,a20,a21,↓f59r,↓fCr,kOe]
    refine ⟨by simp [big],fun b hb => h b dd' _ (hE3.trans (Ext.set hb)) set_self (Rd.ext (Ext.set hb) _ _ ad)⟩
end
end Mine
end
section
open PySem
namespace Mine
section
variable {P H : Hp} {n : Nat} {Q : K1}
noncomputable def tailS (kind r : List Nat) : Nat × List Nat := (2 + (r.drop 2).length,kind ++ (if r.drop 2 = [] then [32,101,110,100,32,116,97,103,32,111,112,101,110] else [32,101,110,100,32,116,97,103,32,110,97,109,101]))
noncomputable def tailG (kind : List Nat) : List Nat → Nat × List Nat
  | [] => (0,kind)
  | c :: r => if (c :: r).take 2 = [60,47] ∧ (((c :: r).drop 2).takeWhile isLet).length = ((c :: r).drop 2).length then tailS kind (c :: r) else tailG kind r
noncomputable def tailP (x kind : List Nat) : Nat × List Nat :=
  if kind ∈ [[100,97,116,97],[80,76,65,73,78,84,69,88,84]] then (0,kind) else if x.drop (x.length - 1) = [60] then (1,kind ++ [32,108,101,115,115,45,116,104,97,110,32,115,105,103,110]) else tailG kind x
private theorem tail_turn {m : Nat} {x kind : List Nat} {ρ : Ev} {G : Hp} {i : Nat} {K : K2} (hi : i < x.length) (hl : x.length ≤ 1000) (hkl : kind.length ≤ 100) (h11 : ρ.v 11 = some (.str x)) (h32 : ρ.v 32 = some (.str kind)) (h90 : ρ.v 90 = some (.int i))
    (hR : ((x.drop i).take 2 = [60,47] ∧ (((x.drop i).drop 2).takeWhile isLet).length = ((x.drop i).drop 2).length) → ∀ (b : Addr) (ρ' : Ev) (G' : Hp),Ext G G' → G' b = some (.tuple [.int ((tailS kind (x.drop i)).1 : Nat),.str (tailS kind (x.drop i)).2]) → K (.ret (.ref b)) ρ' G')
    (hK : ¬ ((x.drop i).take 2 = [60,47] ∧ (((x.drop i).drop 2).takeWhile isLet).length = ((x.drop i).drop 2).length) → ∀ (ρ' : Ev),ρ'.v 11 = some (.str x) → ρ'.v 32 = some (.str kind) → K .next ρ' G) : Ss.wp tbl (callP tbl (m + 1)) lp_law_tail_0 ρ K G := by
  have e1 : ((i : Int) + 2) = ((i + 2 : Nat) : Int) := by lia
  simp only [↓ss_cons,↓s_ite,↓x_int,↓x_str,↓x_loc,↓x_cmp,↓x_bin,↓x_slice,↓f23e,↓f24e,↓f33e,↓f34e,↓f38e,↓f39e,↓f40e,↓f57e,c_eq_ss,b_add_ii,lp_law_tail_0,h11,h90,e1,slice_nn,slice_2,kOe,kBe,k33e,k38e]
  refine ⟨by unfold big; lia,?_⟩
  by_cases q : (x.drop i).take 2 = [60,47]
  · rw [decide_eq_true q]
    simp only [↓x_int,↓x_loc,↓x_glo,↓f2e,↓f5e,↓x_call,↓f33e,↓f34e,↓x_bin,↓xs_nil,↓f45e,↓f46e,↓xs_cons,↓s_assign,↓ss_cons,b_add_ii,glo_94,kOe,k5e,k33e,k57t,fn_law_run,h11,h90,e1]
    have hlen : i + 2 ≤ x.length := by
      have := congrArg List.length q
      rw [List.length_take,List.length_drop] at this
      simp at this; lia
    have e2 : (x.drop i).drop 2 = x.drop (i + 2) := by rw [List.drop_drop]
    rw [e2] at hR hK
    have e3 : (tailS kind (x.drop i)) = (2 + (x.drop (i + 2)).length,kind ++ (if x.drop (i + 2) = [] then [32,101,110,100,32,116,97,103,32,111,112,101,110] else [32,101,110,100,32,116,97,103,32,110,97,109,101])) := by unfold tailS; rw [e2]
    rw [e3] at hR
    skip
    refine lrun_c hlen hl ?_
    have hdl : (x.drop (i + 2)).length = x.length - (i + 2) := by rw [List.length_drop]
    have htl := tw_len (x := x.drop (i + 2))
    generalize hb : (x.drop (i + 2)).takeWhile isLet = b at hR hK htl
    simp only [↓ss_cons,↓s_ite,↓x_int,↓x_loc,↓x_len,↓x_cmp,↓x_bin,↓f8e,↓f23e,↓f24e,↓f33e,↓f34e,↓f49e,↓f57e,↓f59e,put_v,bT,bF,Nat.reduceBEq,c_eq_ii,b_add_ii,h11,h90,e1,kOe,kBe,k33e]
    refine ⟨by unfold big; lia,⟨by unfold big; lia,?_⟩⟩
    by_cases q2 : b.length = (x.drop (i + 2)).length
    · have e4 : decide (((i + 2 : Nat) : Int) + (b.length : Int) = (x.length : Int)) = true := decide_eq_true (by lia)
      rw [e4]
      simp only [↓x_int,↓x_loc,↓f8e,↓x_len,↓f33e,↓f34e,↓x_bin,↓x_tuple,↓f46e,↓xs_cons,↓s_ret,↓ss_cons,put_v,bT,bF,Nat.reduceBEq,b_add_ii,kOe,k33e,k57t]
      have hbe : b = x.drop (i + 2) := by
        rw [← hb]
        have h1 := List.takeWhile_prefix (p := isLet) (l := x.drop (i + 2))
        exact h1.eq_of_length (by rw [hb]; exact q2)
      refine ⟨by unfold big; lia,?_⟩
      simp only [h32,↓x_str,↓x_loc,↓f23e,↓f24e,↓x_cmp,↓f34e,↓f35e,↓x_ite,put_v,bT,Nat.reduceBEq,c_eq_ss,kOe,kBe]
      have e5 : ((2 : Int) + (b.length : Int)) = ((2 + (x.drop (i + 2)).length : Nat) : Int) := by lia
      rw [e5]
      by_cases q3 : b = []
      · simp only [Nat.reduceAdd,decide_eq_true q3,List.length_cons,List.length_nil,↓x_str,↓f33e,b_add_ss,k35t]
        rw [if_pos (by unfold big; lia)]
        refine ⟨by simp [big],fun b2 hb2 => ?_⟩
        refine hR ⟨q,q2⟩ b2 _ _ (Ext.set hb2) ?_
        rw [set_self,← hbe,if_pos q3]
      · simp only [Nat.reduceAdd,decide_eq_false q3,List.length_cons,List.length_nil,↓x_str,↓f33e,b_add_ss,k35f]
        rw [if_pos (by unfold big; lia)]
        refine ⟨by simp [big],fun b2 hb2 => ?_⟩
        refine hR ⟨q,q2⟩ b2 _ _ (Ext.set hb2) ?_
        rw [set_self,← hbe,if_neg q3]
    · have e4 : decide (((i + 2 : Nat) : Int) + (b.length : Int) = (x.length : Int)) = false := decide_eq_false (by lia)
      rw [e4]
      simp only [↓ss_nil,↓f59e,k57f]
      exact hK (fun z => q2 z.2) _ (by simpa [put_v,put_c,cel_v,cel_c,bT,bF,Nat.reduceBEq] using h11) (by simpa [put_v,put_c,cel_v,cel_c,bT,bF,Nat.reduceBEq] using h32)
  · rw [decide_eq_false q]
    simp only [↓ss_nil,↓f59e,k57f]
    exact hK (fun z => q z.1) ρ h11 h32
private theorem tail_loop {m : Nat} {x kind : List Nat} {r : Addr} {st : Hp → Prop} {K : K2} {G : Hp} (hl : x.length ≤ 1000) (hkl : kind.length ≤ 100) (hst : st G) :
    ∀ (l pre : List Nat) (ρ : Ev),x = pre ++ l → ρ.v 11 = some (.str x) → ρ.v 32 = some (.str kind) →
      (∀ (b : Addr) (ρ' : Ev) (G' : Hp),Ext G G' → G' b = some (.tuple [.int ((tailG kind l).1 : Nat),.str (tailG kind l).2]) → K (.ret (.ref b)) ρ' G') →
      (∀ ρ' : Ev,ρ'.v 32 = some (.str kind) → tailG kind l = (0,kind) → K .next ρ' G) →
      overItems (fun ρ Q H => Ss.wp tbl (callP tbl (m + 1)) lp_law_tail_0 ρ Q H) 90 st K (intsR pre.length l.length) ρ G := by
  intro l
  induction l with
  | nil =>
    intro pre ρ hx h11 h32 hR h
    exact ⟨hst,h _ h32 rfl⟩
  | cons c l ih =>
    intro pre ρ hx h11 h32 hR h
    rw [List.length_cons,intsR_cons]
    refine ⟨hst,?_⟩
    have hlt : pre.length < x.length := by rw [hx]; simp
    have hxd : x.drop pre.length = c :: l := by rw [hx]; simp
    refine tail_turn (i := pre.length) (kind := kind) hlt hl hkl (by simpa [put_v,put_c,cel_v,cel_c,bT,bF,Nat.reduceBEq] using h11) (by simpa [put_v,put_c,cel_v,cel_c,bT,bF,Nat.reduceBEq] using h32) (by simp [put_v,bT]) (fun z b ρ' G' hE hb => ?_) fun z ρ' a11 a32 => ?_
    · rw [hxd] at z hb
      refine hR b ρ' G' hE ?_
      unfold tailG
      rw [if_pos z]; exact hb
    · rw [hxd] at z
      have e4 : tailG kind (c :: l) = tailG kind l := by
        conv => lhs; unfold tailG
        rw [if_neg z]
      rw [e4] at hR h
      have e3 : (((pre ++ [c]).length : Nat) : Int) = (pre.length : Int) + 1 := by simp
      have := ih (pre ++ [c]) ρ' (by simp [hx]) a11 a32 hR h
      rw [e3] at this
      exact this
private theorem ltail_c {x kind : List Nat} (hl : x.length ≤ 1000) (hkl : kind.length ≤ 100) (h : ∀ b H',Ext H H' → H' b = some (.tuple [.int ((tailP x kind).1 : Nat),.str (tailP x kind).2]) → Q (.ref b) H') : callP tbl (n + 2) 564 [.str x,.str kind] Q H := by
  rw [callP_at fn_law_tail]; simp only [bP0,bP1,kPe,en0,↓fWe,↓ss_cons,↓s_ite,↓x_str,↓x_loc,↓x_isin,↓x_list,↓f28e,↓f29e,↓f41e,↓f45e,↓f46e,↓xs_nil,↓xs_cons,put_v,bT,bF,Nat.reduceBEq,emp_v,fd_law_tail,b_law_tail,kOe]
  refine ⟨by simp [big],fun a ha => ?_⟩
  have e1 : isinD (H.set a (.list [.str [100,97,116,97],.str [80,76,65,73,78,84,69,88,84]])) (.str kind) (.ref a) = some (decide (kind ∈ [[100,97,116,97],[80,76,65,73,78,84,69,88,84]])) := by
    simp [isinD,isinA,set_self,nodesOf]
  have hE := Ext.set ha (O := .list [.str [100,97,116,97],.str [80,76,65,73,78,84,69,88,84]])
  simp only [e1,Bool.bne_false,↓f57e,k28e]
  generalize H.set a (.list [.str [100,97,116,97],.str [80,76,65,73,78,84,69,88,84]]) = G at hE
  unfold tailP at h
  by_cases q : kind ∈ [[100,97,116,97],[80,76,65,73,78,84,69,88,84]]
  · simp only [decide_eq_true q,↓x_int,↓x_loc,↓f42e,↓x_tuple,↓xs_nil,↓f45e,↓f46e,↓xs_cons,↓f56e,↓s_ret,↓ss_cons,put_v,bT,bF,Nat.reduceBEq,emp_v,↓f59r,↓fCr,kOe,k57t]
    rw [if_pos q] at h
    exact ⟨by simp [big],fun b hb => h b _ (hE.trans (Ext.set hb)) set_self⟩
  · simp only [decide_eq_false q,↓x_none,↓x_int,↓x_loc,↓x_cmp,↓f32e,↓x_neg,↓f38e,↓f39e,↓f40e,↓x_slice,↓s_ite,↓ss_nil,↓f59e,↓ss_cons,put_v,bT,bF,Nat.reduceBEq,emp_v,kOe,k57f]
    rw [if_neg q] at h
    have e2 : sliceS x (.int (-1)) .none = some (x.drop (x.length - 1)) := by
      simp only [slNN,slNI,slIN,slII,clampI,Option.some.injEq]
      rw [if_pos (by lia)]
      congr 2; lia
    simp only [e2,↓x_str,↓f23e,↓f24e,↓f57e,c_eq_ss,kBe,k38e]
    refine ⟨by unfold big; lia,?_⟩
    by_cases q2 : x.drop (x.length - 1) = [60]
    · rw [if_pos q2] at h
      simp only [Nat.reduceAdd,decide_eq_true q2,List.length_cons,List.length_nil,↓x_int,↓x_str,↓x_loc,↓f33e,↓f34e,↓x_bin,↓x_tuple,↓f46e,↓xs_cons,↓s_ret,↓ss_cons,put_v,bT,bF,Nat.reduceBEq,emp_v,b_add_ss,kOe,k57t]
      rw [if_pos (by unfold big; lia)]
      exact ⟨by simp [big],fun b hb => h b _ (hE.trans (Ext.set hb)) set_self⟩
    · rw [if_neg q2] at h
      simp only [decide_eq_false q2,↓x_loc,↓f8e,↓x_len,↓f14e,↓x_range1,↓f58e,↓s_for_,↓ss_nil,↓f59e,↓ss_cons,put_v,bT,bF,Nat.reduceBEq,emp_v,kOe,k57f]
      refine ⟨by unfold big; lia,⟨⟨by lia,by unfold big; lia⟩,fun r hr => ?_⟩⟩
      simp only [itemsOf,set_self]
      rw [if_pos ⟨by lia,by unfold big; lia,by lia,by unfold big; lia⟩]
      simp only [k58e]
      have hE2 := hE.trans (Ext.set hr (O := .range 0 x.length))
      generalize G.set r (.range 0 x.length) = G2 at hE2
      rw [show ((x.length : Int) - 0).toNat = x.length by lia]
      show overItems _ _ _ _ (intsR ((([] : List Nat).length : Nat) : Int) x.length) _ _
      refine tail_loop (r := r) hl hkl (show G2 r = G2 r from rfl) x [] _ rfl (by simp) (by simp) (fun b ρ' G' hE3 hb => h b G' (hE2.trans hE3) hb) fun ρ' a32 e => ?_
      simp only [↓ss_cons,↓s_ret,↓x_int,↓x_loc,↓x_tuple,↓f42e,↓f45e,↓f46e,↓f56e,↓f59e,↓xs_nil,↓xs_cons,a32,↓f59r,↓fCr,kOe]
      refine ⟨by simp [big],fun b hb => h b _ (hE2.trans (Ext.set hb)) ?_⟩
      rw [e]; exact set_self
end
end Mine
end
section
open PySem
namespace Mine
section
variable {P H : Hp} {n : Nat} {Q : K1}
noncomputable abbrev St3 := Nat × Nat × List Nat
noncomputable def stopE (last : List Nat) (i : Nat) (r : List Nat) : Option St3 :=
  if (r.drop 2).takeWhile isLet ≠ [] ∧ foldP ((r.drop 2).takeWhile isLet) = last ∧ behindP (((r.drop 2).drop ((r.drop 2).takeWhile isLet).length).take 1) ≠ [] then
    some (i,i + 2 + ((r.drop 2).takeWhile isLet).length + 1,behindP (((r.drop 2).drop ((r.drop 2).takeWhile isLet).length).take 1)) else none
noncomputable def stopS (kind last : List Nat) (i : Nat) (r : List Nat) : Option St3 :=
  if r.take 1 = [38] ∧ kind ∈ [[100,97,116,97],[82,67,68,65,84,65]] then some (i,i + 1,[99,104,97,114,97,99,116,101,114,32,114,101,102,101,114,101,110,99,101])
  else if r.take 1 ≠ [60] ∨ kind = [80,76,65,73,78,84,69,88,84] then none
  else if kind = [100,97,116,97] then some (i,i + 1,[116,97,103,32,111,112,101,110])
  else if kind = [115,99,114,105,112,116,32,100,97,116,97] ∧ (r.drop 1).take 1 = [33] then some (i + 2,i + 2,[115,99,114,105,112,116,32,100,97,116,97,32,101,115,99,97,112,101,32,115,116,97,114,116])
  else if (r.drop 1).take 1 = [47] then stopE last i r else none
noncomputable def stopG (kind last : List Nat) : Nat → List Nat → Option St3
  | _,[] => none
  | i,c :: r => match stopS kind last i (c :: r) with
    | some t => some t
    | none => stopG kind last (i + 1) r
noncomputable def stopD : Option St3 → List D
  | some (a,b,s) => [.int (a : Nat),.int (b : Nat),.str s]
  | none => [.int (-1),.int (-1),.str []]
private theorem take1 {x : List Nat} {i : Nat} (h : i < x.length) : (x.drop i).take 1 = [x[i]] := by
  rw [List.drop_eq_getElem_cons h]; rfl
private theorem behind_nil : behindP [] = [] := by decide
private theorem stop_A {C : CallT} {x kind : List Nat} {ρ : Ev} {G : Hp} {i : Nat} {K : K2} {tl : Ss} (hi : i < x.length) (hl : x.length ≤ 1000) (h11 : ρ.v 11 = some (.str x)) (h32 : ρ.v 32 = some (.str kind)) (h90 : ρ.v 90 = some (.int i))
    (hR : ([x[i]] = [38] ∧ kind ∈ [[100,97,116,97],[82,67,68,65,84,65]]) → ∀ (b : Addr) (G' : Hp),Ext G G' → G' b = some (.tuple [.int i,.int ((i + 1 : Nat) : Int),.str [99,104,97,114,97,99,116,101,114,32,114,101,102,101,114,101,110,99,101]]) → K (.ret (.ref b)) ρ G')
    (hN : ¬ ([x[i]] = [38] ∧ kind ∈ [[100,97,116,97],[82,67,68,65,84,65]]) → ∀ G' : Hp,Ext G G' → Ss.wp tbl C tl ρ K G') :
    Ss.wp tbl C (.cons (.ite (.bop true (.cons (.cmp .eq (.sub (.loc 11) (.loc 90)) (.str [38])) (.cons (.isin false (.loc 32) (.list (.cons (.str [100,97,116,97]) (.cons (.str [82,67,68,65,84,65]) (.nil))))) (.nil)))) (.cons (.ret (.tuple (.cons (.loc 90) (.cons (.bin .add (.loc 90) (.int 1)) (.cons (.str [99,104,97,114,97,99,116,101,114,32,114,101,102,101,114,101,110,99,101]) (.nil)))))) .nil) .nil) tl) ρ K G := by
  have e0 : ∀ {H : Hp},subs H (.str x) (.int i) = some (.str [x[i]]) := sub_str hi hl
  have e1 : ((i : Int) + 1) = ((i + 1 : Nat) : Int) := by lia
  by_cases q0 : [x[i]] = [38]
  · simp only [↓x_str,↓x_loc,↓f23e,↓f24e,↓x_cmp,↓f28e,↓f29e,↓x_isin,↓x_bop,↓f36e,↓f37e,↓x_sub,↓f41e,↓x_list,↓xs_nil,↓f45e,↓f46e,↓xs_cons,↓f47e,↓xb_cons,↓s_ite,↓ss_cons,c_eq_ss,h11,h32,h90,e0,decide_eq_true q0,kOe,kBe,k47tt]
    refine ⟨by simp [big],fun a ha => ?_⟩
    have hE := Ext.set ha (O := .list [.str [100,97,116,97],.str [82,67,68,65,84,65]])
    have e3 : isinD (G.set a (.list [.str [100,97,116,97],.str [82,67,68,65,84,65]])) (.str kind) (.ref a) = some (decide (kind ∈ [[100,97,116,97],[82,67,68,65,84,65]])) := by
      simp [isinD,isinA,set_self,nodesOf]
    simp only [e3,Bool.bne_false,↓f47e,k28e]
    by_cases qk : kind ∈ [[100,97,116,97],[82,67,68,65,84,65]]
    · simp only [decide_eq_true qk,e1,h90,↓x_int,↓x_str,↓x_loc,↓f30e,↓f33e,↓f34e,↓x_bin,↓f42e,↓x_tuple,↓xs_nil,↓f45e,↓f46e,↓xs_cons,↓xb_nil,↓f56e,↓s_ret,↓f57e,↓ss_cons,b_add_ii,↓f59r,kOe,k33e,k47tt,k57t]
      exact ⟨by simp [big],fun b hb => hR ⟨q0,qk⟩ b _ (hE.trans (Ext.set hb)) set_self⟩
    · simp only [decide_eq_false qk,↓f30e,↓f57e,↓ss_nil,↓f59e,k47tf,k57f]
      exact hN (fun z => qk z.2) _ hE
  · simp only [↓x_str,↓x_loc,↓f23e,↓f24e,↓x_cmp,↓f30e,↓x_bop,↓f36e,↓f37e,↓x_sub,↓f47e,↓xb_cons,↓f57e,↓s_ite,↓ss_nil,↓f59e,↓ss_cons,c_eq_ss,h11,h90,e0,decide_eq_false q0,kOe,kBe,k47tf,k57f]
    exact hN (fun z => q0 z.1) G (Ext.refl _)
private theorem stop_B {C : CallT} {x kind : List Nat} {ρ : Ev} {G : Hp} {i : Nat} {K : K2} {tl : Ss} (hi : i < x.length) (hl : x.length ≤ 1000) (h11 : ρ.v 11 = some (.str x)) (h32 : ρ.v 32 = some (.str kind)) (h90 : ρ.v 90 = some (.int i))
    (hR : ([x[i]] ≠ [60] ∨ kind = [80,76,65,73,78,84,69,88,84]) → K .cont ρ G)
    (hN : ¬ ([x[i]] ≠ [60] ∨ kind = [80,76,65,73,78,84,69,88,84]) → Ss.wp tbl C tl ρ K G) :
    Ss.wp tbl C (.cons (.ite (.bop false (.cons (.cmp .ne (.sub (.loc 11) (.loc 90)) (.str [60])) (.cons (.cmp .eq (.loc 32) (.str [80,76,65,73,78,84,69,88,84])) (.nil)))) (.cons .cont .nil) .nil) tl) ρ K G := by
  have e0 : ∀ {H : Hp},subs H (.str x) (.int i) = some (.str [x[i]]) := sub_str hi hl
  by_cases q2 : [x[i]] = [60]
  · by_cases q3 : kind = [80,76,65,73,78,84,69,88,84]
    · simp only [↓x_str,↓x_loc,↓f23e,↓f24e,↓x_cmp,↓f30e,↓x_bop,↓f36e,↓f37e,↓x_sub,↓f47e,↓xb_cons,↓f57e,↓s_ite,↓s_cont,↓ss_cons,c_eq_ss,c_ne_ss,Bool.not_true,h11,h32,h90,e0,decide_eq_true q2,decide_eq_true q3,↓f23s,↓f59c,kOe,kBe,k47ff,k47ft,k57t]
      exact hR (.inr q3)
    · simp only [↓x_str,↓x_loc,↓f23e,↓f24e,↓x_cmp,↓f30e,↓x_bop,↓f36e,↓f37e,↓x_sub,↓xb_nil,↓f47e,↓xb_cons,↓f57e,↓s_ite,↓ss_nil,↓f59e,↓ss_cons,c_eq_ss,c_ne_ss,Bool.not_true,h11,h32,h90,e0,decide_eq_true q2,decide_eq_false q3,↓f23s,kOe,kBe,k47ff,k57f]
      exact hN fun z => z.elim (fun z => z q2) q3
  · simp only [↓x_str,↓x_loc,↓f24e,↓x_cmp,↓f30e,↓x_bop,↓f36e,↓f37e,↓x_sub,↓f47e,↓xb_cons,↓f57e,↓s_ite,↓s_cont,↓ss_cons,c_ne_ss,Bool.not_false,h11,h90,e0,decide_eq_false q2,↓f23s,↓f59c,kOe,kBe,k47ft,k57t]
    exact hR (.inl q2)
private theorem stop_C {C : CallT} {x kind : List Nat} {ρ : Ev} {G : Hp} {i : Nat} {K : K2} {tl : Ss} (h32 : ρ.v 32 = some (.str kind)) (h90 : ρ.v 90 = some (.int i))
    (hR : kind = [100,97,116,97] → ∀ (b : Addr) (G' : Hp),Ext G G' → G' b = some (.tuple [.int i,.int ((i + 1 : Nat) : Int),.str [116,97,103,32,111,112,101,110]]) → K (.ret (.ref b)) ρ G')
    (hN : kind ≠ [100,97,116,97] → Ss.wp tbl C tl ρ K G) :
    Ss.wp tbl C (.cons (.ite (.cmp .eq (.loc 32) (.str [100,97,116,97])) (.cons (.ret (.tuple (.cons (.loc 90) (.cons (.bin .add (.loc 90) (.int 1)) (.cons (.str [116,97,103,32,111,112,101,110]) (.nil)))))) .nil) .nil) tl) ρ K G := by
  have e1 : ((i : Int) + 1) = ((i + 1 : Nat) : Int) := by lia
  by_cases q4 : kind = [100,97,116,97]
  · simp only [↓x_int,↓x_str,↓x_loc,↓f23e,↓f24e,↓x_cmp,↓f33e,↓f34e,↓x_bin,↓f42e,↓x_tuple,↓xs_nil,↓f45e,↓f46e,↓xs_cons,↓f56e,↓s_ret,↓f57e,↓s_ite,↓ss_cons,c_eq_ss,b_add_ii,h32,h90,decide_eq_true q4,e1,↓f59r,kOe,kBe,k33e,k57t]
    exact ⟨by simp [big],fun b hb => hR q4 b _ (Ext.set hb) set_self⟩
  · simp only [↓x_str,↓x_loc,↓f23e,↓f24e,↓x_cmp,↓f57e,↓s_ite,↓ss_nil,↓f59e,↓ss_cons,c_eq_ss,h32,decide_eq_false q4,kOe,kBe,k57f]
    exact hN q4
private theorem stop_D {C : CallT} {x kind : List Nat} {ρ : Ev} {G : Hp} {i : Nat} {K : K2} {tl : Ss} (hl : x.length ≤ 1000) (h11 : ρ.v 11 = some (.str x)) (h32 : ρ.v 32 = some (.str kind)) (h90 : ρ.v 90 = some (.int i))
    (hR : (kind = [115,99,114,105,112,116,32,100,97,116,97] ∧ ((x.drop i).drop 1).take 1 = [33]) → ∀ (b : Addr) (G' : Hp),Ext G G' → G' b = some (.tuple [.int ((i + 2 : Nat) : Int),.int ((i + 2 : Nat) : Int),.str [115,99,114,105,112,116,32,100,97,116,97,32,101,115,99,97,112,101,32,115,116,97,114,116]]) → K (.ret (.ref b)) ρ G')
    (hN : ¬ (kind = [115,99,114,105,112,116,32,100,97,116,97] ∧ ((x.drop i).drop 1).take 1 = [33]) → Ss.wp tbl C tl ρ K G) :
    Ss.wp tbl C (.cons (.ite (.bop true (.cons (.cmp .eq (.loc 32) (.str [115,99,114,105,112,116,32,100,97,116,97])) (.cons (.cmp .eq (.slice (.loc 11) (.bin .add (.loc 90) (.int 1)) (.bin .add (.loc 90) (.int 2))) (.str [33])) (.nil)))) (.cons (.ret (.tuple (.cons (.bin .add (.loc 90) (.int 2)) (.cons (.bin .add (.loc 90) (.int 2)) (.cons (.str [115,99,114,105,112,116,32,100,97,116,97,32,101,115,99,97,112,101,32,115,116,97,114,116]) (.nil)))))) .nil) .nil) tl) ρ K G := by
  have e1 : ((i : Int) + 1) = ((i + 1 : Nat) : Int) := by lia
  have e2 : ((i : Int) + 2) = ((i + 2 : Nat) : Int) := by lia
  have s1 : (x.take (i + 2)).drop (i + 1) = ((x.drop i).drop 1).take 1 := by
    rw [List.drop_take,List.drop_drop]; congr 1; lia
  by_cases q7 : kind = [115,99,114,105,112,116,32,100,97,116,97]
  · by_cases q8 : ((x.drop i).drop 1).take 1 = [33]
    · simp only [↓x_int,↓x_str,↓x_loc,↓f23e,↓f24e,↓x_cmp,↓f30e,↓x_bop,↓f33e,↓f34e,↓x_bin,↓f38e,↓f39e,↓f40e,↓x_slice,↓f42e,↓x_tuple,↓xs_nil,↓f45e,↓f46e,↓xs_cons,↓xb_nil,↓f47e,↓xb_cons,↓f56e,↓s_ret,↓f57e,↓s_ite,↓ss_cons,c_eq_ss,b_add_ii,h11,h32,h90,decide_eq_true q7,decide_eq_true q8,e1,e2,slice_nn,s1,↓f59r,kOe,kBe,k33e,k38e,k47tt,k57t]
      exact ⟨by unfold big; lia,by simp [big],fun b hb => hR ⟨q7,q8⟩ b _ (Ext.set hb) set_self⟩
    · simp only [↓x_int,↓x_str,↓x_loc,↓f23e,↓f24e,↓x_cmp,↓f30e,↓x_bop,↓f33e,↓f34e,↓x_bin,↓f38e,↓f39e,↓f40e,↓x_slice,↓f47e,↓xb_cons,↓f57e,↓s_ite,↓ss_nil,↓f59e,↓ss_cons,c_eq_ss,b_add_ii,h11,h32,h90,decide_eq_true q7,decide_eq_false q8,e1,e2,slice_nn,s1,kOe,kBe,k33e,k38e,k47tt,k47tf,k57f]
      exact ⟨by unfold big; lia,hN fun z => q8 z.2⟩
  · simp only [↓x_str,↓x_loc,↓f23e,↓f24e,↓x_cmp,↓f30e,↓x_bop,↓f47e,↓xb_cons,↓f57e,↓s_ite,↓ss_nil,↓f59e,↓ss_cons,c_eq_ss,h32,decide_eq_false q7,kOe,kBe,k47tf,k57f]
    exact hN fun z => q7 z.1
private theorem stop_E {m : Nat} {x kind last : List Nat} {ρ : Ev} {G : Hp} {i : Nat} {K : K2} (hi : i < x.length) (hl : x.length ≤ 1000) (h11 : ρ.v 11 = some (.str x)) (h32 : ρ.v 32 = some (.str kind)) (h16 : ρ.v 16 = some (.str last)) (h90 : ρ.v 90 = some (.int i))
    (hR : ∀ t,(if ((x.drop i).drop 1).take 1 = [47] then stopE last i (x.drop i) else none) = some t → ∀ (b : Addr) (ρ' : Ev) (G' : Hp),Ext G G' → G' b = some (.tuple (stopD (some t))) → K (.ret (.ref b)) ρ' G')
    (hN : (if ((x.drop i).drop 1).take 1 = [47] then stopE last i (x.drop i) else none) = none → ∀ (ρ' : Ev) (G' : Hp),Ext G G' → ρ'.v 11 = some (.str x) → ρ'.v 32 = some (.str kind) → ρ'.v 16 = some (.str last) → K .next ρ' G') :
    Ss.wp tbl (callP tbl (m + 1)) (.cons (.ite (.cmp .eq (.slice (.loc 11) (.bin .add (.loc 90) (.int 1)) (.bin .add (.loc 90) (.int 2))) (.str [47])) (.cons (.assign 91 (.call (.glo 94) (.cons (.loc 11) (.cons (.bin .add (.loc 90) (.int 2)) (.nil))))) (.cons (.assign 28 (.bin .add (.bin .add (.loc 90) (.int 2)) (.len (.loc 91)))) (.cons (.ite (.bop true (.cons (.cmp .ne (.loc 91) (.str [])) (.cons (.cmp .eq (.call (.glo 92) (.cons (.loc 91) (.nil))) (.loc 16)) (.cons (.cmp .ne (.call (.glo 93) (.cons (.slice (.loc 11) (.loc 28) (.bin .add (.loc 28) (.int 1))) (.nil))) (.str [])) (.nil))))) (.cons (.ret (.tuple (.cons (.loc 90) (.cons (.bin .add (.loc 28) (.int 1)) (.cons (.call (.glo 93) (.cons (.sub (.loc 11) (.loc 28)) (.nil))) (.nil)))))) .nil) .nil) .nil))) .nil) .nil) ρ K G := by
  have e1 : ((i : Int) + 1) = ((i + 1 : Nat) : Int) := by lia
  have e2 : ((i : Int) + 2) = ((i + 2 : Nat) : Int) := by lia
  have s1 : (x.take (i + 2)).drop (i + 1) = ((x.drop i).drop 1).take 1 := by
    rw [List.drop_take,List.drop_drop]; congr 1; lia
  by_cases q6 : ((x.drop i).drop 1).take 1 = [47]
  · rw [if_pos q6] at hR hN
    have hlen : i + 2 ≤ x.length := by
      have := congrArg List.length q6
      rw [List.length_take,List.length_drop,List.length_drop] at this
      simp at this; lia
    unfold stopE at hR hN
    have d2 : (x.drop i).drop 2 = x.drop (i + 2) := by rw [List.drop_drop]
    rw [d2] at hR hN
    simp only [↓x_int,↓x_str,↓x_loc,↓x_glo,↓f2e,↓f5e,↓x_call,↓f23e,↓f24e,↓x_cmp,↓f33e,↓f34e,↓x_bin,↓f38e,↓f39e,↓f40e,↓x_slice,↓xs_nil,↓f45e,↓f46e,↓xs_cons,↓s_assign,↓f57e,↓s_ite,↓ss_cons,c_eq_ss,b_add_ii,glo_94,h11,h90,e1,e2,slice_nn,s1,decide_eq_true q6,fn_law_run,kOe,kBe,k5e,k33e,k38e,k57t]
    refine ⟨by unfold big; lia,?_⟩
    refine lrun_c hlen hl ?_
    have htl := tw_len (x := x.drop (i + 2))
    have hbc : ∀ c ∈ (x.drop (i + 2)).takeWhile isLet,c < 1000 := tw_let
    have hdl : (x.drop (i + 2)).length = x.length - (i + 2) := by rw [List.length_drop]
    generalize hb : (x.drop (i + 2)).takeWhile isLet = b at hR hN htl hbc
    rw [show (x.drop (i + 2)).drop b.length = x.drop (i + 2 + b.length) by rw [List.drop_drop]] at hR hN
    have e3 : (((i + 2 : Nat) : Int) + (b.length : Int)) = ((i + 2 + b.length : Nat) : Int) := by lia
    have e4 : (((i + 2 + b.length : Nat) : Int) + 1) = ((i + 2 + b.length + 1 : Nat) : Int) := by lia
    have s2 : (x.take (i + 2 + b.length + 1)).drop (i + 2 + b.length) = (x.drop (i + 2 + b.length)).take 1 := by
      rw [List.drop_take]; congr 1; lia
    simp only [↓x_int,↓x_str,↓x_loc,↓f8e,↓x_len,↓f24e,↓x_cmp,↓x_bop,↓f33e,↓f34e,↓x_bin,↓f47e,↓xb_cons,↓f49e,↓s_assign,↓s_ite,↓f59e,↓ss_cons,put_v,bT,bF,Nat.reduceBEq,c_ne_ss,b_add_ii,h90,e2,e3,↓f23s,kOe,kBe,k33e]
    refine ⟨by unfold big; lia,?_⟩
    have no : ∀ {G2 : Hp},Ext G G2 → ¬ (b ≠ [] ∧ foldP b = last ∧ behindP ((x.drop (i + 2 + b.length)).take 1) ≠ []) → K .next ((ρ.put 91 (.str b)).put 28 (.int ((i + 2 + b.length : Nat) : Int))) G2 := fun hE2 z => by
      rw [if_neg z] at hN
      exact hN rfl _ _ hE2 (by simpa [put_v,put_c,cel_v,cel_c,bT,bF,Nat.reduceBEq] using h11) (by simpa [put_v,put_c,cel_v,cel_c,bT,bF,Nat.reduceBEq] using h32) (by simpa [put_v,put_c,cel_v,cel_c,bT,bF,Nat.reduceBEq] using h16)
    by_cases q7 : b = []
    · simp only [Bool.not_true,decide_eq_true q7,↓f30e,↓f57e,↓ss_nil,↓f59e,k47tf,k57f]
      exact no (Ext.refl _) fun z => z.1 q7
    simp only [Bool.not_false,decide_eq_false q7,fn_law_fold,↓x_loc,↓x_glo,↓f2e,↓f5e,↓x_call,↓x_cmp,↓xs_nil,↓f45e,↓f46e,↓xs_cons,↓xb_cons,put_v,bT,bF,Nat.reduceBEq,glo_92,kOe,k5e,k47tt]
    refine lfold_c hbc (by lia) fun G2 hE2 => ?_
    by_cases q8 : foldP b = last
    · simp only [↓x_int,↓x_loc,↓x_glo,↓f2e,↓f5e,↓x_call,↓f23e,↓f24e,↓x_cmp,↓f33e,↓f34e,↓x_bin,↓f38e,↓f39e,↓f40e,↓x_slice,↓xs_nil,↓f45e,↓f46e,↓xs_cons,↓f47e,↓xb_cons,c_eq_ss,b_add_ii,glo_93,h16,slice_nn,decide_eq_true q8,h11,e4,s2,fn_law_behind,kOe,kBe,k5e,k33e,k38e,k47tt,put_v,bT,bF,Nat.reduceBEq]
      refine ⟨by unfold big; lia,lbehind_c fun G3 hE3 => ?_⟩
      by_cases q9 : behindP ((x.drop (i + 2 + b.length)).take 1) = []
      · simp only [↓x_str,↓f24e,↓f30e,↓f47e,↓f57e,↓ss_nil,↓f59e,c_ne_ss,Bool.not_true,decide_eq_true q9,↓f23s,kBe,k47tf,k57f]
        exact no (hE2.trans hE3) fun z => z.2.2 q9
      · have hlt : i + 2 + b.length < x.length := by
          refine Nat.lt_of_not_le fun z => q9 ?_
          rw [List.drop_eq_nil_of_le z]; exact behind_nil
        have t2 := take1 hlt
        rw [if_pos ⟨q7,q8,q9⟩] at hR
        simp only [↓x_int,↓x_str,↓x_loc,↓x_glo,↓f2e,↓f5e,↓x_call,↓f24e,↓f30e,↓f33e,↓f34e,↓x_bin,↓f36e,↓f37e,↓x_sub,↓x_tuple,↓xs_nil,↓f45e,↓f46e,↓xs_cons,↓xb_nil,↓f47e,↓s_ret,↓f57e,↓ss_cons,c_ne_ss,b_add_ii,Bool.not_false,glo_93,decide_eq_false q9,h90,h11,sub_str hlt hl,fn_law_behind,e4,↓f23s,kOe,kBe,k5e,k33e,k47tt,k57t,put_v,bT,bF,Nat.reduceBEq]
        refine lbehind_c fun G4 hE4 => ⟨by simp [big],fun b2 hb2 => ?_⟩
        refine hR _ rfl b2 _ _ (hE2.trans (hE3.trans (hE4.trans (Ext.set hb2)))) ?_
        rw [set_self,t2]; rfl
    · simp only [↓x_loc,↓f23e,↓f24e,↓f30e,↓f47e,↓f57e,↓ss_nil,↓f59e,c_eq_ss,h16,decide_eq_false q8,kOe,kBe,k47tf,k57f,put_v,bF,Nat.reduceBEq]
      exact no hE2 fun z => q8 z.2.1
  · rw [if_neg q6] at hN
    simp only [↓x_int,↓x_str,↓x_loc,↓f23e,↓f24e,↓x_cmp,↓f33e,↓f34e,↓x_bin,↓f38e,↓f39e,↓f40e,↓x_slice,↓f57e,↓s_ite,↓ss_nil,↓f59e,↓ss_cons,c_eq_ss,b_add_ii,h11,h90,e1,e2,slice_nn,s1,decide_eq_false q6,kOe,kBe,k33e,k38e,k57f]
    exact ⟨by unfold big; lia,hN rfl ρ G (Ext.refl _) h11 h32 h16⟩
private theorem stop_turn {m : Nat} {x kind last : List Nat} {ρ : Ev} {G : Hp} {i : Nat} {K : K2} (hi : i < x.length) (hl : x.length ≤ 1000) (h11 : ρ.v 11 = some (.str x)) (h32 : ρ.v 32 = some (.str kind)) (h16 : ρ.v 16 = some (.str last)) (h90 : ρ.v 90 = some (.int i))
    (hR : ∀ t,stopS kind last i (x.drop i) = some t → ∀ (b : Addr) (ρ' : Ev) (G' : Hp),Ext G G' → G' b = some (.tuple (stopD (some t))) → K (.ret (.ref b)) ρ' G')
    (hN : stopS kind last i (x.drop i) = none → ∀ (fl : Fl) (ρ' : Ev) (G' : Hp),fl = .next ∨ fl = .cont → Ext G G' → ρ'.v 11 = some (.str x) → ρ'.v 32 = some (.str kind) → ρ'.v 16 = some (.str last) → K fl ρ' G') : Ss.wp tbl (callP tbl (m + 1)) lp_law_stop_0 ρ K G := by
  have t1 := take1 hi
  unfold stopS at hR hN
  rw [t1] at hR hN
  unfold lp_law_stop_0
  refine stop_A hi hl h11 h32 h90 (fun z b G' hE hb => ?_) fun z G1 hE1 => ?_
  · rw [if_pos z] at hR
    exact hR _ rfl b ρ G' hE hb
  rw [if_neg z] at hR hN
  refine stop_B hi hl h11 h32 h90 (fun z => ?_) fun z => ?_
  · rw [if_pos z] at hN
    exact hN rfl .cont ρ G1 (.inr rfl) hE1 h11 h32 h16
  rw [if_neg z] at hR hN
  refine stop_C (x := x) h32 h90 (fun z b G' hE hb => ?_) fun z => ?_
  · rw [if_pos z] at hR
    exact hR _ rfl b ρ G' (hE1.trans hE) hb
  rw [if_neg z] at hR hN
  refine stop_D hl h11 h32 h90 (fun z b G' hE hb => ?_) fun z => ?_
  · rw [if_pos z] at hR
    exact hR _ rfl b ρ G' (hE1.trans hE) hb
  rw [if_neg z] at hR hN
  exact stop_E hi hl h11 h32 h16 h90 (fun t ht b ρ' G' hE hb => hR t ht b ρ' G' (hE1.trans hE) hb) fun z ρ' G' hE a b c => hN z .next ρ' G' (.inl rfl) (hE1.trans hE) a b c
private theorem stop_loop {m : Nat} {x kind last : List Nat} {H0 : Hp} {r : Addr} {st : Hp → Prop} {K : K2} (hl : x.length ≤ 1000) {R : AO} (hst : ∀ H',H' r = some R → st H') :
    ∀ (l pre : List Nat) (ρ : Ev) (G : Hp),x = pre ++ l → Ext H0 G → ρ.v 11 = some (.str x) → ρ.v 32 = some (.str kind) → ρ.v 16 = some (.str last) → G r = some R →
      (∀ t,stopG kind last pre.length l = some t → ∀ (b : Addr) (ρ' : Ev) (G' : Hp),Ext H0 G' → G' b = some (.tuple (stopD (some t))) → K (.ret (.ref b)) ρ' G') →
      (stopG kind last pre.length l = none → ∀ (ρ' : Ev) (G' : Hp),Ext H0 G' → K .next ρ' G') →
      overItems (fun ρ Q H => Ss.wp tbl (callP tbl (m + 1)) lp_law_stop_0 ρ Q H) 90 st K (intsR pre.length l.length) ρ G := by
  intro l
  induction l with
  | nil =>
    intro pre ρ G hx hE h11 h32 h16 hG hR hN
    exact ⟨hst _ hG,hN rfl _ _ hE⟩
  | cons c l ih =>
    intro pre ρ G hx hE h11 h32 h16 hG hR hN
    rw [List.length_cons,intsR_cons]
    refine ⟨hst _ hG,?_⟩
    have hlt : pre.length < x.length := by rw [hx]; simp
    have hxd : x.drop pre.length = c :: l := by rw [hx]; simp
    refine stop_turn (i := pre.length) hlt hl (by simpa [put_v,put_c,cel_v,cel_c,bT,bF,Nat.reduceBEq] using h11) (by simpa [put_v,put_c,cel_v,cel_c,bT,bF,Nat.reduceBEq] using h32) (by simpa [put_v,put_c,cel_v,cel_c,bT,bF,Nat.reduceBEq] using h16) (by simp [put_v,bT]) (fun t ht b ρ' G' hE' hb => ?_) fun z fl ρ' G' hfl hE' a11 a32 a16 => ?_
    · rw [hxd] at ht
      refine hR t ?_ b ρ' G' (hE.trans hE') hb
      unfold stopG
      rw [ht]
    · rw [hxd] at z
      have e4 : stopG kind last pre.length (c :: l) = stopG kind last (pre.length + 1) l := by
        conv => lhs; unfold stopG
        rw [z]
      rw [e4] at hR hN
      have e3 : (((pre ++ [c]).length : Nat) : Int) = (pre.length : Int) + 1 := by simp
      have e5 : (pre ++ [c]).length = pre.length + 1 := by simp
      have := ih (pre ++ [c]) ρ' G' (by simp [hx]) (hE.trans hE') a11 a32 a16 (hE' _ _ hG) (by rw [e5]; exact hR) (by rw [e5]; exact hN)
      rw [e3] at this
      rcases hfl with rfl | rfl <;> exact this
private theorem lstop_c {x kind last : List Nat} (hl : x.length ≤ 1000) (h : ∀ b H',Ext H H' → H' b = some (.tuple (stopD (stopG kind last 0 x))) → Q (.ref b) H') : callP tbl (n + 2) 557 [.str x,.str kind,.str last] Q H := by
  rw [callP_at fn_law_stop]; simp only [bP0,bP1,kPe,en0,↓fWe,↓x_loc,↓f8e,↓x_len,↓f14e,↓x_range1,↓f58e,↓s_for_,↓ss_cons,put_v,bT,bF,Nat.reduceBEq,emp_v,fd_law_stop,b_law_stop,kOe]
  refine ⟨by unfold big; lia,⟨⟨by lia,by unfold big; lia⟩,fun r hr => ?_⟩⟩
  simp only [itemsOf,set_self]
  rw [if_pos ⟨by lia,by unfold big; lia,by lia,by unfold big; lia⟩]
  simp only [k58e]
  have hE := Ext.set hr (O := .range 0 x.length)
  have hrr : (H.set r (.range 0 x.length)) r = some (.range 0 x.length) := set_self
  generalize H.set r (.range 0 x.length) = G at hE hrr
  rw [show ((x.length : Int) - 0).toNat = x.length by lia]
  show overItems _ _ _ _ (intsR ((([] : List Nat).length : Nat) : Int) x.length) _ _
  refine stop_loop (kind := kind) (last := last) (R := .range 0 x.length) (H0 := H) hl (fun H' q => by show H' r = G r; rw [q,hrr]) x [] _ G rfl hE (by simp) (by simp) (by simp) hrr (fun t ht b ρ' G' hE' hb => h b G' hE' (by
    have : stopG kind last 0 x = some t := ht
    rw [this]; exact hb)) fun z ρ' G' hE' => ?_
  have z' : stopG kind last 0 x = none := z
  rw [z'] at h
  exact ⟨by simp [big],fun b hb => h b _ (hE'.trans (Ext.set hb)) set_self⟩
end
end Mine
end
section
open PySem
namespace Mine
section
variable {P H : Hp} {n : Nat} {Q : K1}
structure Due where
  out : List Tr
  errs : List Tr
  at_ : Nat
  state : List Nat
  buffer : List Nat
  back : List Nat
  done : Bool
  draft : Option (List Nat)
  apt : Bool
noncomputable def dueT (d : Due) : Tr := .tuple [.list d.out,.list d.errs,.int d.at_,.str d.state,.str d.buffer,.str d.back,.bool d.done,drT d.draft,.bool d.apt]
noncomputable def aptL (last : List Nat) : Option (List Nat) → Bool
  | none => false
  | some nm => decide (nm = last)
noncomputable def toldB (kind last x : List Nat) (ended : Bool) : List Nat := match stopG kind last 0 x with
  | some (many,_,_) => x.take many
  | none => if ended = true then x else x.take (x.length - (tailP x kind).1)
noncomputable def dueB (kind last x : List Nat) (ended : Bool) : Due := match stopG kind last 0 x with
  | some (many,a,s) => { out := outP kind (toldB kind last x ended),errs := errP 0 (toldB kind last x ended),at_ := a,state := s,buffer := (leftP (x.take a) kind).1,back := if s = [99,104,97,114,97,99,116,101,114,32,114,101,102,101,114,101,110,99,101] then kind else [100,97,116,97],done := false,draft := (leftP (x.take a) kind).2,apt := aptL last (leftP (x.take a) kind).2 }
  | none => if ended = true then { out := outP kind (toldB kind last x ended) ++ [eofT],errs := errP 0 (toldB kind last x ended),at_ := x.length + 1,state := kind,buffer := (leftP x kind).1,back := [100,97,116,97],done := true,draft := (leftP x kind).2,apt := aptL last (leftP x kind).2 }
    else { out := outP kind (toldB kind last x ended),errs := errP 0 (toldB kind last x ended),at_ := x.length,state := (tailP x kind).2,buffer := (leftP x kind).1,back := [100,97,116,97],done := false,draft := (leftP x kind).2,apt := aptL last (leftP x kind).2 }
noncomputable def dueP (kind last x : List Nat) (ended : Bool) : Due := match stopG kind last 0 x with
  | some (many,a,s) => if s = [100,97,116,97] then
      { out := outP kind (x.take many) ++ [endT last] ++ (dueB [100,97,116,97] last (x.drop a) ended).out,errs := errP 0 (x.take many) ++ errP a (toldB [100,97,116,97] last (x.drop a) ended),at_ := a + (dueB [100,97,116,97] last (x.drop a) ended).at_,state := (dueB [100,97,116,97] last (x.drop a) ended).state,
        buffer := (leftP (x.take a) kind).1,back := (dueB [100,97,116,97] last (x.drop a) ended).back,done := (dueB [100,97,116,97] last (x.drop a) ended).done,draft := none,apt := false }
    else dueB kind last x ended
  | none => dueB kind last x ended
private theorem told_st {m : Nat} {y kind : List Nat} {ρ : Ev} {G : Hp} {K : K2} {tl : Ss} {E : X} (hE : ∀ {K : K1},K (.str y) G → E.wp tbl (callP tbl (m + 1)) ρ K G) (h32 : ρ.v 32 = some (.str kind)) (hl : y.length ≤ 1000)
    (h : ∀ o e G',Two G G' o e (outP kind y) (errP 0 y) → Ss.wp tbl (callP tbl (m + 1)) tl ((ρ.put 22 (.ref o)).put 7 (.ref e)) K G') :
    Ss.wp tbl (callP tbl (m + 1)) (.cons (.unpack [(false,22),(false,7)] (.call (.glo 96) (.cons E (.cons (.loc 32) (.nil))))) tl) ρ K G := by
  simp only [↓ss_cons,↓s_unpack,↓x_glo,↓x_call,↓f5e,↓xs_cons,glo_96,fn_law_told,kOe,k5e]
  refine hE ?_
  simp only [↓x_loc,↓f2e,↓f45e,↓f46e,↓xs_nil,↓xs_cons,h32,kOe]
  refine ltold_c hl fun b o e G' T hb => ?_
  simp only [↓f51e,↓f59e,hb,un0,unF,unT,k51e,k51be]
  exact ⟨⟨rfl,by simp⟩,h o e G' T⟩
private theorem left_st {m : Nat} {y kind : List Nat} {ρ : Ev} {G : Hp} {K : K2} {tl : Ss} {E : X} (hE : ∀ {K : K1},K (.str y) G → E.wp tbl (callP tbl (m + 2)) ρ K G) (h32 : ρ.v 32 = some (.str kind)) (hl : y.length ≤ 1000)
    (h : ∀ dd G',Ext G G' → Rd G' (drT (leftP y kind).2) dd → Ss.wp tbl (callP tbl (m + 2)) tl ((ρ.put 20 (.str (leftP y kind).1)).put 21 dd) K G') :
    Ss.wp tbl (callP tbl (m + 2)) (.cons (.unpack [(false,20),(false,21)] (.call (.glo 99) (.cons E (.cons (.loc 32) (.nil))))) tl) ρ K G := by
  simp only [↓ss_cons,↓s_unpack,↓x_glo,↓x_call,↓f5e,↓xs_cons,glo_99,fn_law_left,kOe,k5e]
  refine hE ?_
  simp only [↓x_loc,↓f2e,↓f45e,↓f46e,↓xs_nil,↓xs_cons,h32,kOe]
  refine lleft_c hl fun b dd G' hEx hb hd => ?_
  simp only [↓f51e,↓f59e,hb,un0,unF,unT,k51e,k51be]
  exact ⟨⟨rfl,by simp⟩,h dd G' hEx hd⟩
private theorem tail_st {m : Nat} {y kind : List Nat} {ρ : Ev} {G : Hp} {K : K2} {tl : Ss} (h11 : ρ.v 11 = some (.str y)) (h32 : ρ.v 32 = some (.str kind)) (hl : y.length ≤ 1000) (hk : kind.length ≤ 100)
    (h : ∀ G',Ext G G' → Ss.wp tbl (callP tbl (m + 2)) tl ((ρ.put 97 (.int ((tailP y kind).1 : Nat))).put 15 (.str (tailP y kind).2)) K G') :
    Ss.wp tbl (callP tbl (m + 2)) (.cons (.unpack [(false,97),(false,15)] (.call (.glo 98) (.cons (.loc 11) (.cons (.loc 32) (.nil))))) tl) ρ K G := by
  simp only [↓ss_cons,↓s_unpack,↓x_loc,↓x_glo,↓x_call,↓f2e,↓f5e,↓f45e,↓f46e,↓xs_nil,↓xs_cons,glo_98,fn_law_tail,h11,h32,kOe,k5e]
  refine ltail_c hl hk fun b G' hEx hb => ?_
  simp only [↓f51e,↓f59e,hb,un0,unF,unT,k51e,k51be]
  exact ⟨⟨rfl,by simp⟩,h G' hEx⟩
private theorem stop_st {m : Nat} {y kind last : List Nat} {ρ : Ev} {G H0 : Hp} {K : K2} {tl : Ss} {c : Addr} (h11 : ρ.v 11 = some (.str y)) (h32 : ρ.v 32 = some (.str kind)) (h16 : ρ.v 16 = some (.str last)) (hl : y.length ≤ 1000) (hc : ρ.c 24 = some c) (hcell : G c = some (.cell none)) (hE0 : Ext H0 G) (hc0 : H0 c = none)
    (h : ∀ G' d1 d2 d3,stopD (stopG kind last 0 y) = [d1,d2,d3] → Ext H0 G' → G' c = some (.cell (some d2)) → Ss.wp tbl (callP tbl (m + 2)) tl ((ρ.put 83 d1).put 15 d3) K G') :
    Ss.wp tbl (callP tbl (m + 2)) (.cons (.unpack [(false,83),(true,24),(false,15)] (.call (.glo 102) (.cons (.loc 11) (.cons (.loc 32) (.cons (.loc 16) (.nil)))))) tl) ρ K G := by
  simp only [↓ss_cons,↓s_unpack,↓x_loc,↓x_glo,↓x_call,↓f2e,↓f5e,↓f45e,↓f46e,↓xs_nil,↓xs_cons,glo_102,fn_law_stop,h11,h32,h16,kOe,k5e]
  refine lstop_c hl fun b G' hEx hb => ?_
  obtain ⟨d1,d2,d3,e⟩ : ∃ d1 d2 d3,stopD (stopG kind last 0 y) = [d1,d2,d3] := by
    cases stopG kind last 0 y with
    | none => exact ⟨_,_,_,rfl⟩
    | some t => obtain ⟨a,b,s⟩ := t; exact ⟨_,_,_,rfl⟩
  have hc' := hEx _ _ hcell
  have hcc : (ρ.put 83 d1).c 24 = some c := hc
  rw [e] at hb
  simp only [↓f51e,↓f59e,put_c,hb,un0,unF,unT,hc,hc',k51e,k51be]
  exact ⟨⟨rfl,by simp⟩,h _ d1 d2 d3 e (sub_set (hE0.trans hEx) hc0) set_self⟩
private theorem apt_x {C : CallT} {last : List Nat} {dr : Option (List Nat)} {dd : D} {ρ : Ev} {G : Hp} {K : K1} (h16 : ρ.v 16 = some (.str last)) (h21 : ρ.v 21 = some dd) (hd : Rd G (drT dr) dd) (h : K (.bool (aptL last dr)) G) :
    X.wp tbl C ρ (.bop true (.cons (.cmp .isnot (.loc 21) .none) (.cons (.cmp .eq (.sub (.loc 21) (.int 1)) (.loc 16)) (.nil)))) K G := by
  cases dr with
  | none =>
    obtain rfl := hd.invN
    simp only [↓x_none,↓x_loc,↓x_cmp,↓x_bop,↓f24e,↓f30e,↓f47e,↓xb_cons,c_isnot,Bool.not_true,h21,decide_true,↓f23isnot,kOe,kBe,k47tf]
    exact h
  | some nm =>
    obtain ⟨a,xs,rfl,ha,hr⟩ := hd.invT
    obtain ⟨d1,r1,rfl,k1,hr⟩ := hr.inv
    obtain ⟨d2,r2,rfl,k2,hr⟩ := hr.inv
    obtain rfl := k2.invS
    have e1 : subs G (.ref a) (.int 1) = some (.str nm) := by
      simp only [subs,ha]
      rw [if_pos ⟨by lia,by unfold big; lia⟩]; rfl
    have e2 : decide (D.ref a = D.none) = false := by simp
    simp only [↓x_none,↓x_int,↓x_loc,↓x_cmp,↓x_bop,↓x_sub,↓f23e,↓f24e,↓f36e,↓f37e,↓f47e,↓xb_cons,c_eq_ss,c_isnot,reduceCtorEq,h16,h21,e1,↓f23isnot,kOe,kBe,k47tt,Bool.not_false,decide_false]
    unfold aptL at h
    by_cases q : nm = last
    · simp only [decide_eq_true q] at h ⊢
      exact h
    · simp only [decide_eq_false q] at h ⊢
      exact h
end
end Mine
end
section
open PySem
namespace Mine
section
variable {P H : Hp} {n : Nat} {Q : K1}
private theorem due_comp {C : CallT} {ρc : Ev} {c : Addr} {a : Nat} {G0 : Hp} {stand : Hp → Prop} {Qc : List D → Hp → Prop} (hc : ρc.c 24 = some c) (hst : ∀ G',Ext G0 G' → stand G') :
    ∀ (y : List Nat) (i : Nat) (xs acc : List D) (T : List Tr) (G : Hp),Ext G0 G → G c = some (.cell (some (.int (a : Int)))) → Rds G (errP i y) xs → Rds G T acc →
      (∀ acc' G',Ext G0 G' → Rds G' (T ++ errP (a + i) y) acc' → Qc acc' G') → compItems (fun ρ' K H => X.wp tbl C ρ' ce_law_due_0 K H) (.two 12 80) ρc stand Qc xs acc G := by
  intro y
  induction y with
  | nil =>
    intro i xs acc T G hE hG hx ha hQ
    obtain rfl := hx.inv0
    exact ⟨hst _ hE,hQ acc G hE (by simpa [errP] using ha)⟩
  | cons x y ih =>
    intro i xs acc T G hE hG hx ha hQ
    unfold errP at hx hQ
    by_cases q : x = 0
    · rw [if_pos q] at hx
      simp only [if_pos q] at hQ
      obtain ⟨d,r,rfl,h1,h2⟩ := hx.inv
      obtain ⟨b,ys,rfl,hb,hr⟩ := h1.invT
      obtain ⟨d1,r1,rfl,k1,hr⟩ := hr.inv
      obtain ⟨d2,r2,rfl,k2,hr⟩ := hr.inv
      obtain rfl := hr.inv0
      obtain rfl := k1.invS
      obtain rfl := k2.invI
      refine ⟨hst _ hE,?_⟩
      simp only [bindTg,hb]
      simp only [↓x_loc,↓x_cel,↓x_bin,↓x_tuple,↓f33e,↓f34e,↓f42e,↓f45e,↓f46e,↓xs_nil,↓xs_cons,put_v,put_c,bT,bF,Nat.reduceBEq,b_add_ii,ce_law_due_0,hc,hG,kOe,kc1e,kc2e,k33e]
      refine ⟨by simp [big],fun b2 hb2 => ?_⟩
      have hE2 := Ext.set hb2 (O := .tuple [.str [117,110,101,120,112,101,99,116,101,100,45,110,117,108,108,45,99,104,97,114,97,99,116,101,114],.int ((a : Int) + (i : Int))])
      refine ih (i + 1) r _ (T ++ [nullT (a + i)]) _ (hE.trans hE2) (hE2 _ _ hG) (Rds.ext hE2 _ _ h2) ((Rds.ext hE2 _ _ ha).snoc (Rd.tup set_self (.cons rd_str (.one ?_)))) fun acc' G' e1 e2 => ?_
      · have : ((a : Int) + (i : Int)) = ((a + i : Nat) : Int) := by lia
        rw [this]; exact rd_int
      · refine hQ acc' G' e1 ?_
        simpa [Nat.add_assoc] using e2
    · rw [if_neg q] at hx
      simp only [if_neg q] at hQ
      exact ih (i + 1) xs acc T G hE hG hx ha fun acc' G' e1 e2 => hQ acc' G' e1 (by simpa [Nat.add_assoc] using e2)
private theorem due_R1 {C : CallT} {kind last s bf : List Nat} {a : Nat} {ρ : Ev} {G H0 : Hp} {o e c : Addr} {ot et : List Tr} {dr : Option (List Nat)} {dd : D} (hE0 : Ext H0 G) (h32 : ρ.v 32 = some (.str kind)) (h16 : ρ.v 16 = some (.str last)) (h15 : ρ.v 15 = some (.str s)) (h22 : ρ.v 22 = some (.ref o)) (h7 : ρ.v 7 = some (.ref e)) (h20 : ρ.v 20 = some (.str bf)) (h21 : ρ.v 21 = some dd)
    (hc : ρ.c 24 = some c) (hcell : G c = some (.cell (some (.int (a : Int))))) (hd : Rd G (drT dr) dd) (ho : ∃ xs,G o = some (.list xs) ∧ Rds G ot xs) (he : ∃ xs,G e = some (.list xs) ∧ Rds G et xs)
    (h : ∀ d G',Ext H0 G' → Rd G' (dueT ⟨ot,et,a,s,bf,if s = [99,104,97,114,97,99,116,101,114,32,114,101,102,101,114,101,110,99,101] then kind else [100,97,116,97],false,dr,aptL last dr⟩) d → Q d G') :
    Ss.wp tbl C (.cons (.assign 23 (.ite (.cmp .eq (.loc 15) (.str [99,104,97,114,97,99,116,101,114,32,114,101,102,101,114,101,110,99,101])) (.loc 32) (.str [100,97,116,97]))) (.cons (.ret (.tuple (.cons (.loc 22) (.cons (.loc 7) (.cons (.cel 24) (.cons (.loc 15) (.cons (.loc 20) (.cons (.loc 23) (.cons (.bool false) (.cons (.loc 21) (.cons (.bop true (.cons (.cmp .isnot (.loc 21) .none) (.cons (.cmp .eq (.sub (.loc 21) (.int 1)) (.loc 16)) (.nil)))) (.nil)))))))))))) .nil)) ρ
      (fC Q) G := by
  obtain ⟨xs,x1,x2⟩ := ho
  obtain ⟨ys,y1,y2⟩ := he
  have key : ∀ bk : List Nat,bk = (if s = [99,104,97,114,97,99,116,101,114,32,114,101,102,101,114,101,110,99,101] then kind else [100,97,116,97]) → Ss.wp tbl C (.cons (.ret (.tuple (.cons (.loc 22) (.cons (.loc 7) (.cons (.cel 24) (.cons (.loc 15) (.cons (.loc 20) (.cons (.loc 23) (.cons (.bool false) (.cons (.loc 21) (.cons (.bop true (.cons (.cmp .isnot (.loc 21) .none) (.cons (.cmp .eq (.sub (.loc 21) (.int 1)) (.loc 16)) (.nil)))) (.nil)))))))))))) .nil) (ρ.put 23 (.str bk))
      (fC Q) G := by
    intro bk hbk
    have A := fun (K : K1) (hK : K (.bool (aptL last dr)) G) => apt_x (C := C) (ρ := ρ.put 23 (.str bk)) (K := K) (by simpa [put_v,put_c,cel_v,cel_c,bT,bF,Nat.reduceBEq] using h16) (by simpa [put_v,put_c,cel_v,cel_c,bT,bF,Nat.reduceBEq] using h21) hd hK
    generalize (X.bop true (.cons (.cmp .isnot (.loc 21) .none) (.cons (.cmp .eq (.sub (.loc 21) (.int 1)) (.loc 16)) (.nil)))) = ap at A ⊢
    simp only [↓ss_cons,↓s_ret,↓x_bool,↓x_loc,↓x_cel,↓x_tuple,↓f46e,↓xs_cons,put_v,put_c,bT,bF,Nat.reduceBEq,h22,h7,hc,hcell,h15,h20,h21,kOe,kc1e,kc2e]
    refine A _ ⟨by simp [big],fun b2 hb2 => ?_⟩
    have hE2 := Ext.set hb2 (O := .tuple [.ref o,.ref e,.int (a : Int),.str s,.str bf,.str bk,.bool false,dd,.bool (aptL last dr)])
    refine h _ _ (hE0.trans hE2) ?_
    rw [← hbk]
    exact Rd.tup set_self (.cons (.lis (hE2 _ _ x1) (Rds.ext hE2 _ _ x2)) (.cons (.lis (hE2 _ _ y1) (Rds.ext hE2 _ _ y2)) (.cons rd_int (.cons rd_str (.cons rd_str (.cons rd_str (.cons rd_bool (.cons (Rd.ext hE2 _ _ hd) (.one rd_bool)))))))))
  have k1 := key kind
  have k2 := key [100,97,116,97]
  generalize (Ss.cons (.ret (.tuple (.cons (.loc 22) (.cons (.loc 7) (.cons (.cel 24) (.cons (.loc 15) (.cons (.loc 20) (.cons (.loc 23) (.cons (.bool false) (.cons (.loc 21) (.cons (.bop true (.cons (.cmp .isnot (.loc 21) .none) (.cons (.cmp .eq (.sub (.loc 21) (.int 1)) (.loc 16)) (.nil)))) (.nil)))))))))))) .nil) = tl at k1 k2 ⊢
  by_cases q : s = [99,104,97,114,97,99,116,101,114,32,114,101,102,101,114,101,110,99,101]
  · simp only [↓ss_cons,↓s_assign,↓x_str,↓x_loc,↓x_cmp,↓x_ite,↓f23e,↓f24e,↓f35e,↓f49e,↓f59e,c_eq_ss,h15,h32,decide_eq_true q,kOe,kBe,k35t]
    exact k1 (by rw [if_pos q])
  · simp only [↓ss_cons,↓s_assign,↓x_str,↓x_loc,↓x_cmp,↓x_ite,↓f23e,↓f24e,↓f35e,↓f49e,↓f59e,c_eq_ss,h15,decide_eq_false q,kOe,kBe,k35f]
    exact k2 (by rw [if_neg q])
end
end Mine
end
section
open PySem
namespace Mine
section
variable {P H : Hp} {n : Nat} {Q : K1}
private theorem ext_none {H H' : Hp} (h : Ext H H') {a : Addr} (e : H' a = none) : H a = none := by
  cases q : H a with
  | none => rfl
  | some O => rw [h _ _ q] at e; cases e
private theorem Two.down {H0 H1 G : Hp} {o e : Addr} {ot et : List Tr} (h : Ext H0 H1) (T : Two H1 G o e ot et) : Two H0 G o e ot et :=
  ⟨h.trans T.sub,ext_none h T.ho,ext_none h T.he,T.ne,T.out,T.err,T.flat⟩
private theorem due_R3 {C : CallT} {kind bf x : List Nat} {ρ : Ev} {G H0 : Hp} {o e : Addr} {ot et : List Tr} {dr : Option (List Nat)} {dd : D} {ap : Bool} (T : Two H0 G o e ot et) (hl1 : ot.length ≤ 1000) (h11 : ρ.v 11 = some (.str x)) (hlx : x.length ≤ 1000) (h32 : ρ.v 32 = some (.str kind)) (h22 : ρ.v 22 = some (.ref o)) (h7 : ρ.v 7 = some (.ref e)) (h20 : ρ.v 20 = some (.str bf)) (h21 : ρ.v 21 = some dd) (h55 : ρ.v 55 = some (.bool ap))
    (hd : Rd G (drT dr) dd)
    (h : ∀ d G',Ext H0 G' → Rd G' (dueT ⟨ot ++ [eofT],et,x.length + 1,kind,bf,[100,97,116,97],true,dr,ap⟩) d → Q d G') :
    Ss.wp tbl C (.cons (.expr (.append (.loc 22) (.tuple (.cons (.str [101,111,102]) (.nil))))) (.cons (.ret (.tuple (.cons (.loc 22) (.cons (.loc 7) (.cons (.bin .add (.len (.loc 11)) (.int 1)) (.cons (.loc 32) (.cons (.loc 20) (.cons (.str [100,97,116,97]) (.cons (.bool true) (.cons (.loc 21) (.cons (.loc 55) (.nil)))))))))))) .nil)) ρ
      (fC Q) G := by
  obtain ⟨xs,x1,x2⟩ := T.out
  have e1 : ((x.length : Int) + 1) = ((x.length + 1 : Nat) : Int) := by lia
  simp only [↓ss_cons,↓s_expr,↓x_str,↓x_loc,↓x_append,↓x_tuple,↓f17e,↓f18e,↓f42e,↓f45e,↓f46e,↓xs_nil,↓xs_cons,h22,x1,kOe,k18e]
  refine ⟨by simp [big],fun b hb => ?_⟩
  have T1 := T.ext (Ext.set hb (O := .tuple [.str [101,111,102]]))
  have hx1 := (set_ne (O := .tuple [.str [101,111,102]]) (ne_fresh x1 hb)).trans x1
  simp only [hx1,h22,h7,h11,h32,h20,h21,h55,e1,↓x_bool,↓x_int,↓x_str,↓x_loc,↓f8e,↓x_len,↓f33e,↓f34e,↓x_bin,↓f42e,↓x_tuple,↓xs_nil,↓f45e,↓f46e,↓xs_cons,↓f48e,↓f56e,↓s_ret,↓f59e,↓ss_cons,b_add_ii,↓f59r,↓fCr,kOe,k17e,k33e]
  have T2 := T1.pushO hx1 (u := eofT) (Rd.tup set_self (.one rd_str)) rfl
  obtain ⟨zs,z1,z2⟩ := T2.out
  obtain ⟨ys,y1,y2⟩ := T2.err
  have hd2 : Rd (((G.set b (.tuple [.str [101,111,102]])).set o (.list (xs ++ [.ref b])))) (drT dr) dd := by
    have hT : TL (G.set b (.tuple [.str [101,111,102]])) ((G.set b (.tuple [.str [101,111,102]])).set o (.list (xs ++ [.ref b]))) := TL.set fun xs e => by rw [hx1] at e; cases e
    refine Rd.tl hT _ _ (by cases dr <;> rfl) (Rd.ext (Ext.set hb) _ _ hd)
  refine ⟨by rw [x2.len]; unfold big; lia,by unfold big; lia,by simp [big],fun b2 hb2 => ?_⟩
  have hE2 := Ext.set hb2 (O := .tuple [.ref o,.ref e,.int ((x.length + 1 : Nat) : Int),.str kind,.str bf,.str [100,97,116,97],.bool true,dd,.bool ap])
  refine h _ _ (T2.sub.trans hE2) ?_
  exact Rd.tup set_self (.cons (.lis (hE2 _ _ z1) (Rds.ext hE2 _ _ z2)) (.cons (.lis (hE2 _ _ y1) (Rds.ext hE2 _ _ y2)) (.cons rd_int (.cons rd_str (.cons rd_str (.cons rd_str (.cons rd_bool (.cons (Rd.ext hE2 _ _ hd2) (.one rd_bool)))))))))
private theorem due_R4 {C : CallT} {st bf x : List Nat} {ρ : Ev} {G H0 : Hp} {o e : Addr} {ot et : List Tr} {dr : Option (List Nat)} {dd : D} {ap : Bool} (T : Two H0 G o e ot et) (h11 : ρ.v 11 = some (.str x)) (hlx : x.length ≤ 1000) (h15 : ρ.v 15 = some (.str st)) (h22 : ρ.v 22 = some (.ref o)) (h7 : ρ.v 7 = some (.ref e)) (h20 : ρ.v 20 = some (.str bf)) (h21 : ρ.v 21 = some dd) (h55 : ρ.v 55 = some (.bool ap))
    (hd : Rd G (drT dr) dd)
    (h : ∀ d G',Ext H0 G' → Rd G' (dueT ⟨ot,et,x.length,st,bf,[100,97,116,97],false,dr,ap⟩) d → Q d G') :
    Ss.wp tbl C (.cons (.ret (.tuple (.cons (.loc 22) (.cons (.loc 7) (.cons (.len (.loc 11)) (.cons (.loc 15) (.cons (.loc 20) (.cons (.str [100,97,116,97]) (.cons (.bool false) (.cons (.loc 21) (.cons (.loc 55) (.nil)))))))))))) .nil) ρ
      (fC Q) G := by
  obtain ⟨xs,x1,x2⟩ := T.out
  obtain ⟨ys,y1,y2⟩ := T.err
  simp only [↓ss_cons,↓s_ret,↓x_bool,↓x_str,↓x_loc,↓x_len,↓x_tuple,↓f8e,↓f42e,↓f45e,↓f46e,↓f56e,↓xs_nil,↓xs_cons,h22,h7,h11,h15,h20,h21,h55,↓f59r,↓fCr,kOe]
  refine ⟨by unfold big; lia,by simp [big],fun b2 hb2 => ?_⟩
  have hE2 := Ext.set hb2 (O := .tuple [.ref o,.ref e,.int (x.length : Int),.str st,.str bf,.str [100,97,116,97],.bool false,dd,.bool ap])
  refine h _ _ (T.sub.trans hE2) ?_
  exact Rd.tup set_self (.cons (.lis (hE2 _ _ x1) (Rds.ext hE2 _ _ x2)) (.cons (.lis (hE2 _ _ y1) (Rds.ext hE2 _ _ y2)) (.cons rd_int (.cons rd_str (.cons rd_str (.cons rd_str (.cons rd_bool (.cons (Rd.ext hE2 _ _ hd) (.one rd_bool)))))))))
private theorem dueB_errs {kind last x : List Nat} {ended : Bool} : (dueB kind last x ended).errs = errP 0 (toldB kind last x ended) := by
  unfold dueB
  split
  · rfl
  · split <;> rfl
private theorem toldB_len {kind last x : List Nat} {ended : Bool} : (toldB kind last x ended).length ≤ x.length := by
  unfold toldB
  split
  · rw [List.length_take]; omega
  · split
    · exact Nat.le_refl _
    · rw [List.length_take]; omega
private theorem dueB_out_len {kind last x : List Nat} {ended : Bool} : (dueB kind last x ended).out.length ≤ x.length + 1 := by
  have := toldB_len (kind := kind) (last := last) (x := x) (ended := ended)
  unfold dueB
  split
  · simp [outP]; lia
  · split <;> simp [outP] <;> lia
private theorem due_R2 {C : CallT} {last bf x : List Nat} {ended : Bool} {a : Nat} {ρ : Ev} {G H0 : Hp} {o e c : Addr} {ot : List Tr} {z : List Nat} (T : Two H0 G o e ot (errP 0 z)) (hl1 : ot.length ≤ 1000) (hz : z.length ≤ 1000) (h11 : ρ.v 11 = some (.str x)) (hlx : x.length ≤ 1000) (h16 : ρ.v 16 = some (.str last)) (h95 : ρ.v 95 = some (.bool ended)) (h22 : ρ.v 22 = some (.ref o)) (h7 : ρ.v 7 = some (.ref e)) (h20 : ρ.v 20 = some (.str bf))
    (hc : ρ.c 24 = some c) (hcell : G c = some (.cell (some (.int (a : Int)))))
    (hrec : ∀ (G1 : Hp) (K : K1),(∀ d G',Ext G1 G' → Rd G' (dueT (dueB [100,97,116,97] last (x.drop a) ended)) d → K d G') → C 583 [.str (x.drop a),.str [100,97,116,97],.str last,.bool ended] K G1)
    (h : ∀ d G',Ext H0 G' → Rd G' (dueT ⟨ot ++ [endT last] ++ (dueB [100,97,116,97] last (x.drop a) ended).out,errP 0 z ++ errP a (toldB [100,97,116,97] last (x.drop a) ended),a + (dueB [100,97,116,97] last (x.drop a) ended).at_,(dueB [100,97,116,97] last (x.drop a) ended).state,bf,(dueB [100,97,116,97] last (x.drop a) ended).back,(dueB [100,97,116,97] last (x.drop a) ended).done,none,false⟩) d → Q d G') :
    Ss.wp tbl C (.cons (.expr (.append (.loc 22) (.tuple (.cons (.str [101,110,100]) (.cons (.loc 16) (.cons (.tuple (.nil)) (.cons (.bool false) (.nil)))))))) (.cons (.assign 100 (.call (.glo 101) (.cons (.slice (.loc 11) (.cel 24) .none) (.cons (.str [100,97,116,97]) (.cons (.loc 16) (.cons (.loc 95) (.nil))))))) (.cons (.assign 7 (.bin .add (.loc 7) (.comp ce_law_due_0 (.two 12 80) [24] (.sub (.loc 100) (.int 1))))) (.cons (.ret (.tuple (.cons (.bin .add (.loc 22) (.sub (.loc 100) (.int 0))) (.cons (.loc 7) (.cons (.bin .add (.cel 24) (.sub (.loc 100) (.int 2))) (.cons (.sub (.loc 100) (.int 3)) (.cons (.loc 20) (.cons (.sub (.loc 100) (.int 5)) (.cons (.sub (.loc 100) (.int 6)) (.cons .none (.cons (.bool false) (.nil)))))))))))) .nil)))) ρ
      (fC Q) G := by
  obtain ⟨xs,x1,x2⟩ := T.out
  have hlen := dueB_out_len (kind := [100,97,116,97]) (last := last) (x := x.drop a) (ended := ended)
  have hlen2 := toldB_len (kind := [100,97,116,97]) (last := last) (x := x.drop a) (ended := ended)
  have herr := dueB_errs (kind := [100,97,116,97]) (last := last) (x := x.drop a) (ended := ended)
  rw [List.length_drop] at hlen hlen2
  generalize dueB [100,97,116,97] last (x.drop a) ended = mo at hrec h hlen herr
  generalize toldB [100,97,116,97] last (x.drop a) ended = ty at h hlen2 herr
  have hco : c ≠ o := ne_of_kind hcell x1 nofun
  have tail : ∀ (G1 : Hp),Two H0 G1 o e (ot ++ [endT last]) (errP 0 z) → G1 c = some (.cell (some (.int (a : Int)))) → Ss.wp tbl C (.cons (.assign 100 (.call (.glo 101) (.cons (.slice (.loc 11) (.cel 24) .none) (.cons (.str [100,97,116,97]) (.cons (.loc 16) (.cons (.loc 95) (.nil))))))) (.cons (.assign 7 (.bin .add (.loc 7) (.comp ce_law_due_0 (.two 12 80) [24] (.sub (.loc 100) (.int 1))))) (.cons (.ret (.tuple (.cons (.bin .add (.loc 22) (.sub (.loc 100) (.int 0))) (.cons (.loc 7) (.cons (.bin .add (.cel 24) (.sub (.loc 100) (.int 2))) (.cons (.sub (.loc 100) (.int 3)) (.cons (.loc 20) (.cons (.sub (.loc 100) (.int 5)) (.cons (.sub (.loc 100) (.int 6)) (.cons .none (.cons (.bool false) (.nil)))))))))))) .nil))) ρ
      (fC Q) G1 := by
    intro G1 T1 hc1
    simp only [↓ss_cons,↓s_assign,↓x_none,↓x_str,↓x_loc,↓x_cel,↓x_glo,↓x_call,↓x_slice,↓f2e,↓f5e,↓f38e,↓f39e,↓f40e,↓f45e,↓f46e,↓xs_nil,↓xs_cons,glo_101,fn_law_due,h11,hc,hc1,slice_n0,h16,h95,kOe,kc1e,kc2e,k5e,k38e]
    refine ⟨by unfold big; lia,hrec G1 _ fun d G2 hE2 hd => ?_⟩
    have T2 := T1.ext hE2
    have hc2 := hE2 _ _ hc1
    obtain ⟨m,ds,rfl,hm,hr⟩ := hd.invT
    obtain ⟨d0,r0,rfl,k0,hr⟩ := hr.inv
    obtain ⟨d1,r1,rfl,k1,hr⟩ := hr.inv
    obtain ⟨d2,r2,rfl,k2,hr⟩ := hr.inv
    obtain ⟨d3,r3,rfl,k3,hr⟩ := hr.inv
    obtain ⟨d4,r4,rfl,k4,hr⟩ := hr.inv
    obtain ⟨d5,r5,rfl,k5,hr⟩ := hr.inv
    obtain ⟨d6,r6,rfl,k6,hr⟩ := hr.inv
    obtain rfl := k2.invI
    obtain rfl := k3.invS
    obtain rfl := k5.invS
    obtain rfl := k6.invB
    obtain ⟨mo_o,os,rfl,ho,hos⟩ := k0.invL
    obtain ⟨mo_e,es,rfl,he,hes⟩ := k1.invL
    rw [herr] at hes
    have sb : ∀ {G : Hp} {k : Nat} {v : D},G m = some (.tuple (.ref mo_o :: .ref mo_e :: .int mo.at_ :: .str mo.state :: d4 :: .str mo.back :: .bool mo.done :: r6)) → k < 7 → (D.ref mo_o :: .ref mo_e :: .int mo.at_ :: .str mo.state :: d4 :: .str mo.back :: .bool mo.done :: r6)[k]? = some v → subs G (.ref m) (.int (k : Int)) = some v := by
      intro G k v hg hk hv
      simp only [subs,hg]
      rw [if_pos ⟨by lia,by unfold big; lia⟩]
      simpa using hv
    have s1 : ∀ {G : Hp},G m = some (.tuple (.ref mo_o :: .ref mo_e :: .int mo.at_ :: .str mo.state :: d4 :: .str mo.back :: .bool mo.done :: r6)) → subs G (.ref m) (.int 1) = some (.ref mo_e) := fun hg => sb (k := 1) hg (by lia) rfl
    have s0 : ∀ {G : Hp},G m = some (.tuple (.ref mo_o :: .ref mo_e :: .int mo.at_ :: .str mo.state :: d4 :: .str mo.back :: .bool mo.done :: r6)) → subs G (.ref m) (.int 0) = some (.ref mo_o) := fun hg => sb (k := 0) hg (by lia) rfl
    have s2 : ∀ {G : Hp},G m = some (.tuple (.ref mo_o :: .ref mo_e :: .int mo.at_ :: .str mo.state :: d4 :: .str mo.back :: .bool mo.done :: r6)) → subs G (.ref m) (.int 2) = some (.int mo.at_) := fun hg => sb (k := 2) hg (by lia) rfl
    have s3 : ∀ {G : Hp},G m = some (.tuple (.ref mo_o :: .ref mo_e :: .int mo.at_ :: .str mo.state :: d4 :: .str mo.back :: .bool mo.done :: r6)) → subs G (.ref m) (.int 3) = some (.str mo.state) := fun hg => sb (k := 3) hg (by lia) rfl
    have s5 : ∀ {G : Hp},G m = some (.tuple (.ref mo_o :: .ref mo_e :: .int mo.at_ :: .str mo.state :: d4 :: .str mo.back :: .bool mo.done :: r6)) → subs G (.ref m) (.int 5) = some (.str mo.back) := fun hg => sb (k := 5) hg (by lia) rfl
    have s6 : ∀ {G : Hp},G m = some (.tuple (.ref mo_o :: .ref mo_e :: .int mo.at_ :: .str mo.state :: d4 :: .str mo.back :: .bool mo.done :: r6)) → subs G (.ref m) (.int 6) = some (.bool mo.done) := fun hg => sb (k := 6) hg (by lia) rfl
    have hesl : es.length ≤ 1000 := by
      rw [hes.len]; have := errP_length 0 ty; lia
    obtain ⟨ys,y1,y2⟩ := T2.err
    have hysl : ys.length ≤ 1000 := by rw [y2.len]; have := errP_length 0 z; lia
    simp only [↓ss_cons,↓s_assign,↓x_int,↓x_loc,↓x_bin,↓x_sub,↓x_comp,↓f34e,↓f36e,↓f37e,↓f44e,↓f49e,↓f59e,put_v,put_c,bT,bF,Nat.reduceBEq,h7,s1 hm,itemsOf,he,kOe]
    rw [if_pos (by unfold big; lia)]
    refine ⟨fun k hk => ?_,by unfold big; lia,?_⟩
    · simp at hk; subst hk; rw [hc]; rfl
    refine due_comp (c := c) (a := a) (G0 := G2) (by simp [Ev.onlyC,hc]) (fun G' hE' => by show G' mo_e = G2 mo_e; rw [hE' _ _ he,he]) ty 0 es [] [] G2 (Ext.refl _) hc2 hes .nil fun acc G3 hE3 hacc => ?_
    intro b hb
    have hE4 := hE3.trans (Ext.set hb (O := .list acc))
    have haccl : acc.length ≤ 1000 := by rw [hacc.len]; have := errP_length (a + 0) ty; simp only [List.nil_append]; lia
    have yb : (G3.set b (.list acc)) b = some (.list acc) := set_self
    have ye := hE4 _ _ y1
    have hc4 := hE4 _ _ hc2
    have hm4 := hE4 _ _ hm
    have hacc4 := Rds.ext (Ext.set hb (O := .list acc)) _ _ hacc
    have T4 := T2.ext hE4
    have ho4 := hE4 _ _ ho
    have hos4 := Rds.ext hE4 _ _ hos
    have y24 := Rds.ext hE4 _ _ y2
    generalize G3.set b (.list acc) = G4 at yb ye hE4 hc4 hm4 hacc4 T4 ho4 hos4 y24
    simp only [yb,ye,↓x_loc,↓f33e,↓x_bin,↓x_tuple,↓xs_cons,↓f49e,↓s_ret,↓f59e,↓ss_cons,put_v,bF,Nat.reduceBEq,b_add_rr,k33n,k33be]
    refine ⟨by unfold big; lia,fun b2 hb2 => ?_⟩
    have hE5 := Ext.set hb2 (O := .list (ys ++ acc))
    have T5 := T4.ext hE5
    have hc5 := hE5 _ _ hc4
    have hm5 := hE5 _ _ hm4
    have ho5 := hE5 _ _ ho4
    have hos5 := Rds.ext hE5 _ _ hos4
    have he5 : Rd (G4.set b2 (.list (ys ++ acc))) (.list (errP 0 z ++ errP a ty)) (.ref b2) := by
      refine .lis set_self (Rds.app ?_ (Rds.ext hE5 _ _ y24))
      have := Rds.ext hE5 _ _ hacc4
      simpa using this
    generalize G4.set b2 (.list (ys ++ acc)) = G5 at hE5 T5 hc5 hm5 ho5 hos5 he5
    obtain ⟨zs,z1,z2⟩ := T5.out
    simp only [b_add_rr,h22,hc,s0 hm5,z1,ho5,h7,↓x_int,↓x_loc,↓x_cel,↓f33e,↓f34e,↓x_bin,↓f36e,↓f37e,↓x_sub,↓f46e,↓xs_cons,put_v,put_c,bT,bF,Nat.reduceBEq,kOe,kc1e,k33n,k33be]
    refine ⟨by rw [z2.len,hos5.len]; simp; unfold big; lia,fun b3 hb3 => ?_⟩
    have hE6 := Ext.set hb3 (O := .list (zs ++ os))
    have hm6 := hE6 _ _ hm5
    have hc6 := hE6 _ _ hc5
    have e1 : ((a : Int) + (mo.at_ : Int)) = ((a + mo.at_ : Nat) : Int) := by lia
    have hout : Rd (G5.set b3 (.list (zs ++ os))) (.list (ot ++ [endT last] ++ mo.out)) (.ref b3) := .lis set_self (Rds.app (Rds.ext hE6 _ _ hos5) (Rds.ext hE6 _ _ z2))
    have he6 := Rd.ext hE6 _ _ he5
    have hs6 := T5.sub.trans hE6
    generalize G5.set b3 (.list (zs ++ os)) = G6 at hE6 hm6 hc6 hout he6 hs6
    simp only [b_add_ii,hc6,s2 hm6,s3 hm6,s5 hm6,s6 hm6,e1,h20,↓x_none,↓x_bool,↓x_int,↓x_loc,↓f33e,↓f34e,↓f36e,↓f37e,↓x_sub,↓f42e,↓xs_nil,↓f45e,↓f46e,↓xs_cons,↓f56e,put_v,bT,bF,Nat.reduceBEq,↓f59r,↓fCr,kOe,kc2e,k33e]
    refine ⟨by simp [big],fun b4 hb4 => ?_⟩
    have hE7 := Ext.set hb4 (O := .tuple [.ref b3,.ref b2,.int ((a + mo.at_ : Nat) : Int),.str mo.state,.str bf,.str mo.back,.bool mo.done,.none,.bool false])
    refine h _ _ (hs6.trans hE7) ?_
    exact Rd.tup set_self (.cons (Rd.ext hE7 _ _ hout) (.cons (Rd.ext hE7 _ _ he6) (.cons rd_int (.cons rd_str (.cons rd_str (.cons rd_str (.cons rd_bool (.cons rd_none (.one rd_bool)))))))))
  generalize (Ss.cons (.assign 100 (.call (.glo 101) (.cons (.slice (.loc 11) (.cel 24) .none) (.cons (.str [100,97,116,97]) (.cons (.loc 16) (.cons (.loc 95) (.nil))))))) (.cons (.assign 7 (.bin .add (.loc 7) (.comp ce_law_due_0 (.two 12 80) [24] (.sub (.loc 100) (.int 1))))) (.cons (.ret (.tuple (.cons (.bin .add (.loc 22) (.sub (.loc 100) (.int 0))) (.cons (.loc 7) (.cons (.bin .add (.cel 24) (.sub (.loc 100) (.int 2))) (.cons (.sub (.loc 100) (.int 3)) (.cons (.loc 20) (.cons (.sub (.loc 100) (.int 5)) (.cons (.sub (.loc 100) (.int 6)) (.cons .none (.cons (.bool false) (.nil)))))))))))) .nil))) = tl at tail ⊢
  simp only [↓ss_cons,↓s_expr,↓x_bool,↓x_str,↓x_loc,↓x_append,↓x_tuple,↓f17e,↓f18e,↓f42e,↓f45e,↓f46e,↓xs_nil,↓xs_cons,h22,h16,x1,kOe,k18e]
  refine ⟨by simp [big],fun t ht => ⟨by simp [big],fun b hb => ?_⟩⟩
  have hE1 := Ext.set ht (O := .tuple [])
  have hE2 := Ext.set hb (O := .tuple [.str [101,110,100],.str last,.ref t,.bool false])
  have T1 := (T.ext hE1).ext hE2
  have hx1 := hE2 _ _ (hE1 _ _ x1)
  simp only [hx1,↓f48e,↓f59e,k17e]
  refine ⟨by rw [x2.len]; unfold big; lia,tail _ (T1.pushO hx1 (u := endT last) (Rd.tup set_self (.cons rd_str (.cons rd_str (.cons (Rd.tup (hE2 _ _ set_self) .nil) (.one rd_bool))))) rfl) ?_⟩
  rw [set_ne hco]
  exact hE2 _ _ (hE1 _ _ hcell)
end
end Mine
end
section
open PySem
namespace Mine
section
variable {P H : Hp} {n : Nat} {Q : K1}
private theorem ite_ge {C : CallT} {b o tl : Ss} {ρ : Ev} {K : K2} {G : Hp} {k : Int} (hk : 0 ≤ k) (h : ρ.v 83 = some (.int k)) : Ss.wp tbl C (.cons (.ite (.cmp .ge (.loc 83) (.int 0)) b o) tl) ρ K G = b.wp tbl C ρ (fun fl ρ H => match fl with | .next => tl.wp tbl C ρ K H | fl => K fl ρ H) G := by
  simp only [↓ss_cons,↓s_ite,↓x_int,↓x_loc,↓x_cmp,↓f24e,↓f57e,c_ge_ii,h,decide_eq_true hk,↓f23ge,kOe,kBe,k57t]
  all_goals rfl
private theorem ite_lt {C : CallT} {b tl : Ss} {ρ : Ev} {K : K2} {G : Hp} (h : ρ.v 83 = some (.int (-1))) : Ss.wp tbl C (.cons (.ite (.cmp .ge (.loc 83) (.int 0)) b .nil) tl) ρ K G = tl.wp tbl C ρ K G := by
  have : decide ((0 : Int) ≤ -1) = false := by decide
  simp only [↓ss_nil,↓ss_cons,↓s_ite,↓x_int,↓x_loc,↓x_cmp,↓f24e,↓f57e,↓f59e,c_ge_ii,h,this,↓f23ge,kOe,kBe,k57f]
private theorem ite_eqs {C : CallT} {b o tl : Ss} {ρ : Ev} {K : K2} {G : Hp} {k : Nat} {s t : List Nat} (h : ρ.v k = some (.str s)) (hk : s = t) : Ss.wp tbl C (.cons (.ite (.cmp .eq (.loc k) (.str t)) b o) tl) ρ K G = b.wp tbl C ρ (fun fl ρ H => match fl with | .next => tl.wp tbl C ρ K H | fl => K fl ρ H) G := by
  simp only [↓ss_cons,↓s_ite,↓x_str,↓x_loc,↓x_cmp,↓f23e,↓f24e,↓f57e,c_eq_ss,h,decide_eq_true hk,kOe,kBe,k57t]
  all_goals rfl
private theorem ite_nes {C : CallT} {b tl : Ss} {ρ : Ev} {K : K2} {G : Hp} {k : Nat} {s t : List Nat} (h : ρ.v k = some (.str s)) (hk : s ≠ t) : Ss.wp tbl C (.cons (.ite (.cmp .eq (.loc k) (.str t)) b .nil) tl) ρ K G = tl.wp tbl C ρ K G := by
  simp only [↓ss_nil,↓ss_cons,↓s_ite,↓x_str,↓x_loc,↓x_cmp,↓f23e,↓f24e,↓f57e,↓f59e,c_eq_ss,h,decide_eq_false hk,kOe,kBe,k57f]
private theorem ite_tt {C : CallT} {b o tl : Ss} {ρ : Ev} {K : K2} {G : Hp} {k : Nat} (h : ρ.v k = some (.bool true)) : Ss.wp tbl C (.cons (.ite (.loc k) b o) tl) ρ K G = b.wp tbl C ρ (fun fl ρ H => match fl with | .next => tl.wp tbl C ρ K H | fl => K fl ρ H) G := by
  simp only [↓ss_cons,↓s_ite,↓x_loc,↓f57e,h,kOe,k57t]
  all_goals rfl
private theorem ite_ff {C : CallT} {b tl : Ss} {ρ : Ev} {K : K2} {G : Hp} {k : Nat} (h : ρ.v k = some (.bool false)) : Ss.wp tbl C (.cons (.ite (.loc k) b .nil) tl) ρ K G = tl.wp tbl C ρ K G := by
  simp only [↓ss_nil,↓ss_cons,↓s_ite,↓x_loc,↓f57e,↓f59e,h,kOe,k57f]
private theorem apt_st {C : CallT} {last : List Nat} {dr : Option (List Nat)} {dd : D} {ρ : Ev} {G : Hp} {K : K2} {tl : Ss} (h16 : ρ.v 16 = some (.str last)) (h21 : ρ.v 21 = some dd) (hd : Rd G (drT dr) dd) (h : tl.wp tbl C (ρ.put 55 (.bool (aptL last dr))) K G) :
    Ss.wp tbl C (.cons (.assign 55 (.bop true (.cons (.cmp .isnot (.loc 21) .none) (.cons (.cmp .eq (.sub (.loc 21) (.int 1)) (.loc 16)) (.nil))))) tl) ρ K G := by
  have A := fun (K : K1) (hK : K (.bool (aptL last dr)) G) => apt_x (C := C) (ρ := ρ) (K := K) h16 h21 hd hK
  generalize (X.bop true (.cons (.cmp .isnot (.loc 21) .none) (.cons (.cmp .eq (.sub (.loc 21) (.int 1)) (.loc 16)) (.nil)))) = ap at A ⊢
  simp only [↓ss_cons,↓s_assign]
  exact A _ h
private theorem tailG_le {kind : List Nat} : ∀ {x : List Nat},(tailG kind x).1 ≤ x.length
  | [] => Nat.le_refl _
  | c :: r => by
    unfold tailG
    split
    · rename_i h
      have := congrArg List.length h.1
      rw [List.length_take] at this
      simp at this
      simp only [tailS,List.length_drop,List.length_cons] at *
      lia
    · have := tailG_le (kind := kind) (x := r)
      simp; lia
private theorem tailP_le {x kind : List Nat} : (tailP x kind).1 ≤ x.length := by
  unfold tailP
  split
  · simp
  · split
    · rename_i h
      have := congrArg List.length h
      rw [List.length_drop] at this
      simp at this
      simp; lia
    · exact tailG_le
private theorem ldue_gen {m : Nat} {x kind last : List Nat} {ended : Bool} (hlx : x.length ≤ 900) (hkl : kind.length ≤ 100)
    (hrec : ∀ many a,stopG kind last 0 x = some (many,a,[100,97,116,97]) → ∀ (G1 : Hp) (K : K1),(∀ d G',Ext G1 G' → Rd G' (dueT (dueB [100,97,116,97] last (x.drop a) ended)) d → K d G') → callP tbl (m + 2) 583 [.str (x.drop a),.str [100,97,116,97],.str last,.bool ended] K G1)
    (h : ∀ d H',Ext H H' → Rd H' (dueT (dueP kind last x ended)) d → Q d H') : callP tbl (m + 3) 583 [.str x,.str kind,.str last,.bool ended] Q H := by
  rw [callP_at fn_law_due]
  simp only [fd_law_due,bP0,bP1,kPe,en0,en1,↓fWe]
  intro c hc
  unfold b_law_due
  have hc0 : (H.set c (.cell none)) c = some (.cell none) := set_self
  have hE0 := Ext.set hc (O := .cell none)
  generalize H.set c (.cell none) = G0 at hc0 hE0
  refine stop_st (y := x) (kind := kind) (last := last) (c := c) (H0 := H) rfl rfl rfl (by lia) rfl hc0 hE0 hc fun G1 d1 d2 d3 hd hE1 hc1 => ?_
  unfold dueP at h
  cases hs : stopG kind last 0 x with
  | some t =>
    obtain ⟨many,a,s⟩ := t
    rw [hs] at hd
    simp only [hs] at h
    simp only [stopD,List.cons.injEq,and_true] at hd
    obtain ⟨rfl,rfl,rfl⟩ := hd
    refine Eq.mpr (ite_ge (k := (many : Int)) (by lia) (by simp [put_v,cel_v,bT,bF,Nat.reduceBEq])) ?_
    refine told_st (y := x.take many) (kind := kind) (fun hK => ?_) (by simp [put_v,put_c,bT,bF,Nat.reduceBEq,Ev.cel]) (by rw [List.length_take]; lia) fun o e G2 T2 => ?_
    · simp only [↓x_none,↓x_loc,↓x_slice,↓f38e,↓f39e,↓f40e,put_v,cel_v,bT,bF,Nat.reduceBEq,slice_0n,kOe,k38e,emp_v]
      exact ⟨by unfold big; lia,hK⟩
    refine left_st (y := x.take a) (kind := kind) (fun hK => ?_) (by simp [put_v,put_c,bT,bF,Nat.reduceBEq,Ev.cel]) (by rw [List.length_take]; lia) fun dd G3 hE3 hdd => ?_
    · have := T2.sub _ _ hc1
      simp only [↓x_none,↓x_loc,↓x_cel,↓x_slice,↓f38e,↓f39e,↓f40e,put_v,put_c,bT,bF,Nat.reduceBEq,Ev.cel,this,slice_0n,kOe,kc1e,kc2e,k38e,emp_v,emp_c]
      exact ⟨by unfold big; lia,hK⟩
    have hE2 := T2.sub
    have T3 := (T2.ext hE3).down hE1
    have hc3 := hE3 _ _ (hE2 _ _ hc1)
    by_cases q : s = [100,97,116,97]
    · subst q
      rw [if_pos rfl] at h
      refine Eq.mpr (ite_eqs (by simp [put_v,cel_v,bT,bF,Nat.reduceBEq]) rfl) ?_
      exact due_R2 (C := callP tbl (m + 2)) (ended := ended) (last := last) (x := x) (bf := (leftP (x.take a) kind).1) (a := a) (c := c) T3 (by simp [outP]; lia) (by rw [List.length_take]; lia) (by simp [put_v,put_c,bT,bF,Nat.reduceBEq,Ev.cel]) (by lia) (by simp [put_v,put_c,bT,bF,Nat.reduceBEq,Ev.cel]) (by simp [put_v,put_c,bT,bF,Nat.reduceBEq,Ev.cel]) (by simp [put_v,cel_v,bT,bF,Nat.reduceBEq]) (by simp [put_v,cel_v,bT,bF,Nat.reduceBEq]) (by simp [put_v,cel_v,bT,bF,Nat.reduceBEq]) rfl hc3 (hrec many a hs) h
    · rw [if_neg q] at h
      unfold dueB toldB at h
      simp only [hs] at h
      refine Eq.mpr (ite_nes (by simp [put_v,cel_v,bT,bF,Nat.reduceBEq]) q) ?_
      exact due_R1 (kind := kind) (last := last) (s := s) (bf := (leftP (x.take a) kind).1) (a := a) (o := o) (e := e) (c := c) (dr := (leftP (x.take a) kind).2) (dd := dd) T3.sub (by simp [put_v,put_c,bT,bF,Nat.reduceBEq,Ev.cel]) (by simp [put_v,put_c,bT,bF,Nat.reduceBEq,Ev.cel]) (by simp [put_v,cel_v,bT,bF,Nat.reduceBEq]) (by simp [put_v,cel_v,bT,bF,Nat.reduceBEq]) (by simp [put_v,cel_v,bT,bF,Nat.reduceBEq]) (by simp [put_v,cel_v,bT,bF,Nat.reduceBEq]) (by simp [put_v,cel_v,bT,bF,Nat.reduceBEq]) rfl hc3 hdd T3.out T3.err h
  | none =>
    rw [hs] at hd
    simp only [hs] at h
    simp only [stopD,List.cons.injEq,and_true] at hd
    obtain ⟨rfl,rfl,rfl⟩ := hd
    unfold dueB toldB at h
    simp only [hs] at h
    refine Eq.mpr (ite_lt (by simp [put_v,cel_v,bT,bF,Nat.reduceBEq])) ?_
    refine left_st (y := x) (kind := kind) (fun hK => ?_) (by simp [put_v,put_c,bT,bF,Nat.reduceBEq,Ev.cel]) (by lia) fun dd G3 hE3 hdd => ?_
    · simp only [↓x_loc,put_v,cel_v,bT,bF,Nat.reduceBEq,kOe,emp_v]
      exact hK
    have hE31 := hE1.trans hE3
    refine apt_st (last := last) (dr := (leftP x kind).2) (dd := dd) (by simp [put_v,put_c,bT,bF,Nat.reduceBEq,Ev.cel]) (by simp [put_v,cel_v,bT,bF,Nat.reduceBEq]) hdd ?_
    cases ended with
    | true =>
      simp only [if_true] at h
      refine Eq.mpr (ite_tt (by simp [put_v,put_c,bT,bF,Nat.reduceBEq,Ev.cel])) ?_
      refine told_st (y := x) (kind := kind) (fun hK => ?_) (by simp [put_v,put_c,bT,bF,Nat.reduceBEq,Ev.cel]) (by lia) fun o e G4 T4 => ?_
      · simp only [↓x_loc,put_v,cel_v,bT,bF,Nat.reduceBEq,kOe,emp_v]
        exact hK
      exact due_R3 (kind := kind) (x := x) (bf := (leftP x kind).1) (dr := (leftP x kind).2) (dd := dd) (T4.down hE31) (by simp [outP]; lia) (by simp [put_v,put_c,bT,bF,Nat.reduceBEq,Ev.cel]) (by lia) (by simp [put_v,put_c,bT,bF,Nat.reduceBEq,Ev.cel]) (by simp [put_v,cel_v,bT,bF,Nat.reduceBEq]) (by simp [put_v,cel_v,bT,bF,Nat.reduceBEq]) (by simp [put_v,cel_v,bT,bF,Nat.reduceBEq]) (by simp [put_v,cel_v,bT,bF,Nat.reduceBEq]) (by simp [put_v,cel_v,bT,bF,Nat.reduceBEq]) (Rd.ext T4.sub _ _ hdd) h
    | false =>
      simp only [Bool.false_eq_true,if_false] at h
      refine Eq.mpr (ite_ff (by simp [put_v,put_c,bT,bF,Nat.reduceBEq,Ev.cel])) ?_
      refine tail_st (y := x) (kind := kind) (by simp [put_v,put_c,bT,bF,Nat.reduceBEq,Ev.cel]) (by simp [put_v,put_c,bT,bF,Nat.reduceBEq,Ev.cel]) (by lia) hkl fun G4 hE4 => ?_
      have hE41 := hE31.trans hE4
      have hth : (tailP x kind).1 ≤ x.length := tailP_le
      refine told_st (y := x.take (x.length - (tailP x kind).1)) (kind := kind) (fun hK => ?_) (by simp [put_v,put_c,bT,bF,Nat.reduceBEq,Ev.cel]) (by rw [List.length_take]; lia) fun o e G5 T5 => ?_
      · have e1 : ((x.length : Int) - ((tailP x kind).1 : Int)) = ((x.length - (tailP x kind).1 : Nat) : Int) := by lia
        simp only [↓x_none,↓x_loc,↓x_len,↓x_bin,↓x_slice,↓f8e,↓f33e,↓f34e,↓f38e,↓f39e,↓f40e,put_v,put_c,bT,bF,Nat.reduceBEq,b_sub_ii,Ev.cel,e1,slice_0n,kOe,k33e,k38e,emp_v,emp_c]
        exact ⟨by unfold big; lia,by unfold big; lia,hK⟩
      exact due_R4 (st := (tailP x kind).2) (x := x) (bf := (leftP x kind).1) (dr := (leftP x kind).2) (dd := dd) (T5.down hE41) (by simp [put_v,put_c,bT,bF,Nat.reduceBEq,Ev.cel]) (by lia) (by simp [put_v,cel_v,bT,bF,Nat.reduceBEq]) (by simp [put_v,cel_v,bT,bF,Nat.reduceBEq]) (by simp [put_v,cel_v,bT,bF,Nat.reduceBEq]) (by simp [put_v,cel_v,bT,bF,Nat.reduceBEq]) (by simp [put_v,cel_v,bT,bF,Nat.reduceBEq]) (by simp [put_v,cel_v,bT,bF,Nat.reduceBEq]) (Rd.ext T5.sub _ _ (Rd.ext hE4 _ _ hdd)) h
end
end Mine
end
section
open PySem
namespace Mine
section
variable {P H : Hp} {n : Nat} {Q : K1}
private theorem stopG_data {last : List Nat} : ∀ {x : List Nat} {i many a : Nat} {s : List Nat},stopG [100,97,116,97] last i x = some (many,a,s) → s = [99,104,97,114,97,99,116,101,114,32,114,101,102,101,114,101,110,99,101] ∨ s = [116,97,103,32,111,112,101,110]
  | [],_,_,_,_,h => by cases h
  | c :: r,i,many,a,s,h => by
    unfold stopG at h
    split at h
    · rename_i t ht
      cases h
      unfold stopS at ht
      split at ht
      · cases ht; exact .inl rfl
      · split at ht
        · cases ht
        · rw [if_pos rfl] at ht
          cases ht; exact .inr rfl
    · exact stopG_data h
private theorem dueP_data {last x : List Nat} {ended : Bool} : dueP [100,97,116,97] last x ended = dueB [100,97,116,97] last x ended := by
  unfold dueP
  split
  · rename_i many a s hs
    rw [if_neg]
    rcases stopG_data hs with rfl | rfl <;> decide
  · rfl
private theorem ldue_c {m : Nat} {x kind last : List Nat} {ended : Bool} (hlx : x.length ≤ 900) (hkl : kind.length ≤ 100)
    (h : ∀ d H',Ext H H' → Rd H' (dueT (dueP kind last x ended)) d → Q d H') : callP tbl (m + 4) 583 [.str x,.str kind,.str last,.bool ended] Q H := by
  refine ldue_gen hlx hkl (fun many a hs G1 K hK => ?_) h
  refine ldue_gen (by rw [List.length_drop]; omega) (by decide) (fun many' a' hs' => ?_) (fun d H' hE hd => hK d H' hE (by rw [← dueP_data]; exact hd))
  rcases stopG_data hs' with h | h <;> exact absurd h (by decide)
variable {t : Addr} {σ : TS} {a : Ad}
noncomputable def seenT (σ : TS) : Tr := .tuple [.list σ.out,.list σ.errs,.int σ.at_,.str σ.state,.str σ.buffer,.str σ.back,.bool σ.done,drT σ.draft,.bool (aptR σ)]
private theorem lseen_c (T : TokAt P H t σ a) (h : ∀ d H',Ext H H' → TokAt P H' t σ a → Rd H' (seenT σ) d → Q d H') : callP tbl (n + 2) 590 [.ref t] Q H := by
  have tail : ∀ (dd : D) (H1 : Hp),Ext H H1 → Rd H1 (drT σ.draft) dd → Ss.wp tbl (callP tbl (n + 1)) (.cons (.ret (.tuple (.cons (.attr (.loc 46) 22) (.cons (.attr (.loc 46) 7) (.cons (.attr (.loc 46) 24) (.cons (.attr (.loc 46) 15) (.cons (.attr (.loc 46) 20) (.cons (.attr (.loc 46) 23) (.cons (.attr (.loc 46) 17) (.cons (.loc 21) (.cons (.mcall (.loc 46) 55 (.nil)) (.nil)))))))))))) .nil) ((Ev.empty.put 46 (.ref t)).put 21 dd)
      (fC Q) H1 := by
    intro dd H1 hE hd
    have T1 := T.ext hE
    simp only [↓ss_cons,↓s_ret,↓x_loc,↓x_attr,↓x_mcall,↓x_tuple,↓f1e,↓f6e,↓f7e,↓f46e,↓xs_nil,↓xs_cons,la_24,la_15,la_23,la_22,la_7,la_20,la_17,la_55,meth_310_55,field_310_24,field_310_15,field_310_23,field_310_22,field_310_7,field_310_20,field_310_17,T1.attrs,kOe,k1e,k1be,k7e,k7be,put_v,bT,bF,Nat.reduceBEq,emp_v]
    refine is_apt_c T1 ⟨by simp [big],fun b hb => ?_⟩
    obtain ⟨xs,x1,x2⟩ := T1.out
    obtain ⟨ys,y1,y2⟩ := T1.err
    have hE2 := Ext.set hb (O := .tuple [.ref a.out,.ref a.err,.int σ.at_,.str σ.state,.str σ.buffer,.str σ.back,.bool σ.done,dd,.bool (aptR σ)])
    refine h _ _ (hE.trans hE2) (T1.ext hE2) ?_
    exact Rd.tup set_self (.cons (.lis (hE2 _ _ x1) (Rds.ext hE2 _ _ x2)) (.cons (.lis (hE2 _ _ y1) (Rds.ext hE2 _ _ y2)) (.cons rd_int (.cons rd_str (.cons rd_str (.cons rd_str (.cons rd_bool (.cons (Rd.ext hE2 _ _ hd) (.one rd_bool)))))))))
  rw [callP_at fn_law_seen]
  simp only [fd_law_seen,bP0,bP1,kPe,en0,↓fWe,put_v,bT,Nat.reduceBEq,emp_v,b_law_seen,↓x_loc,↓f1e,↓x_attr,↓x_cmp,↓x_ite,↓s_assign,↓ss_cons,kOe]
  generalize (Ss.cons (.ret (.tuple (.cons (.attr (.loc 46) 22) (.cons (.attr (.loc 46) 7) (.cons (.attr (.loc 46) 24) (.cons (.attr (.loc 46) 15) (.cons (.attr (.loc 46) 20) (.cons (.attr (.loc 46) 23) (.cons (.attr (.loc 46) 17) (.cons (.loc 21) (.cons (.mcall (.loc 46) 55 (.nil)) (.nil)))))))))))) .nil) = tl at tail ⊢
  cases hd : σ.draft with
  | none =>
    have e1 : draftD a σ.draft = .none := by rw [hd]; rfl
    simp only [↓x_none,↓f24e,↓f35e,↓f49e,↓f59e,c_is,la_21,field_310_21,T.attrs,e1,decide_true,↓f23is_,kBe,k1e,k1be,k35t]
    refine tail .none H (Ext.refl _) ?_
    rw [hd]; exact rd_none
  | some nm =>
    have DR := T.draft nm hd
    have e1 : draftD a σ.draft = .ref a.da := by rw [hd]; rfl
    have e2 : decide (Mine.D.ref a.da = Mine.D.none) = false := by simp
    simp only [↓x_none,↓x_loc,↓x_attr,↓x_mcall,↓f1e,↓f6e,↓f7e,↓f24e,↓f35e,↓xs_nil,put_v,bT,Nat.reduceBEq,c_is,reduceCtorEq,la_21,ld_29,meth_366_29,field_310_21,T.attrs,e1,DR.attrs,↓f23is_,kOe,kBe,k1e,k1be,k7e,k7be,k35f,emp_v,decide_false]
    refine token_c DR.inst DR.fs DR.dat fun b c H1 hE hb hc => ?_
    refine tail (.ref b) H1 hE ?_
    rw [hd]
    exact Rd.tup hb (.cons rd_str (.cons rd_str (.cons (Rd.tup hc .nil) (.one rd_bool))))
private theorem rcdata_states_c (h : ∀ b H',Ext H H' → H b = none → H' b = some (.dict [([82,67,68,65,84,65],.ref 412),([82,67,68,65,84,65,32,108,101,115,115,45,116,104,97,110,32,115,105,103,110],.ref 419),([82,67,68,65,84,65,32,101,110,100,32,116,97,103,32,111,112,101,110],.ref 426),([82,67,68,65,84,65,32,101,110,100,32,116,97,103,32,110,97,109,101],.ref 433)]) → Q (.ref b) H') : callP tbl (n + 1) 503 [] Q H := by
  rw [callP_at fn_rcdata_states]; simp only [bP0,kPe,en0,↓fWe,↓ss_cons,↓s_ret,↓x_glo,↓x_dict,↓f43e,↓f45e,↓f46e,↓f56e,↓xs_nil,↓xs_cons,glo_63,glo_64,glo_65,glo_66,fd_rcdata_states,b_rcdata_states,↓f59r,↓fCr,kOe]
  refine ⟨⟨rfl,by simp,by simp,by decide⟩,fun b hb => ?_⟩
  exact h b _ (Ext.set hb) hb set_self
private theorem rawtext_states_c (h : ∀ b H',Ext H H' → H b = none → H' b = some (.dict [([82,65,87,84,69,88,84],.ref 440),([82,65,87,84,69,88,84,32,108,101,115,115,45,116,104,97,110,32,115,105,103,110],.ref 447),([82,65,87,84,69,88,84,32,101,110,100,32,116,97,103,32,111,112,101,110],.ref 454),([82,65,87,84,69,88,84,32,101,110,100,32,116,97,103,32,110,97,109,101],.ref 461)]) → Q (.ref b) H') : callP tbl (n + 1) 510 [] Q H := by
  rw [callP_at fn_rawtext_states]; simp only [bP0,kPe,en0,↓fWe,↓ss_cons,↓s_ret,↓x_glo,↓x_dict,↓f43e,↓f45e,↓f46e,↓f56e,↓xs_nil,↓xs_cons,glo_67,glo_68,glo_69,glo_70,fd_rawtext_states,b_rawtext_states,↓f59r,↓fCr,kOe]
  refine ⟨⟨rfl,by simp,by simp,by decide⟩,fun b hb => ?_⟩
  exact h b _ (Ext.set hb) hb set_self
private theorem text_states_c (h : ∀ b H',Ext H H' → H' b = some (.dict statesKV) → Q (.ref b) H') : callP tbl (n + 2) 517 [] Q H := by
  rw [callP_at fn_text_states]; simp only [bP0,kPe,en0,↓fWe,↓ss_cons,↓s_expr,↓s_assign,↓x_loc,↓x_glo,↓x_update,↓x_dict,↓f22e,↓f43e,↓f45e,↓f46e,↓f49e,↓f59e,↓xs_nil,↓xs_cons,put_v,bT,Nat.reduceBEq,emp_v,glo_73,glo_74,glo_75,glo_76,glo_77,glo_78,fd_text_states,b_text_states,kOe]
  refine ⟨⟨rfl,by simp,by simp,by decide⟩,fun b hb => ?_⟩
  have hb1 : (H.set b (.dict (List.zip [[100,97,116,97],[115,99,114,105,112,116,32,100,97,116,97],[115,99,114,105,112,116,32,100,97,116,97,32,108,101,115,115,45,116,104,97,110,32,115,105,103,110],[115,99,114,105,112,116,32,100,97,116,97,32,101,110,100,32,116,97,103,32,111,112,101,110],[115,99,114,105,112,116,32,100,97,116,97,32,101,110,100,32,116,97,103,32,110,97,109,101],[80,76,65,73,78,84,69,88,84]] [D.ref 377,D.ref 468,D.ref 475,D.ref 482,D.ref 489,D.ref 496]))) b = some (.dict (List.zip [[100,97,116,97],[115,99,114,105,112,116,32,100,97,116,97],[115,99,114,105,112,116,32,100,97,116,97,32,108,101,115,115,45,116,104,97,110,32,115,105,103,110],[115,99,114,105,112,116,32,100,97,116,97,32,101,110,100,32,116,97,103,32,111,112,101,110],[115,99,114,105,112,116,32,100,97,116,97,32,101,110,100,32,116,97,103,32,110,97,109,101],[80,76,65,73,78,84,69,88,84]] [D.ref 377,D.ref 468,D.ref 475,D.ref 482,D.ref 489,D.ref 496])) := set_self
  have hE1 := Ext.set hb (O := .dict (List.zip [[100,97,116,97],[115,99,114,105,112,116,32,100,97,116,97],[115,99,114,105,112,116,32,100,97,116,97,32,108,101,115,115,45,116,104,97,110,32,115,105,103,110],[115,99,114,105,112,116,32,100,97,116,97,32,101,110,100,32,116,97,103,32,111,112,101,110],[115,99,114,105,112,116,32,100,97,116,97,32,101,110,100,32,116,97,103,32,110,97,109,101],[80,76,65,73,78,84,69,88,84]] [D.ref 377,D.ref 468,D.ref 475,D.ref 482,D.ref 489,D.ref 496]))
  simp only [List.zip_cons_cons,List.zip_nil_right] at hb1 hE1 ⊢
  simp only [hb1,fn_rcdata_states,↓x_glo,↓f2e,↓f5e,↓x_call,↓xs_nil,glo_72,kOe,k5e,k22e]
  refine rcdata_states_c fun b2 G hE2 hb2 hg2 => ?_
  have hb3 := hE2 _ _ hb1
  have hE3 := hE1.trans hE2
  have n2 : b ≠ b2 := ne_fresh hb1 hb2
  simp only [↓x_loc,↓f21e,↓f22e,↓x_update,↓f48e,↓s_expr,↓f59e,↓ss_cons,hg2,hb3,kOe,k21e,put_v,bT,Nat.reduceBEq,emp_v]
  refine ⟨⟨n2,by simp,by decide⟩,?_⟩
  have hE4 := sub_set (O := .dict [([100,97,116,97],.ref 377),([115,99,114,105,112,116,32,100,97,116,97],.ref 468),([115,99,114,105,112,116,32,100,97,116,97,32,108,101,115,115,45,116,104,97,110,32,115,105,103,110],.ref 475),([115,99,114,105,112,116,32,100,97,116,97,32,101,110,100,32,116,97,103,32,111,112,101,110],.ref 482),([115,99,114,105,112,116,32,100,97,116,97,32,101,110,100,32,116,97,103,32,110,97,109,101],.ref 489),([80,76,65,73,78,84,69,88,84],.ref 496),([82,67,68,65,84,65],.ref 412),([82,67,68,65,84,65,32,108,101,115,115,45,116,104,97,110,32,115,105,103,110],.ref 419),([82,67,68,65,84,65,32,101,110,100,32,116,97,103,32,111,112,101,110],.ref 426),([82,67,68,65,84,65,32,101,110,100,32,116,97,103,32,110,97,109,101],.ref 433)]) hE3 hb
  simp only [List.cons_append,List.nil_append]
  have hb4 : (G.set b (.dict [([100,97,116,97],.ref 377),([115,99,114,105,112,116,32,100,97,116,97],.ref 468),([115,99,114,105,112,116,32,100,97,116,97,32,108,101,115,115,45,116,104,97,110,32,115,105,103,110],.ref 475),([115,99,114,105,112,116,32,100,97,116,97,32,101,110,100,32,116,97,103,32,111,112,101,110],.ref 482),([115,99,114,105,112,116,32,100,97,116,97,32,101,110,100,32,116,97,103,32,110,97,109,101],.ref 489),([80,76,65,73,78,84,69,88,84],.ref 496),([82,67,68,65,84,65],.ref 412),([82,67,68,65,84,65,32,108,101,115,115,45,116,104,97,110,32,115,105,103,110],.ref 419),([82,67,68,65,84,65,32,101,110,100,32,116,97,103,32,111,112,101,110],.ref 426),([82,67,68,65,84,65,32,101,110,100,32,116,97,103,32,110,97,109,101],.ref 433)])) b = some (.dict [([100,97,116,97],.ref 377),([115,99,114,105,112,116,32,100,97,116,97],.ref 468),([115,99,114,105,112,116,32,100,97,116,97,32,108,101,115,115,45,116,104,97,110,32,115,105,103,110],.ref 475),([115,99,114,105,112,116,32,100,97,116,97,32,101,110,100,32,116,97,103,32,111,112,101,110],.ref 482),([115,99,114,105,112,116,32,100,97,116,97,32,101,110,100,32,116,97,103,32,110,97,109,101],.ref 489),([80,76,65,73,78,84,69,88,84],.ref 496),([82,67,68,65,84,65],.ref 412),([82,67,68,65,84,65,32,108,101,115,115,45,116,104,97,110,32,115,105,103,110],.ref 419),([82,67,68,65,84,65,32,101,110,100,32,116,97,103,32,111,112,101,110],.ref 426),([82,67,68,65,84,65,32,101,110,100,32,116,97,103,32,110,97,109,101],.ref 433)]) := set_self
  simp only [hb4,fn_rawtext_states,↓x_glo,↓f2e,↓f5e,↓x_call,↓xs_nil,glo_71,kOe,k5e,k22e]
  refine rawtext_states_c fun b5 G5 hE5 hb5 hg5 => ?_
  have hb6 := hE5 _ _ hb4
  have n5 : b ≠ b5 := ne_fresh hb4 hb5
  simp only [↓x_loc,↓f21e,↓f48e,↓f56e,↓s_ret,↓f59e,↓ss_cons,hg5,hb6,↓f59r,↓fCr,kOe,k21e,put_v,bT,Nat.reduceBEq,emp_v]
  refine ⟨⟨n5,by simp,by decide⟩,?_⟩
  exact h b _ (sub_set (hE4.trans hE5) hb) set_self
end
end Mine
end
section
open PySem
namespace Mine
section
variable {P H : Hp} {n : Nat} {Q : K1}
noncomputable def okC (c : Nat) : Prop := c ≠ 13 ∧ c < 1114112
noncomputable def piecesL : List (List Nat) := [[97],[60,47,84,65],[62],[60,47,116],[0],[60],[47],[33],[38],[32],[10],[12],[9],[60,47],[60,47,116,65,62],[122],[90],[65],[84],[91],[96],[123],[64],[45],[]]
noncomputable def firstL : List Int := [3,17,0,4,14,0,4,5,6,0,2,9]
private theorem pieces_ok : ∀ p ∈ piecesL,p.length ≤ 5 ∧ ∀ c ∈ p,c ≠ 13 ∧ c < 1114112 := by decide
private theorem text_turn {m : Nat} {s pa fa : Addr} {o : PySem.Obj} {ns : List Int} {x : List Nat} {ρ : Ev} {G : Hp} {k : Nat} {K : K2} (hs : G s = some (.givn o (ns.map .int))) (hl : ns.length ≤ 63) (hp : G pa = some (.list (piecesL.map .str))) (hf : G fa = some (.list (firstL.map .int)))
    (h79 : ρ.v 79 = some (.ref s)) (h84 : ρ.v 84 = some (.ref pa)) (h87 : ρ.v 87 = some (.ref fa)) (h83 : ρ.v 83 = some (.int 26)) (h11 : ρ.v 11 = some (.str x)) (h81 : ρ.v 81 = some (.int k)) (hk : k < 12) (hx : x.length ≤ 1000) (hok : ∀ c ∈ x,okC c)
    (hK : ∀ (ρ' : Ev) (x' : List Nat),ρ'.v 79 = some (.ref s) → ρ'.v 84 = some (.ref pa) → ρ'.v 87 = some (.ref fa) → ρ'.v 83 = some (.int 26) → ρ'.v 11 = some (.str x') → x'.length ≤ x.length + 5 → (∀ c ∈ x',okC c) → K .next ρ' G) :
    Ss.wp tbl (callP tbl (m + 1)) lp_law_text_0 ρ K G := by
  have e1 : ((k : Int) + 2) = ((k + 2 : Nat) : Int) := by lia
  obtain ⟨fk,hfk⟩ : ∃ fk,firstL[k]? = some fk := ⟨_,List.getElem?_eq_getElem (by simpa [firstL] using hk)⟩
  have e2 : subs G (.ref fa) (.int k) = some (.int fk) := by
    simp only [subs,hf]
    rw [if_pos ⟨by lia,by unfold big; lia⟩]
    simp [hfk]
  have e3 : ∀ d : Int,binop .mod (.int d) (.int 26) = some (.int (d.fmod 26)) := fun d => by rw [b_mod_ii]; rw [if_pos (by decide)]
  have e4 : ∀ d : Int,binop .fdiv (.int d) (.int 26) = some (.int (d.fdiv 26)) := fun d => by rw [b_fdiv_ii]; rw [if_pos (by decide)]
  have e5 : ∀ d : Int,binop .mod (.int d) (.int 1114112) = some (.int (d.fmod 1114112)) := fun d => by rw [b_mod_ii]; rw [if_pos (by decide)]
  have lenp : (piecesL.map D.str).length = 25 := by decide
  simp only [lp_law_text_0,↓ss_cons,↓s_assign,↓x_int,↓x_loc,↓x_glo,↓x_call,↓x_bin,↓f2e,↓f5e,↓f33e,↓f34e,↓f45e,↓f46e,↓xs_nil,↓xs_cons,glo_86,fn_law_digit,h79,h81,b_add_ii,e1,kOe,k5e,k33e]
  refine digit_c hs hl (by lia) ?_
  generalize digitP ns (k + 2) = dg
  simp only [↓ss_cons,↓s_ite,↓x_loc,↓x_len,↓x_cmp,↓x_bin,↓x_sub,↓f24e,↓f33e,↓f34e,↓f36e,↓f37e,↓f49e,↓f57e,↓f59e,h81,h87,e2,b_add_ii,put_v,bT,bF,Nat.reduceBEq,h83,h84,hp,e3,lenp,c_lt_ii,↓f8r,↓f23lt,kOe,kBe,k8e,k33e]
  generalize hd : dg + fk = d
  refine ⟨by unfold big; lia,?_⟩
  have f0 : 0 ≤ d.fmod 26 := Int.fmod_nonneg_of_pos _ (by lia)
  have f1 : d.fmod 26 < 26 := Int.fmod_lt_of_pos _ (by lia)
  by_cases q : d.fmod 26 < ((25 : Nat) : Int)
  · rw [decide_eq_true q]
    simp only [↓x_loc,↓x_bin,↓s_assign,↓ss_cons,put_v,bF,Nat.reduceBEq,k57t]
    obtain ⟨p,hp1⟩ : ∃ p,piecesL[(d.fmod 26).toNat]? = some p := ⟨_,List.getElem?_eq_getElem (by show _ < 25; lia)⟩
    have e6 : subs G (.ref pa) (.int (d.fmod 26)) = some (.str p) := by
      simp only [subs,hp]
      rw [if_pos ⟨f0,by unfold big; lia⟩]
      simp [hp1]
    have pk := pieces_ok p (List.mem_of_getElem? hp1)
    simp only [h11,e6,b_add_ss,h83,h84,e3,↓x_loc,↓f33e,↓f34e,↓x_bin,↓f36e,↓f37e,↓x_sub,put_v,bT,bF,Nat.reduceBEq,kOe,k33e]
    rw [if_pos (by unfold big; lia)]
    simp only [↓f49e,↓ss_nil,↓f59e,k33e]
    refine hK _ (x ++ p) (by simpa using h79) (by simpa using h84) (by simpa using h87) (by simpa using h83) (by simp) (by simp; lia) fun c hc => ?_
    rcases List.mem_append.mp hc with hc | hc
    · exact hok c hc
    · exact pk.2 c hc
  · rw [decide_eq_false q]
    simp only [↓x_int,↓x_loc,↓x_chr,↓f23e,↓f24e,↓x_cmp,↓f33e,↓f34e,↓x_bin,↓f35e,↓x_ite,↓f49e,↓s_assign,↓f59e,↓ss_cons,put_v,bT,bF,Nat.reduceBEq,c_eq_ii,kOe,kBe,k33e,k57f,h11,h83,e4,e5]
    have g0 : 0 ≤ (d.fdiv 26).fmod 1114112 := Int.fmod_nonneg_of_pos _ (by lia)
    have g1 : (d.fdiv 26).fmod 1114112 < 1114112 := Int.fmod_lt_of_pos _ (by lia)
    skip
    generalize (d.fdiv 26).fmod 1114112 = pt at g0 g1
    by_cases q2 : pt = 13
    · simp only [decide_eq_true q2,b_add_ss,List.length_cons,List.length_nil,↓x_int,↓f9e,↓f33e,Nat.reduceAdd,k35t]
      refine ⟨by lia,?_⟩
      rw [if_pos (by unfold big; lia)]
      simp only [↓f49e,↓ss_nil,↓f59e,k33e]
      refine hK _ (x ++ [10]) (by simpa using h79) (by simpa using h84) (by simpa using h87) (by simpa using h83) (by simp) (by simp) fun c hc => ?_
      rcases List.mem_append.mp hc with hc | hc
      · exact hok c hc
      · simp at hc; subst hc; exact ⟨by decide,by decide⟩
    · simp only [decide_eq_false q2,b_add_ss,List.length_cons,List.length_nil,↓x_loc,↓f9e,↓f33e,put_v,bT,bF,Nat.reduceBEq,Nat.reduceAdd,kOe,k35f]
      refine ⟨⟨g0,g1⟩,?_⟩
      rw [if_pos (by unfold big; lia)]
      simp only [↓f49e,↓ss_nil,↓f59e,k33e]
      refine hK _ (x ++ [pt.toNat]) (by simpa using h79) (by simpa using h84) (by simpa using h87) (by simpa using h83) (by simp) (by simp) fun c hc => ?_
      rcases List.mem_append.mp hc with hc | hc
      · exact hok c hc
      · simp at hc; subst hc; exact ⟨by lia,by lia⟩
private theorem text_loop {m : Nat} {s pa fa : Addr} {o : PySem.Obj} {ns : List Int} {G : Hp} {K : K2} {st : Hp → Prop} (hs : G s = some (.givn o (ns.map .int))) (hl : ns.length ≤ 63) (hp : G pa = some (.list (piecesL.map .str))) (hf : G fa = some (.list (firstL.map .int))) (hst : st G) :
    ∀ (j k : Nat) (ρ : Ev) (x : List Nat),k + j = 12 → ρ.v 79 = some (.ref s) → ρ.v 84 = some (.ref pa) → ρ.v 87 = some (.ref fa) → ρ.v 83 = some (.int 26) → ρ.v 11 = some (.str x) → x.length ≤ 5 * k → (∀ c ∈ x,okC c) →
      (∀ (ρ' : Ev) (x' : List Nat),ρ'.v 11 = some (.str x') → x'.length ≤ 60 → (∀ c ∈ x',okC c) → K .next ρ' G) →
      overItems (fun ρ Q H => Ss.wp tbl (callP tbl (m + 1)) lp_law_text_0 ρ Q H) 81 st K (intsR k j) ρ G := by
  intro j
  induction j with
  | zero =>
    intro k ρ x hk h79 h84 h87 h83 h11 hx hok hK
    exact ⟨hst,hK ρ x h11 (by lia) hok⟩
  | succ j ih =>
    intro k ρ x hk h79 h84 h87 h83 h11 hx hok hK
    rw [intsR_cons]
    refine ⟨hst,?_⟩
    refine text_turn (k := k) hs hl hp hf (by simpa [put_v,put_c,cel_v,cel_c,bT,bF,Nat.reduceBEq] using h79) (by simpa [put_v,put_c,cel_v,cel_c,bT,bF,Nat.reduceBEq] using h84) (by simpa [put_v,put_c,cel_v,cel_c,bT,bF,Nat.reduceBEq] using h87) (by simpa [put_v,put_c,cel_v,cel_c,bT,bF,Nat.reduceBEq] using h83) (by simpa [put_v,put_c,cel_v,cel_c,bT,bF,Nat.reduceBEq] using h11) (by simp [put_v,bT]) (by lia) (by lia) hok fun ρ' x' a79 a84 a87 a83 a11 hx' hok' => ?_
    have := ih (k + 1) ρ' x' (by lia) a79 a84 a87 a83 a11 (by lia) hok' hK
    have e3 : (((k + 1 : Nat)) : Int) = (k : Int) + 1 := by lia
    rw [e3] at this
    exact this
private theorem ltext_c {s : Addr} {o : PySem.Obj} {ns : List Int} (hs : H s = some (.givn o (ns.map .int))) (hl : ns.length ≤ 63)
    (h : ∀ x H',Ext H H' → x.length ≤ 14 → (∀ c ∈ x,okC c) → Q (.str x) H') : callP tbl (n + 2) 531 [.ref s] Q H := by
  rw [callP_at fn_law_text]; simp only [bP0,bP1,kPe,en0,↓fWe,↓ss_cons,↓s_assign,↓x_str,↓x_loc,↓x_bin,↓x_list,↓f33e,↓f34e,↓f41e,↓f45e,↓f46e,↓f49e,↓f59e,↓xs_nil,↓xs_cons,put_v,bT,bF,Nat.reduceBEq,emp_v,b_add_rr,fd_law_text,b_law_text,kOe,k33n]
  refine ⟨by simp [big],fun a ha => ⟨by simp [big],fun b hb => ?_⟩⟩
  have ha1 : ((H.set a (.list [.str [97],.str [60,47,84,65],.str [62],.str [60,47,116],.str [0],.str [60],.str [47],.str [33],.str [38],.str [32],.str [10],.str [12],.str [9],.str [60,47],.str [60,47,116,65,62]])).set b (.list [.str [122],.str [90],.str [65],.str [84],.str [91],.str [96],.str [123],.str [64],.str [45],.str []])) a = some (.list [.str [97],.str [60,47,84,65],.str [62],.str [60,47,116],.str [0],.str [60],.str [47],.str [33],.str [38],.str [32],.str [10],.str [12],.str [9],.str [60,47],.str [60,47,116,65,62]]) := by
    rw [set_ne (ne_fresh set_self hb),set_self]
  have hE := (Ext.set ha (O := .list [.str [97],.str [60,47,84,65],.str [62],.str [60,47,116],.str [0],.str [60],.str [47],.str [33],.str [38],.str [32],.str [10],.str [12],.str [9],.str [60,47],.str [60,47,116,65,62]])).trans (Ext.set hb (O := .list [.str [122],.str [90],.str [65],.str [84],.str [91],.str [96],.str [123],.str [64],.str [45],.str []]))
  simp only [ha1,set_self,↓x_int,↓x_loc,↓x_len,↓x_bin,↓f41e,↓x_list,↓xs_nil,↓f45e,↓f46e,↓xs_cons,↓f49e,↓s_assign,↓f59e,↓ss_cons,put_v,bT,bF,Nat.reduceBEq,emp_v,↓f8r,kOe,k33be]
  generalize ((H.set a (.list [.str [97],.str [60,47,84,65],.str [62],.str [60,47,116],.str [0],.str [60],.str [47],.str [33],.str [38],.str [32],.str [10],.str [12],.str [9],.str [60,47],.str [60,47,116,65,62]])).set b (.list [.str [122],.str [90],.str [65],.str [84],.str [91],.str [96],.str [123],.str [64],.str [45],.str []])) = G at hE ha1
  refine ⟨by simp [big],fun p hp => ⟨by simp [big],fun f hf => ?_⟩⟩
  have hpp : ((G.set p (.list ([.str [97],.str [60,47,84,65],.str [62],.str [60,47,116],.str [0],.str [60],.str [47],.str [33],.str [38],.str [32],.str [10],.str [12],.str [9],.str [60,47],.str [60,47,116,65,62]] ++ [.str [122],.str [90],.str [65],.str [84],.str [91],.str [96],.str [123],.str [64],.str [45],.str []]))).set f (.list [.int 3,.int 17,.int 0,.int 4,.int 14,.int 0,.int 4,.int 5,.int 6,.int 0,.int 2,.int 9])) p = some (.list (piecesL.map .str)) := by
    rw [set_ne (ne_fresh set_self hf),set_self]; rfl
  have hff : ((G.set p (.list ([.str [97],.str [60,47,84,65],.str [62],.str [60,47,116],.str [0],.str [60],.str [47],.str [33],.str [38],.str [32],.str [10],.str [12],.str [9],.str [60,47],.str [60,47,116,65,62]] ++ [.str [122],.str [90],.str [65],.str [84],.str [91],.str [96],.str [123],.str [64],.str [45],.str []]))).set f (.list [.int 3,.int 17,.int 0,.int 4,.int 14,.int 0,.int 4,.int 5,.int 6,.int 0,.int 2,.int 9])) f = some (.list (firstL.map .int)) := set_self
  have hE2 := hE.trans ((Ext.set hp).trans (Ext.set hf (O := .list [.int 3,.int 17,.int 0,.int 4,.int 14,.int 0,.int 4,.int 5,.int 6,.int 0,.int 2,.int 9])))
  generalize ((G.set p (.list ([.str [97],.str [60,47,84,65],.str [62],.str [60,47,116],.str [0],.str [60],.str [47],.str [33],.str [38],.str [32],.str [10],.str [12],.str [9],.str [60,47],.str [60,47,116,65,62]] ++ [.str [122],.str [90],.str [65],.str [84],.str [91],.str [96],.str [123],.str [64],.str [45],.str []]))).set f (.list [.int 3,.int 17,.int 0,.int 4,.int 14,.int 0,.int 4,.int 5,.int 6,.int 0,.int 2,.int 9])) = G2 at hpp hff hE2
  have lenp : (piecesL.map D.str).length = 25 := by decide
  simp only [hpp,lenp,↓x_int,↓x_str,↓f14e,↓x_range1,↓f33e,↓f34e,↓f49e,↓s_assign,↓f58e,↓s_for_,↓f59e,↓ss_cons,b_add_ii,k8e,k33e]
  refine ⟨by unfold big; lia,⟨⟨by lia,by unfold big; lia⟩,fun r hr => ?_⟩⟩
  simp only [itemsOf,set_self]
  rw [if_pos ⟨by lia,by unfold big; lia,by lia,by unfold big; lia⟩]
  simp only [k58e]
  have hE3 := hE2.trans (Ext.set hr (O := .range 0 12))
  have hp3 := (Ext.set hr (O := .range 0 12)) _ _ hpp
  have hf3 := (Ext.set hr (O := .range 0 12)) _ _ hff
  generalize G2.set r (.range 0 12) = G3 at hE3 hp3 hf3
  show overItems _ _ _ _ (intsR ((0 : Nat) : Int) 12) _ _
  refine text_loop (s := s) (pa := p) (fa := f) (hE3 _ _ hs) hl hp3 hf3 (show G3 r = G3 r from rfl) 12 0 _ [] rfl (by simp) (by simp) (by simp) (by simp) (by simp) (by simp) (fun c hc => by simp at hc) fun ρ' x' a11 hx hok => ?_
  have e14 : sliceS x' .none (.int 14) = some (x'.take 14) := slice_0n (b := 14)
  simp only [↓ss_cons,↓s_ret,↓x_none,↓x_int,↓x_loc,↓x_slice,↓f38e,↓f39e,↓f40e,↓f56e,↓f59e,a11,e14,↓f59r,↓fCr,kOe,k38e]
  refine ⟨by unfold big; lia,h (x'.take 14) G3 hE3 (by rw [List.length_take]; lia) fun c hc => hok c (List.mem_of_mem_take hc)⟩
end
end Mine
end
section
open PySem
namespace Mine
inductive Path : TS → TS → Prop
  | refl (σ : TS) : Path σ σ
  | step {σ σ' : TS} : σ.ok → σ.drafts → readyR σ = true → Path (stepF σ) σ' → Path σ σ'
private theorem Path.trans {a b c : TS} (h : Path a b) (k : Path b c) : Path a c := by
  induction h with
  | refl => exact k
  | step h1 h2 h3 _ ih => exact .step h1 h2 h3 (ih k)
private theorem Path.one {a : TS} (h1 : a.ok) (h2 : a.drafts) (h3 : readyR a = true) : Path a (stepF a) := .step h1 h2 h3 (.refl _)
private theorem Path.det {a b c : TS} (h : Path a b) (k : Path a c) (hc : readyR c = false) : Path b c := by
  induction h with
  | refl => exact k
  | step h1 h2 h3 _ ih =>
    cases k with
    | refl => rw [hc] at h3; cases h3
    | step _ _ _ k => exact ih k
private theorem Path.runs {a b : TS} (h : Path a b) (hl : b.signs.length ≤ 10000) (hb : readyR b = false) : ∃ N,Runs N a b := by
  induction h with
  | refl => exact ⟨1,.stop hl hb⟩
  | step h1 h2 h3 _ ih =>
    obtain ⟨N,r⟩ := ih hl hb
    exact ⟨N + 1,.step h1 h2 h3 r⟩
noncomputable def TS.ext (σ : TS) (y : List Nat) (m : Nat) (b : Bool) : TS := { σ with signs := σ.signs ++ y,seB := m,closed := b }
section
variable {σ : TS} {y : List Nat} {m : Nat} {b : Bool}
private theorem nextR_ext (h : σ.at_ < σ.signs.length) : nextR (σ.ext y m b) = nextR σ := by
  unfold nextR TS.ext
  dsimp only
  rw [List.getElem?_append_left h]
private theorem dataF_ext (h : nextR (σ.ext y m b) = nextR σ) : dataF (σ.ext y m b) = (dataF σ).ext y m b := by
  unfold dataF
  rw [h]
  repeat (first | rfl | split)
private theorem heldF_ext {k : List Nat} (h : nextR (σ.ext y m b) = nextR σ) : heldF k (σ.ext y m b) = (heldF k σ).ext y m b := by
  unfold heldF
  rw [h]
  repeat (first | rfl | split)
private theorem lessF_ext {k : List Nat} (h : nextR (σ.ext y m b) = nextR σ) : lessF k (σ.ext y m b) = (lessF k σ).ext y m b := by
  unfold lessF
  rw [h]
  repeat (first | rfl | split)
private theorem openF_ext {k : List Nat} (h : nextR (σ.ext y m b) = nextR σ) : openF k (σ.ext y m b) = (openF k σ).ext y m b := by
  unfold openF
  rw [h]
  repeat (first | rfl | split)
private theorem nameF_ext {k : List Nat} (h : nextR (σ.ext y m b) = nextR σ) : nameF k (σ.ext y m b) = (nameF k σ).ext y m b := by
  unfold nameF
  rw [h]
  have : aptR (σ.ext y m b) = aptR σ := rfl
  rw [this]
  repeat (first | rfl | split)
private theorem ext_ite {p : Prop} [Decidable p] {s t : TS} : (if p then s else t).ext y m b = if p then s.ext y m b else t.ext y m b := by split <;> rfl
private theorem stepF_ext (h : nextR (σ.ext y m b) = nextR σ) : stepF (σ.ext y m b) = (stepF σ).ext y m b := by
  unfold stepF
  have e : (σ.ext y m b).state = σ.state := rfl
  rw [e]
  unfold stateF
  simp only [dataF_ext h,heldF_ext h,lessF_ext h,openF_ext h,nameF_ext h,ext_ite]
private theorem stepF_closed : (stepF σ).closed = σ.closed ∧ (stepF σ).signs = σ.signs ∧ (stepF σ).seB = σ.seB := by
  have one : ∀ {p : Prop} [Decidable p] {s t : TS},(s.closed = σ.closed ∧ s.signs = σ.signs ∧ s.seB = σ.seB) → (t.closed = σ.closed ∧ t.signs = σ.signs ∧ t.seB = σ.seB) → ((if p then s else t).closed = σ.closed ∧ (if p then s else t).signs = σ.signs ∧ (if p then s else t).seB = σ.seB) := fun h k => by
    split
    · exact h
    · exact k
  have z : σ.closed = σ.closed ∧ σ.signs = σ.signs ∧ σ.seB = σ.seB := ⟨rfl,rfl,rfl⟩
  have hd : (dataF σ).closed = σ.closed ∧ (dataF σ).signs = σ.signs ∧ (dataF σ).seB = σ.seB := by
    unfold dataF; exact one z (one z (one z (one z z)))
  have hh : ∀ k,(heldF k σ).closed = σ.closed ∧ (heldF k σ).signs = σ.signs ∧ (heldF k σ).seB = σ.seB := fun k => by
    unfold heldF; exact one z (one z (one z (one z z)))
  have hl : ∀ k,(lessF k σ).closed = σ.closed ∧ (lessF k σ).signs = σ.signs ∧ (lessF k σ).seB = σ.seB := fun k => by
    unfold lessF; exact one z (one z z)
  have ho : ∀ k,(openF k σ).closed = σ.closed ∧ (openF k σ).signs = σ.signs ∧ (openF k σ).seB = σ.seB := fun k => by
    unfold openF; exact one z z
  have hn : ∀ k,(nameF k σ).closed = σ.closed ∧ (nameF k σ).signs = σ.signs ∧ (nameF k σ).seB = σ.seB := fun k => by
    unfold nameF; exact one z (one z (one z (one z z)))
  unfold stepF stateF
  exact one hd (one (hh _) (one (hl _) (one (ho _) (one (hn _) (one (hh _) (one (hl _) (one (ho _) (one (hn _) (one (hh _) (one (hl _) (one (ho _) (one (hn _) (one (hh _) z)))))))))))))
private theorem Path.same {σ σ' : TS} (h : Path σ σ') : σ'.closed = σ.closed ∧ σ'.signs = σ.signs ∧ σ'.seB = σ.seB := by
  induction h with
  | refl => exact ⟨rfl,rfl,rfl⟩
  | @step σ σ' _ _ _ _ ih =>
    obtain ⟨a1,a2,a3⟩ := stepF_closed (σ := σ)
    exact ⟨ih.1.trans a1,ih.2.1.trans a2,ih.2.2.trans a3⟩
private theorem ready_open (hc : σ.closed = false) (h : readyR σ = true) : σ.at_ < σ.signs.length := by
  unfold readyR at h
  rw [hc] at h
  simp only [Bool.and_eq_true,Bool.or_eq_true,Bool.false_eq_true,false_or,decide_eq_true_eq] at h
  exact h.2
private theorem ready_ext (hc : σ.closed = false) (h : readyR σ = true) : readyR (σ.ext y m b) = true := by
  have hl := ready_open hc h
  unfold readyR at h ⊢
  simp only [Bool.and_eq_true,Bool.or_eq_true,decide_eq_true_eq] at h ⊢
  refine ⟨h.1,.inr ?_⟩
  show σ.at_ < (σ.signs ++ y).length
  rw [List.length_append]; lia
private theorem Path.ext {σ σ' : TS} (h : Path σ σ') (hc : σ.closed = false) (hl : (σ.signs ++ y).length ≤ 10000) : Path (σ.ext y m b) (σ'.ext y m b) := by
  induction h with
  | refl => exact .refl _
  | @step σ σ' h1 h2 h3 _ ih =>
    obtain ⟨a1,a2,a3⟩ := stepF_closed (σ := σ)
    have hn := nextR_ext (y := y) (m := m) (b := b) (ready_open hc h3)
    have := ih (a1.trans hc) (by rw [a2]; exact hl)
    rw [← stepF_ext hn] at this
    refine .step ⟨hl,h1.2⟩ h2 (ready_ext hc h3) this
end
end Mine
end
section
open PySem
namespace Mine
section
variable {kind last : List Nat} {i : Nat} {c : Nat} {t r : List Nat} {b : Bool}
private theorem stopS_le {m a : Nat} {s : List Nat} (h : stopS kind last i r = some (m,a,s)) : i ≤ m ∧ i < a ∧ m ≤ a := by
  unfold stopS at h
  split at h
  · cases h; lia
  split at h
  · cases h
  split at h
  · cases h; lia
  split at h
  · cases h; lia
  split at h
  · unfold stopE at h
    split at h
    · cases h; lia
    · cases h
  · cases h
private theorem stopG_cons (h : stopS kind last i (c :: t) = none) : stopG kind last i (c :: t) = stopG kind last (i + 1) t := by
  conv => lhs; unfold stopG
  rw [h]
private theorem stopG_le : ∀ {r : List Nat} {i m a : Nat} {s : List Nat},stopG kind last i r = some (m,a,s) → i ≤ m ∧ i < a ∧ m ≤ a
  | [],_,_,_,_,h => by cases h
  | c :: t,i,m,a,s,h => by
    unfold stopG at h
    split at h
    · rename_i q
      rw [h] at q
      exact stopS_le q
    · have := stopG_le h
      lia
noncomputable def V (kind last : List Nat) (i : Nat) (r : List Nat) (b : Bool) : List Nat := match stopG kind last i r with
  | some (m,_,_) => r.take (m - i)
  | none => if b = true then r else r.take (r.length - (tailP r kind).1)
noncomputable def W (kind last : List Nat) (i : Nat) (r : List Nat) : List Nat := match stopG kind last i r with
  | some (_,a,_) => r.take (a - i)
  | none => r
private theorem take_succ_sub {m i : Nat} (h : i + 1 ≤ m) : (c :: t).take (m - i) = c :: t.take (m - (i + 1)) := by
  rw [show m - i = (m - (i + 1)) + 1 by lia,List.take_succ_cons]
private theorem V_cons (hs : stopS kind last i (c :: t) = none) (ht : b = false → tailP (c :: t) kind = tailP t kind) : V kind last i (c :: t) b = c :: V kind last (i + 1) t b := by
  unfold V
  rw [stopG_cons hs]
  cases q : stopG kind last (i + 1) t with
  | none =>
    dsimp only
    have := tailP_le (x := t) (kind := kind)
    split
    · rfl
    · rename_i hb
      rw [ht (by simpa using hb)]
      rw [List.length_cons,show t.length + 1 - (tailP t kind).1 = (t.length - (tailP t kind).1) + 1 by lia,List.take_succ_cons]
  | some p =>
    obtain ⟨m,a,s⟩ := p
    have := stopG_le q
    exact take_succ_sub this.1
private theorem W_cons (hs : stopS kind last i (c :: t) = none) : W kind last i (c :: t) = c :: W kind last (i + 1) t := by
  unfold W
  rw [stopG_cons hs]
  cases q : stopG kind last (i + 1) t with
  | none => rfl
  | some p =>
    obtain ⟨m,a,s⟩ := p
    have := stopG_le q
    exact take_succ_sub (by lia)
private theorem stopS_plain (h : c ≠ 60) (h2 : ¬ (c = 38 ∧ kind ∈ [[100,97,116,97],[82,67,68,65,84,65]])) : stopS kind last i (c :: t) = none := by
  unfold stopS
  rw [if_neg (by simpa using h2),if_pos (.inl (by simpa using h))]
private theorem tailG_cons (h : ¬ ((c :: t).take 2 = [60,47] ∧ (((c :: t).drop 2).takeWhile isLet).length = ((c :: t).drop 2).length)) : tailG kind (c :: t) = tailG kind t := by
  conv => lhs; unfold tailG
  rw [if_neg h]
private theorem tailP_cons (h : c = 60 → t ≠ [] ∧ ¬ ((c :: t).take 2 = [60,47] ∧ (((c :: t).drop 2).takeWhile isLet).length = ((c :: t).drop 2).length)) : tailP (c :: t) kind = tailP t kind := by
  unfold tailP
  split
  · rfl
  · have hg : tailG kind (c :: t) = tailG kind t := tailG_cons fun z => by
      have hc : c = 60 := by
        have := z.1
        cases t <;> simp at this
        exact this.1
      exact (h hc).2 z
    rw [hg]
    cases t with
    | nil =>
      have hc : c ≠ 60 := fun q => (h q).1 rfl
      simp [hc]
    | cons d t =>
      have : (c :: d :: t).drop ((c :: d :: t).length - 1) = (d :: t).drop ((d :: t).length - 1) := by
        simp only [List.length_cons]
        rw [show t.length + 1 + 1 - 1 = (t.length + 1 - 1) + 1 by lia,List.drop_succ_cons]
      rw [this]
noncomputable def leftK (kind r : List Nat) (bd : List Nat × Option (List Nat)) : List Nat × Option (List Nat) := if kind ∈ [[100,97,116,97],[80,76,65,73,78,84,69,88,84]] then bd else leftG r bd
private theorem leftS_ne {bd : List Nat × Option (List Nat)} (h : c ≠ 60) : leftS (c :: t) bd = bd := by
  unfold leftS
  rw [if_neg]
  intro z
  cases t <;> simp at z
  exact h z.1
private theorem leftK_cons {bd : List Nat × Option (List Nat)} : leftK kind (c :: t) bd = leftK kind t (if kind ∈ [[100,97,116,97],[80,76,65,73,78,84,69,88,84]] then bd else leftS (c :: t) bd) := by
  unfold leftK
  split
  · rfl
  · rfl
noncomputable def res (b : Bool) (kind last : List Nat) (σ : TS) (r : List Nat) : TS :=
  match stopG kind last σ.at_ r with
  | some (_,a,s) => { σ with out := σ.out ++ outP kind (V kind last σ.at_ r b) ++ (if s = [100,97,116,97] then [endT last] else []),errs := σ.errs ++ errP σ.at_ (V kind last σ.at_ r b),at_ := a,state := s,back := if s = [99,104,97,114,97,99,116,101,114,32,114,101,102,101,114,101,110,99,101] then kind else σ.back,buffer := (leftK kind (W kind last σ.at_ r) (σ.buffer,σ.draft)).1,draft := if s = [100,97,116,97] then none else (leftK kind (W kind last σ.at_ r) (σ.buffer,σ.draft)).2 }
  | none => { σ with out := σ.out ++ outP kind (V kind last σ.at_ r b) ++ (if b = true then [eofT] else []),errs := σ.errs ++ errP σ.at_ (V kind last σ.at_ r b),at_ := if b = true then σ.at_ + r.length + 1 else σ.at_ + r.length,state := if b = true then kind else (tailP r kind).2,buffer := (leftK kind (W kind last σ.at_ r) (σ.buffer,σ.draft)).1,draft := (leftK kind (W kind last σ.at_ r) (σ.buffer,σ.draft)).2,done := if b = true then true else σ.done }
private theorem errP_cons {y : List Nat} : errP i (c :: y) = (if c = 0 then [nullT i] else []) ++ errP (i + 1) y := by
  conv => lhs; unfold errP
  split <;> rfl
private theorem res_cons {σ : TS} (hs : stopS kind last σ.at_ (c :: t) = none) (ht : b = false → tailP (c :: t) kind = tailP t kind) {bf : List Nat} {dr : Option (List Nat)}
    (hbd : (if kind ∈ [[100,97,116,97],[80,76,65,73,78,84,69,88,84]] then (σ.buffer,σ.draft) else leftS (c :: W kind last (σ.at_ + 1) t) (σ.buffer,σ.draft)) = (bf,dr)) :
    res b kind last σ (c :: t) = res b kind last { σ with out := σ.out ++ [outC kind c],errs := σ.errs ++ (if c = 0 then [nullT σ.at_] else []),at_ := σ.at_ + 1,buffer := bf,draft := dr } t := by
  unfold res
  rw [stopG_cons hs,V_cons hs ht,W_cons hs,leftK_cons,hbd]
  have e3 : (if b = true then kind else (tailP (c :: t) kind).2) = (if b = true then kind else (tailP t kind).2) := by
    split
    · rfl
    · rename_i hb; rw [ht (by simpa using hb)]
  rw [e3]
  have e1 : outP kind (c :: V kind last (σ.at_ + 1) t b) = [outC kind c] ++ outP kind (V kind last (σ.at_ + 1) t b) := rfl
  rw [e1,errP_cons]
  have e2 : σ.at_ + (c :: t).length = σ.at_ + 1 + t.length := by simp; lia
  rw [e2]
  cases stopG kind last (σ.at_ + 1) t <;> simp [List.append_assoc]
end
end Mine
end
section
open PySem
namespace Mine
section
variable {σ : TS} {kind last pre r t : List Nat} {c : Nat} {b : Bool}
noncomputable def K3 (kind : List Nat) : Prop := kind = [82,67,68,65,84,65] ∨ kind = [82,65,87,84,69,88,84] ∨ kind = [115,99,114,105,112,116,32,100,97,116,97]
private theorem K3.text (h : K3 kind) : stateF kind σ = heldF kind σ ∧ (lookS kind statesKV).isSome = true := by
  rcases h with rfl | rfl | rfl <;> exact ⟨rfl,by decide⟩
private theorem K3.less (h : K3 kind) : stateF (kind ++ [32,108,101,115,115,45,116,104,97,110,32,115,105,103,110]) σ = lessF kind σ ∧ (lookS (kind ++ [32,108,101,115,115,45,116,104,97,110,32,115,105,103,110]) statesKV).isSome = true := by
  rcases h with rfl | rfl | rfl <;> exact ⟨rfl,by decide⟩
private theorem K3.opn (h : K3 kind) : stateF (kind ++ [32,101,110,100,32,116,97,103,32,111,112,101,110]) σ = openF kind σ ∧ (lookS (kind ++ [32,101,110,100,32,116,97,103,32,111,112,101,110]) statesKV).isSome = true := by
  rcases h with rfl | rfl | rfl <;> exact ⟨rfl,by decide⟩
private theorem K3.nam (h : K3 kind) : stateF (kind ++ [32,101,110,100,32,116,97,103,32,110,97,109,101]) σ = nameF kind σ ∧ (lookS (kind ++ [32,101,110,100,32,116,97,103,32,110,97,109,101]) statesKV).isSome = true := by
  rcases h with rfl | rfl | rfl <;> exact ⟨rfl,by decide⟩
private theorem K3.nd (h : K3 kind) : kind ≠ [100,97,116,97] ∧ kind ≠ [80,76,65,73,78,84,69,88,84] ∧ kind ∉ [[100,97,116,97],[80,76,65,73,78,84,69,88,84]] := by
  rcases h with rfl | rfl | rfl <;> decide
noncomputable def notName (s : List Nat) : Prop := s ≠ [82,67,68,65,84,65,32,101,110,100,32,116,97,103,32,110,97,109,101] ∧ s ≠ [82,65,87,84,69,88,84,32,101,110,100,32,116,97,103,32,110,97,109,101] ∧ s ≠ [115,99,114,105,112,116,32,100,97,116,97,32,101,110,100,32,116,97,103,32,110,97,109,101]
private theorem notName.drafts (h : notName σ.state) : σ.drafts := fun z => by
  rcases z with z | z | z
  · exact absurd z h.1
  · exact absurd z h.2.1
  · exact absurd z h.2.2
private theorem K3.nn (h : K3 kind) : notName kind ∧ notName (kind ++ [32,108,101,115,115,45,116,104,97,110,32,115,105,103,110]) ∧ notName (kind ++ [32,101,110,100,32,116,97,103,32,111,112,101,110]) := by
  rcases h with rfl | rfl | rfl <;> (unfold notName; decide)
structure Bd (σ : TS) : Prop where
  s : σ.signs.length ≤ 100
  o : σ.out.length ≤ 300
  e : σ.errs.length ≤ 300
  b : σ.buffer.length ≤ 200
  d : ∀ nm,σ.draft = some nm → nm.length ≤ 200
private theorem Bd.ok (h : Bd σ) : σ.ok := ⟨by have := h.s; lia,by have := h.o; have := h.b; unfold big; lia,by have := h.e; unfold big; lia,fun nm e => by have := h.d nm e; unfold big; lia⟩
private theorem rd_of (h1 : σ.done = false) (h2 : (lookS σ.state statesKV).isSome = true) (h3 : σ.closed = true ∨ σ.at_ < σ.signs.length) : readyR σ = true := by
  unfold readyR
  rw [h1,h2]
  simpa using h3
private theorem stp {τ : TS} (h : stepF σ = τ) (ok : Bd σ) (dr : notName σ.state) (h1 : σ.done = false) (h2 : (lookS σ.state statesKV).isSome = true) (h3 : σ.closed = true ∨ σ.at_ < σ.signs.length) : Path σ τ :=
  h ▸ Path.one ok.ok dr.drafts (rd_of h1 h2 h3)
private theorem nextR_at (hs : σ.signs = pre ++ r) (ha : σ.at_ = pre.length) : nextR σ = r.take 1 := by
  unfold nextR
  rw [hs,ha,List.getElem?_append_right (Nat.le_refl _),Nat.sub_self]
  cases r <;> rfl
structure Sec (b : Bool) (kind : List Nat) (σ : TS) (pre r : List Nat) : Prop where
  sg : σ.signs = pre ++ r
  at_ : σ.at_ = pre.length
  st : σ.state = kind
  dn : σ.done = false
  cl : σ.closed = b
  s : σ.signs.length ≤ 100
  o : σ.out.length + r.length ≤ 290
  e : σ.errs.length + r.length ≤ 290
  b : σ.buffer.length ≤ 150
  d : ∀ nm,σ.draft = some nm → nm.length ≤ 150
private theorem Sec.bd (h : Sec b kind σ pre r) : Bd σ := ⟨h.s,by have := h.o; lia,by have := h.e; lia,by have := h.b; lia,fun nm q => by have := h.d nm q; lia⟩
private theorem Sec.lt (h : Sec b kind σ pre (c :: t)) : σ.at_ < σ.signs.length := by rw [h.sg,h.at_]; simp
noncomputable def emitS (σ : TS) (kind : List Nat) (c : Nat) : TS := { σ with out := σ.out ++ [outC kind c],errs := σ.errs ++ (if c = 0 then [nullT σ.at_] else []),at_ := σ.at_ + 1 }
private theorem Sec.emit (h : Sec b kind σ pre (c :: t)) : Sec b kind (emitS σ kind c) (pre ++ [c]) t where
  sg := by show σ.signs = _; rw [h.sg]; simp
  at_ := by show σ.at_ + 1 = _; rw [h.at_]; simp
  st := h.st
  dn := h.dn
  cl := h.cl
  s := h.s
  o := by have := h.o; simp only [emitS,List.length_append,List.length_cons,List.length_nil] at *; lia
  e := by have := h.e; simp only [emitS,List.length_append,List.length_cons] at *; split <;> simp <;> lia
  b := h.b
  d := h.d
private theorem res_nil_open (h : σ.state = kind) : res false kind last σ [] = σ := by
  unfold res V W
  have e1 : tailP [] kind = (0,kind) := by
    unfold tailP
    split <;> rfl
  have e2 : leftK kind [] (σ.buffer,σ.draft) = (σ.buffer,σ.draft) := by unfold leftK leftG; split <;> rfl
  simp only [stopG,e1,e2]
  subst h
  simp [outP,errP]
private theorem res_nil_end : res true kind last σ [] = { σ with out := σ.out ++ [eofT],at_ := σ.at_ + 1,state := kind,done := true } := by
  unfold res V W
  have e2 : leftK kind [] (σ.buffer,σ.draft) = (σ.buffer,σ.draft) := by unfold leftK leftG; split <;> rfl
  simp only [stopG,e2]
  simp [outP,errP]
private theorem data_look : (lookS [100,97,116,97] statesKV).isSome = true ∧ notName [100,97,116,97] := ⟨by decide,by unfold notName; decide⟩
private theorem sect_data : ∀ (r pre : List Nat) (σ : TS),Sec b [100,97,116,97] σ pre r → Path σ (res b [100,97,116,97] last σ r)
  | [],pre,σ,h => by
    have hn := nextR_at h.sg h.at_
    cases b with
    | false => rw [res_nil_open h.st]; exact .refl _
    | true =>
      rw [res_nil_end]
      refine stp ?_ h.bd (by rw [h.st]; exact data_look.2) h.dn (by rw [h.st]; exact data_look.1) (.inl h.cl)
      unfold stepF
      rw [h.st]
      show dataF σ = _
      unfold dataF
      rw [hn,if_pos (show List.take 1 ([] : List Nat) = [] from rfl)]
      have e := h.st
      simp only [nextS,e]
  | c :: t,pre,σ,h => by
    have hn := nextR_at h.sg h.at_
    have hst : stepF σ = dataF σ := by unfold stepF; rw [h.st]; rfl
    have go : ∀ τ,dataF σ = τ → Path σ τ := fun τ e => stp (hst.trans e) h.bd (by rw [h.st]; exact data_look.2) h.dn (by rw [h.st]; exact data_look.1) (.inr h.lt)
    by_cases q1 : c = 38
    · have e : res b [100,97,116,97] last σ (c :: t) = { σ with at_ := σ.at_ + 1,state := [99,104,97,114,97,99,116,101,114,32,114,101,102,101,114,101,110,99,101],back := [100,97,116,97] } := by
        subst q1
        have hs : stopG [100,97,116,97] last σ.at_ (38 :: t) = some (σ.at_,σ.at_ + 1,[99,104,97,114,97,99,116,101,114,32,114,101,102,101,114,101,110,99,101]) := by
          unfold stopG stopS
          simp
        unfold res V W leftK
        rw [hs]
        simp [outP,errP]
      rw [e]
      refine go _ ?_
      unfold dataF
      rw [hn,q1]
      simp [nextS]
    by_cases q2 : c = 60
    · have e : res b [100,97,116,97] last σ (c :: t) = { σ with at_ := σ.at_ + 1,state := [116,97,103,32,111,112,101,110] } := by
        subst q2
        have hs : stopG [100,97,116,97] last σ.at_ (60 :: t) = some (σ.at_,σ.at_ + 1,[116,97,103,32,111,112,101,110]) := by
          unfold stopG stopS
          simp
        unfold res V W leftK
        rw [hs]
        simp [outP,errP]
      rw [e]
      refine go _ ?_
      unfold dataF
      rw [hn,q2]
      simp [nextS]
    have hs : stopS [100,97,116,97] last σ.at_ (c :: t) = none := stopS_plain q2 fun z => q1 z.1
    rw [res_cons hs (fun u_ => tailP_cons fun z => absurd z q2) (bf := σ.buffer) (dr := σ.draft) (by simp)]
    refine (go (emitS σ [100,97,116,97] c) ?_).trans (sect_data t (pre ++ [c]) (emitS σ [100,97,116,97] c) h.emit)
    unfold dataF emitS outC
    rw [hn]
    by_cases q3 : c = 0
    · simp [q3,nextS]
    · simp [q1,q2,q3,nextS]
private theorem plain_look : (lookS [80,76,65,73,78,84,69,88,84] statesKV).isSome = true ∧ notName [80,76,65,73,78,84,69,88,84] := ⟨by decide,by unfold notName; decide⟩
private theorem sect_plain : ∀ (r pre : List Nat) (σ : TS),Sec b [80,76,65,73,78,84,69,88,84] σ pre r → Path σ (res b [80,76,65,73,78,84,69,88,84] last σ r)
  | [],pre,σ,h => by
    have hn := nextR_at h.sg h.at_
    cases b with
    | false => rw [res_nil_open h.st]; exact .refl _
    | true =>
      rw [res_nil_end]
      refine stp ?_ h.bd (by rw [h.st]; exact plain_look.2) h.dn (by rw [h.st]; exact plain_look.1) (.inl h.cl)
      unfold stepF
      rw [h.st]
      show heldF [80,76,65,73,78,84,69,88,84] σ = _
      unfold heldF
      rw [hn,if_pos (show List.take 1 ([] : List Nat) = [] from rfl)]
      have e := h.st
      simp only [nextS,e]
  | c :: t,pre,σ,h => by
    have hn := nextR_at h.sg h.at_
    have hst : stepF σ = heldF [80,76,65,73,78,84,69,88,84] σ := by unfold stepF; rw [h.st]; rfl
    have go : ∀ τ,heldF [80,76,65,73,78,84,69,88,84] σ = τ → Path σ τ := fun τ e => stp (hst.trans e) h.bd (by rw [h.st]; exact plain_look.2) h.dn (by rw [h.st]; exact plain_look.1) (.inr h.lt)
    have hs : stopS [80,76,65,73,78,84,69,88,84] last σ.at_ (c :: t) = none := by
      unfold stopS
      rw [if_neg (fun z => absurd z.2 (by decide)),if_pos (.inr rfl)]
    have ht : tailP (c :: t) [80,76,65,73,78,84,69,88,84] = tailP t [80,76,65,73,78,84,69,88,84] := by
      unfold tailP
      rw [if_pos (by decide),if_pos (by decide)]
    rw [res_cons hs (fun u_ => ht) (bf := σ.buffer) (dr := σ.draft) (by simp)]
    refine (go (emitS σ [80,76,65,73,78,84,69,88,84] c) ?_).trans (sect_plain t (pre ++ [c]) (emitS σ [80,76,65,73,78,84,69,88,84] c) h.emit)
    unfold heldF emitS outC
    rw [hn]
    by_cases q3 : c = 0
    · simp [q3,nextS]
    · simp [q3,nextS]
end
end Mine
end
section
open PySem
namespace Mine
section
variable {σ : TS} {kind last pre r t : List Nat} {c : Nat} {b : Bool}
private theorem isLet_iff {x : Nat} : isLet x = true ↔ (97 ≤ x ∧ x ≤ 122) ∨ (65 ≤ x ∧ x ≤ 90) := by
  constructor
  · intro h
    have h1 : ∀ c ∈ alph,(97 ≤ c ∧ c ≤ 122) ∨ (65 ≤ c ∧ c ≤ 90) := by decide
    exact h1 x (by simpa [isLet] using h)
  · intro h
    have h1 : ∀ c,c < 123 → ((97 ≤ c ∧ c ≤ 122) ∨ (65 ≤ c ∧ c ≤ 90)) → isLet c = true := by decide
    exact h1 x (by lia) h
private theorem isLetterP_one {x : Nat} : isLetterP [x] = isLet x := by
  have h : isLetterP [x] = true ↔ isLet x = true := by
    rw [isLet_iff]
    unfold isLetterP
    simp [lt_one]
  cases h1 : isLetterP [x] <;> cases h2 : isLet x <;> simp_all
private theorem isLetterP_nil : isLetterP [] = false := by decide
private theorem lowP_let {x : Nat} (h : isLet x = true) : lowP x = foldC x := by
  have := isLet_iff.mp h
  unfold lowP foldC
  by_cases q : 65 ≤ x ∧ x ≤ 90
  · rw [if_pos q,if_pos (by lia)]
  · rw [if_neg q,if_neg (by lia)]
private theorem low_fold {L : List Nat} (h : ∀ x ∈ L,isLet x = true) : L.map lowP = foldP L := by
  unfold foldP
  exact List.map_congr_left fun x hx => lowP_let (h x hx)
private theorem W_pre {i : Nat} : ∃ k,W kind last i r = r.take k := by
  unfold W
  split
  · exact ⟨_,rfl⟩
  · exact ⟨r.length,by simp⟩
private theorem stopS_60 (hk : K3 kind) {i : Nat} : stopS kind last i (60 :: t) = if kind = [115,99,114,105,112,116,32,100,97,116,97] ∧ t.take 1 = [33] then some (i + 2,i + 2,[115,99,114,105,112,116,32,100,97,116,97,32,101,115,99,97,112,101,32,115,116,97,114,116]) else if t.take 1 = [47] then stopE last i (60 :: t) else none := by
  unfold stopS
  have nd := hk.nd
  rw [if_neg (fun z => absurd z.1 (by simp)),if_neg (fun z => z.elim (fun z => z rfl) nd.2.1),if_neg nd.1]
  rfl
private theorem left_skip : ∀ {p w : List Nat} {bd : List Nat × Option (List Nat)},(∀ x ∈ p,x ≠ 60) → leftG (p ++ w) bd = leftG w bd
  | [],_,_,_ => rfl
  | c :: p,w,bd,h => by
    show leftG (p ++ w) (leftS (c :: (p ++ w)) bd) = _
    rw [leftS_ne (h c (.head _))]
    exact left_skip fun x hx => h x (.tail _ hx)
private theorem let_ne {x : Nat} (h : isLet x = true) : x ≠ 60 ∧ x ≠ 38 ∧ x ≠ 0 ∧ x ≠ 47 := by
  have := isLet_iff.mp h
  lia
private theorem tw_app {L w : List Nat} (hL : ∀ x ∈ L,isLet x = true) (hw : w.takeWhile isLet = []) : (L ++ w).takeWhile isLet = L := by
  induction L with
  | nil => exact hw
  | cons x L ih =>
    rw [List.cons_append,List.takeWhile_cons,hL x (.head _)]
    simp only [if_true]
    rw [ih fun y hy => hL y (.tail _ hy)]
private theorem leftS_chunk {L w : List Nat} {bd : List Nat × Option (List Nat)} (hL : ∀ x ∈ L,isLet x = true) (hw : w.takeWhile isLet = []) : leftS (60 :: 47 :: (L ++ w)) bd = (L,if L = [] then bd.2 else some (foldP L)) := by
  unfold leftS
  have e1 : (60 :: 47 :: (L ++ w)).take 2 = [60,47] := rfl
  have e2 : (60 :: 47 :: (L ++ w)).drop 2 = L ++ w := rfl
  rw [if_pos e1,e2,tw_app hL hw]
private theorem tw_take {w : List Nat} (hw : w.takeWhile isLet = []) (k : Nat) : (w.take k).takeWhile isLet = [] := by
  cases w with
  | nil => simp
  | cons x w =>
    cases k with
    | zero => rfl
    | succ k =>
      rw [List.take_succ_cons]
      rw [List.takeWhile_cons] at hw ⊢
      split
      · rename_i q; rw [q] at hw; simp at hw
      · rfl
private theorem W_app {i : Nat} {p w : List Nat} (hp : ∀ x ∈ p,x ≠ 60 ∧ x ≠ 38) : W kind last i (p ++ w) = p ++ W kind last (i + p.length) w := by
  induction p generalizing i with
  | nil => rfl
  | cons x p ih =>
    rw [List.cons_append,W_cons (stopS_plain (hp x (.head _)).1 fun z => (hp x (.head _)).2 z.1),ih fun y hy => hp y (.tail _ hy),List.length_cons,show i + 1 + p.length = i + (p.length + 1) by lia]
    rfl
private theorem res_plain : ∀ {p w : List Nat} {σ : TS},(∀ x ∈ p,x ≠ 60 ∧ x ≠ 38 ∧ x ≠ 0) → res b kind last σ (p ++ w) = res b kind last { σ with out := σ.out ++ p.map charT,at_ := σ.at_ + p.length } w
  | [],w,σ,_ => by simp
  | c :: p,w,σ,h => by
    have hc := h c (.head _)
    have hs : stopS kind last σ.at_ (c :: (p ++ w)) = none := stopS_plain hc.1 fun z => hc.2.1 z.1
    rw [List.cons_append,res_cons hs (fun u_ => tailP_cons fun z => absurd z hc.1) (bf := σ.buffer) (dr := σ.draft) (by
      split
      · rfl
      · exact leftS_ne hc.1),res_plain fun x hx => h x (.tail _ hx)]
    have e1 : outC kind c = charT c := by
      unfold outC
      rw [if_neg fun z => hc.2.2 z.1]; rfl
    rw [e1,if_neg hc.2.2]
    simp only [List.append_assoc,List.map_cons,List.length_cons,List.append_nil,List.singleton_append]
    rw [show σ.at_ + 1 + p.length = σ.at_ + (p.length + 1) by lia]
private theorem res_chunk (hk : K3 kind) {L w : List Nat} (hL : ∀ x ∈ L,isLet x = true) (hw : w.takeWhile isLet = []) (hs : stopS kind last σ.at_ (60 :: 47 :: (L ++ w)) = none) (ht : b = false → w ≠ []) :
    res b kind last σ (60 :: 47 :: (L ++ w)) = res b kind last { σ with out := σ.out ++ ([60,47] ++ L).map charT,at_ := σ.at_ + (2 + L.length),buffer := L,draft := if L = [] then σ.draft else some (foldP L) } w := by
  have hpl : ∀ x ∈ (47 :: L),x ≠ 60 ∧ x ≠ 38 ∧ x ≠ 0 := fun x hx => by
    rcases List.mem_cons.mp hx with rfl | hx
    · lia
    · have := let_ne (hL x hx); lia
  have hW : W kind last (σ.at_ + 1) (47 :: (L ++ w)) = 47 :: (L ++ W kind last (σ.at_ + 1 + (47 :: L).length) w) := W_app (p := 47 :: L) fun x hx => ⟨(hpl x hx).1,(hpl x hx).2.1⟩
  obtain ⟨k,hkk⟩ := W_pre (kind := kind) (last := last) (r := w) (i := σ.at_ + 1 + (47 :: L).length)
  rw [res_cons hs (bf := L) (dr := if L = [] then σ.draft else some (foldP L)) (fun hb => tailP_cons fun u_ => ⟨by simp,fun z => ?_⟩) (by
    rw [if_neg hk.nd.2.2,hW,hkk,leftS_chunk hL (tw_take hw k)])]
  · have e1 : outC kind 60 = charT 60 := by unfold outC; rw [if_neg (by simp)]; rfl
    have := res_plain (b := b) (kind := kind) (last := last) (p := 47 :: L) (w := w) (σ := { σ with out := σ.out ++ [charT 60],errs := σ.errs,at_ := σ.at_ + 1,buffer := L,draft := if L = [] then σ.draft else some (foldP L) }) hpl
    rw [List.cons_append] at this
    rw [e1,if_neg (by lia),List.append_nil,this]
    simp only [List.append_assoc,List.map_cons,List.length_cons,List.cons_append,List.nil_append]
    rw [show σ.at_ + 1 + (L.length + 1) = σ.at_ + (2 + L.length) by lia]
  · have e2 : (60 :: 47 :: (L ++ w)).drop 2 = L ++ w := rfl
    have := z.2
    rw [e2,tw_app hL hw,List.length_append] at this
    have hw0 := ht hb
    cases w with
    | nil => exact hw0 rfl
    | cons => simp at this
private theorem res_lone (hk : K3 kind) (hs : stopS kind last σ.at_ (60 :: t) = none) (ht : t.take 1 ≠ [47]) (hb : b = false → t ≠ []) : res b kind last σ (60 :: t) = res b kind last (emitS σ kind 60) t := by
  obtain ⟨k,hkk⟩ := W_pre (kind := kind) (last := last) (r := t) (i := σ.at_ + 1)
  have no : ∀ k,¬ (60 :: t.take k).take 2 = [60,47] := fun k z => by
    cases t with
    | nil => simp at z
    | cons x t =>
      cases k with
      | zero => simp at z
      | succ k => simp at z; simp [z] at ht
  rw [res_cons hs (bf := σ.buffer) (dr := σ.draft) (fun hb' => tailP_cons fun u_ => ⟨hb hb',fun z => ?_⟩) (by
    rw [if_neg hk.nd.2.2,hkk]
    unfold leftS
    rw [if_neg (no k)])]
  · rfl
  · have := no t.length
    rw [List.take_length] at this
    exact this z.1
private theorem name_letters (hk : K3 kind) : ∀ (L rest pre D : List Nat) (σ : TS),σ.signs = pre ++ (L ++ rest) → σ.at_ = pre.length → σ.state = kind ++ [32,101,110,100,32,116,97,103,32,110,97,109,101] → σ.done = false → σ.draft = some D → (∀ x ∈ L,isLet x = true) → σ.signs.length ≤ 100 → σ.out.length ≤ 300 → σ.errs.length ≤ 300 → σ.buffer.length ≤ pre.length → D.length ≤ pre.length →
    Path σ { σ with at_ := σ.at_ + L.length,buffer := σ.buffer ++ L,draft := some (D ++ L.map lowP) }
  | [],rest,pre,D,σ,hs,ha,hst,hd,hdr,_,_,_,_,_,_ => by
    have : { σ with at_ := σ.at_ + ([] : List Nat).length,buffer := σ.buffer ++ [],draft := some (D ++ ([] : List Nat).map lowP) } = σ := by
      simp [← hdr]
    rw [this]; exact .refl _
  | x :: L,rest,pre,D,σ,hs,ha,hst,hd,hdr,hL,h1,h2,h3,h4,h5 => by
    have hn := nextR_at hs ha
    have hlt : σ.at_ < σ.signs.length := by rw [hs,ha]; simp
    have hx := hL x (.head _)
    have hpl : pre.length ≤ 100 := by
      have := congrArg List.length hs
      rw [List.length_append] at this; lia
    have e : stepF σ = { σ with at_ := σ.at_ + 1,buffer := σ.buffer ++ [x],draft := some (D ++ [lowP x]) } := by
      unfold stepF
      rw [hst,hk.nam.1]
      unfold nameF
      rw [hn]
      have : isLetterP ((x :: L ++ rest).take 1) = true := by
        show isLetterP [x] = true
        rw [isLetterP_one]; exact hx
      rw [if_pos this,hdr]
      show { nextS σ with draft := some (D ++ [lowP x]),buffer := σ.buffer ++ [x] } = _
      simp only [nextS,hst]
    have one : Path σ { σ with at_ := σ.at_ + 1,buffer := σ.buffer ++ [x],draft := some (D ++ [lowP x]) } := e ▸ Path.one
      (Bd.ok ⟨h1,h2,h3,by lia,fun nm q => by rw [hdr] at q; cases q; lia⟩) (fun u_ => ⟨_,hdr⟩) (rd_of hd (by rw [hst]; exact (hk.nam (σ := σ)).2) (.inr hlt))
    have := name_letters hk L rest (pre ++ [x]) (D ++ [lowP x]) { σ with at_ := σ.at_ + 1,buffer := σ.buffer ++ [x],draft := some (D ++ [lowP x]) } (by simp [hs]) (by simp [ha]) hst hd rfl (fun y hy => hL y (.tail _ hy)) h1 h2 h3 (by simp; lia) (by simp; lia)
    refine one.trans ?_
    have e2 : ({ σ with at_ := σ.at_ + (x :: L).length,buffer := σ.buffer ++ x :: L,draft := some (D ++ (x :: L).map lowP) } : TS) = { σ with at_ := σ.at_ + 1 + L.length,buffer := σ.buffer ++ [x] ++ L,draft := some (D ++ [lowP x] ++ L.map lowP) } := by
      simp only [List.length_cons,List.append_assoc,List.singleton_append,List.map_cons]
      rw [show σ.at_ + 1 + L.length = σ.at_ + (L.length + 1) by lia]
    rw [e2]
    exact this
end
end Mine
end
section
open PySem
namespace Mine
section
variable {σ : TS} {kind last pre r t : List Nat} {c : Nat} {b : Bool}
private theorem stopE_eq {i : Nat} {L w : List Nat} (hL : ∀ x ∈ L,isLet x = true) (hw : w.takeWhile isLet = []) : stopE last i (60 :: 47 :: (L ++ w)) = if L ≠ [] ∧ foldP L = last ∧ behindP (w.take 1) ≠ [] then some (i,i + 2 + L.length + 1,behindP (w.take 1)) else none := by
  unfold stopE
  have e2 : (60 :: 47 :: (L ++ w)).drop 2 = L ++ w := rfl
  rw [e2,tw_app hL hw,List.drop_left]
private theorem stopS_47 (hk : K3 kind) {i : Nat} {L w : List Nat} (hL : ∀ x ∈ L,isLet x = true) (hw : w.takeWhile isLet = []) : stopS kind last i (60 :: 47 :: (L ++ w)) = if L ≠ [] ∧ foldP L = last ∧ behindP (w.take 1) ≠ [] then some (i,i + 2 + L.length + 1,behindP (w.take 1)) else none := by
  rw [stopS_60 hk,if_neg (fun z => by have := z.2; simp at this),if_pos (show List.take 1 (47 :: (L ++ w)) = [47] from rfl),stopE_eq hL hw]
private theorem tailP_47 (hk : K3 kind) {L : List Nat} (hL : ∀ x ∈ L,isLet x = true) : tailP (60 :: 47 :: L) kind = (2 + L.length,kind ++ (if L = [] then [32,101,110,100,32,116,97,103,32,111,112,101,110] else [32,101,110,100,32,116,97,103,32,110,97,109,101])) := by
  unfold tailP
  rw [if_neg hk.nd.2.2]
  have h1 : (60 :: 47 :: L).drop ((60 :: 47 :: L).length - 1) ≠ [60] := fun z => by
    rcases List.eq_nil_or_concat L with rfl | ⟨L',x,rfl⟩
    · simp at z
    · have : (60 :: 47 :: (L' ++ [x])).drop ((60 :: 47 :: (L' ++ [x])).length - 1) = [x] := by
        have e : (60 :: 47 :: (L' ++ [x])) = (60 :: 47 :: L') ++ [x] := by simp
        rw [e,List.length_append,List.length_singleton,Nat.add_sub_cancel,List.drop_left]
      simp only [List.concat_eq_append] at z
      rw [this] at z
      have hx := (let_ne (hL x (by simp))).1
      simp at z
      exact hx z
  rw [if_neg h1]
  unfold tailG
  have e2 : (60 :: 47 :: L).drop 2 = L := rfl
  have e3 : L.takeWhile isLet = L := by
    have := tw_app (w := []) hL rfl
    simpa using this
  rw [if_pos ⟨rfl,by rw [e2,e3]⟩]
  rfl
private theorem stopG_plain {i : Nat} {p : List Nat} (hp : ∀ x ∈ p,x ≠ 60 ∧ x ≠ 38) : stopG kind last i p = none := by
  induction p generalizing i with
  | nil => rfl
  | cons x p ih =>
    rw [stopG_cons (stopS_plain (hp x (.head _)).1 fun z => (hp x (.head _)).2 z.1)]
    exact ih fun y hy => hp y (.tail _ hy)
private theorem res_held (hk : K3 kind) {L : List Nat} (hL : ∀ x ∈ L,isLet x = true) : res false kind last σ (60 :: 47 :: L) = { σ with at_ := σ.at_ + (2 + L.length),state := kind ++ (if L = [] then [32,101,110,100,32,116,97,103,32,111,112,101,110] else [32,101,110,100,32,116,97,103,32,110,97,109,101]),buffer := L,draft := if L = [] then σ.draft else some (foldP L) } := by
  have hs : stopS kind last σ.at_ (60 :: 47 :: L) = none := by
    have := stopS_47 (last := last) (i := σ.at_) hk (w := []) hL rfl
    rw [List.append_nil] at this
    rw [this,if_neg fun z => z.2.2 behind_nil]
  have hpl : ∀ x ∈ (47 :: L),x ≠ 60 ∧ x ≠ 38 := fun x hx => by
    rcases List.mem_cons.mp hx with rfl | hx
    · lia
    · have := let_ne (hL x hx); lia
  have hg : stopG kind last σ.at_ (60 :: 47 :: L) = none := by
    rw [stopG_cons hs]
    exact stopG_plain hpl
  have hl : leftK kind (60 :: 47 :: L) (σ.buffer,σ.draft) = (L,if L = [] then σ.draft else some (foldP L)) := by
    unfold leftK
    rw [if_neg hk.nd.2.2]
    show leftG (47 :: L) (leftS (60 :: 47 :: L) (σ.buffer,σ.draft)) = _
    have e1 := leftS_chunk (w := []) (bd := (σ.buffer,σ.draft)) hL rfl
    rw [List.append_nil] at e1
    rw [e1]
    have := left_skip (p := 47 :: L) (w := []) (bd := (L,if L = [] then σ.draft else some (foldP L))) fun x hx => (hpl x hx).1
    rw [List.append_nil] at this
    exact this
  unfold res V W
  rw [hg]
  simp only [tailP_47 hk hL,hl,Bool.false_eq_true,if_false]
  have e3 : (60 :: 47 :: L).length - (2 + L.length) = 0 := by simp; lia
  have e4 : (60 :: 47 :: L).length = 2 + L.length := by simp; lia
  rw [e3,e4]
  simp [outP,errP]
private theorem res_stop (hk : K3 kind) {L w : List Nat} {d : Nat} (hL : ∀ x ∈ L,isLet x = true) (hw : (d :: w).takeWhile isLet = []) (h1 : L ≠ []) (h2 : foldP L = last) (h3 : behindP [d] ≠ []) (h4 : d ≠ 60) : res b kind last σ (60 :: 47 :: (L ++ d :: w)) =
    { σ with out := σ.out ++ (if behindP [d] = [100,97,116,97] then [endT last] else []),at_ := σ.at_ + 2 + L.length + 1,state := behindP [d],buffer := L,draft := if behindP [d] = [100,97,116,97] then none else some (foldP L) } := by
  have hs : stopG kind last σ.at_ (60 :: 47 :: (L ++ d :: w)) = some (σ.at_,σ.at_ + 2 + L.length + 1,behindP [d]) := by
    have := stopS_47 (last := last) (i := σ.at_) hk hL hw
    have e : (d :: w).take 1 = [d] := rfl
    rw [e,if_pos ⟨h1,h2,h3⟩] at this
    unfold stopG
    rw [this]
  have hb : behindP [d] ≠ [99,104,97,114,97,99,116,101,114,32,114,101,102,101,114,101,110,99,101] := by
    unfold behindP
    split
    · decide
    · split
      · decide
      · split <;> decide
  have hl : leftK kind (60 :: 47 :: (L ++ [d])) (σ.buffer,σ.draft) = (L,some (foldP L)) := by
    unfold leftK
    rw [if_neg hk.nd.2.2]
    show leftG (47 :: (L ++ [d])) (leftS (60 :: 47 :: (L ++ [d])) (σ.buffer,σ.draft)) = _
    rw [leftS_chunk (w := [d]) hL (tw_take hw 1),if_neg h1]
    have := left_skip (p := 47 :: (L ++ [d])) (w := []) (bd := (L,some (foldP L))) fun x hx => by
      rcases List.mem_cons.mp hx with rfl | hx
      · lia
      · rcases List.mem_append.mp hx with hx | hx
        · exact (let_ne (hL x hx)).1
        · simp at hx; subst hx; exact h4
    rw [List.append_nil] at this
    exact this
  unfold res V W
  rw [hs]
  have e1 : (60 :: 47 :: (L ++ d :: w)).take (σ.at_ + 2 + L.length + 1 - σ.at_) = 60 :: 47 :: (L ++ [d]) := by
    rw [show σ.at_ + 2 + L.length + 1 - σ.at_ = (L.length + 1) + 2 by lia]
    show 60 :: 47 :: ((L ++ d :: w).take (L.length + 1)) = _
    rw [List.take_append,List.take_of_length_le (by lia)]
    simp
  simp only [Nat.sub_self,List.take_zero,e1,hl,if_neg hb]
  simp [outP,errP]
end
end Mine
end
section
open PySem
namespace Mine
section
variable {kind last : List Nat} {b : Bool}
private theorem name_back {σ : TS} {q : List Nat} {L : List Nat} (hn : nextR σ = q) (hq : isLetterP q = false) (hd : σ.draft = some (foldP L)) (hb : σ.buffer = L) (hla : σ.last = last) (h : ¬ (L ≠ [] ∧ foldP L = last ∧ behindP q ≠ [])) (hL : L ≠ []) : nameF kind σ = { σ with out := σ.out ++ ([60,47] ++ L).map charT,state := kind } := by
  have apt : aptR σ = true → behindP q = [] := fun z => by
    unfold aptR at z
    rw [hd,hla] at z
    simp only [Bool.and_eq_true,decide_eq_true_eq] at z
    exact Classical.byContradiction fun y => h ⟨hL,z.2,y⟩
  unfold nameF
  rw [hn,if_neg (by rw [hq]; simp),if_neg,if_neg,if_neg,hb]
  · intro z
    have := apt z.1
    rw [z.2] at this
    exact absurd this (by decide)
  · intro z
    have := apt z.1
    rw [z.2] at this
    exact absurd this (by decide)
  · intro z
    have := apt z.1
    have z2 := z.2
    unfold isBlankP at z2
    simp only [decide_eq_true_eq,List.mem_cons,List.not_mem_nil,or_false] at z2
    rcases z2 with z2 | z2 | z2 | z2 <;> (rw [z2] at this; exact absurd this (by decide))
private theorem name_stop {σ : TS} {d : Nat} {L : List Nat} (hn : nextR σ = [d]) (hq : isLet d = false) (hd : σ.draft = some (foldP L)) (hla : σ.last = last) (h1 : L ≠ []) (h2 : foldP L = last) (h3 : behindP [d] ≠ []) :
    nameF kind σ = { σ with out := σ.out ++ (if behindP [d] = [100,97,116,97] then [endT last] else []),at_ := σ.at_ + 1,state := behindP [d],draft := if behindP [d] = [100,97,116,97] then none else some (foldP L) } ∧ d ≠ 60 := by
  have hne : foldP L ≠ [] := by
    unfold foldP
    cases L with
    | nil => exact absurd rfl h1
    | cons => simp
  have apt : aptR σ = true := by
    unfold aptR
    rw [hd,hla]
    simp only [Bool.and_eq_true,decide_eq_true_eq]
    exact ⟨by rw [← h2]; exact hne,h2⟩
  have hq' : isLetterP [d] = false := by rw [isLetterP_one]; exact hq
  unfold nameF
  rw [hn,if_neg (by rw [hq']; simp)]
  simp only [apt,true_and]
  by_cases a1 : d = 62
  · subst a1
    have e1 : behindP [62] = [100,97,116,97] := by decide
    have e2 : isBlankP [62] = false := by decide
    rw [e1,e2,if_neg (by simp),if_neg (by simp),if_pos rfl,hd]
    refine ⟨?_,by lia⟩
    simp only [Option.getD_some,h2,nextS]
    simp
  by_cases a2 : d = 47
  · subst a2
    have e1 : behindP [47] = [115,101,108,102,45,99,108,111,115,105,110,103,32,115,116,97,114,116,32,116,97,103] := by decide
    have e2 : isBlankP [47] = false := by decide
    rw [e1,e2,if_neg (by simp),if_pos rfl]
    refine ⟨?_,by lia⟩
    simp [nextS,hd]
  have e1 : behindP [d] = [98,101,102,111,114,101,32,97,116,116,114,105,98,117,116,101,32,110,97,109,101] ∧ [d] ∈ ([[32],[10],[9],[12]] : List (List Nat)) := by
    unfold behindP at h3 ⊢
    rw [if_neg (by simpa using a1),if_neg (by simpa using a2)] at h3 ⊢
    split at h3
    · rename_i z; rw [if_pos z]; exact ⟨rfl,z⟩
    · exact absurd rfl h3
  have e2 : isBlankP [d] = true ∧ d ≠ 60 := by
    have := e1.2
    simp only [List.mem_cons,List.not_mem_nil,or_false,List.cons.injEq,and_true] at this
    rcases this with rfl | rfl | rfl | rfl <;> exact ⟨by decide,by lia⟩
  rw [e1.1,if_pos e2.1]
  refine ⟨?_,e2.2⟩
  simp [nextS,hd]
private theorem sect_k3 (hk : K3 kind) : ∀ (n : Nat) (r pre : List Nat) (σ : TS),r.length ≤ n → Sec b kind σ pre r → σ.last = last → Path σ (res b kind last σ r) := by
  intro n
  induction n with
  | zero =>
    intro r pre σ hr h hla
    obtain rfl : r = [] := List.length_eq_zero_iff.mp (by lia)
    have hn := nextR_at h.sg h.at_
    cases b with
    | false => rw [res_nil_open h.st]; exact .refl _
    | true =>
      rw [res_nil_end]
      refine stp ?_ h.bd (by rw [h.st]; exact hk.nn.1) h.dn (by rw [h.st]; exact (hk.text (σ := σ)).2) (.inl h.cl)
      unfold stepF
      rw [h.st,hk.text.1]
      unfold heldF
      rw [hn,if_pos (show List.take 1 ([] : List Nat) = [] from rfl)]
      have e := h.st
      simp only [nextS,e]
  | succ n ih =>
    intro r pre σ hr h hla
    cases r with
    | nil => exact ih [] pre σ (by simp) h hla
    | cons c t =>
    have hn := nextR_at h.sg h.at_
    have hn : nextR σ = [c] := hn
    have nd := hk.nd
    have hst : stepF σ = heldF kind σ := by unfold stepF; rw [h.st,hk.text.1]
    have go : ∀ τ,heldF kind σ = τ → Path σ τ := fun τ e => stp (hst.trans e) h.bd (by rw [h.st]; exact hk.nn.1) h.dn (by rw [h.st]; exact (hk.text (σ := σ)).2) (.inr h.lt)
    by_cases q1 : c = 38 ∧ kind ∈ [[100,97,116,97],[82,67,68,65,84,65]]
    · obtain ⟨rfl,q1⟩ := q1
      have hkr : kind = [82,67,68,65,84,65] := by
        simp only [List.mem_cons,List.not_mem_nil,or_false] at q1
        rcases q1 with q1 | q1
        · exact absurd q1 nd.1
        · exact q1
      have hs : stopG kind last σ.at_ (38 :: t) = some (σ.at_,σ.at_ + 1,[99,104,97,114,97,99,116,101,114,32,114,101,102,101,114,101,110,99,101]) := by
        unfold stopG stopS
        rw [if_pos ⟨rfl,q1⟩]
      have e : res b kind last σ (38 :: t) = { σ with at_ := σ.at_ + 1,state := [99,104,97,114,97,99,116,101,114,32,114,101,102,101,114,101,110,99,101],back := kind } := by
        have hl : leftK kind [38] (σ.buffer,σ.draft) = (σ.buffer,σ.draft) := by
          unfold leftK
          rw [if_neg nd.2.2]
          show leftS [38] (σ.buffer,σ.draft) = _
          exact leftS_ne (by lia)
        unfold res V W
        rw [hs]
        have e2 : σ.at_ + 1 - σ.at_ = 1 := by lia
        simp only [Nat.sub_self,List.take_zero,e2,List.take_succ_cons,hl]
        simp [outP,errP]
      rw [e]
      refine go _ ?_
      unfold heldF
      rw [hn,if_neg (by simp),if_pos ⟨rfl,hkr⟩]
      rfl
    by_cases q2 : c = 60
    rotate_left
    · have hs : stopS kind last σ.at_ (c :: t) = none := stopS_plain q2 q1
      rw [res_cons hs (fun u_ => tailP_cons fun z => absurd z q2) (bf := σ.buffer) (dr := σ.draft) (by rw [if_neg nd.2.2]; exact leftS_ne q2)]
      refine (go (emitS σ kind c) ?_).trans (ih t (pre ++ [c]) (emitS σ kind c) (by simp at hr; lia) h.emit hla)
      have q1' : ¬ ([c] = [38] ∧ kind = [82,67,68,65,84,65]) := fun z => q1 ⟨by simpa using z.1,by rw [z.2]; decide⟩
      have q2' : ¬ ([c] = [60] ∧ kind ≠ [80,76,65,73,78,84,69,88,84]) := fun z => q2 (by simpa using z.1)
      unfold heldF emitS outC
      rw [hn,if_neg (by simp),if_neg q1',if_neg q2']
      by_cases q3 : c = 0
      · simp [q3,nextS,nd.1]
      · simp [q3,nextS]
    subst q2
    have p1 : Path σ { σ with at_ := σ.at_ + 1,state := kind ++ [32,108,101,115,115,45,116,104,97,110,32,115,105,103,110] } := by
      refine go _ ?_
      unfold heldF
      rw [hn,if_neg (by simp),if_neg (fun z => absurd z.1 (by simp)),if_pos ⟨rfl,nd.2.1⟩]
      rfl
    have sg1 : σ.signs = (pre ++ [60]) ++ t := by rw [h.sg]; simp
    have at1 : σ.at_ + 1 = (pre ++ [60]).length := by rw [h.at_]; simp
    have hsl := h.s
    have hpl : pre.length + (60 :: t).length ≤ 100 := by rw [h.sg] at hsl; rw [List.length_append] at hsl; exact hsl
    have ho := h.o
    have he := h.e
    have hb := h.b
    have hdd := h.d
    have goL : ∀ τ,(b = true ∨ t ≠ []) → lessF kind { σ with at_ := σ.at_ + 1,state := kind ++ [32,108,101,115,115,45,116,104,97,110,32,115,105,103,110] } = τ → Path { σ with at_ := σ.at_ + 1,state := kind ++ [32,108,101,115,115,45,116,104,97,110,32,115,105,103,110] } τ := fun τ hbt e => by
      refine stp ?_ ⟨h.s,by show σ.out.length ≤ _; lia,by show σ.errs.length ≤ _; lia,by show σ.buffer.length ≤ _; lia,fun nm q => by have := hdd nm q; lia⟩ hk.nn.2.1 h.dn (hk.less (σ := σ)).2 ?_
      · unfold stepF
        rw [hk.less.1]; exact e
      · rcases hbt with hbt | hbt
        · exact .inl (h.cl.trans hbt)
        · right
          show σ.at_ + 1 < σ.signs.length
          rw [sg1,at1,List.length_append]
          cases t with
          | nil => exact absurd rfl hbt
          | cons => simp
    have hn1 : nextR { σ with at_ := σ.at_ + 1,state := kind ++ [32,108,101,115,115,45,116,104,97,110,32,115,105,103,110] } = t.take 1 := nextR_at (σ := { σ with at_ := σ.at_ + 1,state := kind ++ [32,108,101,115,115,45,116,104,97,110,32,115,105,103,110] }) sg1 at1
    by_cases q3 : t.take 1 = [33] ∧ kind = [115,99,114,105,112,116,32,100,97,116,97]
    · obtain ⟨t',rfl⟩ : ∃ t',t = 33 :: t' := by
        cases t with
        | nil => exact absurd q3.1 (by simp)
        | cons d t' => have := q3.1; simp at this; exact ⟨t',by rw [this]⟩
      have hs : stopG kind last σ.at_ (60 :: 33 :: t') = some (σ.at_ + 2,σ.at_ + 2,[115,99,114,105,112,116,32,100,97,116,97,32,101,115,99,97,112,101,32,115,116,97,114,116]) := by
        unfold stopG
        rw [stopS_60 hk,if_pos ⟨q3.2,rfl⟩]
      have e : res b kind last σ (60 :: 33 :: t') = { σ with out := σ.out ++ [60,33].map charT,at_ := σ.at_ + 2,state := [115,99,114,105,112,116,32,100,97,116,97,32,101,115,99,97,112,101,32,115,116,97,114,116] } := by
        have hl : leftK kind [60,33] (σ.buffer,σ.draft) = (σ.buffer,σ.draft) := by
          unfold leftK
          rw [if_neg nd.2.2]
          rfl
        unfold res V W
        rw [hs]
        have e2 : σ.at_ + 2 - σ.at_ = 2 := by lia
        simp only [e2,List.take_succ_cons,List.take_zero,hl]
        have e3 : outP kind [60,33] = [60,33].map charT := by simp [outP,outC,charT,chT]
        rw [e3]
        simp [errP]
      rw [e]
      refine p1.trans (goL _ (.inr (by simp)) ?_)
      unfold lessF
      rw [hn1,if_neg (by rw [q3.1]; simp),if_pos q3]
      rfl
    by_cases q4 : t.take 1 = [47]
    rotate_left
    · -- a lone "<"
      by_cases q5 : t = [] ∧ b = false
      · obtain ⟨rfl,rfl⟩ := q5
        have hs : stopG kind last σ.at_ [60] = none := by
          unfold stopG
          rw [stopS_60 hk,if_neg (fun z => absurd z.2 (by simp)),if_neg (by simp)]
          rfl
        have ht : tailP [60] kind = (1,kind ++ [32,108,101,115,115,45,116,104,97,110,32,115,105,103,110]) := by
          unfold tailP
          rw [if_neg nd.2.2,if_pos (show List.drop ([60].length - 1) [60] = [60] from rfl)]
        have hl : leftK kind [60] (σ.buffer,σ.draft) = (σ.buffer,σ.draft) := by
          unfold leftK
          rw [if_neg nd.2.2]
          rfl
        have e : res false kind last σ [60] = { σ with at_ := σ.at_ + 1,state := kind ++ [32,108,101,115,115,45,116,104,97,110,32,115,105,103,110] } := by
          unfold res V W
          rw [hs]
          simp only [ht,hl]
          simp [outP,errP]
        rw [e]; exact p1
      have hbt : b = true ∨ t ≠ [] := by
        by_cases z : t = []
        · left
          cases b with
          | true => rfl
          | false => exact absurd ⟨z,rfl⟩ q5
        · exact .inr z
      have hs : stopS kind last σ.at_ (60 :: t) = none := by
        rw [stopS_60 hk,if_neg (fun z => q3 ⟨z.2,z.1⟩),if_neg q4]
      rw [res_lone hk hs q4 fun hf => hbt.resolve_left (by rw [hf]; simp)]
      refine p1.trans ((goL (emitS σ kind 60) hbt ?_).trans (ih t (pre ++ [60]) (emitS σ kind 60) (by simp at hr; lia) h.emit hla))
      unfold lessF
      rw [hn1,if_neg q4,if_neg q3]
      have e2 : outC kind 60 = charT 60 := by unfold outC; rw [if_neg (by simp)]; rfl
      unfold emitS
      rw [e2]
      have := h.st
      simp [this]
    obtain ⟨t',rfl⟩ : ∃ t',t = 47 :: t' := by
      cases t with
      | nil => exact absurd q4 (by simp)
      | cons d t' => simp at q4; exact ⟨t',by rw [q4]⟩
    obtain ⟨L,w,rfl,hL,hw⟩ : ∃ L w,t' = L ++ w ∧ (∀ x ∈ L,isLet x = true) ∧ w.takeWhile isLet = [] :=
      ⟨t'.takeWhile isLet,t'.dropWhile isLet,(List.takeWhile_append_dropWhile).symm,fun x hx => List.all_eq_true.mp List.all_takeWhile x hx,by
        cases q : t'.dropWhile isLet with
        | nil => rfl
        | cons x l =>
          have := List.head?_dropWhile_not isLet t'
          rw [q] at this
          simp at this
          rw [List.takeWhile_cons,this]; rfl⟩
    have p2 : Path σ { σ with at_ := σ.at_ + 2,buffer := [],state := kind ++ [32,101,110,100,32,116,97,103,32,111,112,101,110] } := by
      refine p1.trans (goL _ (.inr (by simp)) ?_)
      unfold lessF
      rw [hn1,if_pos (show List.take 1 (47 :: (L ++ w)) = [47] from rfl)]
      rfl
    have sg2 : σ.signs = (pre ++ [60,47]) ++ (L ++ w) := by rw [h.sg]; simp
    have at2 : σ.at_ + 2 = (pre ++ [60,47]).length := by rw [h.at_]; simp
    have hlen : pre.length + (2 + L.length + w.length) ≤ 100 := by simp at hpl; lia
    have hout : σ.out.length + (2 + L.length + w.length) ≤ 290 := by simp at ho; lia
    have herr : σ.errs.length + (2 + L.length + w.length) ≤ 290 := by simp at he; lia
    have hwn : w.length ≤ n := by simp at hr; lia
    have goO : ∀ τ,(b = true ∨ L ++ w ≠ []) → openF kind { σ with at_ := σ.at_ + 2,buffer := [],state := kind ++ [32,101,110,100,32,116,97,103,32,111,112,101,110] } = τ → Path { σ with at_ := σ.at_ + 2,buffer := [],state := kind ++ [32,101,110,100,32,116,97,103,32,111,112,101,110] } τ := fun τ hbt e => by
      refine stp ?_ ⟨h.s,by show σ.out.length ≤ _; lia,by show σ.errs.length ≤ _; lia,Nat.zero_le _,fun nm q => by have := hdd nm q; lia⟩ hk.nn.2.2 h.dn (hk.opn (σ := σ)).2 ?_
      · unfold stepF
        rw [hk.opn.1]; exact e
      · rcases hbt with hbt | hbt
        · exact .inl (h.cl.trans hbt)
        · right
          show σ.at_ + 2 < σ.signs.length
          rw [sg2,at2,List.length_append (as := pre ++ [60,47])]
          have := List.length_pos_iff.mpr hbt
          lia
    have hn2 : nextR { σ with at_ := σ.at_ + 2,buffer := [],state := kind ++ [32,101,110,100,32,116,97,103,32,111,112,101,110] } = (L ++ w).take 1 := nextR_at (σ := { σ with at_ := σ.at_ + 2,buffer := [],state := kind ++ [32,101,110,100,32,116,97,103,32,111,112,101,110] }) sg2 at2
    by_cases q5 : w = [] ∧ b = false
    · obtain ⟨rfl,rfl⟩ := q5
      rw [List.append_nil] at hn2 sg2 goO ⊢
      rw [res_held hk hL]
      by_cases q6 : L = []
      · subst q6
        rw [if_pos rfl,if_pos rfl]
        exact p2
      · rw [if_neg q6,if_neg q6]
        obtain ⟨x,L',rfl⟩ := List.exists_cons_of_ne_nil q6
        have p3 : Path σ { σ with at_ := σ.at_ + 2,buffer := [],draft := some [],state := kind ++ [32,101,110,100,32,116,97,103,32,110,97,109,101] } := by
          refine p2.trans (goO _ (.inr (by simp)) ?_)
          unfold openF
          rw [hn2,if_pos (by show isLetterP [x] = true; rw [isLetterP_one]; exact hL x (.head _))]
        have p4 := name_letters hk (x :: L') [] (pre ++ [60,47]) [] { σ with at_ := σ.at_ + 2,buffer := [],draft := some [],state := kind ++ [32,101,110,100,32,116,97,103,32,110,97,109,101] } (by rw [List.append_nil]; exact sg2) at2 rfl h.dn rfl hL h.s (by show σ.out.length ≤ _; lia) (by show σ.errs.length ≤ _; lia) (Nat.zero_le _) (Nat.zero_le _)
        refine p3.trans ?_
        have e : ({ σ with at_ := σ.at_ + (2 + (x :: L').length),state := kind ++ [32,101,110,100,32,116,97,103,32,110,97,109,101],buffer := x :: L',draft := some (foldP (x :: L')) } : TS) = { ({ σ with at_ := σ.at_ + 2,buffer := [],draft := some [],state := kind ++ [32,101,110,100,32,116,97,103,32,110,97,109,101] } : TS) with at_ := σ.at_ + 2 + (x :: L').length,buffer := [] ++ (x :: L'),draft := some ([] ++ (x :: L').map lowP) } := by
          rw [low_fold hL]
          simp only [List.nil_append]
          rw [show σ.at_ + (2 + (x :: L').length) = σ.at_ + 2 + (x :: L').length by lia]
        rw [e]
        exact p4
    have hbt : b = true ∨ w ≠ [] := by
      by_cases z : w = []
      · left
        cases b with
        | true => rfl
        | false => exact absurd ⟨z,rfl⟩ q5
      · exact .inr z
    have hbw : b = false → w ≠ [] := fun hf => hbt.resolve_left (by rw [hf]; simp)
    have hqw : isLetterP (w.take 1) = false := by
      cases w with
      | nil => exact isLetterP_nil
      | cons x w =>
        show isLetterP [x] = false
        rw [isLetterP_one]
        rw [List.takeWhile_cons] at hw
        split at hw
        · cases hw
        · rename_i z; simpa using z
    have back : ∀ (σ' : TS),σ' = { σ with out := σ.out ++ ([60,47] ++ L).map charT,at_ := σ.at_ + (2 + L.length),buffer := L,draft := if L = [] then σ.draft else some (foldP L) } → Path σ' (res b kind last σ' w) := by
      intro σ' e
      subst e
      refine ih w (pre ++ [60,47] ++ L) _ hwn {
        sg := by show σ.signs = _; rw [sg2]; simp
        at_ := by show σ.at_ + (2 + L.length) = _; rw [h.at_]; simp; lia
        st := h.st,dn := h.dn,cl := h.cl,s := h.s
        o := by simp; lia
        e := by show σ.errs.length + w.length ≤ _; lia
        b := by show L.length ≤ _; lia
        d := fun nm q => by
          dsimp only at q
          split at q
          · exact hdd nm q
          · cases q; unfold foldP; rw [List.length_map]; lia } hla
    by_cases q6 : L = []
    · subst q6
      have hs : stopS kind last σ.at_ (60 :: 47 :: ([] ++ w)) = none := by
        rw [stopS_47 hk hL hw,if_neg fun z => z.1 rfl]
      rw [res_chunk hk hL hw hs hbw]
      refine p2.trans ((goO _ ?_ ?_).trans (back _ rfl))
      · rcases hbt with z | z
        · exact .inl z
        · exact .inr (by simpa using z)
      · unfold openF
        rw [hn2,if_neg (by show ¬ isLetterP (w.take 1) = true; rw [hqw]; simp)]
        have := h.st
        simp [this]
    obtain ⟨x,L',hxL⟩ := List.exists_cons_of_ne_nil q6
    have p3 : Path σ { σ with at_ := σ.at_ + 2,buffer := [],draft := some [],state := kind ++ [32,101,110,100,32,116,97,103,32,110,97,109,101] } := by
      refine p2.trans (goO _ (.inr (by rw [hxL]; simp)) ?_)
      unfold openF
      rw [hn2,if_pos (by rw [hxL]; show isLetterP [x] = true; rw [isLetterP_one]; exact hL x (by rw [hxL]; exact .head _))]
    have p4 := name_letters hk L w (pre ++ [60,47]) [] { σ with at_ := σ.at_ + 2,buffer := [],draft := some [],state := kind ++ [32,101,110,100,32,116,97,103,32,110,97,109,101] } sg2 at2 rfl h.dn rfl hL h.s (by show σ.out.length ≤ _; lia) (by show σ.errs.length ≤ _; lia) (Nat.zero_le _) (Nat.zero_le _)
    have e4 : ({ ({ σ with at_ := σ.at_ + 2,buffer := [],draft := some [],state := kind ++ [32,101,110,100,32,116,97,103,32,110,97,109,101] } : TS) with at_ := σ.at_ + 2 + L.length,buffer := [] ++ L,draft := some ([] ++ L.map lowP) } : TS) = { σ with at_ := σ.at_ + 2 + L.length,state := kind ++ [32,101,110,100,32,116,97,103,32,110,97,109,101],buffer := L,draft := some (foldP L) } := by
      rw [low_fold hL]; rfl
    have p5 : Path σ { σ with at_ := σ.at_ + 2 + L.length,state := kind ++ [32,101,110,100,32,116,97,103,32,110,97,109,101],buffer := L,draft := some (foldP L) } := by
      rw [← e4]; exact p3.trans p4
    have hn5 : nextR { σ with at_ := σ.at_ + 2 + L.length,state := kind ++ [32,101,110,100,32,116,97,103,32,110,97,109,101],buffer := L,draft := some (foldP L) } = w.take 1 := nextR_at (σ := { σ with at_ := σ.at_ + 2 + L.length,state := kind ++ [32,101,110,100,32,116,97,103,32,110,97,109,101],buffer := L,draft := some (foldP L) }) (pre := pre ++ [60,47] ++ L) (by show σ.signs = _; rw [sg2]; simp) (by show σ.at_ + 2 + L.length = _; rw [h.at_]; simp; lia)
    have goN : ∀ τ,(b = true ∨ w ≠ []) → nameF kind { σ with at_ := σ.at_ + 2 + L.length,state := kind ++ [32,101,110,100,32,116,97,103,32,110,97,109,101],buffer := L,draft := some (foldP L) } = τ → Path { σ with at_ := σ.at_ + 2 + L.length,state := kind ++ [32,101,110,100,32,116,97,103,32,110,97,109,101],buffer := L,draft := some (foldP L) } τ := fun τ hbt e => by
      have hst5 : stepF { σ with at_ := σ.at_ + 2 + L.length,state := kind ++ [32,101,110,100,32,116,97,103,32,110,97,109,101],buffer := L,draft := some (foldP L) } = τ := by
        unfold stepF
        rw [hk.nam.1]; exact e
      refine hst5 ▸ Path.one (Bd.ok ⟨h.s,by show σ.out.length ≤ _; lia,by show σ.errs.length ≤ _; lia,by show L.length ≤ _; lia,fun nm q => by cases q; unfold foldP; rw [List.length_map]; lia⟩) (fun u_ => ⟨_,rfl⟩) (rd_of h.dn (hk.nam (σ := σ)).2 ?_)
      rcases hbt with hbt | hbt
      · exact .inl (h.cl.trans hbt)
      · right
        show σ.at_ + 2 + L.length < σ.signs.length
        rw [h.sg,h.at_]
        have := List.length_pos_iff.mpr hbt
        simp; lia
    by_cases q7 : L ≠ [] ∧ foldP L = last ∧ behindP (w.take 1) ≠ []
    · obtain ⟨d,w',rfl⟩ : ∃ d w',w = d :: w' := by
        cases w with
        | nil => exact absurd behind_nil q7.2.2
        | cons d w' => exact ⟨d,w',rfl⟩
      have hd0 : isLet d = false := by
        rw [← isLetterP_one]; exact hqw
      obtain ⟨e1,e2⟩ := name_stop (kind := kind) (last := last) (L := L) hn5 hd0 rfl hla q6 q7.2.1 q7.2.2
      rw [res_stop hk hL hw q6 q7.2.1 q7.2.2 e2]
      refine p5.trans (goN _ (.inr (by simp)) ?_)
      rw [e1]
    · have hs : stopS kind last σ.at_ (60 :: 47 :: (L ++ w)) = none := by
        rw [stopS_47 hk hL hw,if_neg q7]
      rw [res_chunk hk hL hw hs hbw]
      refine p5.trans ((goN _ hbt ?_).trans (back _ rfl))
      rw [name_back (kind := kind) (last := last) hn5 hqw rfl rfl hla q7 q6]
      have := h.st
      rw [if_neg q6,show σ.at_ + (2 + L.length) = σ.at_ + 2 + L.length by lia]
      simp [this]
end
end Mine
end
section
open PySem
namespace Mine
section
variable {kind last x : List Nat} {b : Bool}
noncomputable def shf (k : Nat) : St3 → St3 := fun t => (t.1 + k,t.2.1 + k,t.2.2)
private theorem stopS_shift {i k : Nat} {r : List Nat} : stopS kind last (i + k) r = (stopS kind last i r).map (shf k) := by
  have one : ∀ {p : Prop} [Decidable p] {a c : Option St3} {a' c' : Option St3},a = a'.map (shf k) → c = c'.map (shf k) → (if p then a else c) = (if p then a' else c').map (shf k) := fun h1 h2 => by
    split
    · exact h1
    · exact h2
  unfold stopS stopE
  refine one ?_ (one rfl (one ?_ (one ?_ (one (one ?_ rfl) rfl))))
  · simp only [Option.map_some,shf]; congr 2; congr 1; lia
  · simp only [Option.map_some,shf]; congr 2; congr 1; lia
  · simp only [Option.map_some,shf]; congr 2
    · lia
    · congr 1; lia
  · simp only [Option.map_some,shf]; congr 2; congr 1; lia
private theorem stopG_shift {k : Nat} : ∀ {r : List Nat} {i : Nat},stopG kind last (i + k) r = (stopG kind last i r).map (shf k)
  | [],_ => rfl
  | c :: r,i => by
    unfold stopG
    rw [stopS_shift]
    cases stopS kind last i (c :: r) with
    | some t => rfl
    | none =>
      show stopG kind last (i + k + 1) r = _
      rw [show i + k + 1 = i + 1 + k by lia]
      exact stopG_shift
noncomputable def Ends (s : List Nat) : Prop := s = [99,104,97,114,97,99,116,101,114,32,114,101,102,101,114,101,110,99,101] ∨ s = [116,97,103,32,111,112,101,110] ∨ s = [115,99,114,105,112,116,32,100,97,116,97,32,101,115,99,97,112,101,32,115,116,97,114,116] ∨ s = [115,101,108,102,45,99,108,111,115,105,110,103,32,115,116,97,114,116,32,116,97,103] ∨ s = [98,101,102,111,114,101,32,97,116,116,114,105,98,117,116,101,32,110,97,109,101]
private theorem behind_in {q : List Nat} (h : behindP q ≠ []) : behindP q = [100,97,116,97] ∨ Ends (behindP q) := by
  unfold behindP at h ⊢
  split
  · exact .inl rfl
  · split
    · exact .inr (.inr (.inr (.inr (.inl rfl))))
    · split
      · exact .inr (.inr (.inr (.inr (.inr rfl))))
      · rename_i a b c
        rw [if_neg a,if_neg b,if_neg c] at h
        exact absurd rfl h
private theorem stopS_in {i m a : Nat} {s r : List Nat} (h : stopS kind last i r = some (m,a,s)) : (s = [100,97,116,97] ∨ Ends s) ∧ a ≤ i + r.length := by
  have len1 : ∀ {k c : Nat},(r.drop k).take 1 = [c] → k + 1 ≤ r.length := fun {k c} z => by
    have := congrArg List.length z
    rw [List.length_take,List.length_drop] at this
    simp at this; lia
  unfold stopS at h
  split at h
  · rename_i z
    cases h
    have := len1 (k := 0) z.1
    exact ⟨.inr (.inl rfl),by lia⟩
  split at h
  · cases h
  rename_i z0
  have l0 : 0 + 1 ≤ r.length := len1 (k := 0) (c := 60) (Classical.byContradiction fun z => z0 (.inl z))
  split at h
  · cases h
    exact ⟨.inr (.inr (.inl rfl)),by lia⟩
  split at h
  · rename_i z
    cases h
    have := len1 z.2
    exact ⟨.inr (.inr (.inr (.inl rfl))),by lia⟩
  split at h
  · rename_i z
    unfold stopE at h
    split at h
    · rename_i q
      cases h
      refine ⟨behind_in q.2.2,?_⟩
      have : ((r.drop 2).drop ((r.drop 2).takeWhile isLet).length) ≠ [] := fun e => q.2.2 (by rw [e]; exact behind_nil)
      have := List.length_pos_iff.mpr this
      rw [List.length_drop,List.length_drop] at this
      lia
    · cases h
  · cases h
private theorem stopG_in : ∀ {r : List Nat} {i m a : Nat} {s : List Nat},stopG kind last i r = some (m,a,s) → (s = [100,97,116,97] ∨ Ends s) ∧ a ≤ i + r.length
  | [],_,_,_,_,h => by cases h
  | c :: r,i,m,a,s,h => by
    unfold stopG at h
    split at h
    · rename_i q
      rw [h] at q
      exact stopS_in q
    · have := stopG_in h
      exact ⟨this.1,by simp; lia⟩
private theorem Ends.look {s : List Nat} (h : Ends s) : lookS s statesKV = none ∧ s ≠ [100,97,116,97] := by
  rcases h with rfl | rfl | rfl | rfl | rfl <;> exact ⟨by decide,by decide⟩
private theorem leftS_len {r : List Nat} {bd : List Nat × Option (List Nat)} : (leftS r bd).1.length ≤ max bd.1.length r.length := by
  unfold leftS
  split
  · have := tw_len (x := r.drop 2)
    rw [List.length_drop] at this
    simp only; lia
  · lia
private theorem leftG_len : ∀ {r : List Nat} {bd : List Nat × Option (List Nat)},(leftG r bd).1.length ≤ max bd.1.length r.length
  | [],_ => by simp only [leftG]; lia
  | c :: r,bd => by
    have h1 := leftG_len (r := r) (bd := leftS (c :: r) bd)
    have h2 := leftS_len (r := c :: r) (bd := bd)
    simp only [leftG,List.length_cons] at *
    lia
noncomputable def okD (d : Option (List Nat)) : Prop := ∀ nm,d = some nm → nm ≠ []
private theorem leftS_ok {r : List Nat} {bd : List Nat × Option (List Nat)} (h : okD bd.2) : okD (leftS r bd).2 := by
  unfold leftS
  split
  · dsimp only
    split
    · exact h
    · rename_i q
      intro nm e
      cases e
      unfold foldP
      simpa using q
  · exact h
private theorem leftG_ok : ∀ {r : List Nat} {bd : List Nat × Option (List Nat)},okD bd.2 → okD (leftG r bd).2
  | [],_,h => h
  | c :: r,bd,h => leftG_ok (r := r) (bd := leftS (c :: r) bd) (leftS_ok h)
private theorem leftP_ok {r : List Nat} : okD (leftP r kind).2 := by
  unfold leftP
  split
  · intro nm e; cases e
  · exact leftG_ok (fun nm e => by cases e)
private theorem leftP_len {r : List Nat} : (leftP r kind).1.length ≤ r.length := by
  unfold leftP
  split
  · exact Nat.zero_le _
  · have := leftG_len (r := r) (bd := ([],none))
    simp at this; lia
private theorem leftK_P {r : List Nat} : leftK kind r ([],none) = leftP r kind := by unfold leftK leftP; rfl
private theorem apt_eq {σ : TS} (hl : σ.last = last) (h : okD σ.draft) : aptR σ = aptL last σ.draft := by
  unfold aptR aptL
  cases hd : σ.draft with
  | none => rfl
  | some nm =>
    dsimp only
    rw [hl]
    by_cases q : nm = last
    · subst q
      have := h nm hd
      simp [this]
    · simp [q]
noncomputable def sig (kind last x : List Nat) (b : Bool) (m : Nat) : TS := { σ0 kind last with signs := x,closed := b,seB := m }
private theorem V_told {i : Nat} : V kind last i x b = toldB kind last x b := by
  unfold V toldB
  have e := stopG_shift (kind := kind) (last := last) (r := x) (i := 0) (k := i)
  rw [Nat.zero_add] at e
  rw [e]
  cases stopG kind last 0 x with
  | none => rfl
  | some t =>
    obtain ⟨m,a,s⟩ := t
    simp [shf]
noncomputable def K5 (kind : List Nat) : Prop := kind = [100,97,116,97] ∨ kind = [80,76,65,73,78,84,69,88,84] ∨ K3 kind
private theorem sect (hk : K5 kind) {pre r : List Nat} {σ : TS} (h : Sec b kind σ pre r) (hla : σ.last = last) : Path σ (res b kind last σ r) := by
  rcases hk with rfl | rfl | hk
  · exact sect_data r pre σ h
  · exact sect_plain r pre σ h
  · exact sect_k3 hk r.length r pre σ (Nat.le_refl _) h hla
noncomputable def tot (b : Bool) (kind last x : List Nat) (m : Nat) : TS := match stopG kind last 0 x with
  | some (_,a,s) => if s = [100,97,116,97] then res b [100,97,116,97] last (res b kind last (sig kind last x b m) x) (x.drop a) else res b kind last (sig kind last x b m) x
  | none => res b kind last (sig kind last x b m) x
private theorem sec0 {m : Nat} (hx : x.length ≤ 14) : Sec b kind (sig kind last x b m) [] x :=
  ⟨rfl,rfl,rfl,rfl,rfl,by show x.length ≤ _; lia,by show 0 + x.length ≤ _; lia,by show 0 + x.length ≤ _; lia,Nat.zero_le _,fun nm e => by cases e⟩
private theorem toldB_len2 {i : Nat} : (V kind last i x b).length ≤ x.length := by rw [V_told]; exact toldB_len
private theorem sec1 {m many a : Nat} (hx : x.length ≤ 14) (hs : stopG kind last 0 x = some (many,a,[100,97,116,97])) : Sec b [100,97,116,97] (res b kind last (sig kind last x b m) x) (x.take a) (x.drop a) := by
  have ha := (stopG_in hs).2
  have hs' : stopG kind last (sig kind last x b m).at_ x = some (many,a,[100,97,116,97]) := hs
  have hv := toldB_len2 (kind := kind) (last := last) (x := x) (b := b) (i := (sig kind last x b m).at_)
  have hl := leftP_len (kind := kind) (r := W kind last (sig kind last x b m).at_ x)
  have hw : (W kind last (sig kind last x b m).at_ x).length ≤ x.length := by
    unfold W
    rw [hs']
    simp only [List.length_take]; lia
  have he := errP_length (sig kind last x b m).at_ (V kind last (sig kind last x b m).at_ x b)
  have hd : (x.drop a).length = x.length - a := List.length_drop
  unfold res
  rw [hs']
  refine ⟨by show x = _; rw [List.take_append_drop],by show a = _; rw [List.length_take]; lia,rfl,rfl,rfl,by show x.length ≤ _; lia,?_,?_,?_,fun nm e => by simp at e⟩
  · simp only [sig,σ0,outP,List.length_append,List.length_map,List.length_nil,if_true,List.length_cons] at *; lia
  · simp only [sig,σ0,List.length_append,List.length_nil] at *; lia
  · have e : leftK kind (W kind last (sig kind last x b m).at_ x) ((sig kind last x b m).buffer,(sig kind last x b m).draft) = leftP (W kind last (sig kind last x b m).at_ x) kind := leftK_P
    show (leftK kind (W kind last (sig kind last x b m).at_ x) ((sig kind last x b m).buffer,(sig kind last x b m).draft)).1.length ≤ _
    rw [e]; lia
private theorem res_last {σ : TS} {r : List Nat} : (res b kind last σ r).last = σ.last := by
  unfold res
  split <;> rfl
private theorem tot_path (hk : K5 kind) {m : Nat} (hx : x.length ≤ 14) : Path (sig kind last x b m) (tot b kind last x m) := by
  have p := sect hk (sec0 (kind := kind) (last := last) (b := b) (m := m) hx) rfl
  unfold tot
  split
  · rename_i many a s hs
    split
    · rename_i q
      subst q
      exact p.trans (sect (.inl rfl) (sec1 hx hs) res_last)
    · exact p
  · exact p
end
end Mine
end
section
open PySem
namespace Mine
section
variable {kind last x : List Nat} {b : Bool}
private theorem res_ready {σ : TS} {pre r : List Nat} (h : Sec b kind σ pre r) (hs : ∀ m a s,stopG kind last σ.at_ r = some (m,a,s) → s ≠ [100,97,116,97]) : readyR (res b kind last σ r) = false := by
  unfold res
  split
  · rename_i m a s q
    have := (stopG_in q).1.resolve_left (hs _ _ _ q)
    unfold readyR
    simp only [this.look.1]
    simp
  · cases b with
    | true => unfold readyR; simp
    | false =>
      unfold readyR
      have e : decide (σ.at_ + r.length < σ.signs.length) = false := by
        rw [h.sg,h.at_]; simp
      simp only [Bool.false_eq_true,if_false,h.cl,e,Bool.false_or,Bool.and_false]
private theorem tot_ready {m : Nat} (hx : x.length ≤ 14) : readyR (tot b kind last x m) = false := by
  unfold tot
  split
  · rename_i many a s hs
    split
    · rename_i q
      subst q
      refine res_ready (sec1 hx hs) fun m a s q => ?_
      rcases stopG_data q with rfl | rfl <;> decide
    · rename_i q
      refine res_ready (sec0 hx) fun m' a' s' q' => ?_
      have hs' : stopG kind last (sig kind last x b m).at_ x = some (many,a,s) := hs
      rw [hs'] at q'
      cases q'
      exact q
  · rename_i hs
    refine res_ready (sec0 hx) fun m' a' s' q' => ?_
    have hs' : stopG kind last (sig kind last x b m).at_ x = none := hs
    rw [hs'] at q'
    cases q'
private theorem tot_signs {m : Nat} (hx : x.length ≤ 14) (hk : K5 kind) : (tot b kind last x m).signs = x ∧ (tot b kind last x m).closed = b ∧ (tot b kind last x m).seB = m := by
  obtain ⟨h1,h2,h3⟩ := (tot_path (last := last) (b := b) hk (m := m) hx).same
  exact ⟨h2,h1,h3⟩
private theorem W_0 {many a : Nat} {s : List Nat} {i : Nat} (h : stopG kind last 0 x = some (many,a,s)) (hi : i = 0) : W kind last i x = x.take a := by
  subst hi
  unfold W
  rw [h]
  simp
private theorem seen0 {m : Nat} (hs : ∀ many a s,stopG kind last 0 x = some (many,a,s) → s ≠ [100,97,116,97]) : seenT (res b kind last (sig kind last x b m) x) = dueT (dueB kind last x b) ∧ (res b kind last (sig kind last x b m) x).done = (dueB kind last x b).done := by
  have ev : V kind last (sig kind last x b m).at_ x b = toldB kind last x b := V_told
  unfold res dueB
  rw [ev]
  cases q : stopG kind last 0 x with
  | some t =>
    obtain ⟨many,a,s⟩ := t
    have q' : stopG kind last (sig kind last x b m).at_ x = some (many,a,s) := q
    have hsd := hs _ _ _ q
    rw [q']
    have ew : W kind last (sig kind last x b m).at_ x = x.take a := W_0 q rfl
    have el : leftK kind (x.take a) ((sig kind last x b m).buffer,(sig kind last x b m).draft) = leftP (x.take a) kind := leftK_P
    simp only [ew,el,if_neg hsd]
    refine ⟨?_,rfl⟩
    unfold seenT dueT
    rw [apt_eq (last := last) rfl (leftP_ok (kind := kind) (r := x.take a))]
    simp [sig,σ0]
  | none =>
    have q' : stopG kind last (sig kind last x b m).at_ x = none := q
    rw [q']
    have ew : W kind last (sig kind last x b m).at_ x = x := by
      unfold W; rw [q']
    have el : leftK kind x ((sig kind last x b m).buffer,(sig kind last x b m).draft) = leftP x kind := leftK_P
    simp only [ew,el]
    cases b with
    | true =>
      simp only [if_true]
      refine ⟨?_,trivial⟩
      unfold seenT dueT
      rw [apt_eq (last := last) rfl (leftP_ok (kind := kind) (r := x))]
      simp [sig,σ0]
    | false =>
      simp only [Bool.false_eq_true,if_false]
      refine ⟨?_,rfl⟩
      unfold seenT dueT
      rw [apt_eq (last := last) rfl (leftP_ok (kind := kind) (r := x))]
      simp [sig,σ0]
private theorem seen1 {m many a : Nat} (hx : x.length ≤ 14) (hs : stopG kind last 0 x = some (many,a,[100,97,116,97])) :
    seenT (res b [100,97,116,97] last (res b kind last (sig kind last x b m) x) (x.drop a)) = dueT (dueP kind last x b) ∧ (res b [100,97,116,97] last (res b kind last (sig kind last x b m) x) (x.drop a)).done = (dueP kind last x b).done := by
  have q' : stopG kind last (sig kind last x b m).at_ x = some (many,a,[100,97,116,97]) := hs
  have ew : W kind last (sig kind last x b m).at_ x = x.take a := W_0 hs rfl
  have ev : V kind last (sig kind last x b m).at_ x b = x.take many := by
    rw [V_told]; unfold toldB; rw [hs]
  have el : leftK kind (x.take a) ((sig kind last x b m).buffer,(sig kind last x b m).draft) = leftP (x.take a) kind := leftK_P
  have e1 : res b kind last (sig kind last x b m) x = { (sig kind last x b m) with out := outP kind (x.take many) ++ [endT last],errs := errP 0 (x.take many),at_ := a,state := [100,97,116,97],back := [100,97,116,97],buffer := (leftP (x.take a) kind).1,draft := none } := by
    unfold res
    rw [q']
    simp only [ew,ev,el,if_true]
    simp [sig,σ0]
  rw [e1]
  generalize hσ : ({ (sig kind last x b m) with out := outP kind (x.take many) ++ [endT last],errs := errP 0 (x.take many),at_ := a,state := [100,97,116,97],back := [100,97,116,97],buffer := (leftP (x.take a) kind).1,draft := none } : TS) = σ1
  have s_at : σ1.at_ = a := by rw [← hσ]
  have s_out : σ1.out = outP kind (x.take many) ++ [endT last] := by rw [← hσ]
  have s_err : σ1.errs = errP 0 (x.take many) := by rw [← hσ]
  have s_back : σ1.back = [100,97,116,97] := by rw [← hσ]
  have s_buf : σ1.buffer = (leftP (x.take a) kind).1 := by rw [← hσ]
  have s_dr : σ1.draft = none := by rw [← hσ]
  have s_dn : σ1.done = false := by rw [← hσ]; rfl
  have e2 : dueP kind last x b = { out := outP kind (x.take many) ++ [endT last] ++ (dueB [100,97,116,97] last (x.drop a) b).out,errs := errP 0 (x.take many) ++ errP a (toldB [100,97,116,97] last (x.drop a) b),at_ := a + (dueB [100,97,116,97] last (x.drop a) b).at_,state := (dueB [100,97,116,97] last (x.drop a) b).state,buffer := (leftP (x.take a) kind).1,back := (dueB [100,97,116,97] last (x.drop a) b).back,done := (dueB [100,97,116,97] last (x.drop a) b).done,draft := none,apt := false } := by
    unfold dueP
    rw [hs]
    rfl
  rw [e2]
  generalize x.drop a = y
  have lk : ∀ w bd,leftK [100,97,116,97] w bd = bd := fun w bd => by unfold leftK; rw [if_pos (by decide)]
  have sh := stopG_shift (kind := [100,97,116,97]) (last := last) (r := y) (i := 0) (k := a)
  rw [Nat.zero_add] at sh
  unfold res dueB
  rw [V_told,s_at,sh]
  have aptN : ∀ (τ : TS),τ.draft = none → aptR τ = false := fun τ e => by unfold aptR; rw [e]
  cases q : stopG [100,97,116,97] last 0 y with
  | some t =>
    obtain ⟨m',a',s'⟩ := t
    have hsd : s' ≠ [100,97,116,97] := by rcases stopG_data q with rfl | rfl <;> decide
    simp only [Option.map_some,shf,lk,if_neg hsd]
    refine ⟨?_,s_dn⟩
    unfold seenT dueT aptR
    simp only [s_out,s_err,s_back,s_buf,s_dr,s_dn,List.append_nil,ite_self]
    rw [show a' + a = a + a' by lia]
  | none =>
    simp only [Option.map_none,lk]
    cases b with
    | true =>
      simp only [if_true]
      refine ⟨?_,trivial⟩
      unfold seenT dueT aptR
      simp only [s_out,s_err,s_back,s_buf,s_dr,List.append_assoc]
      rw [show a + y.length + 1 = a + (y.length + 1) by lia]
    | false =>
      simp only [Bool.false_eq_true,if_false]
      refine ⟨?_,s_dn⟩
      unfold seenT dueT aptR
      simp only [s_out,s_err,s_back,s_buf,s_dr,s_dn,List.append_nil]
private theorem tot_seen {m : Nat} (hx : x.length ≤ 14) : seenT (tot b kind last x m) = dueT (dueP kind last x b) ∧ (tot b kind last x m).done = (dueP kind last x b).done := by
  unfold tot
  split
  · rename_i many a s hs
    split
    · rename_i q
      subst q
      exact seen1 hx hs
    · rename_i q
      have e : dueP kind last x b = dueB kind last x b := by
        unfold dueP
        rw [hs]
        exact if_neg q
      rw [e]
      refine seen0 fun m' a' s' q' => ?_
      rw [hs] at q'
      cases q'
      exact q
  · rename_i hs
    have e : dueP kind last x b = dueB kind last x b := by
      unfold dueP
      rw [hs]
    rw [e]
    refine seen0 fun m' a' s' q' => ?_
    rw [hs] at q'
    cases q'
private theorem dueB_open : (dueB kind last x false).done = false := by
  unfold dueB
  split
  · rfl
  · rfl
private theorem due_open : (dueP kind last x false).done = false := by
  unfold dueP
  split
  · split
    · exact dueB_open
    · exact dueB_open
  · exact dueB_open
private theorem due_foreign (h : (dueP kind last x true).done = false) : Ends (dueP kind last x true).state := by
  have hB : ∀ kind x,(∀ m a s,stopG kind last 0 x = some (m,a,s) → s ≠ [100,97,116,97]) → (dueB kind last x true).done = false → Ends (dueB kind last x true).state := fun kind x hs h => by
    unfold dueB at h ⊢
    split
    · rename_i m a s q
      exact (stopG_in q).1.resolve_left (hs _ _ _ q)
    · rename_i q
      rw [q] at h
      simp at h
  unfold dueP at h ⊢
  split
  · rename_i m a s q
    rw [q] at h
    dsimp only at h
    split
    · rename_i e
      rw [if_pos e] at h
      refine hB _ _ (fun m a s q => ?_) h
      rcases stopG_data q with rfl | rfl <;> decide
    · rename_i e
      rw [if_neg e] at h
      refine hB _ _ (fun m' a' s' q' => ?_) h
      rw [q] at q'; cases q'; exact e
  · rename_i q
    rw [q] at h
    refine hB _ _ (fun m' a' s' q' => ?_) h
    rw [q] at q'; cases q'
end
end Mine
end
section
open PySem
namespace Mine
section
variable {kind last x : List Nat} {b : Bool}
noncomputable def okS (s : List Nat) : Prop := ∀ c ∈ s,c < 1114112
private theorem okS.app {s t : List Nat} (h : okS s) (k : okS t) : okS (s ++ t) := fun c hc => (List.mem_append.mp hc).elim (h c) (k c)
private theorem okS.take {s : List Nat} {n : Nat} (h : okS s) : okS (s.take n) := fun c hc => h c (List.mem_of_mem_take hc)
private theorem okS.drop {s : List Nat} {n : Nat} (h : okS s) : okS (s.drop n) := fun c hc => h c (List.mem_of_mem_drop hc)
private theorem okT_str {n : Nat} {s : List Nat} (h : okS s) : okT n (.str s) = true := by
  cases n <;> exact (List.all_eq_true.mpr fun c hc => decide_eq_true (h c hc) : (s.all fun c => decide (c < 1114112)) = true)
private theorem okT_tup {n : Nat} {l : List Tr} (h : ∀ t ∈ l,okT n t = true) : okT (n + 1) (.tuple l) = true := by
  exact (List.all_eq_true.mpr h : l.all (okT n) = true)
private theorem okT_lis {n : Nat} {l : List Tr} (h : ∀ t ∈ l,okT n t = true) : okT (n + 1) (.list l) = true := by
  exact (List.all_eq_true.mpr h : l.all (okT n) = true)
private theorem okT_int {n : Nat} {i : Int} : okT n (.int i) = true := by cases n <;> rfl
private theorem okT_bool {n : Nat} {i : Bool} : okT n (.bool i) = true := by cases n <;> rfl
private theorem okT_none {n : Nat} : okT n .none = true := by cases n <;> rfl
private theorem okS_lit {s : List Nat} (h : (s.all fun c => decide (c < 1114112)) = true) : okS s := fun c hc => of_decide_eq_true (List.all_eq_true.mp h c hc)
private theorem ok_endT {nm : List Nat} {n : Nat} (h : okS nm) : okT (n + 3) (endT nm) = true := by
  refine okT_tup fun t ht => ?_
  simp only [List.mem_cons,List.not_mem_nil,or_false] at ht
  rcases ht with rfl | rfl | rfl | rfl
  · exact okT_str (okS_lit (by decide))
  · exact okT_str h
  · exact okT_tup (n := n + 1) fun u_ h => nomatch h
  · exact okT_bool
private theorem ok_drT {d : Option (List Nat)} {n : Nat} (h : ∀ nm,d = some nm → okS nm) : okT (n + 3) (drT d) = true := by
  cases d with
  | none => exact okT_none
  | some nm => exact ok_endT (h nm rfl)
private theorem ok_outP {n : Nat} (h : okS x) : ∀ t ∈ outP kind x,okT (n + 1) t = true := by
  intro t ht
  obtain ⟨c,hc,rfl⟩ := List.mem_map.mp ht
  refine okT_tup fun t ht => ?_
  simp only [List.mem_cons,List.not_mem_nil,or_false] at ht
  rcases ht with rfl | rfl
  · exact okT_str (okS_lit (by decide))
  · refine okT_str ?_
    split
    · exact okS_lit (by decide)
    · intro d hd; simp at hd; subst hd; exact h _ hc
private theorem ok_errP {n : Nat} : ∀ {y : List Nat} {i : Nat},∀ t ∈ errP i y,okT (n + 1) t = true
  | [],_,t,h => by cases h
  | c :: y,i,t,h => by
    rw [errP_cons] at h
    rcases List.mem_append.mp h with h | h
    · split at h
      · simp at h; subst h
        refine okT_tup fun t ht => ?_
        simp only [List.mem_cons,List.not_mem_nil,or_false] at ht
        rcases ht with rfl | rfl
        · exact okT_str (okS_lit (by decide))
        · exact okT_int
      · cases h
    · exact ok_errP t h
private theorem okS_tw {y : List Nat} : okS (y.takeWhile isLet) := fun c hc => by have := tw_let c hc; lia
private theorem okS_fold {y : List Nat} (h : ∀ c ∈ y,c < 1000) : okS (foldP y) := by
  intro c hc
  obtain ⟨d,hd,rfl⟩ := List.mem_map.mp hc
  have := h d hd
  unfold foldC
  split <;> lia
noncomputable def okBD (bd : List Nat × Option (List Nat)) : Prop := okS bd.1 ∧ ∀ nm,bd.2 = some nm → okS nm
private theorem leftS_okS {r : List Nat} {bd : List Nat × Option (List Nat)} (h : okBD bd) : okBD (leftS r bd) := by
  unfold leftS
  split
  · refine ⟨okS_tw,fun nm e => ?_⟩
    dsimp only at e
    split at e
    · exact h.2 nm e
    · cases e; exact okS_fold tw_let
  · exact h
private theorem leftG_okS : ∀ {r : List Nat} {bd : List Nat × Option (List Nat)},okBD bd → okBD (leftG r bd)
  | [],_,h => h
  | c :: r,bd,h => leftG_okS (r := r) (bd := leftS (c :: r) bd) (leftS_okS h)
private theorem leftP_okS {r : List Nat} : okBD (leftP r kind) := by
  have z : okBD (([],none) : List Nat × Option (List Nat)) := ⟨fun c hc => (nomatch hc),fun nm e => (nomatch e)⟩
  unfold leftP
  split
  · exact z
  · exact leftG_okS z
private theorem ends_okS {s : List Nat} (h : s = [100,97,116,97] ∨ Ends s) : okS s := by
  rcases h with rfl | rfl | rfl | rfl | rfl | rfl <;> exact okS_lit (by decide)
private theorem tailG_okS (hk : okS kind) : ∀ {r : List Nat},okS (tailG kind r).2
  | [] => hk
  | c :: r => by
    unfold tailG
    split
    · refine okS.app hk ?_
      split <;> exact okS_lit (by decide)
    · exact tailG_okS hk
private theorem tailP_okS (hk : okS kind) {r : List Nat} : okS (tailP r kind).2 := by
  unfold tailP
  split
  · exact hk
  · split
    · exact okS.app hk (okS_lit (by decide))
    · exact tailG_okS hk
structure okDue (d : Due) : Prop where
  out : ∀ t ∈ d.out,okT 7 t = true
  errs : ∀ t ∈ d.errs,okT 7 t = true
  state : okS d.state
  buffer : okS d.buffer
  back : okS d.back
  draft : ∀ nm,d.draft = some nm → okS nm
private theorem okDue.T {d : Due} (h : okDue d) : okT 9 (dueT d) = true := by
  refine okT_tup fun t ht => ?_
  simp only [List.mem_cons,List.not_mem_nil,or_false] at ht
  rcases ht with rfl | rfl | rfl | rfl | rfl | rfl | rfl | rfl | rfl
  · exact okT_lis h.out
  · exact okT_lis h.errs
  · exact okT_int
  · exact okT_str h.state
  · exact okT_str h.buffer
  · exact okT_str h.back
  · exact okT_bool
  · exact ok_drT (n := 5) h.draft
  · exact okT_bool
private theorem told_okS (hx : okS x) : okS (toldB kind last x b) := by
  unfold toldB
  split
  · exact hx.take
  · split
    · exact hx
    · exact hx.take
private theorem dueB_ok (hx : okS x) (hk : okS kind) : okDue (dueB kind last x b) := by
  have ho := ok_outP (kind := kind) (n := 6) (told_okS (kind := kind) (last := last) (b := b) hx)
  have he := ok_errP (n := 6) (y := toldB kind last x b) (i := 0)
  unfold dueB
  split
  · rename_i m a s q
    exact ⟨ho,he,ends_okS (stopG_in q).1,leftP_okS.1,by dsimp only; split <;> first | exact hk | exact okS_lit (by decide),leftP_okS.2⟩
  · split
    · refine ⟨fun t ht => ?_,he,hk,leftP_okS.1,(show okS [100,97,116,97] from okS_lit (by decide)),leftP_okS.2⟩
      rcases List.mem_append.mp ht with ht | ht
      · exact ho t ht
      · simp at ht; subst ht
        refine okT_tup fun t ht => ?_
        simp only [List.mem_cons,List.not_mem_nil,or_false] at ht
        subst ht
        exact okT_str (okS_lit (by decide))
    · exact ⟨ho,he,tailP_okS hk,leftP_okS.1,(show okS [100,97,116,97] from okS_lit (by decide)),leftP_okS.2⟩
private theorem dueP_ok (hx : okS x) (hk : okS kind) (hl : okS last) : okDue (dueP kind last x b) := by
  unfold dueP
  split
  · rename_i m a s q
    split
    · have h := dueB_ok (kind := [100,97,116,97]) (last := last) (b := b) (hx.drop (n := a)) (okS_lit (by decide))
      refine ⟨fun t ht => ?_,fun t ht => ?_,h.state,leftP_okS.1,h.back,fun nm e => by cases e⟩
      · rcases List.mem_append.mp ht with ht | ht
        · rcases List.mem_append.mp ht with ht | ht
          · exact ok_outP (n := 6) hx.take t ht
          · simp at ht; subst ht; exact ok_endT (n := 4) hl
        · exact h.out t ht
      · rcases List.mem_append.mp ht with ht | ht
        · exact ok_errP (n := 6) t ht
        · exact ok_errP (n := 6) t ht
    · exact dueB_ok hx hk
  · exact dueB_ok hx hk
private theorem feed_path (hk : K5 kind) {y p : List Nat} {m m' : Nat} {b : Bool} (hx : (y ++ p).length ≤ 14) : Path ((tot false kind last y m).ext p m' b) (tot b kind last (y ++ p) m') := by
  have hy : y.length ≤ 14 := by rw [List.length_append] at hx; lia
  have p1 := (tot_path (last := last) (b := false) hk (m := m) hy).ext (y := p) (m := m') (b := b) rfl (by show (y ++ p).length ≤ _; lia)
  have p2 := tot_path (last := last) (b := b) hk (m := m') hx
  exact p1.det p2 (tot_ready hx)
private theorem feed_runs (hk : K5 kind) {y p : List Nat} {m m' : Nat} {b : Bool} (hx : (y ++ p).length ≤ 14) : ∃ N,Runs N ((tot false kind last y m).ext p m' b) (tot b kind last (y ++ p) m') :=
  (feed_path hk hx).runs (by rw [(tot_signs hx hk).1]; lia) (tot_ready hx)
private theorem tot_nil : tot false kind last [] 0 = σ0 kind last := by
  show res false kind last (sig kind last [] false 0) [] = _
  exact res_nil_open (σ := sig kind last [] false 0) (kind := kind) rfl
end
end Mine
end
section
open PySem
namespace Mine
section
variable {P H : Hp} {n : Nat} {Q : K1}
private theorem Rds.get {t : Tr} : ∀ {ts : List Tr} {xs : List D} {k : Nat},Rds H ts xs → ts[k]? = some t → ∃ d,xs[k]? = some d ∧ Rd H t d
  | [],_,_,_,e => by simp at e
  | u :: ts,xs,k,h,e => by
    obtain ⟨d,r,rfl,h1,h2⟩ := h.inv
    cases k with
    | zero => simp at e; subst e; exact ⟨d,rfl,h1⟩
    | succ k =>
      simp at e
      obtain ⟨d',e1,e2⟩ := Rds.get h2 e
      exact ⟨d',by simpa using e1,e2⟩
structure LW (P : Hp) (kind last x : List Nat) (cx ck cl dl wh : Addr) : Prop where
  cx : P cx = some (.cell (some (.str x)))
  ck : P ck = some (.cell (some (.str kind)))
  cl : P cl = some (.cell (some (.str last)))
  dl : ∃ ds,P dl = some (.list ds) ∧ Rds P ((List.range (x.length + 1)).map fun k => dueT (dueP kind last (x.take k) false)) ds
  wh : Rd P (dueT (dueP kind last x true)) (.ref wh)
  k5 : K5 kind
  kl : kind.length ≤ 50
  ll : last.length ≤ 50
  okk : okS kind
  okl : okS last
  x14 : x.length ≤ 14
  xok : ∀ c ∈ x,okC c
section
variable {kind last x : List Nat} {cx ck cl dl wh : Addr}
private theorem LW.okx (L : LW P kind last x cx ck cl dl wh) : okS x := fun c hc => (L.xok c hc).2
private theorem LW.due (L : LW P kind last x cx ck cl dl wh) (hE : Ext P H) {k : Nat} (hk : k ≤ x.length) : ∃ b,subs H (.ref dl) (.int (k : Int)) = some (.ref b) ∧ Rd H (dueT (dueP kind last (x.take k) false)) (.ref b) := by
  obtain ⟨ds,h1,h2⟩ := L.dl
  have e : ((List.range (x.length + 1)).map fun k => dueT (dueP kind last (x.take k) false))[k]? = some (dueT (dueP kind last (x.take k) false)) := by
    rw [List.getElem?_map,List.getElem?_range (by lia)]; rfl
  obtain ⟨d,e1,e2⟩ := h2.get e
  obtain ⟨b,xs,rfl,_⟩ := e2.invT
  refine ⟨b,?_,Rd.ext hE _ _ e2⟩
  simp only [subs,hE _ _ h1]
  have := L.x14
  rw [if_pos ⟨by lia,by unfold big; lia⟩]
  simpa using e1
private theorem ext_eq {τ : TS} {y : List Nat} {m : Nat} {b : Bool} (h : τ.closed = b) : ({ τ with signs := τ.signs ++ y,seB := m } : TS) = τ.ext y m b := by
  cases τ
  simp only at h
  subst h
  rfl
private theorem ext_end {τ : TS} : ({ τ with closed := true } : TS) = τ.ext [] τ.seB true := by
  unfold TS.ext
  rw [List.append_nil]
private theorem place_turn {t : Addr} {a : Ad} {ρ : Ev} {G : Hp} {b p : Nat} {K : K2} (L : LW P kind last x cx ck cl dl wh) (T : TokAt P G t (tot false kind last (x.take b) b) a) (hbp : b ≤ p) (hp : p ≤ x.length)
    (h46 : ρ.v 46 = some (.ref t)) (h37 : ρ.v 37 = some (.int b)) (h80 : ρ.v 80 = some (.int p)) (h109 : ρ.v 109 = some (.ref dl)) (hc : ρ.c 11 = some cx)
    (hK : ∀ a' G',TokAt P G' t (tot false kind last (x.take p) p) a' → K .next (ρ.put 37 (.int p)) G') : Ss.wp tbl (callP tbl (n + 6)) lp_law_0 ρ K G := by
  have hx := L.x14
  have hcx := T.sub _ _ L.cx
  have hy : (x.take b).length ≤ 14 := by rw [List.length_take]; lia
  have ts := tot_signs (b := false) (last := last) (m := b) hy L.k5
  have ep : x.take b ++ (x.take p).drop b = x.take p := by
    have := List.take_append_drop b (x.take p)
    rw [List.take_take,Nat.min_eq_left hbp] at this
    exact this
  have pl : ((x.take p).drop b).length = p - b := by rw [List.length_drop,List.length_take]; lia
  simp only [↓ss_cons,↓s_expr,↓x_loc,↓x_cel,↓x_mcall,↓x_slice,↓f6e,↓f7e,↓f38e,↓f39e,↓f40e,↓f45e,↓f46e,↓xs_nil,↓xs_cons,la_27,meth_310_27,lp_law_0,h46,T.attrs,hc,hcx,h37,h80,slice_nn,kOe,kc1e,kc2e,k7e,k7be,k38e]
  refine ⟨by unfold big; lia,?_⟩
  refine tok_feed_c T ts.2.1 (fun c hcc => (L.xok c (List.mem_of_mem_take (List.mem_of_mem_drop hcc))).1) (by rw [ts.1,ts.2.2,pl,List.length_take]; lia) fun G1 T1 => ?_
  have e1 : ({ tot false kind last (x.take b) b with signs := (tot false kind last (x.take b) b).signs ++ (x.take p).drop b,seB := (tot false kind last (x.take b) b).seB + ((x.take p).drop b).length } : TS) = (tot false kind last (x.take b) b).ext ((x.take p).drop b) p false := by
    rw [ts.2.2,pl,show b + (p - b) = p by lia]
    exact ext_eq ts.2.1
  rw [e1] at T1
  obtain ⟨N,R⟩ := feed_runs (kind := kind) (last := last) L.k5 (y := x.take b) (p := (x.take p).drop b) (m := b) (m' := p) (b := false) (by rw [ep,List.length_take]; lia)
  rw [ep] at R
  simp only [↓ss_cons,↓s_assign,↓s_ite,↓x_loc,↓x_mcall,↓x_bop,↓f6e,↓f7e,↓f48e,↓f49e,↓f59e,↓xs_nil,↓xb_cons,put_v,bF,Nat.reduceBEq,la_91,meth_310_91,h46,T1.attrs,kOe,k7e,k7be,h80]
  skip
  refine run_c R T1 fun a2 G2 T2 => ?_
  have hd : (tot false kind last (x.take p) p).done = false := by
    rw [(tot_seen (by rw [List.length_take]; lia)).2]; exact due_open
  rw [hd]
  simp only [↓x_loc,↓x_glo,↓x_call,↓x_cmp,↓f2e,↓f5e,↓f45e,↓f46e,↓f47e,↓xs_nil,↓xs_cons,↓xb_cons,glo_108,fn_law_seen,h46,kOe,k5e,k47ff,put_v,bF,Nat.reduceBEq]
  refine lseen_c T2 fun d G3 hE T3 hs => ?_
  rw [(tot_seen (by rw [List.length_take]; lia)).1] at hs
  obtain ⟨bd,e2,e3⟩ := L.due T3.sub hp
  obtain ⟨sd,xs,rfl,_⟩ := hs.invT
  simp only [↓x_loc,↓f24e,↓f30e,↓f36e,↓f37e,↓x_sub,↓xb_nil,↓f47e,↓f57e,↓ss_nil,↓f59e,h109,h80,e2,↓f23r,kOe,k47ff,k57f,put_v,bF,Nat.reduceBEq]
  refine ⟨dueT (dueP kind last (x.take p) false),(dueP_ok (L.okx.take) L.okk L.okl).T,hs,e3,?_⟩
  exact hK a2 G3 T3
noncomputable def Go (m : Nat) : Nat → List Nat → Prop
  | b,[] => b = m
  | b,w :: r => b ≤ w ∧ w ≤ m ∧ Go m w r
private theorem place_loop {t : Addr} {st : Hp → Prop} {K : K2} (L : LW P kind last x cx ck cl dl wh) (hst : ∀ H',Ext P H' → st H') :
    ∀ (ws : List Nat) (b : Nat) (ρ : Ev) (G : Hp) (a : Ad),TokAt P G t (tot false kind last (x.take b) b) a → Go x.length b ws →
      ρ.v 46 = some (.ref t) → ρ.v 37 = some (.int b) → ρ.v 109 = some (.ref dl) → ρ.v 106 = some (.ref wh) → ρ.c 11 = some cx → ρ.c 32 = some ck → ρ.c 16 = some cl →
      (∀ (ρ' : Ev) a' G',ρ'.v 46 = some (.ref t) → ρ'.v 109 = some (.ref dl) → ρ'.v 106 = some (.ref wh) → ρ'.c 11 = some cx → ρ'.c 32 = some ck → ρ'.c 16 = some cl → TokAt P G' t (tot false kind last x x.length) a' → K .next ρ' G') →
      overItems (fun ρ Q H => Ss.wp tbl (callP tbl (n + 6)) lp_law_0 ρ Q H) 80 st K (ws.map fun (w : Nat) => D.int w) ρ G := by
  intro ws
  induction ws with
  | nil =>
    intro b ρ G a T hg h46 h37 h109 h106 h11 h32 h16 hK
    obtain rfl : b = x.length := hg
    rw [List.take_length] at T
    exact ⟨hst _ T.sub,hK ρ a G h46 h109 h106 h11 h32 h16 T⟩
  | cons w ws ih =>
    intro b ρ G a T hg h46 h37 h109 h106 h11 h32 h16 hK
    refine ⟨hst _ T.sub,?_⟩
    refine place_turn (b := b) (p := w) L T hg.1 hg.2.1 (by simpa [put_v,put_c,cel_v,cel_c,bT,bF,Nat.reduceBEq] using h46) (by simpa [put_v,put_c,cel_v,cel_c,bT,bF,Nat.reduceBEq] using h37) (by simp [put_v,bT]) (by simpa [put_v,put_c,cel_v,cel_c,bT,bF,Nat.reduceBEq] using h109) h11 fun a' G' T' => ?_
    exact ih w _ G' a' T' hg.2.2 (by simpa [put_v,put_c,cel_v,cel_c,bT,bF,Nat.reduceBEq] using h46) (by simp [put_v,bT,bF,Nat.reduceBEq]) (by simpa [put_v,put_c,cel_v,cel_c,bT,bF,Nat.reduceBEq] using h109) (by simpa [put_v,put_c,cel_v,cel_c,bT,bF,Nat.reduceBEq] using h106) h11 h32 h16 hK
end
end
end Mine
end
section
open PySem
namespace Mine
section
variable {P H : Hp} {n : Nat} {Q : K1}
variable {kind last x : List Nat} {cx ck cl dl wh : Addr}
private theorem LW.whole (L : LW P kind last x cx ck cl dl wh) (hE : Ext P H) : Rd H (dueT (dueP kind last x true)) (.ref wh) ∧ subs H (.ref wh) (.int 6) = some (.bool (dueP kind last x true).done) := by
  have h := Rd.ext hE _ _ L.wh
  refine ⟨h,?_⟩
  obtain ⟨a,xs,e,hm,hr⟩ := h.invT
  cases e
  obtain ⟨d0,r0,rfl,k0,hr⟩ := hr.inv
  obtain ⟨d1,r1,rfl,k1,hr⟩ := hr.inv
  obtain ⟨d2,r2,rfl,k2,hr⟩ := hr.inv
  obtain ⟨d3,r3,rfl,k3,hr⟩ := hr.inv
  obtain ⟨d4,r4,rfl,k4,hr⟩ := hr.inv
  obtain ⟨d5,r5,rfl,k5,hr⟩ := hr.inv
  obtain ⟨d6,r6,rfl,k6,hr⟩ := hr.inv
  obtain rfl := k6.invB
  simp only [subs,hm]
  rw [if_pos ⟨by lia,by unfold big; lia⟩]
  rfl
private theorem seen_whole {t : Addr} {a : Ad} {G : Hp} {K : K1} {m : Nat} (L : LW P kind last x cx ck cl dl wh) (T : TokAt P G t (tot true kind last x m) a)
    (hK : ∀ (d : Addr) G',TokAt P G' t (tot true kind last x m) a → (∃ tr,okT 9 tr = true ∧ Rd G' tr (.ref d) ∧ Rd G' tr (.ref wh)) → K (.ref d) G') : callP tbl (n + 2) 590 [.ref t] K G := by
  refine lseen_c T fun d G' hE T' hs => ?_
  rw [(tot_seen L.x14).1] at hs
  obtain ⟨sd,xs,rfl,_⟩ := hs.invT
  exact hK sd G' T' ⟨dueT (dueP kind last x true),(dueP_ok L.okx L.okk L.okl).T,hs,(L.whole T'.sub).1⟩
private theorem way_last {t : Addr} {a : Ad} {ρ : Ev} {G : Hp} {K : K2} {m : Nat} (L : LW P kind last x cx ck cl dl wh) (T : TokAt P G t (tot true kind last x m) a)
    (h46 : ρ.v 46 = some (.ref t)) (h106 : ρ.v 106 = some (.ref wh)) (h109 : ρ.v 109 = some (.ref dl))
    (hK : ∀ (ρ' : Ev) G',ρ'.v 109 = some (.ref dl) → ρ'.v 106 = some (.ref wh) → ρ'.c = ρ.c → Ext P G' → K .next ρ' G') :
    Ss.wp tbl (callP tbl (n + 6)) (.cons (.ite (.not (.sub (.loc 106) (.int 6))) (.cons (.assign 107 (.str [])) (.cons .special (.cons (.ite (.bop false (.cons (.cmp .ne (.loc 107) (.str [110,111,32,115,117,99,104,32,115,116,97,116,101])) (.cons (.cmp .ne (.call (.glo 108) (.cons (.loc 46) (.nil))) (.loc 106)) (.nil)))) (.cons (.ret (.bool false)) .nil) .nil) .nil))) .nil) .nil) ρ K G := by
  obtain ⟨w1,w2⟩ := L.whole T.sub
  cases hd : (dueP kind last x true).done with
  | true =>
    rw [hd] at w2
    simp only [↓ss_nil,↓ss_cons,↓s_ite,↓x_int,↓x_loc,↓x_not,↓x_sub,↓f31e,↓f36e,↓f37e,↓f57e,↓f59e,Bool.not_true,h106,w2,kOe,k57f]
    exact hK ρ G h109 h106 rfl T.sub
  | false =>
    rw [hd] at w2
    have hst : lookS (tot true kind last x m).state statesKV = none := by
      have e := (tot_seen (kind := kind) (last := last) (b := true) (m := m) L.x14).1
      have e2 : (tot true kind last x m).state = (dueP kind last x true).state := by
        unfold seenT dueT at e
        simp only [Tr.tuple.injEq,List.cons.injEq,Tr.str.injEq] at e
        exact e.2.2.2.1
      rw [e2]
      exact (due_foreign hd).look.1
    have e3 : decide (([110,111,32,115,117,99,104,32,115,116,97,116,101] : List Nat) = [110,111,32,115,117,99,104,32,115,116,97,116,101]) = true := by decide
    simp only [↓ss_cons,↓s_assign,↓s_ite,↓s_special,↓x_int,↓x_str,↓x_loc,↓x_glo,↓x_call,↓x_cmp,↓x_bop,↓x_not,↓x_sub,↓f2e,↓f5e,↓f24e,↓f31e,↓f36e,↓f37e,↓f45e,↓f46e,↓f47e,↓f49e,↓f57e,↓f59e,↓xs_nil,↓xs_cons,↓xb_cons,put_v,bT,bF,Nat.reduceBEq,c_ne_ss,Bool.not_false,la_14,la_15,la_40,glo_108,h106,w2,h46,T.attrs,T.st,hst,noSuch,fn_law_seen,↓f23s,kOe,kBe,k5e,k47ff,k57t,Bool.not_true,decide_true]
    refine ⟨⟨trivial,trivial,trivial⟩,?_⟩
    refine seen_whole L T fun d G' T' hne => ?_
    obtain ⟨tr,k1,k2,k3⟩ := hne
    simp only [↓x_loc,↓f24e,↓f30e,↓xb_nil,↓f47e,↓f57e,↓ss_nil,↓f59e,h106,↓f23r,kOe,k47ff,k57f,put_v,bF,Nat.reduceBEq]
    refine ⟨tr,k1,k2,k3,?_⟩
    exact hK _ G' (by simpa using h109) (by simpa using h106) rfl T'.sub
private theorem way_tail {t : Addr} {a : Ad} {ρ : Ev} {G : Hp} {K : K2} (L : LW P kind last x cx ck cl dl wh) (T : TokAt P G t (tot false kind last x x.length) a)
    (h46 : ρ.v 46 = some (.ref t)) (h106 : ρ.v 106 = some (.ref wh)) (h109 : ρ.v 109 = some (.ref dl)) (h11 : ρ.c 11 = some cx)
    (hK : ∀ (ρ' : Ev) G',ρ'.v 109 = some (.ref dl) → ρ'.v 106 = some (.ref wh) → ρ'.c = ρ.c → Ext P G' → K .next ρ' G') :
    Ss.wp tbl (callP tbl (n + 6)) (.cons (.expr (.mcall (.loc 46) 28 (.nil))) (.cons (.ite (.bop false (.cons (.cmp .ne (.mcall (.loc 46) 91 (.nil)) (.sub (.loc 106) (.int 6))) (.cons (.cmp .ne (.call (.glo 108) (.cons (.loc 46) (.nil))) (.loc 106)) (.cons (.cmp .ne (.attr (.attr (.loc 46) 25) 10) (.listOf (.cel 11))) (.nil))))) (.cons (.ret (.bool false)) .nil) .nil) (.cons (.ite (.not (.sub (.loc 106) (.int 6))) (.cons (.assign 107 (.str [])) (.cons .special (.cons (.ite (.bop false (.cons (.cmp .ne (.loc 107) (.str [110,111,32,115,117,99,104,32,115,116,97,116,101])) (.cons (.cmp .ne (.call (.glo 108) (.cons (.loc 46) (.nil))) (.loc 106)) (.nil)))) (.cons (.ret (.bool false)) .nil) .nil) .nil))) .nil) .nil))) ρ K G := by
  have hx := L.x14
  have A := fun (m : Nat) (G1 : Hp) (a1 : Ad) (T1 : TokAt P G1 t (tot true kind last x m) a1) => way_last (n := n) L T1 h46 h106 h109 hK
  generalize (Ss.cons (.ite (.not (.sub (.loc 106) (.int 6))) (.cons (.assign 107 (.str [])) (.cons .special (.cons (.ite (.bop false (.cons (.cmp .ne (.loc 107) (.str [110,111,32,115,117,99,104,32,115,116,97,116,101])) (.cons (.cmp .ne (.call (.glo 108) (.cons (.loc 46) (.nil))) (.loc 106)) (.nil)))) (.cons (.ret (.bool false)) .nil) .nil) .nil))) .nil) .nil) = tl at A ⊢
  simp only [↓ss_cons,↓s_expr,↓x_loc,↓x_mcall,↓f6e,↓f7e,↓xs_nil,la_28,meth_310_28,h46,T.attrs,kOe,k7e,k7be]
  refine tok_end_c T fun G1 T1 => ?_
  rw [ext_end] at T1
  obtain ⟨N,R⟩ := feed_runs (kind := kind) (last := last) L.k5 (y := x) (p := []) (m := x.length) (m' := (tot false kind last x x.length).seB) (b := true) (by rw [List.append_nil]; lia)
  rw [List.append_nil] at R
  generalize (tot false kind last x x.length).seB = m' at T1 R
  simp only [↓ss_cons,↓s_ite,↓x_loc,↓x_mcall,↓x_cmp,↓x_bop,↓f7e,↓f48e,↓f59e,↓xb_cons,kOe,h46]
  simp only [la_91,meth_310_91,T1.attrs,↓f6e,↓xs_nil,k7e,k7be]
  refine run_c R T1 fun a2 G2 T2 => ?_
  obtain ⟨w1,w2⟩ := L.whole T2.sub
  have hd : (tot true kind last x m').done = (dueP kind last x true).done := (tot_seen hx).2
  rw [hd]
  have e1 : (!decide ((dueP kind last x true).done = (dueP kind last x true).done)) = false := by simp
  simp only [↓x_int,↓x_loc,↓x_glo,↓x_call,↓x_cmp,↓x_sub,↓f2e,↓f5e,↓f24e,↓f36e,↓f37e,↓f45e,↓f46e,↓f47e,↓xs_nil,↓xs_cons,↓xb_cons,c_ne_bb,glo_108,h106,w2,fn_law_seen,h46,↓f23b,kOe,kBe,k5e,k47ff,Bool.not_true,decide_true]
  refine seen_whole L T2 fun d G3 T3 hne => ?_
  obtain ⟨tr,k1,k2,k3⟩ := hne
  simp only [↓x_loc,↓f1e,↓x_attr,↓f24e,↓x_cmp,↓f47e,↓xb_cons,h106,h46,↓f23r,kOe,k47ff]
  refine ⟨tr,k1,k2,k3,?_⟩
  have hcx := T3.sub _ _ L.cx
  simp only [la_25,ls_10,field_147_10,field_310_25,T3.attrs,T3.sattrs,h11,hcx,↓x_cel,↓f1e,↓f12e,↓x_listOf,↓f24e,↓f30e,↓xb_nil,↓f47e,↓f57e,↓ss_nil,↓f59e,↓f23r,kc1e,kc2e,k1e,k1be,k47ff,k57f]
  refine ⟨by unfold big; lia,fun b2 hb2 => ?_⟩
  have T4 := T3.fresh hb2 (O := .list (x.map fun c => .str [c]))
  have hsg := T4.sg
  rw [(tot_signs hx L.k5).1] at hsg
  have rds : ∀ (l : List Nat) (G : Hp),Rds G (l.map fun c => Tr.str [c]) (l.map fun c => D.str [c]) := fun l G => by
    induction l with
    | nil => exact .nil
    | cons c l ih => exact .cons rd_str ih
  refine ⟨.list (x.map fun c => .str [c]),okT_lis (n := 8) (fun t ht => ?_),.lis hsg (rds x _),.lis set_self (rds x _),?_⟩
  · obtain ⟨c,hc,rfl⟩ := List.mem_map.mp ht
    exact okT_str fun d hd => by simp at hd; subst hd; exact L.okx _ hc
  · exact A m' _ a2 T4
private theorem way_turn {ρ : Ev} {G : Hp} {K : K2} {wa : Addr} {ws : List Nat} (L : LW P kind last x cx ck cl dl wh) (hE : Ext P G) (hw : P wa = some (.list (ws.map fun (w : Nat) => D.int w))) (hwl : ws.length ≤ 100) (hg : Go x.length 0 ws)
    (h103 : ρ.v 103 = some (.ref wa)) (h106 : ρ.v 106 = some (.ref wh)) (h109 : ρ.v 109 = some (.ref dl)) (h11 : ρ.c 11 = some cx) (h32 : ρ.c 32 = some ck) (h16 : ρ.c 16 = some cl)
    (hK : ∀ (ρ' : Ev) G',ρ'.v 109 = some (.ref dl) → ρ'.v 106 = some (.ref wh) → ρ'.c 11 = some cx → ρ'.c 32 = some ck → ρ'.c 16 = some cl → Ext P G' → K .next ρ' G') : Ss.wp tbl (callP tbl (n + 6)) lp_law_1 ρ K G := by
  have hx := L.x14
  have A := fun (ρ : Ev) (t : Addr) (G1 : Hp) (a1 : Ad) (T1 : TokAt P G1 t (tot false kind last x x.length) a1) (h46 : ρ.v 46 = some (.ref t)) (h106 : ρ.v 106 = some (.ref wh)) (h109 : ρ.v 109 = some (.ref dl)) (h11 : ρ.c 11 = some cx) (h32 : ρ.c 32 = some ck) (h16 : ρ.c 16 = some cl) =>
    way_tail (n := n) (K := K) L T1 h46 h106 h109 h11 fun ρ' G' a b c d => hK ρ' G' a b (by rw [c]; exact h11) (by rw [c]; exact h32) (by rw [c]; exact h16) d
  unfold lp_law_1
  generalize (Ss.cons (.expr (.mcall (.loc 46) 28 (.nil))) (.cons (.ite (.bop false (.cons (.cmp .ne (.mcall (.loc 46) 91 (.nil)) (.sub (.loc 106) (.int 6))) (.cons (.cmp .ne (.call (.glo 108) (.cons (.loc 46) (.nil))) (.loc 106)) (.cons (.cmp .ne (.attr (.attr (.loc 46) 25) 10) (.listOf (.cel 11))) (.nil))))) (.cons (.ret (.bool false)) .nil) .nil) (.cons (.ite (.not (.sub (.loc 106) (.int 6))) (.cons (.assign 107 (.str [])) (.cons .special (.cons (.ite (.bop false (.cons (.cmp .ne (.loc 107) (.str [110,111,32,115,117,99,104,32,115,116,97,116,101])) (.cons (.cmp .ne (.call (.glo 108) (.cons (.loc 46) (.nil))) (.loc 106)) (.nil)))) (.cons (.ret (.bool false)) .nil) .nil) .nil))) .nil) .nil))) = tl at A ⊢
  simp only [↓ss_cons,↓s_assign,↓x_glo,↓x_call,↓f2e,↓f5e,↓xs_nil,↓xs_cons,glo_110,glo_111,init_310,fn_310,fn_text_states,kOe,k5e,k5n,k5be]
  refine text_states_c fun st G1 hE1 hst => ?_
  have hE01 := hE.trans hE1
  simp only [↓x_cel,↓f4e,↓f45e,↓f46e,↓xs_nil,↓xs_cons,h32,h16,hE01 _ _ L.ck,hE01 _ _ L.cl,kc1e,kc2e]
  intro dx t hdx ht hne
  have k1 : ((G1.set dx (.attrs [])).set t (.inst 310 dx)) t = some (.inst 310 dx) := set_self
  have k2 : ((G1.set dx (.attrs [])).set t (.inst 310 dx)) dx = some (.attrs []) := by rw [set_ne hne,set_self]
  have ht' : (G1.set dx (.attrs [])) t = none := by rw [set_ne (Ne.symm hne)]; exact ht
  have k3 : Ext G1 ((G1.set dx (.attrs [])).set t (.inst 310 dx)) := (Ext.set hdx).trans (Ext.set ht')
  refine tok_init_c (P := P) k1 k2 (hE01.trans k3) (ext_none hE01 hdx) (k3 _ _ hst) fun a G2 T2 => ⟨rfl,?_⟩
  rw [← tot_nil] at T2
  simp only [↓ss_cons,↓s_ite,↓x_loc,↓x_glo,↓x_call,↓x_cmp,↓f2e,↓f5e,↓f45e,↓f46e,↓f49e,↓f59e,↓xs_nil,↓xs_cons,put_v,bT,Nat.reduceBEq,glo_108,fn_law_seen,kOe,k5e]
  refine lseen_c T2 fun d G3 hE3 T3 hs => ?_
  have e0 : seenT (tot false kind last [] 0) = dueT (dueP kind last (x.take 0) false) := (tot_seen (by simp)).1
  rw [e0] at hs
  obtain ⟨bd,e2,e3⟩ := L.due T3.sub (Nat.zero_le _)
  obtain ⟨sd,xs,rfl,_⟩ := hs.invT
  have e2' : subs G3 (.ref dl) (.int 0) = some (.ref bd) := e2
  simp only [↓ss_nil,↓ss_cons,↓s_assign,↓s_for_,↓x_int,↓x_loc,↓x_sub,↓f24e,↓f36e,↓f37e,↓f49e,↓f57e,↓f59e,put_v,bF,Nat.reduceBEq,h109,e2',↓f23r,kOe,k57f]
  refine ⟨dueT (dueP kind last (x.take 0) false),(dueP_ok (L.okx.take) L.okk L.okl).T,hs,e3,?_⟩
  simp only [h103,itemsOf,T3.sub _ _ hw,↓f58e,kOe]
  rw [if_pos (by rw [List.length_map]; unfold big; lia)]
  simp only [k58e]
  refine place_loop L (fun H' hE' => by show H' wa = G3 wa; rw [hE' _ _ hw,T3.sub _ _ hw]) ws 0 _ G3 a T3 hg (by simp) (by simp) (by simpa using h109) (by simpa using h106) h11 h32 h16 fun ρ' a' G' b46 b109 b106 b11 b32 b16 T' => ?_
  exact A ρ' t G' a' T' b46 b106 b109 b11 b32 b16
end
end Mine
end
section
open PySem
namespace Mine
section
variable {P H : Hp} {n : Nat} {Q : K1}
private theorem Go_sorted {m : Nat} : ∀ (ws : List Nat) (b : Nat),b ≤ m → (∀ w ∈ ws,b ≤ w ∧ w ≤ m) → ws.Pairwise (· ≤ ·) → Go m b (ws ++ [m])
  | [],b,hb,_,_ => ⟨hb,Nat.le_refl _,rfl⟩
  | w :: ws,b,hb,h,hp => by
    have hw := h w (.head _)
    obtain ⟨h1,h2⟩ := List.pairwise_cons.mp hp
    exact ⟨hw.1,hw.2,Go_sorted ws w hw.2 (fun v hv => ⟨h1 v hv,(h v (.tail _ hv)).2⟩) h2⟩
private theorem Go_range {m : Nat} : ∀ (k b : Nat),b + k = m → Go m b (List.range' (b + 1) k)
  | 0,b,h => by show b = m; lia
  | k + 1,b,h => by
    rw [List.range'_succ]
    exact ⟨by lia,by lia,Go_range k (b + 1) (by lia)⟩
private theorem intsR_range : ∀ (k i : Nat),intsR (i : Int) k = (List.range' i k).map fun (w : Nat) => D.int w
  | 0,_ => rfl
  | k + 1,i => by
    rw [List.range'_succ,intsR_cons,List.map_cons]
    have := intsR_range k (i + 1)
    rw [← this]
    congr 1
private theorem law_comp {kind last x : List Nat} {c11 c16 c32 : Addr} {ρc : Ev} {G0 : Hp} {stand : Hp → Prop} {Qc : List D → Hp → Prop} (h11 : ρc.c 11 = some c11) (h16 : ρc.c 16 = some c16) (h32 : ρc.c 32 = some c32)
    (g11 : G0 c11 = some (.cell (some (.str x)))) (g16 : G0 c16 = some (.cell (some (.str last)))) (g32 : G0 c32 = some (.cell (some (.str kind)))) (hx : x.length ≤ 14) (hk : kind.length ≤ 50) (hst : ∀ G',Ext G0 G' → stand G') :
    ∀ (j k : Nat) (acc : List D) (G : Hp),Ext G0 G → Rds G ((List.range k).map fun k => dueT (dueP kind last (x.take k) false)) acc →
      (∀ acc' G',Ext G0 G' → Rds G' ((List.range (k + j)).map fun k => dueT (dueP kind last (x.take k) false)) acc' → Qc acc' G') →
      compItems (fun ρ' K H => X.wp tbl (callP tbl (n + 6)) ρ' ce_law_2 K H) (.one 81) ρc stand Qc (intsR k j) acc G := by
  intro j
  induction j with
  | zero =>
    intro k acc G hE ha hQ
    exact ⟨hst _ hE,hQ acc G hE ha⟩
  | succ j ih =>
    intro k acc G hE ha hQ
    rw [intsR_cons]
    refine ⟨hst _ hE,?_⟩
    simp only [bindTg]
    have e11 := hE _ _ g11
    have e16 := hE _ _ g16
    have e32 := hE _ _ g32
    simp only [ce_law_2,↓x_none,↓x_bool,↓x_loc,↓x_cel,↓x_glo,↓x_call,↓x_slice,↓f2e,↓f5e,↓f38e,↓f39e,↓f40e,↓f45e,↓f46e,↓xs_nil,↓xs_cons,glo_101,fn_law_due,put_v,put_c,bT,Nat.reduceBEq,h11,h16,h32,e11,e16,e32,slice_0n,kOe,kc1e,kc2e,k5e,k38e]
    refine ⟨by unfold big; lia,?_⟩
    refine ldue_c (m := n + 2) (by rw [List.length_take]; lia) (by lia) fun d G' hE' hd => ?_
    have := ih (k + 1) (acc ++ [d]) G' (hE.trans hE') (by
      rw [List.range_succ,List.map_append]
      exact (Rds.ext hE' _ _ ha).snoc hd) (fun acc' G2 a b => hQ acc' G2 a (by rw [show k + (j + 1) = k + 1 + j by lia]; exact b))
    have e3 : (((k + 1 : Nat)) : Int) = (k : Int) + 1 := by lia
    rw [e3] at this
    exact this
structure CS (G : Hp) (a : Addr) (O : AO) (c11 c16 c32 : Addr) (v11 v16 v32 : Option D) : Prop where
  fa : G a = some O
  f11 : G c11 = some (.cell v11)
  f16 : G c16 = some (.cell v16)
  f32 : G c32 = some (.cell v32)
  n1 : c11 ≠ c16
  n2 : c11 ≠ c32
  n3 : c16 ≠ c32
  n4 : a ≠ c11
  n5 : a ≠ c16
  n6 : a ≠ c32
section
variable {G G' : Hp} {a : Addr} {O : AO} {c11 c16 c32 : Addr} {v11 v16 v32 : Option D}
private theorem CS.ext (C : CS G a O c11 c16 c32 v11 v16 v32) (h : Ext G G') : CS G' a O c11 c16 c32 v11 v16 v32 :=
  ⟨h _ _ C.fa,h _ _ C.f11,h _ _ C.f16,h _ _ C.f32,C.n1,C.n2,C.n3,C.n4,C.n5,C.n6⟩
private theorem CS.s11 (C : CS G a O c11 c16 c32 v11 v16 v32) {d : Option D} : CS (G.set c11 (.cell d)) a O c11 c16 c32 d v16 v32 :=
  ⟨(set_ne C.n4).trans C.fa,set_self,(set_ne (Ne.symm C.n1)).trans C.f16,(set_ne (Ne.symm C.n2)).trans C.f32,C.n1,C.n2,C.n3,C.n4,C.n5,C.n6⟩
private theorem CS.s16 (C : CS G a O c11 c16 c32 v11 v16 v32) {d : Option D} : CS (G.set c16 (.cell d)) a O c11 c16 c32 v11 d v32 :=
  ⟨(set_ne C.n5).trans C.fa,(set_ne C.n1).trans C.f11,set_self,(set_ne (Ne.symm C.n3)).trans C.f32,C.n1,C.n2,C.n3,C.n4,C.n5,C.n6⟩
private theorem CS.s32 (C : CS G a O c11 c16 c32 v11 v16 v32) {d : Option D} : CS (G.set c32 (.cell d)) a O c11 c16 c32 v11 v16 d :=
  ⟨(set_ne C.n6).trans C.fa,(set_ne C.n2).trans C.f11,(set_ne C.n3).trans C.f16,set_self,C.n1,C.n2,C.n3,C.n4,C.n5,C.n6⟩
end
section
variable {kind last x : List Nat} {a : Addr} {O : AO} {c11 c16 c32 : Addr}
private theorem law_D {ρ : Ev} {G : Hp} {dl wh ca : Addr} {cs : List Nat} (C : CS G a O c11 c16 c32 (some (.str x)) (some (.str last)) (some (.str kind)))
    (hdl : ∃ ds,G dl = some (.list ds) ∧ Rds G ((List.range (x.length + 1)).map fun k => dueT (dueP kind last (x.take k) false)) ds) (hwh : Rd G (dueT (dueP kind last x true)) (.ref wh))
    (k5 : K5 kind) (kl : kind.length ≤ 50) (ll : last.length ≤ 50) (okk : okS kind) (okl : okS last) (x14 : x.length ≤ 14) (xok : ∀ c ∈ x,okC c)
    (hca : G ca = some (.list (cs.map fun (w : Nat) => D.int w))) (hcl : cs.length ≤ 10) (hcs : ∀ w ∈ cs,w ≤ x.length) (hcp : cs.Pairwise (· ≤ ·))
    (h104 : ρ.v 104 = some (.int x.length)) (h105 : ρ.v 105 = some (.ref ca)) (h106 : ρ.v 106 = some (.ref wh)) (h109 : ρ.v 109 = some (.ref dl)) (h11 : ρ.c 11 = some c11) (h32 : ρ.c 32 = some c32) (h16 : ρ.c 16 = some c16)
    (hQ : ∀ G',G' a = some O → Q (.bool true) G') :
    Ss.wp tbl (callP tbl (n + 6)) (.cons (.for_ 103 (.list (.cons (.list (.cons (.loc 104) (.nil))) (.cons (.bin .add (.loc 105) (.list (.cons (.loc 104) (.nil)))) (.cons (.listOf (.range2 (.int 1) (.bin .add (.loc 104) (.int 1)))) (.nil))))) lp_law_1) (.cons (.ret (.bool true)) .nil)) ρ
      (fC Q) G := by
  have e1 : ((x.length : Int) + 1) = ((x.length + 1 : Nat) : Int) := by lia
  simp only [↓ss_cons,↓s_for_,↓x_loc,↓x_bin,↓x_list,↓f33e,↓f34e,↓f41e,↓f45e,↓f46e,↓xs_nil,↓xs_cons,b_add_rr,Nat.reduceAdd,h104,h105,List.length_cons,List.length_nil,kOe,k33n]
  refine ⟨by unfold big; lia,fun w1 hw1 => ⟨by unfold big; lia,fun t1 ht1 => ?_⟩⟩
  have E1 := Ext.set hw1 (O := .list [.int x.length])
  have E2 := Ext.set ht1 (O := .list [.int x.length])
  have a1 := E2 _ _ (set_self (H := G) (a := w1) (O := .list [D.int x.length]))
  have a2 := E2 _ _ (E1 _ _ hca)
  have a3 : ((G.set w1 (.list [.int x.length])).set t1 (.list [.int x.length])) t1 = some (.list [.int x.length]) := set_self
  have E12 := E1.trans E2
  generalize (G.set w1 (.list [.int x.length])).set t1 (.list [.int x.length]) = G2 at a1 a2 a3 E12
  simp only [a2,a3,h104,e1,↓x_int,↓x_loc,↓x_listOf,↓f15e,↓f16e,↓x_range2,↓f33e,↓f34e,↓x_bin,↓f46e,↓xs_cons,b_add_ii,↓f12r,kOe,k33e,k33be]
  refine ⟨by simp; unfold big; lia,fun w2 hw2 => ?_⟩
  have E3 := Ext.set hw2 (O := .list ((cs.map fun (w : Nat) => D.int w) ++ [.int x.length]))
  have b1 := E3 _ _ a1
  have b2 : (G2.set w2 (.list ((cs.map fun (w : Nat) => D.int w) ++ [.int x.length]))) w2 = some (.list ((cs.map fun (w : Nat) => D.int w) ++ [.int x.length])) := set_self
  have E13 := E12.trans E3
  generalize G2.set w2 (.list ((cs.map fun (w : Nat) => D.int w) ++ [.int x.length])) = G3 at b1 b2 E13
  refine ⟨⟨by lia,by lia,by unfold big; lia⟩,fun r hr => ?_⟩
  have E4 := Ext.set hr (O := .range 1 ((x.length + 1 : Nat) : Int))
  simp only [set_self,↓f41e,↓xs_nil,↓f45e,↓f46e,↓f58e,k12e]
  have c1 := E4 _ _ b1
  have c2 := E4 _ _ b2
  have E14 := E13.trans E4
  generalize G3.set r (.range 1 ((x.length + 1 : Nat) : Int)) = G4 at c1 c2 E14
  refine ⟨⟨by lia,by unfold big; lia,by lia,by unfold big; lia⟩,fun w3 hw3 => ?_⟩
  rw [show (((x.length + 1 : Nat) : Int) - 1).toNat = x.length by lia]
  have E5 := Ext.set hw3 (O := .list (intsR 1 x.length))
  have d1 := E5 _ _ c1
  have d2 := E5 _ _ c2
  have d3 : (G4.set w3 (.list (intsR 1 x.length))) w3 = some (.list (intsR 1 x.length)) := set_self
  have E15 := E14.trans E5
  generalize G4.set w3 (.list (intsR 1 x.length)) = G5 at d1 d2 d3 E15
  refine ⟨by simp [big],fun wo hwo => ?_⟩
  have E6 := Ext.set hwo (O := .list [.ref w1,.ref w2,.ref w3])
  have f1 := E6 _ _ d1
  have f2 := E6 _ _ d2
  have f3 := E6 _ _ d3
  have fo : (G5.set wo (.list [.ref w1,.ref w2,.ref w3])) wo = some (.list [.ref w1,.ref w2,.ref w3]) := set_self
  have E := E15.trans E6
  generalize G5.set wo (.list [.ref w1,.ref w2,.ref w3]) = P at f1 f2 f3 fo E
  simp only [itemsOf,fo]
  rw [if_pos (by simp [big])]
  simp only [k58e]
  have CP := C.ext E
  obtain ⟨ds,hd1,hd2⟩ := hdl
  have L : LW P kind last x c11 c32 c16 dl wh := ⟨CP.f11,CP.f32,CP.f16,⟨ds,E _ _ hd1,Rds.ext E _ _ hd2⟩,Rd.ext E _ _ hwh,k5,kl,ll,okk,okl,x14,xok⟩
  have f1' : P w1 = some (.list ([x.length].map fun (w : Nat) => D.int w)) := f1
  have f2' : P w2 = some (.list ((cs ++ [x.length]).map fun (w : Nat) => D.int w)) := by rw [f2,List.map_append]; rfl
  have f3' : P w3 = some (.list ((List.range' 1 x.length).map fun (w : Nat) => D.int w)) := by
    rw [f3]
    have := intsR_range x.length 1
    rw [← this]; rfl
  have g2 : Go x.length 0 (cs ++ [x.length]) := Go_sorted cs 0 (Nat.zero_le _) (fun w hw => ⟨Nat.zero_le _,hcs w hw⟩) hcp
  have g3 : Go x.length 0 (List.range' 1 x.length) := Go_range x.length 0 (by lia)
  have stnd : ∀ G',Ext P G' → stays P (.ref wo) G' := fun G' hE' => by show G' wo = P wo; rw [hE' _ _ fo,fo]
  refine ⟨stnd _ (Ext.refl _),way_turn L (Ext.refl _) f1' (by simp) ⟨Nat.zero_le _,Nat.le_refl _,rfl⟩ (by simp [put_v,bT]) (by simpa [put_v,put_c,cel_v,cel_c,bT,bF,Nat.reduceBEq] using h106) (by simpa [put_v,put_c,cel_v,cel_c,bT,bF,Nat.reduceBEq] using h109) h11 h32 h16 fun ρ1 P1 p109 p106 p11 p32 p16 hE1 => ?_⟩
  refine ⟨stnd _ hE1,way_turn L hE1 f2' (by simp; lia) g2 (by simp [put_v,bT]) (by simpa [put_v,put_c,cel_v,cel_c,bT,bF,Nat.reduceBEq] using p106) (by simpa [put_v,put_c,cel_v,cel_c,bT,bF,Nat.reduceBEq] using p109) p11 p32 p16 fun ρ2 P2 q109 q106 q11 q32 q16 hE2 => ?_⟩
  refine ⟨stnd _ hE2,way_turn L hE2 f3' (by simp; lia) g3 (by simp [put_v,bT]) (by simpa [put_v,put_c,cel_v,cel_c,bT,bF,Nat.reduceBEq] using q106) (by simpa [put_v,put_c,cel_v,cel_c,bT,bF,Nat.reduceBEq] using q109) q11 q32 q16 fun ρ3 P3 u_ u_ u_ u_ u_ hE3 => ?_⟩
  exact ⟨stnd _ hE3,hQ _ (hE3 _ _ CP.fa)⟩
end
end
end Mine
end
section
open PySem
namespace Mine
section
variable {P H : Hp} {n : Nat} {Q : K1}
variable {kind last x : List Nat} {a : Addr} {lo : PySem.Obj} {ns : List Int} {c11 c16 c32 : Addr}
private theorem law_C {ρ : Ev} {G : Hp} {O : AO} {ca : Addr} {cs : List Nat} (C : CS G a O c11 c16 c32 (some (.str x)) (some (.str last)) (some (.str kind)))
    (k5 : K5 kind) (kl : kind.length ≤ 50) (ll : last.length ≤ 50) (okk : okS kind) (okl : okS last) (x14 : x.length ≤ 14) (xok : ∀ c ∈ x,okC c)
    (hca : G ca = some (.list (cs.map fun (w : Nat) => D.int w))) (hcl : cs.length ≤ 10) (hcs : ∀ w ∈ cs,w ≤ x.length) (hcp : cs.Pairwise (· ≤ ·))
    (h104 : ρ.v 104 = some (.int x.length)) (h105 : ρ.v 105 = some (.ref ca)) (h11 : ρ.c 11 = some c11) (h32 : ρ.c 32 = some c32) (h16 : ρ.c 16 = some c16)
    (hQ : ∀ G',G' a = some O → Q (.bool true) G') :
    Ss.wp tbl (callP tbl (n + 6)) (.cons (.assign 109 (.comp ce_law_2 (.one 81) [11,16,32] (.range1 (.bin .add (.loc 104) (.int 1))))) (.cons (.assign 106 (.call (.glo 101) (.cons (.cel 11) (.cons (.cel 32) (.cons (.cel 16) (.cons (.bool true) (.nil))))))) (.cons (.for_ 103 (.list (.cons (.list (.cons (.loc 104) (.nil))) (.cons (.bin .add (.loc 105) (.list (.cons (.loc 104) (.nil)))) (.cons (.listOf (.range2 (.int 1) (.bin .add (.loc 104) (.int 1)))) (.nil))))) lp_law_1) (.cons (.ret (.bool true)) .nil)))) ρ
      (fC Q) G := by
  have e1 : ((x.length : Int) + 1) = ((x.length + 1 : Nat) : Int) := by lia
  have A := fun (ρ : Ev) (G : Hp) (dl wh : Addr) (C : CS G a O c11 c16 c32 (some (.str x)) (some (.str last)) (some (.str kind))) (hdl : ∃ ds,G dl = some (.list ds) ∧ Rds G ((List.range (x.length + 1)).map fun k => dueT (dueP kind last (x.take k) false)) ds) (hwh : Rd G (dueT (dueP kind last x true)) (.ref wh)) (hca : G ca = some (.list (cs.map fun (w : Nat) => D.int w)))
    (h104 : ρ.v 104 = some (.int x.length)) (h105 : ρ.v 105 = some (.ref ca)) (h106 : ρ.v 106 = some (.ref wh)) (h109 : ρ.v 109 = some (.ref dl)) (h11 : ρ.c 11 = some c11) (h32 : ρ.c 32 = some c32) (h16 : ρ.c 16 = some c16) =>
    law_D (n := n) (Q := Q) C hdl hwh k5 kl ll okk okl x14 xok hca hcl hcs hcp h104 h105 h106 h109 h11 h32 h16 hQ
  generalize ((.cons (.for_ 103 (.list (.cons (.list (.cons (.loc 104) (.nil))) (.cons (.bin .add (.loc 105) (.list (.cons (.loc 104) (.nil)))) (.cons (.listOf (.range2 (.int 1) (.bin .add (.loc 104) (.int 1)))) (.nil))))) lp_law_1) (.cons (.ret (.bool true)) .nil)) : Ss) = tl at A ⊢
  simp only [↓ss_cons,↓s_assign,↓x_int,↓x_loc,↓x_range1,↓x_bin,↓x_comp,↓f14e,↓f33e,↓f34e,↓f44e,b_add_ii,h104,e1,kOe,k33e]
  refine ⟨fun k hk => ?_,⟨by lia,by unfold big; lia⟩,fun r hr => ?_⟩
  · simp at hk
    rcases hk with rfl | rfl | rfl
    · rw [h11]; rfl
    · rw [h16]; rfl
    · rw [h32]; rfl
  simp only [itemsOf,set_self]
  rw [if_pos ⟨by lia,by unfold big; lia,by lia,by unfold big; lia⟩]
  simp only [↓x_cel,↓x_glo,↓f5e,↓x_call,↓xs_cons,↓f49e,↓s_assign,↓f59e,↓ss_cons,put_c,glo_101,kOe,k5e,k44e,fn_law_due]
  have E1 := Ext.set hr (O := .range 0 ((x.length + 1 : Nat) : Int))
  have C1 := C.ext E1
  have hrr : (G.set r (.range 0 ((x.length + 1 : Nat) : Int))) r = some (.range 0 ((x.length + 1 : Nat) : Int)) := set_self
  generalize G.set r (.range 0 ((x.length + 1 : Nat) : Int)) = G1 at E1 C1 hrr
  rw [show (((x.length + 1 : Nat) : Int) - 0).toNat = x.length + 1 by lia]
  refine ⟨by
    have : (intsR 0 (x.length + 1)).length = x.length + 1 := by
      have := intsR_range (x.length + 1) 0
      rw [show (0 : Int) = ((0 : Nat) : Int) from rfl,this]; simp
    rw [this]; unfold big; lia,?_⟩
  show compItems _ _ _ _ _ (intsR ((0 : Nat) : Int) (x.length + 1)) [] G1
  refine law_comp (n := n) (kind := kind) (last := last) (x := x) (c11 := c11) (c16 := c16) (c32 := c32) (G0 := G1) (by simp [Ev.onlyC,h11]) (by simp [Ev.onlyC,h16]) (by simp [Ev.onlyC,h32]) C1.f11 C1.f16 C1.f32 x14 kl (fun G' hE' => by show G' r = G1 r; rw [hE' _ _ hrr,hrr]) (x.length + 1) 0 [] G1 (Ext.refl _) .nil fun acc G2 E2 hacc => ?_
  intro dl hdl
  have E3 := Ext.set hdl (O := .list acc)
  have C3 := (C1.ext E2).ext E3
  have hdl3 : ∃ ds,(G2.set dl (.list acc)) dl = some (.list ds) ∧ Rds (G2.set dl (.list acc)) ((List.range (x.length + 1)).map fun k => dueT (dueP kind last (x.take k) false)) ds :=
    ⟨acc,set_self,Rds.ext E3 _ _ (by rw [Nat.zero_add] at hacc; exact hacc)⟩
  have hca3 := E3 _ _ (E2 _ _ (E1 _ _ hca))
  generalize G2.set dl (.list acc) = G3 at C3 hdl3 hca3
  simp only [h11,h32,h16,C3.f11,C3.f32,C3.f16,↓x_bool,↓x_cel,↓f2e,↓xs_nil,↓f45e,↓f46e,↓xs_cons,put_c,kc1e,kc2e]
  refine ldue_c (m := n + 2) (by lia) (by lia) fun d G4 E4 hd => ?_
  obtain ⟨wh,xs,rfl,_⟩ := hd.invT
  obtain ⟨ds,y1,y2⟩ := hdl3
  exact A _ G4 dl wh (C3.ext E4) ⟨ds,E4 _ _ y1,Rds.ext E4 _ _ y2⟩ hd (E4 _ _ hca3) (by simpa [put_v,put_c,cel_v,cel_c,bT,bF,Nat.reduceBEq] using h104) (by simpa [put_v,put_c,cel_v,cel_c,bT,bF,Nat.reduceBEq] using h105) (by simp [put_v,bT,bF,Nat.reduceBEq]) (by simp [put_v,bT,bF,Nat.reduceBEq]) h11 h32 h16
private theorem law_B {ρ : Ev} {G : Hp} (C : CS G a (.givn lo (ns.map .int)) c11 c16 c32 (some (.str x)) (some (.str last)) (some (.str kind))) (hl : ns.length ≤ 63)
    (k5 : K5 kind) (kl : kind.length ≤ 50) (ll : last.length ≤ 50) (okk : okS kind) (okl : okS last) (x14 : x.length ≤ 14) (xok : ∀ c ∈ x,okC c)
    (h79 : ρ.v 79 = some (.ref a)) (h11 : ρ.c 11 = some c11) (h32 : ρ.c 32 = some c32) (h16 : ρ.c 16 = some c16)
    (hQ : ∀ G',G' a = some (.givn lo (ns.map .int)) → Q (.bool true) G') :
    Ss.wp tbl (callP tbl (n + 6)) (.cons (.assign 104 (.len (.cel 11))) (.cons (.assign 112 (.call (.glo 86) (.cons (.loc 79) (.cons (.int 1) (.nil))))) (.cons (.assign 105 (.sorted (.list (.cons (.bin .mod (.bin .add (.loc 112) (.int 3)) (.bin .add (.loc 104) (.int 1))) (.cons (.bin .mod (.bin .add (.bin .fdiv (.loc 112) (.int 16)) (.int 7)) (.bin .add (.loc 104) (.int 1))) (.cons (.bin .mod (.bin .add (.bin .fdiv (.loc 112) (.int 256)) (.int 3)) (.bin .add (.loc 104) (.int 1))) (.nil))))))) (.cons (.assign 109 (.comp ce_law_2 (.one 81) [11,16,32] (.range1 (.bin .add (.loc 104) (.int 1))))) (.cons (.assign 106 (.call (.glo 101) (.cons (.cel 11) (.cons (.cel 32) (.cons (.cel 16) (.cons (.bool true) (.nil))))))) (.cons (.for_ 103 (.list (.cons (.list (.cons (.loc 104) (.nil))) (.cons (.bin .add (.loc 105) (.list (.cons (.loc 104) (.nil)))) (.cons (.listOf (.range2 (.int 1) (.bin .add (.loc 104) (.int 1)))) (.nil))))) lp_law_1) (.cons (.ret (.bool true)) .nil))))))) ρ
      (fC Q) G := by
  have A := fun (ρ : Ev) (G : Hp) (ca : Addr) (cs : List Nat) (C : CS G a (.givn lo (ns.map .int)) c11 c16 c32 (some (.str x)) (some (.str last)) (some (.str kind))) (hca : G ca = some (.list (cs.map fun (w : Nat) => D.int w))) (hcl : cs.length ≤ 10) (hcs : ∀ w ∈ cs,w ≤ x.length) (hcp : cs.Pairwise (· ≤ ·))
    (h104 : ρ.v 104 = some (.int x.length)) (h105 : ρ.v 105 = some (.ref ca)) (h11 : ρ.c 11 = some c11) (h32 : ρ.c 32 = some c32) (h16 : ρ.c 16 = some c16) =>
    law_C (n := n) (Q := Q) C k5 kl ll okk okl x14 xok hca hcl hcs hcp h104 h105 h11 h32 h16 hQ
  generalize ((.cons (.assign 109 (.comp ce_law_2 (.one 81) [11,16,32] (.range1 (.bin .add (.loc 104) (.int 1))))) (.cons (.assign 106 (.call (.glo 101) (.cons (.cel 11) (.cons (.cel 32) (.cons (.cel 16) (.cons (.bool true) (.nil))))))) (.cons (.for_ 103 (.list (.cons (.list (.cons (.loc 104) (.nil))) (.cons (.bin .add (.loc 105) (.list (.cons (.loc 104) (.nil)))) (.cons (.listOf (.range2 (.int 1) (.bin .add (.loc 104) (.int 1)))) (.nil))))) lp_law_1) (.cons (.ret (.bool true)) .nil)))) : Ss) = tl at A ⊢
  have e1 : ((x.length : Int) + 1) = ((x.length + 1 : Nat) : Int) := by lia
  have em : ∀ d : Int,binop .mod (.int d) (.int ((x.length + 1 : Nat) : Int)) = some (.int (d.fmod ((x.length + 1 : Nat) : Int))) := fun d => by
    rw [b_mod_ii,if_pos ⟨by lia,by lia⟩]
  have ef : ∀ d k : Int,0 < k → k.toNat < 2000000 → binop .fdiv (.int d) (.int k) = some (.int (d.fdiv k)) := fun d k h1 h2 => by
    rw [b_fdiv_ii,if_pos ⟨h1,h2⟩]
  have rng : ∀ d : Int,0 ≤ d.fmod ((x.length + 1 : Nat) : Int) ∧ d.fmod ((x.length + 1 : Nat) : Int) ≤ x.length := fun d => by
    have h1 := Int.fmod_nonneg_of_pos d (b := ((x.length + 1 : Nat) : Int)) (by lia)
    have h2 := Int.fmod_lt_of_pos d (b := ((x.length + 1 : Nat) : Int)) (by lia)
    lia
  simp only [↓ss_cons,↓s_assign,↓x_loc,↓x_cel,↓x_glo,↓x_call,↓x_len,↓f5e,↓f8e,↓f49e,↓f59e,↓xs_cons,h11,C.f11,glo_86,fn_law_digit,kOe,kc1e,kc2e,k5e,put_v,bF,Nat.reduceBEq]
  refine ⟨by unfold big; lia,?_⟩
  simp only [h79,↓x_int,↓f2e,↓xs_nil,↓f45e,↓f46e,↓xs_cons,kOe]
  refine digit_c (k := 1) C.fa hl (by lia) ?_
  generalize digitP ns 1 = ct
  simp only [↓ss_cons,↓s_assign,↓x_int,↓x_loc,↓x_sorted,↓x_bin,↓x_list,↓f11e,↓f33e,↓f34e,↓f41e,↓f45e,↓f46e,↓f49e,↓f59e,↓xs_nil,↓xs_cons,put_v,bT,bF,Nat.reduceBEq,b_add_ii,e1,em,ef ct 16 (by lia) (by decide),ef ct 256 (by lia) (by decide),kOe,k33e]
  have r1 := rng (ct + 3)
  have r2 := rng (ct.fdiv 16 + 7)
  have r3 := rng (ct.fdiv 256 + 3)
  generalize (ct + 3).fmod ((x.length + 1 : Nat) : Int) = q1 at r1
  generalize (ct.fdiv 16 + 7).fmod ((x.length + 1 : Nat) : Int) = q2 at r2
  generalize (ct.fdiv 256 + 3).fmod ((x.length + 1 : Nat) : Int) = q3 at r3
  refine ⟨by simp [big],fun l hl' => ?_⟩
  simp only [set_self,intsOf,Option.map_some,↓f49e,↓f59e,k11e,k11be]
  refine ⟨by simp,fun ca ss hca hp hs => ?_⟩
  have E := (Ext.set hl' (O := .list [.int q1,.int q2,.int q3])).trans (Ext.set hca (O := .list (ss.map .int)))
  have hca2 : ((G.set l (.list [.int q1,.int q2,.int q3])).set ca (.list (ss.map .int))) ca = some (.list (ss.map .int)) := set_self
  generalize (G.set l (.list [.int q1,.int q2,.int q3])).set ca (.list (ss.map .int)) = G2 at E hca2
  have mem : ∀ s ∈ ss,0 ≤ s ∧ s ≤ x.length := fun s hs' => by
    have := hp.mem_iff.mp hs'
    simp only [List.mem_cons,List.not_mem_nil,or_false] at this
    rcases this with rfl | rfl | rfl <;> assumption
  have hlen : ss.length = 3 := by simpa using hp.length_eq
  have back : (ss.map Int.toNat).map (fun (w : Nat) => D.int w) = ss.map .int := by
    rw [List.map_map]
    refine List.map_congr_left fun s hs' => ?_
    have := (mem s hs').1
    simp only [Function.comp]
    congr 1; lia
  refine A _ G2 ca (ss.map Int.toNat) (C.ext E) (by rw [back]; exact hca2) (by rw [List.length_map,hlen]; lia) (fun w hw => ?_) (List.pairwise_map.mpr (hs.imp_of_mem fun h1 h2 h => by have := (mem _ h1).1; have := (mem _ h2).1; lia)) (by simp) (by simp) h11 h32 h16
  obtain ⟨s,hs',rfl⟩ := List.mem_map.mp hw
  have := mem s hs'
  lia
noncomputable def kindsL : List (List Nat) := [[100,97,116,97],[82,67,68,65,84,65],[82,65,87,84,69,88,84],[115,99,114,105,112,116,32,100,97,116,97],[80,76,65,73,78,84,69,88,84]]
noncomputable def lastsL : List (List Nat) := [[116,97],[97],[116,97,122],[]]
private theorem kinds_ok : ∀ k ∈ kindsL,K5 k ∧ k.length ≤ 50 ∧ okS k := by
  intro k hk
  simp only [kindsL,List.mem_cons,List.not_mem_nil,or_false] at hk
  rcases hk with rfl | rfl | rfl | rfl | rfl
  · exact ⟨.inl rfl,by decide,okS_lit (by decide)⟩
  · exact ⟨.inr (.inr (.inl rfl)),by decide,okS_lit (by decide)⟩
  · exact ⟨.inr (.inr (.inr (.inl rfl))),by decide,okS_lit (by decide)⟩
  · exact ⟨.inr (.inr (.inr (.inr rfl))),by decide,okS_lit (by decide)⟩
  · exact ⟨.inr (.inl rfl),by decide,okS_lit (by decide)⟩
private theorem lasts_ok : ∀ k ∈ lastsL,k.length ≤ 50 ∧ okS k := by
  intro k hk
  simp only [lastsL,List.mem_cons,List.not_mem_nil,or_false] at hk
  rcases hk with rfl | rfl | rfl | rfl <;> exact ⟨by decide,okS_lit (by decide)⟩
private theorem sub_strs {G : Hp} {l : Addr} {L : List (List Nat)} {i : Int} (hG : G l = some (.list (L.map .str))) (h0 : 0 ≤ i) (h1 : i < L.length) (hL : L.length ≤ 10) : ∃ s ∈ L,subs G (.ref l) (.int i) = some (.str s) := by
  obtain ⟨s,hs⟩ : ∃ s,L[i.toNat]? = some s := ⟨_,List.getElem?_eq_getElem (by lia)⟩
  refine ⟨s,List.mem_of_getElem? hs,?_⟩
  simp only [subs,hG]
  rw [if_pos ⟨h0,by unfold big; lia⟩]
  simp [hs]
private theorem law_A {ρ : Ev} {G : Hp} (C : CS G a (.givn lo (ns.map .int)) c11 c16 c32 none none none) (hl : ns.length ≤ 63)
    (h79 : ρ.v 79 = some (.ref a)) (h11 : ρ.c 11 = some c11) (h32 : ρ.c 32 = some c32) (h16 : ρ.c 16 = some c16)
    (hQ : ∀ G',G' a = some (.givn lo (ns.map .int)) → Q (.bool true) G') :
    Ss.wp tbl (callP tbl (n + 6)) b_law ρ
      (fC Q) G := by
  have A := fun (kind last x : List Nat) (ρ : Ev) (G : Hp) (C : CS G a (.givn lo (ns.map .int)) c11 c16 c32 (some (.str x)) (some (.str last)) (some (.str kind))) (k5 : K5 kind) (kl : kind.length ≤ 50) (ll : last.length ≤ 50) (okk : okS kind) (okl : okS last) (x14 : x.length ≤ 14) (xok : ∀ c ∈ x,okC c)
    (h79 : ρ.v 79 = some (.ref a)) (h11 : ρ.c 11 = some c11) (h32 : ρ.c 32 = some c32) (h16 : ρ.c 16 = some c16) =>
    law_B (n := n) (Q := Q) C hl k5 kl ll okk okl x14 xok h79 h11 h32 h16 hQ
  unfold b_law
  generalize ((.cons (.assign 104 (.len (.cel 11))) (.cons (.assign 112 (.call (.glo 86) (.cons (.loc 79) (.cons (.int 1) (.nil))))) (.cons (.assign 105 (.sorted (.list (.cons (.bin .mod (.bin .add (.loc 112) (.int 3)) (.bin .add (.loc 104) (.int 1))) (.cons (.bin .mod (.bin .add (.bin .fdiv (.loc 112) (.int 16)) (.int 7)) (.bin .add (.loc 104) (.int 1))) (.cons (.bin .mod (.bin .add (.bin .fdiv (.loc 112) (.int 256)) (.int 3)) (.bin .add (.loc 104) (.int 1))) (.nil))))))) (.cons (.assign 109 (.comp ce_law_2 (.one 81) [11,16,32] (.range1 (.bin .add (.loc 104) (.int 1))))) (.cons (.assign 106 (.call (.glo 101) (.cons (.cel 11) (.cons (.cel 32) (.cons (.cel 16) (.cons (.bool true) (.nil))))))) (.cons (.for_ 103 (.list (.cons (.list (.cons (.loc 104) (.nil))) (.cons (.bin .add (.loc 105) (.list (.cons (.loc 104) (.nil)))) (.cons (.listOf (.range2 (.int 1) (.bin .add (.loc 104) (.int 1)))) (.nil))))) lp_law_1) (.cons (.ret (.bool true)) .nil))))))) : Ss) = tl at A ⊢
  have m5 : ∀ d : Int,binop .mod (.int d) (.int 5) = some (.int (d.fmod 5)) := fun d => by rw [b_mod_ii,if_pos (by decide)]
  have m4 : ∀ d : Int,binop .mod (.int d) (.int 4) = some (.int (d.fmod 4)) := fun d => by rw [b_mod_ii,if_pos (by decide)]
  have f5 : ∀ d : Int,binop .fdiv (.int d) (.int 5) = some (.int (d.fdiv 5)) := fun d => by rw [b_fdiv_ii,if_pos (by decide)]
  simp only [↓ss_cons,↓s_assign,↓x_int,↓x_loc,↓x_glo,↓x_call,↓f2e,↓f5e,↓f45e,↓f46e,↓xs_nil,↓xs_cons,glo_86,fn_law_digit,h79,kOe,k5e]
  refine digit_c (k := 0) C.fa hl (by lia) ?_
  generalize digitP ns 0 = dg
  simp only [↓ss_cons,↓s_assignC,↓x_int,↓x_str,↓x_loc,↓x_bin,↓x_sub,↓x_list,↓f33e,↓f34e,↓f36e,↓f37e,↓f41e,↓f45e,↓f46e,↓f49e,↓f59e,↓xs_nil,↓xs_cons,put_v,bT,Nat.reduceBEq,b_add_ii,m5,kOe,k33e]
  refine ⟨by simp [big],fun l1 hl1 => ?_⟩
  have E1 := Ext.set hl1 (O := .list [.str [100,97,116,97],.str [82,67,68,65,84,65],.str [82,65,87,84,69,88,84],.str [115,99,114,105,112,116,32,100,97,116,97],.str [80,76,65,73,78,84,69,88,84]])
  have hl1' : (G.set l1 (.list [.str [100,97,116,97],.str [82,67,68,65,84,65],.str [82,65,87,84,69,88,84],.str [115,99,114,105,112,116,32,100,97,116,97],.str [80,76,65,73,78,84,69,88,84]])) l1 = some (.list (kindsL.map .str)) := set_self
  have C1 := C.ext E1
  generalize G.set l1 (.list [.str [100,97,116,97],.str [82,67,68,65,84,65],.str [82,65,87,84,69,88,84],.str [115,99,114,105,112,116,32,100,97,116,97],.str [80,76,65,73,78,84,69,88,84]]) = G1 at hl1' C1
  obtain ⟨kind,hk,ek⟩ := sub_strs hl1' (Int.fmod_nonneg_of_pos (dg + 1) (b := 5) (by lia)) (Int.fmod_lt_of_pos (dg + 1) (b := 5) (by lia)) (by decide)
  simp only [ek,h32,C1.f32,↓x_int,↓x_str,↓x_loc,↓f33e,↓f34e,↓x_bin,↓f37e,↓x_sub,↓f41e,↓x_list,↓xs_nil,↓f45e,↓f46e,↓xs_cons,↓f50e,↓s_assignC,↓f59e,↓ss_cons,put_v,put_c,bT,Nat.reduceBEq,kOe,k50e,k50be]
  have C2 := C1.s32 (d := some (.str kind))
  generalize G1.set c32 (.cell (some (.str kind))) = G2 at C2
  simp only [f5,m4,↓x_int,↓f33e,↓f34e,↓f36e,k33e]
  refine ⟨by simp [big],fun l2 hl2 => ?_⟩
  have E3 := Ext.set hl2 (O := .list [.str [116,97],.str [97],.str [116,97,122],.str []])
  have hl2' : (G2.set l2 (.list [.str [116,97],.str [97],.str [116,97,122],.str []])) l2 = some (.list (lastsL.map .str)) := set_self
  have C3 := C2.ext E3
  generalize G2.set l2 (.list [.str [116,97],.str [97],.str [116,97,122],.str []]) = G3 at hl2' C3
  obtain ⟨last,hla,el⟩ := sub_strs hl2' (Int.fmod_nonneg_of_pos (dg.fdiv 5) (b := 4) (by lia)) (Int.fmod_lt_of_pos (dg.fdiv 5) (b := 4) (by lia)) (by decide)
  simp only [el,h16,C3.f16,h79,↓x_loc,↓x_glo,↓f2e,↓f5e,↓x_call,↓xs_nil,↓f45e,↓f46e,↓xs_cons,↓f50e,↓s_assignC,↓f59e,↓ss_cons,put_v,put_c,bF,Nat.reduceBEq,glo_113,kOe,k5e,k50e,k50be,fn_law_text]
  have C4 := C3.s16 (d := some (.str last))
  generalize G3.set c16 (.cell (some (.str last))) = G4 at C4
  skip
  refine ltext_c C4.fa hl fun x G5 E5 x14 xok => ?_
  have C5 := C4.ext E5
  simp only [↓f50e,↓f59e,h11,C5.f11,k50e,k50be,put_c]
  obtain ⟨k1,k2,k3⟩ := kinds_ok kind hk
  obtain ⟨l1,l2⟩ := lasts_ok last hla
  exact A kind last x _ _ C5.s11 k1 k2 l1 k3 l2 x14 xok (by simpa using h79) h11 h32 h16
private theorem law_run {m : Nat} (hl : ns.length ≤ 63) (hQ : ∀ G',G' a = some (.givn lo (ns.map .int)) → Q (.bool true) G') (hH : H a = some (.givn lo (ns.map .int))) :
    enter fd_law.cells (Ev.empty.put 79 (.ref a)) H (fun ρ H => fd_law.body.wp tbl (callP tbl (m + 6)) ρ (fC Q) H) := by
  simp only [fd_law,en0,en1]
  intro c1 h1 c2 h2 c3 h3
  have n1 := ne_fresh hH h1
  have n12 : c1 ≠ c2 := ne_fresh set_self h2
  have n2 : a ≠ c2 := ne_fresh ((set_ne n1).trans hH) h2
  have n13 : c1 ≠ c3 := ne_fresh ((set_ne n12).trans set_self) h3
  have n23 : c2 ≠ c3 := ne_fresh set_self h3
  have n3 : a ≠ c3 := ne_fresh ((set_ne n2).trans ((set_ne n1).trans hH)) h3
  refine law_A (c11 := c1) (c16 := c2) (c32 := c3) ⟨?_,?_,?_,set_self,n12,n13,n23,n1,n2,n3⟩ hl (by simp [Ev.cel]) (by simp [Ev.cel]) (by simp [Ev.cel]) (by simp [Ev.cel]) hQ
  · rw [set_ne n3,set_ne n2,set_ne n1]; exact hH
  · rw [set_ne n13,set_ne n12,set_self]
  · rw [set_ne n23,set_self]
end
end Mine
end
section
open PySem PySem.W PyProof.Rows
namespace Mine
private theorem vrs_of : ∀ {vs : List Value} {ns : List Int},IntsAre vs ns → VRs vs (ns.map .int)
  | _,_,.nil => rfl
  | _,_,.cons n t h => .mk rfl (vrs_of h)
private theorem mem_lk {b : Addr} {o : Obj} : ∀ {K : Frag},K.lookup b = some o → (b,o) ∈ K
  | [],h => by cases h
  | (x,y) :: K,h => by
    rw [List.lookup_cons] at h
    split at h
    · rename_i q; cases h; rw [beq_iff_eq.mp q]; exact .head _
    · exact .tail _ (mem_lk h)
noncomputable def frz (o : Obj) : Obj := { o with data := .freed }
private theorem frz_none (h : Heap) (a : Addr) : (h.update a frz).get? a = none := by
  unfold Heap.update Heap.get?
  simp only [Array.getElem?_modify,if_true]
  cases h.objs[a]? with
  | none => rfl
  | some o => rfl
private theorem walk_ok {w : World} {s₁ : Shared} {a fa : Addr} {vs : List Value} {ns : List Int} {K : Frag} {mg mb : Str → Option Value} {RR : Result → Shared → Prop} (hK : K.In s₁.heap) (hc : chk K = true)
    (hg : s₁.heap.Ns mainGlobals mg) (hb : s₁.heap.Ns builtinsNs mb) (lim : s₁.heap.NoLimit) (boot : ∀ x : Str,x ≠ "__name__" → mb x = bootBuiltins x) (hmg : mg "law" = some (.ref fa))
    (hL : s₁.heap.IsList a vs.toArray) (hI : IntsAre vs ns) (hn : ns.length ≤ 63)
    (k : ∀ s',(∀ b o,s₁.heap.get? b = some o → s'.heap.get? b = some o) → s'.os = s₁.os → s'.gens = s₁.gens → RR (.ok (.ret (.bool true))) s') :
    codeAny (model pw w) callerA (.call (.ref fa) ⟨[.ref a],[]⟩) RR s₁ := by
  have hc' := hc
  simp only [chk,Bool.and_eq_true] at hc'
  obtain ⟨⟨⟨⟨⟨⟨⟨⟨h8,h0⟩,h1⟩,h2⟩,h3⟩,h4⟩,h5⟩,h6⟩,h7⟩ := hc'
  simp only [chk0,Bool.and_eq_true] at h0
  obtain rfl : fa = 595 := by
    have := mg_of hK hg (eqv_spec h0.1)
    rw [hmg] at this
    injection this with this
    injection this
  obtain ⟨lo,ho,hcl,m,hd⟩ := hL
  have sb := Heap.SameBut.update s₁.heap a frz
  have na : ∀ {b : Addr} {o : Obj},s₁.heap.get? b = some o → o.data ≠ lo.data → b ≠ a := fun e q => by rintro rfl; rw [ho] at e; cases e; exact q rfl
  have nsne : ∀ {b : Addr} {mm : Str → Option Value},s₁.heap.Ns b mm → b ≠ a := fun x => by
    obtain ⟨o,es,ep,e,e2,_⟩ := x
    exact na e (by rw [e2,hd]; nofun)
  have h01 : ∀ b o,(s₁.heap.update a frz).get? b = some o → s₁.heap.get? b = some o := fun b o e => by
    have : b ≠ a := by rintro rfl; rw [frz_none] at e; cases e
    rw [← sb.2 b this]; exact e
  have hKn : ∀ b o,K.lookup b = some o → b ≠ a := fun b o e => by
    rintro rfl
    have e2 := hK _ _ e
    rw [ho] at e2; cases e2
    have := List.all_eq_true.mp h7 _ (mem_lk e)
    simp only [hd,hcl] at this
    exact absurd this (by decide)
  have hK0 : K.In (s₁.heap.update a frz) := fun b o e => by
    rw [sb.2 b (hKn b o e)]; exact hK _ _ e
  let c : Cx := { prog := pw,w := w,K := K,T := tbl,nm := nm,h₀ := s₁.heap.update a frz,mg := mg,mb := mb,os := s₁.os,gens := s₁.gens,inj := nm_inj }
  have S : St c := st_of (c := c) rfl rfl hK0 (hg.sameBut sb (nsne hg)) (hb.sameBut sb (nsne hb)) (lim.sameBut sb (by
    obtain ⟨mc,x,_⟩ := lim
    exact nsne x)) (by
    obtain ⟨o,e⟩ := Option.isSome_iff_exists.mp h0.2
    exact ⟨o,hK0 _ _ e⟩) boot hc
  have F : Fns c := fns_of (c := c) rfl rfl hK0 h5
  have EX : Exk c := exk_of (c := c) rfl rfl hK0 h8 h5
  have h9 : fnChk K 595 fd_law = true := by
    simp only [chk8,Bool.and_eq_true] at h8
    exact h8.2
  obtain ⟨fdata,o,body,FO⟩ := fnOk_of (c := c) rfl hK0 h9
  have L := law_run (m := 24) (a := a) (lo := lo) (ns := ns) (Q := fun d H' => d = .bool true ∧ H' a = some (.givn lo (ns.map .int))) (H := Hp.one a (.givn lo (ns.map .int))) hn (fun G' h => ⟨rfl,h⟩) (by unfold Hp.one; rw [if_pos rfl])
  exact top_ok (c := c) (n := 30) S FO (by decide) (Ss_all S EX (callP_snd S EX F 30) _) ⟨rfl,by decide,by decide⟩ rfl (by decide) rfl L (vrs_of hI) hcl hd ho (frz_none _ _) h01 (fun b o q e => by
      show (s₁.heap.update a frz).get? b = some o
      rw [sb.2 b q]; exact e) rfl rfl (fun d H' h => h) k
end Mine
end
open PySem PySem.W PyProof.Rows
set_option maxRecDepth 100000
open Mine
set_option maxHeartbeats 4000000 in
theorem PySem.Challenge.cw_nt0606_01_holds : PySem.Challenge.rw_nt0606_01.Holds := by
  w_on
  refine holds_law (by decide +kernel) fun said => ?_
  refine holds_open (r := rw_nt0606_01.row) (q := qv) (loose := looseC) (Xt := fun u_ => true) (XP := fun u_ u_ => True) (Yf := fun s => chk (fragOf addrL s.heap.get?)) (Ya := fun u_ => true)
    (YP := fun u_ h => ∃ K : Frag,K.In h ∧ chk K = true) (N := 3500) Mine.left (fun w s e => ⟨_,fragOf_in addrL s.heap,e⟩) (fun w h h' Y k => let ⟨K,a,b⟩ := Y; ⟨K,a.keeps k,b⟩) (fun u_ u_ => trivial) (fun u_ u_ u_ u_ u_ => trivial) (by rfl) (by rfl) (by rfl) ?hRf ?hwr (by first | assumption | decide +kernel) (by decide +kernel) ⟨rfl,rfl,rfl,rfl,rfl,by decide +kernel⟩ ?hw ?hc
  case hRf => exact fun s e => recFacts_of (s := s) (by rfl)
  case hwr => rfl
  case hw => w_witness2
  case hc =>
    intro w s₀ s₁ mg mb G Y fa o pm cd doc dV kV ho hd hcd hD hmg hg args vals as hpre hlay hrd hwl hlo
    clear ho hd hcd hD
    wrow_args hpre hlay hrd hwl hlo
    rename_i ns _ _ _ _ _ _ _ a vs _ hL _ _ _ hI _ hn _
    obtain ⟨K,hK,hc⟩ := Y
    refine enter_call ?_
    refine walk_ok hK hc G.T.g G.T.b G.T.nolimit G.T.builtins hmg hL hI (by omega) fun s' k1 k2 k3 => GoodW.toG ?_
    have hpost : rw_nt0606_01.row.claim.post [ofPy (PyData.list (List.map PyData.int ns))] (.bool true) [ofPy (PyData.list (List.map PyData.int ns))] = true := by kernel_rfl
    exact ⟨.inl ⟨_,.bool true,[],rfl,fun u_ => rfl,.bool _,hpost,fun u_ => ⟨.nil,fun u_ h => nomatch h⟩⟩,k1,k2,k3.trans hg⟩
